import PyProof.Rows.All
import Wide.All
import OpenK.AllK
import Wide.FinOn
import HandS.ForMost
import HandS.Flow
import KE.SortData
import HandS.Text
import HandS.Exc
import HandS.ExcOwn
import HandS.WordsExc
import HandS.Slots
import HandS.Star
import HandS.Property
import HandS.Zip
import HandS.IsInst
import HandS.WideBits
import HandS.Wide
import HandS.Conv
import HandS.RaiseMore
import HandS.TupAny
import HandS.Deep
import HandS.TupLen
import HandS.SlotsOwn
import HandS.MakeKwOnly
import HandS.Comp
import HandS.Iter
import HandS.Style
import HandS.TryOnly
import HandS.Small
import KE.KDictSum
import PyProof.TupleOfGen
import HandS.DictComp
import PyProof.ReprRoads
import HandS.Defaults
import KE.KItemsList
import PyProof.ZipIter
import HandS.TupSets
import HandS.SetFor
import HandS.SetKeys
import KE.KStateDown
import HandS.Head0
import HandS.Head1
import HandS.Head2
import HandS.HeadEnd
import HandS.HeadHook1
import HandS.HeadHook2
import KE.OsArith
import KE.IntBitsLaws
import PyProof.Rows.StrJoinMade
import PyProof.ReprLen
import PySem.Challenge.RW_lastcame_k52_what_is_put_to_seen
set_option Elab.async false
set_option linter.all false
set_option maxRecDepth 100000
/- Tr0 -/
/-! Tr, part 0: values as trees; what a def does, as a plain function over such trees. -/
namespace Tr
open PySem L2

/-- a value as a tree -/
inductive D where
  | non | bl (b : Bool) | int (i : Int) | str (x : Str)
  | tup (ds : List D) | lst (ds : List D)
  | dK (kvs : List (Key × D)) | dT (kvs : List (List Key × D))
  | obj (c : Nat) (fs : List D)

/-- a part of an object of one's own: not stored yet; a tree; a dict of one's own -/
inductive FV where
  | no | val (d : D) | dK (kvs : List (Key × D)) | dT (kvs : List (List Key × D))

/-- what a name holds: nothing; a tree; a list of one's own; an instance of one's own -/
inductive SV where
  | no | val (d : D) | ol (ds : List D) | oi (c : Nat) (fs : List FV)

abbrev Env := List SV

inductive R (α : Type) where
  | ok (a : α) (ρ : Env) | exc (c : Nat) (d : D) (ρ : Env) | bad

inductive RF where
  | ok (d : D) (out : SV) | exc (c : Nat) (d : D) (out : SV) | bad

def bnd {α β : Type} : R α → (α → Env → R β) → R β
  | .ok a ρ, k => k a ρ
  | .exc c d ρ, _ => .exc c d ρ
  | .bad, _ => .bad
@[simp] theorem bnd_ok {α β : Type} (a : α) (ρ : Env) (k : α → Env → R β) : bnd (.ok a ρ) k = k a ρ := rfl
@[simp] theorem bnd_exc {α β : Type} (c : Nat) (d : D) (ρ : Env) (k : α → Env → R β) : bnd (.exc c d ρ : R α) k = .exc c d ρ := rfl
@[simp] theorem bnd_bad {α β : Type} (k : α → Env → R β) : bnd (.bad : R α) k = .bad := rfl

theorem bnd_assoc {α β γ : Type} (r : R α) (k : α → Env → R β) (l : β → Env → R γ) : bnd (bnd r k) l = bnd r fun a ρ => bnd (k a ρ) l := by cases r <;> rfl

def optR {α : Type} (o : Option α) (ρ : Env) : R α := match o with
  | some a => .ok a ρ
  | none => .bad
@[simp] theorem optR_some {α : Type} (a : α) (ρ : Env) : optR (some a) ρ = .ok a ρ := rfl
@[simp] theorem optR_none {α : Type} (ρ : Env) : optR (none : Option α) ρ = .bad := rfl

def SV.isOwn : SV → Bool
  | .ol _ => true
  | .oi _ _ => true
  | _ => false
def keepOwn : Option SV → SV
  | some (.ol ds) => .ol ds
  | some (.oi c fs) => .oi c fs
  | _ => .no

abbrev EM := Env → R D
abbrev TM := Env → R Bool
abbrev LM := Env → R (List D)
abbrev SM := Env → R (Option D)
abbrev Fn := List SV → RF

/-- how a body ends -/
def endOf : R (Option D) → RF
  | .ok (some d) ρ => .ok d (keepOwn ρ[0]?)
  | .ok none ρ => .ok .non (keepOwn ρ[0]?)
  | .exc c d ρ => .exc c d (keepOwn ρ[0]?)
  | .bad => .bad
/-- a def of n names, of them p parameters -/
def fnOf (p n : Nat) (body : SM) : Fn := fun ss => if ss.length = p then endOf (body (ss ++ List.replicate (n - p) .no)) else .bad

/-! ### expressions -/
def eV (i : Nat) : EM := fun ρ => match ρ[i]? with
  | some (.val d) => .ok d ρ
  | _ => .bad
def eC (d : D) : EM := fun ρ => .ok d ρ
def eOp (f : D → D → Option D) (a b : EM) : EM := fun ρ => bnd (a ρ) fun x ρ => bnd (b ρ) fun y ρ => optR (f x y) ρ
def eUn (f : D → Option D) (a : EM) : EM := fun ρ => bnd (a ρ) fun x ρ => optR (f x) ρ
def asB : D → Option Bool
  | .bl b => some b
  | _ => none
/-- a and b, a or b: bools -/
def eAnd (a b : EM) : EM := fun ρ => bnd (a ρ) fun x ρ => match x with
  | .bl true => b ρ
  | .bl false => .ok (.bl false) ρ
  | _ => .bad
def eOr (a b : EM) : EM := fun ρ => bnd (a ρ) fun x ρ => match x with
  | .bl true => .ok (.bl true) ρ
  | .bl false => b ρ
  | _ => .bad
def eNot (a : EM) : EM := fun ρ => bnd (a ρ) fun x ρ => match x with
  | .bl b => .ok (.bl (!b)) ρ
  | _ => .bad
def eIf (c : TM) (a b : EM) : EM := fun ρ => bnd (c ρ) fun k ρ => if k = true then a ρ else b ρ
/-- a < b < c -/
def eChain (f g : D → D → Option D) (a b c : EM) : EM := fun ρ => bnd (a ρ) fun x ρ => bnd (b ρ) fun y ρ => bnd (optR (f x y) ρ) fun z ρ => match z with
  | .bl true => bnd (c ρ) fun w ρ => optR (g y w) ρ
  | .bl false => .ok (.bl false) ρ
  | _ => .bad
/-- tests -/
def tE (a : EM) : TM := fun ρ => bnd (a ρ) fun x ρ => optR (asB x) ρ
def tAndM (a b : TM) : TM := fun ρ => bnd (a ρ) fun k ρ => if k = true then b ρ else .ok false ρ
def tOrM (a b : TM) : TM := fun ρ => bnd (a ρ) fun k ρ => if k = true then .ok true ρ else b ρ
def tNotM (a : TM) : TM := fun ρ => bnd (a ρ) fun k ρ => .ok (!k) ρ
/-- lists of arguments -/
def lNil : LM := fun ρ => .ok [] ρ
def lCons (a : EM) (l : LM) : LM := fun ρ => bnd (a ρ) fun x ρ => bnd (l ρ) fun xs ρ => .ok (x :: xs) ρ
/-- a star: the items of a list or tuple -/
def items : D → Option (List D)
  | .tup ds => some ds
  | .lst ds => some ds
  | _ => none
def lStar (a : EM) (l : LM) : LM := fun ρ => bnd (a ρ) fun x ρ => bnd (optR (items x) ρ) fun xs ρ => bnd (l ρ) fun ys ρ => .ok (xs ++ ys) ρ
/-- more items than this no list here has -/
def cap : Nat := 1000000
theorem cap_le : cap ≤ PySem.sizeLine := by decide
def capped {α : Type} (xs : List D) (ρ : Env) (k : R α) : R α := if xs.length ≤ cap then k else .bad
def eTup (l : LM) : EM := fun ρ => bnd (l ρ) fun xs ρ => capped xs ρ (.ok (.tup xs) ρ)
def eLst (l : LM) : EM := fun ρ => bnd (l ρ) fun xs ρ => capped xs ρ (.ok (.lst xs) ρ)
/-- a built-in, by values -/
def eB (f : List D → Option D) (l : LM) : EM := fun ρ => bnd (l ρ) fun xs ρ => optR (f xs) ρ
/-- a def called -/
def ofRF (ρ : Env) : RF → R D
  | .ok d _ => .ok d ρ
  | .exc c d _ => .exc c d ρ
  | .bad => .bad
def eCall (f : Fn) (l : LM) : EM := fun ρ => bnd (l ρ) fun xs ρ => ofRF ρ (f (xs.map .val))
/-- a def called upon something of one's own (the name in slot i) -/
def ofRFo (i : Nat) (ρ : Env) : RF → R D
  | .ok d out => .ok d (ρ.set i out)
  | .exc c d out => .exc c d (ρ.set i out)
  | .bad => .bad
/-- slot i holds something of one's own -/
def ownAt (i : Nat) (ρ : Env) : Bool := match ρ[i]? with
  | some s => s.isOwn
  | none => false
def callO (f : Fn) (i : Nat) (ρ : Env) (xs : List D) : R D := match ρ[i]? with
  | some (.ol ds) => ofRFo i ρ (f (.ol ds :: xs.map .val))
  | some (.oi c fs) => ofRFo i ρ (f (.oi c fs :: xs.map .val))
  | _ => .bad
def eCallO (f : Fn) (i : Nat) (l : LM) : EM := fun ρ => if ownAt i ρ = true then bnd (l ρ) fun xs ρ => callO f i ρ xs else .bad
/-- a new instance, as a tree -/
def frz1 : FV → Option D
  | .val d => some d
  | .dK kvs => some (.dK kvs)
  | .dT kvs => some (.dT kvs)
  | .no => none
def ofMake (ρ : Env) : RF → R D
  | .ok .non (.oi c fs) => optR ((fs.mapM frz1).map (.obj c)) ρ
  | .ok _ _ => .bad
  | .exc c d _ => .exc c d ρ
  | .bad => .bad
def eMake (c : Nat) (f : Fn) (l : LM) : EM := fun ρ => bnd (l ρ) fun xs ρ => ofMake ρ (f (.oi c [] :: xs.map .val))
/-- a field of an instance -/
def fldOf (c j : Nat) : D → Option D
  | .obj c' fs => if c' = c then fs[j]? else none
  | _ => none
/-- .. of an instance of one's own -/
def eFldO (i c j : Nat) : EM := fun ρ => match ρ[i]? with
  | some (.oi c' fs) => if c' = c then (match fs[j]? with
    | some (.val d) => .ok d ρ
    | _ => .bad) else .bad
  | _ => .bad

/-! ### comprehensions: over the items, the turn's test and element -/
def compL (turn : D → Env → R (Option D)) : List D → Env → R (List D)
  | [], ρ => .ok [] ρ
  | x :: xs, ρ => bnd (turn x ρ) fun o ρ => bnd (compL turn xs ρ) fun ys ρ => .ok (o.toList ++ ys) ρ

/-! ### statements -/
def sNil : SM := fun ρ => .ok none ρ
def sCons (a b : SM) : SM := fun ρ => bnd (a ρ) fun o ρ => match o with
  | none => b ρ
  | some d => .ok (some d) ρ
def sExpr (a : EM) : SM := fun ρ => bnd (a ρ) fun _ ρ => .ok none ρ
def sRet (a : EM) : SM := fun ρ => bnd (a ρ) fun d ρ => .ok (some d) ρ
def sRetN : SM := fun ρ => .ok (some .non) ρ
def sIf (c : TM) (a b : SM) : SM := fun ρ => bnd (c ρ) fun k ρ => if k = true then a ρ else b ρ
def sSet (i : Nat) (a : EM) : SM := fun ρ => bnd (a ρ) fun d ρ => .ok none (ρ.set i (.val d))
end Tr
namespace Tr
open PySem L2
/-! ### calls of methods, properties, special methods -/
def isObj (c : Nat) : D → Bool
  | .obj c' _ => c' == c
  | _ => false
/-- a method of a tree -/
def eMeth (c : Nat) (f : Fn) (o : EM) (l : LM) : EM := fun ρ => bnd (o ρ) fun y ρ => if isObj c y = true then bnd (l ρ) fun xs ρ => ofRF ρ (f (.val y :: xs.map .val)) else .bad
/-- a method of an instance of one's own, in slot i -/
def oiAt (c i : Nat) (ρ : Env) : Bool := match ρ[i]? with
  | some (.oi c' _) => c' == c
  | _ => false
def eMethO (c : Nat) (f : Fn) (i : Nat) (l : LM) : EM := fun ρ => if oiAt c i ρ = true then bnd (l ρ) fun xs ρ => callO f i ρ xs else .bad
def ofPP (ρ : Env) : RF → R D
  | .ok d _ => .ok d ρ
  | _ => .bad
def eProp (c : Nat) (f : Fn) (o : EM) : EM := fun ρ => bnd (o ρ) fun y ρ => if isObj c y = true then ofPP ρ (f [.val y]) else .bad
def ofPPo (i : Nat) (ρ : Env) : RF → R D
  | .ok d out => .ok d (ρ.set i out)
  | _ => .bad
def ePropO (c : Nat) (f : Fn) (i : Nat) : EM := fun ρ => match ρ[i]? with
  | some (.oi c' fs) => if c' = c then ofPPo i ρ (f [.oi c' fs]) else .bad
  | _ => .bad
def boolR (g : Bool → Bool) : R D → R D
  | .ok (.bl b) ρ => .ok (.bl (g b)) ρ
  | .exc c d ρ => .exc c d ρ
  | _ => .bad
/-- a in b by an own __contains__ -/
def eInO (c : Nat) (f : Fn) (g : Bool → Bool) (a b : EM) : EM := fun ρ => bnd (a ρ) fun x ρ => bnd (b ρ) fun y ρ => if isObj c y = true then boolR g (ofRF ρ (f [.val y, .val x])) else .bad
/-- a[b] by an own __getitem__ -/
def eGet (c : Nat) (f : Fn) (a b : EM) : EM := fun ρ => bnd (a ρ) fun x ρ => if isObj c x = true then bnd (b ρ) fun y ρ => ofRF ρ (f [.val x, .val y]) else .bad
/-- a field stored -/
def putF (sl : Bool) (j : Nat) (v : FV) (fs : List FV) : Option (List FV) := if j < fs.length then some (fs.set j v) else if sl = true then some ((fs ++ List.replicate (j - fs.length) .no) ++ [v]) else if j = fs.length then some (fs ++ [v]) else none
def sFldO (sl : Bool) (c i j : Nat) (a : EM) : SM := fun ρ => bnd (a ρ) fun d ρ => match ρ[i]? with
  | some (.oi c' fs) => if c' = c then (match putF sl j (.val d) fs with
    | some fs' => .ok none (ρ.set i (.oi c fs'))
    | none => .bad) else .bad
  | _ => .bad
end Tr
namespace Tr
open PySem L2
/-! ### things of one's own: read for good; lists -/
def eFz (i : Nat) : EM := fun ρ => match ρ[i]? with
  | some (.val d) => .ok d ρ
  | some (.ol ds) => .ok (.lst ds) (ρ.set i (.val (.lst ds)))
  | some (.oi c fs) => (match fs.mapM frz1 with
    | some ds => .ok (.obj c ds) (ρ.set i (.val (.obj c ds)))
    | none => .bad)
  | _ => .bad
def lCap (l : LM) : LM := fun ρ => bnd (l ρ) fun xs ρ => capped xs ρ (.ok xs ρ)
def eLstN (l : LM) : EM := fun ρ => bnd (l ρ) fun xs ρ => .ok (.lst xs) ρ
def sNewL (i : Nat) (l : LM) : SM := fun ρ => bnd (l ρ) fun xs ρ => if i ≠ 0 ∧ i < ρ.length then .ok none (ρ.set i (.ol xs)) else .bad
def sParL (i j : Nat) (l : LM) : SM := fun ρ => bnd (l ρ) fun xs ρ => if i ≠ 0 ∧ j ≠ 0 ∧ i ≠ j ∧ i < ρ.length ∧ j < ρ.length then .ok none ((ρ.set i (.ol xs)).set j (.ol [])) else .bad
def olAt (i : Nat) (ρ : Env) : Option (List D) := match ρ[i]? with
  | some (.ol ds) => some ds
  | _ => none
/-- a step of the list in slot i -/
def stepO (i : Nat) (ρ : Env) (f : List D → Option (D × List D)) : R D := match olAt i ρ with
  | some ds => (match f ds with
    | some (d, ds') => .ok d (ρ.set i (.ol ds'))
    | none => .bad)
  | none => .bad
def appL (x : D) : List D → Option (D × List D) := fun ds => if ds.length < cap then some (.non, ds ++ [x]) else none
def ixN' (n : Nat) (i : Int) : Option Nat := if 0 ≤ i then (if i < n then some i.toNat else none) else if -(n : Int) ≤ i then some (i + n).toNat else none
def popL (x : D) : List D → Option (D × List D) := fun ds => match x with
  | .int k => if ds.length ≤ cap then (ixN' ds.length k).bind fun j => (ds[j]?).map fun y => (y, ds.eraseIdx j) else none
  | _ => none
/-- x.m(a), x in slot i a list of one's own -/
def eStepO (i : Nat) (f : D → List D → Option (D × List D)) (a : EM) : EM := fun ρ => if (olAt i ρ).isSome = true then bnd (a ρ) fun x ρ => stepO i ρ (f x) else .bad
def eExtO (i : Nat) (l : LM) : EM := fun ρ => if (olAt i ρ).isSome = true then bnd (l ρ) fun xs ρ => stepO i ρ fun ds => if ds.length + xs.length ≤ cap then some (.non, ds ++ xs) else none else .bad
def eLenO (i : Nat) : EM := fun ρ => match olAt i ρ with
  | some ds => .ok (.int ds.length) ρ
  | none => .bad
def eIxO (i : Nat) (a : EM) : EM := fun ρ => if (olAt i ρ).isSome = true then bnd (a ρ) fun x ρ => match olAt i ρ with
  | some ds => (match x with
    | .int k => optR ((ixN' ds.length k).bind (ds[·]?)) ρ
    | _ => .bad)
  | none => .bad else .bad
/-- x[a] = v -/
def sSetO (i : Nat) (v a : EM) : SM := fun ρ => bnd (v ρ) fun y ρ => if (olAt i ρ).isSome = true then bnd (a ρ) fun x ρ => match olAt i ρ with
  | some ds => (match x with
    | .int k => (match ixN' ds.length k with
      | some j => .ok none (ρ.set i (.ol (ds.set j y)))
      | none => .bad)
    | _ => .bad)
  | none => .bad else .bad
end Tr
namespace Tr
open PySem L2
/-- C(e, .., k = v, ..), all keyword-only parameters given -/
def lApp (a b : LM) : LM := fun ρ => bnd (a ρ) fun xs ρ => bnd (b ρ) fun ys ρ => .ok (xs ++ ys) ρ
def lNum (n : Nat) (a : LM) : LM := fun ρ => bnd (a ρ) fun xs ρ => if xs.length = n then .ok xs ρ else .bad
end Tr
namespace Tr
open PySem L2
/-! ### comprehensions -/
def wipeE (ρ : Env) : List Nat → Env
  | [] => ρ
  | v :: vs => (wipeE ρ vs).set v .no
def noX {α : Type} : R α → R α
  | .ok a ρ => .ok a ρ
  | _ => .bad
@[simp] theorem noX_ok {α : Type} (a : α) (ρ : Env) : noX (.ok a ρ) = .ok a ρ := rfl
@[simp] theorem noX_bad {α : Type} : noX (.bad : R α) = .bad := rfl
abbrev GM := D → Env → Option Env
def compGo (vs : List Nat) (g : GM) (tt : TM) (te : EM) : List D → Env → R (List D)
  | [], ρ => .ok [] ρ
  | x :: xs, ρ => match g x ρ with
    | none => .bad
    | some ρ1 => bnd (noX (tt ρ1)) fun b ρ2 => if b = true then bnd (noX (te ρ2)) fun y ρ3 => bnd (compGo vs g tt te xs (wipeE ρ3 vs)) fun ys ρ4 => .ok (y :: ys) ρ4 else compGo vs g tt te xs (wipeE ρ2 vs)
def lComp (it : LM) (vs : List Nat) (g : GM) (tt : TM) (te : EM) : LM := fun ρ => bnd (it ρ) fun xs ρ1 => if xs.length ≤ cap then compGo vs g tt te xs (wipeE ρ1 vs) else .bad
def tYesM : TM := fun ρ => .ok true ρ
/-- what a tree gives when it is gone over -/
def itemsS : D → Option (List D)
  | .tup ds => some ds
  | .lst ds => some ds
  | .str z => some (z.cps.toList.map fun c => .str ⟨#[c]⟩)
  | _ => none
def lItems (a : EM) : LM := fun ρ => bnd (a ρ) fun x ρ => optR (itemsS x) ρ
end Tr
namespace Tr
open PySem L2
/-! ### loops -/
def forGo (g : GM) (body : SM) : List D → Env → R (Option D)
  | [], ρ => .ok none ρ
  | x :: xs, ρ => match g x ρ with
    | none => .bad
    | some ρ1 => bnd (body ρ1) fun o ρ2 => match o with
      | none => forGo g body xs ρ2
      | some d => .ok (some d) ρ2
def sFor (it : LM) (g : GM) (body : SM) : SM := fun ρ => bnd (it ρ) fun xs ρ => forGo g body xs ρ
end Tr
namespace Tr
open PySem L2
/-! ### dicts gone over -/
def keyT : Key → D
  | .inl i => .int i
  | .inr x => .str x
/-- the dict in field j of the instance in slot i -/
def dkAt (i c j : Nat) (ρ : Env) : Option (List (Key × D)) := match ρ[i]? with
  | some (.val (.obj c' fs)) => if c' = c then (match fs[j]? with
    | some (.dK kvs) => some kvs
    | _ => none) else none
  | _ => none
def lDItems (i c j : Nat) : LM := fun ρ => optR ((dkAt i c j ρ).map fun kvs => kvs.map fun p => .tup [keyT p.1, p.2]) ρ
def lDKeys (i c j : Nat) : LM := fun ρ => optR ((dkAt i c j ρ).map fun kvs => kvs.map fun p => keyT p.1) ρ
end Tr
namespace Tr
open PySem L2
def lLock (i c j : Nat) (l : LM) : LM := fun ρ => if (dkAt i c j ρ).isSome = true then noX (l ρ) else .bad
end Tr
namespace Tr
open PySem L2
/-! ### range, zip, enumerate; list(x) as one's own -/
def rangeD (i : Int) (n : Nat) : List D := (List.range n).map fun k => .int (i + (k : Nat))
def okB (i : Int) : Bool := decide (-(2 ^ 61) ≤ i ∧ i ≤ 2 ^ 61)
def itRange1 : List D → Option (List D)
  | [.int j] => if okB j = true then some (rangeD 0 j.toNat) else none
  | _ => none
def itRange2 : List D → Option (List D)
  | [.int i, .int j] => if okB i = true ∧ okB j = true then some (rangeD i (j - i).toNat) else none
  | _ => none
def itZip : List D → Option (List D)
  | [.lst xs, .lst ys] => some (List.zipWith (fun x y => .tup [x, y]) xs ys)
  | [.tup xs, .tup ys] => some (List.zipWith (fun x y => .tup [x, y]) xs ys)
  | _ => none
def enumD (xs : List D) : List D := (List.range xs.length).zipWith (fun i x => .tup [.int (i : Nat), x]) xs
def itEnum : List D → Option (List D)
  | [.lst xs] => some (enumD xs)
  | _ => none
/-- an iterator by values -/
def lIt (f : List D → Option (List D)) (l : LM) : LM := fun ρ => bnd (l ρ) fun xs ρ => optR (f xs) ρ
def lList (a : EM) : LM := fun ρ => bnd (a ρ) fun x ρ => optR (items x) ρ
end Tr
namespace Tr
open PySem L2
/-! ### methods of built-in classes by values -/
def isStrD : D → Bool
  | .str _ => true
  | _ => false
def isDicD : D → Bool
  | .dK _ => true
  | .dT _ => true
  | _ => false
def eM1 (t : D → Bool) (f : D → D → Option D) (o a : EM) : EM := fun ρ => bnd (o ρ) fun x ρ => if t x = true then bnd (a ρ) fun y ρ => optR (f x y) ρ else .bad
def eM2 (t : D → Bool) (f : D → D → D → Option D) (o a b : EM) : EM := fun ρ => bnd (o ρ) fun x ρ => if t x = true then bnd (a ρ) fun y ρ => bnd (b ρ) fun z ρ => optR (f x y z) ρ else .bad
end Tr
namespace Tr
open PySem L2
/-! ### dicts made; targets -/
def putD {κ : Type} [DecidableEq κ] (kvs : List (κ × D)) (k : κ) (d : D) : List (κ × D) := if (kvs.any fun kv => decide (kv.1 = k)) = true then kvs.map (fun kv => if kv.1 = k then (kv.1, d) else kv) else kvs ++ [(k, d)]
def mergeD {κ : Type} [DecidableEq κ] (kvs more : List (κ × D)) : List (κ × D) := more.foldl (fun acc kv => putD acc kv.1 kv.2) kvs
/-- {k: e, ..}, the keys written -/
def eDisp (ks : List Key) (l : LM) : EM := fun ρ => bnd (noX (l ρ)) fun ds ρ => if ds.length = ks.length ∧ ks.length ≤ 15 then .ok (.dK (mergeD [] (ks.zip ds))) ρ else .bad
def gLstM (n : Nat) (m : List D → Env → Option Env) : GM := fun d ρ => match d with
  | .lst ds => if ds.length = n then m ds ρ else none
  | _ => none
def sPar3 (i j k : Nat) (l : LM) : SM := fun ρ => bnd (l ρ) fun xs ρ => match xs with
  | [x, y, z] => if i < ρ.length ∧ j < ρ.length ∧ k < ρ.length then .ok none (((ρ.set i (.val x)).set j (.val y)).set k (.val z)) else .bad
  | _ => .bad
end Tr
namespace Tr
open PySem L2
/-! ### a dict in a field of an instance of one's own -/
def dkOAt (i c j : Nat) (ρ : Env) : Option (List (Key × D)) := match ρ[i]? with
  | some (.oi c' fs) => if c' = c then (match fs[j]? with
    | some (.dK kvs) => some kvs
    | _ => none) else none
  | _ => none
def isFlat : D → Bool
  | .non => true
  | .bl _ => true
  | .int _ => true
  | .str _ => true
  | _ => false
def flatR (o : Option D) (ρ : Env) : R D := match o with
  | some d => if isFlat d = true then .ok d ρ else .bad
  | none => .bad
def eOpOD (g : D → D → Option D) (i c j : Nat) (a : EM) : EM := fun ρ => bnd (a ρ) fun x ρ => match dkOAt i c j ρ with
  | some kvs => flatR (g x (.dK kvs)) ρ
  | none => .bad
def eBOD (g : List D → Option D) (i c j : Nat) : EM := fun ρ => match dkOAt i c j ρ with
  | some kvs => flatR (g [.dK kvs]) ρ
  | none => .bad
/-- self.f = {} -/
def sNewDK (sl : Bool) (c i j : Nat) : SM := fun ρ => match ρ[i]? with
  | some (.oi c' fs) => if c' = c then (match putF sl j (.dK []) fs with
    | some fs' => .ok none (ρ.set i (.oi c fs'))
    | none => .bad) else .bad
  | _ => .bad
def keyOf : D → Option Key
  | .int i => some (.inl i)
  | .str x => some (.inr x)
  | _ => none
/-- self.f[a] = v -/
def putO (c i j : Nat) (k : Key) (d : D) (ρ : Env) : Option Env := match ρ[i]? with
  | some (.oi c' fs) => if c' = c then (match fs[j]? with
    | some (.dK kvs) => if kvs.length < cap then some (ρ.set i (.oi c (fs.set j (.dK (putD kvs k d))))) else none
    | _ => none) else none
  | _ => none
def sSetDK (c i j l : Nat) (v : EM) : SM := fun ρ => bnd (v ρ) fun y ρ => match ρ[l]? with
  | some (.val x) => (match (keyOf x).bind fun k => putO c i j k y ρ with
    | some ρ' => .ok none ρ'
    | none => .bad)
  | _ => .bad
end Tr
namespace Tr
open PySem L2
/-! ### dict comprehensions -/
def dGo (vs : List Nat) (g : GM) (tt : TM) (tk tv : EM) : List (Key × D) → List D → Env → R (List (Key × D))
  | acc, [], ρ => .ok acc ρ
  | acc, x :: xs, ρ => match g x ρ with
    | none => .bad
    | some ρ1 => bnd (noX (tt ρ1)) fun b ρ2 => if b = true then bnd (noX (tk ρ2)) fun y ρ3 => bnd (noX (tv ρ3)) fun z ρ4 => match keyOf y with
      | some k => dGo vs g tt tk tv (putD acc k z) xs (wipeE ρ4 vs)
      | none => .bad else dGo vs g tt tk tv acc xs (wipeE ρ2 vs)
def eDComp (it : LM) (vs : List Nat) (g : GM) (tt : TM) (tk tv : EM) : EM := fun ρ => bnd (it ρ) fun xs ρ1 => if xs.length ≤ cap then bnd (dGo vs g tt tk tv [] xs (wipeE ρ1 vs)) fun kvs ρ2 => .ok (.dK kvs) ρ2 else .bad
end Tr
namespace Tr
open PySem L2
/-- name = C(..), the instance one's own -/
def ofMakeI (i : Nat) (ρ : Env) : RF → R (Option D)
  | .ok .non (.oi c fs) => if i ≠ 0 ∧ i < ρ.length then .ok none (ρ.set i (.oi c fs)) else .bad
  | .ok _ _ => .bad
  | .exc c d _ => .exc c d ρ
  | .bad => .bad
def sNewI (i c : Nat) (f : Fn) (l : LM) : SM := fun ρ => bnd (l ρ) fun xs ρ => ofMakeI i ρ (f (.oi c [] :: xs.map .val))
end Tr
/- TrV -/
/-! Tr: Python's operators over trees. -/
namespace Tr
open PySem L2

mutual
/-- a tree as plain data -/
def toP : D → Option PyData
  | .non => some .none
  | .bl b => some (.bool b)
  | .int i => some (.int i)
  | .str x => some (.str x)
  | .tup ds => (toPs ds).map .tuple
  | .lst ds => (toPs ds).map .list
  | _ => none
def toPs : List D → Option (List PyData)
  | [] => some []
  | d :: ds => (toP d).bind fun p => (toPs ds).map (p :: ·)
end
def flatD : D → Bool
  | .non => true
  | .bl _ => true
  | .int _ => true
  | .str _ => true
  | _ => false
/-- == of flat values (no bool beside an int) -/
def eqF : D → D → Option Bool
  | .non, .non => some true
  | .bl a, .bl b => some (decide (a = b))
  | .int a, .int b => some (decide (a = b))
  | .str a, .str b => some (decide (a = b))
  | .non, .int _ => some false
  | .int _, .non => some false
  | .non, .bl _ => some false
  | .bl _, .non => some false
  | .non, .str _ => some false
  | .str _, .non => some false
  | .int _, .str _ => some false
  | .str _, .int _ => some false
  | .bl _, .str _ => some false
  | .str _, .bl _ => some false
  | _, _ => none
def eqD (x y : D) : Option Bool := if flatD x && flatD y then eqF x y else (toP x).bind fun p => (toP y).bind fun q => if SeqAt.shaped p && SeqAt.shaped q then some (PyData.eqv p q) else none
def vEq (x y : D) : Option D := (eqD x y).map .bl
def vNe (x y : D) : Option D := (eqD x y).map fun b => .bl (!b)
def vIsN (x y : D) : Option D := match y with
  | .non => (match x with
    | .non => some (.bl true)
    | .bl _ => some (.bl false)
    | .int _ => some (.bl false)
    | .str _ => some (.bl false)
    | .tup _ => some (.bl false)
    | .lst _ => some (.bl false)
    | .dK _ => some (.bl false)
    | .dT _ => some (.bl false)
    | .obj _ _ => some (.bl false))
  | _ => none
def vNotN (x y : D) : Option D := (vIsN x y).bind fun
  | .bl b => some (.bl (!b))
  | _ => none
/-- x < y -/
def ltD (x y : D) : Option Bool := (toP x).bind fun p => (toP y).bind fun q => match p with
  | .none => none
  | _ => if W.alike p q && decide (p.depth ≤ 60) then some (W.dataLt p q) else none
def vLt (x y : D) : Option D := (ltD x y).map .bl
def vLe : D → D → Option D
  | .int a, .int b => some (.bl (decide (a ≤ b)))
  | _, _ => none
def vGt : D → D → Option D
  | .int a, .int b => some (.bl (decide (b < a)))
  | _, _ => none
def vGe : D → D → Option D
  | .int a, .int b => some (.bl (decide (b ≤ a)))
  | _, _ => none
/-- whether one of the items is equal -/
def anyEq (x : D) : List D → Option Bool
  | [] => some false
  | d :: ds => (if flatD d && flatD x then eqF d x else (toP d).bind fun p => (toP x).bind fun q => if W.alike p q && decide (p.depth ≤ 60) then some (PyData.eqv p q) else none).bind fun b => (anyEq x ds).map (b || ·)
def keyD : D → Option Key
  | .int i => some (.inl i)
  | .str x => some (.inr x)
  | _ => none
def keysD : List D → Option (List Key)
  | [] => some []
  | d :: ds => (keyD d).bind fun k => (keysD ds).map (k :: ·)
def getK {κ : Type} [DecidableEq κ] (kvs : List (κ × D)) (k : κ) : Option D := (kvs.find? fun p => decide (p.1 = k)).map (·.2)
def inD (x y : D) : Option Bool := match y with
  | .tup ds => anyEq x ds
  | .lst ds => anyEq x ds
  | .dK kvs => (keyD x).map fun k => (getK kvs k).isSome
  | .dT kvs => (match x with
    | .tup ks => (keysD ks).map fun k => (getK kvs k).isSome
    | _ => none)
  | .str z => (match x with
    | .str ⟨⟨[c]⟩⟩ => some (decide (c ∈ z.cps.toList))
    | _ => none)
  | _ => none
def vIn (x y : D) : Option D := (inD x y).map .bl
def vNotIn (x y : D) : Option D := (inD x y).map fun b => .bl (!b)
/-! arithmetic -/
def vAdd : D → D → Option D
  | .int a, .int b => some (.int (a + b))
  | .str a, .str b => if a.length + b.length ≤ cap then some (.str (a ++ b)) else none
  | .lst a, .lst b => if a.length + b.length ≤ cap then some (.lst (a ++ b)) else none
  | .tup a, .tup b => if a.length + b.length ≤ cap then some (.tup (a ++ b)) else none
  | _, _ => none
def vSub : D → D → Option D
  | .int a, .int b => some (.int (a - b))
  | _, _ => none
def small64 (i : Int) : Bool := decide (-(2 ^ 64) < i ∧ i < 2 ^ 64)
def vMul : D → D → Option D
  | .int a, .int b => if small64 a || (small64 b || decide (a.natAbs.log2 + b.natAbs.log2 < 1000000)) then some (.int (a * b)) else none
  | _, _ => none
def vDiv : D → D → Option D
  | .int a, .int b => if 0 < b ∧ b.natAbs.log2 < 9000 then some (.int (a / b)) else none
  | _, _ => none
def vMod : D → D → Option D
  | .int a, .int b => if 0 < b then some (.int (a % b)) else none
  | _, _ => none
def vPow : D → D → Option D
  | .int a, .int b => if 0 ≤ b ∧ b ≤ 1000000 ∧ a.natAbs < 2 ^ 64 then some (.int (a ^ b.toNat)) else none
  | _, _ => none
def vShl : D → D → Option D
  | .int a, .int b => if 0 ≤ b ∧ b ≤ 1000000 ∧ a.natAbs < 2 ^ 64 then some (.int (a * 2 ^ b.toNat)) else none
  | _, _ => none
def vShr : D → D → Option D
  | .int a, .int b => if 0 ≤ b then some (.int (a / 2 ^ b.toNat)) else none
  | _, _ => none
def vAnd : D → D → Option D
  | .int a, .int b => some (.int (Builtin.bitAnd a b))
  | _, _ => none
def vOr : D → D → Option D
  | .int a, .int b => some (.int (Builtin.bitOr a b))
  | _, _ => none
def vNeg : D → Option D
  | .int a => some (.int (-a))
  | _ => none
/-! subscripts -/
def ixD (n : Nat) (i : Int) : Option Nat := if 0 ≤ i then (if i < n then some i.toNat else none) else if -(n : Int) ≤ i then some (i + n).toNat else none
def vIx : D → D → Option D
  | .tup ds, .int i => (ixD ds.length i).bind (ds[·]?)
  | .lst ds, .int i => (ixD ds.length i).bind (ds[·]?)
  | .str z, .int i => if z.length ≤ cap then (ixD z.length i).bind fun j => (z.cps[j]?).map fun c => .str ⟨#[c]⟩ else none
  | _, _ => none
/-- a dict and a key: what is found -/
def lookD (y x : D) : Option (Option D) := match y with
  | .dK kvs => (keyD x).map (getK kvs)
  | .dT kvs => (match x with
    | .tup ks => (keysD ks).map (getK kvs)
    | _ => none)
  | _ => none
def vDx (y x : D) : Option D := (lookD y x).bind id
/-- the name of a tree's built-in class -/
def tyN : D → Option String
  | .non => some "NoneType"
  | .bl _ => some "bool"
  | .int _ => some "int"
  | .str _ => some "str"
  | .tup _ => some "tuple"
  | .lst _ => some "list"
  | .dK _ => some "dict"
  | _ => none
/-- isinstance(x, T), T a built-in class -/
def isTy (T : String) (d : D) : Option D := (tyN d).map fun n => .bl (n == T || (n == "bool" && T == "int"))
/-! built-ins by values -/
def bLen : List D → Option D
  | [.tup ds] => some (.int ds.length)
  | [.lst ds] => some (.int ds.length)
  | [.str z] => if z.length ≤ cap then some (.int z.length) else none
  | [.dK kvs] => some (.int kvs.length)
  | _ => none
def asBs : List D → Option (List Bool)
  | [] => some []
  | .bl b :: ds => (asBs ds).map (b :: ·)
  | _ => none
def asIs : List D → Option (List Int)
  | [] => some []
  | .int b :: ds => (asIs ds).map (b :: ·)
  | _ => none
def asSs : List D → Option (List Str)
  | [] => some []
  | .str b :: ds => (asSs ds).map (b :: ·)
  | _ => none
def bAll : List D → Option D
  | [.lst ds] => (asBs ds).map fun bs => .bl (bs.all id)
  | _ => none
def bAny : List D → Option D
  | [.lst ds] => (asBs ds).map fun bs => .bl (bs.any id)
  | _ => none
def bInt : List D → Option D
  | [.int i] => some (.int i)
  | [.bl b] => some (.int (if b then 1 else 0))
  | [.str x] => if x.length ≤ 640 then (PySem.intText? x).map .int else none
  | _ => none
def bAbs : List D → Option D
  | [.int i] => some (.int (if i < 0 then -i else i))
  | _ => none
def minI : List Int → Option Int
  | [] => none
  | i :: is => some (is.foldl min i)
def maxI : List Int → Option Int
  | [] => none
  | i :: is => some (is.foldl max i)
def bMin : List D → Option D
  | [.int i, .int j] => some (.int (if j < i then j else i))
  | [.lst ds] => ((asIs ds).bind minI).map .int
  | _ => none
def bMax : List D → Option D
  | [.int i, .int j] => some (.int (if j > i then j else i))
  | [.lst ds] => ((asIs ds).bind maxI).map .int
  | _ => none
def bTuple : List D → Option D
  | [.lst ds] => some (.tup ds)
  | [.tup ds] => some (.tup ds)
  | _ => none
def bList : List D → Option D
  | [.lst ds] => some (.lst ds)
  | [.tup ds] => some (.lst ds)
  | _ => none
/-- the order of data -/
def encD (d : D) : PyData := (toP d).getD .none
def leD (x y : D) : Bool := W.dataLe false encD x y
def allAlike (ps : List PyData) : Bool := ps.all fun p => ps.all fun q => W.alike p q
def sortable (ps : List PyData) : Bool := (ps.all fun p => match p with
    | .tuple (_ :: _) => true
    | _ => false) || (ps.all fun p => match p with
    | .none => false
    | .tuple _ => false
    | _ => true)
def bSorted : List D → Option D
  | [.lst ds] => (toPs ds).bind fun ps => if allAlike ps && sortable ps && ps.all (fun p => decide (p.depth ≤ 60)) && decide (ds.length ≤ cap) then some (.lst (ds.mergeSort leD)) else none
  | [.tup ds] => (toPs ds).bind fun ps => if allAlike ps && sortable ps && ps.all (fun p => decide (p.depth ≤ 60)) && decide (ds.length ≤ cap) then some (.lst (ds.mergeSort leD)) else none
  | _ => none
def bStr : List D → Option D
  | [.int i] => if i.natAbs.log2 < 1920 then some (.str (toString i)) else none
  | [.str x] => some (.str x)
  | _ => none
def bSum : List D → Option D
  | [.lst ds] => (asIs ds).map fun is => .int is.sum
  | _ => none
def strsOf : D → Option (List Str)
  | .lst ds => asSs ds
  | .tup ds => asSs ds
  | _ => none
def mJoin : D → D → Option D
  | .str a, y => (strsOf y).bind fun ys => if (ys.map (·.length)).sum + ys.length * a.length ≤ cap then some (.str (Txt.join a ys)) else none
  | _, _ => none
def mSplit : D → D → Option D
  | .str a, .str b => if b.length ≠ 0 ∧ a.length + 2 ≤ cap then some (.lst ((Txt.split a b).map .str)) else none
  | _, _ => none
def mBits : D → Option D
  | .int i => some (.int (Builtin.Int.intBits i : Nat))
  | _ => none
def mGet1 (s k : D) : Option D := (lookD s k).map fun o => o.getD .non
def mGet2 (s k d : D) : Option D := (lookD s k).map fun o => o.getD d
end Tr
namespace Tr
open PySem L2
/-! slices -/
def cutD (ds : List D) (lo hi : Option Int) : List D := (ds.drop (HT.sIx ds.length 0 lo)).take (HT.sIx ds.length ds.length hi - HT.sIx ds.length 0 lo)
def vSlice (x : D) (lo hi : Option Int) : Option D := match x with
  | .tup ds => some (.tup (cutD ds lo hi))
  | .lst ds => some (.lst (cutD ds lo hi))
  | .str z => if z.length ≤ cap then some (.str (cutS z lo hi)) else none
  | _ => none
abbrev OM := Env → R (Option Int)
def oNone : OM := fun ρ => .ok none ρ
def asI : D → Option Int
  | .int i => some i
  | _ => none
def oSome (a : EM) : OM := fun ρ => bnd (a ρ) fun x ρ => bnd (optR (asI x) ρ) fun i ρ => .ok (some i) ρ
def eSlice (a : EM) (lo hi : OM) : EM := fun ρ => bnd (a ρ) fun x ρ => bnd (lo ρ) fun l ρ => bnd (hi ρ) fun h ρ => optR (vSlice x l h) ρ
/-- x[a::k] of a list -/
def pickD (ds : List D) (lo st : Option Int) : List D := ((PySem.sliceRange (PySem.sliceBounds lo none st ds.length).1 (PySem.sliceBounds lo none st ds.length).2.1 (PySem.sliceBounds lo none st ds.length).2.2).filterMap (ds[·]?))
end Tr
/- Tr1 -/
/-! Tr, part 1: how trees lie in the heap; the judgements. -/
namespace Tr
open PySem L2

/-- the classes of the text: where they stand, what attributes their instances have, whether by slots -/
structure Wd where
  Ca : Nat → Addr
  an : Nat → List Str
  sl : Nat → Bool

/-- an instance at a, its attributes (in the class's sequence) -/
def InsV (W : Wd) (A : Addr → Prop) (H : Hp) (c : Nat) (a : Addr) (vs : List (Option V)) : Prop := match W.sl c with
  | false => ∃ dx xs, vs = xs.map some ∧ xs.length ≤ (W.an c).length ∧ H a = some (.ins (W.Ca c) dx ((W.an c).zip xs))
  | true => ∃ dx, ¬ A dx ∧ dx ≠ a ∧ ((vs = [] ∧ H a = some (.ins (W.Ca c) dx []) ∧ H dx = some (.own a)) ∨ (H a = some (SlX.SlO a (W.Ca c) dx vs) ∧ H dx = some (.xd [])))

mutual
/-- the tree d lies at v, in objects that are not of A -/
def RelD (W : Wd) (A : Addr → Prop) (H : Hp) : D → V → Prop
  | .non, v => v = .non
  | .bl b, v => v = .bl b
  | .int i, v => v = .int i
  | .str x, v => v = .str x
  | .tup ds, v => ∃ a vs, v = .ref a ∧ ¬ A a ∧ H a = some (.tup vs) ∧ RelDs W A H ds vs
  | .lst ds, v => ∃ a vs, v = .ref a ∧ ¬ A a ∧ Rd H a (.lst vs) ∧ RelDs W A H ds vs
  | .dK kvs, v => ∃ a ws, v = .ref a ∧ ¬ A a ∧ Rd H a (.dK ws) ∧ RelKs W A H kvs ws
  | .dT kvs, v => ∃ a ws, v = .ref a ∧ ¬ A a ∧ Rd H a (.dT ws) ∧ RelTs W A H kvs ws
  | .obj c fs, v => ∃ a vs, v = .ref a ∧ ¬ A a ∧ InsV W A H c a (vs.map some) ∧ RelDs W A H fs vs
def RelDs (W : Wd) (A : Addr → Prop) (H : Hp) : List D → List V → Prop
  | [], vs => vs = []
  | d :: ds, vs => ∃ v r, vs = v :: r ∧ RelD W A H d v ∧ RelDs W A H ds r
def RelKs (W : Wd) (A : Addr → Prop) (H : Hp) : List (Key × D) → List (Key × V) → Prop
  | [], ws => ws = []
  | (k, d) :: r, ws => ∃ v s, ws = (k, v) :: s ∧ RelD W A H d v ∧ RelKs W A H r s
def RelTs (W : Wd) (A : Addr → Prop) (H : Hp) : List (List Key × D) → List (List Key × V) → Prop
  | [], ws => ws = []
  | (k, d) :: r, ws => ∃ v s, ws = (k, v) :: s ∧ RelD W A H d v ∧ RelTs W A H r s
end

/-- what stands outside of A stays, outside of A' -/
def Ext (A : Addr → Prop) (H : Hp) (A' : Addr → Prop) (H' : Hp) : Prop := ∀ a o, H a = some o → ¬ A a → H' a = some o ∧ ¬ A' a
theorem Ext.refl (A : Addr → Prop) (H : Hp) : Ext A H A H := fun a o h n => ⟨h, n⟩
theorem Ext.trans {A A' A'' : Addr → Prop} {H H' H'' : Hp} (x : Ext A H A' H') (y : Ext A' H' A'' H'') : Ext A H A'' H'' := fun a o h n =>
  let ⟨h', n'⟩ := x a o h n
  y a o h' n'
theorem Ext.rd {A A' : Addr → Prop} {H H' : Hp} (x : Ext A H A' H') {a : Addr} {u : HO} (n : ¬ A a) (r : Rd H a u) : Rd H' a u ∧ ¬ A' a := by
  rcases r with r | ⟨o, r⟩
  · exact ⟨.inl (x a _ r n).1, (x a _ r n).2⟩
  · exact ⟨.inr ⟨o, (x a _ r n).1⟩, (x a _ r n).2⟩
theorem Ext.ins {W : Wd} {A A' : Addr → Prop} {H H' : Hp} (x : Ext A H A' H') {c : Nat} {a : Addr} {vs : List (Option V)} (n : ¬ A a) (r : InsV W A H c a vs) : InsV W A' H' c a vs ∧ ¬ A' a := by
  unfold InsV at r ⊢
  cases e : W.sl c with
  | false =>
    rw [e] at r
    obtain ⟨dx, xs, e1, e2, e3⟩ := r
    exact ⟨⟨dx, xs, e1, e2, (x a _ e3 n).1⟩, (x a _ e3 n).2⟩
  | true =>
    rw [e] at r
    obtain ⟨dx, nd, ne, h⟩ := r
    rcases h with ⟨h0, h1, h2⟩ | ⟨h1, h2⟩
    · exact ⟨⟨dx, (x dx _ h2 nd).2, ne, .inl ⟨h0, (x a _ h1 n).1, (x dx _ h2 nd).1⟩⟩, (x a _ h1 n).2⟩
    · exact ⟨⟨dx, (x dx _ h2 nd).2, ne, .inr ⟨(x a _ h1 n).1, (x dx _ h2 nd).1⟩⟩, (x a _ h1 n).2⟩

/-- what trees are made of stays -/
structure Pr (W : Wd) (A : Addr → Prop) (H : Hp) (A' : Addr → Prop) (H' : Hp) : Prop where
  tup : ∀ a vs, H a = some (.tup vs) → ¬ A a → H' a = some (.tup vs) ∧ ¬ A' a
  lst : ∀ a vs, Rd H a (.lst vs) → ¬ A a → Rd H' a (.lst vs) ∧ ¬ A' a
  dK : ∀ a vs, Rd H a (.dK vs) → ¬ A a → Rd H' a (.dK vs) ∧ ¬ A' a
  dT : ∀ a vs, Rd H a (.dT vs) → ¬ A a → Rd H' a (.dT vs) ∧ ¬ A' a
  ins : ∀ c a vs, InsV W A H c a vs → ¬ A a → InsV W A' H' c a vs ∧ ¬ A' a
theorem Ext.pr {W : Wd} {A A' : Addr → Prop} {H H' : Hp} (x : Ext A H A' H') : Pr W A H A' H' := ⟨fun a _ h n => x a _ h n, fun _ _ h n => x.rd n h, fun _ _ h n => x.rd n h, fun _ _ h n => x.rd n h, fun _ _ _ h n => x.ins n h⟩

mutual
theorem RelD.pr {W : Wd} {A A' : Addr → Prop} {H H' : Hp} (x : Pr W A H A' H') : ∀ {d : D} {v : V}, RelD W A H d v → RelD W A' H' d v
  | .non, _, h => by unfold RelD at h ⊢; exact h
  | .bl _, _, h => by unfold RelD at h ⊢; exact h
  | .int _, _, h => by unfold RelD at h ⊢; exact h
  | .str _, _, h => by unfold RelD at h ⊢; exact h
  | .tup ds, _, h => by
    unfold RelD at h ⊢
    obtain ⟨a, vs, e, n, r, q⟩ := h
    exact ⟨a, vs, e, (x.tup a _ r n).2, (x.tup a _ r n).1, RelDs.pr x q⟩
  | .lst ds, _, h => by
    unfold RelD at h ⊢
    obtain ⟨a, vs, e, n, r, q⟩ := h
    exact ⟨a, vs, e, (x.lst a _ r n).2, (x.lst a _ r n).1, RelDs.pr x q⟩
  | .dK kvs, _, h => by
    unfold RelD at h ⊢
    obtain ⟨a, vs, e, n, r, q⟩ := h
    exact ⟨a, vs, e, (x.dK a _ r n).2, (x.dK a _ r n).1, RelKs.pr x q⟩
  | .dT kvs, _, h => by
    unfold RelD at h ⊢
    obtain ⟨a, vs, e, n, r, q⟩ := h
    exact ⟨a, vs, e, (x.dT a _ r n).2, (x.dT a _ r n).1, RelTs.pr x q⟩
  | .obj c fs, _, h => by
    unfold RelD at h ⊢
    obtain ⟨a, vs, e, n, r, q⟩ := h
    exact ⟨a, vs, e, (x.ins c a _ r n).2, (x.ins c a _ r n).1, RelDs.pr x q⟩
theorem RelDs.pr {W : Wd} {A A' : Addr → Prop} {H H' : Hp} (x : Pr W A H A' H') : ∀ {ds : List D} {vs : List V}, RelDs W A H ds vs → RelDs W A' H' ds vs
  | [], _, h => by unfold RelDs at h ⊢; exact h
  | d :: ds, _, h => by
    unfold RelDs at h ⊢
    obtain ⟨v, r, e, h1, h2⟩ := h
    exact ⟨v, r, e, RelD.pr x h1, RelDs.pr x h2⟩
theorem RelKs.pr {W : Wd} {A A' : Addr → Prop} {H H' : Hp} (x : Pr W A H A' H') : ∀ {ds : List (Key × D)} {vs : List (Key × V)}, RelKs W A H ds vs → RelKs W A' H' ds vs
  | [], _, h => by unfold RelKs at h ⊢; exact h
  | (k, d) :: ds, _, h => by
    unfold RelKs at h ⊢
    obtain ⟨v, r, e, h1, h2⟩ := h
    exact ⟨v, r, e, RelD.pr x h1, RelKs.pr x h2⟩
theorem RelTs.pr {W : Wd} {A A' : Addr → Prop} {H H' : Hp} (x : Pr W A H A' H') : ∀ {ds : List (List Key × D)} {vs : List (List Key × V)}, RelTs W A H ds vs → RelTs W A' H' ds vs
  | [], _, h => by unfold RelTs at h ⊢; exact h
  | (k, d) :: ds, _, h => by
    unfold RelTs at h ⊢
    obtain ⟨v, r, e, h1, h2⟩ := h
    exact ⟨v, r, e, RelD.pr x h1, RelTs.pr x h2⟩
end
section
variable {W : Wd} {A A' : Addr → Prop} {H H' : Hp}
theorem RelD.ext (x : Ext A H A' H') {d : D} {v : V} (h : RelD W A H d v) : RelD W A' H' d v := h.pr x.pr
theorem RelDs.ext (x : Ext A H A' H') {d : List D} {v : List V} (h : RelDs W A H d v) : RelDs W A' H' d v := h.pr x.pr
theorem RelKs.ext (x : Ext A H A' H') {d : List (Key × D)} {v : List (Key × V)} (h : RelKs W A H d v) : RelKs W A' H' d v := h.pr x.pr
theorem RelTs.ext (x : Ext A H A' H') {d : List (List Key × D)} {v : List (List Key × V)} (h : RelTs W A H d v) : RelTs W A' H' d v := h.pr x.pr
end

/-! ### the names' values -/
/-- a part of an instance of one's own: G, the places of its own dicts -/
def RelF (W : Wd) (A : Addr → Prop) (H : Hp) : FV → Option V → List Addr → Prop
  | .no, v, G => v = none ∧ G = []
  | .val d, v, G => G = [] ∧ ∃ x, v = some x ∧ RelD W A H d x
  | .dK kvs, v, G => ∃ a ws, G = [a] ∧ v = some (.ref a) ∧ H a = some (.dK ws) ∧ RelKs W A H kvs ws
  | .dT kvs, v, G => ∃ a ws, G = [a] ∧ v = some (.ref a) ∧ H a = some (.dT ws) ∧ RelTs W A H kvs ws
def RelFs (W : Wd) (A : Addr → Prop) (H : Hp) : List FV → List (Option V) → List Addr → Prop
  | [], vs, G => vs = [] ∧ G = []
  | f :: fs, vs, G => ∃ v r G1 G2, vs = v :: r ∧ G = G1 ++ G2 ∧ RelF W A H f v G1 ∧ RelFs W A H fs r G2
/-- an instance of one's own, at a: its own dict's place is its own too, if it is by slots -/
def OwnI (W : Wd) (H : Hp) (c : Nat) (a : Addr) (vs : List (Option V)) (G : List Addr) : Prop := match W.sl c with
  | false => ∃ dx xs, G = [a] ∧ vs = xs.map some ∧ xs.length ≤ (W.an c).length ∧ H a = some (.ins (W.Ca c) dx ((W.an c).zip xs))
  | true => ∃ dx, G = [a, dx] ∧ dx ≠ a ∧ ((vs = [] ∧ H a = some (.ins (W.Ca c) dx []) ∧ H dx = some (.own a)) ∨ (H a = some (SlX.SlO a (W.Ca c) dx vs) ∧ H dx = some (.xd [])))
/-- what a name holds: F, the places that are its own -/
def SlR (W : Wd) (A : Addr → Prop) (H : Hp) : SV → Option V → List Addr → Prop
  | .no, _, F => F = []
  | .val d, v, F => F = [] ∧ ∃ x, v = some x ∧ RelD W A H d x
  | .ol ds, v, F => ∃ a vs, F = [a] ∧ v = some (.ref a) ∧ H a = some (.lst vs) ∧ RelDs W A H ds vs
  | .oi c fs, v, F => ∃ a vs G1 G2, F = G1 ++ G2 ∧ v = some (.ref a) ∧ OwnI W H c a vs G1 ∧ RelFs W A H fs vs G2
def Sl (W : Wd) (A : Addr → Prop) (H : Hp) : List SV → St → List Addr → Prop
  | [], σ, F => σ = [] ∧ F = []
  | s :: ρ, σ, F => ∃ v r F1 F2, σ = v :: r ∧ F = F1 ++ F2 ∧ SlR W A H s v F1 ∧ Sl W A H ρ r F2

/-- what is one's own now: of the callers (O), of this def (F) -/
def own (O : Addr → Prop) (F : List Addr) : Addr → Prop := fun a => O a ∨ a ∈ F
/-- what is fixed through a def's body: what the callers own, the heap at the entry, what is handed in to be changed, the first argument -/
structure Fx where
  O : Addr → Prop
  H0 : Hp
  M : List Addr
  v0 : Option V
/-- a state of a def's body -/
structure RS (W : Wd) (Φ : Fx) (H : Hp) (F : List Addr) (ρ : Env) (σ : St) : Prop where
  sl : Sl W (own Φ.O F) H ρ σ F
  nd : F.Nodup
  st : ∀ a o, Φ.H0 a = some o → a ∉ Φ.M → H a = some o
  fr : ∀ a ∈ F, a ∈ Φ.M ∨ Φ.H0 a = none
  oo : ∀ a, Φ.O a → ∃ o, H a = some o
  dj : ∀ a ∈ F, ¬ Φ.O a
  k0 : ∀ s, ρ[0]? = some s → s.isOwn = true → σ[0]? = some Φ.v0
end Tr
/- Tr2 -/
/-! Tr, part 2: the state of a body, slot by slot. -/
namespace Tr
open PySem L2

section
variable {W : Wd} {A A' : Addr → Prop} {H H' : Hp}

theorem RelF.pr (x : Pr W A H A' H') : ∀ {f : FV} {v : Option V} {G : List Addr}, (∀ a ∈ G, ∀ o, H a = some o → H' a = some o) → RelF W A H f v G → RelF W A' H' f v G
  | .no, _, _, _, h => h
  | .val d, _, _, _, ⟨e, y, e2, h⟩ => ⟨e, y, e2, h.pr x⟩
  | .dK kvs, _, _, k, ⟨a, ws, e, e2, h, r⟩ => ⟨a, ws, e, e2, k a (by rw [e]; exact List.mem_cons_self) _ h, RelKs.pr x r⟩
  | .dT kvs, _, _, k, ⟨a, ws, e, e2, h, r⟩ => ⟨a, ws, e, e2, k a (by rw [e]; exact List.mem_cons_self) _ h, RelTs.pr x r⟩
theorem RelFs.pr (x : Pr W A H A' H') : ∀ {fs : List FV} {vs : List (Option V)} {G : List Addr}, (∀ a ∈ G, ∀ o, H a = some o → H' a = some o) → RelFs W A H fs vs G → RelFs W A' H' fs vs G
  | [], _, _, _, h => h
  | f :: fs, _, _, k, ⟨v, r, G1, G2, e1, e2, h1, h2⟩ =>
    ⟨v, r, G1, G2, e1, e2, h1.pr x (fun a m => k a (by rw [e2]; exact List.mem_append_left _ m)), RelFs.pr x (fun a m => k a (by rw [e2]; exact List.mem_append_right _ m)) h2⟩
theorem OwnI.ext {c : Nat} {a : Addr} {vs : List (Option V)} {G : List Addr} (k : ∀ a ∈ G, ∀ o, H a = some o → H' a = some o) (h : OwnI W H c a vs G) : OwnI W H' c a vs G := by
  unfold OwnI at h ⊢
  cases e : W.sl c with
  | false =>
    rw [e] at h
    obtain ⟨dx, xs, e1, e2, e3, e4⟩ := h
    exact ⟨dx, xs, e1, e2, e3, k a (by rw [e1]; exact List.mem_cons_self) _ e4⟩
  | true =>
    rw [e] at h
    obtain ⟨dx, e1, ne, h⟩ := h
    have ka := k a (by rw [e1]; exact List.mem_cons_self)
    have kd := k dx (by rw [e1]; exact List.mem_cons_of_mem _ List.mem_cons_self)
    rcases h with ⟨h0, h1, h2⟩ | ⟨h1, h2⟩
    · exact ⟨dx, e1, ne, .inl ⟨h0, ka _ h1, kd _ h2⟩⟩
    · exact ⟨dx, e1, ne, .inr ⟨ka _ h1, kd _ h2⟩⟩
theorem SlR.pr (x : Pr W A H A' H') : ∀ {s : SV} {v : Option V} {F : List Addr}, (∀ a ∈ F, ∀ o, H a = some o → H' a = some o) → SlR W A H s v F → SlR W A' H' s v F
  | .no, _, _, _, h => h
  | .val d, _, _, _, ⟨e, y, e2, h⟩ => ⟨e, y, e2, h.pr x⟩
  | .ol ds, _, _, k, ⟨a, vs, e, e2, h, r⟩ => ⟨a, vs, e, e2, k a (by rw [e]; exact List.mem_cons_self) _ h, RelDs.pr x r⟩
  | .oi c fs, _, _, k, ⟨a, vs, G1, G2, e, e2, h, r⟩ =>
    ⟨a, vs, G1, G2, e, e2, OwnI.ext (fun b m => k b (by rw [e]; exact List.mem_append_left _ m)) h, RelFs.pr x (fun b m => k b (by rw [e]; exact List.mem_append_right _ m)) r⟩
theorem Sl.pr (x : Pr W A H A' H') : ∀ {ρ : Env} {σ : St} {F : List Addr}, (∀ a ∈ F, ∀ o, H a = some o → H' a = some o) → Sl W A H ρ σ F → Sl W A' H' ρ σ F
  | [], _, _, _, h => h
  | s :: ρ, _, _, k, ⟨v, r, F1, F2, e1, e2, h1, h2⟩ =>
    ⟨v, r, F1, F2, e1, e2, h1.pr x (fun a m => k a (by rw [e2]; exact List.mem_append_left _ m)), Sl.pr x (fun a m => k a (by rw [e2]; exact List.mem_append_right _ m)) h2⟩

theorem RelF.ext (x : Ext A H A' H') {f : FV} {v : Option V} {G : List Addr} (k : ∀ a ∈ G, ∀ o, H a = some o → H' a = some o) (h : RelF W A H f v G) : RelF W A' H' f v G := h.pr x.pr k
theorem RelFs.ext (x : Ext A H A' H') {f : List FV} {v : List (Option V)} {G : List Addr} (k : ∀ a ∈ G, ∀ o, H a = some o → H' a = some o) (h : RelFs W A H f v G) : RelFs W A' H' f v G := h.pr x.pr k
theorem SlR.ext (x : Ext A H A' H') {f : SV} {v : Option V} {G : List Addr} (k : ∀ a ∈ G, ∀ o, H a = some o → H' a = some o) (h : SlR W A H f v G) : SlR W A' H' f v G := h.pr x.pr k
theorem Sl.ext (x : Ext A H A' H') {f : Env} {v : St} {G : List Addr} (k : ∀ a ∈ G, ∀ o, H a = some o → H' a = some o) (h : Sl W A H f v G) : Sl W A' H' f v G := h.pr x.pr k

/-! what is one's own is tracked -/
theorem RelF.there : ∀ {f : FV} {v : Option V} {G : List Addr}, RelF W A H f v G → ∀ a ∈ G, ∃ o, H a = some o
  | .no, _, _, ⟨_, e⟩, a, m => by rw [e] at m; cases m
  | .val d, _, _, ⟨e, _⟩, a, m => by rw [e] at m; cases m
  | .dK kvs, _, _, ⟨b, ws, e, _, h, _⟩, a, m => by rw [e] at m; rw [List.mem_singleton.mp m]; exact ⟨_, h⟩
  | .dT kvs, _, _, ⟨b, ws, e, _, h, _⟩, a, m => by rw [e] at m; rw [List.mem_singleton.mp m]; exact ⟨_, h⟩
theorem RelFs.there : ∀ {fs : List FV} {vs : List (Option V)} {G : List Addr}, RelFs W A H fs vs G → ∀ a ∈ G, ∃ o, H a = some o
  | [], _, _, ⟨_, e⟩, a, m => by rw [e] at m; cases m
  | f :: fs, _, _, ⟨_, _, G1, G2, _, e, h1, h2⟩, a, m => by
    rw [e] at m
    rcases List.mem_append.mp m with m | m
    · exact h1.there a m
    · exact RelFs.there h2 a m
theorem OwnI.there {c : Nat} {a : Addr} {vs : List (Option V)} {G : List Addr} (h : OwnI W H c a vs G) : ∀ b ∈ G, ∃ o, H b = some o := by
  intro b m
  unfold OwnI at h
  cases e : W.sl c with
  | false =>
    rw [e] at h
    obtain ⟨dx, xs, e1, _, _, e4⟩ := h
    rw [e1] at m; rw [List.mem_singleton.mp m]; exact ⟨_, e4⟩
  | true =>
    rw [e] at h
    obtain ⟨dx, e1, ne, h⟩ := h
    rw [e1] at m
    rcases List.mem_cons.mp m with m | m
    · rw [m]
      rcases h with ⟨_, h1, _⟩ | ⟨h1, _⟩ <;> exact ⟨_, h1⟩
    · rw [List.mem_singleton.mp m]
      rcases h with ⟨_, _, h1⟩ | ⟨_, h1⟩ <;> exact ⟨_, h1⟩
theorem SlR.there : ∀ {s : SV} {v : Option V} {F : List Addr}, SlR W A H s v F → ∀ a ∈ F, ∃ o, H a = some o
  | .no, _, _, e, a, m => by
    have e : _ = [] := e
    rw [e] at m; cases m
  | .val d, _, _, ⟨e, _⟩, a, m => by rw [e] at m; cases m
  | .ol ds, _, _, ⟨b, vs, e, _, h, _⟩, a, m => by rw [e] at m; rw [List.mem_singleton.mp m]; exact ⟨_, h⟩
  | .oi c fs, _, _, ⟨b, vs, G1, G2, e, _, h, r⟩, a, m => by
    rw [e] at m
    rcases List.mem_append.mp m with m | m
    · exact h.there a m
    · exact r.there a m
theorem Sl.there : ∀ {ρ : Env} {σ : St} {F : List Addr}, Sl W A H ρ σ F → ∀ a ∈ F, ∃ o, H a = some o
  | [], _, _, ⟨_, e⟩, a, m => by rw [e] at m; cases m
  | s :: ρ, _, _, ⟨_, _, F1, F2, _, e, h1, h2⟩, a, m => by
    rw [e] at m
    rcases List.mem_append.mp m with m | m
    · exact h1.there a m
    · exact Sl.there h2 a m

/-- one slot, and what the state is when that slot is another -/
theorem Sl.at : ∀ {ρ : Env} {σ : St} {F : List Addr} {i : Nat} {s : SV}, Sl W A H ρ σ F → ρ[i]? = some s → ∃ (v : Option V) (F1 Fi F2 : List Addr), σ[i]? = some v ∧ F = F1 ++ (Fi ++ F2) ∧ SlR W A H s v Fi ∧
    ∀ (A' : Addr → Prop) (H' : Hp) (s' : SV) (v' : Option V) (Fi' : List Addr), Ext A H A' H' → (∀ a, a ∈ F1 ∨ a ∈ F2 → ∀ o, H a = some o → H' a = some o) → SlR W A' H' s' v' Fi' → Sl W A' H' (ρ.set i s') (σ.set i v') (F1 ++ (Fi' ++ F2))
  | [], _, _, i, s, _, e => by cases i <;> cases e
  | t :: ρ, _, _, 0, s, ⟨v, r, F1, F2, e1, e2, h1, h2⟩, e => by
    cases e
    subst e1; subst e2
    refine ⟨v, [], F1, F2, rfl, rfl, h1, fun A' H' s' v' Fi' x k q => ⟨v', r, Fi', F2, rfl, rfl, q, Sl.ext x (fun a m => k a (.inr m)) h2⟩⟩
  | t :: ρ, _, _, i + 1, s, ⟨v, r, F1, F2, e1, e2, h1, h2⟩, e => by
    subst e1; subst e2
    obtain ⟨v1, G1, Gi, G2, q1, q2, q3, q4⟩ := Sl.at (i := i) (s := s) h2 (by simpa using e)
    subst q2
    refine ⟨v1, F1 ++ G1, Gi, G2, by simpa using q1, by simp [List.append_assoc], q3, fun A' H' s' v' Fi' x k q => ?_⟩
    refine ⟨v, r.set i v', F1, G1 ++ (Fi' ++ G2), rfl, by simp [List.append_assoc], h1.ext x (fun a m => k a (.inl (List.mem_append_left _ m))), ?_⟩
    exact q4 A' H' s' v' Fi' x (fun a m => k a (m.imp (List.mem_append_right _) id)) q
theorem Sl.val {ρ : Env} {σ : St} {F : List Addr} {i : Nat} {d : D} (h : Sl W A H ρ σ F) (e : ρ[i]? = some (.val d)) : ∃ x, σ[i]? = some (some x) ∧ RelD W A H d x := by
  obtain ⟨v, _, _, _, e1, _, ⟨_, x, e2, r⟩, _⟩ := h.at e
  exact ⟨x, by rw [e1, e2], r⟩
theorem Sl.length : ∀ {ρ : Env} {σ : St} {F : List Addr}, Sl W A H ρ σ F → ρ.length = σ.length
  | [], _, _, ⟨e, _⟩ => by rw [e]; rfl
  | s :: ρ, _, _, ⟨v, r, _, _, e, _, _, h⟩ => by rw [e]; simp [Sl.length h]
end

section
variable {W : Wd} {Φ : Fx} {H H' : Hp} {F : List Addr} {ρ : Env} {σ : St}
theorem RS.free (I : RS W Φ H F ρ σ) {p : Addr} (h : H p = none) : ¬ own Φ.O F p := fun o => by
  rcases o with o | o
  · obtain ⟨_, e⟩ := I.oo p o
    rw [h] at e; cases e
  · obtain ⟨_, e⟩ := I.sl.there p o
    rw [h] at e; cases e
/-- all that was tracked stays -/
theorem RS.same (I : RS W Φ H F ρ σ) (k : Same H H') : RS W Φ H' F ρ σ ∧ Ext (own Φ.O F) H (own Φ.O F) H' :=
  have x : Ext (own Φ.O F) H (own Φ.O F) H' := fun a o e n => ⟨k a o e, n⟩
  ⟨⟨I.sl.ext x (fun a _ o e => k a o e), I.nd, fun a o e m => k a o (I.st a o e m), I.fr, fun a o => (I.oo a o).imp fun u e => k a u e, I.dj, I.k0⟩, x⟩
/-- a slot is given something else -/
theorem RS.upd (I : RS W Φ H F ρ σ) {i : Nat} {s : SV} (e : ρ[i]? = some s) : ∃ (v : Option V) (F1 Fi F2 : List Addr), σ[i]? = some v ∧ F = F1 ++ (Fi ++ F2) ∧ SlR W (own Φ.O F) H s v Fi ∧
    ∀ (H' : Hp) (s' : SV) (v' : Option V) (Fi' : List Addr), (∀ a o, H a = some o → a ∉ Fi → H' a = some o) → (∀ a ∈ Fi', a ∈ Fi ∨ H a = none) → Fi'.Nodup → (i = 0 → s'.isOwn = true → v' = Φ.v0) →
      SlR W (own Φ.O (F1 ++ (Fi' ++ F2))) H' s' v' Fi' → RS W Φ H' (F1 ++ (Fi' ++ F2)) (ρ.set i s') (σ.set i v') ∧ Ext (own Φ.O F) H (own Φ.O (F1 ++ (Fi' ++ F2))) H' := by
  obtain ⟨v, F1, Fi, F2, e1, e2, h, k⟩ := I.sl.at e
  subst e2
  refine ⟨v, F1, Fi, F2, e1, rfl, h, fun H' s' v' Fi' kH kF nd' k0 hs => ?_⟩
  obtain ⟨nd1, nd2, nd12⟩ := List.nodup_append.mp I.nd
  obtain ⟨ndi, nd3, ndi2⟩ := List.nodup_append.mp nd2
  have old : ∀ a, a ∈ F1 ∨ a ∈ F2 → ∃ o, H a = some o := fun a m => I.sl.there a (by rcases m with m | m <;> simp [m])
  have apart : ∀ a, a ∈ F1 ∨ a ∈ F2 → a ∉ Fi := fun a m q => by
    rcases m with m | m
    · exact nd12 a m a (List.mem_append_left _ q) rfl
    · exact ndi2 a q a m rfl
  have apart' : ∀ a, a ∈ F1 ∨ a ∈ F2 → a ∉ Fi' := fun a m q => by
    rcases kF a q with z | z
    · exact apart a m z
    · obtain ⟨o, y⟩ := old a m
      rw [z] at y; cases y
  have x : Ext (own Φ.O (F1 ++ (Fi ++ F2))) H (own Φ.O (F1 ++ (Fi' ++ F2))) H' := fun a o q n => by
    have nFi : a ∉ Fi := fun z => n (.inr (by simp [z]))
    refine ⟨kH a o q nFi, fun z => ?_⟩
    rcases z with z | z
    · exact n (.inl z)
    · rcases List.mem_append.mp z with z | z
      · exact n (.inr (by simp [z]))
      · rcases List.mem_append.mp z with z | z
        · rcases kF a z with y | y
          · exact nFi y
          · rw [q] at y; cases y
        · exact n (.inr (by simp [z]))
  refine ⟨⟨k _ H' s' v' Fi' x (fun a m o q => kH a o q (apart a m)) hs, ?_, fun a o q m => ?_, fun a m => ?_, fun a q => ?_, fun a m q => ?_, fun s q1 q2 => ?_⟩, x⟩
  · refine List.nodup_append.mpr ⟨nd1, List.nodup_append.mpr ⟨nd', nd3, fun a m b m' z => ?_⟩, fun a m b m' z => ?_⟩
    · subst z; exact apart' a (.inr m') m
    · subst z
      rcases List.mem_append.mp m' with m' | m'
      · exact apart' a (.inl m) m'
      · exact nd12 a m a (List.mem_append_right _ m') rfl
  · refine kH a o (I.st a o q m) fun z => ?_
    rcases I.fr a (by simp [z]) with y | y
    · exact m y
    · rw [q] at y; cases y
  · rcases List.mem_append.mp m with m | m
    · exact I.fr a (by simp [m])
    · rcases List.mem_append.mp m with m | m
      · rcases kF a m with z | z
        · exact I.fr a (by simp [z])
        · by_cases y : a ∈ Φ.M
          · exact .inl y
          · right
            cases w : Φ.H0 a with
            | none => rfl
            | some o =>
              have := I.st a o w y
              rw [z] at this; cases this
      · exact I.fr a (by simp [m])
  · obtain ⟨o, y⟩ := I.oo a q
    exact ⟨o, kH a o y fun z => I.dj a (by simp [z]) q⟩
  · rcases List.mem_append.mp m with m | m
    · exact I.dj a (by simp [m]) q
    · rcases List.mem_append.mp m with m | m
      · rcases kF a m with z | z
        · exact I.dj a (by simp [z]) q
        · obtain ⟨o, y⟩ := I.oo a q
          rw [z] at y; cases y
      · exact I.dj a (by simp [m]) q
  · by_cases hi : i = 0
    · subst hi
      have hlt : 0 < ρ.length := (List.getElem?_eq_some_iff.mp e).1
      rw [List.getElem?_set_self hlt] at q1
      cases q1
      have hlt2 : 0 < σ.length := (List.getElem?_eq_some_iff.mp e1).1
      rw [List.getElem?_set_self hlt2, k0 rfl q2]
    · rw [List.getElem?_set_ne hi] at q1 ⊢
      exact I.k0 s q1 q2
/-- a slot is given a tree -/
theorem RS.setVal (I : RS W Φ H F ρ σ) {i : Nat} {s : SV} {d : D} {x : V} (e : ρ[i]? = some s) (r : RelD W (own Φ.O F) H d x) : ∃ F', RS W Φ H F' (ρ.set i (.val d)) (σ.set i (some x)) ∧ Ext (own Φ.O F) H (own Φ.O F') H := by
  obtain ⟨v, F1, Fi, F2, e1, e2, h, k⟩ := I.upd e
  have x0 : Ext (own Φ.O F) H (own Φ.O (F1 ++ ([] ++ F2))) H := fun a o q n => ⟨q, fun z => by
    subst e2
    rcases z with z | z
    · exact n (.inl z)
    · exact n (.inr (by simp at z; rcases z with z | z <;> simp [z]))⟩
  exact ⟨_, k H (.val d) (some x) [] (fun _ _ q _ => q) (fun _ m => nomatch m) List.nodup_nil (fun _ z => nomatch z) ⟨rfl, x, rfl, r.ext x0⟩⟩
end
end Tr
/- Tr3 -/
/-! Tr, part 3: expressions. -/
namespace Tr
open PySem L2

/-- what is wanted behind a part: of its end, of an exception -/
def Post {α β : Type} (Rl : (Addr → Prop) → Hp → α → β → Prop) (W : Wd) (Φ : Fx) (E : XK) (σ : St) (B : Addr → Prop) (H : Hp) (Q : β → Hp → Prop) : R α → Prop
  | .ok d ρ' => ∀ v H' F', RS W Φ H' F' ρ' σ → Ext B H (own Φ.O F') H' → Rl (own Φ.O F') H' d v → Q v H'
  | .exc c d ρ' => ∀ dx v H' F', RS W Φ H' F' ρ' σ → H' dx = some (.xd [("value", v)]) → RelD W (own Φ.O F') H' d v → E (.ref (W.Ca c)) (some dx) H'
  | .bad => False
section
variable {α β γ δ : Type} {Rl : (Addr → Prop) → Hp → α → β → Prop} {Rl' : (Addr → Prop) → Hp → γ → δ → Prop} {W : Wd} {Φ : Fx} {E : XK} {σ : St} {B B' : Addr → Prop} {H H' : Hp} {Q : β → Hp → Prop} {Q' : δ → Hp → Prop}
theorem Post.bnd {r : R α} {k : α → Env → R γ} (h : Post Rl' W Φ E σ B H Q' (bnd r k))
    (n : ∀ a ρ1 v H1 F1, r = .ok a ρ1 → RS W Φ H1 F1 ρ1 σ → Ext B H (own Φ.O F1) H1 → Rl (own Φ.O F1) H1 a v → Post Rl' W Φ E σ (own Φ.O F1) H1 Q' (k a ρ1) → Q v H1) : Post Rl W Φ E σ B H Q r := by
  cases r with
  | ok a ρ1 =>
    intro v H1 F1 I1 x1 r1
    refine n a ρ1 v H1 F1 rfl I1 x1 r1 ?_
    have h1 : Post Rl' W Φ E σ B H Q' (k a ρ1) := h
    cases e : k a ρ1 with
    | ok c ρ2 =>
      rw [e] at h1
      exact fun u H2 F2 I2 x2 r2 => h1 u H2 F2 I2 (x1.trans x2) r2
    | exc c d ρ2 => rw [e] at h1; exact h1
    | bad => rw [e] at h1; exact h1
  | exc c d ρ1 => exact h
  | bad => exact h
theorem Post.fin {a : α} {ρ : Env} (h : Post Rl W Φ E σ B H Q (.ok a ρ)) {v : β} {F : List Addr} (I : RS W Φ H' F ρ σ) (x : Ext B H (own Φ.O F) H') (r : Rl (own Φ.O F) H' a v) : Q v H' := h v H' F I x r
end
/-- what a set of places owns is tracked -/
def Tk (A : Addr → Prop) (H : Hp) : Prop := ∀ a, A a → ∃ o, H a = some o
theorem RS.tk {W : Wd} {Φ : Fx} {H : Hp} {F : List Addr} {ρ : Env} {σ : St} (I : RS W Φ H F ρ σ) : Tk (own Φ.O F) H := fun a o => by
  rcases o with o | o
  · exact I.oo a o
  · exact I.sl.there a o
theorem Tk.free {A : Addr → Prop} {H : Hp} (t : Tk A H) {p : Addr} (h : H p = none) : ¬ A p := fun o => by
  obtain ⟨_, e⟩ := t p o
  rw [h] at e; cases e
theorem same_ext {H H' : Hp} (k : Same H H') (A : Addr → Prop) : Ext A H A H' := fun a o e n => ⟨k a o e, n⟩
theorem same_new {H : Hp} {p : Addr} {o : HO} (h : H p = none) : Same H (upd H p o) := fun a u e => by
  rw [upd_ne (ne_of_none e h)]; exact e

abbrev PostE (W : Wd) := Post (RelD W) W
abbrev PostL (W : Wd) := Post (RelDs W) W
abbrev PostT (W : Wd) := Post (fun (_ : Addr → Prop) (_ : Hp) (a b : Bool) => a = b) W

/-- an expression does m -/
structure SE (X : Cx) (W : Wd) (E : XK) (e : Expr) (m : EM) : Prop where
  ex : ∃ t, PE X e t ∧ ∀ (Φ : Fx) (H : Hp) (F : List Addr) (ρ : Env) (σ : St) (Q : VK), RS W Φ H F ρ σ → PostE W Φ E σ (own Φ.O F) H Q (m ρ) → t σ H Q
structure ST (X : Cx) (W : Wd) (E : XK) (e : Expr) (m : TM) : Prop where
  ex : ∃ t, PT X e t ∧ ∀ (Φ : Fx) (H : Hp) (F : List Addr) (ρ : Env) (σ : St) (Q : Bool → Hp → Prop), RS W Φ H F ρ σ → PostT W Φ E σ (own Φ.O F) H Q (m ρ) → t σ H Q
structure SW (X : Cx) (W : Wd) (E : XK) (e : Expr) (m : TM) : Prop where
  ex : ∃ t, PW X e t ∧ ∀ (Φ : Fx) (H : Hp) (F : List Addr) (ρ : Env) (σ : St) (Q : Bool → Hp → Prop), RS W Φ H F ρ σ → PostT W Φ E σ (own Φ.O F) H Q (m ρ) → t σ H Q
structure SA (X : Cx) (W : Wd) (E : XK) (es : List Expr) (m : LM) : Prop where
  ex : ∃ t, PA X es t ∧ ∀ (Φ : Fx) (H : Hp) (F : List Addr) (ρ : Env) (σ : St) (Q : List V → Hp → Prop), RS W Φ H F ρ σ → PostL W Φ E σ (own Φ.O F) H Q (m ρ) → t σ H Q

/-- an operator by values -/
structure OpD (X : Cx) (W : Wd) (f : Value → Value → Sem Value) (g : D → D → Option D) : Prop where
  ex : ∃ r, OpR X f r ∧ ∀ (A : Addr → Prop) (H : Hp) (x y d : D) (v u : V) (Q : VK), Tk A H → RelD W A H x v → RelD W A H y u → g x y = some d → (∀ z H', Same H H' → RelD W A H' d z → Q z H') → r v u H Q
structure UnD (X : Cx) (W : Wd) (f : Value → Sem Value) (g : D → Option D) : Prop where
  ex : ∃ r, UnR X f r ∧ ∀ (A : Addr → Prop) (H : Hp) (x d : D) (v : V) (Q : VK), Tk A H → RelD W A H x v → g x = some d → (∀ z H', Same H H' → RelD W A H' d z → Q z H') → r v H Q
structure CallD (X : Cx) (W : Wd) (f : Value) (g : List D → Option D) : Prop where
  ex : ∃ r, CallR X f r ∧ ∀ (A : Addr → Prop) (H : Hp) (xs : List D) (d : D) (vs : List V) (Q : VK), Tk A H → RelDs W A H xs vs → g xs = some d → (∀ z H', Same H H' → RelD W A H' d z → Q z H') → r vs H Q

section
variable {X : Cx} {W : Wd} {E : XK} {a b c e : Expr} {es : List Expr} {ma mb mc : EM} {ml : LM} {pos p : Pos}
/-! ### names and constants -/
theorem se_v (i : Nat) {x : Str} (hN : X.N[i]? = some x := by rfl) (hv : Vis X.env.scope x := by first | exact Or.inl rfl | exact Or.inr (Or.inl rfl) | exact Or.inr (Or.inr rfl)) (hd : (x == ("__debug__" : Str)) = false := by decide)
    (hcd : (x == ("__classdict__" : Str)) = false := by decide) : SE X W E (.Name x pos) (eV i) := by
  refine ⟨_, pe_var (i := i) hN hv hd hcd, fun Φ H F ρ σ Q I h => ?_⟩
  unfold eV at h
  cases q : ρ[i]? with
  | none => rw [q] at h; exact h.elim
  | some s =>
    rw [q] at h
    cases s with
    | val d =>
      obtain ⟨v, e, r⟩ := I.sl.val q
      exact ⟨v, e, h v H F I (Ext.refl _ _) r⟩
    | _ => exact h.elim
theorem relD_non {A : Addr → Prop} {H : Hp} : RelD W A H .non .non := by unfold RelD; rfl
theorem relD_int {A : Addr → Prop} {H : Hp} {i : Int} : RelD W A H (.int i) (.int i) := by unfold RelD; rfl
theorem relD_bl {A : Addr → Prop} {H : Hp} {i : Bool} : RelD W A H (.bl i) (.bl i) := by unfold RelD; rfl
theorem relD_str {A : Addr → Prop} {H : Hp} {i : Str} : RelD W A H (.str i) (.str i) := by unfold RelD; rfl
theorem se_c {d : D} {v : V} (h : PE X e (tC v)) (r : ∀ A H, RelD W A H d v) : SE X W E e (eC d) := ⟨_, h, fun Φ H F ρ σ Q I h => h v H F I (Ext.refl _ _) (r _ _)⟩
theorem se_int {i : Int} {j} : SE X W E (.Constant (.int i) j pos) (eC (.int i)) := se_c pe_int fun _ _ => relD_int
theorem se_bl {i : Bool} {j} : SE X W E (.Constant (.bool i) j pos) (eC (.bl i)) := se_c pe_bl fun _ _ => relD_bl
theorem se_str {i : Str} {j} : SE X W E (.Constant (.str i) j pos) (eC (.str i)) := se_c pe_str fun _ _ => relD_str
theorem se_non {j} : SE X W E (.Constant .none j pos) (eC .non) := se_c pe_non fun _ _ => relD_non
/-- a constant of the module -/
theorem se_gI {x : Str} {i : Int} (hg : Gl X x) (hm : ∃ t, X.mg x = some (.int i t)) (hd : (x == ("__debug__" : Str)) = false := by decide) : SE X W E (.Name x pos) (eC (.int i)) := by
  obtain ⟨t, hm⟩ := hm
  exact se_c (pe_glob (v := .int i) hg hm ⟨t, rfl⟩ hd) fun _ _ => relD_int
theorem se_gS {x : Str} {i : Str} (hg : Gl X x) (hm : ∃ t, X.mg x = some (.str i t)) (hd : (x == ("__debug__" : Str)) = false := by decide) : SE X W E (.Name x pos) (eC (.str i)) := by
  obtain ⟨t, hm⟩ := hm
  exact se_c (pe_glob (v := .str i) hg hm ⟨t, rfl⟩ hd) fun _ _ => relD_str

/-! ### operators -/
theorem op_run {g : D → D → Option D} {r : R2} {Φ : Fx} {H : Hp} {F : List Addr} {ρ : Env} {σ : St} {Q : VK} {x y : D} {v u : V}
    (kr : ∀ (A : Addr → Prop) (H : Hp) (x y d : D) (v u : V) (Q : VK), Tk A H → RelD W A H x v → RelD W A H y u → g x y = some d → (∀ z H', Same H H' → RelD W A H' d z → Q z H') → r v u H Q)
    (I : RS W Φ H F ρ σ) (rx : RelD W (own Φ.O F) H x v) (ry : RelD W (own Φ.O F) H y u) (h : PostE W Φ E σ (own Φ.O F) H Q (optR (g x y) ρ)) : r v u H Q := by
  cases e : g x y with
  | none => rw [e] at h; exact h.elim
  | some d =>
    rw [e] at h
    exact kr _ H x y d v u Q I.tk rx ry e fun z H' k rz => h z H' F (I.same k).1 (I.same k).2 rz
theorem se_op {op : Operator} {g : D → D → Option D} (ho : OpD X W (binaryOp op) g) (ha : SE X W E a ma) (hb : SE X W E b mb) : SE X W E (.BinOp a op b pos) (eOp g ma mb) := by
  obtain ⟨ta, pa, ka⟩ := ha
  obtain ⟨tb, pb, kb⟩ := hb
  obtain ⟨r, hr, kr⟩ := ho
  refine ⟨_, pe_op hr pa pb, fun Φ H F ρ σ Q I h => ?_⟩
  refine ka _ _ _ _ _ _ I (h.bnd fun x ρ1 v H1 F1 _ I1 x1 r1 h1 => ?_)
  refine kb _ _ _ _ _ _ I1 (h1.bnd fun y ρ2 u H2 F2 _ I2 x2 r2 h2 => ?_)
  exact op_run kr I2 (r1.ext x2) r2 h2
theorem se_un {op : UnaryOp} {g : D → Option D} (ho : UnD X W (unaryOp op) g) (ha : SE X W E a ma) : SE X W E (.UnaryOp op a pos) (eUn g ma) := by
  obtain ⟨ta, pa, ka⟩ := ha
  obtain ⟨r, hr, kr⟩ := ho
  refine ⟨_, pe_un hr pa, fun Φ H F ρ σ Q I h => ?_⟩
  refine ka _ _ _ _ _ _ I (h.bnd fun x ρ1 v H1 F1 _ I1 x1 r1 h1 => ?_)
  cases e : g x with
  | none => rw [e] at h1; exact h1.elim
  | some d =>
    rw [e] at h1
    exact kr _ H1 x d v Q I1.tk r1 e fun z H' k rz => h1 z H' F1 (I1.same k).1 (I1.same k).2 rz
theorem se_cmp {op : CmpOp} {g : D → D → Option D} (ho : OpD X W (compareOp op) g) (ha : SE X W E a ma) (hb : SE X W E b mb) (hm : behindInMarks op b = false) : SE X W E (.Compare a [op] [b] pos) (eOp g ma mb) := by
  obtain ⟨ta, pa, ka⟩ := ha
  obtain ⟨tb, pb, kb⟩ := hb
  obtain ⟨r, hr, kr⟩ := ho
  refine ⟨_, pe_cmpR hr pa pb hm, fun Φ H F ρ σ Q I h => ?_⟩
  refine ka _ _ _ _ _ _ I (h.bnd fun x ρ1 v H1 F1 _ I1 x1 r1 h1 => ?_)
  refine kb _ _ _ _ _ _ I1 (h1.bnd fun y ρ2 u H2 F2 _ I2 x2 r2 h2 => ?_)
  exact op_run kr I2 (r1.ext x2) r2 h2
/-- a value, as the test of it: for a bool's rules -/
theorem relD_bl_inv {A : Addr → Prop} {H : Hp} {k : Bool} {v : V} (h : RelD W A H (.bl k) v) : v = .bl k := by unfold RelD at h; exact h
theorem optR_post {α β : Type} {Rl : (Addr → Prop) → Hp → α → β → Prop} {Φ : Fx} {σ : St} {B : Addr → Prop} {H : Hp} {Q : β → Hp → Prop} {o : Option α} {ρ : Env} (h : Post Rl W Φ E σ B H Q (optR o ρ)) : ∃ d, o = some d ∧ Post Rl W Φ E σ B H Q (.ok d ρ) := by
  cases o with
  | none => exact h.elim
  | some d => exact ⟨d, rfl, h⟩
theorem se_chain {op op' : CmpOp} {g g' : D → D → Option D} (ho : OpD X W (compareOp op) g) (ho' : OpD X W (compareOp op') g') (ha : SE X W E a ma) (hb : SE X W E b mb) (hc : SE X W E c mc)
    (hm : lastMarks [op, op'] [b, c] = false := by with_unfolding_all rfl) : SE X W E (.Compare a [op, op'] [b, c] pos) (eChain g g' ma mb mc) := by
  obtain ⟨ta, pa, ka⟩ := ha
  obtain ⟨tb, pb, kb⟩ := hb
  obtain ⟨tc, pc, kc⟩ := hc
  obtain ⟨r, hr, kr⟩ := ho
  obtain ⟨r', hr', kr'⟩ := ho'
  refine ⟨_, pe_chain hr hr' pa pb pc hm, fun Φ H F ρ σ Q I h => ?_⟩
  refine ka _ _ _ _ _ _ I (h.bnd fun x ρ1 v H1 F1 _ I1 x1 r1 h1 => ?_)
  refine kb _ _ _ _ _ _ I1 (h1.bnd fun y ρ2 u H2 F2 _ I2 x2 r2 h2 => ?_)
  refine op_run kr I2 (r1.ext x2) r2 (h2.bnd fun z ρ3 w H3 F3 _ I3 x3 r3 h3 => ?_)
  cases z with
  | bl k =>
    refine ⟨k, relD_bl_inv r3, ?_⟩
    cases k with
    | true =>
      refine iteT (kc _ _ _ _ _ _ I3 (Post.bnd h3 fun z ρ4 w H4 F4 _ I4 x4 r4 h4 => ?_))
      exact op_run kr' I4 (r2.ext (x3.trans x4)) r4 h4
    | false => exact iteF (h3 _ _ _ I3 (Ext.refl _ _) relD_bl)
  | _ => exact h3.elim
theorem se_one {op} (ha : SE X W E a ma) : SE X W E (.BoolOp op [a] pos) ma := by
  obtain ⟨ta, pa, ka⟩ := ha
  exact ⟨_, pe_one pa, ka⟩
theorem se_and {rest : List Expr} (ha : SE X W E a ma) (hb : SE X W E (.BoolOp .And (b :: rest) pos) mb) : SE X W E (.BoolOp .And (a :: b :: rest) pos) (eAnd ma mb) := by
  obtain ⟨ta, pa, ka⟩ := ha
  obtain ⟨tb, pb, kb⟩ := hb
  refine ⟨_, pe_and pa pb, fun Φ H F ρ σ Q I h => ?_⟩
  refine ka _ _ _ _ _ _ I (h.bnd fun x ρ1 v H1 F1 _ I1 x1 r1 h1 => ?_)
  cases x with
  | bl k =>
    refine ⟨k, relD_bl_inv r1, ?_⟩
    cases k with
    | true => exact iteT (kb _ _ _ _ _ _ I1 h1)
    | false => exact iteF (h1 _ _ _ I1 (Ext.refl _ _) relD_bl)
  | _ => exact h1.elim
theorem se_or {rest : List Expr} (ha : SE X W E a ma) (hb : SE X W E (.BoolOp .Or (b :: rest) pos) mb) : SE X W E (.BoolOp .Or (a :: b :: rest) pos) (eOr ma mb) := by
  obtain ⟨ta, pa, ka⟩ := ha
  obtain ⟨tb, pb, kb⟩ := hb
  refine ⟨_, pe_or pa pb, fun Φ H F ρ σ Q I h => ?_⟩
  refine ka _ _ _ _ _ _ I (h.bnd fun x ρ1 v H1 F1 _ I1 x1 r1 h1 => ?_)
  cases x with
  | bl k =>
    refine ⟨k, relD_bl_inv r1, ?_⟩
    cases k with
    | true => exact iteT (h1 _ _ _ I1 (Ext.refl _ _) relD_bl)
    | false => exact iteF (kb _ _ _ _ _ _ I1 h1)
  | _ => exact h1.elim
theorem se_not (ha : SE X W E a ma) : SE X W E (.UnaryOp .Not a pos) (eNot ma) := by
  obtain ⟨ta, pa, ka⟩ := ha
  refine ⟨_, pe_not pa, fun Φ H F ρ σ Q I h => ?_⟩
  refine ka _ _ _ _ _ _ I (h.bnd fun x ρ1 v H1 F1 _ I1 x1 r1 h1 => ?_)
  cases x with
  | bl k => exact ⟨k, relD_bl_inv r1, h1 _ _ _ I1 (Ext.refl _ _) relD_bl⟩
  | _ => exact h1.elim
variable {mt mu : TM}
theorem se_if (hc : ST X W E c mt) (ha : SE X W E a ma) (hb : SE X W E b mb) : SE X W E (.IfExp c a b pos) (eIf mt ma mb) := by
  obtain ⟨tc, pc, kc⟩ := hc
  obtain ⟨ta, pa, ka⟩ := ha
  obtain ⟨tb, pb, kb⟩ := hb
  refine ⟨_, pe_ifExp pc pa pb, fun Φ H F ρ σ Q I h => ?_⟩
  refine kc _ _ _ _ _ _ I (h.bnd fun k ρ1 v H1 F1 _ I1 x1 r1 h1 => ?_)
  subst r1
  cases k with
  | true => exact iteT (ka _ _ _ _ _ _ I1 h1)
  | false => exact iteF (kb _ _ _ _ _ _ I1 h1)

/-! ### tests -/
/-- what a test of a value asks: the value is a bool -/
theorem tb_run {Φ : Fx} {H : Hp} {F : List Addr} {σ : St} {Q : Bool → Hp → Prop} {te : TE} {m : EM} {ρ : Env} (k : ∀ (Φ : Fx) (H : Hp) (F : List Addr) (ρ : Env) (σ : St) (Q : VK), RS W Φ H F ρ σ → PostE W Φ E σ (own Φ.O F) H Q (m ρ) → te σ H Q)
    (I : RS W Φ H F ρ σ) (h : PostT W Φ E σ (own Φ.O F) H Q (tE m ρ)) : te σ H fun x H' => ∃ k, x = .bl k ∧ Q k H' := by
  refine k _ _ _ _ _ _ I (h.bnd fun x ρ1 v H1 F1 _ I1 x1 r1 h1 => ?_)
  obtain ⟨b, e, h2⟩ := optR_post h1
  cases x with
  | bl z =>
    cases e
    exact ⟨_, relD_bl_inv r1, h2 _ _ _ I1 (Ext.refl _ _) rfl⟩
  | _ => cases e
theorem st_val (ha : SE X W E a ma) (he : ∀ whole, isTrue a X.env whole = (do let v ← whole; standAt a.pos; holding [v] (truthy v)) := by intro _; rfl) : ST X W E a (tE ma) := by
  obtain ⟨ta, pa, ka⟩ := ha
  exact ⟨_, pt_val pa he, fun Φ H F ρ σ Q I h => tb_run ka I h⟩
theorem st_cmp {op : CmpOp} {g : D → D → Option D} (ho : OpD X W (compareOp op) g) (ha : SE X W E a ma) (hb : SE X W E b mb) (hm : behindInMarks op b = false) : ST X W E (.Compare a [op] [b] pos) (tE (eOp g ma mb)) := by
  obtain ⟨ta, pa, ka⟩ := ha
  obtain ⟨tb, pb, kb⟩ := hb
  obtain ⟨r, hr, kr⟩ := ho
  refine ⟨_, pt_cmpR hr pa pb hm, fun Φ H F ρ σ Q I h => tb_run (m := eOp g ma mb) (fun Φ H F ρ σ Q I h => ?_) I h⟩
  refine ka _ _ _ _ _ _ I (h.bnd fun x ρ1 v H1 F1 _ I1 x1 r1 h1 => ?_)
  refine kb _ _ _ _ _ _ I1 (h1.bnd fun y ρ2 u H2 F2 _ I2 x2 r2 h2 => ?_)
  exact op_run kr I2 (r1.ext x2) r2 h2
theorem st_chain {op op' : CmpOp} {g g' : D → D → Option D} (ho : OpD X W (compareOp op) g) (ho' : OpD X W (compareOp op') g') (ha : SE X W E a ma) (hb : SE X W E b mb) (hc : SE X W E c mc)
    (hm : lastMarks [op, op'] [b, c] = false := by with_unfolding_all rfl) : ST X W E (.Compare a [op, op'] [b, c] pos) (tE (eChain g g' ma mb mc)) := by
  obtain ⟨ta, pa, ka⟩ := ha
  obtain ⟨tb, pb, kb⟩ := hb
  obtain ⟨tc, pc, kc⟩ := hc
  obtain ⟨r, hr, kr⟩ := ho
  obtain ⟨r', hr', kr'⟩ := ho'
  refine ⟨_, pt_chain hr hr' pa pb pc hm, fun Φ H F ρ σ Q I h => tb_run (m := eChain g g' ma mb mc) (fun Φ H F ρ σ Q I h => ?_) I h⟩
  refine ka _ _ _ _ _ _ I (h.bnd fun x ρ1 v H1 F1 _ I1 x1 r1 h1 => ?_)
  refine kb _ _ _ _ _ _ I1 (h1.bnd fun y ρ2 u H2 F2 _ I2 x2 r2 h2 => ?_)
  refine op_run kr I2 (r1.ext x2) r2 (h2.bnd fun z ρ3 w H3 F3 _ I3 x3 r3 h3 => ?_)
  cases z with
  | bl k =>
    refine ⟨k, relD_bl_inv r3, ?_⟩
    cases k with
    | true =>
      refine iteT (kc _ _ _ _ _ _ I3 (Post.bnd h3 fun z ρ4 w H4 F4 _ I4 x4 r4 h4 => ?_))
      exact op_run kr' I4 (r2.ext (x3.trans x4)) r4 h4
    | false => exact iteF (h3 _ _ _ I3 (Ext.refl _ _) relD_bl)
  | _ => exact h3.elim
theorem st_not (ha : ST X W E a mt) : ST X W E (.UnaryOp .Not a pos) (tNotM mt) := by
  obtain ⟨ta, pa, ka⟩ := ha
  refine ⟨_, pt_not pa, fun Φ H F ρ σ Q I h => ?_⟩
  refine ka _ _ _ _ _ _ I (h.bnd fun k ρ1 v H1 F1 _ I1 x1 r1 h1 => ?_)
  subst r1
  exact h1 _ _ _ I1 (Ext.refl _ _) rfl
theorem sw_t (h : SW X W E a mt) : ST X W E a mt := by
  obtain ⟨ta, pa, ka⟩ := h
  exact ⟨_, pa.pt, ka⟩
theorem sw_and1 (ha : ST X W E a mt) : SW X W E (.BoolOp .And [a] pos) mt := by
  obtain ⟨ta, pa, ka⟩ := ha
  exact ⟨_, pw_and1 pa, ka⟩
theorem sw_or1 (ha : ST X W E a mt) : SW X W E (.BoolOp .Or [a] pos) mt := by
  obtain ⟨ta, pa, ka⟩ := ha
  exact ⟨_, pw_or1 pa, ka⟩
theorem sw_and {rest : List Expr} (ha : ST X W E a mt) (hb : SW X W E (.BoolOp .And (b :: rest) pos) mu) : SW X W E (.BoolOp .And (a :: b :: rest) pos) (tAndM mt mu) := by
  obtain ⟨ta, pa, ka⟩ := ha
  obtain ⟨tb, pb, kb⟩ := hb
  refine ⟨_, pw_and pa pb, fun Φ H F ρ σ Q I h => ?_⟩
  refine ka _ _ _ _ _ _ I (h.bnd fun k ρ1 v H1 F1 _ I1 x1 r1 h1 => ?_)
  subst r1
  cases k with
  | true => exact iteT (kb _ _ _ _ _ _ I1 h1)
  | false => exact iteF (h1 _ _ _ I1 (Ext.refl _ _) rfl)
theorem sw_or {rest : List Expr} (ha : ST X W E a mt) (hb : SW X W E (.BoolOp .Or (b :: rest) pos) mu) : SW X W E (.BoolOp .Or (a :: b :: rest) pos) (tOrM mt mu) := by
  obtain ⟨ta, pa, ka⟩ := ha
  obtain ⟨tb, pb, kb⟩ := hb
  refine ⟨_, pw_or pa pb, fun Φ H F ρ σ Q I h => ?_⟩
  refine ka _ _ _ _ _ _ I (h.bnd fun k ρ1 v H1 F1 _ I1 x1 r1 h1 => ?_)
  subst r1
  cases k with
  | true => exact iteT (h1 _ _ _ I1 (Ext.refl _ _) rfl)
  | false => exact iteF (kb _ _ _ _ _ _ I1 h1)

/-! ### lists of arguments, displays, built-ins -/
theorem relDs_nil {A : Addr → Prop} {H : Hp} : RelDs W A H [] [] := by unfold RelDs; rfl
theorem relDs_cons {A : Addr → Prop} {H : Hp} {d : D} {ds : List D} {v : V} {vs : List V} (h : RelD W A H d v) (t : RelDs W A H ds vs) : RelDs W A H (d :: ds) (v :: vs) := by unfold RelDs; exact ⟨v, vs, rfl, h, t⟩
theorem relDs_app {A : Addr → Prop} {H : Hp} : ∀ {ds es : List D} {vs ws : List V}, RelDs W A H ds vs → RelDs W A H es ws → RelDs W A H (ds ++ es) (vs ++ ws)
  | [], _, vs, _, h, t => by unfold RelDs at h; subst h; exact t
  | d :: ds, _, vs, _, h, t => by
    unfold RelDs at h
    obtain ⟨v, r, rfl, h1, h2⟩ := h
    exact relDs_cons h1 (relDs_app h2 t)
theorem relDs_len {A : Addr → Prop} {H : Hp} : ∀ {ds : List D} {vs : List V}, RelDs W A H ds vs → ds.length = vs.length
  | [], _, h => by unfold RelDs at h; subst h; rfl
  | d :: ds, _, h => by
    unfold RelDs at h
    obtain ⟨v, r, rfl, h1, h2⟩ := h
    simp [relDs_len h2]
theorem relDs_get {A : Addr → Prop} {H : Hp} : ∀ {ds : List D} {vs : List V} {i : Nat} {d : D}, RelDs W A H ds vs → ds[i]? = some d → ∃ v, vs[i]? = some v ∧ RelD W A H d v
  | [], _, _, _, _, e => by cases e
  | d :: ds, _, 0, _, h, e => by
    unfold RelDs at h
    obtain ⟨v, r, rfl, h1, h2⟩ := h
    cases e
    exact ⟨v, rfl, h1⟩
  | d :: ds, _, i + 1, _, h, e => by
    unfold RelDs at h
    obtain ⟨v, r, rfl, h1, h2⟩ := h
    exact relDs_get (i := i) h2 (by simpa using e)
theorem relDs_get' {A : Addr → Prop} {H : Hp} : ∀ {ds : List D} {vs : List V} {i : Nat} {v : V}, RelDs W A H ds vs → vs[i]? = some v → ∃ d, ds[i]? = some d ∧ RelD W A H d v
  | [], _, _, _, h, e => by unfold RelDs at h; subst h; cases e
  | d :: ds, _, 0, _, h, e => by
    unfold RelDs at h
    obtain ⟨v, r, rfl, h1, h2⟩ := h
    cases e
    exact ⟨d, rfl, h1⟩
  | d :: ds, _, i + 1, _, h, e => by
    unfold RelDs at h
    obtain ⟨v, r, rfl, h1, h2⟩ := h
    exact relDs_get' (i := i) h2 (by simpa using e)
theorem sa_nil : SA X W E [] lNil := ⟨_, pa_nil, fun Φ H F ρ σ Q I h => h _ _ _ I (Ext.refl _ _) relDs_nil⟩
theorem sa_cons (ha : SE X W E e ma) (hl : SA X W E es ml) (hs : starEach (e :: es) X.env = (false, eval e X.env) :: starEach es X.env := by rfl) : SA X W E (e :: es) (lCons ma ml) := by
  obtain ⟨ta, pa, ka⟩ := ha
  obtain ⟨tl, pl, kl⟩ := hl
  refine ⟨_, pa_cons pa pl hs, fun Φ H F ρ σ Q I h => ?_⟩
  refine ka _ _ _ _ _ _ I (h.bnd fun x ρ1 v H1 F1 _ I1 x1 r1 h1 => ?_)
  refine kl _ _ _ _ _ _ I1 (h1.bnd fun xs ρ2 vs H2 F2 _ I2 x2 r2 h2 => ?_)
  exact h2 _ _ _ I2 (Ext.refl _ _) (relDs_cons (r1.ext x2) r2)
theorem rd_seq {K : PySem.W.Frag} {H : Hp} {a : Addr} {vs : List V} {d : D} (h : Rd H a (.lst vs)) : SqL K H a vs := .inl h
/-- the items of a tree -/
theorem items_run {A : Addr → Prop} {H : Hp} {K : PySem.W.Frag} {d : D} {ds : List D} {v : V} (e : items d = some ds) (r : RelD W A H d v) : ∃ a vs, v = .ref a ∧ ¬ A a ∧ (SqT K H a vs ∨ SqL K H a vs) ∧ RelDs W A H ds vs := by
  cases d with
  | tup xs =>
    cases e
    unfold RelD at r
    obtain ⟨a, vs, e, n, h, q⟩ := r
    exact ⟨a, vs, e, n, .inl (.of h), q⟩
  | lst xs =>
    cases e
    unfold RelD at r
    obtain ⟨a, vs, e, n, h, q⟩ := r
    exact ⟨a, vs, e, n, .inr (.inl h), q⟩
  | _ => cases e
theorem sa_star (ha : SE X W E e ma) (hl : SA X W E es ml) : SA X W E (.Starred e p :: es) (lStar ma ml) := by
  obtain ⟨ta, pa, ka⟩ := ha
  obtain ⟨tl, pl, kl⟩ := hl
  refine ⟨_, StX.pa_star pa pl, fun Φ H F ρ σ Q I h => ?_⟩
  refine ka _ _ _ _ _ _ I (h.bnd fun x ρ1 v H1 F1 _ I1 x1 r1 h1 => ?_)
  cases q : items x with
  | none => rw [q] at h1; exact h1.elim
  | some ds =>
    rw [q] at h1
    obtain ⟨a, vs, e, n, s, rs⟩ := items_run (K := X.K) q r1
    refine ⟨a, vs, e, s, kl _ _ _ _ _ _ I1 (Post.bnd h1 fun xs ρ2 ws H2 F2 _ I2 x2 r2 h2 => ?_)⟩
    exact h2 _ _ _ I2 (Ext.refl _ _) (relDs_app (rs.ext x2) r2)
theorem capped_post {Φ : Fx} {σ : St} {B : Addr → Prop} {H : Hp} {Q : VK} {xs : List D} {ρ : Env} {r : R D} (h : PostE W Φ E σ B H Q (capped xs ρ r)) : xs.length ≤ sizeLine ∧ PostE W Φ E σ B H Q r := by
  unfold capped at h
  split at h
  · exact ⟨Nat.le_trans (by assumption) cap_le, h⟩
  · exact h.elim
theorem se_tup {x1} (hl : SA X W E es ml) : SE X W E (.Tuple es x1 pos) (eTup ml) := by
  obtain ⟨tl, pl, kl⟩ := hl
  refine ⟨_, pe_tup pl, fun Φ H F ρ σ Q I h => ?_⟩
  refine kl _ _ _ _ _ _ I (h.bnd fun xs ρ1 vs H1 F1 em I1 x1 r1 h1 => ?_)
  obtain ⟨hz, h1⟩ := capped_post h1
  refine ⟨by rw [← relDs_len r1]; exact hz, fun q hq => ?_⟩
  have k : Same H1 (upd H1 q (.tup vs)) := same_new hq
  refine h1 _ _ _ (I1.same k).1 (I1.same k).2 ?_
  unfold RelD
  exact ⟨q, vs, rfl, I1.free hq, upd_same, r1.ext (same_ext k _)⟩
theorem se_lst (hl : SA X W E es ml) : SE X W E (.List es pos) (eLst ml) := by
  obtain ⟨tl, pl, kl⟩ := hl
  refine ⟨_, pe_lst pl, fun Φ H F ρ σ Q I h => ?_⟩
  refine kl _ _ _ _ _ _ I (h.bnd fun xs ρ1 vs H1 F1 em I1 x1 r1 h1 => ?_)
  obtain ⟨hz, h1⟩ := capped_post h1
  refine ⟨by rw [← relDs_len r1]; exact hz, fun q hq => ?_⟩
  have k : Same H1 (upd H1 q (.lst vs)) := same_new hq
  refine h1 _ _ _ (I1.same k).1 (I1.same k).2 ?_
  unfold RelD
  exact ⟨q, vs, rfl, I1.free hq, .inl upd_same, r1.ext (same_ext k _)⟩
/-- a built-in called -/
theorem callB_run {Φ : Fx} {H : Hp} {F : List Addr} {ρ : Env} {σ : St} {Q : VK} {xs : List D} {vs : List V} {g : List D → Option D} {r : List V → Hp → VK → Prop}
    (kr : ∀ (A : Addr → Prop) (H : Hp) (xs : List D) (d : D) (vs : List V) (Q : VK), Tk A H → RelDs W A H xs vs → g xs = some d → (∀ z H', Same H H' → RelD W A H' d z → Q z H') → r vs H Q)
    (I : RS W Φ H F ρ σ) (rx : RelDs W (own Φ.O F) H xs vs) (h : PostE W Φ E σ (own Φ.O F) H Q (optR (g xs) ρ)) : r vs H Q := by
  obtain ⟨d, e, h⟩ := optR_post h
  exact kr _ H xs d vs Q I.tk rx e fun z H' k rz => h z H' F (I.same k).1 (I.same k).2 rz
theorem se_bi {x : Str} {id : String} {g : List D → Option D} (hc : CallD X W (.builtin id) g) (hg : Gl X x) (hm : X.mg x = none) (hv : bootBuiltins x = some (.builtin id)) (hl : SA X W E (e :: es) ml)
    (hn : x ≠ "__name__" := by decide) (hdb : (x == ("__debug__" : Str)) = false := by decide) (he : starEach (e :: es) X.env = (false, eval e X.env) :: starEach es X.env := by rfl) (hpl : (backTo pos (starEach es X.env)).any (·.1) = false := by rfl) :
    SE X W E (.Call (.Name x p) (e :: es) [] pos) (eB g ml) := by
  obtain ⟨r, hr, kr⟩ := hc
  obtain ⟨tl, pl, kl⟩ := hl
  refine ⟨_, pe_callB hr hg hm hv pl hn hdb he hpl, fun Φ H F ρ σ Q I h => ?_⟩
  exact kl _ _ _ _ _ _ I (h.bnd fun xs ρ1 vs H1 F1 _ I1 x1 r1 h1 => callB_run kr I1 r1 h1)
theorem se_ty {x : Str} {T : String} {g : List D → Option D} (hc : CallD X W (.type T) g) (hg : Gl X x) (hm : X.mg x = none) (hv : bootBuiltins x = some (.type T)) (hl : SA X W E (e :: es) ml)
    (hn : x ≠ "__name__" := by decide) (hdb : (x == ("__debug__" : Str)) = false := by decide) (he : starEach (e :: es) X.env = (false, eval e X.env) :: starEach es X.env := by rfl) (hpl : (backTo pos (starEach es X.env)).any (·.1) = false := by rfl) :
    SE X W E (.Call (.Name x p) (e :: es) [] pos) (eB g ml) := by
  obtain ⟨r, hr, kr⟩ := hc
  obtain ⟨tl, pl, kl⟩ := hl
  refine ⟨_, pe_callTy hr hg hm hv pl hn hdb he hpl, fun Φ H F ρ σ Q I h => ?_⟩
  exact kl _ _ _ _ _ _ I (h.bnd fun xs ρ1 vs H1 F1 _ I1 x1 r1 h1 => callB_run kr I1 r1 h1)
end
end Tr
/- Tr4 -/
/-! Tr, part 4: the operators over trees are Python's. -/
namespace Tr
open PySem L2
section
variable {X : Cx} {W : Wd} {A : Addr → Prop} {H : Hp}
theorem relD_int_inv {i : Int} {v : V} (h : RelD W A H (.int i) v) : v = .int i := by unfold RelD at h; exact h
theorem relD_str_inv {i : Str} {v : V} (h : RelD W A H (.str i) v) : v = .str i := by unfold RelD at h; exact h
theorem relD_non_inv {v : V} (h : RelD W A H .non v) : v = .non := by unfold RelD at h; exact h
theorem relD_lst_inv {ds : List D} {v : V} (h : RelD W A H (.lst ds) v) : ∃ a vs, v = .ref a ∧ ¬ A a ∧ Rd H a (.lst vs) ∧ RelDs W A H ds vs := by unfold RelD at h; exact h
theorem relD_tup_inv {ds : List D} {v : V} (h : RelD W A H (.tup ds) v) : ∃ a vs, v = .ref a ∧ ¬ A a ∧ H a = some (.tup vs) ∧ RelDs W A H ds vs := by unfold RelD at h; exact h
theorem relDs_nil_inv {vs : List V} (h : RelDs W A H [] vs) : vs = [] := by unfold RelDs at h; exact h
theorem relDs_cons_inv {d : D} {ds : List D} {vs : List V} (h : RelDs W A H (d :: ds) vs) : ∃ v r, vs = v :: r ∧ RelD W A H d v ∧ RelDs W A H ds r := by unfold RelDs at h; exact h
theorem relDs1_inv {d : D} {vs : List V} (h : RelDs W A H [d] vs) : ∃ v, vs = [v] ∧ RelD W A H d v := by
  obtain ⟨v, r, rfl, h1, h2⟩ := relDs_cons_inv h
  rw [relDs_nil_inv h2]; exact ⟨v, rfl, h1⟩
theorem relDs2_inv {d e : D} {vs : List V} (h : RelDs W A H [d, e] vs) : ∃ v u, vs = [v, u] ∧ RelD W A H d v ∧ RelD W A H e u := by
  obtain ⟨v, r, rfl, h1, h2⟩ := relDs_cons_inv h
  obtain ⟨u, rfl, h3⟩ := relDs1_inv h2
  exact ⟨v, u, rfl, h1, h3⟩
theorem relD_new_lst (t : Tk A H) {p : Addr} {vs : List V} {ds : List D} (h : H p = none) (r : RelDs W A H ds vs) : RelD W A (upd H p (.lst vs)) (.lst ds) (.ref p) := by
  unfold RelD
  exact ⟨p, vs, rfl, t.free h, .inl upd_same, r.ext (same_ext (same_new h) _)⟩
theorem relD_new_tup (t : Tk A H) {p : Addr} {vs : List V} {ds : List D} (h : H p = none) (r : RelDs W A H ds vs) : RelD W A (upd H p (.tup vs)) (.tup ds) (.ref p) := by
  unfold RelD
  exact ⟨p, vs, rfl, t.free h, upd_same, r.ext (same_ext (same_new h) _)⟩

/-! ### ints -/
theorem opI_D {f : Value → Value → Sem Value} {g : D → D → Option D} {C : Int → Int → Prop} {k : Int → Int → V} {kd : Int → Int → D} (hr : OpR X f (rI C k)) (hk : ∀ i j A H, RelD W A H (kd i j) (k i j))
    (hg : ∀ x y d, g x y = some d → ∃ i j, x = .int i ∧ y = .int j ∧ C i j ∧ d = kd i j) : OpD X W f g := ⟨_, hr, fun A H x y d v u Q t rx ry e q => by
  obtain ⟨i, j, rfl, rfl, c, rfl⟩ := hg x y d e
  exact ⟨i, j, relD_int_inv rx, relD_int_inv ry, c, q _ _ (Same.refl _) (hk i j _ _)⟩⟩
theorem opI0_D {f : Value → Value → Sem Value} {g : D → D → Option D} {k : Int → Int → V} {kd : Int → Int → D} (hr : OpR X f (rI0 k)) (hk : ∀ i j A H, RelD W A H (kd i j) (k i j))
    (hg : ∀ x y d, g x y = some d → ∃ i j, x = .int i ∧ y = .int j ∧ d = kd i j) : OpD X W f g := ⟨_, hr, fun A H x y d v u Q t rx ry e q => by
  obtain ⟨i, j, rfl, rfl, rfl⟩ := hg x y d e
  exact ⟨i, j, relD_int_inv rx, relD_int_inv ry, q _ _ (Same.refl _) (hk i j _ _)⟩⟩
theorem od_sub : OpD X W (binaryOp .Sub) vSub := opI0_D (kd := fun i j => .int (i - j)) op_sub (fun _ _ _ _ => relD_int) fun x y d e => by
  cases x <;> cases y <;> cases e
  exact ⟨_, _, rfl, rfl, rfl⟩
theorem od_and : OpD X W (binaryOp .BitAnd) vAnd := opI0_D (kd := fun i j => .int (Builtin.bitAnd i j)) op_and (fun _ _ _ _ => relD_int) fun x y d e => by
  cases x <;> cases y <;> cases e
  exact ⟨_, _, rfl, rfl, rfl⟩
theorem od_or : OpD X W (binaryOp .BitOr) vOr := opI0_D (kd := fun i j => .int (Builtin.bitOr i j)) op_or (fun _ _ _ _ => relD_int) fun x y d e => by
  cases x <;> cases y <;> cases e
  exact ⟨_, _, rfl, rfl, rfl⟩
theorem od_le : OpD X W (compareOp .LtE) vLe := opI0_D (kd := fun i j => .bl (decide (i ≤ j))) op_le (fun _ _ _ _ => relD_bl) fun x y d e => by
  cases x <;> cases y <;> cases e
  exact ⟨_, _, rfl, rfl, rfl⟩
theorem od_gt : OpD X W (compareOp .Gt) vGt := opI0_D (kd := fun i j => .bl (decide (j < i))) op_gt (fun _ _ _ _ => relD_bl) fun x y d e => by
  cases x <;> cases y <;> cases e
  exact ⟨_, _, rfl, rfl, rfl⟩
theorem od_ge : OpD X W (compareOp .GtE) vGe := opI0_D (kd := fun i j => .bl (decide (j ≤ i))) op_ge (fun _ _ _ _ => relD_bl) fun x y d e => by
  cases x <;> cases y <;> cases e
  exact ⟨_, _, rfl, rfl, rfl⟩
theorem od_mod : OpD X W (binaryOp .Mod) vMod := opI_D (kd := fun i j => .int (i % j)) op_mod (fun _ _ _ _ => relD_int) fun x y d e => by
  cases x with
  | int i => cases y with
    | int j =>
      obtain ⟨h, e⟩ := Option.ite_none_right_eq_some.mp (show (if _ then some _ else none) = some d from e)
      cases e
      exact ⟨_, _, rfl, rfl, h, rfl⟩
    | _ => cases e
  | _ => cases e
theorem od_div : OpD X W (binaryOp .FloorDiv) vDiv := opI_D (kd := fun i j => .int (i / j)) op_fdivW (fun _ _ _ _ => relD_int) fun x y d e => by
  cases x with
  | int i => cases y with
    | int j =>
      obtain ⟨h, e⟩ := Option.ite_none_right_eq_some.mp (show (if _ then some _ else none) = some d from e)
      cases e
      exact ⟨_, _, rfl, rfl, h, rfl⟩
    | _ => cases e
  | _ => cases e
theorem od_pow : OpD X W (binaryOp .Pow) vPow := opI_D (kd := fun i j => .int (i ^ j.toNat)) op_pow (fun _ _ _ _ => relD_int) fun x y d e => by
  cases x with
  | int i => cases y with
    | int j =>
      obtain ⟨h, e⟩ := Option.ite_none_right_eq_some.mp (show (if _ then some _ else none) = some d from e)
      cases e
      exact ⟨_, _, rfl, rfl, h, rfl⟩
    | _ => cases e
  | _ => cases e
theorem od_shl : OpD X W (binaryOp .LShift) vShl := opI_D (kd := fun i j => .int (i * 2 ^ j.toNat)) op_shl (fun _ _ _ _ => relD_int) fun x y d e => by
  cases x with
  | int i => cases y with
    | int j =>
      obtain ⟨h, e⟩ := Option.ite_none_right_eq_some.mp (show (if _ then some _ else none) = some d from e)
      cases e
      exact ⟨_, _, rfl, rfl, h, rfl⟩
    | _ => cases e
  | _ => cases e
theorem od_shr : OpD X W (binaryOp .RShift) vShr := opI_D (kd := fun i j => .int (i / 2 ^ j.toNat)) op_shr (fun _ _ _ _ => relD_int) fun x y d e => by
  cases x with
  | int i => cases y with
    | int j =>
      obtain ⟨h, e⟩ := Option.ite_none_right_eq_some.mp (show (if _ then some _ else none) = some d from e)
      cases e
      exact ⟨_, _, rfl, rfl, h, rfl⟩
    | _ => cases e
  | _ => cases e
theorem od_mul : OpD X W (binaryOp .Mult) vMul := ⟨_, OpR.or op_mul op_mulW, fun A H x y d v u Q t rx ry e q => by
  cases x with
  | int i => cases y with
    | int j =>
      obtain ⟨h, e⟩ := Option.ite_none_right_eq_some.mp (show (if _ then some _ else none) = some d from e)
      cases e
      simp only [Bool.or_eq_true, small64, decide_eq_true_eq] at h
      rcases h with h | h | h
      · exact .inl ⟨i, j, relD_int_inv rx, relD_int_inv ry, .inl h, q _ _ (Same.refl _) relD_int⟩
      · exact .inl ⟨i, j, relD_int_inv rx, relD_int_inv ry, .inr h, q _ _ (Same.refl _) relD_int⟩
      · exact .inr ⟨i, j, relD_int_inv rx, relD_int_inv ry, h, q _ _ (Same.refl _) relD_int⟩
    | _ => cases e
  | _ => cases e⟩
theorem ud_neg : UnD X W (unaryOp .USub) vNeg := ⟨_, un_neg, fun A H x d v Q t rx e q => by
  cases x <;> cases e
  exact ⟨_, relD_int_inv rx, q _ _ (Same.refl _) relD_int⟩⟩
theorem od_isN : OpD X W (compareOp .Is) vIsN := ⟨_, op_isN, fun A H x y d v u Q t rx ry e q => by
  unfold vIsN at e
  cases y <;> try cases e
  refine ⟨relD_non_inv ry, ?_⟩
  cases x <;> cases e <;> (unfold RelD at rx; first | (subst rx; exact q _ _ (Same.refl _) relD_bl) | (obtain ⟨a, _, rfl, _⟩ := rx; exact q _ _ (Same.refl _) relD_bl))⟩
theorem od_notN : OpD X W (compareOp .IsNot) vNotN := ⟨_, op_notN, fun A H x y d v u Q t rx ry e q => by
  unfold vNotN vIsN at e
  cases y <;> try cases e
  refine ⟨relD_non_inv ry, ?_⟩
  cases x <;> cases e <;> (unfold RelD at rx; first | (subst rx; exact q _ _ (Same.refl _) relD_bl) | (obtain ⟨a, _, rfl, _⟩ := rx; exact q _ _ (Same.refl _) relD_bl))⟩
end
end Tr
/- Tr5 -/
/-! Tr, part 5: comparisons of data, membership, sums of texts and lists. -/
namespace Tr
open PySem L2
section
variable {X : Cx} {W : Wd} {A : Addr → Prop} {H : Hp} {K : PySem.W.Frag}
mutual
theorem relD_dp : ∀ {d : D} {v : V} {p : PyData}, RelD W A H d v → toP d = some p → Dp K H v p
  | .non, _, _, h, e => by unfold RelD at h; unfold toP at e; subst h; cases e; exact .non
  | .bl b, _, _, h, e => by unfold RelD at h; unfold toP at e; subst h; cases e; exact .bl b
  | .int b, _, _, h, e => by unfold RelD at h; unfold toP at e; subst h; cases e; exact .int b
  | .str b, _, _, h, e => by unfold RelD at h; unfold toP at e; subst h; cases e; exact .str b
  | .tup ds, _, _, h, e => by
    unfold RelD at h; unfold toP at e
    obtain ⟨a, vs, rfl, _, r, q⟩ := h
    obtain ⟨ps, e1, rfl⟩ := Option.map_eq_some_iff.mp e
    exact .tup (.of r) (relDs_dp q e1)
  | .lst ds, _, _, h, e => by
    unfold RelD at h; unfold toP at e
    obtain ⟨a, vs, rfl, _, r, q⟩ := h
    obtain ⟨ps, e1, rfl⟩ := Option.map_eq_some_iff.mp e
    exact .lst (.inl r) (relDs_dp q e1)
  | .dK _, _, _, _, e => by unfold toP at e; cases e
  | .dT _, _, _, _, e => by unfold toP at e; cases e
  | .obj _ _, _, _, _, e => by unfold toP at e; cases e
theorem relDs_dp : ∀ {ds : List D} {vs : List V} {ps : List PyData}, RelDs W A H ds vs → toPs ds = some ps → DpAll K H vs ps
  | [], _, _, h, e => by unfold RelDs at h; unfold toPs at e; subst h; cases e; exact .nil
  | d :: ds, _, _, h, e => by
    unfold RelDs at h; unfold toPs at e
    obtain ⟨v, r, rfl, h1, h2⟩ := h
    obtain ⟨p, e1, e⟩ := Option.bind_eq_some_iff.mp e
    obtain ⟨ps, e2, rfl⟩ := Option.map_eq_some_iff.mp e
    exact .cons (relD_dp h1 e1) (relDs_dp h2 e2)
end
theorem OpD.of {f : Value → Value → Sem Value} {g : D → D → Option D}
    (h : ∀ (pins : List (Addr × Obj)) (s : Shared) (σ : St) (H : Hp) (A : Addr → Prop) (x y d : D) (v u : V) (a b : Value) (Q : VK), Inv X pins σ H s → RelV v a → RelV u b → Tk A H → RelD W A H x v → RelD W A H y u → g x y = some d →
      (∀ z H', Same H H' → RelD W A H' d z → Q z H') → wpAny (model X.prog X.w) X.A (f a b) (EP X pins σ Q) X.xe s) : OpD X W f g :=
  ⟨fun v u H Q => ∃ A x y d, Tk A H ∧ RelD W A H x v ∧ RelD W A H y u ∧ g x y = some d ∧ ∀ z H', Same H H' → RelD W A H' d z → Q z H',
    fun pins s σ H v u a b Q I ra rb ⟨A, x, y, d, t, rx, ry, e, q⟩ => h pins s σ H A x y d v u a b Q I ra rb t rx ry e q,
    fun A H x y d v u Q t rx ry e q => ⟨A, x, y, d, t, rx, ry, e, q⟩⟩
theorem CallD.of {f : Value} {g : List D → Option D}
    (h : ∀ (pins : List (Addr × Obj)) (s : Shared) (σ : St) (H : Hp) (A : Addr → Prop) (xs : List D) (d : D) (vs : List V) (us : List Value) (Q : VK), Inv X pins σ H s → Vals vs us → Tk A H → RelDs W A H xs vs → g xs = some d →
      (∀ z H', Same H H' → RelD W A H' d z → Q z H') → wpAny (model X.prog X.w) X.A (call f us) (EP X pins σ Q) X.xe s) : CallD X W f g :=
  ⟨fun vs H Q => ∃ A xs d, Tk A H ∧ RelDs W A H xs vs ∧ g xs = some d ∧ ∀ z H', Same H H' → RelD W A H' d z → Q z H',
    fun pins s σ H vs us Q I r ⟨A, xs, d, t, rx, e, q⟩ => h pins s σ H A xs d vs us Q I r t rx e q,
    fun A H xs d vs Q t rx e q => ⟨A, xs, d, t, rx, e, q⟩⟩
theorem fin_b {pins : List (Addr × Obj)} {σ : St} {s : Shared} {Q : VK} {b : Bool} (I : Inv X pins σ H s) (q : ∀ z H', Same H H' → RelD W A H' (.bl b) z → Q z H') : EP X pins σ Q (.bool b) s := ⟨.bl b, H, I, rfl, q _ _ (Same.refl _) relD_bl⟩
theorem relD_flat {d : D} {v : V} (h : RelD W A H d v) (f : flatD d = true) : flatV v = true := by
  cases d <;> first | (unfold RelD at h; subst h; rfl) | cases f
theorem eqF_V {x y : D} {v u : V} {b : Bool} (hx : RelD W A H x v) (hy : RelD W A H y u) (e : eqF x y = some b) : eqV v u = b ∧ (scal v u = true ∧ decide (v = u) = b) := by
  cases x <;> cases y <;> first | (cases e; done) | (unfold RelD at hx hy; subst hx; subst hy; cases e; refine ⟨?_, rfl, ?_⟩ <;> (rw [Bool.eq_iff_iff]; simp [eqV]))
theorem od_eq (hu : X.A.units + 64 < cLine) : OpD X W (compareOp .Eq) vEq := .of fun pins s σ H A x y d v u a b Q I ra rb t rx ry e q => by
  obtain ⟨k, e', hd⟩ := Option.map_eq_some_iff.mp e
  subst hd
  clear e
  have e := e'
  unfold eqD at e
  split at e
  · obtain ⟨_, h1, h2⟩ := eqF_V rx ry e
    exact op_eq pins s σ H v u a b Q I ra rb ⟨h1, by rw [h2]; exact q _ _ (Same.refl _) relD_bl⟩
  · obtain ⟨p, e1, e⟩ := Option.bind_eq_some_iff.mp e
    obtain ⟨p', e2, e⟩ := Option.bind_eq_some_iff.mp e
    obtain ⟨hs, e⟩ := Option.ite_none_right_eq_some.mp e
    cases e
    obtain ⟨s1, s2⟩ := Bool.and_eq_true_iff.mp hs
    exact op_eqD hu pins s σ H v u a b Q I ra rb ⟨p, p', relD_dp rx e1, relD_dp ry e2, s1, s2, q _ _ (Same.refl _) relD_bl⟩
theorem od_ne (hu : X.A.units + 64 < cLine) : OpD X W (compareOp .NotEq) vNe := .of fun pins s σ H A x y d v u a b Q I ra rb t rx ry e q => by
  obtain ⟨k, e', hd⟩ := Option.map_eq_some_iff.mp e
  subst hd
  clear e
  have e := e'
  unfold eqD at e
  split at e
  · obtain ⟨_, h1, h2⟩ := eqF_V rx ry e
    exact op_ne pins s σ H v u a b Q I ra rb ⟨h1, by rw [h2]; exact q _ _ (Same.refl _) relD_bl⟩
  · obtain ⟨p, e1, e⟩ := Option.bind_eq_some_iff.mp e
    obtain ⟨p', e2, e⟩ := Option.bind_eq_some_iff.mp e
    obtain ⟨hs, e⟩ := Option.ite_none_right_eq_some.mp e
    cases e
    obtain ⟨s1, s2⟩ := Bool.and_eq_true_iff.mp hs
    exact op_neD hu pins s σ H v u a b Q I ra rb ⟨p, p', relD_dp rx e1, relD_dp ry e2, s1, s2, q _ _ (Same.refl _) relD_bl⟩
theorem od_lt (hu : X.A.units + 64 < cLine) : OpD X W (compareOp .Lt) vLt := .of fun pins s σ H A x y d v u a b Q I ra rb t rx ry e q => by
  obtain ⟨k, e', hd⟩ := Option.map_eq_some_iff.mp e
  subst hd
  clear e
  have e := e'
  unfold ltD at e
  obtain ⟨p, e1, e⟩ := Option.bind_eq_some_iff.mp e
  obtain ⟨p', e2, e⟩ := Option.bind_eq_some_iff.mp e
  have hn : p ≠ .none := by rintro rfl; cases e
  have e : (if (PySem.W.alike p p' && decide (p.depth ≤ 60)) = true then some (PySem.W.dataLt p p') else none) = some k := by
    cases p <;> first | exact e | exact absurd rfl hn
  obtain ⟨hs, e⟩ := Option.ite_none_right_eq_some.mp e
  cases e
  obtain ⟨s1, s2⟩ := Bool.and_eq_true_iff.mp hs
  obtain ⟨as, r1⟩ := Dp.reads I p v a (relD_dp rx e1) ra
  obtain ⟨bs, r2⟩ := Dp.reads I p' u b (relD_dp ry e2) rb
  have s2 := of_decide_eq_true s2
  exact PySem.W.rcLt_alike p p' X.A s a b as bs r1 r2 s1 hn (by have := Nat.min_le_left p.depth p'.depth; omega) X.prog X.w X.xe _ (fin_b I q)
/-- the lists and tuples of a tree, at the library's level -/
theorem lst_at {pins : List (Addr × Obj)} {σ : St} {s : Shared} {a : Addr} {vs : List V} (I : Inv X pins σ H s) (h : Rd H a (.lst vs)) : ∃ (its : List Value) (n : Nat), vs.length ≤ sizeLine ∧ Vals vs its ∧ s.heap.get? a = some { cls := .type "list", data := .seq its.toArray n } := by
  obtain ⟨z, its, n, r, e⟩ := h.ok I.hok
  exact ⟨its, n, z, r, e⟩
theorem vals_get : ∀ {ds : List D} {vs : List V} {us : List Value}, RelDs W A H ds vs → Vals vs us → ∀ w ∈ us, ∃ d ∈ ds, ∃ v, RelD W A H d v ∧ RelV v w
  | [], _, _, h, r, w, m => by unfold RelDs at h; subst h; cases r; cases m
  | d :: ds, _, _, h, r, w, m => by
    unfold RelDs at h
    obtain ⟨v, vr, rfl, h1, h2⟩ := h
    cases r with
    | cons r1 r2 =>
      rcases List.mem_cons.mp m with rfl | m
      · exact ⟨d, List.mem_cons_self, v, h1, r1⟩
      · obtain ⟨d', m', q⟩ := vals_get h2 r2 w m
        exact ⟨d', List.mem_cons_of_mem _ m', q⟩
/-- == of a tree's item with x, as containers ask it -/
def itemEq (d x : D) : Option Bool := if flatD d && flatD x then eqF d x else (toP d).bind fun p => (toP x).bind fun q => if PySem.W.alike p q && decide (p.depth ≤ 60) then some (PyData.eqv p q) else none
theorem anyEq_cons {x d : D} {ds : List D} : anyEq x (d :: ds) = (itemEq d x).bind fun b => (anyEq x ds).map (b || ·) := rfl
theorem item_eqAt {pins : List (Addr × Obj)} {σ : St} {s : Shared} {d x : D} {v u : V} {a b : Value} {k : Bool} {A' : Around} (hu : A'.units + 62 < cLine) (I : Inv X pins σ H s) (rd : RelD W A H d v) (ra : RelV v a) (rx : RelD W A H x u) (rb : RelV u b) (e : itemEq d x = some k) : SeqAt.EqAt A' s a b k := by
  unfold itemEq at e
  split at e
  · rename_i hf
    obtain ⟨f1, f2⟩ := Bool.and_eq_true_iff.mp hf
    have := eqAt_V (A := A') (s := s) ra rb (relD_flat rd f1) (relD_flat rx f2)
    rw [(eqF_V rd rx e).1] at this
    exact this
  · obtain ⟨p, e1, e⟩ := Option.bind_eq_some_iff.mp e
    obtain ⟨p', e2, e⟩ := Option.bind_eq_some_iff.mp e
    obtain ⟨hs, e⟩ := Option.ite_none_right_eq_some.mp e
    cases e
    obtain ⟨s1, s2⟩ := Bool.and_eq_true_iff.mp hs
    obtain ⟨as, r1⟩ := Dp.reads I p v a (relD_dp rd e1) ra
    obtain ⟨bs, r2⟩ := Dp.reads I p' u b (relD_dp rx e2) rb
    have s2 := of_decide_eq_true s2
    exact PySem.W.eqAt_alike p p' A' s a b as bs r1 r2 s1 (by have := Nat.min_le_left p.depth p'.depth; omega)

/-! ### membership -/
theorem relKs_val : ∀ {kvs : List (Key × D)} {ws : List (Key × V)} {k : Key}, RelKs W A H kvs ws → (∀ d, getK kvs k = some d → ∃ v, valV ws k = some v ∧ RelD W A H d v) ∧ (valV ws k).isSome = (getK kvs k).isSome
  | [], _, _, h => by unfold RelKs at h; subst h; exact ⟨fun _ e => (nomatch e), rfl⟩
  | (k', d) :: r, _, k, h => by
    unfold RelKs at h
    obtain ⟨v, s, rfl, h1, h2⟩ := h
    unfold getK valV
    rw [List.find?_cons, List.find?_cons]
    by_cases e : k' = k
    · simp only [e, decide_true, Option.map_some]
      exact ⟨fun d' q => by cases q; exact ⟨v, rfl, h1⟩, rfl⟩
    · simp only [e, decide_false]
      exact relKs_val h2
theorem relTs_val : ∀ {kvs : List (List Key × D)} {ws : List (List Key × V)} {k : List Key}, RelTs W A H kvs ws → (∀ d, getK kvs k = some d → ∃ v, valV ws k = some v ∧ RelD W A H d v) ∧ (valV ws k).isSome = (getK kvs k).isSome
  | [], _, _, h => by unfold RelTs at h; subst h; exact ⟨fun _ e => (nomatch e), rfl⟩
  | (k', d) :: r, _, k, h => by
    unfold RelTs at h
    obtain ⟨v, s, rfl, h1, h2⟩ := h
    unfold getK valV
    rw [List.find?_cons, List.find?_cons]
    by_cases e : k' = k
    · simp only [e, decide_true, Option.map_some]
      exact ⟨fun d' q => by cases q; exact ⟨v, rfl, h1⟩, rfl⟩
    · simp only [e, decide_false]
      exact relTs_val h2
theorem relKs_len : ∀ {kvs : List (Key × D)} {ws : List (Key × V)}, RelKs W A H kvs ws → kvs.length = ws.length
  | [], _, h => by unfold RelKs at h; subst h; rfl
  | (_, d) :: r, _, h => by
    unfold RelKs at h
    obtain ⟨v, s, rfl, h1, h2⟩ := h
    simp [relKs_len h2]
theorem relTs_len : ∀ {kvs : List (List Key × D)} {ws : List (List Key × V)}, RelTs W A H kvs ws → kvs.length = ws.length
  | [], _, h => by unfold RelTs at h; subst h; rfl
  | (_, d) :: r, _, h => by
    unfold RelTs at h
    obtain ⟨v, s, rfl, h1, h2⟩ := h
    simp [relTs_len h2]
theorem keyD_V {d : D} {v : V} {k : Key} (h : RelD W A H d v) (e : keyD d = some k) : v = kV k := by
  cases d <;> first | (cases e; done) | (unfold RelD at h; subst h; cases e; rfl)
theorem keysD_V : ∀ {ds : List D} {vs : List V} {ks : List Key}, RelDs W A H ds vs → keysD ds = some ks → vs = ks.map kV
  | [], _, _, h, e => by unfold RelDs at h; unfold keysD at e; subst h; cases e; rfl
  | d :: ds, _, _, h, e => by
    unfold RelDs at h; unfold keysD at e
    obtain ⟨v, r, rfl, h1, h2⟩ := h
    obtain ⟨k, e1, e⟩ := Option.bind_eq_some_iff.mp e
    obtain ⟨ks, e2, rfl⟩ := Option.map_eq_some_iff.mp e
    rw [keyD_V h1 e1, keysD_V h2 e2]; rfl
theorem look_run {x y : D} {v u : V} {o : Option D} (rx : RelD W A H x v) (ry : RelD W A H y u) (e : lookD y x = some o) : ∃ a r, u = .ref a ∧ DGet H a v r ∧ (∀ d, o = some d → ∃ z, r = some z ∧ RelD W A H d z) ∧ r.isSome = o.isSome := by
  cases y with
  | dK kvs =>
    obtain ⟨k, e1, rfl⟩ := Option.map_eq_some_iff.mp (show (keyD x).map (getK kvs) = some o from e)
    unfold RelD at ry
    obtain ⟨a, ws, rfl, _, h, q⟩ := ry
    exact ⟨a, _, rfl, .inl ⟨ws, k, h, keyD_V rx e1, rfl⟩, (relKs_val q).1, (relKs_val q).2⟩
  | dT kvs =>
    cases x with
    | tup ks =>
      obtain ⟨k, e1, rfl⟩ := Option.map_eq_some_iff.mp (show (keysD ks).map (getK kvs) = some o from e)
      unfold RelD at ry
      obtain ⟨a, ws, rfl, _, h, q⟩ := ry
      obtain ⟨b, vs, rfl, _, hb, rs⟩ := relD_tup_inv rx
      rw [keysD_V rs e1] at hb
      exact ⟨a, _, rfl, .inr ⟨ws, k, b, h, rfl, hb, rfl⟩, (relTs_val q).1, (relTs_val q).2⟩
    | _ => cases e
  | _ => cases e
theorem rd_lst_inj {a : Addr} {vs ws : List V} (h : Rd H a (.lst vs)) (h' : Rd H a (.lst ws)) : vs = ws := by
  rcases h with h | ⟨o, h⟩ <;> rcases h' with h' | ⟨o', h'⟩ <;> (rw [h] at h'; cases h') <;> rfl
theorem not_obj {c : Nat} {fs : List D} {v : V} (h : RelD W A H (.obj c fs) v) : ∃ a, v = .ref a ∧ (∀ vs, H a ≠ some (.tup vs)) ∧ (∀ vs, ¬ Rd H a (.lst vs)) := by
  unfold RelD at h
  obtain ⟨a, vs, rfl, _, r, _⟩ := h
  refine ⟨a, rfl, ?_⟩
  have k : (∃ C dx l, H a = some (.ins C dx l)) ∨ ∃ φ, H a = some (.ext φ) := by
    unfold InsV at r
    cases e : W.sl c with
    | false => rw [e] at r; obtain ⟨dx, xs, _, _, q⟩ := r; exact .inl ⟨_, _, _, q⟩
    | true =>
      rw [e] at r
      obtain ⟨dx, _, _, q⟩ := r
      rcases q with ⟨_, q, _⟩ | ⟨q, _⟩
      · exact .inl ⟨_, _, _, q⟩
      · exact .inr ⟨_, q⟩
  rcases k with ⟨C, dx, l, q⟩ | ⟨φ, q⟩
  · exact ⟨fun vs z => (by rw [q] at z; cases z), fun vs z => (by rcases z with z | ⟨o, z⟩ <;> (rw [q] at z; cases z))⟩
  · exact ⟨fun vs z => (by rw [q] at z; cases z), fun vs z => (by rcases z with z | ⟨o, z⟩ <;> (rw [q] at z; cases z))⟩
mutual
/-- plain data at a value is one tree -/
theorem relD_inj : ∀ {d d' : D} {v : V} {p : PyData}, toP d = some p → RelD W A H d v → RelD W A H d' v → d = d'
  | .non, d', v, p, e, h, h' => by
    unfold RelD at h; subst h
    cases d' <;> first | rfl | (obtain ⟨a, q, _⟩ := not_obj h'; cases q) | (unfold RelD at h'; first | (cases h'; done) | (obtain ⟨_, _, q, _⟩ := h'; cases q))
  | .bl b, d', v, p, e, h, h' => by
    unfold RelD at h; subst h
    cases d' <;> first | (obtain ⟨a, q, _⟩ := not_obj h'; cases q; done) | (unfold RelD at h'; first | (cases h'; first | done | rfl) | (obtain ⟨_, _, q, _⟩ := h'; cases q))
  | .int b, d', v, p, e, h, h' => by
    unfold RelD at h; subst h
    cases d' <;> first | (obtain ⟨a, q, _⟩ := not_obj h'; cases q; done) | (unfold RelD at h'; first | (cases h'; first | done | rfl) | (obtain ⟨_, _, q, _⟩ := h'; cases q))
  | .str b, d', v, p, e, h, h' => by
    unfold RelD at h; subst h
    cases d' <;> first | (obtain ⟨a, q, _⟩ := not_obj h'; cases q; done) | (unfold RelD at h'; first | (cases h'; first | done | rfl) | (obtain ⟨_, _, q, _⟩ := h'; cases q))
  | .tup ds, d', v, p, e, h, h' => by
    obtain ⟨a, vs, rfl, _, r, q⟩ := relD_tup_inv h
    unfold toP at e
    obtain ⟨ps, e1, _⟩ := Option.map_eq_some_iff.mp e
    cases d' with
    | tup ds' =>
      obtain ⟨b, ws, eb, _, r', q'⟩ := relD_tup_inv h'
      cases eb
      rw [r] at r'; cases r'
      rw [relDs_inj e1 q q']
    | obj c fs =>
      obtain ⟨b, eb, n1, _⟩ := not_obj h'
      cases eb
      exact absurd r (n1 _)
    | lst _ =>
      obtain ⟨b, ws, eb, _, r', _⟩ := relD_lst_inv h'
      cases eb
      rcases r' with r' | ⟨_, r'⟩ <;> (rw [r] at r'; cases r')
    | dK _ =>
      unfold RelD at h'
      obtain ⟨b, ws, eb, _, r', _⟩ := h'
      cases eb
      rcases r' with r' | ⟨_, r'⟩ <;> (rw [r] at r'; cases r')
    | dT _ =>
      unfold RelD at h'
      obtain ⟨b, ws, eb, _, r', _⟩ := h'
      cases eb
      rcases r' with r' | ⟨_, r'⟩ <;> (rw [r] at r'; cases r')
    | _ => unfold RelD at h'; cases h'
  | .lst ds, d', v, p, e, h, h' => by
    obtain ⟨a, vs, rfl, _, r, q⟩ := relD_lst_inv h
    unfold toP at e
    obtain ⟨ps, e1, _⟩ := Option.map_eq_some_iff.mp e
    cases d' with
    | lst ds' =>
      obtain ⟨b, ws, eb, _, r', q'⟩ := relD_lst_inv h'
      cases eb
      cases rd_lst_inj r r'
      rw [relDs_inj e1 q q']
    | obj c fs =>
      obtain ⟨b, eb, _, n1⟩ := not_obj h'
      cases eb
      exact absurd r (n1 _)
    | tup _ =>
      obtain ⟨b, ws, eb, _, r', _⟩ := relD_tup_inv h'
      cases eb
      rcases r with r | ⟨_, r⟩ <;> (rw [r] at r'; cases r')
    | dK _ =>
      unfold RelD at h'
      obtain ⟨b, ws, eb, _, r', _⟩ := h'
      cases eb
      rcases r with r | ⟨_, r⟩ <;> rcases r' with r' | ⟨_, r'⟩ <;> (rw [r] at r'; cases r')
    | dT _ =>
      unfold RelD at h'
      obtain ⟨b, ws, eb, _, r', _⟩ := h'
      cases eb
      rcases r with r | ⟨_, r⟩ <;> rcases r' with r' | ⟨_, r'⟩ <;> (rw [r] at r'; cases r')
    | _ => unfold RelD at h'; cases h'
  | .dK _, _, _, _, e, _, _ => by unfold toP at e; cases e
  | .dT _, _, _, _, e, _, _ => by unfold toP at e; cases e
  | .obj _ _, _, _, _, e, _, _ => by unfold toP at e; cases e
theorem relDs_inj : ∀ {ds ds' : List D} {vs : List V} {ps : List PyData}, toPs ds = some ps → RelDs W A H ds vs → RelDs W A H ds' vs → ds = ds'
  | [], ds', vs, ps, e, h, h' => by
    unfold RelDs at h; subst h
    cases ds' with
    | nil => rfl
    | cons _ _ => unfold RelDs at h'; obtain ⟨_, _, q, _⟩ := h'; cases q
  | d :: ds, ds', vs, ps, e, h, h' => by
    unfold RelDs at h; unfold toPs at e
    obtain ⟨v, r, rfl, h1, h2⟩ := h
    obtain ⟨p, e1, e⟩ := Option.bind_eq_some_iff.mp e
    obtain ⟨qs, e2, _⟩ := Option.map_eq_some_iff.mp e
    cases ds' with
    | nil => unfold RelDs at h'; cases h'
    | cons d' ds' =>
      unfold RelDs at h'
      obtain ⟨v', r', q, h1', h2'⟩ := h'
      cases q
      rw [relD_inj e1 h1 h1', relDs_inj e2 h2 h2']
end
theorem toP_of_item {d x : D} {k : Bool} (e : itemEq d x = some k) : ∃ p, toP d = some p := by
  unfold itemEq at e
  split at e
  · rename_i h
    obtain ⟨h, _⟩ := Bool.and_eq_true_iff.mp h
    cases d <;> first | (cases h; done) | (unfold toP; exact ⟨_, rfl⟩)
  · obtain ⟨p, e1, _⟩ := Option.bind_eq_some_iff.mp e
    exact ⟨p, e1⟩
open Classical in
theorem any_run {pins : List (Addr × Obj)} {σ : St} {s : Shared} {x : D} {u : V} {b : Value} {A' : Around} (hu : A'.units + 62 < cLine) (I : Inv X pins σ H s) (rx : RelD W A H x u) (rb : RelV u b) {ds : List D} {vs : List V} {us : List Value} {k : Bool}
    (rd : RelDs W A H ds vs) (rv : Vals vs us) (e : anyEq x ds = some k) : ∃ f : Value → Bool, (∀ w ∈ us, SeqAt.EqAt A' s w b (f w)) ∧ us.any f = k := by
  let f : Value → Bool := fun w => decide (∃ d v, RelD W A H d v ∧ RelV v w ∧ itemEq d x = some true)
  have one : ∀ {d v w k}, RelD W A H d v → RelV v w → itemEq d x = some k → f w = k := fun {d v w k} h1 h2 h3 => by
    cases k with
    | true => exact decide_eq_true ⟨d, v, h1, h2, h3⟩
    | false =>
      refine decide_eq_false fun ⟨d', v', q1, q2, q3⟩ => ?_
      obtain ⟨p, hp⟩ := toP_of_item h3
      rw [RelV.inj q2 h2] at q1
      rw [← relD_inj hp h1 q1, h3] at q3
      cases q3
  refine ⟨f, ?_⟩
  clear_value f
  induction ds generalizing vs us k with
  | nil =>
    unfold RelDs at rd; subst rd
    cases rv
    cases e
    exact ⟨fun w m => (nomatch m), rfl⟩
  | cons d ds ih =>
    unfold RelDs at rd
    obtain ⟨v, r, rfl, h1, h2⟩ := rd
    cases rv with
    | cons r1 r2 =>
      rw [anyEq_cons] at e
      obtain ⟨k1, e1, e⟩ := Option.bind_eq_some_iff.mp e
      obtain ⟨k2, e2, rfl⟩ := Option.map_eq_some_iff.mp e
      obtain ⟨q1, q2⟩ := ih h2 r2 e2
      refine ⟨fun w m => ?_, ?_⟩
      · rcases List.mem_cons.mp m with rfl | m
        · rw [one h1 r1 e1]
          exact item_eqAt hu I h1 r1 rx rb e1
        · exact q1 w m
      · rw [List.any_cons, one h1 r1 e1, q2]
theorem in_look {x y : D} {k : Bool} (e : inD x y = some k) : (∃ o, lookD y x = some o ∧ k = o.isSome) ∨ (∃ ds, items y = some ds ∧ anyEq x ds = some k) ∨ ∃ c z, x = .str ⟨⟨[c]⟩⟩ ∧ y = .str z ∧ k = decide (c ∈ z.cps.toList) := by
  unfold inD at e
  cases y with
  | tup ds => exact .inr (.inl ⟨ds, rfl, e⟩)
  | lst ds => exact .inr (.inl ⟨ds, rfl, e⟩)
  | dK kvs =>
    obtain ⟨q, e1, rfl⟩ := Option.map_eq_some_iff.mp e
    exact .inl ⟨_, show (keyD x).map (getK kvs) = some _ by rw [e1]; rfl, rfl⟩
  | dT kvs =>
    cases x with
    | tup ks =>
      obtain ⟨q, e1, rfl⟩ := Option.map_eq_some_iff.mp e
      exact .inl ⟨_, show (keysD ks).map (getK kvs) = some _ by rw [e1]; rfl, rfl⟩
    | _ => cases e
  | str z =>
    dsimp only at e
    split at e
    · cases e
      exact .inr (.inr ⟨_, _, rfl, rfl, rfl⟩)
    · cases e
  | _ => cases e
theorem od_in (hu : X.A.units + 64 < cLine) : OpD X W (compareOp .In) vIn := .of fun pins s σ H A x y d v u a b Q I ra rb t rx ry e q => by
  obtain ⟨k, e', hd⟩ := Option.map_eq_some_iff.mp e
  subst hd
  rcases in_look e' with ⟨o, h1, rfl⟩ | ⟨ds, h1, h2⟩ | ⟨c, z, rfl, rfl, rfl⟩
  · obtain ⟨p, r, rfl, g, _, hs⟩ := look_run rx ry h1
    cases rb
    refine d_in (by omega) I g ra fun s' I' => ?_
    rw [hs]
    exact fin_b I' q
  · obtain ⟨p, vs, rfl, _, hq, rs⟩ := items_run (K := X.K) h1 ry
    cases rb
    have hu' : X.A.in1.units + 62 < cLine := by show X.A.units + 1 + 62 < cLine; omega
    rcases hq with hq | hq
    · obtain ⟨its, r, pl, hz⟩ := I.tuple hq
      obtain ⟨f, h3, h4⟩ := any_run hu' I rx ra rs r h2
      refine SeqAt.in_tupleAt f pl (fun w hw => h3 w (by simpa using hw)) ?_
      rw [show its.toArray.any f = its.any f by simp, h4]
      exact fin_b I q
    · obtain ⟨its, r, pl, hz⟩ := I.list hq
      obtain ⟨f, h3, h4⟩ := any_run hu' I rx ra rs r h2
      refine SeqAt.in_listAt f pl.isList (fun w hw => h3 w (by simpa using hw)) ?_
      rw [show its.toArray.any f = its.any f by simp, h4]
      exact fin_b I q
  · exact op_in_sign pins s σ H v u a b Q I ra rb ⟨c, z, relD_str_inv rx, relD_str_inv ry, q _ _ (Same.refl _) relD_bl⟩
theorem od_notIn (hu : X.A.units + 64 < cLine) : OpD X W (compareOp .NotIn) vNotIn := .of fun pins s σ H A x y d v u a b Q I ra rb t rx ry e q => by
  obtain ⟨k, e', hd⟩ := Option.map_eq_some_iff.mp e
  subst hd
  rcases in_look e' with ⟨o, h1, rfl⟩ | ⟨ds, h1, h2⟩ | ⟨c, z, rfl, rfl, rfl⟩
  · obtain ⟨p, r, rfl, g, _, hs⟩ := look_run rx ry h1
    cases rb
    refine d_notIn (by omega) I g ra fun s' I' => ?_
    rw [hs]
    exact fin_b I' q
  · obtain ⟨p, vs, rfl, _, hq, rs⟩ := items_run (K := X.K) h1 ry
    cases rb
    have hu' : X.A.in1.units + 62 < cLine := by show X.A.units + 1 + 62 < cLine; omega
    rcases hq with hq | hq
    · obtain ⟨its, r, pl, hz⟩ := I.tuple hq
      obtain ⟨f, h3, h4⟩ := any_run hu' I rx ra rs r h2
      refine SeqAt.notIn_tupleAt f pl (fun w hw => h3 w (by simpa using hw)) ?_
      rw [show its.toArray.any f = its.any f by simp, h4]
      exact fin_b I q
    · obtain ⟨its, r, pl, hz⟩ := I.list hq
      obtain ⟨f, h3, h4⟩ := any_run hu' I rx ra rs r h2
      refine SeqAt.notIn_listAt f pl.isList (fun w hw => h3 w (by simpa using hw)) ?_
      rw [show its.toArray.any f = its.any f by simp, h4]
      exact fin_b I q
  · exact op_notIn_sign pins s σ H v u a b Q I ra rb ⟨c, z, relD_str_inv rx, relD_str_inv ry, q _ _ (Same.refl _) relD_bl⟩
end
end Tr
/- Tr6 -/
/-! Tr, part 6: sums, subscripts, slices, isinstance, built-ins. -/
namespace Tr
open PySem L2
section
variable {X : Cx} {W : Wd} {A : Addr → Prop} {H : Hp} {K : PySem.W.Frag} {E : XK}
theorem od_add : OpD X W (binaryOp .Add) vAdd := .of fun pins s σ H A x y d v u a b Q I ra rb t rx ry e q => by
  cases x with
  | int i => cases y with
    | int j =>
      cases e
      exact op_add pins s σ H v u a b Q I ra rb ⟨i, j, relD_int_inv rx, relD_int_inv ry, q _ _ (Same.refl _) relD_int⟩
    | _ => cases e
  | str i => cases y with
    | str j =>
      obtain ⟨h, e⟩ := Option.ite_none_right_eq_some.mp (show (if _ then some _ else none) = some d from e)
      cases e
      exact op_add_str pins s σ H v u a b Q I ra rb ⟨i, j, relD_str_inv rx, relD_str_inv ry, Nat.le_trans h cap_le, q _ _ (Same.refl _) relD_str⟩
    | _ => cases e
  | lst xs => cases y with
    | lst ys =>
      obtain ⟨h, e⟩ := Option.ite_none_right_eq_some.mp (show (if _ then some _ else none) = some d from e)
      cases e
      obtain ⟨l, vs, rfl, _, hl, rs⟩ := relD_lst_inv rx
      obtain ⟨l2, ws, rfl, _, hl2, rs2⟩ := relD_lst_inv ry
      cases ra
      cases rb
      obtain ⟨its, n, z, r, e1⟩ := lst_at I hl
      obtain ⟨its2, n2, z2, r2, e2⟩ := lst_at I hl2
      have hs : vs.length + ws.length ≤ sizeLine := by rw [← relDs_len rs, ← relDs_len rs2]; exact Nat.le_trans h cap_le
      refine PySem.P.add_list e1 e2 ?_ (by rw [List.size_toArray, List.size_toArray, ← r.length, ← r2.length]; exact hs)
      have ea : its.toArray ++ its2.toArray = (its ++ its2).toArray := by simp
      rw [ea]
      exact ⟨.ref _, _, I.lnew (t' := s.toks) (r.append r2) (by rw [List.length_append]; exact hs), rfl, q _ _ (same_new I.fresh) (relD_new_lst t I.fresh (relDs_app rs rs2))⟩
    | _ => cases e
  | tup xs => cases y with
    | tup ys =>
      obtain ⟨h, e⟩ := Option.ite_none_right_eq_some.mp (show (if _ then some _ else none) = some d from e)
      cases e
      obtain ⟨l, vs, e1, n1, hl, rs⟩ := relD_tup_inv rx
      obtain ⟨l2, ws, e2, n2, hl2, rs2⟩ := relD_tup_inv ry
      refine op_catA pins s σ H v u a b Q I ra rb ⟨l, l2, vs, ws, e1, e2, .of hl, .of hl2, by rw [← relDs_len rs, ← relDs_len rs2]; exact Nat.le_trans h cap_le, fun hz => ?_, fun _ hz => ?_, fun _ _ p hp => ?_⟩
      · have : xs = [] := List.eq_nil_of_length_eq_zero (by rw [relDs_len rs, hz]; rfl)
        subst this
        rw [← e2]
        exact q _ _ (Same.refl _) ry
      · have : ys = [] := List.eq_nil_of_length_eq_zero (by rw [relDs_len rs2, hz]; rfl)
        subst this
        rw [← e1]
        exact q _ _ (Same.refl _) (by rw [List.append_nil]; exact rx)
      · exact q _ _ (same_new hp) (relD_new_tup t hp (relDs_app rs rs2))
    | _ => cases e
  | _ => cases e

/-! ### subscripts -/
theorem ixN_ixD (n : Nat) (i : Int) : ixN n i = ixD n i := rfl
theorem atI_run {ds : List D} {vs : List V} {i : Int} {d : D} (r : RelDs W A H ds vs) (e : (ixD ds.length i).bind (ds[·]?) = some d) : ∃ v, atI vs i = some v ∧ RelD W A H d v := by
  obtain ⟨j, e1, e2⟩ := Option.bind_eq_some_iff.mp e
  obtain ⟨v, h1, h2⟩ := relDs_get r e2
  refine ⟨v, ?_, h2⟩
  unfold atI
  rw [ixN_ixD, ← relDs_len r, e1]
  exact h1
theorem se_ix {a b : Expr} {ma mb : EM} {pos : Pos} (ha : SE X W E a ma) (hb : SE X W E b mb) (hs : PlainIx b := by exact fun _ _ => rfl) : SE X W E (.Subscript a b pos) (eOp vIx ma mb) := by
  obtain ⟨ta, pa, ka⟩ := ha
  obtain ⟨tb, pb, kb⟩ := hb
  refine ⟨_, pe_ix ix_seq pa pb hs, fun Φ H F ρ σ Q I h => ?_⟩
  refine ka _ _ _ _ _ _ I (h.bnd fun x ρ1 v H1 F1 _ I1 x1 r1 h1 => ?_)
  refine kb _ _ _ _ _ _ I1 (h1.bnd fun y ρ2 u H2 F2 _ I2 x2 r2 h2 => ?_)
  refine op_run (r := rIx X.K) (fun A H x y d v u Q t rx ry e q => ?_) I2 (r1.ext x2) r2 h2
  · cases x with
    | tup ds => cases y with
      | int i =>
        obtain ⟨p, vs, rfl, _, hp, rs⟩ := relD_tup_inv rx
        obtain ⟨z, h1, h2⟩ := atI_run rs e
        exact .inr (.inl ⟨p, vs, i, z, rfl, relD_int_inv ry, .of hp, h1, q _ _ (Same.refl _) h2⟩)
      | _ => cases e
    | lst ds => cases y with
      | int i =>
        obtain ⟨p, vs, rfl, _, hp, rs⟩ := relD_lst_inv rx
        obtain ⟨z, h1, h2⟩ := atI_run rs e
        exact .inl ⟨p, vs, i, z, rfl, relD_int_inv ry, .inl hp, h1, q _ _ (Same.refl _) h2⟩
      | _ => cases e
    | str z => cases y with
      | int i =>
        obtain ⟨hz, e⟩ := Option.ite_none_right_eq_some.mp (show (if _ then _ else none) = some d from e)
        obtain ⟨j, e1, e2⟩ := Option.bind_eq_some_iff.mp e
        obtain ⟨c, e3, rfl⟩ := Option.map_eq_some_iff.mp e2
        refine .inr (.inr ⟨z, i, c, relD_str_inv rx, relD_int_inv ry, Nat.le_trans hz cap_le, ?_, q _ _ (Same.refl _) relD_str⟩)
        unfold atI
        rw [ixN_ixD, Array.length_toList]
        rw [show z.cps.size = z.length from rfl, e1]
        exact (Array.getElem?_toList ..).trans e3
      | _ => cases e
    | _ => cases e
/-- d[k], d a dict -/
theorem se_dx {a b : Expr} {ma mb : EM} {pos : Pos} (hu : X.A.units + 64 < cLine) (ha : SE X W E a ma) (hb : SE X W E b mb) (hs : NoSl b := by exact fun _ _ => rfl) : SE X W E (.Subscript a b pos) (eOp vDx ma mb) := by
  obtain ⟨ta, pa, ka⟩ := ha
  obtain ⟨tb, pb, kb⟩ := hb
  refine ⟨_, pe_dget (by omega) pa pb hs, fun Φ H F ρ σ Q I h => ?_⟩
  refine ka _ _ _ _ _ _ I (h.bnd fun x ρ1 v H1 F1 _ I1 x1 r1 h1 => ?_)
  refine kb _ _ _ _ _ _ I1 (h1.bnd fun y ρ2 u H2 F2 _ I2 x2 r2 h2 => ?_)
  obtain ⟨d, e, h2⟩ := optR_post h2
  obtain ⟨o, e1, e2⟩ := Option.bind_eq_some_iff.mp e
  cases e2
  obtain ⟨p, r, ep, g, hg, _⟩ := look_run r2 (r1.ext x2) e1
  obtain ⟨z, rfl, rz⟩ := hg d rfl
  exact ⟨p, z, ep, g, h2 _ _ _ I2 (Ext.refl _ _) rz⟩
end
end Tr
/- Tr7 -/
/-! Tr, part 7: slices, isinstance, built-ins, methods of texts. -/
namespace Tr
open PySem L2
section
variable {X : Cx} {W : Wd} {A : Addr → Prop} {H : Hp} {K : PySem.W.Frag} {E : XK}
/-! ### slices -/
structure SO (X : Cx) (W : Wd) (E : XK) (e : Option Expr) (m : OM) : Prop where
  ex : ∃ t, PO X e t ∧ ∀ (Φ : Fx) (H : Hp) (F : List Addr) (ρ : Env) (σ : St) (Q : Option Int → Hp → Prop), RS W Φ H F ρ σ → Post (fun (_ : Addr → Prop) (_ : Hp) (a b : Option Int) => a = b) W Φ E σ (own Φ.O F) H Q (m ρ) → t σ H Q
theorem so_none : SO X W E none oNone := ⟨_, po_none, fun Φ H F ρ σ Q I h => h _ _ _ I (Ext.refl _ _) rfl⟩
theorem so_some {e : Expr} {m : EM} (ha : SE X W E e m) : SO X W E (some e) (oSome m) := by
  obtain ⟨ta, pa, ka⟩ := ha
  refine ⟨_, po_some pa, fun Φ H F ρ σ Q I h => ?_⟩
  refine ka _ _ _ _ _ _ I (h.bnd fun x ρ1 v H1 F1 _ I1 x1 r1 h1 => ?_)
  cases x with
  | int i => exact ⟨i, relD_int_inv r1, h1 _ _ _ I1 (Ext.refl _ _) rfl⟩
  | _ => exact h1.elim
theorem cut_run {ds : List D} {vs : List V} (r : RelDs W A H ds vs) (lo hi : Option Int) : RelDs W A H (cutD ds lo hi) (cutV vs lo hi) := by
  unfold cutD cutV
  rw [relDs_len r]
  generalize HT.sIx vs.length 0 lo = a
  generalize HT.sIx vs.length vs.length hi - a = n
  have dr : ∀ (a : Nat) {ds : List D} {vs : List V}, RelDs W A H ds vs → RelDs W A H (ds.drop a) (vs.drop a) := by
    intro a
    induction a with
    | zero => intro ds vs h; exact h
    | succ a ih =>
      intro ds vs h
      cases ds with
      | nil => rw [relDs_nil_inv h]; exact relDs_nil
      | cons d ds =>
        obtain ⟨v, s, rfl, _, h2⟩ := relDs_cons_inv h
        exact ih h2
  have tk : ∀ (n : Nat) {ds : List D} {vs : List V}, RelDs W A H ds vs → RelDs W A H (ds.take n) (vs.take n) := by
    intro n
    induction n with
    | zero => intro ds vs h; exact relDs_nil
    | succ a ih =>
      intro ds vs h
      cases ds with
      | nil => rw [relDs_nil_inv h]; exact relDs_nil
      | cons d ds =>
        obtain ⟨v, s, rfl, h1, h2⟩ := relDs_cons_inv h
        exact relDs_cons h1 (ih h2)
  exact tk n (dr a r)
theorem se_slice {e : Expr} {lo hi : Option Expr} {m : EM} {ml mh : OM} {p2 pos : Pos} (he : SE X W E e m) (hl : SO X W E lo ml) (hh : SO X W E hi mh) : SE X W E (.Subscript e (.Slice lo hi none p2) pos) (eSlice m ml mh) := by
  obtain ⟨te, pe, ke⟩ := he
  obtain ⟨tl, pl, kl⟩ := hl
  obtain ⟨th, ph, kh⟩ := hh
  refine ⟨_, pe_slice (sl_list.or (sl_tupA.or sl_str)) pe pl ph, fun Φ H F ρ σ Q I h => ?_⟩
  refine ke _ _ _ _ _ _ I (h.bnd fun x ρ1 v H1 F1 _ I1 x1 r1 h1 => ?_)
  refine kl _ _ _ _ _ _ I1 (Post.bnd h1 fun l ρ2 l' H2 F2 _ I2 x2 r2 h2 => ?_)
  subst r2
  refine kh _ _ _ _ _ _ I2 (Post.bnd h2 fun u ρ3 u' H3 F3 _ I3 x3 r3 h3 => ?_)
  subst r3
  obtain ⟨d, e, h3⟩ := optR_post h3
  have r1 := r1.ext (x2.trans x3)
  cases x with
  | lst ds =>
    cases e
    obtain ⟨p, vs, rfl, _, hp, rs⟩ := relD_lst_inv r1
    refine .inl ⟨p, vs, rfl, .inl hp, fun q hq => ?_⟩
    have k : Same H3 (upd H3 q (.lst (cutV vs l u))) := same_new hq
    exact h3 _ _ _ (I3.same k).1 (I3.same k).2 (relD_new_lst I3.tk hq (cut_run rs l u))
  | tup ds =>
    cases e
    obtain ⟨p, vs, rfl, n, hp, rs⟩ := relD_tup_inv r1
    refine .inr (.inl ⟨p, vs, rfl, .of hp, fun hw => ?_, fun _ q hq => ?_⟩)
    · have e1 : cutD ds l u = ds := by
        unfold cutD
        rw [relDs_len rs, hw.1, hw.2, List.drop_zero, Nat.sub_zero, ← relDs_len rs, List.take_length]
      rw [e1] at h3
      exact h3 _ _ _ I3 (Ext.refl _ _) r1
    · have k : Same H3 (upd H3 q (.tup (cutV vs l u))) := same_new hq
      exact h3 _ _ _ (I3.same k).1 (I3.same k).2 (relD_new_tup I3.tk hq (cut_run rs l u))
  | str z =>
    obtain ⟨hz, e⟩ := Option.ite_none_right_eq_some.mp (show (if _ then some _ else none) = some d from e)
    cases e
    exact .inr (.inr ⟨z, relD_str_inv r1, Nat.le_trans hz cap_le, h3 _ _ _ I3 (Ext.refl _ _) relD_str⟩)
  | _ => cases e

/-! ### isinstance -/
theorem tyN_run {d : D} {v : V} {n : String} (r : RelD W A H d v) (e : tyN d = some n) : TyX K H v (.type n) := by
  cases d with
  | non => cases e; rw [relD_non_inv r]; exact .base .non
  | bl b => cases e; rw [relD_bl_inv r]; exact .base (.bl b)
  | int b => cases e; rw [relD_int_inv r]; exact .base (.int b)
  | str b => cases e; rw [relD_str_inv r]; exact .base (.str b)
  | tup ds =>
    cases e
    obtain ⟨a, vs, rfl, _, h, _⟩ := relD_tup_inv r
    exact .base (.tup h)
  | lst ds =>
    cases e
    obtain ⟨a, vs, rfl, _, h, _⟩ := relD_lst_inv r
    rcases h with h | ⟨o, h⟩
    · exact .base (.lst h)
    · exact .base (.frz h)
  | dK ds =>
    cases e
    unfold RelD at r
    obtain ⟨a, vs, rfl, _, h, _⟩ := r
    rcases h with h | ⟨o, h⟩
    · exact .base (.dK h)
    · exact .fDict h
  | _ => cases e
/-- a class of which isinstance is asked here -/
def TyAsk (T : String) : Prop := ∀ n ∈ ["NoneType", "bool", "int", "str", "tuple", "list", "dict"], kitB n T = some (n == T || (n == "bool" && T == "int"))
theorem ask_int : TyAsk "int" := by unfold TyAsk; decide +kernel
theorem ask_bool : TyAsk "bool" := by unfold TyAsk; decide +kernel
theorem ask_str : TyAsk "str" := by unfold TyAsk; decide +kernel
theorem ask_tuple : TyAsk "tuple" := by unfold TyAsk; decide +kernel
theorem ask_list : TyAsk "list" := by unfold TyAsk; decide +kernel
theorem tyN_mem {d : D} {n : String} (e : tyN d = some n) : n ∈ ["NoneType", "bool", "int", "str", "tuple", "list", "dict"] := by
  cases d <;> cases e <;> simp
theorem se_isi {e : Expr} {m : EM} {T x : Str} {Tn : String} {p p2 pos : Pos} (hT : TyAsk Tn) (he : SE X W E e m) (hg : Gl X "isinstance") (hm : X.mg "isinstance" = none) (hg2 : Gl X T) (hm2 : X.mg T = none) (hv2 : bootBuiltins T = some (.type Tn))
    (hs : starEach [e, .Name T p2] X.env = (false, eval e X.env) :: starEach [.Name T p2] X.env := by rfl) (hn2 : T ≠ "__name__" := by decide) (hd2 : (T == ("__debug__" : Str)) = false := by decide) :
    SE X W E (.Call (.Name "isinstance" p) [e, .Name T p2] [] pos) (eUn (isTy Tn) m) := by
  obtain ⟨te, pe, ke⟩ := he
  refine ⟨_, pe_callB call_isi hg hm (by decide +kernel) (pa_cons pe (pa_cons (pe_bltn (v := .ty Tn) hg2 hm2 hv2 rfl hn2 hd2) pa_nil) hs) (by decide) (by decide) hs rfl, fun Φ H F ρ σ Q I h => ?_⟩
  refine ke _ _ _ _ _ _ I (h.bnd fun x ρ1 v H1 F1 _ I1 x1 r1 h1 => ?_)
  obtain ⟨d, e, h1⟩ := optR_post h1
  obtain ⟨n, e1, rfl⟩ := Option.map_eq_some_iff.mp (show (tyN x).map _ = some d from e)
  exact ⟨v, _, _, _, _, rfl, .ty Tn, tyN_run r1 e1, kit_ty (hT n (tyN_mem e1)), h1 _ _ _ I1 (Ext.refl _ _) relD_bl⟩

/-! ### built-ins -/
theorem asBs_run : ∀ {ds : List D} {vs : List V} {bs : List Bool}, RelDs W A H ds vs → asBs ds = some bs → vs = bs.map V.bl
  | [], _, _, r, e => by rw [relDs_nil_inv r]; cases e; rfl
  | d :: ds, _, _, r, e => by
    obtain ⟨v, s, rfl, h1, h2⟩ := relDs_cons_inv r
    cases d with
    | bl b =>
      obtain ⟨bs, e1, rfl⟩ := Option.map_eq_some_iff.mp (show (asBs ds).map (b :: ·) = some _ from e)
      rw [relD_bl_inv h1, asBs_run h2 e1]; rfl
    | _ => cases e
theorem asIs_run : ∀ {ds : List D} {vs : List V} {bs : List Int}, RelDs W A H ds vs → asIs ds = some bs → vs = bs.map V.int
  | [], _, _, r, e => by rw [relDs_nil_inv r]; cases e; rfl
  | d :: ds, _, _, r, e => by
    obtain ⟨v, s, rfl, h1, h2⟩ := relDs_cons_inv r
    cases d with
    | int b =>
      obtain ⟨bs, e1, rfl⟩ := Option.map_eq_some_iff.mp (show (asIs ds).map (b :: ·) = some _ from e)
      rw [relD_int_inv h1, asIs_run h2 e1]; rfl
    | _ => cases e
theorem asSs_run : ∀ {ds : List D} {vs : List V} {bs : List Str}, RelDs W A H ds vs → asSs ds = some bs → vs = bs.map V.str
  | [], _, _, r, e => by rw [relDs_nil_inv r]; cases e; rfl
  | d :: ds, _, _, r, e => by
    obtain ⟨v, s, rfl, h1, h2⟩ := relDs_cons_inv r
    cases d with
    | str b =>
      obtain ⟨bs, e1, rfl⟩ := Option.map_eq_some_iff.mp (show (asSs ds).map (b :: ·) = some _ from e)
      rw [relD_str_inv h1, asSs_run h2 e1]; rfl
    | _ => cases e
theorem cd_all (hc : X.calm = true) : CallD X W (.builtin "all") bAll := ⟨_, cr_all hc, fun A H xs d vs Q t r e q => by
  unfold bAll at e
  split at e
  · obtain ⟨bs, e1, rfl⟩ := Option.map_eq_some_iff.mp e
    obtain ⟨v, rfl, h⟩ := relDs1_inv r
    obtain ⟨a, ws, rfl, _, h, rs⟩ := relD_lst_inv h
    rw [asBs_run rs e1] at h
    exact ⟨a, bs, rfl, .inl h, q _ _ (Same.refl _) relD_bl⟩
  · cases e⟩
theorem cd_any (hc : X.calm = true) : CallD X W (.builtin "any") bAny := ⟨_, cr_any hc, fun A H xs d vs Q t r e q => by
  unfold bAny at e
  split at e
  · obtain ⟨bs, e1, rfl⟩ := Option.map_eq_some_iff.mp e
    obtain ⟨v, rfl, h⟩ := relDs1_inv r
    obtain ⟨a, ws, rfl, _, h, rs⟩ := relD_lst_inv h
    rw [asBs_run rs e1] at h
    exact ⟨a, bs, rfl, .inl h, q _ _ (Same.refl _) relD_bl⟩
  · cases e⟩
theorem cd_sum (hc : X.calm = true) : CallD X W (.builtin "sum") bSum := ⟨_, cr_sum hc, fun A H xs d vs Q t r e q => by
  unfold bSum at e
  split at e
  · obtain ⟨bs, e1, rfl⟩ := Option.map_eq_some_iff.mp e
    obtain ⟨v, rfl, h⟩ := relDs1_inv r
    obtain ⟨a, ws, rfl, _, h, rs⟩ := relD_lst_inv h
    rw [asIs_run rs e1] at h
    exact ⟨a, bs, rfl, .inl h, q _ _ (Same.refl _) relD_int⟩
  · cases e⟩
theorem cd_len : CallD X W (.builtin "len") bLen := .of fun pins s σ H A xs d vs us Q I ru t r e q => by
  unfold bLen at e
  split at e
  · cases e
    obtain ⟨v, rfl, h⟩ := relDs1_inv r
    obtain ⟨a, ws, rfl, _, h, rs⟩ := relD_tup_inv h
    exact call_len_seq pins s σ H _ us Q I ru ⟨a, ws, rfl, .inr (.of h), by rw [← relDs_len rs]; exact q _ _ (Same.refl _) relD_int⟩
  · cases e
    obtain ⟨v, rfl, h⟩ := relDs1_inv r
    obtain ⟨a, ws, rfl, _, h, rs⟩ := relD_lst_inv h
    exact call_len_seq pins s σ H _ us Q I ru ⟨a, ws, rfl, .inl (.inl h), by rw [← relDs_len rs]; exact q _ _ (Same.refl _) relD_int⟩
  · obtain ⟨hz, e⟩ := Option.ite_none_right_eq_some.mp e
    cases e
    obtain ⟨v, rfl, h⟩ := relDs1_inv r
    exact call_len_str pins s σ H _ us Q I ru ⟨_, by rw [relD_str_inv h], Nat.le_trans hz cap_le, q _ _ (Same.refl _) relD_int⟩
  · cases e
    obtain ⟨v, rfl, h⟩ := relDs1_inv r
    unfold RelD at h
    obtain ⟨a, ws, rfl, _, h, rs⟩ := h
    obtain ⟨u, rfl, rv⟩ := vals1 ru
    cases rv
    exact d_len I h fun t s' I' => ⟨.int ws.length, H, I', ⟨t, rfl⟩, by rw [← relKs_len rs]; exact q _ _ (Same.refl _) relD_int⟩
  · cases e
theorem cd_int : CallD X W (.type "int") bInt := .of fun pins s σ H A xs d vs us Q I ru t r e q => by
  unfold bInt at e
  split at e
  · cases e
    obtain ⟨v, rfl, h⟩ := relDs1_inv r
    exact call_int1 pins s σ H _ us Q I ru (.inl ⟨_, by rw [relD_int_inv h], q _ _ (Same.refl _) relD_int⟩)
  · cases e
    obtain ⟨v, rfl, h⟩ := relDs1_inv r
    exact call_int1 pins s σ H _ us Q I ru (.inr ⟨_, by rw [relD_bl_inv h], q _ _ (Same.refl _) relD_int⟩)
  · obtain ⟨hz, e⟩ := Option.ite_none_right_eq_some.mp e
    obtain ⟨n, e1, rfl⟩ := Option.map_eq_some_iff.mp e
    obtain ⟨v, rfl, h⟩ := relDs1_inv r
    exact call_int_str pins s σ H _ us Q I ru ⟨_, n, by rw [relD_str_inv h], e1, hz, q _ _ (Same.refl _) relD_int⟩
  · cases e
theorem cd_abs : CallD X W (.builtin "abs") bAbs := ⟨_, call_abs, fun A H xs d vs Q t r e q => by
  unfold bAbs at e
  split at e
  · cases e
    obtain ⟨v, rfl, h⟩ := relDs1_inv r
    exact ⟨_, by rw [relD_int_inv h], q _ _ (Same.refl _) relD_int⟩
  · cases e⟩
theorem cd_str : CallD X W (.type "str") bStr := .of fun pins s σ H A xs d vs us Q I ru t r e q => by
  unfold bStr at e
  split at e
  · obtain ⟨hz, e⟩ := Option.ite_none_right_eq_some.mp e
    cases e
    obtain ⟨v, rfl, h⟩ := relDs1_inv r
    exact call_str_int pins s σ H _ us Q I ru ⟨_, by rw [relD_int_inv h], hz, q _ _ (Same.refl _) relD_str⟩
  · cases e
    obtain ⟨v, rfl, h⟩ := relDs1_inv r
    exact SkE.call_str_str pins s σ H _ us Q I ru ⟨_, by rw [relD_str_inv h], q _ _ (Same.refl _) relD_str⟩
  · cases e
theorem cd_tuple : CallD X W (.type "tuple") bTuple := .of fun pins s σ H A xs d vs us Q I ru t r e q => by
  unfold bTuple at e
  split at e
  · cases e
    obtain ⟨v, rfl, h⟩ := relDs1_inv r
    obtain ⟨a, ws, rfl, _, h, rs⟩ := relD_lst_inv h
    exact call_tuple_of pins s σ H _ us Q I ru ⟨a, ws, rfl, .inl ⟨.inl h, fun l hl => q _ _ (same_new hl) (relD_new_tup t hl rs)⟩⟩
  · cases e
    obtain ⟨v, rfl, h⟩ := relDs1_inv r
    obtain ⟨a, ws, rfl, _, h', rs⟩ := relD_tup_inv h
    exact call_tuple_of pins s σ H _ us Q I ru ⟨a, ws, rfl, .inr ⟨.of h', q _ _ (Same.refl _) h⟩⟩
  · cases e
theorem cd_list : CallD X W (.type "list") bList := ⟨_, call_list_of, fun A H xs d vs Q t r e q => by
  unfold bList at e
  split at e
  · cases e
    obtain ⟨v, rfl, h⟩ := relDs1_inv r
    obtain ⟨a, ws, rfl, _, h, rs⟩ := relD_lst_inv h
    exact ⟨a, ws, rfl, .inl (.inl h), fun l hl => q _ _ (same_new hl) (relD_new_lst t hl rs)⟩
  · cases e
    obtain ⟨v, rfl, h⟩ := relDs1_inv r
    obtain ⟨a, ws, rfl, _, h, rs⟩ := relD_tup_inv h
    exact ⟨a, ws, rfl, .inr (.of h), fun l hl => q _ _ (same_new hl) (relD_new_lst t hl rs)⟩
  · cases e⟩
end
end Tr
/- Tr8 -/
/-! Tr, part 8: statements; defs and their calls. -/
namespace Tr
open PySem L2

/-! ### statements -/
def PostS (W : Wd) (Φ : Fx) (E : XK) (D : Ends) : R (Option Tr.D) → Prop
  | .ok none ρ' => ∀ σ' H' F', RS W Φ H' F' ρ' σ' → D.nx σ' H'
  | .ok (some d) ρ' => ∀ v σ' H' F', RS W Φ H' F' ρ' σ' → RelD W (own Φ.O F') H' d v → D.rt v H'
  | .exc c d ρ' => ∀ dx v σ' H' F', RS W Φ H' F' ρ' σ' → H' dx = some (.xd [("value", v)]) → RelD W (own Φ.O F') H' d v → E (.ref (W.Ca c)) (some dx) H'
  | .bad => False
structure SS (X : Cx) (W : Wd) (E : XK) (st : Stmt) (m : SM) : Prop where
  ex : ∃ t, PS X st t ∧ ∀ (Φ : Fx) (H : Hp) (F : List Addr) (ρ : Env) (σ : St) (D : Ends), RS W Φ H F ρ σ → PostS W Φ E D (m ρ) → t D σ H
structure SB (X : Cx) (W : Wd) (E : XK) (st : List Stmt) (m : SM) : Prop where
  ex : ∃ t, PSs X st t ∧ ∀ (Φ : Fx) (H : Hp) (F : List Addr) (ρ : Env) (σ : St) (D : Ends), RS W Φ H F ρ σ → PostS W Φ E D (m ρ) → t D σ H
section
variable {α β : Type} {Rl : (Addr → Prop) → Hp → α → β → Prop} {W : Wd} {Φ : Fx} {E : XK} {σ : St} {B : Addr → Prop} {H : Hp} {Q : β → Hp → Prop} {D : Ends}
theorem PostS.bnd {r : R α} {k : α → Env → R (Option Tr.D)} (h : PostS W Φ E D (bnd r k))
    (n : ∀ a ρ1 v H1 F1, r = .ok a ρ1 → RS W Φ H1 F1 ρ1 σ → Ext B H (own Φ.O F1) H1 → Rl (own Φ.O F1) H1 a v → PostS W Φ E D (k a ρ1) → Q v H1) : Post Rl W Φ E σ B H Q r := by
  cases r with
  | ok a ρ1 => exact fun v H1 F1 I1 x1 r1 => n a ρ1 v H1 F1 rfl I1 x1 r1 h
  | exc c d ρ1 => exact fun dx v H1 F1 I1 e1 r1 => h dx v σ H1 F1 I1 e1 r1
  | bad => exact h
theorem PostS.seq {r : R (Option Tr.D)} {k : Env → R (Option Tr.D)} (h : PostS W Φ E D (Tr.bnd r fun o ρ => match o with
    | none => k ρ
    | some d => .ok (some d) ρ)) (nx : St → Hp → Prop) (hn : ∀ ρ1 σ1 H1 F1, RS W Φ H1 F1 ρ1 σ1 → PostS W Φ E D (k ρ1) → nx σ1 H1) : PostS W Φ E { D with nx := nx } r := by
  cases r with
  | ok o ρ1 => cases o with
    | none => exact fun σ1 H1 F1 I1 => hn ρ1 σ1 H1 F1 I1 h
    | some d => exact h
  | exc c d ρ1 => exact h
  | bad => exact h
end
section
variable {X : Cx} {W : Wd} {E : XK} {e : Expr} {st : Stmt} {rest : List Stmt} {ma : EM} {mt : TM} {ms mr : SM} {pos p : Pos}
theorem sb_nil : SB X W E [] sNil := ⟨_, pss_nil, fun Φ H F ρ σ D I h => h _ _ _ I⟩
theorem sb_cons (h1 : SS X W E st ms) (h2 : SB X W E rest mr) : SB X W E (st :: rest) (sCons ms mr) := by
  obtain ⟨t, p, k⟩ := h1
  obtain ⟨u, q, l⟩ := h2
  refine ⟨_, pss_cons p q, fun Φ H F ρ σ D I h => ?_⟩
  exact k Φ H F ρ σ _ I (PostS.seq h _ fun ρ1 σ1 H1 F1 I1 h1 => l Φ H1 F1 ρ1 σ1 D I1 h1)
theorem sb_one (h1 : SS X W E st ms) : SB X W E [st] ms := by
  obtain ⟨t, p, k⟩ := h1
  exact ⟨_, pss_one p, k⟩
theorem ss_expr (he : SE X W E e ma) (hs : swapsWith e none pos.line X.env = pure false := by rfl) : SS X W E (.Expr e pos) (sExpr ma) := by
  obtain ⟨t, p, k⟩ := he
  refine ⟨_, ps_expr p hs, fun Φ H F ρ σ D I h => ?_⟩
  exact k _ _ _ _ _ _ I (PostS.bnd h fun x ρ1 v H1 F1 _ I1 x1 r1 h1 => h1 _ _ _ I1)
theorem ss_ret (he : SE X W E e ma) : SS X W E (.Return (some e) pos) (sRet ma) := by
  obtain ⟨t, p, k⟩ := he
  refine ⟨_, ps_ret p, fun Φ H F ρ σ D I h => ?_⟩
  exact k _ _ _ _ _ _ I (PostS.bnd h fun x ρ1 v H1 F1 _ I1 x1 r1 h1 => h1 _ _ _ _ I1 r1)
theorem ss_retN : SS X W E (.Return none pos) sRetN := ⟨_, ps_retN, fun Φ H F ρ σ D I h => h _ _ _ _ I relD_non⟩
theorem ss_if {a b : List Stmt} (hc : ST X W E e mt) (ha : SB X W E a ms) (hb : SB X W E b mr) : SS X W E (.If e a b pos) (sIf mt ms mr) := by
  obtain ⟨tc, pc, kc⟩ := hc
  obtain ⟨ta, pa, ka⟩ := ha
  obtain ⟨tb, pb, kb⟩ := hb
  refine ⟨_, ps_if pc pa pb, fun Φ H F ρ σ D I h => ?_⟩
  refine kc _ _ _ _ _ _ I (PostS.bnd h fun k ρ1 v H1 F1 _ I1 x1 r1 h1 => ?_)
  subst r1
  cases k with
  | true => exact iteT (ka _ _ _ _ _ _ I1 h1)
  | false => exact iteF (kb _ _ _ _ _ _ I1 h1)
/-- what is never come to -/
theorem ss_never {X : Cx} {W : Wd} {E : XK} {st : Stmt} : SS X W E st (fun _ => .bad) := ⟨_, ps_never, fun Φ H F ρ σ D I h => h⟩
theorem sb_never {X : Cx} {W : Wd} {E : XK} {st : List Stmt} : SB X W E st (fun _ => .bad) := ⟨_, pss_never, fun Φ H F ρ σ D I h => h⟩
/-- only the slots is are given something -/
def Fr (is : List Nat) (σ σ' : St) : Prop := σ'.length = σ.length ∧ ∀ j, j ∉ is → σ'[j]? = σ[j]?
theorem Fr.refl (is : List Nat) (σ : St) : Fr is σ σ := ⟨rfl, fun _ _ => rfl⟩
theorem Fr.trans {is js : List Nat} {σ σ' σ'' : St} (a : Fr is σ σ') (b : Fr js σ' σ'') : Fr (is ++ js) σ σ'' := ⟨b.1.trans a.1, fun j h => (b.2 j fun z => h (List.mem_append_right _ z)).trans (a.2 j fun z => h (List.mem_append_left _ z))⟩
/-- a target, given a tree -/
structure SG (X : Cx) (W : Wd) (e : Expr) (is : List Nat) (m : Tr.D → Env → Option Env) : Prop where
  ex : ∃ t, PG X e t ∧ ∀ (Φ : Fx) (H : Hp) (F : List Addr) (ρ ρ' : Env) (σ : St) (N : St → Hp → Prop) (d : Tr.D) (v : V), RS W Φ H F ρ σ → RelD W (own Φ.O F) H d v → m d ρ = some ρ' →
    (∀ σ' F', RS W Φ H F' ρ' σ' → Ext (own Φ.O F) H (own Φ.O F') H → Fr is σ σ' → N σ' H) → t v σ H N
/-- .. targets, given trees -/
structure SGs (X : Cx) (W : Wd) (es : List Expr) (is : List Nat) (m : List Tr.D → Env → Option Env) : Prop where
  ex : ∃ t, PGs X es t ∧ ∀ (Φ : Fx) (H : Hp) (F : List Addr) (ρ ρ' : Env) (σ : St) (N : St → Hp → Prop) (ds : List Tr.D) (vs : List V), RS W Φ H F ρ σ → RelDs W (own Φ.O F) H ds vs → m ds ρ = some ρ' →
    (∀ σ' F', RS W Φ H F' ρ' σ' → Ext (own Φ.O F) H (own Φ.O F') H → Fr is σ σ' → N σ' H) → t vs σ H N
end

/-- the name in slot i is given d -/
def gSet (i : Nat) : GM := fun d ρ => if i < ρ.length then some (ρ.set i (.val d)) else none
def gTupM (n : Nat) (m : List D → Env → Option Env) : GM := fun d ρ => match d with
  | .tup ds => if ds.length = n then m ds ρ else none
  | _ => none
def gNilM : List D → Env → Option Env
  | [], ρ => some ρ
  | _, _ => none
def gConsM (m : GM) (r : List D → Env → Option Env) : List D → Env → Option Env
  | d :: ds, ρ => (m d ρ).bind (r ds)
  | [], _ => none
def sAsg (a : EM) (g : GM) : SM := fun ρ => bnd (a ρ) fun d ρ => match g d ρ with
  | some ρ' => .ok none ρ'
  | none => .bad
section
variable {X : Cx} {W : Wd} {E : XK} {e tg : Expr} {es : List Expr} {ma : EM} {pos p : Pos}
theorem sg_name (i : Nat) {x : Str} (hN : X.N.Nodup) (hi : X.N[i]? = some x := by rfl) (hx : Loc X.env.scope x := by first | exact Or.inl rfl | exact Or.inr rfl) (hf : X.fn x = true ∨ X.env.scope.names.lookup x = some .local := by first | exact .inl rfl | exact .inr rfl) : SG X W (.Name x pos) [i] (gSet i) := by
  refine ⟨_, pg_name hN hi hx hf, fun Φ H F ρ ρ' σ N d v I r h q => ?_⟩
  unfold gSet at h
  split at h
  · rename_i hlt
    cases h
    obtain ⟨F', I', x⟩ := I.setVal (List.getElem?_eq_getElem hlt) r
    exact q _ _ I' x ⟨List.length_set, fun j h => List.getElem?_set_ne fun z => h (by rw [z]; exact List.mem_cons_self)⟩
  · cases h
theorem sgs_nil : SGs X W [] [] gNilM := by
  refine ⟨_, pgs_nil, fun Φ H F ρ ρ' σ N ds vs I r h q => ?_⟩
  cases ds with
  | nil => cases h; exact ⟨relDs_nil_inv r, q _ _ I (Ext.refl _ _) (Fr.refl _ _)⟩
  | cons _ _ => cases h
theorem sgs_cons {is js : List Nat} {m : GM} {mr : List Tr.D → Env → Option Env} (h1 : SG X W e is m) (h2 : SGs X W es js mr) (hs : (assignEach (e :: es) X.env).map (·.2) = assign e X.env :: (assignEach es X.env).map (·.2) := by rfl) : SGs X W (e :: es) (is ++ js) (gConsM m mr) := by
  obtain ⟨t, p, k⟩ := h1
  obtain ⟨u, q, l⟩ := h2
  refine ⟨_, pgs_cons p q hs, fun Φ H F ρ ρ' σ N ds vs I r h q => ?_⟩
  cases ds with
  | nil => cases h
  | cons d ds =>
    obtain ⟨v, s, rfl, r1, r2⟩ := relDs_cons_inv r
    obtain ⟨ρ1, e1, e2⟩ := Option.bind_eq_some_iff.mp (show (m d ρ).bind (mr ds) = some ρ' from h)
    refine ⟨v, s, rfl, k Φ H F ρ ρ1 σ _ d v I r1 e1 fun σ1 F1 I1 x1 f1 => ?_⟩
    exact l Φ H F1 ρ1 ρ' σ1 N ds s I1 (r2.ext x1) e2 fun σ2 F2 I2 x2 f2 => q σ2 F2 I2 (x1.trans x2) (f1.trans f2)
theorem sg_tup {n : Nat} {k : Nat} {is : List Nat} {mr : List Tr.D → Env → Option Env} (hc : X.calm = true) (h : SGs X W es is mr) (hn : (assignEach es X.env).length = n := by rfl) (hst : (assignEach es X.env).findIdx? (·.1) = none := by rfl) : SG X W (.Tuple es k pos) is (gTupM n mr) := by
  obtain ⟨u, q, l⟩ := h
  refine ⟨_, pg_tup hc q hn hst, fun Φ H F ρ ρ' σ N d v I r h q => ?_⟩
  cases d with
  | tup ds =>
    obtain ⟨hl, h⟩ := Option.ite_none_right_eq_some.mp (show (if ds.length = n then mr ds ρ else none) = some ρ' from h)
    obtain ⟨a, vs, rfl, _, ha, rs⟩ := relD_tup_inv r
    exact ⟨a, vs, rfl, .of ha, by rw [← relDs_len rs]; exact hl, l _ _ _ _ _ _ _ _ _ I rs h q⟩
  | _ => cases h
theorem ss_asg {m : GM} {is : List Nat} (he : SE X W E e ma) (hg : SG X W tg is m) (hs : swapsWithSole [tg] e pos.line X.env = pure false := by rfl) (hw : swappedStores [tg] e X.env = pure none := by rfl)
    (h1 : (assignEach [tg] X.env).map (·.2) = [assign tg X.env] := by rfl) : SS X W E (.Assign [tg] e pos) (sAsg ma m) := by
  obtain ⟨t, p, k⟩ := he
  obtain ⟨u, q, l⟩ := hg
  refine ⟨_, ps_asg p q hs hw h1, fun Φ H F ρ σ D I h => ?_⟩
  refine k _ _ _ _ _ _ I (PostS.bnd h fun x ρ1 v H1 F1 _ I1 x1 r1 h1 => ?_)
  cases g : m x ρ1 with
  | none => rw [g] at h1; exact h1.elim
  | some ρ2 =>
    rw [g] at h1
    exact l _ _ _ _ _ _ _ _ _ I1 r1 g fun σ2 F2 I2 _ _ => h1 _ _ _ I2
/-- a, b = e1, e2: both sides written, two local names -/
def sPar (i j : Nat) (l : LM) : SM := fun ρ => bnd (l ρ) fun xs ρ => match xs with
  | [x, y] => if i < ρ.length ∧ j < ρ.length then .ok none ((ρ.set i (.val x)).set j (.val y)) else .bad
  | _ => .bad
theorem ss_par {a b : Expr} {i j : Nat} {x y : Str} {px py pt : Pos} {kt k2 pt2} {ml : LM} (hl : SA X W E [a, b] ml) (hc : X.calm = true) (hN : X.N.Nodup) (hi : X.N[i]? = some x) (hj : X.N[j]? = some y) (hij : i ≠ j)
    (hx : X.env.scope.names.lookup x = some .local) (hy : X.env.scope.names.lookup y = some .local) (hw : swappedStores [.Tuple [.Name x px, .Name y py] kt pt] (.Tuple [a, b] k2 pt2) X.env = pure (some [x, y]))
    (hs : swapsWithSole [.Tuple [.Name x px, .Name y py] kt pt] (.Tuple [a, b] k2 pt2) pos.line X.env = pure false := by rfl) :
    SS X W E (.Assign [.Tuple [.Name x px, .Name y py] kt pt] (.Tuple [a, b] k2 pt2) pos) (sPar i j ml) := by
  obtain ⟨t, p, k⟩ := hl
  refine ⟨_, ps_par hc hN hi hj hij hx hy p hw hs, fun Φ H F ρ σ D I h => ?_⟩
  refine k _ _ _ _ _ _ I (PostS.bnd h fun xs ρ1 vs H1 F1 _ I1 x1 r1 h1 => ?_)
  match xs, r1, h1 with
  | [d, d'], r1, h1 =>
    obtain ⟨v, u, rfl, rv, ru⟩ := relDs2_inv r1
    have h1 : PostS W Φ E D (if i < ρ1.length ∧ j < ρ1.length then .ok none ((ρ1.set i (.val d)).set j (.val d')) else .bad) := h1
    split at h1
    · rename_i hlt
      obtain ⟨F2, I2, x2⟩ := I1.setVal (List.getElem?_eq_getElem hlt.1) rv
      have hlt2 : j < (ρ1.set i (.val d)).length := by rw [List.length_set]; exact hlt.2
      obtain ⟨F3, I3, _⟩ := I2.setVal (List.getElem?_eq_getElem hlt2) (ru.ext x2)
      exact ⟨v, u, rfl, h1 _ _ _ I3⟩
    · exact h1.elim
  | [], _, h1 => exact h1.elim
  | [_], _, h1 => exact h1.elim
  | _ :: _ :: _ :: _, _, h1 => exact h1.elim
end
end Tr
/- Tr9 -/
/-! Tr, part 9: defs and their calls. -/
namespace Tr
open PySem L2
/-- what a def promises: it does f -/
def PostF (W : Wd) (O : Addr → Prop) (F : List Addr) (H : Hp) (vs : List V) (Q : VK) (E : XK) : RF → Prop
  | .ok d out => ∀ v H' F', (∀ a o, H a = some o → a ∉ F → H' a = some o) → (∀ a ∈ F', a ∈ F ∨ H a = none) → F'.Nodup → SlR W (own O F') H' out vs.head? F' → RelD W (own O F') H' d v → Q v H'
  | .exc c d out => ∀ dx v H' F', (∀ a o, H a = some o → a ∉ F → H' a = some o) → (∀ a ∈ F', a ∈ F ∨ H a = none) → F'.Nodup → SlR W (own O F') H' out vs.head? F' → H' dx = some (.xd [("value", v)]) →
      RelD W (own O F') H' d v → E (.ref (W.Ca c)) (some dx) H'
  | .bad => False
def spF (W : Wd) (f : Fn) : Sp := fun vs H Q E => ∃ (O : Addr → Prop) (F : List Addr) (ss : List SV), Sl W (own O F) H ss (vs.map some) F ∧ F.Nodup ∧ (∀ a, O a → ∃ o, H a = some o) ∧ (∀ a ∈ F, ¬ O a) ∧
  PostF W O F H vs Q E (f ss)
section
variable {W : Wd} {A A' : Addr → Prop} {H : Hp}
theorem ext_sub (h : ∀ a, A' a → A a) : Ext A H A' H := fun a o e n => ⟨e, fun z => n (h a z)⟩
theorem sl_vals : ∀ {ds : List D} {vs : List V}, RelDs W A H ds vs → Sl W A H (ds.map .val) (vs.map some) []
  | [], _, r => by rw [relDs_nil_inv r]; exact ⟨rfl, rfl⟩
  | d :: ds, _, r => by
    obtain ⟨v, s, rfl, h1, h2⟩ := relDs_cons_inv r
    exact ⟨some v, s.map some, [], [], rfl, rfl, ⟨rfl, v, rfl, h1⟩, sl_vals h2⟩
theorem sl_app_no : ∀ {ρ : Env} {σ : St} {F : List Addr} (n m : Nat), n = m → Sl W A H ρ σ F → Sl W A H (ρ ++ List.replicate n .no) (σ ++ List.replicate m none) F
  | [], _, _, n, _, rfl, ⟨e, e2⟩ => by
    subst e; subst e2
    simp only [List.nil_append]
    induction n with
    | zero => exact ⟨rfl, rfl⟩
    | succ n ih => exact ⟨none, List.replicate n none, [], [], by rw [List.replicate_succ], rfl, rfl, ih⟩
  | s :: ρ, _, _, n, m, e, ⟨v, r, F1, F2, e1, e2, h1, h2⟩ => by
    subst e1; subst e2
    exact ⟨v, r ++ List.replicate m none, F1, F2, rfl, rfl, h1, sl_app_no n m e h2⟩
/-- what the first slot keeps -/
theorem sl_head {ρ : Env} {σ : St} {F : List Addr} (h : Sl W A H ρ σ F) (v0 : Option V) (k0 : ∀ s, ρ[0]? = some s → s.isOwn = true → σ[0]? = some v0) : ∃ F', (∀ a ∈ F', a ∈ F) ∧ List.Sublist F' F ∧ SlR W A H (keepOwn ρ[0]?) v0 F' := by
  cases ρ with
  | nil => exact ⟨[], fun _ m => (nomatch m), List.nil_sublist _, rfl⟩
  | cons s ρ =>
    obtain ⟨v, r, F1, F2, rfl, rfl, h1, h2⟩ := h
    cases s with
    | no => exact ⟨[], fun _ m => (nomatch m), List.nil_sublist _, rfl⟩
    | val d => exact ⟨[], fun _ m => (nomatch m), List.nil_sublist _, rfl⟩
    | ol ds =>
      have := k0 _ rfl rfl
      cases this
      exact ⟨F1, fun a m => List.mem_append_left _ m, List.sublist_append_left _ _, h1⟩
    | oi c fs =>
      have := k0 _ rfl rfl
      cases this
      exact ⟨F1, fun a m => List.mem_append_left _ m, List.sublist_append_left _ _, h1⟩
end
theorem own_mono {O : Addr → Prop} {F F' : List Addr} (h : ∀ a ∈ F', a ∈ F) : ∀ a, own O F' a → own O F a := fun a z => z.imp id (h a)
theorem SlR.sub {W : Wd} {A A' : Addr → Prop} {H : Hp} {s : SV} {v : Option V} {F : List Addr} (h : SlR W A H s v F) (k : ∀ a, A' a → A a) : SlR W A' H s v F := h.ext (ext_sub k) fun _ _ _ e => e
abbrev CXe (P : Program) (w : World) (K : PySem.W.Frag) (mg : Str → Option Value) (base : Heap) (N : List Str) (qual : Str) (st : Stmt) (f : Addr) (cdv : Value) (A : Around) (outer : List PySem.Env) (s : Shared) (H : Hp) (E : XK) : Cx :=
  cxOf (L2.CX P w) P w K mg base N qual (defScope st) f cdv A outer s H E
section
variable {P : Program} {w : World} {K : PySem.W.Frag} {mg : Str → Option Value} {base : Heap} {W : Wd}
theorem cx_takes {N : List Str} {qual : Str} {sc : Scope} {f : Addr} {cdv : Value} {A : Around} {outer : List PySem.Env} {s : Shared} {H : Hp} {E : XK} : Takes (cxOf (L2.CX P w) P w K mg base N qual sc f cdv A outer s H E) (fun cls d _ H => E cls d H) := takes_of rfl rfl rfl rfl
theorem cx_passes {N : List Str} {qual : Str} {sc : Scope} {f : Addr} {cdv : Value} {A : Around} {outer : List PySem.Env} {s : Shared} {H : Hp} {E : XK} : Passes (L2.CX P w) (cxOf (L2.CX P w) P w K mg base N qual sc f cdv A outer s H E) E := passes_call cx_takes fun _ _ _ _ h => h
theorem cx_own {N : List Str} {qual : Str} {sc : Scope} {f : Addr} {cdv : Value} {A : Around} {outer : List PySem.Env} {s : Shared} {H : Hp} {E : XK} : PassesOwn (model P w) (cxOf (L2.CX P w) P w K mg base N qual sc f cdv A outer s H E).A (cxOf (L2.CX P w) P w K mg base N qual sc f cdv A outer s H E).env (cxOf (L2.CX P w) P w K mg base N qual sc f cdv A outer s H E).xe := passes_of rfl
/-- room, and no guard of a builtin around -/
structure RoomG (k : Nat) (A : Around) : Prop where
  rm : Room k A
  gd : A.guards = some []
theorem RoomG.mono {j k : Nat} {A : Around} (r : RoomG k A) (h : j ≤ k) : RoomG j A := ⟨r.rm.mono h, r.gd⟩
theorem RoomG.in1 {k : Nat} {A : Around} (r : RoomG (k + 1) A) : RoomG k A.in1 := ⟨r.rm.in1, r.gd⟩
theorem RoomG.deeper {k : Nat} {A : Around} (r : RoomG (k + 1) A) (env : PySem.Env) : RoomG k (A.deeper env) := ⟨r.rm.deeper env, r.gd⟩
theorem make_guards {A : Around} {C : Addr} {us : List Value} {kw : List (Str × Value)} : (A.under (.builtin "type.__call__" ⟨.ref C :: us, kw⟩)).guards = A.guards := by
  have e : Code.guards (.builtin "type.__call__" ⟨.ref C :: us, kw⟩) = [] := by
    unfold Code.guards
    rw [if_neg (by show ¬ guardIds.contains "type.__call__" = true; decide)]
  show pushGuards (Code.guards (.builtin "type.__call__" ⟨.ref C :: us, kw⟩)) A.guards = A.guards
  rw [e]
  rfl
theorem RoomG.make {k : Nat} {A : Around} (r : RoomG (k + 1) A) (C : Addr) (us : List Value) (kw : List (Str × Value)) : RoomG k (A.under (.builtin "type.__call__" ⟨.ref C :: us, kw⟩)) := ⟨r.rm.make C us kw, make_guards.trans r.gd⟩
/-- a def's promise under such room: by what is bound; by positional values -/
structure FnB (P : Program) (w : World) (K : PySem.W.Frag) (mg : Str → Option Value) (base : Heap) (CX : CXT) (k : Nat) (f : Addr) (fd : FuncData) (ps : List Str) (sp : Sp) : Prop where
  len : ∀ vs H Q E, sp vs H Q E → vs.length = ps.length
  run : ∀ (A : Around) (outer : List PySem.Env) (s : Shared) (H : Hp) (args : Args) (us : List Value) (vs : List V) (Q : VK) (E : XK), RoomG k A → Env0 P w K mg base A outer s H → BindsTo s fd args (ps.zip us) → Vals vs us → sp vs H Q E →
    codeAny (model P w) A (.call (.ref f) args) (CR CX outer P w H s Q E) s
def FnQ (P : Program) (w : World) (K : PySem.W.Frag) (mg : Str → Option Value) (base : Heap) (CX : CXT) (k : Nat) (f : Addr) (sp : Sp) : Prop :=
  ∀ (A : Around) (outer : List PySem.Env) (s : Shared) (H : Hp) (us : List Value) (vs : List V) (Q : VK) (E : XK), RoomG k A → Env0 P w K mg base A outer s H → Vals vs us → sp vs H Q E → codeAny (model P w) A (.call (.ref f) ⟨us, []⟩) (CR CX outer P w H s Q E) s
theorem FnB.raw {P : Program} {w : World} {K : PySem.W.Frag} {mg : Str → Option Value} {base : Heap} {CX : CXT} {k : Nat} {f : Addr} {fd : FuncData} {ps : List Str} {sp : Sp} (F : FnB P w K mg base CX k f fd ps sp) (hb : Binds K fd ps []) : FnQ P w K mg base CX k f sp := by
  intro A outer s H us vs Q E hr e0 r hs
  have hl : (us ++ ([] : List Value)).length = ps.length := by rw [List.append_nil, ← r.length]; exact F.len _ _ _ _ hs
  have := hb s us (e0.mod.kin.keeps fun b o e => (e0.bs b o e).1) hl
  rw [List.append_nil] at this
  exact F.run A outer s H ⟨us, []⟩ us vs Q E hr e0 this r hs
theorem FnQ.mono {P : Program} {w : World} {K : PySem.W.Frag} {mg : Str → Option Value} {base : Heap} {CX : CXT} {j k : Nat} {f : Addr} {sp : Sp} (F : FnQ P w K mg base CX j f sp) (h : j ≤ k) : FnQ P w K mg base CX k f sp := fun A outer s H us vs Q E hr => F A outer s H us vs Q E (hr.mono h)
/-- a body keeps a promise -/
theorem fnB_of {CX : CXT} {k : Nat} {f : Addr} {name qual : Str} {params : Arguments} {body : List Stmt} {scope : Scope} {dV kV doc pm cdv ct oc : Value} {an od : Option Addr} {osl : Array (Option Value)} {N ps : List Str} {sp : Sp}
    (lk : K.lookup f = some ⟨oc, od, .func (PySem.W.fnOf name qual params body scope dV kV doc pm an cdv ct), osl⟩) (hcd : PySem.W.codeIn K cdv qual = true) (S : FnScope N ps scope) (len : ∀ vs H Q E, sp vs H Q E → vs.length = ps.length)
    (hbody : ∀ (A : Around) (outer : List PySem.Env) (s : Shared) (H : Hp) (vs : List V) (Q : VK) (E : XK), RoomG k (A.deeper (PyProof.Rows.envOfC qual scope s.heap.objs.size f cdv)) → sp vs H Q E →
      ∃ t, PSs (cxOf CX P w K mg base N qual scope f cdv A outer s H E) body t ∧ t { nx := fun _ H' => Q .non H', rt := Q } (start N vs) H) :
    FnB P w K mg base CX (k + 1) f (PySem.W.fnOf name qual params body scope dV kV doc pm an cdv ct) ps sp where
  len := len
  run := fun A outer s H args us vs Q E hr e0 hb r hsp => by
    have KX : K.In s.heap := e0.mod.kin.keeps fun b o e => (e0.bs b o e).1
    have par : ∀ y ∈ ps.zip us, scope.names.lookup y.1 = some .local ∨ (scope.names.lookup y.1 = some .cell ∧ ((cellsFrom (s.heap.objs.size + 1) scope.names []).lookup y.1).isSome = true) := fun y hy =>
      (S.par y.1 (List.of_mem_zip hy).1).imp id fun q => ⟨q, PySem.W.cellsFrom_some _ _ _ (.inl q)⟩
    refine codeAny_call_function hr.rm.depth (KX _ _ lk) rfl S.co S.gen rfl (PySem.W.codeRec_of KX hcd) (hb _ _ _ _ (wpAny_newFunctionEnv_cells S.kind par fun env he s1 x => ?_))
    subst he
    refine ⟨(e0.mod.nolimit.keeps fun b o e => (e0.bs b o e).1).keeps x.toInCall.keep, codeAny_func ?_⟩
    obtain ⟨t, ht, hq⟩ := hbody A outer s H vs Q E (hr.deeper _) hsp
    refine wpAny_mono (ht.run [] s1 (start N vs) H _ (inv_start S hr.rm.hd e0 (len _ _ _ _ hsp) r x) hq) (fun fl s' hs => ?_) fun e s' hs => hs
    cases fl with
    | ret u => exact let ⟨v, σ', H', J, rv, q⟩ := hs; ⟨v, H', J.os, J.bare, J.base, J.hok, rv, q⟩
    | next => exact let ⟨σ', H', J, q⟩ := hs; ⟨.non, H', J.os, J.bare, J.base, J.hok, rfl, q⟩
    | brk => exact let ⟨_, _, _, q⟩ := hs; q.elim
    | cont => exact let ⟨_, _, _, q⟩ := hs; q.elim
theorem ok_at {x qual : Str} {st : Stmt} {f : Addr} {N ps : List Str} {k : Nat} {m : SM} {params : Arguments} {dV kV doc pm cdv ct oc : Value} {an od : Option Addr} {osl : Array (Option Value)}
    (lk : K.lookup f = some ⟨oc, od, .func (PySem.W.fnOf x qual params (defBody st) (defScope st) dV kV doc pm an cdv ct), osl⟩) (hcd : PySem.W.codeIn K cdv qual = true) (S : FnScope N ps (defScope st))
    (hb : ∀ (cdv : Value) (A : Around) (outer : List PySem.Env) (s : Shared) (H : Hp) (E : XK), RoomG k (CXe P w K mg base N qual st f cdv A outer s H E).A → SB (CXe P w K mg base N qual st f cdv A outer s H E) W E (defBody st) m) :
    FnB P w K mg base (L2.CX P w) (k + 1) f (PySem.W.fnOf x qual params (defBody st) (defScope st) dV kV doc pm an cdv ct) ps (spF W (fnOf ps.length N.length m)) := by
  have ln : ∀ vs H Q E, spF W (fnOf ps.length N.length m) vs H Q E → vs.length = ps.length := fun vs H Q E h => by
    obtain ⟨O, Fp, ss, hsl, _, _, _, hp⟩ := h
    have := hsl.length
    rw [List.length_map] at this
    unfold fnOf at hp
    split at hp
    · omega
    · exact hp.elim
  refine fnB_of lk hcd S ln (fun A outer s H vs Q E hr h => ?_)
  have lv := ln vs H Q E h
  obtain ⟨O, Fp, ss, hsl, nd, tk, dj, hp⟩ := h
  obtain ⟨t, p, kk⟩ := hb cdv A outer s H E hr
  refine ⟨t, p, ?_⟩
  have hl : ss.length = vs.length := by rw [hsl.length, List.length_map]
  have hlp : ss.length = ps.length := by rw [hl, lv]
  have I : RS W ⟨O, H, Fp, vs.head?⟩ H Fp (ss ++ List.replicate (N.length - ps.length) .no) (start N vs) := by
    refine ⟨sl_app_no _ _ (by rw [lv]) hsl, nd, fun a o q _ => q, fun a m => .inl m, tk, dj, fun s' q1 q2 => ?_⟩
    cases ss with
    | nil =>
      rw [List.nil_append, List.getElem?_replicate] at q1
      split at q1
      · cases q1; cases q2
      · cases q1
    | cons s0 ss =>
      cases vs with
      | nil => simp at hl
      | cons v0 vs => rfl
  refine kk _ _ _ _ _ _ I ?_
  unfold fnOf at hp
  rw [if_pos hlp] at hp
  cases em : m (ss ++ List.replicate (N.length - ps.length) .no) with
  | ok o ρ' =>
    cases o with
    | none =>
      intro σ' H' F' I'
      have hp : PostF W O Fp H vs Q E (.ok .non (keepOwn ρ'[0]?)) := by rw [em] at hp; exact hp
      obtain ⟨F2, m2, s2, r2⟩ := sl_head I'.sl vs.head? I'.k0
      exact hp .non H' F2 I'.st (fun a q => I'.fr a (m2 a q)) (I'.nd.sublist s2) (r2.sub (own_mono m2)) relD_non
    | some d =>
      intro v σ' H' F' I' rd
      have hp : PostF W O Fp H vs Q E (.ok d (keepOwn ρ'[0]?)) := by rw [em] at hp; exact hp
      obtain ⟨F2, m2, s2, r2⟩ := sl_head I'.sl vs.head? I'.k0
      exact hp v H' F2 I'.st (fun a q => I'.fr a (m2 a q)) (I'.nd.sublist s2) (r2.sub (own_mono m2)) (rd.ext (ext_sub (own_mono m2)))
  | exc c d ρ' =>
    intro dx v σ' H' F' I' hx rd
    have hp : PostF W O Fp H vs Q E (.exc c d (keepOwn ρ'[0]?)) := by rw [em] at hp; exact hp
    obtain ⟨F2, m2, s2, r2⟩ := sl_head I'.sl vs.head? I'.k0
    exact hp dx v H' F2 I'.st (fun a q => I'.fr a (m2 a q)) (I'.nd.sublist s2) (r2.sub (own_mono m2)) hx (rd.ext (ext_sub (own_mono m2)))
  | bad =>
    have hp : PostF W O Fp H vs Q E .bad := by rw [em] at hp; exact hp
    exact hp.elim
/-- THE RULE for a def: its body does m -/
theorem ok_fn {x qual : Str} {st : Stmt} {f : Addr} {fd : FuncData} {N ps : List Str} {k : Nat} {m : SM} (F : Fun K x qual st f fd) (S : FnScope N ps (defScope st))
    (hb : ∀ (cdv : Value) (A : Around) (outer : List PySem.Env) (s : Shared) (H : Hp) (E : XK), RoomG k (CXe P w K mg base N qual st f cdv A outer s H E).A → SB (CXe P w K mg base N qual st f cdv A outer s H E) W E (defBody st) m) :
    FnB P w K mg base (L2.CX P w) (k + 1) f fd ps (spF W (fnOf ps.length N.length m)) := by
  obtain ⟨oc, od, kV, doc, pm, an, cdv, ct, osl, rfl, lk, hcd⟩ := F.ex
  exact ok_at lk hcd S hb
end
end Tr
/- Tr10 -/
/-! Tr, part 10: calls. -/
namespace Tr
open PySem L2
theorem set_same {α : Type} : ∀ {l : List α} {i : Nat} {v : α}, l[i]? = some v → l.set i v = l
  | [], i, v, h => by cases i <;> cases h
  | x :: l, 0, v, h => by cases h; rfl
  | x :: l, i + 1, v, h => by
    have h : l[i]? = some v := by simpa using h
    rw [List.set_cons_succ, set_same h]
section
variable {W : Wd} {Φ : Fx} {E : XK} {H : Hp} {F : List Addr} {ρ : Env} {σ : St} {Q : VK}
theorem relDs_vals {A : Addr → Prop} {xs : List D} {vs : List V} (r : RelDs W A H xs vs) : xs.length = vs.length := relDs_len r
/-- a def's promise, of trees -/
theorem spF_vals {xs : List D} {vs : List V} {f : Fn} (I : RS W Φ H F ρ σ) (r : RelDs W (own Φ.O F) H xs vs) (h : PostE W Φ E σ (own Φ.O F) H Q (ofRF ρ (f (xs.map .val)))) : spF W f vs H Q E := by
  have mono : ∀ F' : List Addr, ∀ a, own Φ.O F a → own (own Φ.O F) F' a := fun F' a z => .inl z
  refine ⟨own Φ.O F, [], xs.map .val, ?_, List.nodup_nil, I.tk, fun _ m => (nomatch m), ?_⟩
  · exact (sl_vals r).ext (ext_sub fun a z => by rcases z with z | z; exact z; cases z) fun _ m => (nomatch m)
  cases ef : f (xs.map .val) with
  | ok d out =>
    rw [ef] at h
    intro v H' F' k kF nd so rd
    have sm : Same H H' := fun a o q => k a o q (fun m => nomatch m)
    obtain ⟨I', x'⟩ := I.same sm
    exact h v H' F I' x' (rd.ext (ext_sub (mono F')))
  | exc c d out =>
    rw [ef] at h
    intro dx v H' F' k kF nd so hx rd
    have sm : Same H H' := fun a o q => k a o q (fun m => nomatch m)
    obtain ⟨I', x'⟩ := I.same sm
    exact h dx v H' F I' hx (rd.ext (ext_sub (mono F')))
  | bad => rw [ef] at h; exact h.elim
/-- .. of something of one's own, and trees -/
theorem spF_own {i : Nat} {s : SV} {v : V} {xs : List D} {vs : List V} {f : Fn} (I : RS W Φ H F ρ σ) (e : ρ[i]? = some s) (hs : s.isOwn = true) (hv : σ[i]? = some (some v)) (r : RelDs W (own Φ.O F) H xs vs) 
    (h : PostE W Φ E σ (own Φ.O F) H Q (ofRFo i ρ (f (s :: xs.map .val)))) : spF W f (v :: vs) H Q E := by
  obtain ⟨v1, F1, Fi, F2, e1, e2, hsl, k⟩ := I.upd e
  rw [hv] at e1; cases e1
  have nd := I.nd
  have dj := I.dj
  have tk := I.tk
  have k0 := I.k0
  subst e2
  obtain ⟨nd1, nd2, nd12⟩ := List.nodup_append.mp nd
  obtain ⟨ndi, nd3, ndi2⟩ := List.nodup_append.mp nd2
  let O' : Addr → Prop := own Φ.O (F1 ++ F2)
  have eq : ∀ a, own Φ.O (F1 ++ (Fi ++ F2)) a ↔ own O' Fi a := fun a => by
    constructor
    · rintro (z | z)
      · exact .inl (.inl z)
      · rcases List.mem_append.mp z with z | z
        · exact .inl (.inr (by simp [z]))
        · rcases List.mem_append.mp z with z | z
          · exact .inr z
          · exact .inl (.inr (by simp [z]))
    · rintro ((z | z) | z)
      · exact .inl z
      · refine .inr ?_
        rcases List.mem_append.mp z with z | z <;> simp [z]
      · exact .inr (by simp [z])
  have eq' : ∀ (F' : List Addr) a, own Φ.O (F1 ++ (F' ++ F2)) a ↔ own O' F' a := fun F' a => by
    constructor
    · rintro (z | z)
      · exact .inl (.inl z)
      · rcases List.mem_append.mp z with z | z
        · exact .inl (.inr (by simp [z]))
        · rcases List.mem_append.mp z with z | z
          · exact .inr z
          · exact .inl (.inr (by simp [z]))
    · rintro ((z | z) | z)
      · exact .inl z
      · refine .inr ?_
        rcases List.mem_append.mp z with z | z <;> simp [z]
      · exact .inr (by simp [z])
  have xe : Ext (own Φ.O (F1 ++ (Fi ++ F2))) H (own O' Fi) H := ext_sub fun a z => (eq a).mpr z
  have st : ∀ (H' : Hp) (F' : List Addr) (out : SV), (∀ a o, H a = some o → a ∉ Fi → H' a = some o) → (∀ a ∈ F', a ∈ Fi ∨ H a = none) → F'.Nodup → SlR W (own O' F') H' out (some v) F' →
      RS W Φ H' (F1 ++ (F' ++ F2)) (ρ.set i out) σ ∧ Ext (own Φ.O (F1 ++ (Fi ++ F2))) H (own Φ.O (F1 ++ (F' ++ F2))) H' := fun H' F' out kk kF ndF so => by
    have := k H' out (some v) F' kk kF ndF (fun hi _ => by
      subst hi
      have := k0 s e hs
      rw [hv] at this
      exact Option.some.inj this) (so.sub fun a z => (eq' F' a).mp z)
    rwa [set_same hv] at this
  refine ⟨O', Fi, s :: xs.map .val, ?_, ndi, fun a z => tk a ((eq a).mpr (.inl z)), fun a m z => ?_, ?_⟩
  · exact ⟨some v, vs.map some, Fi, [], rfl, by simp, hsl.ext xe fun _ _ _ q => q, (sl_vals r).ext xe fun _ m => (nomatch m)⟩
  · rcases z with z | z
    · exact dj a (by simp [m]) z
    · rcases List.mem_append.mp z with z | z
      · exact nd12 a z a (by simp [m]) rfl
      · exact ndi2 a m a z rfl
  cases ef : f (s :: xs.map .val) with
  | ok d out =>
    rw [ef] at h
    intro v' H' F' kk kF ndF so rd
    obtain ⟨I', x'⟩ := st H' F' out kk kF ndF so
    exact h v' H' _ I' x' (rd.ext (ext_sub fun a z => (eq' F' a).mp z))
  | exc c d out =>
    rw [ef] at h
    intro dx v' H' F' kk kF ndF so hx rd
    obtain ⟨I', x'⟩ := st H' F' out kk kF ndF so
    exact h dx v' H' _ I' hx (rd.ext (ext_sub fun a z => (eq' F' a).mp z))
  | bad => rw [ef] at h; exact h.elim
end

/-! ### what the text says of a class, of a def -/
structure CD (K : PySem.W.Frag) (W : Wd) (c : Nat) : Prop where
  pg : PySem.W.plainGet K (W.Ca c) Str.empty = true
  ic : PySem.W.isClsIn K (W.Ca c) = true
  po : PySem.W.plainOver K (W.Ca c) = true
  sa : PySem.W.findIn K (.ref (W.Ca c)) "__setattr__" = some (some (.builtin "object.__setattr__"))
  hd : W.sl c = false → PySem.W.hasDictIn K (W.Ca c) = true
theorem CD.get {K : PySem.W.Frag} {W : Wd} {c : Nat} (C : CD K W c) (f : Str) : PySem.W.plainGet K (W.Ca c) f = true := C.pg
theorem CD.cls {K : PySem.W.Frag} {W : Wd} {c : Nat} (C : CD K W c) (h : W.sl c = false) : Cls K (W.Ca c) := ⟨C.pg, C.hd h, C.po, C.sa⟩
theorem CD.scls {K : PySem.W.Frag} {W : Wd} {c : Nat} (C : CD K W c) : SlX.SCls K (W.Ca c) := ⟨C.pg, C.ic, C.po, C.sa⟩
/-- an instance of the class stands at a -/
def Is (W : Wd) (H : Hp) (c : Nat) (a : Addr) : Prop := ∃ A vs, InsV W A H c a vs
theorem lookup_zip_none : ∀ {ks : List Str} {vs : List V} {m : Str}, m ∉ ks → (ks.zip vs).lookup m = none
  | [], _, _, _ => rfl
  | _ :: _, [], _, _ => rfl
  | k :: ks, v :: vs, m, h => by
    have h1 : (m == k) = false := by
      cases e : m == k with
      | false => rfl
      | true => exact absurd (by rw [eq_of_beq e]; exact List.mem_cons_self) h
    show List.lookup m ((k, v) :: ks.zip vs) = none
    rw [List.lookup_cons, h1]
    exact lookup_zip_none fun z => h (List.mem_cons_of_mem _ z)
theorem ext_none {m : Option Value} (h : RelO none m) : m = none := RelO.none_of h
section
variable {X : Cx} {W : Wd} {pins : List (Addr × Obj)} {σ : St} {H : Hp} {s : Shared} {c : Nat} {a : Addr}
theorem is_inst (I : Inv X pins σ H s) (h : Is W H c a) : ∃ ox od, PySem.W.InstAt s.heap a ox (W.Ca c) (some od) ∧ ∀ m, m ∉ W.an c → PySem.W.lookIn m od = some none := by
  obtain ⟨A, vs, h⟩ := h
  unfold InsV at h
  cases e : W.sl c with
  | false =>
    rw [e] at h
    obtain ⟨dx, xs, rfl, _, ha⟩ := h
    obtain ⟨mA, O, r, _, _, _⟩ := ins_get I.hok ha
    obtain ⟨od, J, hl⟩ := O.look
    exact ⟨_, od, J, fun m hm => by
      have r' := r m
      rw [lookup_zip_none hm] at r'
      rw [hl, RelO.none_of r']⟩
  | true =>
    rw [e] at h
    obtain ⟨dx, _, _, h⟩ := h
    have hs : SlX.Slt H a (W.Ca c) dx vs := by
      rcases h with ⟨h0, h1, _⟩ | h
      · exact .inl ⟨h1, h0⟩
      · exact .inr h
    obtain ⟨sl, od, _, J, hl⟩ := SlX.slt_inst I hs
    exact ⟨_, od, J, fun m _ => hl m⟩
end

/-! ### rules by promises -/
def tMd (W : Wd) (c : Nat) (sp : Sp) (E : XK) (ta : TE) (t : TA) : TE := fun σ H Q => ta σ H fun x H1 => ∃ a, x = .ref a ∧ Is W H1 c a ∧ t σ H1 fun ws H2 => sp (x :: ws) H2 Q E
def tPp (W : Wd) (c : Nat) (sp : Sp) (ta : TE) : TE := fun σ H Q => ta σ H fun x H1 => ∃ a, x = .ref a ∧ Is W H1 c a ∧ sp [x] H1 Q E0
def rIn (W : Wd) (c : Nat) (sp : Sp) (E : XK) (g : Bool → Bool) : R2 := fun x y H Q => ∃ a, y = .ref a ∧ Is W H c a ∧ sp [y, x] H (fun v H' => ∃ b, v = .bl b ∧ Q (.bl (g b)) H') E
section
variable {X : Cx} {W : Wd} {c k : Nat} {g : Addr} {m x : Str} {sp : Sp} {E : XK} {o e : Expr} {es : List Expr} {ta te : TE} {t : TA} {p apos pos : Pos}
theorem run_fnE {A : Around} {pins : List (Addr × Obj)} {σ : St} {H : Hp} {s : Shared} {Q : VK} {us : List Value} {vs : List V} (F : FnQ X.prog X.w X.K X.mg X.base (L2.CX X.prog X.w) k g sp) (hr : RoomG k A) (hA : A.frames = some X.stack) (hx : Passes (L2.CX X.prog X.w) X E) (I : Inv X pins σ H s) (r : Vals vs us) (h : sp vs H Q E) :
    wpAny (model X.prog X.w) A (call (.ref g) us) (EP X pins σ Q) X.xe s := by
  have e0 := I.env0
  refine wpAny_call (codeAny_mono (F A X.stack s H us vs Q E hr ⟨hA, e0.mod, e0.bs, e0.bsz, e0.funs, e0.frf, e0.hok, e0.bare⟩ r h) fun r s' hq => ?_)
  cases r with
  | error e => exact hx pins σ H s e s' I hq
  | ok fl =>
    cases fl with
    | ret u => exact I.after hq
    | next => exact False.elim hq
    | brk => exact False.elim hq
    | cont => exact False.elim hq
theorem pe_cl (F : FnQ X.prog X.w X.K X.mg X.base (L2.CX X.prog X.w) k g sp) (hr : RoomG k X.A) (hg : Gl X x) (hm : X.mg x = some (.ref g)) (hk : PySem.W.keepIn X.K (.ref g) = true) (hx : Passes (L2.CX X.prog X.w) X E)
    (ha : PA X (e :: es) t) (hdb : (x == ("__debug__" : Str)) = false := by decide) (he : starEach (e :: es) X.env = (false, eval e X.env) :: starEach es X.env := by rfl) (hpl : (backTo pos (starEach es X.env)).any (·.1) = false := by rfl) :
    PE X (.Call (.Name x p) (e :: es) [] pos) (tCall sp [] E t) := by
  refine ⟨fun pins s σ H Q I h => ?_⟩
  refine wpAny_Call_Name_kw (ld_glob I hg hm ?_ hdb)
  refine PySem.W.callWith_K (h₀ := X.base) I.ok.mod.kin hk (thn (ha.run pos pins s σ H _ I h) fun us s1 ⟨vs, H1, I1, r, q⟩ => ⟨I1.kIn, ?_⟩) he hpl
  have q : sp (vs ++ []) H1 Q E := q
  rw [List.append_nil] at q
  exact run_fnE F hr I1.ok.frames hx I1 r q
theorem getm_ok {pl : Sem Bool} {A : Around} {pins : List (Addr × Obj)} {σ : St} {H : Hp} {s : Shared} {a : Addr} {Ex : Value → Shared → Prop} {Q : Value × List Value → Shared → Prop} (I : Inv X pins σ H s) (h : Is W H c a) (C : CD X.K W c) (k : Meth X.K (W.Ca c) m g) (hn : m ∉ W.an c) (q : Q (.ref g, [.ref a]) s) :
    wpAny (model X.prog X.w) A (getMethod (.ref a) m pl) Q Ex s := by
  obtain ⟨ox, od, J, hl⟩ := is_inst I h
  refine PySem.W.method_fn I.kIn J (PySem.W.plainGet_of (C.get m)).1 (PySem.W.plainGet_of (C.get m)).2 k.at_ (beq_iff_eq.mp k.fn) ?_ q
  show (PySem.W.lookIn m od).map (·.isSome) = some false
  rw [hl m hn]
  rfl
theorem pe_md {pl : Sem Bool} (he : PE X o ta) (C : CD X.K W c) (hm : Meth X.K (W.Ca c) m g) (hn : m ∉ W.an c) (F : FnQ X.prog X.w X.K X.mg X.base (L2.CX X.prog X.w) k g sp) (hr : RoomG k X.A) (hx : Passes (L2.CX X.prog X.w) X E) (ha : PA X (e :: es) t)
    (hst : starEach (e :: es) X.env = (false, eval e X.env) :: starEach es X.env := by rfl) (hpl : (backTo pos (starEach es X.env)).any (·.1) = false := by rfl)
    (ht : eval (.Call (.Attribute o m apos) (e :: es) [] pos) X.env = (do
      let ov ← eval o X.env
      standAt apos.atName
      let (f, first) ← holding [ov] (getMethod ov m pl)
      callWith pos f first (backTo pos (starEach (e :: es) X.env)) (backToKw pos (keywordEach [] X.env))) := by rfl) :
    PE X (.Call (.Attribute o m apos) (e :: es) [] pos) (tMd W c sp E ta t) := by
  refine ⟨fun pins s σ H Q I h => ?_⟩
  refine PySem.W.methodCall_KW (pl := pl) (thn (he.run pins s σ H _ I h) fun u s1 ⟨x, H1, I1, rx, a, ex, ea, q⟩ => ?_) ht
  subst ex
  obtain rfl : u = Value.ref a := rx
  refine getm_ok I1 ea C hm hn ?_
  refine PySem.W.callWith_K (first := [.ref a]) (h₀ := X.base) I.ok.mod.kin hm.kp (thn (ha.run pos pins s1 σ H1 _ I1 q) fun us s2 ⟨vs, H2, I2, r, q2⟩ => ⟨I2.kIn, ?_⟩) hst hpl
  exact run_fnE (us := .ref a :: us) (vs := .ref a :: vs) F hr I2.ok.frames hx I2 (.cons rfl r) q2
theorem pe_md0 {pl : Sem Bool} (he : PE X o ta) (C : CD X.K W c) (hm : Meth X.K (W.Ca c) m g) (hn : m ∉ W.an c) (F : FnQ X.prog X.w X.K X.mg X.base (L2.CX X.prog X.w) k g sp) (hr : RoomG k X.A) (hx : Passes (L2.CX X.prog X.w) X E)
    (ht : eval (.Call (.Attribute o m apos) [] [] pos) X.env = (do
      let ov ← eval o X.env
      standAt apos.atName
      let (f, first) ← holding [ov] (getMethod ov m pl)
      callWith pos f first (backTo pos (starEach [] X.env)) (backToKw pos (keywordEach [] X.env))) := by rfl) :
    PE X (.Call (.Attribute o m apos) [] [] pos) (tMd W c sp E ta tNil) := by
  refine ⟨fun pins s σ H Q I h => ?_⟩
  refine PySem.W.methodCall_KW (pl := pl) (thn (he.run pins s σ H _ I h) fun u s1 ⟨x, H1, I1, rx, a, ex, ea, q⟩ => ?_) ht
  subst ex
  obtain rfl : u = Value.ref a := rx
  refine getm_ok I1 ea C hm hn ?_
  exact PySem.W.callWith_K0 (first := [.ref a]) I1.kIn hm.kp (run_fnE (us := [.ref a]) (vs := [.ref a]) F hr I1.ok.frames hx I1 (.cons rfl .nil) q)
/-- a property -/
theorem pe_pp {pa : Addr} (he : PE X e ta) (C : CD X.K W c) (hp : PropOf X.K (W.Ca c) m pa g) (F : FnQ X.prog X.w X.K X.mg X.base (L2.CX X.prog X.w) k g sp) (hr : RoomG (k + 1) X.A)
    (hab : attributeBase e m X.env (eval e X.env) = eval e X.env := by rfl) : PE X (.Attribute e m pos) (tPp W c sp ta) := by
  refine ⟨fun pins s σ H Q I h => ?_⟩
  refine attr_of hab (thn (he.run pins s σ H _ I h) fun u s1 ⟨x, H1, I1, rx, a, ex, ea, q⟩ => ?_)
  subst ex
  obtain rfl : u = Value.ref a := rx
  obtain ⟨ox, od, J, _⟩ := is_inst I1 ea
  obtain ⟨rest, hrec⟩ := hp.rec_
  have I2 := I1.tok (s1.toks + 1)
  refine PySem.W.get_bind I1.kIn J (PySem.W.plainGet_of (C.get m)).1 (PySem.W.findObj_data C.ic hp.at_ hp.get hp.tak) (PySem.W.plainGet_of (C.get m)).2 (wpAny_call (PySem.W.prop_get (s := { s1 with toks := s1.toks + 1 }) I1.kIn hrec ?_))
  refine codeAny_mono (F X.A.in1 X.stack { s1 with toks := s1.toks + 1 } H1 [.ref a] [.ref a] Q E0 hr.in1 I2.env0.in1 (.cons rfl .nil) q) fun r s' hq => ?_
  cases r with
  | error er => 
    obtain ⟨_, _, _, _, _, _, _, _, _, _, _, _, z⟩ := hq
    exact z.elim
  | ok fl =>
    cases fl with
    | ret u =>
      obtain ⟨v, H', I3, rv, q3⟩ := I2.after hq
      show wpAny _ _ (handedOut u) _ _ _
      rw [PySem.W.handedOut_of (handed_of rv)]
      exact wpAny_pure ⟨v, H', I3, rv, q3⟩
    | next => exact False.elim hq
    | brk => exact False.elim hq
    | cont => exact False.elim hq
/-- x in o, x not in o, by an own __contains__ -/
theorem op_inO (C : CD X.K W c) (hm : Meth X.K (W.Ca c) "__contains__" g) (F : FnQ X.prog X.w X.K X.mg X.base (L2.CX X.prog X.w) k g sp) (hr : RoomG k X.A) (hx : Passes (L2.CX X.prog X.w) X E) : OpR X (compareOp .In) (rIn W c sp E id) := by
  intro pins s σ H x y v u Q I rx ry h
  obtain ⟨a, rfl, ea, q⟩ := h
  cases ry
  obtain ⟨ox, od, J, _⟩ := is_inst I ea
  obtain ⟨m, Fr⟩ := I.fr
  refine PySem.W.in_K Fr I.mod.kin J hm.at_ hm.fn (wpAny_mono (run_fnE (us := [.ref a, v]) (vs := [.ref a, x]) F hr I.ok.frames hx I (.cons rfl (.cons rx .nil)) q) (fun r s' ⟨z, H', I', rz, b, ez, qz⟩ => ?_) fun _ _ z => z)
  subst ez
  cases rz
  exact wpAny_truthy_bool ⟨.bl b, H', I', rfl, qz⟩
theorem op_notInO (C : CD X.K W c) (hm : Meth X.K (W.Ca c) "__contains__" g) (F : FnQ X.prog X.w X.K X.mg X.base (L2.CX X.prog X.w) k g sp) (hr : RoomG k X.A) (hx : Passes (L2.CX X.prog X.w) X E) : OpR X (compareOp .NotIn) (rIn W c sp E (!·)) := by
  intro pins s σ H x y v u Q I rx ry h
  obtain ⟨a, rfl, ea, q⟩ := h
  cases ry
  obtain ⟨ox, od, J, _⟩ := is_inst I ea
  obtain ⟨m, Fr⟩ := I.fr
  refine PySem.W.notIn_K Fr I.mod.kin J hm.at_ hm.fn (wpAny_mono (run_fnE (us := [.ref a, v]) (vs := [.ref a, x]) F hr I.ok.frames hx I (.cons rfl (.cons rx .nil)) q) (fun r s' ⟨z, H', I', rz, b, ez, qz⟩ => ?_) fun _ _ z => z)
  subst ez
  cases rz
  exact wpAny_truthy_bool ⟨.bl (!b), H', I', rfl, qz⟩
/-- o[e], by an own __getitem__ -/
def tGt (W : Wd) (c : Nat) (sp : Sp) (E : XK) (ta te : TE) : TE := fun σ H Q => ta σ H fun x H1 => te σ H1 fun y H2 => ∃ a, x = .ref a ∧ Is W H2 c a ∧ sp [x, y] H2 Q E
theorem pe_gt (he : PE X o ta) (hi : PE X e te) (C : CD X.K W c) (hm : Meth X.K (W.Ca c) "__getitem__" g) (hf : PySem.W.fnIn X.K g = true) (F : FnQ X.prog X.w X.K X.mg X.base (L2.CX X.prog X.w) k g sp) (hr : RoomG (k + 1) X.A) (hx : Passes (L2.CX X.prog X.w) X E)
    (hsl : ∀ a i, subscripted e true (.ref a) i = runValue (.builtin "lifetime.subscript" ⟨[.ref a, i], []⟩) := by intro _ _; with_unfolding_all rfl) : PE X (.Subscript o e pos) (tGt W c sp E ta te) := by
  refine ⟨fun pins s σ H Q I h => ?_⟩
  refine PyProof.Rows.Subscript_ (thn (he.run pins s σ H _ I h) fun u s1 ⟨x, H1, I1, rx, q1⟩ => thn (hi.run pins s1 σ H1 _ I1 q1) fun w s2 ⟨y, H2, I2, ry, q2⟩ => ?_)
  obtain ⟨a, rfl, ea, q⟩ := q2
  cases rx
  obtain ⟨ox, od, J, _⟩ := is_inst I2 ea
  obtain ⟨m, Fr⟩ := I2.fr
  exact PySem.W.sub_K Fr I2.mod.kin J hm.at_ hf hm.fn (run_fnE (A := X.A.in1) (us := [.ref a, w]) (vs := [.ref a, y]) F hr.in1 I2.ok.frames hx I2 (.cons rfl (.cons ry .nil)) q) (hsl a w)
end
end Tr
/- Tr11 -/
/-! Tr, part 11: the rules for calls. -/
namespace Tr
open PySem L2
section
variable (P : Program) (w : World) (K : PySem.W.Frag) (mg : Str → Option Value) (base : Heap) (W : Wd)
/-- a def of the module does f -/
structure GD (k : Nat) (x : Str) (f : Fn) : Prop where
  ex : ∃ fa, mg x = some (.ref fa) ∧ PySem.W.keepIn K (.ref fa) = true ∧ FnQ P w K mg base (L2.CX P w) k fa (spF W f)
/-- a method of class c does f -/
structure MD (k c : Nat) (m : Str) (f : Fn) : Prop where
  cd : CD K W c
  an : m ∉ W.an c
  ex : ∃ fa, Meth K (W.Ca c) m fa ∧ PySem.W.fnIn K fa = true ∧ FnQ P w K mg base (L2.CX P w) k fa (spF W f)
structure PD (k c : Nat) (m : Str) (f : Fn) : Prop where
  cd : CD K W c
  ex : ∃ pa fa, PropOf K (W.Ca c) m pa fa ∧ FnQ P w K mg base (L2.CX P w) k fa (spF W f)
/-- class c, by the name x, is made by f -/
structure ID (k c : Nat) (x : Str) (f : Fn) : Prop where
  ex : ∃ fa, mg x = some (.ref (W.Ca c)) ∧ Mk K (W.Ca c) fa ∧ FnQ P w K mg base (L2.CX P w) k fa (spF W f)
end
section
variable {X : Cx} {W : Wd} {E : XK} {e o : Expr} {es : List Expr} {ma mb mo : EM} {ml : LM} {pos p apos : Pos} {k c : Nat} {f : Fn} {x m : Str}
theorem isObj_inv {A : Addr → Prop} {H : Hp} {y : D} {v : V} (h : isObj c y = true) (r : RelD W A H y v) : ∃ a, v = .ref a ∧ Is W H c a := by
  cases y with
  | obj c' fs =>
    have e : c' = c := by simpa [isObj] using h
    subst e
    unfold RelD at r
    obtain ⟨a, vs, rfl, _, i, _⟩ := r
    exact ⟨a, rfl, A, _, i⟩
  | _ => cases h
theorem Is.ext {A A' : Addr → Prop} {H H' : Hp} {y : D} {v : V} {a : Addr} (x : Ext A H A' H') (h : isObj c y = true) (r : RelD W A H y v) (e : v = .ref a) : Is W H' c a := by
  obtain ⟨a', e', i⟩ := isObj_inv h (r.ext x)
  rw [e] at e'; cases e'
  exact i
/-- f(e, ..), f a def of the module -/
theorem se_call (G : GD X.prog X.w X.K X.mg X.base W k x f) (hr : RoomG k X.A) (hx : Passes (L2.CX X.prog X.w) X E) (hg : Gl X x) (hl : SA X W E (e :: es) ml)
    (hdb : (x == ("__debug__" : Str)) = false := by decide) (he : starEach (e :: es) X.env = (false, eval e X.env) :: starEach es X.env := by rfl) (hpl : (backTo pos (starEach es X.env)).any (·.1) = false := by rfl) :
    SE X W E (.Call (.Name x p) (e :: es) [] pos) (eCall f ml) := by
  obtain ⟨fa, hm, hk, F⟩ := G
  obtain ⟨tl, pl, kl⟩ := hl
  refine ⟨_, pe_cl F hr hg hm hk hx pl hdb he hpl, fun Φ H F ρ σ Q I h => ?_⟩
  refine kl _ _ _ _ _ _ I (h.bnd fun xs ρ1 vs H1 F1 _ I1 x1 r1 h1 => ?_)
  show spF W f (vs ++ []) H1 Q E
  rw [List.append_nil]
  exact spF_vals I1 r1 h1
/-- the name in slot i, of something of one's own -/
theorem own_name {Φ : Fx} {H : Hp} {F : List Addr} {ρ : Env} {σ : St} {i : Nat} {s : SV} (I : RS W Φ H F ρ σ) (e : ρ[i]? = some s) (hs : s.isOwn = true) : ∃ a, σ[i]? = some (some (.ref a)) ∧ ∀ c fs, s = .oi c fs → Is W H c a := by
  obtain ⟨v, F1, Fi, F2, e1, _, hsl, _⟩ := I.sl.at e
  cases s with
  | no => cases hs
  | val _ => cases hs
  | ol ds =>
    obtain ⟨a, vs, _, rfl, _⟩ := hsl
    exact ⟨a, e1, fun _ _ z => by cases z⟩
  | oi c fs =>
    obtain ⟨a, vs, G1, G2, _, rfl, hi, _⟩ := hsl
    refine ⟨a, e1, fun c' fs' z => ?_⟩
    cases z
    unfold OwnI at hi
    refine ⟨fun _ => False, vs, ?_⟩
    unfold InsV
    cases q : W.sl c with
    | false =>
      rw [q] at hi
      obtain ⟨dx, xs, _, h1, h2, h3⟩ := hi
      exact ⟨dx, xs, h1, h2, h3⟩
    | true =>
      rw [q] at hi
      obtain ⟨dx, _, ne, h⟩ := hi
      exact ⟨dx, fun z => z, ne, h⟩
theorem callO_run {Φ : Fx} {H : Hp} {F : List Addr} {ρ : Env} {σ : St} {Q : VK} {i : Nat} {v : V} {xs : List D} {vs : List V} (I : RS W Φ H F ρ σ) (ha : σ[i]? = some (some v)) (r : RelDs W (own Φ.O F) H xs vs) (h : PostE W Φ E σ (own Φ.O F) H Q (callO f i ρ xs)) : spF W f (v :: vs) H Q E := by
  unfold callO at h
  split at h
  · rename_i ds q; exact spF_own I q rfl ha r h
  · rename_i c fs q; exact spF_own I q rfl ha r h
  · exact h.elim
/-- f(own, e, ..) -/
theorem se_callO (i : Nat) {y : Str} {py : Pos} (G : GD X.prog X.w X.K X.mg X.base W k x f) (hr : RoomG k X.A) (hx : Passes (L2.CX X.prog X.w) X E) (hg : Gl X x) (hN : X.N[i]? = some y := by rfl) (hl : SA X W E es ml)
    (hv : Vis X.env.scope y := by first | exact Or.inl rfl | exact Or.inr (Or.inl rfl) | exact Or.inr (Or.inr rfl)) (hd : (y == ("__debug__" : Str)) = false := by decide) (hcd : (y == ("__classdict__" : Str)) = false := by decide)
    (hdb : (x == ("__debug__" : Str)) = false := by decide) (he : starEach (.Name y py :: es) X.env = (false, eval (.Name y py) X.env) :: starEach es X.env := by rfl) (hpl : (backTo pos (starEach es X.env)).any (·.1) = false := by rfl) :
    SE X W E (.Call (.Name x p) (.Name y py :: es) [] pos) (eCallO f i ml) := by
  obtain ⟨fa, hm, hk, F⟩ := G
  obtain ⟨tl, pl, kl⟩ := hl
  refine ⟨_, pe_cl F hr hg hm hk hx (pa_cons (pe_var (i := i) hN hv hd hcd) pl he) hdb he hpl, fun Φ H F ρ σ Q I h => ?_⟩
  have h : PostE W Φ E σ (own Φ.O F) H Q (if ownAt i ρ = true then bnd (ml ρ) fun xs ρ => callO f i ρ xs else .bad) := h
  split at h
  · rename_i hw
    obtain ⟨s0, q0, hs0⟩ : ∃ s0, ρ[i]? = some s0 ∧ s0.isOwn = true := by
      unfold ownAt at hw
      cases q : ρ[i]? with
      | none => rw [q] at hw; cases hw
      | some s => rw [q] at hw; exact ⟨s, rfl, hw⟩
    obtain ⟨a, ha, _⟩ := own_name I q0 hs0
    refine ⟨_, ha, ?_⟩
    refine kl _ _ _ _ _ _ I (h.bnd fun xs ρ1 vs H1 F1 _ I1 x1 r1 h1 => ?_)
    show spF W f ((.ref a :: vs) ++ []) H1 Q E
    rw [List.append_nil]
    exact callO_run I1 ha r1 h1
  · exact h.elim
/-- o.m(e, ..), o a tree -/
theorem se_meth {pl : Sem Bool} (ho : SE X W E o mo) (G : MD X.prog X.w X.K X.mg X.base W k c m f) (hr : RoomG k X.A) (hx : Passes (L2.CX X.prog X.w) X E) (hl : SA X W E (e :: es) ml)
    (hst : starEach (e :: es) X.env = (false, eval e X.env) :: starEach es X.env := by rfl) (hpl : (backTo pos (starEach es X.env)).any (·.1) = false := by rfl)
    (ht : eval (.Call (.Attribute o m apos) (e :: es) [] pos) X.env = (do
      let ov ← eval o X.env
      standAt apos.atName
      let (f, first) ← holding [ov] (getMethod ov m pl)
      callWith pos f first (backTo pos (starEach (e :: es) X.env)) (backToKw pos (keywordEach [] X.env))) := by rfl) :
    SE X W E (.Call (.Attribute o m apos) (e :: es) [] pos) (eMeth c f mo ml) := by
  obtain ⟨cd, an, fa, hm, _, F⟩ := G
  obtain ⟨to, po, ko⟩ := ho
  obtain ⟨tl, pl, kl⟩ := hl
  refine ⟨_, pe_md po cd hm an F hr hx pl hst hpl ht, fun Φ H F ρ σ Q I h => ?_⟩
  refine ko _ _ _ _ _ _ I (h.bnd fun y ρ1 v H1 F1 _ I1 x1 r1 h1 => ?_)
  split at h1
  · rename_i hc
    obtain ⟨a, ev, hi⟩ := isObj_inv hc r1
    refine ⟨a, ev, hi, ?_⟩
    refine kl _ _ _ _ _ _ I1 (h1.bnd fun xs ρ2 vs H2 F2 _ I2 x2 r2 h2 => ?_)
    exact spF_vals (xs := y :: xs) I2 (by unfold RelDs; exact ⟨v, vs, rfl, r1.ext x2, r2⟩) h2
  · exact h1.elim
theorem se_meth0 {pl : Sem Bool} (ho : SE X W E o mo) (G : MD X.prog X.w X.K X.mg X.base W k c m f) (hr : RoomG k X.A) (hx : Passes (L2.CX X.prog X.w) X E)
    (ht : eval (.Call (.Attribute o m apos) [] [] pos) X.env = (do
      let ov ← eval o X.env
      standAt apos.atName
      let (f, first) ← holding [ov] (getMethod ov m pl)
      callWith pos f first (backTo pos (starEach [] X.env)) (backToKw pos (keywordEach [] X.env))) := by rfl) :
    SE X W E (.Call (.Attribute o m apos) [] [] pos) (eMeth c f mo lNil) := by
  obtain ⟨cd, an, fa, hm, _, F⟩ := G
  obtain ⟨to, po, ko⟩ := ho
  refine ⟨_, pe_md0 po cd hm an F hr hx ht, fun Φ H F ρ σ Q I h => ?_⟩
  refine ko _ _ _ _ _ _ I (h.bnd fun y ρ1 v H1 F1 _ I1 x1 r1 h1 => ?_)
  split at h1
  · rename_i hc
    obtain ⟨a, ev, hi⟩ := isObj_inv hc r1
    refine ⟨a, ev, hi, ?_⟩
    exact spF_vals (xs := [y]) I1 (by unfold RelDs RelDs; exact ⟨v, [], rfl, r1, rfl⟩) h1
  · exact h1.elim
theorem oiAt_inv {ρ : Env} {i : Nat} (h : oiAt c i ρ = true) : ∃ fs, ρ[i]? = some (.oi c fs) := by
  unfold oiAt at h
  cases q : ρ[i]? with
  | none => rw [q] at h; cases h
  | some s =>
    rw [q] at h
    cases s with
    | oi c' fs => rw [eq_of_beq h]; exact ⟨fs, rfl⟩
    | _ => cases h
/-- self.m(e, ..), self an instance of one's own in slot i -/
theorem se_methO (i : Nat) {y : Str} {py : Pos} {pl : Sem Bool} (G : MD X.prog X.w X.K X.mg X.base W k c m f) (hr : RoomG k X.A) (hx : Passes (L2.CX X.prog X.w) X E) (hl : SA X W E (e :: es) ml) (hN : X.N[i]? = some y := by rfl)
    (hv : Vis X.env.scope y := by first | exact Or.inl rfl | exact Or.inr (Or.inl rfl) | exact Or.inr (Or.inr rfl)) (hd : (y == ("__debug__" : Str)) = false := by decide) (hcd : (y == ("__classdict__" : Str)) = false := by decide)
    (hst : starEach (e :: es) X.env = (false, eval e X.env) :: starEach es X.env := by rfl) (hpl : (backTo pos (starEach es X.env)).any (·.1) = false := by rfl)
    (ht : eval (.Call (.Attribute (.Name y py) m apos) (e :: es) [] pos) X.env = (do
      let ov ← eval (.Name y py) X.env
      standAt apos.atName
      let (f, first) ← holding [ov] (getMethod ov m pl)
      callWith pos f first (backTo pos (starEach (e :: es) X.env)) (backToKw pos (keywordEach [] X.env))) := by rfl) :
    SE X W E (.Call (.Attribute (.Name y py) m apos) (e :: es) [] pos) (eMethO c f i ml) := by
  obtain ⟨cd, an, fa, hm, _, F⟩ := G
  obtain ⟨tl, pl, kl⟩ := hl
  refine ⟨_, pe_md (pe_var (i := i) hN hv hd hcd) cd hm an F hr hx pl hst hpl ht, fun Φ H F ρ σ Q I h => ?_⟩
  have h : PostE W Φ E σ (own Φ.O F) H Q (if oiAt c i ρ = true then bnd (ml ρ) fun xs ρ => callO f i ρ xs else .bad) := h
  split at h
  · rename_i hw
    obtain ⟨fs, q0⟩ := oiAt_inv hw
    obtain ⟨a, ha, hi⟩ := own_name I q0 rfl
    refine ⟨_, ha, a, rfl, hi _ _ rfl, ?_⟩
    refine kl _ _ _ _ _ _ I (h.bnd fun xs ρ1 vs H1 F1 _ I1 x1 r1 h1 => ?_)
    exact callO_run I1 ha r1 h1
  · exact h.elim
theorem se_methO0 (i : Nat) {y : Str} {py : Pos} {pl : Sem Bool} (G : MD X.prog X.w X.K X.mg X.base W k c m f) (hr : RoomG k X.A) (hx : Passes (L2.CX X.prog X.w) X E) (hN : X.N[i]? = some y := by rfl)
    (hv : Vis X.env.scope y := by first | exact Or.inl rfl | exact Or.inr (Or.inl rfl) | exact Or.inr (Or.inr rfl)) (hd : (y == ("__debug__" : Str)) = false := by decide) (hcd : (y == ("__classdict__" : Str)) = false := by decide)
    (ht : eval (.Call (.Attribute (.Name y py) m apos) [] [] pos) X.env = (do
      let ov ← eval (.Name y py) X.env
      standAt apos.atName
      let (f, first) ← holding [ov] (getMethod ov m pl)
      callWith pos f first (backTo pos (starEach [] X.env)) (backToKw pos (keywordEach [] X.env))) := by rfl) :
    SE X W E (.Call (.Attribute (.Name y py) m apos) [] [] pos) (eMethO c f i lNil) := by
  obtain ⟨cd, an, fa, hm, _, F⟩ := G
  refine ⟨_, pe_md0 (pe_var (i := i) hN hv hd hcd) cd hm an F hr hx ht, fun Φ H F ρ σ Q I h => ?_⟩
  have h : PostE W Φ E σ (own Φ.O F) H Q (if oiAt c i ρ = true then callO f i ρ [] else .bad) := h
  split at h
  · rename_i hw
    obtain ⟨fs, q0⟩ := oiAt_inv hw
    obtain ⟨a, ha, hi⟩ := own_name I q0 rfl
    exact ⟨_, ha, a, rfl, hi _ _ rfl, callO_run I ha relDs_nil h⟩
  · exact h.elim
/-- e.m, a property -/
theorem se_prop (ho : SE X W E o mo) (G : PD X.prog X.w X.K X.mg X.base W k c m f) (hr : RoomG (k + 1) X.A) (hab : attributeBase o m X.env (eval o X.env) = eval o X.env := by rfl) : SE X W E (.Attribute o m pos) (eProp c f mo) := by
  obtain ⟨cd, pa, fa, hp, F⟩ := G
  obtain ⟨to, po, ko⟩ := ho
  refine ⟨_, pe_pp po cd hp F hr hab, fun Φ H F ρ σ Q I h => ?_⟩
  refine ko _ _ _ _ _ _ I (h.bnd fun y ρ1 v H1 F1 _ I1 x1 r1 h1 => ?_)
  split at h1
  · rename_i hc
    obtain ⟨a, ev, hi⟩ := isObj_inv hc r1
    refine ⟨a, ev, hi, ?_⟩
    refine spF_vals (xs := [y]) I1 (by unfold RelDs RelDs; exact ⟨v, [], rfl, r1, rfl⟩) ?_
    show PostE W Φ E0 σ (own Φ.O F1) H1 Q (ofRF ρ1 (f [.val y]))
    cases ef : f [.val y] with
    | ok d out => rw [ef] at h1; exact h1
    | exc c d out => rw [ef] at h1; exact h1.elim
    | bad => rw [ef] at h1; exact h1.elim
  · exact h1.elim
theorem se_propO (i : Nat) {y : Str} {py : Pos} (G : PD X.prog X.w X.K X.mg X.base W k c m f) (hr : RoomG (k + 1) X.A) (hN : X.N[i]? = some y := by rfl)
    (hv : Vis X.env.scope y := by first | exact Or.inl rfl | exact Or.inr (Or.inl rfl) | exact Or.inr (Or.inr rfl)) (hd : (y == ("__debug__" : Str)) = false := by decide) (hcd : (y == ("__classdict__" : Str)) = false := by decide)
    (hab : attributeBase (.Name y py) m X.env (eval (.Name y py) X.env) = eval (.Name y py) X.env := by rfl) : SE X W E (.Attribute (.Name y py) m pos) (ePropO c f i) := by
  obtain ⟨cd, pa, fa, hp, F⟩ := G
  refine ⟨_, pe_pp (pe_var (i := i) hN hv hd hcd) cd hp F hr hab, fun Φ H F ρ σ Q I h => ?_⟩
  have h2 : PostE W Φ E σ (own Φ.O F) H Q (match ρ[i]? with
    | some (.oi c' fs) => if c' = c then ofPPo i ρ (f [.oi c' fs]) else .bad
    | _ => .bad) := h
  clear h
  split at h2
  · rename_i c' fs q0
    split at h2
    · rename_i hc
      subst hc
      obtain ⟨a, ha, hi⟩ := own_name I q0 rfl
      refine ⟨_, ha, a, rfl, hi _ _ rfl, spF_own (xs := []) I q0 rfl ha relDs_nil ?_⟩
      show PostE W Φ E0 σ (own Φ.O F) H Q (ofRFo i ρ (f [.oi c' fs]))
      cases ef : f [.oi c' fs] with
      | ok d out => rw [ef] at h2; exact h2
      | exc c d out => rw [ef] at h2; exact h2.elim
      | bad => rw [ef] at h2; exact h2.elim
    · exact h2.elim
  · exact h2.elim
/-- a in b by an own __contains__ -/
theorem in_run {Φ : Fx} {H : Hp} {F : List Addr} {ρ : Env} {σ : St} {Q : VK} {g : Bool → Bool} {x y : D} {v u : V} (I : RS W Φ H F ρ σ) (rx : RelD W (own Φ.O F) H x v) (ry : RelD W (own Φ.O F) H y u)
    (h : PostE W Φ E σ (own Φ.O F) H Q (if isObj c y = true then boolR g (ofRF ρ (f [.val y, .val x])) else .bad)) : rIn W c (spF W f) E g v u H Q := by
  split at h
  · rename_i hc
    obtain ⟨a, ev, hi⟩ := isObj_inv hc ry
    refine ⟨a, ev, hi, spF_vals (xs := [y, x]) I (by unfold RelDs RelDs RelDs; exact ⟨u, [v], rfl, ry, v, [], rfl, rx, rfl⟩) ?_⟩
    show PostE W Φ E σ (own Φ.O F) H _ (ofRF ρ (f [.val y, .val x]))
    cases ef : f [.val y, .val x] with
    | ok d out =>
      rw [ef] at h
      cases d with
      | bl b =>
        intro z H' F' I' x' rz
        exact ⟨b, relD_bl_inv rz, h (.bl (g b)) H' F' I' x' relD_bl⟩
      | _ => exact h.elim
    | exc c d out => rw [ef] at h; exact h
    | bad => rw [ef] at h; exact h.elim
  · exact h.elim
theorem se_inO (ha : SE X W E e ma) (hb : SE X W E o mb) (G : MD X.prog X.w X.K X.mg X.base W k c "__contains__" f) (hr : RoomG k X.A) (hx : Passes (L2.CX X.prog X.w) X E) (hm : behindInMarks .In o = false := by rfl) : SE X W E (.Compare e [.In] [o] pos) (eInO c f id ma mb) := by
  obtain ⟨cd, an, fa, hmm, _, F⟩ := G
  obtain ⟨ta, pa, ka⟩ := ha
  obtain ⟨tb, pb, kb⟩ := hb
  refine ⟨_, pe_cmpR (op_inO cd hmm F hr hx) pa pb hm, fun Φ H F ρ σ Q I h => ?_⟩
  refine ka _ _ _ _ _ _ I (h.bnd fun x ρ1 v H1 F1 _ I1 x1 r1 h1 => ?_)
  refine kb _ _ _ _ _ _ I1 (h1.bnd fun y ρ2 u H2 F2 _ I2 x2 r2 h2 => ?_)
  exact in_run I2 (r1.ext x2) r2 h2
theorem st_inO (ha : SE X W E e ma) (hb : SE X W E o mb) (G : MD X.prog X.w X.K X.mg X.base W k c "__contains__" f) (hr : RoomG k X.A) (hx : Passes (L2.CX X.prog X.w) X E) (hm : behindInMarks .In o = false := by rfl) : ST X W E (.Compare e [.In] [o] pos) (tE (eInO c f id ma mb)) := by
  obtain ⟨cd, an, fa, hmm, _, F⟩ := G
  obtain ⟨ta, pa, ka⟩ := ha
  obtain ⟨tb, pb, kb⟩ := hb
  refine ⟨_, pt_cmpR (op_inO cd hmm F hr hx) pa pb hm, fun Φ H F ρ σ Q I h => tb_run (m := eInO c f id ma mb) (fun Φ H F ρ σ Q I h => ?_) I h⟩
  refine ka _ _ _ _ _ _ I (h.bnd fun x ρ1 v H1 F1 _ I1 x1 r1 h1 => ?_)
  refine kb _ _ _ _ _ _ I1 (h1.bnd fun y ρ2 u H2 F2 _ I2 x2 r2 h2 => ?_)
  exact in_run I2 (r1.ext x2) r2 h2
theorem se_ninO (ha : SE X W E e ma) (hb : SE X W E o mb) (G : MD X.prog X.w X.K X.mg X.base W k c "__contains__" f) (hr : RoomG k X.A) (hx : Passes (L2.CX X.prog X.w) X E) (hm : behindInMarks .NotIn o = false := by rfl) : SE X W E (.Compare e [.NotIn] [o] pos) (eInO c f (!·) ma mb) := by
  obtain ⟨cd, an, fa, hmm, _, F⟩ := G
  obtain ⟨ta, pa, ka⟩ := ha
  obtain ⟨tb, pb, kb⟩ := hb
  refine ⟨_, pe_cmpR (op_notInO cd hmm F hr hx) pa pb hm, fun Φ H F ρ σ Q I h => ?_⟩
  refine ka _ _ _ _ _ _ I (h.bnd fun x ρ1 v H1 F1 _ I1 x1 r1 h1 => ?_)
  refine kb _ _ _ _ _ _ I1 (h1.bnd fun y ρ2 u H2 F2 _ I2 x2 r2 h2 => ?_)
  exact in_run I2 (r1.ext x2) r2 h2
theorem st_ninO (ha : SE X W E e ma) (hb : SE X W E o mb) (G : MD X.prog X.w X.K X.mg X.base W k c "__contains__" f) (hr : RoomG k X.A) (hx : Passes (L2.CX X.prog X.w) X E) (hm : behindInMarks .NotIn o = false := by rfl) : ST X W E (.Compare e [.NotIn] [o] pos) (tE (eInO c f (!·) ma mb)) := by
  obtain ⟨cd, an, fa, hmm, _, F⟩ := G
  obtain ⟨ta, pa, ka⟩ := ha
  obtain ⟨tb, pb, kb⟩ := hb
  refine ⟨_, pt_cmpR (op_notInO cd hmm F hr hx) pa pb hm, fun Φ H F ρ σ Q I h => tb_run (m := eInO c f (!·) ma mb) (fun Φ H F ρ σ Q I h => ?_) I h⟩
  refine ka _ _ _ _ _ _ I (h.bnd fun x ρ1 v H1 F1 _ I1 x1 r1 h1 => ?_)
  refine kb _ _ _ _ _ _ I1 (h1.bnd fun y ρ2 u H2 F2 _ I2 x2 r2 h2 => ?_)
  exact in_run I2 (r1.ext x2) r2 h2
/-- a[b] by an own __getitem__ -/
theorem se_get (ha : SE X W E o ma) (hb : SE X W E e mb) (G : MD X.prog X.w X.K X.mg X.base W k c "__getitem__" f) (hr : RoomG (k + 1) X.A) (hx : Passes (L2.CX X.prog X.w) X E)
    (hsl : ∀ a i, subscripted e true (.ref a) i = runValue (.builtin "lifetime.subscript" ⟨[.ref a, i], []⟩) := by intro _ _; with_unfolding_all rfl) : SE X W E (.Subscript o e pos) (eGet c f ma mb) := by
  obtain ⟨cd, an, fa, hmm, hf, F⟩ := G
  obtain ⟨ta, pa, ka⟩ := ha
  obtain ⟨tb, pb, kb⟩ := hb
  refine ⟨_, pe_gt pa pb cd hmm hf F hr hx hsl, fun Φ H F ρ σ Q I h => ?_⟩
  refine ka _ _ _ _ _ _ I (h.bnd fun x ρ1 v H1 F1 _ I1 x1 r1 h1 => ?_)
  split at h1
  · rename_i hc
    refine kb _ _ _ _ _ _ I1 (h1.bnd fun y ρ2 u H2 F2 _ I2 x2 r2 h2 => ?_)
    obtain ⟨a, ev, hi⟩ := isObj_inv hc (r1.ext x2)
    exact ⟨a, ev, hi, spF_vals (xs := [x, y]) I2 (by unfold RelDs RelDs RelDs; exact ⟨v, [u], rfl, r1.ext x2, u, [], rfl, r2, rfl⟩) h2⟩
  · exact h1.elim
end
end Tr
/- Tr12 -/
/-! Tr, part 12: fields; new instances. -/
namespace Tr
open PySem L2
theorem lookup_zip : ∀ {ks : List Str} {vs : List V} {j : Nat} {m : Str} {v : V}, ks.Nodup → ks[j]? = some m → vs[j]? = some v → (ks.zip vs).lookup m = some v
  | [], _, j, _, _, _, h, _ => by cases j <;> cases h
  | _ :: _, [], j, _, _, _, _, h => by cases j <;> cases h
  | k :: ks, v :: vs, 0, m, w, nd, h1, h2 => by
    cases h1; cases h2
    show List.lookup k ((k, v) :: ks.zip vs) = some v
    rw [List.lookup_cons, beq_self_eq_true]
  | k :: ks, v :: vs, j + 1, m, w, nd, h1, h2 => by
    have h1 : ks[j]? = some m := by simpa using h1
    have h2 : vs[j]? = some w := by simpa using h2
    obtain ⟨n1, n2⟩ := List.nodup_cons.mp nd
    have ne : (m == k) = false := beq_eq_false_iff_ne.mpr fun z => n1 (by rw [← z]; exact List.mem_of_getElem? h1)
    show List.lookup m ((k, v) :: ks.zip vs) = some w
    rw [List.lookup_cons, ne]
    exact lookup_zip n2 h1 h2
theorem putF_zip_set : ∀ {ks : List Str} {vs : List V} {j : Nat} {m : Str} {v : V}, ks.Nodup → ks[j]? = some m → j < vs.length → L2.putF m v (ks.zip vs) = ks.zip (vs.set j v)
  | [], _, j, _, _, _, h, _ => by cases j <;> cases h
  | _ :: _, [], j, _, _, _, _, h => by cases h
  | k :: ks, v :: vs, 0, m, w, nd, h1, h2 => by
    cases h1
    show L2.putF k w ((k, v) :: ks.zip vs) = _
    unfold L2.putF
    rw [if_pos rfl]; rfl
  | k :: ks, v :: vs, j + 1, m, w, nd, h1, h2 => by
    have h1 : ks[j]? = some m := by simpa using h1
    have h2 : j < vs.length := by simpa using h2
    obtain ⟨n1, n2⟩ := List.nodup_cons.mp nd
    have ne : ¬ k = m := fun z => n1 (by rw [z]; exact List.mem_of_getElem? h1)
    show L2.putF m w ((k, v) :: ks.zip vs) = (k, v) :: ks.zip (vs.set j w)
    rw [← putF_zip_set n2 h1 h2]
    conv => lhs; unfold L2.putF
    rw [if_neg ne]
theorem putF_zip_app : ∀ {ks : List Str} {vs : List V} {m : Str} {v : V}, ks.Nodup → ks[vs.length]? = some m → L2.putF m v (ks.zip vs) = ks.zip (vs ++ [v])
  | [], _, _, _, _, h => by simp at h
  | k :: ks, [], m, w, nd, h1 => by
    cases h1
    simp [L2.putF]
  | k :: ks, v :: vs, m, w, nd, h1 => by
    have h1 : ks[vs.length]? = some m := by simpa using h1
    obtain ⟨n1, n2⟩ := List.nodup_cons.mp nd
    have ne : ¬ k = m := fun z => n1 (by rw [z]; exact List.mem_of_getElem? h1)
    show L2.putF m w ((k, v) :: ks.zip vs) = (k, v) :: ks.zip (vs ++ [w])
    rw [← putF_zip_app n2 h1]
    conv => lhs; unfold L2.putF
    rw [if_neg ne]
/-- what the text says of field m of class c: its place j -/
structure FD (K : PySem.W.Frag) (W : Wd) (c j : Nat) (m : Str) : Prop where
  cd : CD K W c
  fd : W.sl c = false → NoAttr K (W.Ca c) m ∧ (W.an c)[j]? = some m ∧ (W.an c).Nodup ∧ (W.an c).length < 1000
  sd : W.sl c = true → ∃ p, SlX.Slot1 K (W.Ca c) m p j
def tFd (W : Wd) (c j : Nat) (ta : TE) : TE := fun σ H Q => ta σ H fun x H1 => ∃ a A vs v, x = .ref a ∧ InsV W A H1 c a vs ∧ vs[j]? = some (some v) ∧ Q v H1
def sFd (W : Wd) (c j : Nat) (m : Str) (ta tv : TE) : TS := fun D σ H => tv σ H fun y H1 => ta σ H1 fun x H2 => ∃ a, x = .ref a ∧ ((W.sl c = false ∧ ∃ dx fs, H2 a = some (.ins (W.Ca c) dx fs) ∧ fs.length < 1000 ∧ D.nx σ (upd H2 a (.ins (W.Ca c) dx (L2.putF m y fs)))) ∨
  (W.sl c = true ∧ ∃ dx vs, SlX.Slt H2 a (W.Ca c) dx vs ∧ D.nx σ (SlX.slH H2 a (W.Ca c) dx (SlX.putS j y vs))))
section
variable {X : Cx} {W : Wd} {c j : Nat} {m : Str} {o e value : Expr} {pos pos' : Pos} {ta tv : TE}
theorem pe_fd (he : PE X e ta) (f : FD X.K W c j m) (hb : attributeBase e m X.env (eval e X.env) = eval e X.env := by rfl) : PE X (.Attribute e m pos) (tFd W c j ta) := by
  refine ⟨fun pins s σ H Q I h => ?_⟩
  refine attr_of hb (thn (he.run pins s σ H _ I h) fun u s1 ⟨x, H1, I1, rx, a, A, vs, v, ex, hi, hv, q⟩ => ?_)
  subst ex
  obtain rfl : u = Value.ref a := rx
  unfold InsV at hi
  cases es : W.sl c with
  | false =>
    rw [es] at hi
    obtain ⟨dx, xs, rfl, hl, ha⟩ := hi
    obtain ⟨n, h1, h2, _⟩ := f.fd es
    have hx : xs[j]? = some v := by
      rw [List.getElem?_map] at hv
      cases q : xs[j]? with
      | none => rw [q] at hv; cases hv
      | some y => rw [q] at hv; cases hv; rfl
    exact getattr_ok I1 ha (f.cd.cls es) n (lookup_zip h2 h1 hx) fun u' s2 I2 ru => ⟨v, H1, I2, ru, q⟩
  | true =>
    rw [es] at hi
    obtain ⟨dx, _, _, h⟩ := hi
    obtain ⟨p, sp⟩ := f.sd es
    have hs : SlX.Slt H1 a (W.Ca c) dx vs := by
      rcases h with ⟨h0, h1, _⟩ | h
      · exact .inl ⟨h1, h0⟩
      · exact .inr h
    exact SlX.getslot_ok I1 hs f.cd.scls sp hv fun u' s2 I2 ru => ⟨v, H1, I2, ru, q⟩
theorem ps_fd (ha : PE X o ta) (hv : PE X value tv) (f : FD X.K W c j m) (hs : swapsWith value (some (.Attribute o m pos')) pos.line X.env = pure false := by rfl) : PS X (.Assign [.Attribute o m pos'] value pos) (sFd W c j m ta tv) := by
  refine ⟨fun pins s σ H D I h => ?_⟩
  refine plainObj_wpAny_Assign_Attribute (thn (hv.run pins s σ H _ I h) fun u s1 ⟨y, H1, I1, ry, q⟩ => thn (ha.run pins s1 σ H1 _ I1 q) fun ov s2 ⟨x, H2, I2, rx, a, ex, q2⟩ => ?_) hs
  subst ex
  obtain rfl : ov = Value.ref a := rx
  rcases q2 with ⟨es, dx, fs, ea, l, q2⟩ | ⟨es, dx, vs, hsl, q2⟩
  · exact setattr_ok I2 ea (f.cd.cls es) (f.fd es).1 l ry fun s3 I3 => ⟨σ, _, I3, q2⟩
  · obtain ⟨p, sp⟩ := f.sd es
    exact SlX.setslot_ok I2 hsl f.cd.scls sp ry fun s3 I3 => ⟨σ, _, I3, q2⟩
end
/-! ### parts of an instance -/
section
variable {W : Wd} {A A' : Addr → Prop} {H H' : Hp}
theorem relDs_at : ∀ {ds : List D} {vs : List V} {j : Nat} {d : D}, RelDs W A H ds vs → ds[j]? = some d → ∃ v, vs[j]? = some v ∧ RelD W A H d v
  | [], _, j, d, _, e => by cases j <;> cases e
  | x :: ds, _, 0, d, r, e => by
    cases e
    obtain ⟨v, s, rfl, h1, _⟩ := relDs_cons_inv r
    exact ⟨v, rfl, h1⟩
  | x :: ds, _, j + 1, d, r, e => by
    obtain ⟨v, s, rfl, _, h2⟩ := relDs_cons_inv r
    obtain ⟨w, e1, e2⟩ := relDs_at h2 (by simpa using e)
    exact ⟨w, by simpa using e1, e2⟩
theorem relFs_at : ∀ {fs : List FV} {vs : List (Option V)} {G : List Addr} {j : Nat} {d : D}, RelFs W A H fs vs G → fs[j]? = some (.val d) → ∃ v, vs[j]? = some (some v) ∧ RelD W A H d v
  | [], _, _, j, d, _, e => by cases j <;> cases e
  | x :: fs, _, _, 0, d, ⟨v, r, G1, G2, e1, e2, h1, h2⟩, e => by
    cases e
    obtain ⟨_, y, rfl, h⟩ := h1
    exact ⟨y, by rw [e1]; rfl, h⟩
  | x :: fs, _, _, j + 1, d, ⟨v, r, G1, G2, e1, e2, h1, h2⟩, e => by
    obtain ⟨w, q1, q2⟩ := relFs_at h2 (by simpa using e)
    exact ⟨w, by rw [e1]; simpa using q1, q2⟩
theorem relFs_len : ∀ {fs : List FV} {vs : List (Option V)} {G : List Addr}, RelFs W A H fs vs G → fs.length = vs.length
  | [], _, _, ⟨e, _⟩ => by rw [e]; rfl
  | x :: fs, _, _, ⟨v, r, G1, G2, e1, e2, h1, h2⟩ => by rw [e1]; simp [relFs_len h2]
/-- part j is given something else -/
theorem relFs_set : ∀ {fs : List FV} {vs : List (Option V)} {G : List Addr} {j : Nat}, RelFs W A H fs vs G → j < fs.length → ∃ G1 G2, (G1 ++ G2).Sublist G ∧ ∀ (A' : Addr → Prop) (H' : Hp) (f' : FV) (v' : Option V) (Gj' : List Addr), Ext A H A' H' → (∀ a ∈ G, ∀ o, H a = some o → H' a = some o) → RelF W A' H' f' v' Gj' →
    RelFs W A' H' (fs.set j f') (vs.set j v') (G1 ++ (Gj' ++ G2))
  | [], _, _, j, _, h => by cases h
  | x :: fs, _, _, 0, ⟨v, r, G1, G2, e1, e2, h1, h2⟩, _ => by
    subst e1; subst e2
    exact ⟨[], G2, by simp, fun A' H' f' v' Gj' xt k rf => ⟨v', r, Gj', G2, rfl, rfl, rf, h2.ext xt fun a m => k a (List.mem_append_right _ m)⟩⟩
  | x :: fs, _, _, j + 1, ⟨v, r, G1, G2, e1, e2, h1, h2⟩, hj => by
    subst e1; subst e2
    obtain ⟨L, R, s, q⟩ := relFs_set h2 (by simpa using hj)
    exact ⟨G1 ++ L, R, by rw [List.append_assoc]; exact List.Sublist.append (List.Sublist.refl _) s, fun A' H' f' v' Gj' xt k rf =>
      ⟨v, r.set j v', G1, L ++ (Gj' ++ R), rfl, by simp [List.append_assoc], h1.ext xt fun a m => k a (List.mem_append_left _ m), q A' H' f' v' Gj' xt (fun a m => k a (List.mem_append_right _ m)) rf⟩⟩
theorem relFs_app : ∀ {fs : List FV} {vs : List (Option V)} {G : List Addr} {gs : List FV} {us : List (Option V)} {G' : List Addr}, RelFs W A H fs vs G → RelFs W A H gs us G' → RelFs W A H (fs ++ gs) (vs ++ us) (G ++ G')
  | [], _, _, _, _, _, ⟨e1, e2⟩, h => by rw [e1, e2]; exact h
  | x :: fs, _, _, _, _, _, ⟨v, r, G1, G2, e1, e2, h1, h2⟩, h => by
    subst e1; subst e2
    exact ⟨v, _, G1, _, rfl, by simp [List.append_assoc], h1, relFs_app h2 h⟩
theorem relFs_nos : ∀ n : Nat, RelFs W A H (List.replicate n .no) (List.replicate n none) []
  | 0 => ⟨rfl, rfl⟩
  | n + 1 => ⟨none, List.replicate n none, [], [], rfl, rfl, ⟨rfl, rfl⟩, relFs_nos n⟩
def putV (j : Nat) (v : Option V) (vs : List (Option V)) : List (Option V) := if j < vs.length then vs.set j v else (vs ++ List.replicate (j - vs.length) none) ++ [v]
theorem relFs_put {sl : Bool} {fs fs' : List FV} {vs : List (Option V)} {G : List Addr} {j : Nat} {f' : FV} (h : RelFs W A H fs vs G) (e : putF sl j f' fs = some fs') : ∃ G1 G2, (G1 ++ G2).Sublist G ∧ ∀ (A' : Addr → Prop) (H' : Hp) (v' : Option V) (Gj' : List Addr), Ext A H A' H' →
    (∀ a ∈ G, ∀ o, H a = some o → H' a = some o) → RelF W A' H' f' v' Gj' → RelFs W A' H' fs' (putV j v' vs) (G1 ++ (Gj' ++ G2)) := by
  have l := relFs_len h
  unfold putF at e
  by_cases hj : j < fs.length
  · rw [if_pos hj] at e
    cases e
    obtain ⟨L, R, s, q⟩ := relFs_set h hj
    refine ⟨L, R, s, fun A' H' v' Gj' xt k rf => ?_⟩
    have pv : putV j v' vs = vs.set j v' := if_pos (by omega)
    rw [pv]
    exact q A' H' f' v' Gj' xt k rf
  · rw [if_neg hj] at e
    have e' : fs' = (fs ++ List.replicate (j - fs.length) .no) ++ [f'] := by
      split at e
      · exact (Option.some.inj e).symm
      · obtain ⟨hj2, e⟩ := Option.ite_none_right_eq_some.mp e
        have z : j - fs.length = 0 := by omega
        rw [z, ← Option.some.inj e]; simp
    subst e'
    refine ⟨G, [], by simp, fun A' H' v' Gj' xt k rf => ?_⟩
    have := relFs_app (relFs_app (h.ext xt k) (relFs_nos (W := W) (A := A') (H := H') (j - fs.length))) (gs := [f']) (us := [v']) (G' := Gj') ⟨v', [], Gj', [], rfl, by simp, rf, rfl, rfl⟩
    have pv : putV j v' vs = (vs ++ List.replicate (j - vs.length) none) ++ [v'] := if_neg (by omega)
    rw [pv, ← l]
    simpa using this
end
theorem putS_app {j : Nat} {y : V} {vs : List (Option V)} (h : vs.length ≤ j) : SlX.putS j y vs = (vs ++ List.replicate (j - vs.length) none) ++ [some y] := by
  unfold SlX.putS
  have e : j + 1 - vs.length = (j - vs.length) + 1 := by omega
  rw [e, List.replicate_succ', ← List.append_assoc]
  have l : (vs ++ List.replicate (j - vs.length) none).length = j := by simp; omega
  conv => lhs; arg 2; rw [← l]
  simp
theorem putS_set {j : Nat} {y : V} {vs : List (Option V)} (h : j < vs.length) : SlX.putS j y vs = vs.set j (some y) := by
  unfold SlX.putS
  have e : j + 1 - vs.length = 0 := by omega
  rw [e]
  simp
theorem putS_is {j : Nat} {y : V} {vs : List (Option V)} : SlX.putS j y vs = putV j (some y) vs := by
  unfold putV
  split
  · rename_i h; exact putS_set h
  · rename_i h; exact putS_app (by omega)
section
variable {X : Cx} {W : Wd} {E : XK} {c j : Nat} {m : Str} {o value : Expr} {mo mv : EM} {pos pos' : Pos}
theorem OwnI.ins {H : Hp} {a : Addr} {vs : List (Option V)} {G : List Addr} (h : OwnI W H c a vs G) : InsV W (fun _ => False) H c a vs := by
  unfold OwnI at h
  unfold InsV
  cases q : W.sl c with
  | false =>
    rw [q] at h
    obtain ⟨dx, xs, _, h1, h2, h3⟩ := h
    exact ⟨dx, xs, h1, h2, h3⟩
  | true =>
    rw [q] at h
    obtain ⟨dx, _, ne, h⟩ := h
    exact ⟨dx, fun z => z, ne, h⟩
/-- o.m, o a tree -/
theorem se_fld (ho : SE X W E o mo) (f : FD X.K W c j m) (hb : attributeBase o m X.env (eval o X.env) = eval o X.env := by rfl) : SE X W E (.Attribute o m pos) (eUn (fldOf c j) mo) := by
  obtain ⟨to, po, ko⟩ := ho
  refine ⟨_, pe_fd po f hb, fun Φ H F ρ σ Q I h => ?_⟩
  refine ko _ _ _ _ _ _ I (h.bnd fun y ρ1 v H1 F1 _ I1 x1 r1 h1 => ?_)
  obtain ⟨d, ed, h2⟩ := optR_post h1
  cases y with
  | obj c' fs =>
    obtain ⟨hc, e2⟩ := Option.ite_none_right_eq_some.mp (show (if c' = c then fs[j]? else none) = some d from ed)
    subst hc
    unfold RelD at r1
    obtain ⟨a, vs, rfl, _, hi, rs⟩ := r1
    obtain ⟨x, hx, rx⟩ := relDs_at rs e2
    exact ⟨a, _, _, x, rfl, hi, by rw [List.getElem?_map, hx]; rfl, h2 _ _ _ I1 (Ext.refl _ _) rx⟩
  | _ => cases ed
/-- self.m, self one's own -/
theorem se_fldO (i : Nat) {y : Str} {py : Pos} (f : FD X.K W c j m) (hN : X.N[i]? = some y := by rfl)
    (hv : Vis X.env.scope y := by first | exact Or.inl rfl | exact Or.inr (Or.inl rfl) | exact Or.inr (Or.inr rfl)) (hd : (y == ("__debug__" : Str)) = false := by decide) (hcd : (y == ("__classdict__" : Str)) = false := by decide)
    (hb : attributeBase (.Name y py) m X.env (eval (.Name y py) X.env) = eval (.Name y py) X.env := by rfl) : SE X W E (.Attribute (.Name y py) m pos) (eFldO i c j) := by
  refine ⟨_, pe_fd (pe_var (i := i) hN hv hd hcd) f hb, fun Φ H F ρ σ Q I h => ?_⟩
  unfold eFldO at h
  split at h
  · rename_i c' fs q0
    split at h
    · rename_i hc
      subst hc
      split at h
      · rename_i d ed
        obtain ⟨v, F1, Fi, F2, e1, _, hsl, _⟩ := I.sl.at q0
        obtain ⟨a, vs, G1, G2, _, rfl, hi, hf⟩ := hsl
        obtain ⟨x, hx, rx⟩ := relFs_at hf ed
        exact ⟨_, e1, a, _, vs, x, rfl, hi.ins, hx, h _ _ _ I (Ext.refl _ _) rx⟩
      · exact h.elim
    · exact h.elim
  · exact h.elim
/-- a part of an instance of one's own is stored: what state that is -/
theorem own_put {Φ : Fx} {H : Hp} {F : List Addr} {ρ : Env} {σ : St} {K : PySem.W.Frag} {i : Nat} {fs fs' : List FV} {fv : FV} {y : V} {Gj : List Addr} {H1 : Hp} (f : FD K W c j m) (I : RS W Φ H F ρ σ) (q0 : ρ[i]? = some (.oi c fs)) (ep : putF (W.sl c) j fv fs = some fs')
    (sm : Same H H1) (ndj : Gj.Nodup) (fj : ∀ b ∈ Gj, H b = none) (N : Hp → Prop)
    (rv : ∀ (A : Addr → Prop) (H2 : Hp), (∀ b, A b → own Φ.O F b ∨ b ∈ Gj) → (∀ b o, H1 b = some o → ¬ own Φ.O F b → H2 b = some o) → RelF W A H2 fv (some y) Gj)
    (k : ∀ H2 F2, RS W Φ H2 F2 (ρ.set i (.oi c fs')) σ → N H2) :
    ∃ a, σ[i]? = some (some (.ref a)) ∧ ((W.sl c = false ∧ ∃ dx gs, H1 a = some (.ins (W.Ca c) dx gs) ∧ gs.length < 1000 ∧ N (upd H1 a (.ins (W.Ca c) dx (L2.putF m y gs)))) ∨
      (W.sl c = true ∧ ∃ dx vs, SlX.Slt H1 a (W.Ca c) dx vs ∧ N (SlX.slH H1 a (W.Ca c) dx (SlX.putS j y vs)))) := by
  obtain ⟨v, F1, Fi, F2, e1, eF, hsl, up⟩ := I.upd q0
  obtain ⟨a, vs, G1, G2, eFi, rfl, hi, hf⟩ := hsl
  have k0 := I.k0
  have ndF := I.nd
  refine ⟨a, e1, ?_⟩
  have lf : fs.length = vs.length := relFs_len hf
  have nd2 : Fi.Nodup := by
    have := ndF
    rw [eF] at this
    exact (List.nodup_append.mp (List.nodup_append.mp this).2.1).1
  rw [eFi] at nd2
  obtain ⟨nd1, nd3, nd13⟩ := List.nodup_append.mp nd2
  have memF : ∀ b, b ∈ Fi → b ∈ F := fun b hb => by rw [eF]; simp [hb]
  obtain ⟨L, R, sR, put⟩ := relFs_put hf ep
  have hF3 : ∀ b, b ∈ G1 ++ (L ++ (Gj ++ R)) → b ∈ Fi ∨ b ∈ Gj := fun b hb => by
    rw [eFi]
    rcases List.mem_append.mp hb with z | z
    · exact .inl (by simp [z])
    · rcases List.mem_append.mp z with z | z
      · exact .inl (List.mem_append_right _ (sR.subset (List.mem_append_left _ z)))
      · rcases List.mem_append.mp z with z | z
        · exact .inr z
        · exact .inl (List.mem_append_right _ (sR.subset (List.mem_append_right _ z)))
  have there : ∀ b ∈ Fi, ∃ o, H b = some o := fun b hb => I.sl.there b (memF b hb)
  have notG : ∀ b ∈ Gj, b ∉ Fi := fun b hb z => by
    obtain ⟨o, q⟩ := there b z
    rw [fj b hb] at q; cases q
  have ndN : (G1 ++ (L ++ (Gj ++ R))).Nodup := by
    have ndLR : (L ++ R).Nodup := nd3.sublist sR
    obtain ⟨ndL, ndR, ndLR⟩ := List.nodup_append.mp ndLR
    have inFi : ∀ b, b ∈ L ++ R → b ∈ Fi := fun b hb => by rw [eFi]; exact List.mem_append_right _ (sR.subset hb)
    refine List.nodup_append.mpr ⟨nd1, List.nodup_append.mpr ⟨ndL, List.nodup_append.mpr ⟨ndj, ndR, fun b hb d hd z => ?_⟩, fun b hb d hd z => ?_⟩, fun b hb d hd z => ?_⟩
    · subst z; exact notG b hb (inFi b (List.mem_append_right _ hd))
    · subst z
      rcases List.mem_append.mp hd with hd | hd
      · exact notG b hd (inFi b (List.mem_append_left _ hb))
      · exact ndLR b hb b hd rfl
    · subst z
      rcases List.mem_append.mp hd with hd | hd
      · exact nd13 b hb b (sR.subset (List.mem_append_left _ hd)) rfl
      · rcases List.mem_append.mp hd with hd | hd
        · exact notG b hd (by rw [eFi]; exact List.mem_append_left _ hb)
        · exact nd13 b hb b (sR.subset (List.mem_append_right _ hd)) rfl
  have parts : ∀ (H2 : Hp), (∀ b o, H1 b = some o → b ∉ G1 → H2 b = some o) → OwnI W H2 c a (putV j (some y) vs) G1 → N H2 := fun H2 kH oi' => by
    have old : ∀ b o, H b = some o → b ∉ G1 → H2 b = some o := fun b o q z => kH b o (sm b o q) z
    have subA : ∀ b, own Φ.O (F1 ++ ((G1 ++ (L ++ (Gj ++ R))) ++ F2)) b → own Φ.O F b ∨ b ∈ Gj := fun b hb => by
      rcases hb with z | z
      · exact .inl (.inl z)
      · rcases List.mem_append.mp z with z | z
        · exact .inl (.inr (by rw [eF]; simp [z]))
        · rcases List.mem_append.mp z with z | z
          · rcases hF3 b z with z | z
            · exact .inl (.inr (memF b z))
            · exact .inr z
          · exact .inl (.inr (by rw [eF]; simp [z]))
    have xt : Ext (own Φ.O F) H (own Φ.O (F1 ++ ((G1 ++ (L ++ (Gj ++ R))) ++ F2))) H2 := fun b o q z => by
      refine ⟨old b o q fun zz => z (.inr (memF b (by rw [eFi]; exact List.mem_append_left _ zz))), fun zz => ?_⟩
      rcases subA b zz with w | w
      · exact z w
      · rw [fj b w] at q; cases q
    obtain ⟨I2, _⟩ := up H2 (.oi c fs') (some (.ref a)) (G1 ++ (L ++ (Gj ++ R))) (fun b o q z => old b o q fun zz => z (by rw [eFi]; exact List.mem_append_left _ zz))
      (fun b hb => (hF3 b hb).imp id fun z => fj b z) ndN (fun hi _ => by
        subst hi
        have := k0 _ q0 rfl
        rw [e1] at this
        exact Option.some.inj this)
      ⟨a, _, G1, L ++ (Gj ++ R), rfl, rfl, oi', put _ H2 (some y) Gj xt (fun b hb o q => old b o q fun z => nd13 b z b hb rfl) (rv _ H2 subA fun b o q z => kH b o q fun zz => z (.inr (memF b (by rw [eFi]; exact List.mem_append_left _ zz))))⟩
    rw [set_same e1] at I2
    exact k H2 _ I2
  unfold OwnI at hi
  cases es : W.sl c with
  | false =>
    rw [es] at hi
    obtain ⟨dx, xs, rfl, rfl, hl, ha⟩ := hi
    obtain ⟨na, h1, h2, h3⟩ := f.fd es
    refine .inl ⟨rfl, dx, _, sm _ _ ha, by rw [List.length_zip]; omega, parts _ (fun b o q z => by rw [upd_ne (fun w => z (by rw [w]; exact List.mem_cons_self))]; exact q) ?_⟩
    unfold OwnI
    rw [es]
    rw [List.length_map] at lf
    have jl : j < (W.an c).length := (List.getElem?_eq_some_iff.mp h1).1
    unfold putV
    rw [List.length_map]
    by_cases hj : j < xs.length
    · rw [if_pos hj]
      refine ⟨dx, xs.set j y, rfl, by rw [List.map_set], by rw [List.length_set]; exact hl, ?_⟩
      rw [upd_same, putF_zip_set h2 h1 hj]
    · rw [if_neg hj]
      have ej : j = xs.length := by
        unfold putF at ep
        rw [if_neg (by omega), es, if_neg (by decide)] at ep
        obtain ⟨z, _⟩ := Option.ite_none_right_eq_some.mp ep
        omega
      refine ⟨dx, xs ++ [y], rfl, ?_, by rw [List.length_append, List.length_singleton]; omega, ?_⟩
      · rw [ej]; simp
      · rw [upd_same, putF_zip_app h2 (by rw [← ej]; exact h1)]
  | true =>
    rw [es] at hi
    obtain ⟨dx, rfl, ne, h⟩ := hi
    have hs : SlX.Slt H1 a (W.Ca c) dx vs := by
      rcases h with ⟨h0, h1, _⟩ | ⟨h1, h2⟩
      · exact .inl ⟨sm _ _ h1, h0⟩
      · exact .inr ⟨sm _ _ h1, sm _ _ h2⟩
    refine .inr ⟨rfl, dx, vs, hs, parts _ (fun b o q z => ?_) ?_⟩
    · rw [SlX.slH_ne (fun w => z (by rw [w]; exact List.mem_cons_self)) (fun w => z (by rw [w]; simp))]; exact q
    · unfold OwnI
      rw [es]
      refine ⟨dx, rfl, ne, .inr ?_⟩
      rw [putS_is]
      unfold SlX.slH
      exact ⟨upd_same, by rw [upd_ne ne, upd_same]⟩
/-- self.m = value, a tree -/
theorem ss_fldO (i : Nat) {y : Str} {py : Pos} (f : FD X.K W c j m) (hv : SE X W E value mv) (hN : X.N[i]? = some y := by rfl)
    (hvi : Vis X.env.scope y := by first | exact Or.inl rfl | exact Or.inr (Or.inl rfl) | exact Or.inr (Or.inr rfl)) (hd : (y == ("__debug__" : Str)) = false := by decide) (hcd : (y == ("__classdict__" : Str)) = false := by decide)
    (hs : swapsWith value (some (.Attribute (.Name y py) m pos')) pos.line X.env = pure false := by rfl) : SS X W E (.Assign [.Attribute (.Name y py) m pos'] value pos) (sFldO (W.sl c) c i j mv) := by
  obtain ⟨tv, pv, kv⟩ := hv
  refine ⟨_, ps_fd (pe_var (i := i) hN hvi hd hcd) pv f hs, fun Φ H F ρ σ D I h => ?_⟩
  refine kv _ _ _ _ _ _ I (PostS.bnd h fun d ρ1 v H1 F1 _ I1 x1 r1 h1 => ?_)
  have h2 : PostS W Φ E D (match ρ1[i]? with
    | some (.oi c' fs) => if c' = c then (match putF (W.sl c) j (.val d) fs with
      | some fs' => .ok none (ρ1.set i (.oi c fs'))
      | none => .bad) else .bad
    | _ => .bad) := h1
  clear h1
  split at h2
  · rename_i c' fs q0
    split at h2
    · rename_i hc
      subst hc
      cases ep : putF (W.sl c') j (.val d) fs with
      | none => rw [ep] at h2; exact h2.elim
      | some fs' =>
        rw [ep] at h2
        obtain ⟨a, ha, z⟩ := own_put (K := X.K) (Gj := []) (H1 := H1) (y := v) f I1 q0 ep (Same.refl _) List.nodup_nil (fun _ m => nomatch m) (fun H' => D.nx σ H')
          (fun A H2 hA kH => ⟨rfl, v, rfl, r1.ext fun b o q z => ⟨kH b o q z, fun w => by rcases hA b w with w | w; exact z w; cases w⟩⟩) (fun H2 F2 I2 => h2 _ _ _ I2)
        exact ⟨_, ha, a, rfl, z⟩
    · exact h2.elim
  · exact h2.elim
end
end Tr
/- Tr13 -/
/-! Tr, part 13: lists of one's own; what is one's own, read for good. -/
namespace Tr
open PySem L2
section
variable {W : Wd} {A A' : Addr → Prop} {H : Hp}
theorem frz_mapM : ∀ {fs : List FV} {ds : List D} {vs : List (Option V)} {G : List Addr}, RelFs W A H fs vs G → fs.mapM frz1 = some ds → (∀ a, A' a → A a) → (∀ a ∈ G, ¬ A' a) → ∃ us, vs = us.map some ∧ RelDs W A' H ds us
  | [], ds, _, _, ⟨e, _⟩, h, _, _ => by
    cases h
    exact ⟨[], e, relDs_nil⟩
  | f :: fs, ds, _, _, ⟨v, r, G1, G2, e1, e2, h1, h2⟩, h, hA, hG => by
    subst e1; subst e2
    rw [List.mapM_cons] at h
    obtain ⟨d, ed, h⟩ := Option.bind_eq_some_iff.mp h
    obtain ⟨ds', eds, h⟩ := Option.bind_eq_some_iff.mp h
    cases h
    obtain ⟨us, rfl, ru⟩ := frz_mapM h2 eds hA fun a m => hG a (List.mem_append_right _ m)
    have nG : ∀ a ∈ G1, ¬ A' a := fun a m => hG a (List.mem_append_left _ m)
    have key : ∃ u, v = some u ∧ RelD W A' H d u := by
      cases f with
      | no => cases ed
      | val d' =>
        cases ed
        obtain ⟨_, x, rfl, rx⟩ := h1
        exact ⟨x, rfl, rx.ext (ext_sub hA)⟩
      | dK kvs =>
        cases ed
        obtain ⟨a, ws, rfl, rfl, ha, rx⟩ := h1
        refine ⟨_, rfl, ?_⟩
        unfold RelD
        exact ⟨a, ws, rfl, nG a List.mem_cons_self, .inl ha, rx.ext (ext_sub hA)⟩
      | dT kvs =>
        cases ed
        obtain ⟨a, ws, rfl, rfl, ha, rx⟩ := h1
        refine ⟨_, rfl, ?_⟩
        unfold RelD
        exact ⟨a, ws, rfl, nG a List.mem_cons_self, .inl ha, rx.ext (ext_sub hA)⟩
    obtain ⟨u, rfl, rd⟩ := key
    exact ⟨u :: us, rfl, by unfold RelDs; exact ⟨u, us, rfl, rd, ru⟩⟩
end
section
variable {W : Wd} {Φ : Fx} {H : Hp} {F : List Addr} {ρ : Env} {σ : St} {i : Nat}
/-- what slot i holds becomes a tree -/
theorem RS.frz {s : SV} {d : D} (I : RS W Φ H F ρ σ) (e : ρ[i]? = some s)
    (k : ∀ (A A' : Addr → Prop) (v : Option V) (Fi : List Addr), SlR W A H s v Fi → (∀ a, A' a → A a) → (∀ a ∈ Fi, ¬ A' a) → ∃ x, v = some x ∧ RelD W A' H d x) :
    ∃ x F', σ[i]? = some (some x) ∧ RS W Φ H F' (ρ.set i (.val d)) σ ∧ Ext (own Φ.O F) H (own Φ.O F') H ∧ RelD W (own Φ.O F') H d x := by
  obtain ⟨v, F1, Fi, F2, e1, eF, hsl, up⟩ := I.upd e
  have nd := I.nd
  have dj := I.dj
  subst eF
  have nd12 := (List.nodup_append.mp nd).2.2
  have ndi2 := (List.nodup_append.mp (List.nodup_append.mp nd).2.1).2.2
  have sub : ∀ a, own Φ.O (F1 ++ ([] ++ F2)) a → own Φ.O (F1 ++ (Fi ++ F2)) a := fun a z => z.imp id fun z => by
    rcases List.mem_append.mp z with z | z
    · simp [z]
    · have z : a ∈ F2 := z
      simp [z]
  have ni : ∀ a ∈ Fi, ¬ own Φ.O (F1 ++ ([] ++ F2)) a := fun a m z => by
    rcases z with z | z
    · exact dj a (by simp [m]) z
    · rcases List.mem_append.mp z with z | z
      · exact nd12 a z a (by simp [m]) rfl
      · exact ndi2 a m a z rfl
  obtain ⟨x, rfl, rx⟩ := k _ _ v Fi hsl sub ni
  obtain ⟨I', x'⟩ := up H (.val d) (some x) [] (fun _ _ q _ => q) (fun _ m => nomatch m) List.nodup_nil (fun _ z => nomatch z) ⟨rfl, x, rfl, rx⟩
  rw [set_same e1] at I'
  exact ⟨x, _, e1, I', x', rx⟩
theorem frz_ol {A A' : Addr → Prop} {ds : List D} {v : Option V} {Fi : List Addr} (h : SlR W A H (.ol ds) v Fi) (hA : ∀ a, A' a → A a) (hG : ∀ a ∈ Fi, ¬ A' a) : ∃ x, v = some x ∧ RelD W A' H (.lst ds) x := by
  obtain ⟨a, vs, rfl, rfl, ha, r⟩ := h
  refine ⟨_, rfl, ?_⟩
  unfold RelD
  exact ⟨a, vs, rfl, hG a List.mem_cons_self, .inl ha, r.ext (ext_sub hA)⟩
theorem frz_oi {A A' : Addr → Prop} {c : Nat} {fs : List FV} {ds : List D} {v : Option V} {Fi : List Addr} (h : SlR W A H (.oi c fs) v Fi) (e : fs.mapM frz1 = some ds) (hA : ∀ a, A' a → A a) (hG : ∀ a ∈ Fi, ¬ A' a) : ∃ x, v = some x ∧ RelD W A' H (.obj c ds) x := by
  obtain ⟨a, vs, G1, G2, rfl, rfl, hi, r⟩ := h
  obtain ⟨us, rfl, ru⟩ := frz_mapM r e hA fun a m => hG a (List.mem_append_right _ m)
  have nG : ∀ a ∈ G1, ¬ A' a := fun a m => hG a (List.mem_append_left _ m)
  refine ⟨_, rfl, ?_⟩
  unfold RelD
  unfold OwnI at hi
  refine ⟨a, us, rfl, ?_, ?_, ru⟩
  · cases q : W.sl c with
    | false => rw [q] at hi; obtain ⟨dx, xs, rfl, _⟩ := hi; exact nG a List.mem_cons_self
    | true => rw [q] at hi; obtain ⟨dx, rfl, _⟩ := hi; exact nG a List.mem_cons_self
  · unfold InsV
    cases q : W.sl c with
    | false => rw [q] at hi; obtain ⟨dx, xs, _, h1, h2, h3⟩ := hi; exact ⟨dx, xs, h1, h2, h3⟩
    | true => rw [q] at hi; obtain ⟨dx, rfl, ne, h⟩ := hi; exact ⟨dx, nG dx (by simp), ne, h⟩
/-- a list of one's own is rewritten -/
theorem RS.lset {ds ds' : List D} {N : Hp → Prop} (I : RS W Φ H F ρ σ) (e : olAt i ρ = some ds) : ∃ a vs, σ[i]? = some (some (.ref a)) ∧ H a = some (.lst vs) ∧ own Φ.O F a ∧ RelDs W (own Φ.O F) H ds vs ∧
    ∀ (ds' : List D) (vs' : List V), (∀ A H', (∀ b o, H b = some o → ¬ own Φ.O F b → H' b = some o ∧ ¬ A b) → RelDs W A H' ds' vs') → ∃ F', RS W Φ (L2.upd H a (.lst vs')) F' (ρ.set i (.ol ds')) σ ∧ Ext (own Φ.O F) H (own Φ.O F') (L2.upd H a (.lst vs')) := by
  have e' : ρ[i]? = some (.ol ds) := by
    unfold olAt at e
    split at e
    · rename_i q; cases e; exact q
    · cases e
  have k0 := I.k0
  obtain ⟨v, F1, Fi, F2, e1, eF, hsl, up⟩ := I.upd e'
  obtain ⟨a, vs, rfl, rfl, ha, r⟩ := hsl
  refine ⟨a, vs, e1, ha, .inr (by rw [eF]; simp), r, fun ds' vs' hr => ?_⟩
  have x : Ext (own Φ.O F) H (own Φ.O (F1 ++ ([a] ++ F2))) (L2.upd H a (.lst vs')) := fun b o q z => by
    rw [eF] at z
    refine ⟨?_, z⟩
    rw [upd_ne (fun w => z (.inr (by rw [w]; simp)))]
    exact q
  obtain ⟨I', x'⟩ := up (L2.upd H a (.lst vs')) (.ol ds') (some (.ref a)) [a] (fun b o q z => by rw [upd_ne (fun w => z (by rw [w]; exact List.mem_cons_self))]; exact q) (fun b m => .inl m) (by simp)
    (fun hi _ => by
      subst hi
      have := k0 _ e' rfl
      rw [e1] at this
      exact Option.some.inj this) ⟨a, vs', rfl, rfl, upd_same, hr _ _ x⟩
  rw [set_same e1] at I'
  exact ⟨_, I', x'⟩
/-- a new list becomes slot i's own -/
theorem RS.lnew {ds : List D} {vs : List V} {p : Addr} (I : RS W Φ H F ρ σ) (hp : H p = none) (r : RelDs W (own Φ.O F) H ds vs) (hi : i ≠ 0) (hl : i < ρ.length) :
    ∃ F', RS W Φ (L2.upd H p (.lst vs)) F' (ρ.set i (.ol ds)) (σ.set i (some (.ref p))) ∧ Ext (own Φ.O F) H (own Φ.O F') (L2.upd H p (.lst vs)) := by
  obtain ⟨v, F1, Fi, F2, e1, eF, hsl, up⟩ := I.upd (List.getElem?_eq_getElem hl)
  have x : Ext (own Φ.O F) H (own Φ.O (F1 ++ ([p] ++ F2))) (L2.upd H p (.lst vs)) := fun b o q z => by
    have nb : b ≠ p := ne_of_none q hp
    refine ⟨by rw [upd_ne nb]; exact q, fun w => ?_⟩
    rw [eF] at z
    rcases w with w | w
    · exact z (.inl w)
    · rcases List.mem_append.mp w with w | w
      · exact z (.inr (by simp [w]))
      · rcases List.mem_append.mp w with w | w
        · exact nb (List.mem_singleton.mp w)
        · exact z (.inr (by simp [w]))
  obtain ⟨I', x'⟩ := up (L2.upd H p (.lst vs)) (.ol ds) (some (.ref p)) [p] (fun b o q _ => by rw [upd_ne (ne_of_none q hp)]; exact q) (fun b m => .inr (by rw [List.mem_singleton.mp m]; exact hp)) (by simp) (fun z => absurd z hi)
    ⟨p, vs, rfl, rfl, upd_same, r.ext x⟩
  exact ⟨_, I', x'⟩
end
/-- an expression makes a new list -/
def PostN (W : Wd) (Φ : Fx) (E : XK) (σ : St) (B : Addr → Prop) (H : Hp) (Q : VK) : R (List D) → Prop
  | .ok ds ρ' => ∀ vs H' F' p, RS W Φ H' F' ρ' σ → Ext B H (own Φ.O F') H' → RelDs W (own Φ.O F') H' ds vs → H' p = none → Q (.ref p) (L2.upd H' p (.lst vs))
  | .exc c d ρ' => ∀ dx v H' F', RS W Φ H' F' ρ' σ → H' dx = some (.xd [("value", v)]) → RelD W (own Φ.O F') H' d v → E (.ref (W.Ca c)) (some dx) H'
  | .bad => False
structure SN (X : Cx) (W : Wd) (E : XK) (e : Expr) (m : LM) : Prop where
  ex : ∃ t, PE X e t ∧ ∀ (Φ : Fx) (H : Hp) (F : List Addr) (ρ : Env) (σ : St) (Q : VK), RS W Φ H F ρ σ → PostN W Φ E σ (own Φ.O F) H Q (m ρ) → t σ H Q
section
variable {X : Cx} {W : Wd} {E : XK} {e : Expr} {es : List Expr} {ma : EM} {ml : LM} {pos p apos : Pos}
theorem sn_lst (hl : SA X W E es ml) : SN X W E (.List es pos) (lCap ml) := by
  obtain ⟨tl, pl, kl⟩ := hl
  refine ⟨_, pe_lst pl, fun Φ H F ρ σ Q I h => ?_⟩
  refine kl _ _ _ _ _ _ I ?_
  unfold lCap at h
  cases em : ml ρ with
  | ok xs ρ1 =>
    rw [em] at h
    have h : PostN W Φ E σ (own Φ.O F) H Q (capped xs ρ1 (.ok xs ρ1)) := h
    unfold capped at h
    split at h
    · rename_i hc
      intro vs H1 F1 I1 x1 r1
      exact ⟨by rw [← relDs_len r1]; exact Nat.le_trans hc cap_le, fun p hp => h vs H1 F1 p I1 x1 r1 hp⟩
    · exact h.elim
  | exc c d ρ1 => rw [em] at h; exact h
  | bad => rw [em] at h; exact h
theorem se_ofN (h : SN X W E e ml) : SE X W E e (eLstN ml) := by
  obtain ⟨t, p, k⟩ := h
  refine ⟨t, p, fun Φ H F ρ σ Q I h => k Φ H F ρ σ Q I ?_⟩
  unfold eLstN at h
  cases em : ml ρ with
  | ok xs ρ1 =>
    rw [em] at h
    intro vs H1 F1 p I1 x1 r1 hp
    obtain ⟨I2, x2⟩ := I1.same (same_new (o := .lst vs) hp)
    exact h _ _ F1 I2 (x1.trans x2) (relD_new_lst I1.tk hp r1)
  | exc c d ρ1 => rw [em] at h; exact h
  | bad => rw [em] at h; exact h
/-- name = a new list, one's own -/
theorem ss_newL (i : Nat) {x : Str} {pos' : Pos} (hN : X.N.Nodup) (h : SN X W E e ml) (hi : X.N[i]? = some x := by rfl) (hx : Loc X.env.scope x := by first | exact Or.inl rfl | exact Or.inr rfl)
    (hs : swapsWith e (some (.Name x pos')) pos.line X.env = pure false := by rfl) (hf : X.fn x = true ∨ X.env.scope.names.lookup x = some .local := by first | exact .inl rfl | exact .inr rfl) : SS X W E (.Assign [.Name x pos'] e pos) (sNewL i ml) := by
  obtain ⟨t, pp, k⟩ := h
  refine ⟨_, ps_set (i := i) hN hi hx pp hs hf, fun Φ H F ρ σ D I h => k Φ H F ρ σ _ I ?_⟩
  unfold sNewL at h
  cases em : ml ρ with
  | ok xs ρ1 =>
    rw [em] at h
    have h : PostS W Φ E D (if i ≠ 0 ∧ i < ρ1.length then .ok none (ρ1.set i (.ol xs)) else .bad) := h
    split at h
    · rename_i hc
      intro vs H1 F1 q I1 x1 r1 hp
      obtain ⟨F2, I2, _⟩ := I1.lnew hp r1 hc.1 hc.2
      exact h _ _ _ I2
    · exact h.elim
  | exc c d ρ1 =>
    rw [em] at h
    exact fun dx v H' F' I' => h dx v _ H' F' I'
  | bad => rw [em] at h; exact h
/-- the name in slot i, read for good -/
theorem se_fz (i : Nat) {x : Str} (hN : X.N[i]? = some x := by rfl) (hv : Vis X.env.scope x := by first | exact Or.inl rfl | exact Or.inr (Or.inl rfl) | exact Or.inr (Or.inr rfl)) (hd : (x == ("__debug__" : Str)) = false := by decide)
    (hcd : (x == ("__classdict__" : Str)) = false := by decide) : SE X W E (.Name x pos) (eFz i) := by
  refine ⟨_, pe_var (i := i) hN hv hd hcd, fun Φ H F ρ σ Q I h => ?_⟩
  unfold eFz at h
  split at h
  · rename_i d q
    obtain ⟨v, e, r⟩ := I.sl.val q
    exact ⟨v, e, h v H F I (Ext.refl _ _) r⟩
  · rename_i ds q
    obtain ⟨v, F', e, I', x', r⟩ := I.frz (d := .lst ds) q fun A A' v Fi h hA hG => frz_ol h hA hG
    exact ⟨v, e, h v H F' I' x' r⟩
  · rename_i c fs q
    split at h
    · rename_i ds em
      obtain ⟨v, F', e, I', x', r⟩ := I.frz (d := .obj c ds) q fun A A' v Fi h hA hG => frz_oi h em hA hG
      exact ⟨v, e, h v H F' I' x' r⟩
    · exact h.elim
  · exact h.elim
/-- x.m(e), x a list of one's own in slot i -/
theorem se_stepO (i : Nat) {x : Str} {py : Pos} {name : Str} {id : String} {r : V → List V → Hp → VK → Prop} {f : D → List D → Option (D × List D)} (slot : Slot "list" name id) (hty : typeOf (.builtin id) = pure (.type "method_descriptor")) (hm : MtM X id r)
    (hr : ∀ (A : Addr → Prop) (H : Hp) (a : Addr) (vs : List V) (ds : List D) (y d : D) (v : V) (ds' : List D) (Q : VK), H a = some (.lst vs) → A a → RelDs W A H ds vs → RelD W A H y v → f y ds = some (d, ds') →
      (∀ u vs', (∀ A' H', (∀ b o, H b = some o → ¬ A b → H' b = some o ∧ ¬ A' b) → RelDs W A' H' ds' vs' ∧ RelD W A' H' d u) → Q u (L2.upd H a (.lst vs'))) → r (.ref a) [v] H Q)
    (he : SE X W E e ma) (hN : X.N[i]? = some x := by rfl) (hv : Vis X.env.scope x := by first | exact Or.inl rfl | exact Or.inr (Or.inl rfl) | exact Or.inr (Or.inr rfl)) (hd : (x == ("__debug__" : Str)) = false := by decide)
    (hcd : (x == ("__classdict__" : Str)) = false := by decide) (hbase : attributeBase (.Name x py) name X.env (eval (.Name x py) X.env) = eval (.Name x py) X.env := by rfl)
    (hfew : ((backTo pos (starEach [e] X.env)).all (fun x => !x.1) && (backToKw pos (keywordEach [] X.env)).all (fun x => x.1.isSome) && decide ([e].length + ([] : List Keyword).length + (if ([] : List Keyword).isEmpty then 0 else 1) < 30)) = true := by rfl)
    (hline : (apos.endLine == pos.line) = true := by rfl) (hs : starEach [e] X.env = (false, eval e X.env) :: starEach [] X.env := by rfl) (hplain : (backTo pos (starEach [] X.env)).any (·.1) = false := by rfl) :
    SE X W E (.Call (.Attribute (.Name x py) name apos) [e] [] pos) (eStepO i f ma) := by
  obtain ⟨t, pp, k⟩ := he
  refine ⟨_, pe_bm PySem.F.plainAttrs_list slot hty hm (pe_var (i := i) hN hv hd hcd) (pa_cons pp pa_nil hs) hbase hfew hline hs hplain, fun Φ H F ρ σ Q I h => ?_⟩
  unfold eStepO at h
  split at h
  · rename_i hw
    obtain ⟨ds, q⟩ := Option.isSome_iff_exists.mp hw
    obtain ⟨a, vs, ha, hH, _, _, _⟩ := I.lset (N := fun _ => True) (ds' := []) q
    refine ⟨_, ha, .inl ⟨rfl, vs, .of hH⟩, ?_⟩
    refine k _ _ _ _ _ _ I (h.bnd fun y ρ1 v H1 F1 _ I1 x1 r1 h1 => ?_)
    show r (.ref a) [v] H1 Q
    unfold stepO at h1
    split at h1
    · rename_i ds1 q1
      split at h1
      · rename_i d ds' ef
        obtain ⟨a', vs1, ha', hH1, hA, rs, up⟩ := I1.lset (N := fun _ => True) (ds' := []) q1
        rw [ha] at ha'; cases ha'
        refine hr _ H1 a vs1 ds1 y d v ds' Q hH1 hA rs r1 ef fun u vs' hz => ?_
        obtain ⟨F2, I2, x2⟩ := up ds' vs' fun A H' z => (hz A H' z).1
        exact h1 u _ F2 I2 x2 (hz _ _ x2).2
      · exact h1.elim
    · exact h1.elim
  · exact h.elim
end
end Tr
/- Tr14 -/
/-! Tr, part 14: append, extend, pop, len, items of a list of one's own; new instances. -/
namespace Tr
open PySem L2
section
variable {X : Cx} {W : Wd} {E : XK} {e : Expr} {es : List Expr} {ma mv : EM} {ml : LM} {pos p apos : Pos}
theorem relDs_set {A : Addr → Prop} {H : Hp} : ∀ {ds : List D} {vs : List V} {j : Nat} {d : D} {v : V}, RelDs W A H ds vs → RelD W A H d v → RelDs W A H (ds.set j d) (vs.set j v)
  | [], _, j, _, _, r, _ => by rw [relDs_nil_inv r]; exact relDs_nil
  | x :: ds, _, 0, d, v, r, q => by
    obtain ⟨y, s, rfl, _, h2⟩ := relDs_cons_inv r
    unfold RelDs
    exact ⟨v, s, rfl, q, h2⟩
  | x :: ds, _, j + 1, d, v, r, q => by
    obtain ⟨y, s, rfl, h1, h2⟩ := relDs_cons_inv r
    rw [List.set_cons_succ, List.set_cons_succ]
    unfold RelDs
    exact ⟨y, _, rfl, h1, relDs_set h2 q⟩
theorem relDs_erase {A : Addr → Prop} {H : Hp} : ∀ {ds : List D} {vs : List V} {j : Nat}, RelDs W A H ds vs → RelDs W A H (ds.eraseIdx j) (vs.eraseIdx j)
  | [], _, j, r => by rw [relDs_nil_inv r]; exact relDs_nil
  | x :: ds, _, 0, r => by
    obtain ⟨y, s, rfl, _, h2⟩ := relDs_cons_inv r
    exact h2
  | x :: ds, _, j + 1, r => by
    obtain ⟨y, s, rfl, h1, h2⟩ := relDs_cons_inv r
    rw [List.eraseIdx_cons_succ, List.eraseIdx_cons_succ]
    unfold RelDs
    exact ⟨y, _, rfl, h1, relDs_erase h2⟩
theorem relDs_one {A : Addr → Prop} {H : Hp} {d : D} {v : V} (r : RelD W A H d v) : RelDs W A H [d] [v] := by unfold RelDs RelDs; exact ⟨v, [], rfl, r, rfl⟩
/-- x.append(e) -/
theorem se_append (i : Nat) {x : Str} {py : Pos} (he : SE X W E e ma) (hN : X.N[i]? = some x := by rfl) (hv : Vis X.env.scope x := by first | exact Or.inl rfl | exact Or.inr (Or.inl rfl) | exact Or.inr (Or.inr rfl)) (hd : (x == ("__debug__" : Str)) = false := by decide)
    (hcd : (x == ("__classdict__" : Str)) = false := by decide) (hbase : attributeBase (.Name x py) "append" X.env (eval (.Name x py) X.env) = eval (.Name x py) X.env := by rfl)
    (hfew : ((backTo pos (starEach [e] X.env)).all (fun x => !x.1) && (backToKw pos (keywordEach [] X.env)).all (fun x => x.1.isSome) && decide ([e].length + ([] : List Keyword).length + (if ([] : List Keyword).isEmpty then 0 else 1) < 30)) = true := by rfl)
    (hline : (apos.endLine == pos.line) = true := by rfl) (hs : starEach [e] X.env = (false, eval e X.env) :: starEach [] X.env := by rfl) (hplain : (backTo pos (starEach [] X.env)).any (·.1) = false := by rfl) :
    SE X W E (.Call (.Attribute (.Name x py) "append" apos) [e] [] pos) (eStepO i appL ma) :=
  se_stepO i PySem.F.slot_list_append PySem.F.type_list_append mt_append (fun A H a vs ds y d v ds' Q hH hA rs ry ef k => by
    obtain ⟨h1, h2⟩ := Option.ite_none_right_eq_some.mp (show (if ds.length < cap then some (D.non, ds ++ [y]) else none) = some (d, ds') from ef)
    cases h2
    refine ⟨a, vs, v, rfl, rfl, hH, by rw [← relDs_len rs]; exact Nat.lt_of_lt_of_le h1 cap_le, k .non _ fun A' H' z => ⟨relDs_app (rs.ext z) (relDs_one (ry.ext z)), relD_non⟩⟩)
    he hN hv hd hcd hbase hfew hline hs hplain
/-- x.extend(a new list) -/
theorem se_extend (i : Nat) {x : Str} {py : Pos} (he : SN X W E e ml) (hN : X.N[i]? = some x := by rfl) (hv : Vis X.env.scope x := by first | exact Or.inl rfl | exact Or.inr (Or.inl rfl) | exact Or.inr (Or.inr rfl)) (hd : (x == ("__debug__" : Str)) = false := by decide)
    (hcd : (x == ("__classdict__" : Str)) = false := by decide) (hbase : attributeBase (.Name x py) "extend" X.env (eval (.Name x py) X.env) = eval (.Name x py) X.env := by rfl)
    (hfew : ((backTo pos (starEach [e] X.env)).all (fun x => !x.1) && (backToKw pos (keywordEach [] X.env)).all (fun x => x.1.isSome) && decide ([e].length + ([] : List Keyword).length + (if ([] : List Keyword).isEmpty then 0 else 1) < 30)) = true := by rfl)
    (hline : (apos.endLine == pos.line) = true := by rfl) (hs : starEach [e] X.env = (false, eval e X.env) :: starEach [] X.env := by rfl) (hplain : (backTo pos (starEach [] X.env)).any (·.1) = false := by rfl) :
    SE X W E (.Call (.Attribute (.Name x py) "extend" apos) [e] [] pos) (eExtO i ml) := by
  obtain ⟨t, pp, k⟩ := he
  refine ⟨_, pe_bm PySem.F.plainAttrs_list PySem.F.slot_list_extend PySem.F.type_list_extend mt_extend (pe_var (i := i) hN hv hd hcd) (pa_cons pp pa_nil hs) hbase hfew hline hs hplain, fun Φ H F ρ σ Q I h => ?_⟩
  unfold eExtO at h
  split at h
  · rename_i hw
    obtain ⟨ds, q⟩ := Option.isSome_iff_exists.mp hw
    obtain ⟨a, vs, ha, hH, _, _, _⟩ := I.lset (N := fun _ => True) (ds' := []) q
    refine ⟨_, ha, .inl ⟨rfl, vs, .of hH⟩, ?_⟩
    refine k _ _ _ _ _ _ I ?_
    cases em : ml ρ with
    | ok xs ρ1 =>
      rw [em] at h
      intro ws H1 F1 p I1 x1 r1 hp
      have h : PostE W Φ E σ (own Φ.O F) H Q (stepO i ρ1 fun ds => if ds.length + xs.length ≤ cap then some (.non, ds ++ xs) else none) := h
      show rExtend (.ref a) [.ref p] (upd H1 p (.lst ws)) Q
      unfold stepO at h
      split at h
      · rename_i ds1 q1
        split at h
        · rename_i d ds' ef
          obtain ⟨h1, h2⟩ := Option.ite_none_right_eq_some.mp ef
          cases h2
          obtain ⟨I2, x2⟩ := I1.same (same_new (o := .lst ws) hp)
          obtain ⟨a', vs1, ha', hH1, hA, rs, up⟩ := I2.lset (N := fun _ => True) (ds' := []) q1
          rw [ha] at ha'; cases ha'
          obtain ⟨F2, I3, x3⟩ := up (ds1 ++ xs) (vs1 ++ ws) fun A H' z => relDs_app (rs.ext z) ((r1.ext x2).ext z)
          refine ⟨a, p, vs1, ws, rfl, rfl, hH1, upd_same, by rw [← relDs_len rs, ← relDs_len r1]; exact Nat.le_trans h1 cap_le, h _ _ F2 I3 ((x1.trans x2).trans x3) relD_non⟩
        · exact h.elim
      · exact h.elim
    | exc c d ρ1 => rw [em] at h; exact h
    | bad => rw [em] at h; exact h
  · exact h.elim
/-- x.pop(e) -/
theorem se_popAt (i : Nat) {x : Str} {py : Pos} (he : SE X W E e ma) (hN : X.N[i]? = some x := by rfl) (hv : Vis X.env.scope x := by first | exact Or.inl rfl | exact Or.inr (Or.inl rfl) | exact Or.inr (Or.inr rfl)) (hd : (x == ("__debug__" : Str)) = false := by decide)
    (hcd : (x == ("__classdict__" : Str)) = false := by decide) (hbase : attributeBase (.Name x py) "pop" X.env (eval (.Name x py) X.env) = eval (.Name x py) X.env := by rfl)
    (hfew : ((backTo pos (starEach [e] X.env)).all (fun x => !x.1) && (backToKw pos (keywordEach [] X.env)).all (fun x => x.1.isSome) && decide ([e].length + ([] : List Keyword).length + (if ([] : List Keyword).isEmpty then 0 else 1) < 30)) = true := by rfl)
    (hline : (apos.endLine == pos.line) = true := by rfl) (hs : starEach [e] X.env = (false, eval e X.env) :: starEach [] X.env := by rfl) (hplain : (backTo pos (starEach [] X.env)).any (·.1) = false := by rfl) :
    SE X W E (.Call (.Attribute (.Name x py) "pop" apos) [e] [] pos) (eStepO i popL ma) :=
  se_stepO i PySem.F.slot_list_pop PySem.F.type_list_pop mt_popAt (fun A H a vs ds y d v ds' Q hH hA rs ry ef k => by
    cases y with
    | int z =>
      obtain ⟨hc, ef⟩ := Option.ite_none_right_eq_some.mp (show (if ds.length ≤ cap then (ixN' ds.length z).bind (fun j => (ds[j]?).map fun y => (y, ds.eraseIdx j)) else none) = some (d, ds') from ef)
      obtain ⟨j, e1, e2⟩ := Option.bind_eq_some_iff.mp ef
      obtain ⟨y, e3, e4⟩ := Option.map_eq_some_iff.mp e2
      cases e4
      have e1 : ixN ds.length z = some j := e1
      rw [relDs_len rs] at e1
      obtain ⟨u, h1, h2⟩ := relDs_at rs e3
      obtain ⟨q1, q2, q3, q4⟩ := ixN_seq e1
      have hl : vs.length ≤ 1000000 := by rw [← relDs_len rs]; exact hc
      exact ⟨a, vs, z, j, u, rfl, by rw [relD_int_inv ry], hH, by omega, by omega, q1, h1, k u _ fun A' H' zz => ⟨relDs_erase (rs.ext zz), h2.ext zz⟩⟩
    | _ => cases ef)
    he hN hv hd hcd hbase hfew hline hs hplain
/-- len(x) -/
theorem se_lenO (i : Nat) {x y : Str} {py p : Pos} (hg : Gl X x) (hm : X.mg x = none) (hb : bootBuiltins x = some (.builtin "len")) (hN : X.N[i]? = some y := by rfl)
    (hv : Vis X.env.scope y := by first | exact Or.inl rfl | exact Or.inr (Or.inl rfl) | exact Or.inr (Or.inr rfl)) (hd : (y == ("__debug__" : Str)) = false := by decide) (hcd : (y == ("__classdict__" : Str)) = false := by decide)
    (hn : x ≠ "__name__" := by decide) (hdb : (x == ("__debug__" : Str)) = false := by decide) (he : starEach [.Name y py] X.env = (false, eval (.Name y py) X.env) :: starEach [] X.env := by rfl) (hpl : (backTo pos (starEach [] X.env)).any (·.1) = false := by rfl) :
    SE X W E (.Call (.Name x p) [.Name y py] [] pos) (eLenO i) := by
  refine ⟨_, pe_callB call_len_seq hg hm hb (pa_cons (pe_var (i := i) hN hv hd hcd) pa_nil he) hn hdb he hpl, fun Φ H F ρ σ Q I h => ?_⟩
  unfold eLenO at h
  split at h
  · rename_i ds q
    obtain ⟨a, vs, ha, hH, _, rs, _⟩ := I.lset (N := fun _ => True) (ds' := []) q
    exact ⟨_, ha, a, vs, rfl, .inl (.of hH), h _ _ _ I (Ext.refl _ _) (by rw [relDs_len rs]; exact relD_int)⟩
  · exact h.elim
/-- x[e] -/
theorem se_ixO (i : Nat) {y : Str} {py : Pos} (he : SE X W E e ma) (hN : X.N[i]? = some y := by rfl)
    (hv : Vis X.env.scope y := by first | exact Or.inl rfl | exact Or.inr (Or.inl rfl) | exact Or.inr (Or.inr rfl)) (hd : (y == ("__debug__" : Str)) = false := by decide) (hcd : (y == ("__classdict__" : Str)) = false := by decide)
    (hs : PlainIx e := by exact fun _ _ => rfl) : SE X W E (.Subscript (.Name y py) e pos) (eIxO i ma) := by
  obtain ⟨t, pp, k⟩ := he
  refine ⟨_, pe_ix ix_list (pe_var (i := i) hN hv hd hcd) pp hs, fun Φ H F ρ σ Q I h => ?_⟩
  unfold eIxO at h
  split at h
  · rename_i hw
    obtain ⟨ds, q⟩ := Option.isSome_iff_exists.mp hw
    obtain ⟨a, vs, ha, hH, _, _, _⟩ := I.lset (N := fun _ => True) (ds' := []) q
    refine ⟨_, ha, ?_⟩
    refine k _ _ _ _ _ _ I (h.bnd fun x ρ1 v H1 F1 _ I1 x1 r1 h1 => ?_)
    split at h1
    · rename_i ds1 q1
      cases x with
      | int z =>
        obtain ⟨a', vs1, ha', hH1, _, rs, _⟩ := I1.lset (N := fun _ => True) (ds' := []) q1
        rw [ha] at ha'; cases ha'
        obtain ⟨d, ed, h2⟩ := optR_post h1
        obtain ⟨u, h3, h4⟩ := atI_run rs ed
        exact ⟨a, vs1, z, u, rfl, relD_int_inv r1, .of hH1, h3, h2 _ _ _ I1 (Ext.refl _ _) h4⟩
      | _ => exact h1.elim
    · exact h1.elim
  · exact h.elim
/-- x[e] = value -/
theorem ss_setO (i : Nat) {y : Str} {py spos : Pos} {value : Expr} (hval : SE X W E value mv) (he : SE X W E e ma) (hN : X.N[i]? = some y := by rfl)
    (hv : Vis X.env.scope y := by first | exact Or.inl rfl | exact Or.inr (Or.inl rfl) | exact Or.inr (Or.inr rfl)) (hd : (y == ("__debug__" : Str)) = false := by decide) (hcd : (y == ("__classdict__" : Str)) = false := by decide)
    (ha : ∀ v, assign (.Subscript (.Name y py) e spos) X.env v = (do
      let ov ← holding [v] (eval (.Name y py) X.env)
      let iv ← holding [v, ov] (eval e X.env)
      standAt spos
      holding [v, ov, iv] (setItem ov iv v)
      release [v, ov, iv] []) := by intro _; rfl)
    (hs : swapsWithSole [.Subscript (.Name y py) e spos] value pos.line X.env = pure false := by rfl) (hw : swappedStores [.Subscript (.Name y py) e spos] value X.env = pure none := by rfl)
    (h1 : (assignEach [.Subscript (.Name y py) e spos] X.env).map (·.2) = [assign (.Subscript (.Name y py) e spos) X.env] := by rfl) : SS X W E (.Assign [.Subscript (.Name y py) e spos] value pos) (sSetO i mv ma) := by
  obtain ⟨tv, pv, kv⟩ := hval
  obtain ⟨t, pp, k⟩ := he
  refine ⟨_, ps_asg pv (pg_sub (pe_var (i := i) hN hv hd hcd) pp set_list ha) hs hw h1, fun Φ H F ρ σ D I h => ?_⟩
  refine kv _ _ _ _ _ _ I (PostS.bnd h fun d ρ1 v H1 F1 _ I1 x1 r1 h1 => ?_)
  have h2 : PostS W Φ E D (if (olAt i ρ1).isSome = true then bnd (ma ρ1) fun x ρ => match olAt i ρ with
    | some ds => (match x with
      | .int k => (match ixN' ds.length k with
        | some j => .ok none (ρ.set i (.ol (ds.set j d)))
        | none => .bad)
      | _ => .bad)
    | none => .bad else .bad) := h1
  clear h1
  split at h2
  · rename_i hw2
    obtain ⟨ds, q⟩ := Option.isSome_iff_exists.mp hw2
    obtain ⟨a, vs, ha, hH, _, _, _⟩ := I1.lset (N := fun _ => True) (ds' := []) q
    refine ⟨_, ha, ?_⟩
    refine k _ _ _ _ _ _ I1 (PostS.bnd h2 fun x ρ2 u H2 F2 _ I2 x2 r2 h3 => ?_)
    split at h3
    · rename_i ds1 q1
      cases x with
      | int z =>
        obtain ⟨a', vs1, ha', hH2, hA, rs, up⟩ := I2.lset (N := fun _ => True) (ds' := []) q1
        rw [ha] at ha'; cases ha'
        have h3 : PostS W Φ E D (match ixN' ds1.length z with
          | some j => .ok none (ρ2.set i (.ol (ds1.set j d)))
          | none => .bad) := h3
        cases ej : ixN' ds1.length z with
        | none => rw [ej] at h3; exact h3.elim
        | some j =>
          rw [ej] at h3
          obtain ⟨F3, I3, _⟩ := up (ds1.set j d) (vs1.set j v) fun A H' xt => relDs_set (rs.ext xt) ((r1.ext x2).ext xt)
          refine ⟨a, vs1, z, j, rfl, relD_int_inv r2, hH2, ?_, h3 _ _ _ I3⟩
          have ej : ixN ds1.length z = some j := ej
          rw [← relDs_len rs]; exact ej
      | _ => exact h3.elim
    · exact h3.elim
  · exact h2.elim
end
end Tr
/- Tr15 -/
/-! Tr, part 15: new instances; keywords. -/
namespace Tr
open PySem L2
section
variable {W : Wd} {Φ : Fx} {E : XK} {H : Hp} {F : List Addr} {ρ : Env} {σ : St} {Q : VK} {c : Nat}
/-- a new instance at x, as __init__ has it, and what it is behind that -/
theorem spF_make {xs : List D} {vs : List V} {f : Fn} {x dx : Addr} (I : RS W Φ H F ρ σ) (r : RelDs W (own Φ.O F) H xs vs) (hx : H x = none) (hdx : H dx = none) (ne : dx ≠ x) (h : PostE W Φ E σ (own Φ.O F) H Q (ofMake ρ (f (.oi c [] :: xs.map .val)))) :
    spF W f (.ref x :: vs) (upd (upd H dx (.own x)) x (.ins (W.Ca c) dx [])) (fun v H2 => v = .non ∧ Q (.ref x) H2) E := by
  have tk := I.tk
  have oldH : ∀ b o, H b = some o → upd (upd H dx (.own x)) x (.ins (W.Ca c) dx []) b = some o := fun b o q => by
    rw [upd_ne (ne_of_none q hx), upd_ne (ne_of_none q hdx)]; exact q
  -- the places
  let Fp : List Addr := if W.sl c = true then [x, dx] else [x]
  have inFp : ∀ b ∈ Fp, H b = none := fun b hb => by
    have hb : b ∈ (if W.sl c = true then [x, dx] else [x]) := hb
    split at hb
    · rcases List.mem_cons.mp hb with z | z
      · rw [z]; exact hx
      · rw [List.mem_singleton.mp z]; exact hdx
    · rw [List.mem_singleton.mp hb]; exact hx
  have nFp : Fp.Nodup := by
    show (if W.sl c = true then [x, dx] else [x]).Nodup
    split
    · simp [Ne.symm ne]
    · simp
  have hoi : OwnI W (upd (upd H dx (.own x)) x (.ins (W.Ca c) dx [])) c x [] Fp := by
    unfold OwnI
    cases es : W.sl c with
    | false =>
      refine ⟨dx, [], by show (if W.sl c = true then _ else _) = _; rw [es]; rfl, rfl, Nat.zero_le _, ?_⟩
      rw [upd_same, List.zip_nil_right]
    | true =>
      refine ⟨dx, by show (if W.sl c = true then _ else _) = _; rw [es]; rfl, ne, .inl ⟨rfl, upd_same, ?_⟩⟩
      rw [upd_ne ne, upd_same]
  have xt : Ext (own Φ.O F) H (own (own Φ.O F) Fp) (upd (upd H dx (.own x)) x (.ins (W.Ca c) dx [])) := fun b o q z => ⟨oldH b o q, fun w => by
    rcases w with w | w
    · exact z w
    · rw [inFp b w] at q; cases q⟩
  refine ⟨own Φ.O F, Fp, .oi c [] :: xs.map .val, ⟨some (.ref x), vs.map some, Fp, [], rfl, by simp, ⟨x, [], Fp, [], by simp, rfl, hoi, rfl, rfl⟩, (sl_vals r).ext xt fun _ m => nomatch m⟩, nFp,
    fun b ob => (tk b ob).imp fun o q => oldH b o q, fun b m ob => tk.free (inFp b m) ob, ?_⟩
  have back : ∀ (H' : Hp) (F' : List Addr), (∀ a o, upd (upd H dx (.own x)) x (.ins (W.Ca c) dx []) a = some o → a ∉ Fp → H' a = some o) → RS W Φ H' F ρ σ ∧ Ext (own Φ.O F) H (own Φ.O F) H' := fun H' F' k =>
    I.same fun b o q => k b o (oldH b o q) fun m => by rw [inFp b m] at q; cases q
  cases ef : f (.oi c [] :: xs.map .val) with
  | ok d out =>
    rw [ef] at h
    cases d with
    | non =>
      cases out with
      | oi c' fs =>
        have h : PostE W Φ E σ (own Φ.O F) H Q (optR ((fs.mapM frz1).map (.obj c')) ρ) := h
        intro v H' F' k kF nd so rd
        obtain ⟨I', x'⟩ := back H' F' k
        unfold RelD at rd
        refine ⟨rd, ?_⟩
        cases em : fs.mapM frz1 with
        | none => rw [em] at h; exact h.elim
        | some ds =>
          rw [em] at h
          obtain ⟨y, ey, ry⟩ := frz_oi (A' := own Φ.O F) so em (fun a z => .inl z) fun a m z => by
            rcases kF a m with w | w
            · exact tk.free (inFp a w) z
            · obtain ⟨o, q⟩ := tk a z
              rw [oldH a o q] at w; cases w
          cases ey
          exact h _ H' F I' x' ry
      | _ => exact h.elim
    | _ => exact h.elim
  | exc c' d out =>
    rw [ef] at h
    intro dx' v H' F' k kF nd so hq rd
    obtain ⟨I', x'⟩ := back H' F' k
    exact h dx' v H' F I' hq (rd.ext (ext_sub fun a z => .inl z))
  | bad => rw [ef] at h; exact h.elim
end
/-- by positional values and keywords' values, those behind these -/
def FnK (P : Program) (w : World) (K : PySem.W.Frag) (mg : Str → Option Value) (base : Heap) (CX : CXT) (k : Nat) (f : Addr) (n : Nat) (ks : List Str) (sp : Sp) : Prop :=
  ∀ (A : Around) (outer : List PySem.Env) (s : Shared) (H : Hp) (us ws : List Value) (vs zs : List V) (Q : VK) (E : XK), RoomG k A → Env0 P w K mg base A outer s H → Vals vs us → Vals zs ws → vs.length = n → zs.length = ks.length → sp (vs ++ zs) H Q E →
    codeAny (model P w) A (.call (.ref f) ⟨us, ks.zip ws⟩) (CR CX outer P w H s Q E) s
section
variable (P : Program) (w : World) (K : PySem.W.Frag) (mg : Str → Option Value) (base : Heap) (W : Wd)
/-- class c is made by n positional values and keywords ks -/
structure IDK (k c : Nat) (x : Str) (n : Nat) (ks : List Str) (f : Fn) : Prop where
  ex : ∃ fa, mg x = some (.ref (W.Ca c)) ∧ Mk K (W.Ca c) fa ∧ FnK P w K mg base (L2.CX P w) k fa (n + 1) ks (spF W f)
/-- a method of class c, by n positional values behind self and keywords ks -/
structure MDK (k c : Nat) (m : Str) (n : Nat) (ks : List Str) (f : Fn) : Prop where
  cd : CD K W c
  an : m ∉ W.an c
  ex : ∃ fa, Meth K (W.Ca c) m fa ∧ FnK P w K mg base (L2.CX P w) k fa (n + 1) ks (spF W f)
end
theorem FnK.of {P : Program} {w : World} {K : PySem.W.Frag} {mg : Str → Option Value} {base : Heap} {CX : CXT} {k : Nat} {f : Addr} {fd : FuncData} {ps ks : List Str} {n : Nat} {sp : Sp} (F : FnB P w K mg base CX k f fd ps sp) (hb : KBn K fd ps n ks (· ++ ·) (· ++ ·)) : FnK P w K mg base CX k f n ks sp := by
  intro A outer s H us ws vs zs Q E hr e0 r rz l1 l2 h
  exact F.run A outer s H ⟨us, ks.zip ws⟩ (us ++ ws) (vs ++ zs) Q E hr e0 (hb.to s us ws (e0.mod.kin.keeps fun b o e => (e0.bs b o e).1) (r.length.symm.trans l1) (rz.length.symm.trans l2)) (r.append rz) h
section
variable {X : Cx} {W : Wd} {E : XK} {e o : Expr} {es : List Expr} {kws : List Keyword} {ma mo : EM} {ml mk : LM} {pos p apos kpos : Pos} {k c n : Nat} {f : Fn} {x m : Str} {ks : List Str}
structure SKw (X : Cx) (W : Wd) (E : XK) (kws : List Keyword) (m : LM) : Prop where
  ex : ∃ t, PK X kws t ∧ ∀ (Φ : Fx) (H : Hp) (F : List Addr) (ρ : Env) (σ : St) (Q : List V → Hp → Prop), RS W Φ H F ρ σ → PostL W Φ E σ (own Φ.O F) H Q (m ρ) → t σ H Q
theorem sk_one {nm : Option Str} (he : SE X W E e ma) : SKw X W E [⟨nm, e, kpos⟩] (lCons ma lNil) := by
  obtain ⟨t, pp, kk⟩ := he
  refine ⟨_, pk_cons pp pk_nil, fun Φ H F ρ σ Q I h => ?_⟩
  refine kk _ _ _ _ _ _ I (h.bnd fun d ρ1 v H1 F1 _ I1 x1 r1 h1 => ?_)
  exact h1 _ _ _ I1 (Ext.refl _ _) (relDs_one r1)
def tMk (C : Addr) (sp : Sp) (E : XK) (t : TA) : TE := fun σ H Q => t σ H fun vs H1 => ∀ x dx, H1 x = none → H1 dx = none → dx ≠ x → sp (.ref x :: vs) (upd (upd H1 dx (.own x)) x (.ins C dx [])) (fun v H2 => v = .non ∧ Q (.ref x) H2) E
theorem pe_mk {C fa : Addr} {sp : Sp} {t : TA} (M : Mk X.K C fa) (F : FnQ X.prog X.w X.K X.mg X.base (L2.CX X.prog X.w) k fa sp) (hr : RoomG (k + 1) X.A) (hg : Gl X x) (hm : X.mg x = some (.ref C)) (hx : Passes (L2.CX X.prog X.w) X E) (ha : PA X (e :: es) t)
    (hdb : (x == ("__debug__" : Str)) = false := by decide) (he : starEach (e :: es) X.env = (false, eval e X.env) :: starEach es X.env := by rfl) (hpl : (backTo pos (starEach es X.env)).any (·.1) = false := by rfl) : PE X (.Call (.Name x p) (e :: es) [] pos) (tMk C sp E t) := by
  refine ⟨fun pins s σ H Q I h => ?_⟩
  refine wpAny_Call_Name_kw (ld_glob I hg hm ?_ hdb)
  refine PySem.W.callWith_K (h₀ := X.base) I.ok.mod.kin M.kp (thn (ha.run pos pins s σ H _ I h) fun us s1 ⟨vs, H1, I1, r, q⟩ => ⟨I1.kIn, ?_⟩) he hpl
  have hq := q (s1.heap.objs.size + 1) s1.heap.objs.size (I1.hok.fresh (Nat.le_succ _)) (I1.hok.fresh (Nat.le_refl _)) (Nat.ne_of_lt (Nat.lt_succ_self _))
  have I2 := Inv.made (C := C) I1
  have r2 : Vals (V.ref (s1.heap.objs.size + 1) :: vs) (Value.ref (s1.heap.objs.size + 1) :: us) := .cons rfl r
  refine wpAny_call (make_map (f := fa) I1.kIn M.makes M.init (beq_iff_eq.mp M.fn) (codeAny_mono (F _ X.stack _ _ (Value.ref (s1.heap.objs.size + 1) :: us) _ _ E (hr.make C us []) (I2.env0.make C us []) r2 hq) fun r s' hq' => ?_))
  cases r with
  | error e => exact hx pins σ _ _ e s' I2 hq'
  | ok fl =>
    cases fl with
    | ret u =>
      obtain ⟨v, H', I3, rv, ev, q3⟩ := I2.after hq'
      subst ev
      exact ⟨rv, ⟨V.ref (s1.heap.objs.size + 1), H', I3, rfl, q3⟩⟩
    | next => exact False.elim hq'
    | brk => exact False.elim hq'
    | cont => exact False.elim hq'
/-- C(e, ..) -/
theorem se_make (G : ID X.prog X.w X.K X.mg X.base W k c x f) (hr : RoomG (k + 1) X.A) (hx : Passes (L2.CX X.prog X.w) X E) (hg : Gl X x) (hl : SA X W E (e :: es) ml)
    (hdb : (x == ("__debug__" : Str)) = false := by decide) (he : starEach (e :: es) X.env = (false, eval e X.env) :: starEach es X.env := by rfl) (hpl : (backTo pos (starEach es X.env)).any (·.1) = false := by rfl) :
    SE X W E (.Call (.Name x p) (e :: es) [] pos) (eMake c f ml) := by
  obtain ⟨fa, hm, M, F⟩ := G
  obtain ⟨tl, pl, kl⟩ := hl
  refine ⟨_, pe_mk M F hr hg hm hx pl hdb he hpl, fun Φ H F ρ σ Q I h => ?_⟩
  refine kl _ _ _ _ _ _ I (h.bnd fun xs ρ1 vs H1 F1 _ I1 x1 r1 h1 => ?_)
  intro x dx q1 q2 ne
  exact spF_make I1 r1 q1 q2 ne h1
def tMkK (C : Addr) (n m : Nat) (sp : Sp) (E : XK) (t tk : TA) : TE := fun σ H Q => t σ H fun vs H1 => tk σ H1 fun zs H2 => vs.length = n ∧ zs.length = m ∧ ∀ x dx, H2 x = none → H2 dx = none → dx ≠ x →
  sp (.ref x :: (vs ++ zs)) (upd (upd H2 dx (.own x)) x (.ins C dx [])) (fun v H3 => v = .non ∧ Q (.ref x) H3) E
theorem run_mkK {C fa : Addr} {sp : Sp} {pins : List (Addr × Obj)} {σ : St} {H : Hp} {s : Shared} {Q : VK} {us ws : List Value} {vs zs : List V} (M : Mk X.K C fa) (F : FnK X.prog X.w X.K X.mg X.base (L2.CX X.prog X.w) k fa (n + 1) ks sp) (hr : RoomG (k + 1) X.A) (hx : Passes (L2.CX X.prog X.w) X E)
    (I : Inv X pins σ H s) (r : Vals vs us) (rz : Vals zs ws) (l1 : vs.length = n) (l2 : zs.length = ks.length)
    (h : ∀ x dx, H x = none → H dx = none → dx ≠ x → sp (.ref x :: (vs ++ zs)) (upd (upd H dx (.own x)) x (.ins C dx [])) (fun v H2 => v = .non ∧ Q (.ref x) H2) E) :
    wpAny (model X.prog X.w) X.A (call (.ref C) us (ks.zip ws)) (EP X pins σ Q) X.xe s := by
  have hq := h (s.heap.objs.size + 1) s.heap.objs.size (I.hok.fresh (Nat.le_succ _)) (I.hok.fresh (Nat.le_refl _)) (Nat.ne_of_lt (Nat.lt_succ_self _))
  have I2 := Inv.made (C := C) I
  have r1 : Vals (V.ref (s.heap.objs.size + 1) :: vs) (Value.ref (s.heap.objs.size + 1) :: us) := .cons rfl r
  refine wpAny_call (make_map (f := fa) I.kIn M.makes M.init (beq_iff_eq.mp M.fn) (codeAny_mono (F _ X.stack _ _ (Value.ref (s.heap.objs.size + 1) :: us) ws (V.ref (s.heap.objs.size + 1) :: vs) zs _ E (hr.make C us (ks.zip ws))
    (I2.env0.make C us (ks.zip ws)) r1 rz (by rw [List.length_cons, l1]) l2 hq) fun r s' hq' => ?_))
  cases r with
  | error e => exact hx pins σ _ _ e s' I2 hq'
  | ok fl =>
    cases fl with
    | ret u =>
      obtain ⟨v, H', I3, rv, ev, q3⟩ := I2.after hq'
      subst ev
      exact ⟨rv, ⟨V.ref (s.heap.objs.size + 1), H', I3, rfl, q3⟩⟩
    | next => exact False.elim hq'
    | brk => exact False.elim hq'
    | cont => exact False.elim hq'
theorem pe_mkK {C fa : Addr} {sp : Sp} {t tk : TA} (M : Mk X.K C fa) (F : FnK X.prog X.w X.K X.mg X.base (L2.CX X.prog X.w) k fa (n + 1) ks sp) (hr : RoomG (k + 1) X.A) (hg : Gl X x) (hm : X.mg x = some (.ref C)) (hx : Passes (L2.CX X.prog X.w) X E) (ha : PA X (e :: es) t) (hkw : PK X kws tk)
    (hall : (backToKw pos (keywordEach kws X.env)).all (·.1.isSome) = true := by rfl) (hks : (backToKw pos (keywordEach kws X.env)).filterMap (·.1) = ks := by rfl) (hdb : (x == ("__debug__" : Str)) = false := by decide)
    (he : starEach (e :: es) X.env = (false, eval e X.env) :: starEach es X.env := by rfl) (hpl : ((backTo pos (starEach (e :: es) X.env)).any (·.1) || (backToKw pos (keywordEach kws X.env)).any (·.1.isNone)) = false := by rfl) :
    PE X (.Call (.Name x p) (e :: es) kws pos) (tMkK C n ks.length sp E t tk) := by
  refine ⟨fun pins s σ H Q I h => ?_⟩
  refine wpAny_Call_Name_kw (ld_glob I hg hm ?_ hdb)
  refine PySem.W.callWith_KW (h₀ := X.base) I.ok.mod.kin M.kp hall (thn (ha.run pos pins s σ H _ I h) fun us s1 ⟨vs, H1, I1, r, q⟩ => ?_) hpl he
  refine thn (hkw.run pos pins s1 σ H1 _ I1 q) fun ws s2 ⟨zs, H2, I2, rz, l1, l2, q2⟩ => ⟨I2.kIn, ?_⟩
  rw [hks]
  exact run_mkK M F hr hx I2 r rz l1 l2 q2
/-- C(e, .., k = v, ..) -/
theorem se_makeK (G : IDK X.prog X.w X.K X.mg X.base W k c x n ks f) (hr : RoomG (k + 1) X.A) (hx : Passes (L2.CX X.prog X.w) X E) (hg : Gl X x) (hl : SA X W E (e :: es) ml) (hkw : SKw X W E kws mk)
    (hall : (backToKw pos (keywordEach kws X.env)).all (·.1.isSome) = true := by rfl) (hks : (backToKw pos (keywordEach kws X.env)).filterMap (·.1) = ks := by rfl) (hdb : (x == ("__debug__" : Str)) = false := by decide)
    (he : starEach (e :: es) X.env = (false, eval e X.env) :: starEach es X.env := by rfl) (hpl : ((backTo pos (starEach (e :: es) X.env)).any (·.1) || (backToKw pos (keywordEach kws X.env)).any (·.1.isNone)) = false := by rfl) :
    SE X W E (.Call (.Name x p) (e :: es) kws pos) (eMake c f (lApp (lNum n ml) (lNum ks.length mk))) := by
  obtain ⟨fa, hm, M, F⟩ := G
  obtain ⟨tl, pl, kl⟩ := hl
  obtain ⟨tk, pk, kk⟩ := hkw
  refine ⟨_, pe_mkK M F hr hg hm hx pl pk hall hks hdb he hpl, fun Φ H F ρ σ Q I h => ?_⟩
  have h : PostE W Φ E σ (own Φ.O F) H Q (bnd (bnd (bnd (ml ρ) fun xs ρ => if xs.length = n then .ok xs ρ else .bad) fun xs ρ => bnd (bnd (mk ρ) fun xs ρ => if xs.length = ks.length then .ok xs ρ else .bad) fun ys ρ => .ok (xs ++ ys) ρ) fun xs ρ => ofMake ρ (f (.oi c [] :: xs.map .val))) := h
  rw [bnd_assoc, bnd_assoc] at h
  refine kl _ _ _ _ _ _ I (h.bnd fun xs ρ1 vs H1 F1 _ I1 x1 r1 h1 => ?_)
  split at h1
  · rename_i hn
    simp only [bnd_ok] at h1
    rw [bnd_assoc, bnd_assoc] at h1
    refine kk _ _ _ _ _ _ I1 (h1.bnd fun ys ρ2 zs H2 F2 _ I2 x2 r2 h2 => ?_)
    split at h2
    · rename_i hm
      simp only [bnd_ok] at h2
      refine ⟨by rw [← relDs_len r1]; exact hn, by rw [← relDs_len r2]; exact hm, fun x dx q1 q2 ne => ?_⟩
      exact spF_make I2 (relDs_app (r1.ext x2) r2) q1 q2 ne h2
    · exact h2.elim
  · exact h1.elim
/-- o.m(k = v, ..), o.m(e, .., k = v, ..), o one's own in slot i -/
def tMdK (W : Wd) (c n m : Nat) (sp : Sp) (E : XK) (ta : TE) (t tk : TA) : TE := fun σ H Q => ta σ H fun x H1 => ∃ a, x = .ref a ∧ Is W H1 c a ∧ t σ H1 fun vs H2 => tk σ H2 fun zs H3 => vs.length = n ∧ zs.length = m ∧ sp (x :: (vs ++ zs)) H3 Q E
theorem run_fnKE {A : Around} {g : Addr} {sp : Sp} {pins : List (Addr × Obj)} {σ : St} {H : Hp} {s : Shared} {Q : VK} {us ws : List Value} {vs zs : List V} (F : FnK X.prog X.w X.K X.mg X.base (L2.CX X.prog X.w) k g n ks sp) (hr : RoomG k A) (hA : A.frames = some X.stack) (hx : Passes (L2.CX X.prog X.w) X E) (I : Inv X pins σ H s) (r : Vals vs us) (rz : Vals zs ws)
    (l1 : vs.length = n) (l2 : zs.length = ks.length) (h : sp (vs ++ zs) H Q E) : wpAny (model X.prog X.w) A (call (.ref g) us (ks.zip ws)) (EP X pins σ Q) X.xe s := by
  have e0 := I.env0
  refine wpAny_call (codeAny_mono (F A X.stack s H us ws vs zs Q E hr ⟨hA, e0.mod, e0.bs, e0.bsz, e0.funs, e0.frf, e0.hok, e0.bare⟩ r rz l1 l2 h) fun r s' hq => ?_)
  cases r with
  | error e => exact hx pins σ H s e s' I hq
  | ok fl =>
    cases fl with
    | ret u => exact I.after hq
    | next => exact False.elim hq
    | brk => exact False.elim hq
    | cont => exact False.elim hq
theorem pe_mdK0 {g : Addr} {sp : Sp} {ta : TE} {tk : TA} {pl : Sem Bool} (he : PE X o ta) (C : CD X.K W c) (hm : Meth X.K (W.Ca c) m g) (hn : m ∉ W.an c) (F : FnK X.prog X.w X.K X.mg X.base (L2.CX X.prog X.w) k g 1 ks sp) (hr : RoomG k X.A) (hx : Passes (L2.CX X.prog X.w) X E) (hkw : PK X kws tk)
    (hall : (backToKw pos (keywordEach kws X.env)).all (·.1.isSome) = true := by rfl) (hks : (backToKw pos (keywordEach kws X.env)).filterMap (·.1) = ks := by rfl)
    (hpl : ((backTo pos (starEach [] X.env)).any (·.1) || (backToKw pos (keywordEach kws X.env)).any (·.1.isNone)) = false := by rfl)
    (ht : eval (.Call (.Attribute o m apos) [] kws pos) X.env = (do
      let ov ← eval o X.env
      standAt apos.atName
      let (f, first) ← holding [ov] (getMethod ov m pl)
      callWith pos f first (backTo pos (starEach [] X.env)) (backToKw pos (keywordEach kws X.env))) := by rfl) :
    PE X (.Call (.Attribute o m apos) [] kws pos) (tMdK W c 0 ks.length sp E ta tNil tk) := by
  refine ⟨fun pins s σ H Q I h => ?_⟩
  refine PySem.W.methodCall_KW (pl := pl) (thn (he.run pins s σ H _ I h) fun u s1 ⟨x, H1, I1, rx, a, ex, ea, q⟩ => ?_) ht
  subst ex
  obtain rfl : u = Value.ref a := rx
  refine getm_ok I1 ea C hm hn ?_
  refine PySem.W.callWith_KW0 (first := [.ref a]) (h₀ := X.base) I.ok.mod.kin hm.kp hall ?_ hpl
  refine thn (hkw.run pos pins s1 σ H1 _ I1 q) fun ws s2 ⟨zs, H2, I2, rz, l1, l2, q2⟩ => ⟨I2.kIn, ?_⟩
  rw [hks]
  exact run_fnKE (us := [.ref a]) (vs := [.ref a]) F hr I2.ok.frames hx I2 (.cons rfl .nil) rz rfl l2 q2
theorem se_methOK0 (i : Nat) {y : Str} {py : Pos} {pl : Sem Bool} (G : MDK X.prog X.w X.K X.mg X.base W k c m 0 ks f) (hr : RoomG k X.A) (hx : Passes (L2.CX X.prog X.w) X E) (hkw : SKw X W E kws mk) (hN : X.N[i]? = some y := by rfl)
    (hv : Vis X.env.scope y := by first | exact Or.inl rfl | exact Or.inr (Or.inl rfl) | exact Or.inr (Or.inr rfl)) (hd : (y == ("__debug__" : Str)) = false := by decide) (hcd : (y == ("__classdict__" : Str)) = false := by decide)
    (hall : (backToKw pos (keywordEach kws X.env)).all (·.1.isSome) = true := by rfl) (hks : (backToKw pos (keywordEach kws X.env)).filterMap (·.1) = ks := by rfl)
    (hpl : ((backTo pos (starEach [] X.env)).any (·.1) || (backToKw pos (keywordEach kws X.env)).any (·.1.isNone)) = false := by rfl)
    (ht : eval (.Call (.Attribute (.Name y py) m apos) [] kws pos) X.env = (do
      let ov ← eval (.Name y py) X.env
      standAt apos.atName
      let (f, first) ← holding [ov] (getMethod ov m pl)
      callWith pos f first (backTo pos (starEach [] X.env)) (backToKw pos (keywordEach kws X.env))) := by rfl) :
    SE X W E (.Call (.Attribute (.Name y py) m apos) [] kws pos) (eMethO c f i (lNum ks.length mk)) := by
  obtain ⟨cd, an, fa, hm, F⟩ := G
  obtain ⟨tk, pk, kk⟩ := hkw
  refine ⟨_, pe_mdK0 (pe_var (i := i) hN hv hd hcd) cd hm an F hr hx pk hall hks hpl ht, fun Φ H F ρ σ Q I h => ?_⟩
  have h : PostE W Φ E σ (own Φ.O F) H Q (if oiAt c i ρ = true then bnd (bnd (mk ρ) fun xs ρ => if xs.length = ks.length then .ok xs ρ else .bad) fun xs ρ => callO f i ρ xs else .bad) := h
  split at h
  · rename_i hw
    obtain ⟨fs, q0⟩ := oiAt_inv hw
    obtain ⟨a, ha, hi⟩ := own_name I q0 rfl
    rw [bnd_assoc] at h
    refine ⟨_, ha, a, rfl, hi _ _ rfl, ?_⟩
    refine kk _ _ _ _ _ _ I (h.bnd fun xs ρ1 vs H1 F1 _ I1 x1 r1 h1 => ?_)
    split at h1
    · rename_i hm
      refine ⟨rfl, by rw [← relDs_len r1]; exact hm, callO_run I1 ha r1 h1⟩
    · exact h1.elim
  · exact h.elim
end
end Tr
/- Tr16 -/
/-! Tr, part 16: comprehensions. -/
namespace Tr
open PySem L2
/-! ### readings that are the same for each block -/
def tM (W : Wd) (E : XK) (m : EM) : TE := fun σ H Q => ∃ (Φ : Fx) (F : List Addr) (ρ : Env), RS W Φ H F ρ σ ∧ PostE W Φ E σ (own Φ.O F) H Q (m ρ)
def tTM (W : Wd) (E : XK) (m : TM) : TT := fun σ H Q => ∃ (Φ : Fx) (F : List Addr) (ρ : Env), RS W Φ H F ρ σ ∧ PostT W Φ E σ (own Φ.O F) H Q (m ρ)
def tGM (W : Wd) (is : List Nat) (m : GM) : TG := fun v σ H N => ∃ (Φ : Fx) (F : List Addr) (ρ ρ' : Env) (d : D), RS W Φ H F ρ σ ∧ RelD W (own Φ.O F) H d v ∧ m d ρ = some ρ' ∧ ∀ σ' F', RS W Φ H F' ρ' σ' → Ext (own Φ.O F) H (own Φ.O F') H → Fr is σ σ' → N σ' H
section
variable {X : Cx} {W : Wd} {E : XK} {e : Expr} {m : EM} {mt : TM} {mg : GM} {is : List Nat}
theorem SE.can (h : SE X W E e m) : PE X e (tM W E m) := by
  obtain ⟨t, p, k⟩ := h
  exact ⟨fun pins s σ H Q I ⟨Φ, F, ρ, I', q⟩ => p.run pins s σ H Q I (k Φ H F ρ σ Q I' q)⟩
theorem ST.can (h : ST X W E e mt) : PT X e (tTM W E mt) := by
  obtain ⟨t, p, k⟩ := h
  exact ⟨fun pins s σ H Q I ⟨Φ, F, ρ, I', q⟩ => p.run pins s σ H Q I (k Φ H F ρ σ Q I' q)⟩
theorem SG.can (h : SG X W e is mg) : PG X e (tGM W is mg) := by
  obtain ⟨t, p, k⟩ := h
  exact ⟨fun pins s σ H v u Q I r ⟨Φ, F, ρ, ρ', d, I', rd, em, q⟩ => p.run pins s σ H v u Q I r (k Φ H F ρ ρ' σ Q d v I' rd em q)⟩
/-- a clause's tests -/
structure STs (X : Cx) (W : Wd) (E : XK) (ifs : List Expr) (m : TM) : Prop where
  ex : PTs X ifs (tTM W E m)
theorem sts_nil : STs X W E [] tYesM := ⟨⟨fun pins s σ H Q I ⟨Φ, F, ρ, I', q⟩ => pts_nil.run pins s σ H Q I (q true H F I' (Ext.refl _ _) rfl)⟩⟩
theorem sts_one (h : ST X W E e mt) : STs X W E [e] mt := ⟨pts_one h.can⟩
end
/-! ### iterators -/
/-- J hands out the trees ds, as long as what is not one's own stays -/
def ItD (W : Wd) (J : It) (A : Addr → Prop) (H0 : Hp) (ds : List D) : Prop := ∀ (A' : Addr → Prop) (H : Hp) (i : Nat), Ext A H0 A' H → Tk A' H →
  (∀ d, ds[i]? = some d → J.go i H ∧ ∀ x H', J.yld i H x H' → Same H H' ∧ RelD W A' H' d x) ∧ (i = ds.length → J.stop i H)
def PostI (W : Wd) (Φ : Fx) (E : XK) (σ : St) (B : Addr → Prop) (H : Hp) (R : It → Hp → Prop) : Tr.R (List D) → Prop
  | .ok ds ρ' => ∀ J H' F', RS W Φ H' F' ρ' σ → Ext B H (own Φ.O F') H' → ItD W J (own Φ.O F') H' ds → R J H'
  | .exc c d ρ' => ∀ dx v H' F', RS W Φ H' F' ρ' σ → H' dx = some (.xd [("value", v)]) → RelD W (own Φ.O F') H' d v → E (.ref (W.Ca c)) (some dx) H'
  | .bad => False
/-- Pre: what is known ahead -/
abbrev PreT := Fx → Hp → List Addr → Env → St → Prop
abbrev noPre : PreT := fun _ _ _ _ _ => True
structure SIp (X : Cx) (W : Wd) (E : XK) (tg iter : Expr) (m : LM) (Pre : PreT) : Prop where
  ex : ∃ wi, PI X tg iter wi ∧ ∀ (Φ : Fx) (H : Hp) (F : List Addr) (ρ : Env) (σ : St) (R : It → Hp → Prop), RS W Φ H F ρ σ → Pre Φ H F ρ σ → PostI W Φ E σ (own Φ.O F) H R (m ρ) → wi σ H R
abbrev SI (X : Cx) (W : Wd) (E : XK) (tg iter : Expr) (m : LM) : Prop := SIp X W E tg iter m noPre
structure SNp (X : Cx) (W : Wd) (E : XK) (e : Expr) (m : LM) (Pre : PreT) : Prop where
  ex : ∃ t, PE X e t ∧ ∀ (Φ : Fx) (H : Hp) (F : List Addr) (ρ : Env) (σ : St) (Q : VK), RS W Φ H F ρ σ → Pre Φ H F ρ σ → PostN W Φ E σ (own Φ.O F) H Q (m ρ) → t σ H Q
section
variable {X : Cx} {W : Wd} {E : XK} {e tg : Expr} {ma : EM}
def iOr (a b : TI) : TI := fun σ H R => a σ H R ∨ b σ H R
theorem pi_or {a b : TI} (h1 : PI X tg e a) (h2 : PI X tg e b) : PI X tg e (iOr a b) := ⟨fun pins s σ H R I h => h.elim (h1.run pins s σ H R I) (h2.run pins s σ H R I)⟩
theorem itd_list {A : Addr → Prop} {H : Hp} {K : PySem.W.Frag} {ds : List D} {vs : List V} {a : Addr} (n : ¬ A a) (h : Rd H a (.lst vs)) (r : RelDs W A H ds vs) : ItD W (Itl K a) A H ds := fun A' H' i x t => by
  obtain ⟨h', n'⟩ := x.rd n h
  have r' := r.ext x
  have sq : SqL K H' a vs := .inl h'
  refine ⟨fun d hd => ?_, fun hi => ?_⟩
  · obtain ⟨v, hv, rv⟩ := relDs_at r' hd
    refine ⟨⟨vs, v, sq, hv⟩, fun y H2 ⟨e2, y2⟩ => ?_⟩
    subst e2
    have := y2 vs sq
    rw [hv] at this; cases this
    exact ⟨Same.refl _, rv⟩
  · exact ⟨vs, sq, by rw [hi, relDs_len r]; exact Nat.le_refl _⟩
theorem itd_tup {A : Addr → Prop} {H : Hp} {K : PySem.W.Frag} {ds : List D} {vs : List V} {a : Addr} (n : ¬ A a) (h : H a = some (.tup vs)) (r : RelDs W A H ds vs) : ItD W (Itt K a) A H ds := fun A' H' i x t => by
  obtain ⟨h', n'⟩ := x a _ h n
  have r' := r.ext x
  have sq : SqT K H' a vs := .of h'
  refine ⟨fun d hd => ?_, fun hi => ?_⟩
  · obtain ⟨v, hv, rv⟩ := relDs_at r' hd
    refine ⟨⟨vs, v, sq, hv⟩, fun y H2 ⟨e2, y2⟩ => ?_⟩
    subst e2
    have := y2 vs sq
    rw [hv] at this; cases this
    exact ⟨Same.refl _, rv⟩
  · exact ⟨vs, sq, by rw [hi, relDs_len r]; exact Nat.le_refl _⟩
theorem itd_str {A : Addr → Prop} {H : Hp} {z : Str} : ItD W (Its z) A H (z.cps.toList.map fun c => .str ⟨#[c]⟩) := fun A' H' i x t => by
  refine ⟨fun d hd => ?_, fun hi => ?_⟩
  · rw [List.getElem?_map] at hd
    obtain ⟨c, hc, rfl⟩ := Option.map_eq_some_iff.mp hd
    have hc' : z.cps[i]? = some c := (Array.getElem?_toList ..).symm.trans hc
    refine ⟨(Array.getElem?_eq_some_iff.mp hc').1, fun y H2 ⟨e2, c2, y2, y3⟩ => ?_⟩
    subst e2
    rw [hc'] at y2; cases y2
    subst y3
    exact ⟨Same.refl _, relD_str⟩
  · rw [hi, List.length_map]
    exact Nat.le_of_eq Array.length_toList.symm
theorem si_seq (h : SE X W E e ma) : SI X W E tg e (lItems ma) := by
  obtain ⟨t, p, k⟩ := h
  refine ⟨_, pi_or (pi_list p) (pi_or (pi_tup p) (pi_str p)), fun Φ H F ρ σ R I _ h => ?_⟩
  unfold lItems at h
  cases em : ma ρ with
  | ok x ρ1 =>
    rw [em] at h
    cases x with
    | lst ds =>
      refine .inl (k Φ H F ρ σ _ I ?_)
      rw [em]
      intro v H1 F1 I1 x1 r1
      obtain ⟨a, vs, rfl, n, ha, rs⟩ := relD_lst_inv r1
      exact ⟨a, rfl, ⟨vs, .inl ha⟩, h _ H1 F1 I1 x1 (itd_list n ha rs)⟩
    | tup ds =>
      refine .inr (.inl (k Φ H F ρ σ _ I ?_))
      rw [em]
      intro v H1 F1 I1 x1 r1
      obtain ⟨a, vs, rfl, n, ha, rs⟩ := relD_tup_inv r1
      exact ⟨a, rfl, ⟨vs, .of ha⟩, h _ H1 F1 I1 x1 (itd_tup n ha rs)⟩
    | str z =>
      refine .inr (.inr (k Φ H F ρ σ _ I ?_))
      rw [em]
      intro v H1 F1 I1 x1 r1
      exact ⟨z, relD_str_inv r1, h _ H1 F1 I1 x1 itd_str⟩
    | _ => exact h.elim
  | exc c d ρ1 =>
    refine .inl (k Φ H F ρ σ _ I ?_)
    rw [em] at h ⊢
    exact h
  | bad => rw [em] at h; exact h.elim
end
/-! ### slots forgotten -/
section
variable {W : Wd} {Φ : Fx} {H : Hp} {F : List Addr} {ρ : Env} {σ : St}
theorem RS.forget (I : RS W Φ H F ρ σ) (i : Nat) : ∃ F', RS W Φ H F' (ρ.set i .no) (σ.set i none) ∧ Ext (own Φ.O F) H (own Φ.O F') H := by
  by_cases hi : i < ρ.length
  · obtain ⟨v, F1, Fi, F2, e1, eF, hsl, up⟩ := I.upd (List.getElem?_eq_getElem hi)
    obtain ⟨I', x'⟩ := up H .no none [] (fun _ _ q _ => q) (fun _ m => nomatch m) List.nodup_nil (fun _ z => nomatch z) rfl
    exact ⟨_, I', x'⟩
  · have hl := I.sl.length
    rw [List.set_eq_of_length_le (by omega), List.set_eq_of_length_le (by omega)]
    exact ⟨F, I, Ext.refl _ _⟩
theorem RS.wipe (I : RS W Φ H F ρ σ) : ∀ vs : List Nat, ∃ F', RS W Φ H F' (wipeE ρ vs) (wipe σ vs) ∧ Ext (own Φ.O F) H (own Φ.O F') H
  | [] => ⟨F, I, Ext.refl _ _⟩
  | v :: vs => by
    obtain ⟨F1, I1, x1⟩ := RS.wipe I vs
    obtain ⟨F2, I2, x2⟩ := I1.forget v
    exact ⟨F2, I2, x1.trans x2⟩
theorem Sl.re {A : Addr → Prop} : ∀ {ρ : Env} {σ : St} {F : List Addr} {i : Nat} {v : Option V}, Sl W A H ρ (σ.set i v) F → (∀ s, ρ[i]? = some s → s = .no) → Sl W A H ρ σ F
  | [], σ, F, i, v, ⟨e, eF⟩, _ => by
    refine ⟨?_, eF⟩
    have := congrArg List.length e
    rw [List.length_set] at this
    exact List.eq_nil_of_length_eq_zero this
  | s :: ρ, [], F, i, v, ⟨w, r, F1, F2, e, _⟩, _ => by simp at e
  | s :: ρ, u :: σ, F, 0, v, ⟨w, r, F1, F2, e, e2, h1, h2⟩, hn => by
    have z := hn s rfl
    subst z
    rw [List.set_cons_zero] at e
    injection e with e3 e4
    subst e4
    exact ⟨u, σ, F1, F2, rfl, e2, h1, h2⟩
  | s :: ρ, u :: σ, F, i + 1, v, ⟨w, r, F1, F2, e, e2, h1, h2⟩, hn => by
    rw [List.set_cons_succ] at e
    injection e with e3 e4
    subst e3; subst e4
    exact ⟨u, σ, F1, F2, rfl, e2, h1, Sl.re h2 fun s' q => hn s' (by simpa using q)⟩
theorem wipeE_at {i : Nat} : ∀ {vs : List Nat} {ρ : Env} {s : SV}, i ∈ vs → (wipeE ρ vs)[i]? = some s → s = .no
  | [], _, _, h, _ => nomatch h
  | v :: vs, ρ, s, h, e => by
    unfold wipeE at e
    by_cases hv : v = i
    · subst hv
      by_cases hl : v < (wipeE ρ vs).length
      · rw [List.getElem?_set_self hl] at e
        exact (Option.some.inj e).symm
      · rw [List.getElem?_eq_none (by simpa using hl)] at e; cases e
    · rw [List.getElem?_set_ne hv] at e
      rcases List.mem_cons.mp h with z | z
      · exact absurd z.symm hv
      · exact wipeE_at z e
theorem RS.unwipe : ∀ {vs : List Nat}, RS W Φ H F ρ (L2.wipe σ vs) → (∀ i ∈ vs, ∀ s, ρ[i]? = some s → s = .no) → RS W Φ H F ρ σ
  | [], I, _ => I
  | v :: vs, I, h => by
    have I' : RS W Φ H F ρ (L2.wipe σ vs) := by
      refine ⟨Sl.re (i := v) (v := none) I.sl (h v List.mem_cons_self), I.nd, I.st, I.fr, I.oo, I.dj, fun s q1 q2 => ?_⟩
      have := I.k0 s q1 q2
      by_cases hv : v = 0
      · subst hv
        have := h 0 List.mem_cons_self s q1
        subst this; cases q2
      · unfold L2.wipe at this
        rw [List.getElem?_set_ne hv] at this
        exact this
    exact RS.unwipe I' fun i hi => h i (List.mem_cons_of_mem _ hi)
end
theorem wipe_get (σ : St) (j : Nat) : ∀ vs : List Nat, (wipe σ vs)[j]? = if j ∈ vs then (if j < σ.length then some none else none) else σ[j]?
  | [] => by simp [wipe]
  | v :: vs => by
    unfold wipe
    by_cases hv : v = j
    · subst hv
      rw [if_pos List.mem_cons_self]
      by_cases hl : v < σ.length
      · rw [if_pos hl, List.getElem?_set_self (by rw [wipe_length]; exact hl)]
      · rw [if_neg hl, List.getElem?_eq_none (by rw [List.length_set, wipe_length]; omega)]
    · rw [List.getElem?_set_ne hv, wipe_get σ j vs]
      by_cases hm : j ∈ vs
      · rw [if_pos hm, if_pos (List.mem_cons_of_mem _ hm)]
      · rw [if_neg hm, if_neg fun z => by rcases List.mem_cons.mp z with z | z; exact hv z.symm; exact hm z]
theorem Fr.wipe {is vs : List Nat} {σ σ' : St} (f : Fr is (wipe σ vs) σ') (h : ∀ i ∈ is, i ∈ vs) : L2.wipe σ' vs = L2.wipe σ vs := by
  apply List.ext_getElem?
  intro j
  have hl : σ'.length = σ.length := by rw [f.1, wipe_length]
  rw [wipe_get, wipe_get, hl]
  by_cases hm : j ∈ vs
  · rw [if_pos hm, if_pos hm]
  · rw [if_neg hm, if_neg hm, f.2 j fun z => hm (h j z), wipe_get, if_neg hm]
end Tr
/- Tr17 -/
/-! Tr, part 17: list comprehensions. -/
namespace Tr
open PySem L2
section
variable {W : Wd} {Φ : Fx} {H : Hp} {F : List Addr} {ρ : Env} {σ : St}
/-- the new list set apart -/
def Fx.plus (Φ : Fx) (D : Addr) : Fx := { Φ with O := fun a => Φ.O a ∨ a = D }
theorem RS.apart {D : Addr} {o : HO} (I : RS W Φ H F ρ σ) (hD : H D = none) : RS W (Φ.plus D) (L2.upd H D o) F ρ σ ∧ Ext (own Φ.O F) H (own (Φ.plus D).O F) (L2.upd H D o) := by
  have x : Ext (own Φ.O F) H (own (Φ.plus D).O F) (L2.upd H D o) := fun a u q z => by
    have nd : a ≠ D := ne_of_none q hD
    refine ⟨by rw [upd_ne nd]; exact q, fun w => ?_⟩
    rcases w with (w | w) | w
    · exact z (.inl w)
    · exact nd w
    · exact z (.inr w)
  have k : ∀ a u, H a = some u → L2.upd H D o a = some u := fun a u q => by rw [upd_ne (ne_of_none q hD)]; exact q
  refine ⟨⟨I.sl.ext x fun a m u q => k a u q, I.nd, fun a u q m => k a u (I.st a u q m), I.fr, fun a ha => ?_, fun a m ha => ?_, I.k0⟩, x⟩
  · rcases ha with ha | ha
    · exact (I.oo a ha).imp fun u q => k a u q
    · exact ⟨o, by rw [ha, upd_same]⟩
  · rcases ha with ha | ha
    · exact I.dj a m ha
    · obtain ⟨u, q⟩ := I.sl.there a m
      rw [ha, hD] at q; cases q
theorem RS.turn (I : RS W Φ H F ρ σ) : RS W ⟨Φ.O, H, F, Φ.v0⟩ H F ρ σ := ⟨I.sl, I.nd, fun _ _ q _ => q, fun _ m => .inl m, I.oo, I.dj, I.k0⟩
theorem RS.h0 (I : RS W Φ H F ρ σ) {a : Addr} (h : H a = none) : a ∈ Φ.M ∨ Φ.H0 a = none := by
  by_cases m : a ∈ Φ.M
  · exact .inl m
  · cases q : Φ.H0 a with
    | none => exact .inr rfl
    | some u =>
      have := I.st a u q m
      rw [h] at this; cases this
theorem RS.back {H' : Hp} {F' : List Addr} {ρ' : Env} {σ' : St} (I : RS W Φ H F ρ σ) (J : RS W ⟨Φ.O, H, F, Φ.v0⟩ H' F' ρ' σ') : RS W Φ H' F' ρ' σ' ∧ ∀ a o, H a = some o → a ∉ F → H' a = some o := by
  refine ⟨⟨J.sl, J.nd, fun a o q m => J.st a o (I.st a o q m) fun z => ?_, fun a m => ?_, J.oo, J.dj, J.k0⟩, fun a o q m => J.st a o q m⟩
  · rcases I.fr a z with w | w
    · exact m w
    · rw [q] at w; cases w
  · rcases J.fr a m with w | w
    · exact I.fr a w
    · exact I.h0 w
theorem RS.rewrite {D : Addr} {o : HO} (I : RS W (Φ.plus D) H F ρ σ) (h0 : D ∈ Φ.M ∨ Φ.H0 D = none) : RS W (Φ.plus D) (L2.upd H D o) F ρ σ ∧ Ext (own (Φ.plus D).O F) H (own (Φ.plus D).O F) (L2.upd H D o) := by
  have nF : D ∉ F := fun m => I.dj D m (.inr rfl)
  have k : ∀ a u, a ≠ D → H a = some u → L2.upd H D o a = some u := fun a u e q => by rw [upd_ne e]; exact q
  have x : Ext (own (Φ.plus D).O F) H (own (Φ.plus D).O F) (L2.upd H D o) := fun a u q z => ⟨k a u (fun e => z (.inl (.inr e))) q, z⟩
  refine ⟨⟨I.sl.ext x fun a m u q => k a u (fun e => nF (by rw [← e]; exact m)) q, I.nd, fun a u q m => k a u (fun e => ?_) (I.st a u q m), I.fr, fun a ha => ?_, I.dj, I.k0⟩, x⟩
  · subst e
    rcases h0 with h0 | h0
    · exact m h0
    · have q : Φ.H0 a = some u := q
      rw [h0] at q; cases q
  · by_cases e : a = D
    · exact ⟨o, by rw [e, upd_same]⟩
    · obtain ⟨u, q⟩ := I.oo a ha
      exact ⟨u, k a u e q⟩
/-- the heap without it -/
def without (H : Hp) (D : Addr) : Hp := fun a => if a = D then none else H a
theorem without_ne {D a : Addr} (h : a ≠ D) : without H D a = H a := if_neg h
theorem without_same {D : Addr} : without H D D = none := if_pos rfl
theorem upd_without {D : Addr} {o : HO} (h : H D = some o) : upd (without H D) D o = H := by
  funext a
  by_cases e : a = D
  · rw [e, upd_same, h]
  · rw [upd_ne e, without_ne e]
theorem RS.joined {D : Addr} (I : RS W (Φ.plus D) H F ρ σ) (hD : ¬ Φ.O D) (h0 : D ∈ Φ.M ∨ Φ.H0 D = none) : RS W Φ (without H D) F ρ σ ∧ Ext (own (Φ.plus D).O F) H (own Φ.O F) (without H D) := by
  have nF : D ∉ F := fun m => I.dj D m (.inr rfl)
  have x : Ext (own (Φ.plus D).O F) H (own Φ.O F) (without H D) := fun a u q z => by
    have nd : a ≠ D := fun e => z (.inl (.inr e))
    refine ⟨by rw [without_ne nd]; exact q, fun w => ?_⟩
    rcases w with w | w
    · exact z (.inl (.inl w))
    · exact z (.inr w)
  refine ⟨⟨I.sl.ext x fun a m u q => by rw [without_ne fun e => nF (by rw [← e]; exact m)]; exact q, I.nd, fun a u q m => ?_, I.fr, fun a ha => ?_, fun a m ha => I.dj a m (.inl ha), I.k0⟩, x⟩
  · by_cases e : a = D
    · subst e
      rcases h0 with h0 | h0
      · exact absurd h0 m
      · have q : Φ.H0 a = some u := q
        rw [h0] at q; cases q
    · rw [without_ne e]; exact I.st a u q m
  · have e : a ≠ D := fun e => hD (by rw [← e]; exact ha)
    obtain ⟨u, q⟩ := I.oo a (.inl ha)
    exact ⟨u, by rw [without_ne e]; exact q⟩
end
section
variable {X : Cx} {W : Wd} {E : XK} {elt tg iter : Expr} {ifs : List Expr} {scope : Scope} {oo : List (Str × Nat)} {pos : Pos} {it : LM} {g : GM} {tt : TM} {te : EM} {is : List Nat}
theorem noX_inv {α : Type} {r : R α} {k : α → Env → R (List D)} {W : Wd} {Φ : Fx} {σ : St} {B : Addr → Prop} {H : Hp} {Q : VK} (h : PostN W Φ E σ B H Q (bnd (noX r) k)) : ∃ a ρ, r = .ok a ρ ∧ PostN W Φ E σ B H Q (k a ρ) := by
  cases r with
  | ok a ρ => exact ⟨a, ρ, rfl, h⟩
  | exc _ _ _ => exact h.elim
  | bad => exact h.elim
/-- what a list comprehension does, beyond its text -/
theorem lc_sem {Pre : PreT} {wi : TI} {vs0 : List Nat} {Q : VK} {Φ : Fx} {H : Hp} {F : List Addr} {ρ : Env} {σ : St} (ki : ∀ (Φ : Fx) (H : Hp) (F : List Addr) (ρ : Env) (σ : St) (R : It → Hp → Prop), RS W Φ H F ρ σ → Pre Φ H F ρ σ → PostI W Φ E σ (own Φ.O F) H R (it ρ) → wi σ H R)
    (his : ∀ i ∈ is, i ∈ vs0) (I : RS W Φ H F ρ σ) (hpre : Pre Φ H F ρ σ) (h : PostN W Φ E σ (own Φ.O F) H Q (lComp it vs0 g tt te ρ)) : tLc wi (tGM W is g) (tTM W E0 tt) (tM W E0 te) vs0 σ H Q := by
  refine ki _ _ _ _ _ _ I hpre ?_
  unfold lComp at h
  cases em : it ρ with
  | exc c d ρ1 => rw [em] at h; exact h
  | bad => rw [em] at h; exact h
  | ok xs ρ1 =>
    rw [em] at h
    have h : PostN W Φ E σ (own Φ.O F) H Q (if xs.length ≤ cap then compGo vs0 g tt te xs (wipeE ρ1 vs0) else .bad) := h
    split at h
    case isFalse => exact h.elim
    rename_i hcap
    intro J H1 F1 I1 x1 itd
    intro D hD
    generalize hvs : vs0 = vs at h his ⊢
    -- the invariant
    have start : ∃ F2, RS W (Φ.plus D) (upd H1 D (.lst [])) F2 (wipeE ρ1 vs) (wipe σ vs) ∧ Ext (own Φ.O F1) H1 (own (Φ.plus D).O F2) (upd H1 D (.lst [])) := by
      obtain ⟨I2, x2⟩ := I1.apart (o := .lst []) hD
      obtain ⟨F3, I3, x3⟩ := I2.wipe vs
      exact ⟨F3, I3, x2.trans x3⟩
    obtain ⟨F2, I2, x2⟩ := start
    have h0 := I1.h0 hD
    have nO : ¬ Φ.O D := fun o => by
      obtain ⟨u, q⟩ := I1.oo D o
      rw [hD] at q; cases q
    let Pv : Nat → Hp → Prop := fun i H' => ∃ (F' : List Addr) (ρ' : Env) (acc : List V) (ds : List Tr.D), RS W (Φ.plus D) H' F' (wipeE ρ' vs) (wipe σ vs) ∧ Ext (own Φ.O F1) H1 (own (Φ.plus D).O F') H' ∧ H' D = some (.lst acc) ∧
      RelDs W (own (Φ.plus D).O F') H' ds acc ∧ ds.length ≤ i ∧ PostN W Φ E σ (own Φ.O F) H Q (bnd (compGo vs g tt te (xs.drop i) (wipeE ρ' vs)) fun ys ρ4 => .ok (ds ++ ys) ρ4)
    have P0 : Pv 0 (upd H1 D (.lst [])) := ⟨F2, ρ1, [], [], I2, x2, upd_same, relDs_nil, Nat.le_refl _, by
      rw [List.drop_zero]
      have e : ∀ r : R (List Tr.D), (bnd r fun ys ρ4 => .ok ([] ++ ys) ρ4) = r := fun r => by cases r <;> rfl
      rw [e]; exact h⟩
    refine ⟨fun i m H => m = xs.length - i ∧ i ≤ xs.length ∧ Pv i H, ⟨xs.length, by simp, Nat.zero_le _, P0⟩, ?_⟩
    rintro i m H' ⟨rfl, hi, F', ρ', acc, ds, I', x', hD', rs, hl, hq⟩
    have go := itd (own (Φ.plus D).O F') H' i x' I'.tk
    by_cases hlt : i < xs.length
    · have hx : xs[i]? = some xs[i] := List.getElem?_eq_getElem hlt
      obtain ⟨g1, g2⟩ := go.1 _ hx
      refine .inr ⟨g1, Pv (i + 1), fun H' p' => ⟨xs.length - (i + 1), by omega, rfl, hlt, p'⟩, fun x H2 y => ?_⟩
      obtain ⟨sm, rx⟩ := g2 x H2 y
      obtain ⟨I3, x3⟩ := I'.same sm
      rw [List.drop_eq_getElem_cons hlt] at hq
      have hq : PostN W Φ E σ (own Φ.O F) H Q (bnd (match g xs[i] (wipeE ρ' vs) with
        | none => .bad
        | some ρ1 => bnd (noX (tt ρ1)) fun b ρ2 => if b = true then bnd (noX (te ρ2)) fun y ρ3 => bnd (compGo vs g tt te (xs.drop (i + 1)) (wipeE ρ3 vs)) fun ys ρ4 => .ok (y :: ys) ρ4 else compGo vs g tt te (xs.drop (i + 1)) (wipeE ρ2 vs)) fun ys ρ4 => .ok (ds ++ ys) ρ4) := hq
      cases eg : g xs[i] (wipeE ρ' vs) with
      | none => rw [eg] at hq; exact hq.elim
      | some ρ2 =>
        rw [eg] at hq
        have It := I3.turn
        have nDF : D ∉ F' := fun m => I'.dj D m (.inr rfl)
        have hD2 : H2 D = some (.lst acc) := sm D _ hD'
        refine ⟨⟨(Φ.plus D).O, H2, F', (Φ.plus D).v0⟩, F', _, ρ2, _, It, rx, eg, fun σ4 F4 I4 x4 f4 => ?_⟩
        have w4 : L2.wipe σ4 vs = L2.wipe σ vs := f4.wipe his
        refine ⟨w4, ?_⟩
        simp only [bnd_assoc] at hq
        obtain ⟨b, ρ3, eb, hq⟩ := noX_inv hq
        refine ⟨_, F4, ρ2, I4, ?_⟩
        rw [eb]
        intro k H5 F5 I5 x5 ek
        subst ek
        cases b with
        | false =>
          show Pv (i + 1) H5
          obtain ⟨I6, st6⟩ := I3.back I5
          obtain ⟨F7, I7, x7⟩ := I6.wipe vs
          rw [w4] at I7
          have xx := ((x3.trans x4).trans x5).trans x7
          refine ⟨F7, ρ3, acc, ds, I7, x'.trans xx, st6 D _ hD2 nDF, rs.ext xx, by omega, ?_⟩
          have hq : PostN W Φ E σ (own Φ.O F) H Q (bnd (if false = true then bnd (noX (te ρ3)) fun y ρ3 => bnd (compGo vs g tt te (xs.drop (i + 1)) (wipeE ρ3 vs)) fun ys ρ4 => .ok (y :: ys) ρ4 else compGo vs g tt te (xs.drop (i + 1)) (wipeE ρ3 vs)) fun ys ρ4 => .ok (ds ++ ys) ρ4) := hq
          rw [if_neg Bool.false_ne_true] at hq
          exact hq
        | true =>
          have hq : PostN W Φ E σ (own Φ.O F) H Q (bnd (if true = true then bnd (noX (te ρ3)) fun y ρ3 => bnd (compGo vs g tt te (xs.drop (i + 1)) (wipeE ρ3 vs)) fun ys ρ4 => .ok (y :: ys) ρ4 else compGo vs g tt te (xs.drop (i + 1)) (wipeE ρ3 vs)) fun ys ρ4 => .ok (ds ++ ys) ρ4) := hq
          rw [if_pos rfl] at hq
          simp only [bnd_assoc] at hq
          obtain ⟨y, ρ4, ey, hq⟩ := noX_inv hq
          show tM W E0 te σ4 H5 _
          refine ⟨_, F5, ρ3, I5, ?_⟩
          rw [ey]
          intro v H6 F6 I6 x6 r6
          obtain ⟨I7, st7⟩ := I3.back I6
          have hD6 := st7 D _ hD2 nDF
          obtain ⟨I8, x8⟩ := I7.rewrite (o := .lst (acc ++ [v])) h0
          obtain ⟨F9, I9, x9⟩ := I8.wipe vs
          rw [w4] at I9
          have xa := (x3.trans x4).trans (x5.trans x6)
          refine ⟨acc, hD6, ?_, F9, ρ4, acc ++ [v], ds ++ [y], I9, x'.trans (xa.trans (x8.trans x9)), upd_same, ?_, by rw [List.length_append, List.length_singleton]; omega, ?_⟩
          · rw [← relDs_len rs]; exact Nat.lt_of_lt_of_le (Nat.lt_of_le_of_lt hl hlt) (Nat.le_trans hcap cap_le)
          · exact relDs_app (rs.ext (xa.trans (x8.trans x9))) (relDs_one (r6.ext (x8.trans x9)))
          · simp only [bnd_assoc, bnd_ok] at hq
            have e : (fun (ys : List Tr.D) (ρ4 : Env) => (R.ok (ds ++ [y] ++ ys) ρ4 : R (List Tr.D))) = fun ys ρ4 => R.ok (ds ++ y :: ys) ρ4 := by funext ys ρ4; simp
            rw [e]
            exact hq
    · have e : i = xs.length := by omega
      refine .inl ⟨go.2 e, ?_⟩
      rw [e, List.drop_length] at hq
      have hq : PostN W Φ E σ (own Φ.O F) H Q (.ok (ds ++ []) (wipeE ρ' vs)) := hq
      rw [List.append_nil] at hq
      obtain ⟨I3, x3⟩ := I'.joined nO h0
      have I4 := I3.unwipe fun j hj s q => wipeE_at hj q
      have := hq acc (without H' D) F' D I4 (x1.trans (x'.trans x3)) (rs.ext x3) without_same
      rwa [upd_without hD'] at this
theorem sn_compP {Pre : PreT} (hc : X.calm = true) (hN : X.N.Nodup) (hi : SIp X W E tg iter it Pre) (ok : BlkOk X.N X.env.scope scope oo) (his : ∀ i ∈ is, i ∈ oo.map (·.2))
    (hg : ∀ (s : Shared) (H : Hp) (C : Addr) (cl : List (Str × Addr)) (fp : List Addr), SG (X.blk s H scope (compEnvC scope cl C X.env) fp) W tg is g)
    (ht : ∀ (s : Shared) (H : Hp) (C : Addr) (cl : List (Str × Addr)) (fp : List Addr), STs (X.blk s H scope (compEnvC scope cl C X.env) fp) W E0 ifs tt)
    (he : ∀ (s : Shared) (H : Hp) (C : Addr) (cl : List (Str × Addr)) (fp : List Addr), SE (X.blk s H scope (compEnvC scope cl C X.env) fp) W E0 elt te)
    (hs : ∀ x, foldedSetIterable iter X.env x = pure x := by intro _; rfl) :
    SNp X W E (.ListComp elt [⟨tg, iter, ifs, 0⟩] scope pos) (lComp it (oo.map (·.2)) g tt te) Pre := by
  obtain ⟨wi, pi, ki⟩ := hi
  exact ⟨_, pe_lc hc hN pi ok (fun s H C cl fp => (hg s H C cl fp).can) (fun s H C cl fp => (ht s H C cl fp).ex) (fun s H C cl fp => (he s H C cl fp).can) hs, fun Φ H F ρ σ Q I hpre h => lc_sem ki his I hpre h⟩
theorem sn_comp (hc : X.calm = true) (hN : X.N.Nodup) (hi : SI X W E tg iter it) (ok : BlkOk X.N X.env.scope scope oo) (his : ∀ i ∈ is, i ∈ oo.map (·.2))
    (hg : ∀ (s : Shared) (H : Hp) (C : Addr) (cl : List (Str × Addr)) (fp : List Addr), SG (X.blk s H scope (compEnvC scope cl C X.env) fp) W tg is g)
    (ht : ∀ (s : Shared) (H : Hp) (C : Addr) (cl : List (Str × Addr)) (fp : List Addr), STs (X.blk s H scope (compEnvC scope cl C X.env) fp) W E0 ifs tt)
    (he : ∀ (s : Shared) (H : Hp) (C : Addr) (cl : List (Str × Addr)) (fp : List Addr), SE (X.blk s H scope (compEnvC scope cl C X.env) fp) W E0 elt te)
    (hs : ∀ x, foldedSetIterable iter X.env x = pure x := by intro _; rfl) :
    SN X W E (.ListComp elt [⟨tg, iter, ifs, 0⟩] scope pos) (lComp it (oo.map (·.2)) g tt te) := by
  obtain ⟨t, p, k⟩ := sn_compP hc hN hi ok his hg ht he hs
  exact ⟨t, p, fun Φ H F ρ σ Q I h => k Φ H F ρ σ Q I trivial h⟩
end
end Tr
/- Tr18 -/
/-! Tr, part 18: for. -/
namespace Tr
open PySem L2
section
variable {W : Wd} {Φ : Fx} {E : XK} {D : Ends} {H : Hp} {F : List Addr} {ρ : Env} {σ : St}
theorem PostS.turn {r : R (Option Tr.D)} (h : PostS W Φ E D r) (I : RS W Φ H F ρ σ) : PostS W ⟨Φ.O, H, F, Φ.v0⟩ E D r := by
  cases r with
  | ok o ρ1 => cases o with
    | none => exact fun σ' H' F' J => h σ' H' F' (I.back J).1
    | some d => exact fun v σ' H' F' J rd => h v σ' H' F' (I.back J).1 rd
  | exc c d ρ1 => exact fun dx v σ' H' F' J hx rd => h dx v σ' H' F' (I.back J).1 hx rd
  | bad => exact h
theorem RS.ext {H' : Hp} {F' : List Addr} {ρ' : Env} {σ' : St} (J : RS W ⟨Φ.O, H, F, Φ.v0⟩ H' F' ρ' σ') : Ext (own Φ.O F) H (own Φ.O F') H' := fun a o q z => by
  refine ⟨J.st a o q fun m => z (.inr m), fun w => ?_⟩
  rcases w with w | w
  · exact z (.inl w)
  · rcases J.fr a w with y | y
    · exact z (.inr y)
    · have q' : H a = none := y
      rw [q] at q'; cases q'
end
section
variable {X : Cx} {W : Wd} {E : XK} {tg iter : Expr} {body : List Stmt} {pos : Pos} {it : LM} {g : GM} {mb : SM} {is : List Nat}
theorem ss_for (hp : PassesOwn (model X.prog X.w) X.A X.env X.xe) (hc : X.calm = true) (hi : SI X W E tg iter it) (hg : SG X W tg is g) (hb : SB X W E body mb) (hs : ∀ x, foldedSetIterable iter X.env x = pure x := by intro _; rfl) :
    SS X W E (.For tg iter body [] pos) (sFor it g mb) := by
  obtain ⟨wi, pi, ki⟩ := hi
  obtain ⟨tg', pg, kg⟩ := hg
  obtain ⟨tb, pb, kb⟩ := hb
  refine ⟨_, ps_for hp hc pi pg pb hs, fun Φ H F ρ σ D I h => ?_⟩
  refine ki _ _ _ _ _ _ I trivial ?_
  unfold sFor at h
  cases em : it ρ with
  | exc c d ρ1 => rw [em] at h; exact fun dx v H' F' I' hx rd => h dx v σ H' F' I' hx rd
  | bad => rw [em] at h; exact h
  | ok xs ρ1 =>
    rw [em] at h
    have h : PostS W Φ E D (forGo g mb xs ρ1) := h
    intro J H1 F1 I1 x1 itd
    refine ⟨fun i m σ' H' => m = xs.length - i ∧ i ≤ xs.length ∧ ∃ F' ρ', RS W Φ H' F' ρ' σ' ∧ Ext (own Φ.O F1) H1 (own Φ.O F') H' ∧ PostS W Φ E D (forGo g mb (xs.drop i) ρ'), ⟨xs.length, by simp, Nat.zero_le _, F1, ρ1, I1, Ext.refl _ _, h⟩, ?_⟩
    rintro i m σ' H' ⟨rfl, hi, F', ρ', I', x', hq⟩
    have go := itd (own Φ.O F') H' i x' I'.tk
    by_cases hlt : i < xs.length
    · obtain ⟨g1, g2⟩ := go.1 _ (List.getElem?_eq_getElem hlt)
      refine .inr ⟨g1, fun σ2 H2 => ∃ F2 ρ2, RS W Φ H2 F2 ρ2 σ2 ∧ Ext (own Φ.O F1) H1 (own Φ.O F2) H2 ∧ PostS W Φ E D (forGo g mb (xs.drop (i + 1)) ρ2), fun σ2 H2 p => ⟨xs.length - (i + 1), by omega, rfl, hlt, p⟩, fun x H2 y => ?_⟩
      obtain ⟨sm, rx⟩ := g2 x H2 y
      obtain ⟨I3, x3⟩ := I'.same sm
      rw [List.drop_eq_getElem_cons hlt] at hq
      have hq : PostS W Φ E D (match g xs[i] ρ' with
        | none => .bad
        | some ρ1 => bnd (mb ρ1) fun o ρ2 => match o with
          | none => forGo g mb (xs.drop (i + 1)) ρ2
          | some d => .ok (some d) ρ2) := hq
      cases eg : g xs[i] ρ' with
      | none => rw [eg] at hq; exact hq.elim
      | some ρ2 =>
        rw [eg] at hq
        refine kg Φ H2 F' ρ' ρ2 σ' _ _ x I3 rx eg fun σ4 F4 I4 x4 _ => ?_
        refine kb _ _ _ _ _ _ I4.turn ?_
        have hq : PostS W Φ E D (bnd (mb ρ2) fun o ρ2 => match o with
          | none => forGo g mb (xs.drop (i + 1)) ρ2
          | some d => .ok (some d) ρ2) := hq
        cases eb : mb ρ2 with
        | ok o ρ5 => cases o with
          | none =>
            rw [eb] at hq
            intro σ5 H5 F5 J5
            exact ⟨F5, ρ5, (I4.back J5).1, (x'.trans (x3.trans x4)).trans J5.ext, hq⟩
          | some d =>
            rw [eb] at hq
            intro v σ5 H5 F5 J5 rd
            exact hq v σ5 H5 F5 (I4.back J5).1 rd
        | exc c d ρ5 =>
          rw [eb] at hq
          intro dx v σ5 H5 F5 J5 hx rd
          exact hq dx v σ5 H5 F5 (I4.back J5).1 hx rd
        | bad => rw [eb] at hq; exact hq.elim
    · have e : i = xs.length := by omega
      refine .inl ⟨go.2 e, ?_⟩
      rw [e, List.drop_length] at hq
      exact hq σ' H' F' I'
end
end Tr
/- Tr19 -/
/-! Tr, part 19: dicts gone over. -/
namespace Tr
open PySem L2
section
variable {W : Wd} {A : Addr → Prop} {H : Hp} {d : Addr} {od : Obj} {ws : List (Key × V)}
theorem pr_lock (h : H d = some (.dK ws)) : Pr W A H A (upd H d (.frz od (.dK ws))) := by
  have ne : ∀ a o, H a = some o → o ≠ .dK ws → a ≠ d := fun a o q z e => by rw [e, h] at q; exact z (Option.some.inj q).symm
  have k : ∀ a o, H a = some o → o ≠ .dK ws → upd H d (.frz od (.dK ws)) a = some o := fun a o q z => by rw [upd_ne (ne a o q z)]; exact q
  refine ⟨fun a vs q n => ⟨k a _ q (fun z => nomatch z), n⟩, fun a vs q n => ⟨?_, n⟩, fun a vs q n => ⟨?_, n⟩, fun a vs q n => ⟨?_, n⟩, fun c a vs q n => ⟨?_, n⟩⟩
  · rcases q with q | ⟨o, q⟩
    · exact .inl (k a _ q fun z => nomatch z)
    · exact .inr ⟨o, k a _ q fun z => nomatch z⟩
  · rcases q with q | ⟨o, q⟩
    · by_cases e : a = d
      · subst e
        rw [h] at q; cases q
        exact .inr ⟨od, upd_same⟩
      · exact .inl (by rw [upd_ne e]; exact q)
    · exact .inr ⟨o, k a _ q fun z => nomatch z⟩
  · rcases q with q | ⟨o, q⟩
    · exact .inl (k a _ q fun z => nomatch z)
    · exact .inr ⟨o, k a _ q fun z => nomatch z⟩
  · unfold InsV at q ⊢
    cases es : W.sl c with
    | false =>
      rw [es] at q
      obtain ⟨dx, xs, e1, e2, e3⟩ := q
      exact ⟨dx, xs, e1, e2, k a _ e3 fun z => nomatch z⟩
    | true =>
      rw [es] at q
      obtain ⟨dx, nd, ne', q⟩ := q
      refine ⟨dx, nd, ne', ?_⟩
      rcases q with ⟨h0, h1, h2⟩ | ⟨h1, h2⟩
      · exact .inl ⟨h0, k a _ h1 fun z => (nomatch z), k dx _ h2 fun z => nomatch z⟩
      · exact .inr ⟨k a _ h1 (fun z => by unfold SlX.SlO at z; cases z), k dx _ h2 fun z => nomatch z⟩
theorem pr_unlock (h : H d = some (.frz od (.dK ws))) : Pr W A H A (upd H d (.dK ws)) := by
  have ne : ∀ a o, H a = some o → o ≠ .frz od (.dK ws) → a ≠ d := fun a o q z e => by rw [e, h] at q; exact z (Option.some.inj q).symm
  have k : ∀ a o, H a = some o → o ≠ .frz od (.dK ws) → upd H d (.dK ws) a = some o := fun a o q z => by rw [upd_ne (ne a o q z)]; exact q
  refine ⟨fun a vs q n => ⟨k a _ q (fun z => nomatch z), n⟩, fun a vs q n => ⟨?_, n⟩, fun a vs q n => ⟨?_, n⟩, fun a vs q n => ⟨?_, n⟩, fun c a vs q n => ⟨?_, n⟩⟩
  · rcases q with q | ⟨o, q⟩
    · exact .inl (k a _ q fun z => nomatch z)
    · exact .inr ⟨o, k a _ q fun z => nomatch z⟩
  · rcases q with q | ⟨o, q⟩
    · exact .inl (k a _ q fun z => nomatch z)
    · by_cases e : a = d
      · subst e
        rw [h] at q; cases q
        exact .inl upd_same
      · exact .inr ⟨o, by rw [upd_ne e]; exact q⟩
  · rcases q with q | ⟨o, q⟩
    · exact .inl (k a _ q fun z => nomatch z)
    · exact .inr ⟨o, k a _ q fun z => nomatch z⟩
  · unfold InsV at q ⊢
    cases es : W.sl c with
    | false =>
      rw [es] at q
      obtain ⟨dx, xs, e1, e2, e3⟩ := q
      exact ⟨dx, xs, e1, e2, k a _ e3 fun z => nomatch z⟩
    | true =>
      rw [es] at q
      obtain ⟨dx, nd, ne', q⟩ := q
      refine ⟨dx, nd, ne', ?_⟩
      rcases q with ⟨h0, h1, h2⟩ | ⟨h1, h2⟩
      · exact .inl ⟨h0, k a _ h1 fun z => (nomatch z), k dx _ h2 fun z => nomatch z⟩
      · exact .inr ⟨k a _ h1 (fun z => by unfold SlX.SlO at z; cases z), k dx _ h2 fun z => nomatch z⟩
end
section
variable {W : Wd} {Φ : Fx} {H : Hp} {F : List Addr} {ρ : Env} {σ : St} {d : Addr} {od : Obj} {ws : List (Key × V)}
theorem RS.lock (I : RS W Φ H F ρ σ) (h : H d = some (.dK ws)) (n : ¬ own Φ.O F d) : RS W ⟨Φ.O, L2.upd H d (.frz od (.dK ws)), F, Φ.v0⟩ (L2.upd H d (.frz od (.dK ws))) F ρ σ := by
  refine ⟨I.sl.pr (pr_lock h) fun a m o q => by rw [upd_ne fun e => n (.inr (by rw [← e]; exact m))]; exact q, I.nd, fun a o q _ => q, fun a m => .inl m, fun a ha => ?_, I.dj, I.k0⟩
  obtain ⟨o, q⟩ := I.oo a ha
  exact ⟨o, by rw [upd_ne fun e => n (.inl (by rw [← e]; exact ha))]; exact q⟩
theorem RS.unlock {H1 : Hp} {F1 : List Addr} {ρ1 : Env} (I : RS W Φ H F ρ σ) (h : H d = some (.dK ws)) (n : ¬ own Φ.O F d) (J : RS W ⟨Φ.O, L2.upd H d (.frz od (.dK ws)), F, Φ.v0⟩ H1 F1 ρ1 σ) :
    H1 d = some (.frz od (.dK ws)) ∧ RS W Φ (L2.upd H1 d (.dK ws)) F1 ρ1 σ ∧ Ext (own Φ.O F) H (own Φ.O F1) (L2.upd H1 d (.dK ws)) ∧ ∀ (t : D) (v : V), RelD W (own Φ.O F1) H1 t v → RelD W (own Φ.O F1) (L2.upd H1 d (.dK ws)) t v := by
  have nF : d ∉ F := fun m => n (.inr m)
  have hd : H1 d = some (.frz od (.dK ws)) := J.st d _ upd_same nF
  have keep : ∀ a o, H a = some o → a ∉ F → L2.upd H1 d (.dK ws) a = some o := fun a o q m => by
    by_cases e : a = d
    · subst e; rw [upd_same, ← q, h]
    · rw [upd_ne e]; exact J.st a o (by show L2.upd H d _ a = _; rw [upd_ne e]; exact q) m
  have frs : ∀ a ∈ F1, a ∈ F ∨ H a = none := fun a m => by
    rcases J.fr a m with w | w
    · exact .inl w
    · by_cases e : a = d
      · subst e
        exact absurd ((show L2.upd H a (.frz od (.dK ws)) a = none from w).symm.trans upd_same) (fun z => nomatch z)
      · right
        have w' : L2.upd H d (.frz od (.dK ws)) a = none := w
        rw [upd_ne e] at w'
        exact w'
  have nF1 : d ∉ F1 := fun m => by
    rcases frs d m with w | w
    · exact nF w
    · rw [h] at w; cases w
  have kF1 : ∀ a ∈ F1, ∀ o, H1 a = some o → L2.upd H1 d (.dK ws) a = some o := fun a m o q => by rw [upd_ne fun e => nF1 (by rw [← e]; exact m)]; exact q
  refine ⟨hd, ⟨J.sl.pr (pr_unlock hd) kF1, J.nd, fun a o q m => keep a o (I.st a o q m) fun z => ?_, fun a m => ?_, fun a ha => ?_, J.dj, J.k0⟩, fun a o q z => ⟨keep a o q fun m => z (.inr m), fun w => ?_⟩, fun t v r => r.pr (pr_unlock hd)⟩
  · rcases I.fr a z with w | w
    · exact m w
    · rw [q] at w; cases w
  · rcases frs a m with w | w
    · exact I.fr a w
    · exact I.h0 w
  · obtain ⟨o, q⟩ := J.oo a ha
    by_cases e : a = d
    · exact ⟨_, by rw [e, upd_same]⟩
    · exact ⟨o, by rw [upd_ne e]; exact q⟩
  · rcases w with w | w
    · exact z (.inl w)
    · rcases frs a w with y | y
      · exact z (.inr y)
      · rw [q] at y; cases y
end
/-- the dict in field j of the instance in slot i is locked -/
def LkPre (W : Wd) (i c j : Nat) : PreT := fun Φ H F ρ σ => ∃ (a : Addr) (A : Addr → Prop) (vs : List (Option V)) (d : Addr) (od : Obj) (ws : List (Key × V)) (kvs : List (Key × D)), σ[i]? = some (some (.ref a)) ∧ InsV W A H c a vs ∧ vs[j]? = some (some (.ref d)) ∧ H d = some (.frz od (.dK ws)) ∧
  ¬ own Φ.O F d ∧ dkAt i c j ρ = some kvs ∧ RelKs W (own Φ.O F) H kvs ws
theorem relKs_at {W : Wd} {A : Addr → Prop} {H : Hp} : ∀ {kvs : List (Key × D)} {ws : List (Key × V)} {i : Nat} {k : Key} {d : D}, RelKs W A H kvs ws → kvs[i]? = some (k, d) → ∃ v, ws[i]? = some (k, v) ∧ RelD W A H d v
  | [], _, i, _, _, _, e => by cases i <;> cases e
  | (k', x) :: kvs, _, 0, k, d, r, e => by
    cases e
    unfold RelKs at r
    obtain ⟨v, s, rfl, h1, _⟩ := r
    exact ⟨v, rfl, h1⟩
  | (k', x) :: kvs, _, i + 1, k, d, r, e => by
    unfold RelKs at r
    obtain ⟨v, s, rfl, _, h2⟩ := r
    obtain ⟨w, e1, e2⟩ := relKs_at h2 (by simpa using e)
    exact ⟨w, by simpa using e1, e2⟩
theorem relD_key {W : Wd} {A : Addr → Prop} {H : Hp} {k : Key} : RelD W A H (keyT k) (kV k) := by
  cases k with
  | inl i => exact relD_int
  | inr x => exact relD_str
section
variable {X : Cx} {W : Wd} {E : XK} {e : Expr} {ml : LM} {m : Str} {i c j : Nat}
theorem si_ditems (f : FD X.K W c j m) {y : Str} {py fpos apos cpos tpos : Pos} {elts : List Expr} {kk : Nat} (hN : X.N[i]? = some y := by rfl)
    (hv : Vis X.env.scope y := by first | exact Or.inl rfl | exact Or.inr (Or.inl rfl) | exact Or.inr (Or.inr rfl)) (hd : (y == ("__debug__" : Str)) = false := by decide) (hcd : (y == ("__classdict__" : Str)) = false := by decide)
    (hb : attributeBase (.Name y py) m X.env (eval (.Name y py) X.env) = eval (.Name y py) X.env := by rfl)
    (hbase : attributeBase (.Attribute (.Name y py) m fpos) "items" X.env (eval (.Attribute (.Name y py) m fpos) X.env) = eval (.Attribute (.Name y py) m fpos) X.env := by rfl) (hline : (apos.endLine == cpos.line) = true := by rfl) :
    SIp X W E (.Tuple elts kk tpos) (.Call (.Attribute (.Attribute (.Name y py) m fpos) "items" apos) [] [] cpos) (lDItems i c j) (LkPre W i c j) := by
  refine ⟨_, pi_items (pe_fd (pe_var (i := i) hN hv hd hcd) f hb) hbase hline, fun Φ H F ρ σ R I hp h => ?_⟩
  obtain ⟨a, A, vs, d, od, ws, kvs, h1, h2, h3, h4, h5, h6, h7⟩ := hp
  unfold lDItems at h
  rw [h6] at h
  refine ⟨_, h1, a, A, vs, .ref d, rfl, h2, h3, d, od, ws, rfl, h4, h _ H F I (Ext.refl _ _) fun A' H' i' x t => ?_⟩
  obtain ⟨q1, q2⟩ := x d _ h4 h5
  have rk := h7.ext x
  refine ⟨fun t' ht => ?_, fun hi => ⟨q1, by rw [hi, List.length_map, relKs_len h7]; exact Nat.le_refl _⟩⟩
  rw [List.getElem?_map] at ht
  obtain ⟨⟨k, dv⟩, hk, rfl⟩ := Option.map_eq_some_iff.mp ht
  obtain ⟨v, hw, rv⟩ := relKs_at rk hk
  refine ⟨⟨q1, (List.getElem?_eq_some_iff.mp hw).1⟩, fun z H'' ⟨T, k', v', e1, e2, e3, e4⟩ => ?_⟩
  rw [hw] at e1; cases e1
  subst e2; subst e4
  exact ⟨same_new e3, relD_new_tup t e3 (by unfold RelDs RelDs RelDs; exact ⟨_, _, rfl, relD_key, _, _, rfl, rv, rfl⟩)⟩
theorem pe_either {t u : TE} (h1 : PE X e t) (h2 : PE X e u) : PE X e (fun σ H Q => t σ H Q ∨ u σ H Q) := ⟨fun pins s σ H Q I h => h.elim (h1.run pins s σ H Q I) (h2.run pins s σ H Q I)⟩
theorem sn_lock (hs : SNp X W E e ml (LkPre W i c j)) : SN X W E e (lLock i c j ml) := by
  obtain ⟨t, p, k⟩ := hs
  refine ⟨_, pe_either p (pe_lock p), fun Φ H F ρ σ Q I h => ?_⟩
  unfold lLock at h
  split at h
  case isFalse => exact h.elim
  rename_i hk
  obtain ⟨kvs, ek⟩ := Option.isSome_iff_exists.mp hk
  -- the dict's place
  have key : ∃ (a : Addr) (vs : List (Option V)) (d : Addr) (ws : List (Key × V)), σ[i]? = some (some (.ref a)) ∧ InsV W (own Φ.O F) H c a vs ∧ ¬ own Φ.O F a ∧ vs[j]? = some (some (.ref d)) ∧ Rd H d (.dK ws) ∧ ¬ own Φ.O F d ∧ RelKs W (own Φ.O F) H kvs ws := by
    have ek' := ek
    unfold dkAt at ek'
    split at ek'
    · rename_i c' fs q
      split at ek'
      · rename_i hc
        subst hc
        split at ek'
        · rename_i kv ej
          cases ek'
          obtain ⟨x, e1, r⟩ := I.sl.val q
          unfold RelD at r
          obtain ⟨a, vs, rfl, na, hi, rs⟩ := r
          obtain ⟨y, hy, ry⟩ := relDs_at rs ej
          unfold RelD at ry
          obtain ⟨d, ws, rfl, nd, hd, rk⟩ := ry
          exact ⟨a, _, d, ws, e1, hi, na, by rw [List.getElem?_map, hy]; rfl, hd, nd, rk⟩
        · cases ek'
      · cases ek'
    · cases ek'
  obtain ⟨a, vs, d, ws, h1, h2, h2n, h3, h4, h5, h7⟩ := key
  rcases h4 with h4 | ⟨od, h4⟩
  · -- not locked yet
    refine .inr ⟨d, .dK ws, h4, trivial, fun od => ?_⟩
    have J := I.lock (od := od) h4 h5
    refine k _ _ F ρ σ _ J ⟨a, own Φ.O F, vs, d, od, ws, kvs, h1, ((pr_lock (W := W) (A := own Φ.O F) (od := od) h4).ins c a vs h2 h2n).1, h3, upd_same, h5, ek, h7.pr (pr_lock h4)⟩ ?_
    cases em : ml ρ with
    | ok ds ρ1 =>
      rw [em] at h
      intro us H1 F1 p J1 x1 rs hp
      have dn : d ≠ p := fun e => by
        have := (I.unlock h4 h5 J1).1
        rw [e, hp] at this; cases this
      obtain ⟨hd1, J2, x2, pr⟩ := I.unlock h4 h5 J1
      refine ⟨by rw [upd_ne dn]; exact hd1, ?_⟩
      have hp2 : upd H1 d (.dK ws) p = none := by rw [upd_ne (Ne.symm dn)]; exact hp
      have := h us (upd H1 d (.dK ws)) F1 p J2 x2 (rs.pr (pr_unlock hd1)) hp2
      have e : upd (upd H1 p (.lst us)) d (.dK ws) = upd (upd H1 d (.dK ws)) p (.lst us) := by
        funext b
        by_cases e1 : b = d
        · subst e1; rw [upd_same, upd_ne dn, upd_same]
        · rw [upd_ne e1]
          by_cases e2 : b = p
          · subst e2; rw [upd_same, upd_same]
          · rw [upd_ne e2, upd_ne e2, upd_ne e1]
      rw [e]
      exact this
    | exc c' d' ρ1 =>
      rw [em] at h
      exact h.elim
    | bad => rw [em] at h; exact h.elim
  · refine .inl (k Φ H F ρ σ Q I ⟨a, _, vs, d, od, ws, kvs, h1, h2, h3, h4, h5, ek, h7⟩ ?_)
    cases em : ml ρ with
    | ok ds ρ1 => rw [em] at h; exact h
    | exc c' d' ρ1 => rw [em] at h; exact h.elim
    | bad => rw [em] at h; exact h.elim
end
end Tr
/- Tr20 -/
/-! Tr, part 20: range, zip, enumerate; list(x). -/
namespace Tr
open PySem L2
section
variable {X : Cx} {W : Wd} {E : XK} {e e2 tg : Expr} {es : List Expr} {ma : EM} {ml : LM} {pos p tpos : Pos} {elts : List Expr} {kk : Nat}
theorem itd_range {A : Addr → Prop} {H : Hp} {i : Int} {n : Nat} : ItD W (Itr i n) A H (rangeD i n) := fun A' H' k x t => by
  refine ⟨fun d hd => ?_, fun hk => ?_⟩
  · unfold rangeD at hd
    rw [List.getElem?_map] at hd
    obtain ⟨m, hm, rfl⟩ := Option.map_eq_some_iff.mp hd
    obtain ⟨hlt, em⟩ := List.getElem?_eq_some_iff.mp hm
    rw [List.getElem_range] at em
    subst em
    rw [List.length_range] at hlt
    refine ⟨hlt, fun y H2 ⟨e1, e2⟩ => ?_⟩
    subst e1; subst e2
    exact ⟨Same.refl _, relD_int⟩
  · unfold rangeD at hk
    rw [hk, List.length_map, List.length_range]
    exact Nat.le_refl _
theorem okB_inv {i : Int} (h : okB i = true) : -(2 ^ 62) ≤ i ∧ i < 2 ^ 62 := by
  unfold okB at h
  have := of_decide_eq_true h
  omega
theorem post_it {Φ : Fx} {H : Hp} {σ : St} {ρ : Env} {R : It → Hp → Prop} {f : List D → Option (List D)} {B : Addr → Prop} {xs : List D} (h : PostI W Φ E σ B H R (optR (f xs) ρ)) : ∃ ds, f xs = some ds ∧ ∀ J H' F', RS W Φ H' F' ρ σ → Ext B H (own Φ.O F') H' → ItD W J (own Φ.O F') H' ds → R J H' := by
  cases q : f xs with
  | none => rw [q] at h; exact h.elim
  | some ds => rw [q] at h; exact ⟨ds, rfl, h⟩
theorem PostI.bnd {α β : Type} {Rl : (Addr → Prop) → Hp → α → β → Prop} {Φ : Fx} {σ : St} {B : Addr → Prop} {H : Hp} {R : It → Hp → Prop} {Q : β → Hp → Prop} {r : Tr.R α} {k : α → Env → Tr.R (List D)} (h : PostI W Φ E σ B H R (Tr.bnd r k))
    (n : ∀ a ρ1 v H1 F1, r = .ok a ρ1 → RS W Φ H1 F1 ρ1 σ → Ext B H (own Φ.O F1) H1 → Rl (own Φ.O F1) H1 a v → PostI W Φ E σ (own Φ.O F1) H1 R (k a ρ1) → Q v H1) : Post Rl W Φ E σ B H Q r := by
  cases r with
  | ok a ρ1 =>
    intro v H1 F1 I1 x1 r1
    refine n a ρ1 v H1 F1 rfl I1 x1 r1 ?_
    have h1 : PostI W Φ E σ B H R (k a ρ1) := h
    cases e : k a ρ1 with
    | ok c ρ2 =>
      rw [e] at h1
      exact fun J H2 F2 I2 x2 r2 => h1 J H2 F2 I2 (x1.trans x2) r2
    | exc c d ρ2 => rw [e] at h1; exact h1
    | bad => rw [e] at h1; exact h1
  | exc c d ρ1 => exact h
  | bad => exact h
theorem si_range1 (hg : Gl X "range") (hm : X.mg "range" = none) (hl : SA X W E [e] ml) (hs : starEach [e] X.env = [(false, eval e X.env)] := by rfl) : SI X W E tg (.Call (.Name "range" p) [e] [] pos) (lIt itRange1 ml) := by
  obtain ⟨t, pp, k⟩ := hl
  refine ⟨_, pi_range1 hg hm pp hs, fun Φ H F ρ σ R I _ h => ?_⟩
  refine k _ _ _ _ _ _ I (h.bnd fun xs ρ1 vs H1 F1 _ I1 x1 r1 h1 => ?_)
  obtain ⟨ds, ed, h2⟩ := post_it h1
  unfold itRange1 at ed
  split at ed
  · obtain ⟨hb, ed⟩ := Option.ite_none_right_eq_some.mp ed
    cases ed
    obtain ⟨v, rfl, rv⟩ := relDs1_inv r1
    exact ⟨_, by rw [relD_int_inv rv], (okB_inv hb).1, (okB_inv hb).2, h2 _ _ _ I1 (Ext.refl _ _) itd_range⟩
  · cases ed
theorem si_range2 (hg : Gl X "range") (hm : X.mg "range" = none) (hl : SA X W E [e, e2] ml) (hs : starEach [e, e2] X.env = [(false, eval e X.env), (false, eval e2 X.env)] := by rfl) (hs2 : starEach [e2] X.env = [(false, eval e2 X.env)] := by rfl) :
    SI X W E tg (.Call (.Name "range" p) [e, e2] [] pos) (lIt itRange2 ml) := by
  obtain ⟨t, pp, k⟩ := hl
  refine ⟨_, pi_range2 hg hm pp hs hs2, fun Φ H F ρ σ R I _ h => ?_⟩
  refine k _ _ _ _ _ _ I (h.bnd fun xs ρ1 vs H1 F1 _ I1 x1 r1 h1 => ?_)
  obtain ⟨ds, ed, h2⟩ := post_it h1
  unfold itRange2 at ed
  split at ed
  · obtain ⟨hb, ed⟩ := Option.ite_none_right_eq_some.mp ed
    cases ed
    obtain ⟨v, u, rfl, rv, ru⟩ := relDs2_inv r1
    exact ⟨_, _, by rw [relD_int_inv rv, relD_int_inv ru], ⟨(okB_inv hb.1).1, (okB_inv hb.1).2, (okB_inv hb.2).1, (okB_inv hb.2).2⟩, h2 _ _ _ I1 (Ext.refl _ _) itd_range⟩
  · cases ed
theorem zip_at {xs ys : List D} {i : Nat} {d : D} (h : (List.zipWith (fun x y => D.tup [x, y]) xs ys)[i]? = some d) : ∃ x y, xs[i]? = some x ∧ ys[i]? = some y ∧ d = .tup [x, y] := by
  rw [List.getElem?_zipWith] at h
  split at h
  · rename_i x y hx hy
    exact ⟨x, y, hx, hy, (Option.some.inj h).symm⟩
  · cases h
theorem relDs_two {A : Addr → Prop} {H : Hp} {x y : D} {v u : V} (r : RelD W A H x v) (s : RelD W A H y u) : RelDs W A H [x, y] [v, u] := by unfold RelDs RelDs RelDs; exact ⟨v, [u], rfl, r, u, [], rfl, s, rfl⟩
theorem itd_zipL {A : Addr → Prop} {H : Hp} {K : PySem.W.Frag} {xs ys : List D} {vs us : List V} {a b : Addr} (na : ¬ A a) (nb : ¬ A b) (ha : Rd H a (.lst vs)) (hb : Rd H b (.lst us)) (r : RelDs W A H xs vs) (s : RelDs W A H ys us) : ItD W (Itz K a b) A H (List.zipWith (fun x y => .tup [x, y]) xs ys) := fun A' H' i x t => by
  have sa : SqL K H' a vs := .inl (x.rd na ha).1
  have sb : SqL K H' b us := .inl (x.rd nb hb).1
  have r' := r.ext x
  have s' := s.ext x
  refine ⟨fun d hd => ?_, fun hi => ?_⟩
  · obtain ⟨p, q, e1, e2, rfl⟩ := zip_at hd
    obtain ⟨v, hv, rv⟩ := relDs_at r' e1
    obtain ⟨u, hu, ru⟩ := relDs_at s' e2
    refine ⟨⟨vs, us, v, u, sa, sb, hv, hu⟩, fun z H2 ⟨T, v', u', q1, q2, q3, q4, q5⟩ => ?_⟩
    have e4 := q4 vs sa
    have e5 := q5 us sb
    rw [hv] at e4; rw [hu] at e5
    cases e4; cases e5
    subst q1; subst q3
    exact ⟨same_new q2, relD_new_tup t q2 (relDs_two rv ru)⟩
  · refine ⟨vs, us, sa, sb, ?_⟩
    rw [hi, List.length_zipWith, relDs_len r, relDs_len s]
    omega
theorem itd_zipT {A : Addr → Prop} {H : Hp} {K : PySem.W.Frag} {xs ys : List D} {vs us : List V} {a b : Addr} (na : ¬ A a) (nb : ¬ A b) (ha : H a = some (.tup vs)) (hb : H b = some (.tup us)) (r : RelDs W A H xs vs) (s : RelDs W A H ys us) : ItD W (RZ.ItzT K a b) A H (List.zipWith (fun x y => .tup [x, y]) xs ys) := fun A' H' i x t => by
  have sa : SqT K H' a vs := .of (x _ _ ha na).1
  have sb : SqT K H' b us := .of (x _ _ hb nb).1
  have r' := r.ext x
  have s' := s.ext x
  refine ⟨fun d hd => ?_, fun hi => ?_⟩
  · obtain ⟨p, q, e1, e2, rfl⟩ := zip_at hd
    obtain ⟨v, hv, rv⟩ := relDs_at r' e1
    obtain ⟨u, hu, ru⟩ := relDs_at s' e2
    refine ⟨⟨vs, us, v, u, sa, sb, hv, hu⟩, fun z H2 ⟨T, v', u', q1, q2, q3, q4, q5⟩ => ?_⟩
    have e4 := q4 vs sa
    have e5 := q5 us sb
    rw [hv] at e4; rw [hu] at e5
    cases e4; cases e5
    subst q1; subst q3
    exact ⟨same_new q2, relD_new_tup t q2 (relDs_two rv ru)⟩
  · refine ⟨vs, us, sa, sb, ?_⟩
    rw [hi, List.length_zipWith, relDs_len r, relDs_len s]
    omega
theorem si_zip (hg : Gl X "zip") (hm : X.mg "zip" = none) (hl : SA X W E [e, e2] ml) (hs : starEach [e, e2] X.env = (false, eval e X.env) :: starEach [e2] X.env := by rfl) (hpl : (backTo pos (starEach [e2] X.env)).any (·.1) = false := by rfl) :
    SI X W E (.Tuple elts kk tpos) (.Call (.Name "zip" p) [e, e2] [] pos) (lIt itZip ml) := by
  obtain ⟨t, pp, k⟩ := hl
  refine ⟨_, RZ.pi_zipA hg hm pp hs hpl, fun Φ H F ρ σ R I _ h => ?_⟩
  refine k _ _ _ _ _ _ I (h.bnd fun xs ρ1 vs H1 F1 _ I1 x1 r1 h1 => ?_)
  obtain ⟨ds, ed, h2⟩ := post_it h1
  unfold itZip at ed
  split at ed
  · cases ed
    obtain ⟨v, u, rfl, rv, ru⟩ := relDs2_inv r1
    obtain ⟨a, vs, rfl, na, ha, rs⟩ := relD_lst_inv rv
    obtain ⟨b, us, rfl, nb, hb, ss⟩ := relD_lst_inv ru
    exact ⟨a, b, vs, us, rfl, .inl ⟨.inl ha, .inl hb, h2 _ _ _ I1 (Ext.refl _ _) (itd_zipL na nb ha hb rs ss)⟩⟩
  · cases ed
    obtain ⟨v, u, rfl, rv, ru⟩ := relDs2_inv r1
    obtain ⟨a, vs, rfl, na, ha, rs⟩ := relD_tup_inv rv
    obtain ⟨b, us, rfl, nb, hb, ss⟩ := relD_tup_inv ru
    exact ⟨a, b, vs, us, rfl, .inr ⟨.of ha, .of hb, h2 _ _ _ I1 (Ext.refl _ _) (itd_zipT na nb ha hb rs ss)⟩⟩
  · cases ed
theorem si_enum (hg : Gl X "enumerate") (hm : X.mg "enumerate" = none) (hl : SA X W E [e] ml) (hs : starEach [e] X.env = [(false, eval e X.env)] := by rfl) :
    SI X W E (.Tuple elts kk tpos) (.Call (.Name "enumerate" p) [e] [] pos) (lIt itEnum ml) := by
  obtain ⟨t, pp, k⟩ := hl
  refine ⟨_, pi_enum hg hm pp hs, fun Φ H F ρ σ R I _ h => ?_⟩
  refine k _ _ _ _ _ _ I (h.bnd fun xs ρ1 vs H1 F1 _ I1 x1 r1 h1 => ?_)
  obtain ⟨ds, ed, h2⟩ := post_it h1
  unfold itEnum at ed
  split at ed
  · rename_i xs
    cases ed
    obtain ⟨v, rfl, rv⟩ := relDs1_inv r1
    obtain ⟨a, vs, rfl, na, ha, rs⟩ := relD_lst_inv rv
    refine ⟨a, vs, rfl, .inl ha, h2 _ _ _ I1 (Ext.refl _ _) fun A' H' i x t => ?_⟩
    have sa : SqL X.K H' a vs := .inl (x.rd na ha).1
    have r' := rs.ext x
    refine ⟨fun d hd => ?_, fun hi => ⟨vs, sa, ?_⟩⟩
    · unfold enumD at hd
      rw [List.getElem?_zipWith] at hd
      split at hd
      · rename_i n y hn hy
        obtain ⟨hlt, en⟩ := List.getElem?_eq_some_iff.mp hn
        rw [List.getElem_range] at en
        subst en
        cases hd
        obtain ⟨u, hu, ru⟩ := relDs_at r' hy
        refine ⟨⟨vs, u, sa, hu⟩, fun z H2 ⟨T, u', q1, q2, q3, q4⟩ => ?_⟩
        have e4 := q4 vs sa
        rw [hu] at e4; cases e4
        subst q1; subst q3
        exact ⟨same_new q2, relD_new_tup t q2 (relDs_two relD_int ru)⟩
      · cases hd
    · unfold enumD at hi
      rw [hi, List.length_zipWith, List.length_range, relDs_len rs]
      omega
  · cases ed
/-- list(x), a new list -/
theorem sn_list {x : Str} (hg : Gl X x) (hm : X.mg x = none) (hv : bootBuiltins x = some (.type "list")) (he : SE X W E e ma) (hn : x ≠ "__name__" := by decide) (hdb : (x == ("__debug__" : Str)) = false := by decide)
    (hst : starEach [e] X.env = (false, eval e X.env) :: starEach [] X.env := by rfl) (hpl : (backTo pos (starEach [] X.env)).any (·.1) = false := by rfl) : SN X W E (.Call (.Name x p) [e] [] pos) (lList ma) := by
  obtain ⟨t, pp, k⟩ := he
  refine ⟨_, pe_callTy call_list_of hg hm hv (pa_cons pp pa_nil hst) hn hdb hst hpl, fun Φ H F ρ σ Q I h => ?_⟩
  refine k _ _ _ _ _ _ I ?_
  unfold lList at h
  cases em : ma ρ with
  | ok y ρ1 =>
    rw [em] at h
    intro v H1 F1 I1 x1 r1
    cases y with
    | lst ds =>
      obtain ⟨a, vs, rfl, _, ha, rs⟩ := relD_lst_inv r1
      exact ⟨a, vs, rfl, .inl (.inl ha), fun p hp => h vs H1 F1 p I1 x1 rs hp⟩
    | tup ds =>
      obtain ⟨a, vs, rfl, _, ha, rs⟩ := relD_tup_inv r1
      exact ⟨a, vs, rfl, .inr (.of ha), fun p hp => h vs H1 F1 p I1 x1 rs hp⟩
    | _ => exact h.elim
  | exc c d ρ1 => rw [em] at h; exact h
  | bad => rw [em] at h; exact h
end
end Tr
/- Tr21 -/
/-! Tr, part 21: min, max, sorted, methods of texts, ints and dicts. -/
namespace Tr
open PySem L2
section
variable {X : Cx} {W : Wd} {A : Addr → Prop} {H : Hp}
theorem relDs_ints : ∀ {ds : List D} {vs : List V} {is : List Int}, RelDs W A H ds vs → asIs ds = some is → vs = is.map V.int
  | [], _, _, r, e => by cases e; rw [relDs_nil_inv r]; rfl
  | d :: ds, _, _, r, e => by
    obtain ⟨v, s, rfl, h1, h2⟩ := relDs_cons_inv r
    cases d with
    | int i =>
      obtain ⟨js, ej, rfl⟩ := Option.map_eq_some_iff.mp (show (asIs ds).map (i :: ·) = some _ from e)
      rw [relD_int_inv h1, relDs_ints h2 ej]; rfl
    | _ => cases e
theorem relDs_strs : ∀ {ds : List D} {vs : List V} {is : List Str}, RelDs W A H ds vs → asSs ds = some is → vs = is.map V.str
  | [], _, _, r, e => by cases e; rw [relDs_nil_inv r]; rfl
  | d :: ds, _, _, r, e => by
    obtain ⟨v, s, rfl, h1, h2⟩ := relDs_cons_inv r
    cases d with
    | str i =>
      obtain ⟨js, ej, rfl⟩ := Option.map_eq_some_iff.mp (show (asSs ds).map (i :: ·) = some _ from e)
      rw [relD_str_inv h1, relDs_strs h2 ej]; rfl
    | _ => cases e
theorem relDs_ofStrs : ∀ {is : List Str}, RelDs W A H (is.map .str) (is.map V.str)
  | [] => relDs_nil
  | i :: is => by
    rw [List.map_cons, List.map_cons]
    unfold RelDs
    exact ⟨_, _, rfl, relD_str, relDs_ofStrs⟩
theorem foldl_min_mem : ∀ (is : List Int) (i : Int), is.foldl min i ∈ i :: is ∧ ∀ y ∈ i :: is, is.foldl min i ≤ y
  | [], i => ⟨List.mem_cons_self, fun y hy => by rw [List.mem_singleton.mp hy]; exact Int.le_refl _⟩
  | j :: is, i => by
    obtain ⟨h1, h2⟩ := foldl_min_mem is (min i j)
    refine ⟨?_, fun y hy => ?_⟩
    · rcases List.mem_cons.mp h1 with h | h
      · rw [List.foldl_cons, h]
        rcases Int.le_total i j with k | k
        · rw [Int.min_eq_left k]; exact List.mem_cons_self
        · rw [Int.min_eq_right k]; exact List.mem_cons_of_mem _ List.mem_cons_self
      · exact List.mem_cons_of_mem _ (List.mem_cons_of_mem _ h)
    · have h0 := h2 (min i j) List.mem_cons_self
      rw [List.foldl_cons]
      rcases List.mem_cons.mp hy with rfl | hy
      · exact Int.le_trans h0 (Int.min_le_left _ _)
      · rcases List.mem_cons.mp hy with rfl | hy
        · exact Int.le_trans h0 (Int.min_le_right _ _)
        · exact h2 y (List.mem_cons_of_mem _ hy)
theorem foldl_max_mem : ∀ (is : List Int) (i : Int), is.foldl max i ∈ i :: is ∧ ∀ y ∈ i :: is, y ≤ is.foldl max i
  | [], i => ⟨List.mem_cons_self, fun y hy => by rw [List.mem_singleton.mp hy]; exact Int.le_refl _⟩
  | j :: is, i => by
    obtain ⟨h1, h2⟩ := foldl_max_mem is (max i j)
    refine ⟨?_, fun y hy => ?_⟩
    · rcases List.mem_cons.mp h1 with h | h
      · rw [List.foldl_cons, h]
        rcases Int.le_total i j with k | k
        · rw [Int.max_eq_right k]; exact List.mem_cons_of_mem _ List.mem_cons_self
        · rw [Int.max_eq_left k]; exact List.mem_cons_self
      · exact List.mem_cons_of_mem _ (List.mem_cons_of_mem _ h)
    · have h0 := h2 (max i j) List.mem_cons_self
      rw [List.foldl_cons]
      rcases List.mem_cons.mp hy with rfl | hy
      · exact Int.le_trans (Int.le_max_left _ _) h0
      · rcases List.mem_cons.mp hy with rfl | hy
        · exact Int.le_trans (Int.le_max_right _ _) h0
        · exact h2 y (List.mem_cons_of_mem _ hy)
theorem cd_min (hc : X.calm = true) : CallD X W (.builtin "min") bMin := .of fun pins s σ H A xs d vs us Q I ru t r e q => by
  unfold bMin at e
  split at e
  · cases e
    obtain ⟨v, u, rfl, h1, h2⟩ := relDs2_inv r
    exact call_min2 hc pins s σ H _ us Q I ru ⟨_, _, by rw [relD_int_inv h1, relD_int_inv h2], q _ _ (Same.refl _) relD_int⟩
  · obtain ⟨m, em, rfl⟩ := Option.map_eq_some_iff.mp e
    obtain ⟨is, ei, em⟩ := Option.bind_eq_some_iff.mp em
    obtain ⟨v, rfl, h⟩ := relDs1_inv r
    obtain ⟨a, ws, rfl, _, ha, rs⟩ := relD_lst_inv h
    have ew := relDs_ints rs ei
    subst ew
    cases is with
    | nil => cases em
    | cons i is =>
      cases em
      refine cr_min hc pins s σ H _ us Q I ru ⟨a, i :: is, rfl, .inl ha, Nat.succ_pos _, fun m hm hl => ?_⟩
      obtain ⟨g1, g2⟩ := foldl_min_mem is i
      have : m = is.foldl min i := Int.le_antisymm (hl _ g1) (g2 m hm)
      rw [this]
      exact q _ _ (Same.refl _) relD_int
  · cases e
theorem cd_max (hc : X.calm = true) : CallD X W (.builtin "max") bMax := .of fun pins s σ H A xs d vs us Q I ru t r e q => by
  unfold bMax at e
  split at e
  · cases e
    obtain ⟨v, u, rfl, h1, h2⟩ := relDs2_inv r
    exact call_max2 hc pins s σ H _ us Q I ru ⟨_, _, by rw [relD_int_inv h1, relD_int_inv h2], q _ _ (Same.refl _) relD_int⟩
  · obtain ⟨m, em, rfl⟩ := Option.map_eq_some_iff.mp e
    obtain ⟨is, ei, em⟩ := Option.bind_eq_some_iff.mp em
    obtain ⟨v, rfl, h⟩ := relDs1_inv r
    obtain ⟨a, ws, rfl, _, ha, rs⟩ := relD_lst_inv h
    have ew := relDs_ints rs ei
    subst ew
    cases is with
    | nil => cases em
    | cons i is =>
      cases em
      refine cr_max hc pins s σ H _ us Q I ru ⟨a, i :: is, rfl, .inl ha, Nat.succ_pos _, fun m hm hl => ?_⟩
      obtain ⟨g1, g2⟩ := foldl_max_mem is i
      have : m = is.foldl max i := Int.le_antisymm (g2 m hm) (hl _ g1)
      rw [this]
      exact q _ _ (Same.refl _) relD_int
  · cases e
/-! ### sorted -/
theorem toPs_enc : ∀ {ds : List D} {ps : List PyData}, toPs ds = some ps → ds.map encD = ps
  | [], _, e => by unfold toPs at e; cases e; rfl
  | d :: ds, _, e => by
    unfold toPs at e
    obtain ⟨p, e1, e⟩ := Option.bind_eq_some_iff.mp e
    obtain ⟨qs, e2, rfl⟩ := Option.map_eq_some_iff.mp e
    rw [List.map_cons, toPs_enc e2]
    unfold encD
    rw [e1]; rfl
abbrev ItemR (W : Wd) (A : Addr → Prop) (H : Hp) : Value → D → Prop := fun v d => ∃ x, RelV x v ∧ RelD W A H d x
theorem each_rel : ∀ {ds : List D} {vs : List V} {us : List Value}, RelDs W A H ds vs → Vals vs us → PySem.W.EachIs (ItemR W A H) us ds
  | [], _, _, r, q => by rw [relDs_nil_inv r] at q; cases q; exact .nil
  | d :: ds, _, _, r, q => by
    obtain ⟨v, s, rfl, h1, h2⟩ := relDs_cons_inv r
    cases q with
    | cons q1 q2 => exact .cons ⟨v, q1, h1⟩ (each_rel h2 q2)
theorem rel_each : ∀ {ds : List D} {us : List Value}, PySem.W.EachIs (ItemR W A H) us ds → ∃ vs, Vals vs us ∧ RelDs W A H ds vs
  | [], _, .nil => ⟨[], .nil, relDs_nil⟩
  | d :: ds, _, .cons ⟨x, h1, h2⟩ q => by
    obtain ⟨vs, g1, g2⟩ := rel_each q
    exact ⟨x :: vs, .cons h1 g1, by unfold RelDs; exact ⟨x, vs, rfl, h2, g2⟩⟩
theorem each_reads {K : PySem.W.Frag} {pins : List (Addr × Obj)} {σ : St} {s : Shared} (I : Inv X pins σ H s) : ∀ {ds : List D} {vs : List V} {us : List Value} {ps : List PyData}, RelDs W A H ds vs → Vals vs us → toPs ds = some ps → PySem.W.EachIs (fun v d => ∃ as, PySem.Reads s.heap v (encD d) as) us ds
  | [], _, _, _, r, q, _ => by rw [relDs_nil_inv r] at q; cases q; exact .nil
  | d :: ds, _, _, _, r, q, e => by
    obtain ⟨v, s', rfl, h1, h2⟩ := relDs_cons_inv r
    unfold toPs at e
    obtain ⟨p, e1, e⟩ := Option.bind_eq_some_iff.mp e
    obtain ⟨qs, e2, _⟩ := Option.map_eq_some_iff.mp e
    cases q with
    | cons q1 q2 =>
      refine .cons ?_ (each_reads (K := K) I h2 q2 e2)
      have ed : encD d = p := by unfold encD; rw [e1]; rfl
      rw [ed]
      exact Dp.reads I p v _ (relD_dp h1 e1) q1
/-- sorted(v): v's items as they come, then the sort -/
theorem sort_run {pins : List (Addr × Obj)} {σ : St} {s : Shared} {Q : VK} {v : Value} {ds : List D} {ps : List PyData} (hu : X.A.units + 66 < cLine) (t : Tk A H)
    (hcol : wpAny (model X.prog X.w) X.A.in1 (collect v) (fun us s1 => ∃ vs, Inv X pins σ H s1 ∧ Vals vs us ∧ RelDs W A H ds vs) X.xe s)
    (e : toPs ds = some ps) (h1 : allAlike ps = true) (h2 : sortable ps = true) (h3 : ps.all (fun p => decide (p.depth ≤ 60)) = true) (h4 : ds.length ≤ cap)
    (q : ∀ p ws, H p = none → RelDs W A H (ds.mergeSort leD) ws → Q (.ref p) (upd H p (.lst ws))) : wpAny (model X.prog X.w) X.A (call (.builtin "sorted") [v]) (EP X pins σ Q) X.xe s := by
  have em := toPs_enc e
  have hal : PySem.W.AllAlike (ds.map encD) := by
    rw [em]
    intro d hd d' hd'
    unfold allAlike at h1
    exact List.all_eq_true.mp (List.all_eq_true.mp h1 d hd) d' hd'
  have hk : PySem.W.Sortable (ds.map encD) := by
    rw [em]
    unfold sortable at h2
    rcases Bool.or_eq_true_iff.mp h2 with h2 | h2
    · refine .inl fun d hd => ?_
      have := List.all_eq_true.mp h2 d hd
      split at this
      · exact ⟨_, _, rfl⟩
      · cases this
    · refine .inr fun d hd => ?_
      have := List.all_eq_true.mp h2 d hd
      split at this
      · cases this
      · cases this
      · rename_i n1 n2
        exact ⟨n1, n2⟩
  refine PyProof.Rows.call_function_entry_kw PyProof.Rows.kind_sorted PyProof.Rows.plain_sorted PyProof.Rows.entry_sorted (PyProof.Rows.args_sorted1 _) ?_
  unfold Builtin.«sorted»
  refine wpAny_bind (m := checkCount "sorted" 1 1 _) (wpAny_pure ?_)
  refine wpAny_bind (wpAny_mono hcol (fun us s1 hh => ?_) fun _ _ z => z)
  obtain ⟨vs, I1, rv, rs⟩ := hh
  have lu : us.length = ds.length := by rw [← rv.length, relDs_len rs]
  have hz : us.length ≤ sizeLine := by rw [lu]; exact Nat.le_trans h4 cap_le
  refine wpAny_bind (PySem.wpAny_newList ?_ hz)
  have hp : (s1.heap.push { cls := .type "list", data := .seq us.toArray }).get? s1.heap.objs.size = some (PyProof.Rows.seqObj "list" us.toArray 0) := Heap.get?_push_size _ rfl
  have er : PySem.W.EachIs (fun v d => ∃ as, PySem.Reads (s1.heap.push { cls := .type "list", data := .seq us.toArray }) v (encD d) as ∧ s1.heap.objs.size ∉ as) us ds :=
    (each_reads (K := X.K) I1 rs rv e).mono fun v d ⟨as, r⟩ => ⟨as, PyProof.Rows.Reads.keeps (fun b o => Heap.get?_push_of_some _) r, fun m => by
      obtain ⟨o, q⟩ := PyProof.On.reads_mem_get r _ m
      exact absurd (Heap.lt_size q) (Nat.lt_irrefl _)⟩
  refine wpAny_bind (wpAny_holding (PySem.W.list_sort_data (s := { s1 with heap := s1.heap.push { cls := .type "list", data := .seq us.toArray } }) (R := ItemR W A H) (enc := encD) (bs := ds) hp (each_rel rs rv) er hal hk (Nat.le_trans h4 cap_le) (fun b hb => ?_) fun out lo eo => ?_))
  · have : encD b ∈ ps := by rw [← em]; exact List.mem_map_of_mem hb
    have := of_decide_eq_true (List.all_eq_true.mp h3 _ this)
    show X.A.units + 1 + 1 + _ < _
    omega
  · obtain ⟨ws, g1, g2⟩ := rel_each eo
    obtain ⟨ep, he'⟩ := PyProof.Rows.sortedHeap_at (out := out.toArray) hp
    have hlen : ws.length ≤ sizeLine := by
      rw [← relDs_len g2, List.length_mergeSort]
      exact Nat.le_trans h4 cap_le
    refine wpAny_pure ⟨_, rfl, .ref s1.heap.objs.size, upd H s1.heap.objs.size (.lst ws), I1.laid (t' := s1.toks) (fun b o z => ?_) (Nat.le_refl _) ⟨hlen, out, ep, g1, he'⟩, rfl, q _ ws (I1.hok.fresh (Nat.le_refl _)) g2⟩
    have hlt := Heap.lt_size z
    rw [PyProof.Rows.sortedHeap_old (Nat.ne_of_lt hlt) (by rw [Heap.size_push]; exact Nat.lt_succ_of_lt hlt)]
    exact Heap.get?_push_of_some _ z
theorem col_seq {pins : List (Addr × Obj)} {σ : St} {s : Shared} {a : Addr} {T : String} {ds : List D} {vs : List V} {us : List Value} {o : Obj} {n : Nat} {A' : Around} {E : Value → Shared → Prop} (hT : T = "list" ∨ T = "tuple") (I : Inv X pins σ H s) (ho : s.heap.get? a = some o) (hc : o.cls = .type T) (hd : o.data = .seq us.toArray n) (rv : Vals vs us) (rs : RelDs W A H ds vs) (hz : us.length ≤ sizeLine) :
    wpAny (model X.prog X.w) A' (collect (.ref a)) (fun us s1 => ∃ vs, Inv X pins σ H s1 ∧ Vals vs us ∧ RelDs W A H ds vs) E s :=
  PySem.wpAny_collect_seq a hT ho hc hd (fun h' hk => ⟨vs, I.kept (t' := s.toks) hk, by simpa using rv, rs⟩) (by simpa using hz)
theorem cd_sorted (hu : X.A.units + 66 < cLine) : CallD X W (.builtin "sorted") bSorted := .of fun pins s σ H A xs d vs us Q I ru t r e q => by
  unfold bSorted at e
  split at e
  · rename_i ds
    obtain ⟨ps, ep, e⟩ := Option.bind_eq_some_iff.mp e
    obtain ⟨hh, e⟩ := Option.ite_none_right_eq_some.mp e
    cases e
    obtain ⟨v, rfl, h⟩ := relDs1_inv r
    obtain ⟨a, ws, rfl, _, ha, rs⟩ := relD_lst_inv h
    obtain ⟨u, rfl, rv⟩ := vals1 ru
    cases rv
    obtain ⟨its, n, z, r2, e1⟩ := lst_at I ha
    simp only [Bool.and_eq_true, decide_eq_true_eq] at hh
    obtain ⟨⟨⟨h1, h2⟩, h3⟩, h4⟩ := hh
    exact sort_run hu t (col_seq (.inl rfl) I e1 rfl rfl r2 rs (by rw [← r2.length]; exact z)) ep h1 h2 h3 h4 fun p ws hp rw' => q _ _ (same_new hp) (relD_new_lst t hp rw')
  · rename_i ds
    obtain ⟨ps, ep, e⟩ := Option.bind_eq_some_iff.mp e
    obtain ⟨hh, e⟩ := Option.ite_none_right_eq_some.mp e
    cases e
    obtain ⟨v, rfl, h⟩ := relDs1_inv r
    obtain ⟨a, ws, rfl, _, ha, rs⟩ := relD_tup_inv h
    obtain ⟨u, rfl, rv⟩ := vals1 ru
    cases rv
    obtain ⟨z, its, r2, o, e1, hc, n, hd⟩ := I.hok a _ ha
    simp only [Bool.and_eq_true, decide_eq_true_eq] at hh
    obtain ⟨⟨⟨h1, h2⟩, h3⟩, h4⟩ := hh
    exact sort_run hu t (col_seq (.inr rfl) I e1 hc hd r2 rs (by rw [← r2.length]; exact z)) ep h1 h2 h3 h4 fun p ws hp rw' => q _ _ (same_new hp) (relD_new_lst t hp rw')
  · cases e
end
end Tr
/- Tr22 -/
/-! Tr, part 22: join, split, bit_length, get. -/
namespace Tr
open PySem L2
section
variable {X : Cx} {W : Wd} {E : XK} {o e f : Expr} {mo me mf : EM} {apos pos : Pos}
theorem isStrD_inv {A : Addr → Prop} {H : Hp} {x : D} {v : V} (h : isStrD x = true) (r : RelD W A H x v) : ∃ z, x = .str z ∧ v = .str z := by
  cases x with
  | str z => exact ⟨z, rfl, relD_str_inv r⟩
  | _ => cases h
theorem se_join (ho : SE X W E o mo) (he : SE X W E e me) (hs : starEach [e] X.env = [(false, eval e X.env)] := by rfl) (hbase : attributeBase o "join" X.env (eval o X.env) = eval o X.env := by rfl) (hline : (apos.endLine == pos.line) = true := by rfl) :
    SE X W E (.Call (.Attribute o "join" apos) [e] [] pos) (eM1 isStrD mJoin mo me) := by
  obtain ⟨to, po, ko⟩ := ho
  obtain ⟨te, pe, ke⟩ := he
  refine ⟨_, pe_join po pe hs hbase hline, fun Φ H F ρ σ Q I h => ?_⟩
  refine ko _ _ _ _ _ _ I (h.bnd fun x ρ1 v H1 F1 _ I1 x1 r1 h1 => ?_)
  split at h1
  · rename_i hx
    obtain ⟨z, rfl, rfl⟩ := isStrD_inv hx r1
    refine ⟨⟨z, rfl⟩, ke _ _ _ _ _ _ I1 (h1.bnd fun y ρ2 u H2 F2 _ I2 x2 r2 h2 => ?_)⟩
    obtain ⟨d, ed, h3⟩ := optR_post h2
    obtain ⟨ys, ey, ed⟩ := Option.bind_eq_some_iff.mp (show (strsOf y).bind _ = some d from ed)
    obtain ⟨hc, ed⟩ := Option.ite_none_right_eq_some.mp ed
    cases ed
    have hc' : (ys.map (·.length)).sum + ys.length * z.length ≤ 16777216 := Nat.le_trans hc (by decide)
    cases y with
    | lst ds =>
      obtain ⟨p, vs, rfl, _, hp, rs⟩ := relD_lst_inv r2
      rw [relDs_strs rs ey] at hp
      exact ⟨z, p, ys, rfl, rfl, .inl (.inl hp), hc', h3 _ _ _ I2 (Ext.refl _ _) relD_str⟩
    | tup ds =>
      obtain ⟨p, vs, rfl, _, hp, rs⟩ := relD_tup_inv r2
      rw [relDs_strs rs ey] at hp
      exact ⟨z, p, ys, rfl, rfl, .inr (.of hp), hc', h3 _ _ _ I2 (Ext.refl _ _) relD_str⟩
    | _ => cases ey
  · exact h1.elim
theorem se_split (ho : SE X W E o mo) (he : SE X W E e me) (hs : starEach [e] X.env = [(false, eval e X.env)] := by rfl) (hbase : attributeBase o "split" X.env (eval o X.env) = eval o X.env := by rfl) (hline : (apos.endLine == pos.line) = true := by rfl) :
    SE X W E (.Call (.Attribute o "split" apos) [e] [] pos) (eM1 isStrD mSplit mo me) := by
  obtain ⟨to, po, ko⟩ := ho
  obtain ⟨te, pe, ke⟩ := he
  refine ⟨_, pe_split po pe hs hbase hline, fun Φ H F ρ σ Q I h => ?_⟩
  refine ko _ _ _ _ _ _ I (h.bnd fun x ρ1 v H1 F1 _ I1 x1 r1 h1 => ?_)
  split at h1
  · rename_i hx
    obtain ⟨z, rfl, rfl⟩ := isStrD_inv hx r1
    refine ⟨⟨z, rfl⟩, ke _ _ _ _ _ _ I1 (h1.bnd fun y ρ2 u H2 F2 _ I2 x2 r2 h2 => ?_)⟩
    obtain ⟨d, ed, h3⟩ := optR_post h2
    cases y with
    | str b =>
      obtain ⟨hc, ed⟩ := Option.ite_none_right_eq_some.mp (show (if b.length ≠ 0 ∧ z.length + 2 ≤ cap then some (D.lst ((Txt.split z b).map .str)) else none) = some d from ed)
      cases ed
      exact ⟨z, b, rfl, by rw [relD_str_inv r2], by simpa using hc.1, Nat.le_trans hc.2 cap_le, fun p hp => h3 _ _ F2 (I2.same (same_new hp)).1 (I2.same (same_new hp)).2 (relD_new_lst I2.tk hp relDs_ofStrs)⟩
    | _ => cases ed
  · exact h1.elim
theorem se_bits (ho : SE X W E o mo) (hbase : attributeBase o "bit_length" X.env (eval o X.env) = eval o X.env := by rfl) (hline : (apos.endLine == pos.line) = true := by rfl) : SE X W E (.Call (.Attribute o "bit_length" apos) [] [] pos) (eUn mBits mo) := by
  obtain ⟨to, po, ko⟩ := ho
  refine ⟨_, pe_bits po hbase hline, fun Φ H F ρ σ Q I h => ?_⟩
  refine ko _ _ _ _ _ _ I (h.bnd fun x ρ1 v H1 F1 _ I1 x1 r1 h1 => ?_)
  obtain ⟨d, ed, h2⟩ := optR_post h1
  cases x with
  | int i =>
    cases ed
    exact ⟨i, relD_int_inv r1, h2 _ _ _ I1 (Ext.refl _ _) relD_int⟩
  | _ => cases ed
theorem isDicD_inv {A : Addr → Prop} {H : Hp} {x : D} {v : V} (h : isDicD x = true) (r : RelD W A H x v) : ∃ a, v = .ref a ∧ IsD H a := by
  cases x with
  | dK kvs => unfold RelD at r; obtain ⟨a, ws, rfl, _, hh, _⟩ := r; exact ⟨a, rfl, .inl ⟨_, hh⟩⟩
  | dT kvs => unfold RelD at r; obtain ⟨a, ws, rfl, _, hh, _⟩ := r; exact ⟨a, rfl, .inr ⟨_, hh⟩⟩
  | _ => cases h
theorem se_dget1 (hu : X.A.units + 1 < cLine) (ho : SE X W E o mo) (he : SE X W E e me) (m : M1 X o "get" apos e pos := by exact ⟨rfl, rfl, rfl, rfl⟩) : SE X W E (.Call (.Attribute o "get" apos) [e] [] pos) (eM1 isDicD mGet1 mo me) := by
  obtain ⟨to, po, ko⟩ := ho
  obtain ⟨te, pe, ke⟩ := he
  refine ⟨_, pe_dget1 hu po pe m, fun Φ H F ρ σ Q I h => ?_⟩
  refine ko _ _ _ _ _ _ I (h.bnd fun x ρ1 v H1 F1 _ I1 x1 r1 h1 => ?_)
  split at h1
  · rename_i hx
    obtain ⟨a, rfl, isd⟩ := isDicD_inv hx r1
    refine ⟨a, rfl, isd, ke _ _ _ _ _ _ I1 (h1.bnd fun y ρ2 u H2 F2 _ I2 x2 r2 h2 => ?_)⟩
    obtain ⟨d, ed, h3⟩ := optR_post h2
    obtain ⟨oo, eo, rfl⟩ := Option.map_eq_some_iff.mp (show (lookD x y).map _ = some d from ed)
    obtain ⟨b, r, eb, g, g1, g2⟩ := look_run r2 (r1.ext x2) eo
    cases eb
    cases oo with
    | none =>
      have : r = none := by
        cases r with
        | none => rfl
        | some _ => cases g2
      subst this
      exact ⟨none, g, h3 _ _ _ I2 (Ext.refl _ _) relD_non⟩
    | some dd =>
      obtain ⟨z, rfl, rz⟩ := g1 dd rfl
      exact ⟨some z, g, h3 _ _ _ I2 (Ext.refl _ _) rz⟩
  · exact h1.elim
end
end Tr
/- Tr23 -/
/-! Tr, part 23: dict displays; more targets. -/
namespace Tr
open PySem L2
section
variable {W : Wd} {A : Addr → Prop} {H : Hp}
theorem relKs_any {kvs : List (Key × D)} {ws : List (Key × V)} {k : Key} (r : RelKs W A H kvs ws) : (ws.any fun kv => decide (kv.1 = k)) = (kvs.any fun kv => decide (kv.1 = k)) := by
  induction kvs generalizing ws with
  | nil => unfold RelKs at r; rw [r]; rfl
  | cons p kvs ih =>
    obtain ⟨k', d⟩ := p
    unfold RelKs at r
    obtain ⟨v, s, rfl, _, h2⟩ := r
    rw [List.any_cons, List.any_cons, ih h2]
theorem relKs_map {k : Key} {d : D} {v : V} (hd : RelD W A H d v) : ∀ {kvs : List (Key × D)} {ws : List (Key × V)}, RelKs W A H kvs ws → RelKs W A H (kvs.map fun kv => if kv.1 = k then (kv.1, d) else kv) (ws.map fun kv => if kv.1 = k then (kv.1, v) else kv)
  | [], _, r => by unfold RelKs at r; rw [r]; unfold RelKs; rfl
  | (k', x) :: kvs, _, r => by
    unfold RelKs at r
    obtain ⟨y, s, rfl, h1, h2⟩ := r
    rw [List.map_cons, List.map_cons]
    by_cases e : k' = k
    · simp only [e, if_true]
      unfold RelKs
      exact ⟨v, _, rfl, hd, by have := relKs_map (k := k) hd h2; simpa using this⟩
    · simp only [e, if_false]
      unfold RelKs
      exact ⟨y, _, rfl, h1, by have := relKs_map (k := k) hd h2; simpa using this⟩
theorem relKs_snoc {k : Key} {d : D} {v : V} (hd : RelD W A H d v) : ∀ {kvs : List (Key × D)} {ws : List (Key × V)}, RelKs W A H kvs ws → RelKs W A H (kvs ++ [(k, d)]) (ws ++ [(k, v)])
  | [], _, r => by unfold RelKs at r; rw [r]; unfold RelKs RelKs; exact ⟨v, [], rfl, hd, rfl⟩
  | (k', x) :: kvs, _, r => by
    unfold RelKs at r
    obtain ⟨y, s, rfl, h1, h2⟩ := r
    rw [List.cons_append, List.cons_append]
    unfold RelKs
    exact ⟨y, _, rfl, h1, relKs_snoc hd h2⟩
theorem relKs_put {kvs : List (Key × D)} {ws : List (Key × V)} {k : Key} {d : D} {v : V} (r : RelKs W A H kvs ws) (hd : RelD W A H d v) : RelKs W A H (putD kvs k d) (putK ws k v) := by
  unfold putD putK
  rw [relKs_any r]
  split
  · exact relKs_map hd r
  · exact relKs_snoc hd r
theorem relKs_merge : ∀ {ks : List Key} {ds : List D} {vs : List V} {kvs : List (Key × D)} {ws : List (Key × V)}, RelKs W A H kvs ws → RelDs W A H ds vs → RelKs W A H (mergeD kvs (ks.zip ds)) (mergeK ws (ks.zip vs))
  | [], _, _, _, _, r, _ => r
  | k :: ks, [], _, _, _, r, q => by rw [relDs_nil_inv q]; exact r
  | k :: ks, d :: ds, _, kvs, ws, r, q => by
    obtain ⟨v, s, rfl, h1, h2⟩ := relDs_cons_inv q
    show RelKs W A H (mergeD (putD kvs k d) (ks.zip ds)) (mergeK (putK ws k v) (ks.zip s))
    exact relKs_merge (relKs_put r h1) h2
end
theorem RS.unplus {W : Wd} {Φ : Fx} {H : Hp} {F : List Addr} {ρ : Env} {σ : St} {p : Addr} (I : RS W (Φ.plus p) H F ρ σ) : RS W Φ H F ρ σ ∧ Ext (own (Φ.plus p).O F) H (own Φ.O F) H := by
  have k : ∀ a, own Φ.O F a → own (Φ.plus p).O F a := fun a z => z.imp .inl id
  exact ⟨⟨I.sl.ext (ext_sub k) fun _ _ _ q => q, I.nd, I.st, I.fr, fun a ha => I.oo a (.inl ha), fun a m ha => I.dj a m (.inl ha), I.k0⟩, ext_sub k⟩
section
variable {X : Cx} {W : Wd} {E : XK} {e e2 e3 k v : Expr} {es : List Expr} {mv : EM} {ml : LM} {pos p : Pos}
/-- the pairs of a display -/
structure SPs (X : Cx) (W : Wd) (E : XK) (pos : Pos) (keys : List (Option Expr)) (values : List Expr) (ks : List Key) (m : LM) : Prop where
  ex : ∃ trs, PPs X pos keys values trs ∧ ∀ (Φ : Fx) (H : Hp) (F : List Addr) (ρ : Env) (σ : St) (Q : List (V × V) → Hp → Prop), RS W Φ H F ρ σ →
    Post (fun A H ds ps => ∃ vs, RelDs W A H ds vs ∧ ds.length = ks.length ∧ ps = (ks.zip vs).map fun kv => (kV kv.1, kv.2)) W Φ E σ (own Φ.O F) H Q (m ρ) → tPairs trs σ H Q
theorem sp_nil : SPs X W E pos [] [] [] lNil := ⟨_, pps_nil, fun Φ H F ρ σ Q I h => h _ _ _ I (Ext.refl _ _) ⟨[], relDs_nil, rfl, rfl⟩⟩
theorem sp_cons {x : Str} {j : Nat} {kp : Pos} {keys : List (Option Expr)} {values : List Expr} {ks : List Key} (hv : SE X W E v mv) (hr : SPs X W E pos keys values ks ml) : SPs X W E pos (some (.Constant (.str x) j kp) :: keys) (v :: values) (.inr x :: ks) (lCons mv ml) := by
  obtain ⟨tv, pv, kk⟩ := hv
  obtain ⟨tr, pr, kr⟩ := hr
  refine ⟨_, pps_cons pe_str pv pr, fun Φ H F ρ σ Q I h => ?_⟩
  refine kk _ _ _ _ _ _ I (h.bnd fun d ρ1 y H1 F1 _ I1 x1 r1 h1 => ?_)
  refine kr _ _ _ _ _ _ I1 (h1.bnd fun ds ρ2 ps H2 F2 _ I2 x2 ⟨vs, rs, hl, ep⟩ h2 => ?_)
  refine h2 _ _ _ I2 (Ext.refl _ _) ⟨y :: vs, ?_, by rw [List.length_cons, List.length_cons, hl], ?_⟩
  · unfold RelDs; exact ⟨y, vs, rfl, r1.ext x2, rs⟩
  · rw [ep]; rfl
theorem se_disp {keys : List (Option Expr)} {values : List Expr} {ks : List Key} (h : SPs X W E0 pos keys values ks ml) (hall : keys.all (·.isSome) = true := by rfl) (hl : keys.length = values.length := by rfl) (h0 : keys ≠ [] := by exact fun z => nomatch z) (h15 : keys.length ≤ 15 := by decide) :
    SE X W E (.Dict keys values pos) (eDisp ks ml) := by
  obtain ⟨trs, pp, kk⟩ := h
  refine ⟨_, pe_disp pp hall hl h0 h15, fun Φ H F ρ σ Q I h => ?_⟩
  intro p hp
  have h : PostE W Φ E σ (own Φ.O F) H Q (bnd (noX (ml ρ)) fun ds ρ => if ds.length = ks.length ∧ ks.length ≤ 15 then .ok (.dK (mergeD [] (ks.zip ds))) ρ else .bad) := h
  obtain ⟨I1, x1⟩ := I.apart (o := .dK []) hp
  have h0' := I.h0 hp
  have nO : ¬ Φ.O p := fun o => by
    obtain ⟨u, q⟩ := I.oo p o
    rw [hp] at q; cases q
  refine kk _ _ _ _ _ _ I1.turn ?_
  cases em : ml ρ with
  | exc c d ρ1 => rw [em] at h; exact h.elim
  | bad => rw [em] at h; exact h.elim
  | ok ds ρ1 =>
    rw [em] at h
    have h : PostE W Φ E σ (own Φ.O F) H Q (if ds.length = ks.length ∧ ks.length ≤ 15 then .ok (.dK (mergeD [] (ks.zip ds))) ρ1 else .bad) := h
    split at h
    case isFalse => exact h.elim
    rename_i hc
    intro ps H2 F2 J2 x2 ⟨vs, rs, hlen, ep⟩
    obtain ⟨I2, st2⟩ := I1.back J2
    have nF : p ∉ F := fun m => I1.dj p m (.inr rfl)
    have hp2 : H2 p = some (.dK []) := st2 p _ upd_same nF
    obtain ⟨I3, x3⟩ := I2.rewrite (o := .dK (mergeK [] (ks.zip vs))) h0'
    obtain ⟨I4, x4⟩ := I3.unplus
    refine ⟨hp2, ks.zip vs, ep, ?_, h _ _ F2 I4 (((x1.trans x2).trans x3).trans x4) ?_⟩
    · rw [List.length_zip]; omega
    · unfold RelD
      refine ⟨p, _, rfl, fun o => ?_, .inl upd_same, relKs_merge (by unfold RelKs; rfl) (rs.ext (x3.trans x4))⟩
      rcases o with o | o
      · exact nO o
      · exact I3.dj p o (.inr rfl)
/-! ### targets -/
theorem sg_lst {n : Nat} {kk : Nat} {is : List Nat} {mr : List Tr.D → Env → Option Env} (hc : X.calm = true) (h : SGs X W es is mr) (hn : (assignEach es X.env).length = n := by rfl) (hst : (assignEach es X.env).findIdx? (·.1) = none := by rfl) : SG X W (.Tuple es kk pos) is (gLstM n mr) := by
  obtain ⟨u, q, l⟩ := h
  refine ⟨_, pg_lst hc q hn hst, fun Φ H F ρ ρ' σ N d v I r h q => ?_⟩
  cases d with
  | lst ds =>
    obtain ⟨hl, h⟩ := Option.ite_none_right_eq_some.mp (show (if ds.length = n then mr ds ρ else none) = some ρ' from h)
    obtain ⟨a, vs, rfl, _, ha, rs⟩ := relD_lst_inv r
    exact ⟨a, vs, rfl, .inl ha, by rw [← relDs_len rs]; exact hl, l _ _ _ _ _ _ _ _ _ I rs h q⟩
  | _ => cases h
theorem ss_par3 {a b c : Expr} {i j l : Nat} {x y z : Str} {px py pz pt : Pos} {kt k2 pt2} (hl : SA X W E [a, b, c] ml) (hc : X.calm = true) (hN : X.N.Nodup) (hi : X.N[i]? = some x) (hj : X.N[j]? = some y) (hk : X.N[l]? = some z) (hij : i ≠ j) (hil : i ≠ l) (hjl : j ≠ l)
    (hx : X.env.scope.names.lookup x = some .local) (hy : X.env.scope.names.lookup y = some .local) (hz : X.env.scope.names.lookup z = some .local)
    (hw : swappedStores [.Tuple [.Name x px, .Name y py, .Name z pz] kt pt] (.Tuple [a, b, c] k2 pt2) X.env = pure (some [x, y, z]))
    (hs : swapsWithSole [.Tuple [.Name x px, .Name y py, .Name z pz] kt pt] (.Tuple [a, b, c] k2 pt2) pos.line X.env = pure false := by rfl) :
    SS X W E (.Assign [.Tuple [.Name x px, .Name y py, .Name z pz] kt pt] (.Tuple [a, b, c] k2 pt2) pos) (sPar3 i j l ml) := by
  obtain ⟨t, pp, k⟩ := hl
  refine ⟨_, ps_par3 hc hN hi hj hk hij hil hjl hx hy hz pp hw hs, fun Φ H F ρ σ D I h => ?_⟩
  refine k _ _ _ _ _ _ I (PostS.bnd h fun xs ρ1 vs H1 F1 _ I1 x1 r1 h1 => ?_)
  match xs, r1, h1 with
  | [d, d', d''], r1, h1 =>
    obtain ⟨v, s1, rfl, rv, r1⟩ := relDs_cons_inv r1
    obtain ⟨u, w, rfl, ru, rw'⟩ := relDs2_inv r1
    have h1 : PostS W Φ E D (if i < ρ1.length ∧ j < ρ1.length ∧ l < ρ1.length then .ok none (((ρ1.set i (.val d)).set j (.val d')).set l (.val d'')) else .bad) := h1
    split at h1
    · rename_i hlt
      obtain ⟨F2, I2, x2⟩ := I1.setVal (List.getElem?_eq_getElem hlt.1) rv
      have hlt2 : j < (ρ1.set i (.val d)).length := by rw [List.length_set]; exact hlt.2.1
      obtain ⟨F3, I3, x3⟩ := I2.setVal (List.getElem?_eq_getElem hlt2) (ru.ext x2)
      have hlt3 : l < ((ρ1.set i (.val d)).set j (.val d')).length := by rw [List.length_set, List.length_set]; exact hlt.2.2
      obtain ⟨F4, I4, _⟩ := I3.setVal (List.getElem?_eq_getElem hlt3) (rw'.ext (x2.trans x3))
      exact ⟨v, u, w, rfl, h1 _ _ _ I4⟩
    · exact h1.elim
  | [], _, h1 => exact h1.elim
  | [_], _, h1 => exact h1.elim
  | [_, _], _, h1 => exact h1.elim
  | _ :: _ :: _ :: _ :: _, _, h1 => exact h1.elim
/-- a, b = (a new list), []: both one's own -/
theorem ss_parL {a : Expr} {i j : Nat} {x y : Str} {px py pt lp : Pos} {kt k2 pt2} (hl : SN X W E a ml) (hc : X.calm = true) (hN : X.N.Nodup) (hi : X.N[i]? = some x) (hj : X.N[j]? = some y) (hij : i ≠ j)
    (hx : X.env.scope.names.lookup x = some .local) (hy : X.env.scope.names.lookup y = some .local) (hw : swappedStores [.Tuple [.Name x px, .Name y py] kt pt] (.Tuple [a, .List [] lp] k2 pt2) X.env = pure (some [x, y]))
    (hs : swapsWithSole [.Tuple [.Name x px, .Name y py] kt pt] (.Tuple [a, .List [] lp] k2 pt2) pos.line X.env = pure false := by rfl) (hst : starEach [a, .List [] lp] X.env = (false, eval a X.env) :: starEach [.List [] lp] X.env := by rfl) :
    SS X W E (.Assign [.Tuple [.Name x px, .Name y py] kt pt] (.Tuple [a, .List [] lp] k2 pt2) pos) (sParL i j ml) := by
  obtain ⟨t, pp, k⟩ := hl
  refine ⟨_, ps_par hc hN hi hj hij hx hy (pa_cons pp (pa_cons (pe_lst pa_nil) pa_nil) hst) hw hs, fun Φ H F ρ σ D I h => ?_⟩
  refine k _ _ _ _ _ _ I ?_
  unfold sParL at h
  cases em : ml ρ with
  | exc c d ρ1 => rw [em] at h; exact fun dx v H' F' I' => h dx v _ H' F' I'
  | bad => rw [em] at h; exact h
  | ok xs ρ1 =>
    rw [em] at h
    have h : PostS W Φ E D (if i ≠ 0 ∧ j ≠ 0 ∧ i ≠ j ∧ i < ρ1.length ∧ j < ρ1.length then .ok none ((ρ1.set i (.ol xs)).set j (.ol [])) else .bad) := h
    split at h
    case isFalse => exact h.elim
    rename_i hcc
    obtain ⟨c1, c2, c3, c4, c5⟩ := hcc
    intro vs H1 F1 q I1 x1 r1 hq
    obtain ⟨F2, I2, x2⟩ := I1.lnew (i := i) hq r1 c1 c4
    refine ⟨by show 0 ≤ sizeLine; exact Nat.zero_le _, fun q2 hq2 => ?_⟩
    obtain ⟨F3, I3, x3⟩ := I2.lnew (i := j) (ds := []) (vs := []) hq2 relDs_nil c2 (by rw [List.length_set]; exact c5)
    exact ⟨_, _, rfl, h _ _ _ I3⟩
end
end Tr
/- Tr24 -/
/-! Tr, part 24: slices with a step. -/
namespace Tr
open PySem L2
def pickA {α : Type} (xs : List α) (lo st : Option Int) : List α := (PySem.sliceRange (PySem.sliceBounds lo none st xs.length).1 (PySem.sliceBounds lo none st xs.length).2.1 (PySem.sliceBounds lo none st xs.length).2.2).filterMap (xs[·]?)
/-- x[lo::st], x a list -/
def vPick (x : D) (lo st : Option Int) : Option D := match x with
  | .lst ds => if st ≠ some 0 ∧ (pickA ds lo st).length ≤ cap then some (.lst (pickA ds lo st)) else none
  | _ => none
def eSliceK (a : EM) (lo st : OM) : EM := fun ρ => bnd (a ρ) fun x ρ => bnd (lo ρ) fun l ρ => bnd (st ρ) fun k ρ => optR (vPick x l k) ρ
def tSlK (K : PySem.W.Frag) (te : TE) (tl tk : TO) : TE := fun σ H Q => te σ H fun x H1 => tl σ H1 fun l H2 => tk σ H2 fun k H3 => ∃ a xs, x = .ref a ∧ SqL K H3 a xs ∧ k ≠ some 0 ∧ (pickA xs l k).length ≤ sizeLine ∧ ∀ p, H3 p = none → Q (.ref p) (upd H3 p (.lst (pickA xs l k)))
section
variable {X : Cx} {W : Wd} {E : XK} {e s1 : Expr} {lo st : Option Expr} {te : TE} {tl tk : TO} {m : EM} {ml mk : OM} {p2 pos : Pos}
theorem vals_pick {vs : List V} {us : List Value} (r : Vals vs us) : ∀ is : List Nat, Vals (is.filterMap (vs[·]?)) (is.filterMap (us[·]?))
  | [] => .nil
  | i :: is => by
    rw [List.filterMap_cons, List.filterMap_cons]
    cases h : vs[i]? with
    | none =>
      have : us[i]? = none := by
        rw [List.getElem?_eq_none_iff] at h ⊢
        rw [← r.length]; exact h
      rw [this]
      exact vals_pick r is
    | some v =>
      obtain ⟨u, hu, ru⟩ := r.get h
      rw [hu]
      exact .cons ru (vals_pick r is)
theorem relDs_pick {A : Addr → Prop} {H : Hp} {ds : List D} {vs : List V} (r : RelDs W A H ds vs) : ∀ is : List Nat, RelDs W A H (is.filterMap (ds[·]?)) (is.filterMap (vs[·]?))
  | [] => relDs_nil
  | i :: is => by
    rw [List.filterMap_cons, List.filterMap_cons]
    cases h : ds[i]? with
    | none =>
      have : vs[i]? = none := by
        rw [List.getElem?_eq_none_iff] at h ⊢
        rw [← relDs_len r]; exact h
      rw [this]
      exact relDs_pick r is
    | some v =>
      obtain ⟨u, hu, ru⟩ := relDs_at r h
      rw [hu]
      exact relDs_cons ru (relDs_pick r is)
theorem pe_slK (he : PE X e te) (hl : PO X lo tl) (hk : PO X (some s1) tk) : PE X (.Subscript e (.Slice lo none (some s1) p2) pos) (tSlK X.K te tl tk) := by
  refine ⟨fun pins s σ H Q I h => ?_⟩
  refine PyProof.Rows.Subscript_ (thn (he.run pins s σ H _ I h) fun v s1 ⟨x, H1, I1, r1, q1⟩ => ?_)
  refine wpAny_Slice (thn (hl.run pins s1 σ H1 _ I1 q1) fun vl s2 ⟨l, H2, I2, pl, q2⟩ => ?_)
  rw [evalPart_none]
  refine wpAny_pure (thn (hk.run pins s2 σ H2 _ I2 q2) fun vk s3 ⟨k, H3, I3, pk, q3⟩ => ?_)
  obtain ⟨a, xs, rfl, hs, k0, hz, q⟩ := q3
  cases r1
  have I4 : Inv X pins σ H3 { s3 with heap := s3.heap.push { cls := .type "slice", data := .fields #[vl, .none, vk] } } := I3.kept (t' := s3.toks) fun b ob q => Heap.get?_push_of_some _ q
  obtain ⟨its, rv, hL, hz2⟩ := I4.list hs
  refine PyProof.Rows.tail_any (ops := [.ref a, .ref s3.heap.objs.size]) hL.isList.typeIs slot_list_getitem.lookup (wpAny_getItem_list_slice hL.isList (Heap.IsSliceOf.new ..) pl .none pk k0 ?_ (by rw [List.size_toArray, ← rv.length]; exact hz2)) (by with_unfolding_all rfl)
  have e : slicePick its.toArray l none k = (pickA its l k).toArray := by
    unfold slicePick pickA
    simp
  rw [e]
  have rp : Vals (pickA xs l k) (pickA its l k) := by
    unfold pickA
    rw [← rv.length]
    exact vals_pick rv _
  exact ⟨.ref _, _, I4.lnew (t' := s3.toks) rp hz, rfl, q _ I4.fresh⟩
theorem se_sliceK (he : SE X W E e m) (hl : SO X W E lo ml) (hk : SO X W E (some s1) mk) : SE X W E (.Subscript e (.Slice lo none (some s1) p2) pos) (eSliceK m ml mk) := by
  obtain ⟨te, pe, ke⟩ := he
  obtain ⟨tl, pl, kl⟩ := hl
  obtain ⟨tk, pk, kk⟩ := hk
  refine ⟨_, pe_slK pe pl pk, fun Φ H F ρ σ Q I h => ?_⟩
  refine ke _ _ _ _ _ _ I (h.bnd fun x ρ1 v H1 F1 _ I1 x1 r1 h1 => ?_)
  refine kl _ _ _ _ _ _ I1 (h1.bnd fun l ρ2 l' H2 F2 _ I2 x2 r2 h2 => ?_)
  refine kk _ _ _ _ _ _ I2 (h2.bnd fun k ρ3 k' H3 F3 _ I3 x3 r3 h3 => ?_)
  subst r2; subst r3
  obtain ⟨d, ed, h4⟩ := optR_post h3
  cases x with
  | lst ds =>
    obtain ⟨hc, ed⟩ := Option.ite_none_right_eq_some.mp (show (if k ≠ some 0 ∧ (pickA ds l k).length ≤ cap then some (D.lst (pickA ds l k)) else none) = some d from ed)
    cases ed
    obtain ⟨a, vs, rfl, _, ha, rs⟩ := relD_lst_inv ((r1.ext x2).ext x3)
    have rp : RelDs W (own Φ.O F3) H3 (pickA ds l k) (pickA vs l k) := by
      unfold pickA
      rw [← relDs_len rs]
      exact relDs_pick rs _
    exact ⟨a, vs, rfl, .inl ha, hc.1, by rw [← relDs_len rp]; exact Nat.le_trans hc.2 cap_le, fun p hp => h4 _ _ F3 (I3.same (same_new hp)).1 (I3.same (same_new hp)).2 (relD_new_lst I3.tk hp rp)⟩
  | _ => cases ed
end
end Tr
/- Tr25 -/
/-! Tr, part 25: a dict in a field of an instance of one's own. -/
namespace Tr
open PySem L2
section
variable {W : Wd} {A : Addr → Prop} {H : Hp}
theorem relFs_dk : ∀ {fs : List FV} {vs : List (Option V)} {G : List Addr} {j : Nat} {kvs : List (Key × D)}, RelFs W A H fs vs G → fs[j]? = some (.dK kvs) → ∃ p ws L R, G = L ++ (p :: R) ∧ vs[j]? = some (some (.ref p)) ∧ H p = some (.dK ws) ∧ RelKs W A H kvs ws ∧
    ∀ (A' : Addr → Prop) (H' : Hp) (kvs' : List (Key × D)) (ws' : List (Key × V)), Ext A H A' H' → (∀ a, a ∈ L ∨ a ∈ R → ∀ o, H a = some o → H' a = some o) → H' p = some (.dK ws') → RelKs W A' H' kvs' ws' → RelFs W A' H' (fs.set j (.dK kvs')) vs G
  | [], _, _, j, _, _, e => by cases j <;> cases e
  | f :: fs, _, _, 0, kvs, ⟨v, r, G1, G2, e1, e2, h1, h2⟩, e => by
    cases e
    obtain ⟨p, ws, rfl, rfl, hp, rk⟩ := h1
    subst e1; subst e2
    refine ⟨p, ws, [], G2, rfl, rfl, hp, rk, fun A' H' kvs' ws' x k hp' rk' => ?_⟩
    exact ⟨_, r, [p], G2, rfl, rfl, ⟨p, ws', rfl, rfl, hp', rk'⟩, h2.ext x fun a m => k a (.inr m)⟩
  | f :: fs, _, _, j + 1, kvs, ⟨v, r, G1, G2, e1, e2, h1, h2⟩, e => by
    obtain ⟨p, ws, L, R, q1, q2, q3, q4, q5⟩ := relFs_dk h2 (by simpa using e)
    subst e1; subst e2; subst q1
    refine ⟨p, ws, G1 ++ L, R, by simp [List.append_assoc], by simpa using q2, q3, q4, fun A' H' kvs' ws' x k hp' rk' => ?_⟩
    exact ⟨v, r, G1, L ++ (p :: R), rfl, rfl, h1.ext x fun a m => k a (.inl (List.mem_append_left _ m)), q5 A' H' kvs' ws' x (fun a m => k a (m.imp (List.mem_append_right _) id)) hp' rk'⟩
end
section
variable {W : Wd} {Φ : Fx} {H : Hp} {F : List Addr} {ρ : Env} {σ : St} {i c j : Nat}
theorem RS.dk {kvs : List (Key × D)} (I : RS W Φ H F ρ σ) (e : dkOAt i c j ρ = some kvs) : ∃ (a p : Addr) (vs : List (Option V)) (ws : List (Key × V)) (fs : List FV), ρ[i]? = some (.oi c fs) ∧ fs[j]? = some (.dK kvs) ∧ σ[i]? = some (some (.ref a)) ∧ InsV W (fun _ => False) H c a vs ∧ vs[j]? = some (some (.ref p)) ∧ H p = some (.dK ws) ∧
    RelKs W (own Φ.O F) H kvs ws ∧ own Φ.O F p ∧ ∀ (kvs' : List (Key × D)) (ws' : List (Key × V)), (∀ A H', Ext (own Φ.O F) H A H' → RelKs W A H' kvs' ws') → ∃ F', RS W Φ (L2.upd H p (.dK ws')) F' (ρ.set i (.oi c (fs.set j (.dK kvs')))) σ := by
  unfold dkOAt at e
  split at e
  · rename_i c' fs q0
    split at e
    · rename_i hc
      subst hc
      split at e
      · rename_i kv ej
        cases e
        have k0 := I.k0
        have nd := I.nd
        obtain ⟨v, F1, Fi, F2, e1, eF, hsl, up⟩ := I.upd q0
        obtain ⟨a, vs, G1, G2, eFi, rfl, hi, hf⟩ := hsl
        obtain ⟨p, ws, L, R, eG, hv, hp, rk, upf⟩ := relFs_dk hf ej
        have pFi : p ∈ Fi := by rw [eFi, eG]; simp
        have pF : p ∈ F := by rw [eF]; simp [pFi]
        refine ⟨a, p, vs, ws, fs, q0, ej, e1, hi.ins, hv, hp, rk, .inr pF, fun kvs' ws' hr => ?_⟩
        have ndi : Fi.Nodup := by
          rw [eF] at nd
          exact (List.nodup_append.mp (List.nodup_append.mp nd).2.1).1
        have ndd := ndi
        rw [eFi, eG] at ndi
        obtain ⟨n1, n2, n12⟩ := List.nodup_append.mp ndi
        obtain ⟨n3, n4, n34⟩ := List.nodup_append.mp n2
        obtain ⟨n5, _⟩ := List.nodup_cons.mp n4
        have x : Ext (own Φ.O F) H (own Φ.O (F1 ++ (Fi ++ F2))) (L2.upd H p (.dK ws')) := fun b o q z => by
          rw [← eF]
          exact ⟨by rw [upd_ne fun w => z (.inr (by rw [w]; exact pF))]; exact q, z⟩
        have kp : ∀ b o, b ≠ p → H b = some o → L2.upd H p (.dK ws') b = some o := fun b o n q => by rw [upd_ne n]; exact q
        obtain ⟨I', _⟩ := up (L2.upd H p (.dK ws')) (.oi c' (fs.set j (.dK kvs'))) (some (.ref a)) Fi (fun b o q z => kp b o (fun w => z (by rw [w]; exact pFi)) q) (fun b m => .inl m) ndd
          (fun hi0 _ => by
            subst hi0
            have := k0 _ q0 rfl
            rw [e1] at this
            exact Option.some.inj this)
          ⟨a, vs, G1, G2, eFi, rfl, OwnI.ext (fun b m o q => kp b o (fun w => n12 b m b (by rw [w]; simp) rfl) q) hi,
            upf _ _ kvs' ws' x (fun b m o q => kp b o (fun w => by
              rcases m with m | m
              · exact n34 b m p List.mem_cons_self w
              · exact n5 (by rw [← w]; exact m)) q) upd_same (hr _ _ x)⟩
        rw [set_same e1] at I'
        exact ⟨_, I'⟩
      · cases e
    · cases e
  · cases e
end
section
variable {X : Cx} {W : Wd} {E : XK} {e o value : Expr} {ma mv : EM} {pos p : Pos} {i c j : Nat} {m : Str}
theorem relD_flatA {A A' : Addr → Prop} {H : Hp} {d : D} {v : V} (h : RelD W A H d v) (f : isFlat d = true) : RelD W A' H d v := by
  cases d <;> first | (unfold RelD at h ⊢; exact h) | cases f
theorem flat_post {Φ : Fx} {σ : St} {B : Addr → Prop} {H : Hp} {Q : VK} {oo : Option D} {ρ : Env} (h : PostE W Φ E σ B H Q (flatR oo ρ)) : ∃ d, oo = some d ∧ isFlat d = true ∧ PostE W Φ E σ B H Q (.ok d ρ) := by
  unfold flatR at h
  split at h
  · rename_i d
    split at h
    · rename_i hf
      exact ⟨d, rfl, hf, h⟩
    · exact h.elim
  · exact h.elim
theorem relD_ownK {Φ : Fx} {H : Hp} {F : List Addr} {kvs : List (Key × D)} {ws : List (Key × V)} {p : Addr} (hp : H p = some (.dK ws)) (rk : RelKs W (own Φ.O F) H kvs ws) : RelD W (fun _ => False) H (.dK kvs) (.ref p) := by
  unfold RelD
  exact ⟨p, ws, rfl, fun z => z, .inl hp, rk.ext (ext_sub fun _ z => z.elim)⟩
theorem opOD_run {g : D → D → Option D} {r : R2} {Φ : Fx} {H : Hp} {F : List Addr} {ρ : Env} {σ : St} {Q : VK} {x : D} {v : V} (f : FD X.K W c j m)
    (kr : ∀ (A : Addr → Prop) (H : Hp) (x y d : D) (v u : V) (Q : VK), Tk A H → RelD W A H x v → RelD W A H y u → g x y = some d → (∀ z H', Same H H' → RelD W A H' d z → Q z H') → r v u H Q)
    (I : RS W Φ H F ρ σ) (rx : RelD W (own Φ.O F) H x v) (h : PostE W Φ E σ (own Φ.O F) H Q (match dkOAt i c j ρ with
      | some kvs => flatR (g x (.dK kvs)) ρ
      | none => .bad)) : tFd W c j (tVar i) σ H fun u H' => r v u H' Q := by
  cases e : dkOAt i c j ρ with
  | none => rw [e] at h; exact h.elim
  | some kvs =>
    rw [e] at h
    obtain ⟨d, ed, hf, h2⟩ := flat_post h
    obtain ⟨a, p, vs, ws, fs, _, _, h1, hi, hv, hp, rk, _, _⟩ := I.dk e
    refine ⟨_, h1, a, _, vs, .ref p, rfl, hi, hv, ?_⟩
    refine kr (fun _ => False) H x (.dK kvs) d v (.ref p) Q (fun _ z => z.elim) (rx.ext (ext_sub fun _ z => z.elim)) (relD_ownK hp rk) ed fun z H' k rz => ?_
    exact h2 z H' F (I.same k).1 (I.same k).2 (relD_flatA rz hf)
theorem se_cmpOD {op : CmpOp} {g : D → D → Option D} {y : Str} {py fpos : Pos} (f : FD X.K W c j m) (ho : OpD X W (compareOp op) g) (ha : SE X W E e ma) (hN : X.N[i]? = some y := by rfl)
    (hv : Vis X.env.scope y := by first | exact Or.inl rfl | exact Or.inr (Or.inl rfl) | exact Or.inr (Or.inr rfl)) (hd : (y == ("__debug__" : Str)) = false := by decide) (hcd : (y == ("__classdict__" : Str)) = false := by decide)
    (hb : attributeBase (.Name y py) m X.env (eval (.Name y py) X.env) = eval (.Name y py) X.env := by rfl) (hm : behindInMarks op (.Attribute (.Name y py) m fpos) = false := by rfl) : SE X W E (.Compare e [op] [.Attribute (.Name y py) m fpos] pos) (eOpOD g i c j ma) := by
  obtain ⟨ta, pa, ka⟩ := ha
  obtain ⟨r, hr, kr⟩ := ho
  refine ⟨_, pe_cmpR hr pa (pe_fd (pe_var (i := i) hN hv hd hcd) f hb) hm, fun Φ H F ρ σ Q I h => ?_⟩
  exact ka _ _ _ _ _ _ I (h.bnd fun x ρ1 v H1 F1 _ I1 x1 r1 h1 => opOD_run f kr I1 r1 h1)
theorem st_cmpOD {op : CmpOp} {g : D → D → Option D} {y : Str} {py fpos : Pos} (f : FD X.K W c j m) (ho : OpD X W (compareOp op) g) (ha : SE X W E e ma) (hN : X.N[i]? = some y := by rfl)
    (hv : Vis X.env.scope y := by first | exact Or.inl rfl | exact Or.inr (Or.inl rfl) | exact Or.inr (Or.inr rfl)) (hd : (y == ("__debug__" : Str)) = false := by decide) (hcd : (y == ("__classdict__" : Str)) = false := by decide)
    (hb : attributeBase (.Name y py) m X.env (eval (.Name y py) X.env) = eval (.Name y py) X.env := by rfl) (hm : behindInMarks op (.Attribute (.Name y py) m fpos) = false := by rfl) : ST X W E (.Compare e [op] [.Attribute (.Name y py) m fpos] pos) (tE (eOpOD g i c j ma)) := by
  obtain ⟨ta, pa, ka⟩ := ha
  obtain ⟨r, hr, kr⟩ := ho
  refine ⟨_, pt_cmpR hr pa (pe_fd (pe_var (i := i) hN hv hd hcd) f hb) hm, fun Φ H F ρ σ Q I h => tb_run (m := eOpOD g i c j ma) (fun Φ H F ρ σ Q I h => ?_) I h⟩
  exact ka _ _ _ _ _ _ I (h.bnd fun x ρ1 v H1 F1 _ I1 x1 r1 h1 => opOD_run f kr I1 r1 h1)
/-- len(self.f) -/
theorem se_biOD {x y : Str} {id : String} {g : List D → Option D} {py fpos : Pos} (f : FD X.K W c j m) (hc : CallD X W (.builtin id) g) (hg : Gl X x) (hm : X.mg x = none) (hbt : bootBuiltins x = some (.builtin id)) (hN : X.N[i]? = some y := by rfl)
    (hv : Vis X.env.scope y := by first | exact Or.inl rfl | exact Or.inr (Or.inl rfl) | exact Or.inr (Or.inr rfl)) (hd : (y == ("__debug__" : Str)) = false := by decide) (hcd : (y == ("__classdict__" : Str)) = false := by decide)
    (hb : attributeBase (.Name y py) m X.env (eval (.Name y py) X.env) = eval (.Name y py) X.env := by rfl) (hn : x ≠ "__name__" := by decide) (hdb : (x == ("__debug__" : Str)) = false := by decide)
    (he : starEach [.Attribute (.Name y py) m fpos] X.env = (false, eval (.Attribute (.Name y py) m fpos) X.env) :: starEach [] X.env := by rfl) (hpl : (backTo pos (starEach [] X.env)).any (·.1) = false := by rfl) :
    SE X W E (.Call (.Name x p) [.Attribute (.Name y py) m fpos] [] pos) (eBOD g i c j) := by
  obtain ⟨r, hr, kr⟩ := hc
  refine ⟨_, pe_callB hr hg hm hbt (pa_cons (pe_fd (pe_var (i := i) hN hv hd hcd) f hb) pa_nil he) hn hdb he hpl, fun Φ H F ρ σ Q I h => ?_⟩
  unfold eBOD at h
  cases e : dkOAt i c j ρ with
  | none => rw [e] at h; exact h.elim
  | some kvs =>
    rw [e] at h
    obtain ⟨d, ed, hf, h2⟩ := flat_post h
    obtain ⟨a, p, vs, ws, fs, _, _, h1, hi, hv, hp, rk, _, _⟩ := I.dk e
    refine ⟨_, h1, a, _, vs, .ref p, rfl, hi, hv, ?_⟩
    refine kr (fun _ => False) H [.dK kvs] d [.ref p] Q (fun _ z => z.elim) (relDs_one (relD_ownK hp rk)) ed fun z H' k rz => ?_
    exact h2 z H' F (I.same k).1 (I.same k).2 (relD_flatA rz hf)
/-- self.m = {} -/
theorem ss_newDK {y : Str} {py fpos dp : Pos} (f : FD X.K W c j m) (hN : X.N[i]? = some y := by rfl)
    (hvi : Vis X.env.scope y := by first | exact Or.inl rfl | exact Or.inr (Or.inl rfl) | exact Or.inr (Or.inr rfl)) (hd : (y == ("__debug__" : Str)) = false := by decide) (hcd : (y == ("__classdict__" : Str)) = false := by decide)
    (hs : swapsWith (.Dict [] [] dp) (some (.Attribute (.Name y py) m fpos)) pos.line X.env = pure false := by rfl) : SS X W E (.Assign [.Attribute (.Name y py) m fpos] (.Dict [] [] dp) pos) (sNewDK (W.sl c) c i j) := by
  refine ⟨_, ps_fd (pe_var (i := i) hN hvi hd hcd) pe_dnewK f hs, fun Φ H F ρ σ D I h => ?_⟩
  intro p hp
  unfold sNewDK at h
  split at h
  · rename_i c' fs q0
    split at h
    · rename_i hc
      subst hc
      cases ep : putF (W.sl c') j (.dK []) fs with
      | none => rw [ep] at h; exact h.elim
      | some fs' =>
        rw [ep] at h
        have np : ¬ own Φ.O F p := I.free hp
        obtain ⟨a, ha, z⟩ := own_put (K := X.K) (Gj := [p]) (H1 := upd H p (.dK [])) (y := .ref p) f I q0 ep (same_new hp) (by simp) (fun b m => by rw [List.mem_singleton.mp m]; exact hp) (fun H' => D.nx σ H')
          (fun A H2 hA kH => ⟨p, [], rfl, rfl, kH p _ upd_same np, by unfold RelKs; rfl⟩) (fun H2 F2 I2 => h _ _ _ I2)
        exact ⟨_, ha, a, rfl, z⟩
    · exact h.elim
  · exact h.elim
theorem putO_inv {k : Key} {d : D} {ρ ρ' : Env} (h : putO c i j k d ρ = some ρ') : ∃ kvs, dkOAt i c j ρ = some kvs ∧ kvs.length < cap ∧ ∀ fs, ρ[i]? = some (.oi c fs) → ρ' = ρ.set i (.oi c (fs.set j (.dK (putD kvs k d)))) := by
  unfold putO at h
  split at h
  · rename_i c' fs q
    split at h
    · rename_i hc
      subst hc
      split at h
      · rename_i kvs ej
        obtain ⟨hl, h⟩ := Option.ite_none_right_eq_some.mp h
        cases h
        refine ⟨kvs, ?_, hl, fun fs' q' => ?_⟩
        · unfold dkOAt
          rw [q]
          simp [ej]
        · rw [q] at q'; cases q'; rfl
      · cases h
    · cases h
  · cases h
theorem keyOf_V {A : Addr → Prop} {H : Hp} {x : D} {v : V} {k : Key} (h : keyOf x = some k) (r : RelD W A H x v) : v = kV k := by
  cases x with
  | int i => cases h; exact relD_int_inv r
  | str i => cases h; exact relD_str_inv r
  | _ => cases h
/-- self.m[z] = value -/
theorem ss_setDK {l : Nat} {y z : Str} {py pz fpos spos : Pos} (hu : X.A.units + 1 < cLine) (f : FD X.K W c j m) (hval : SE X W E value mv) (hN : X.N[i]? = some y := by rfl)
    (hv : Vis X.env.scope y := by first | exact Or.inl rfl | exact Or.inr (Or.inl rfl) | exact Or.inr (Or.inr rfl)) (hd : (y == ("__debug__" : Str)) = false := by decide) (hcd : (y == ("__classdict__" : Str)) = false := by decide)
    (hN2 : X.N[l]? = some z := by rfl) (hv2 : Vis X.env.scope z := by first | exact Or.inl rfl | exact Or.inr (Or.inl rfl) | exact Or.inr (Or.inr rfl)) (hd2 : (z == ("__debug__" : Str)) = false := by decide) (hcd2 : (z == ("__classdict__" : Str)) = false := by decide)
    (hb : attributeBase (.Name y py) m X.env (eval (.Name y py) X.env) = eval (.Name y py) X.env := by rfl)
    (ha : ∀ v, assign (.Subscript (.Attribute (.Name y py) m fpos) (.Name z pz) spos) X.env v = (do
      let ov ← holding [v] (eval (.Attribute (.Name y py) m fpos) X.env)
      let iv ← holding [v, ov] (eval (.Name z pz) X.env)
      standAt spos
      holding [v, ov, iv] (setItem ov iv v)
      release [v, ov, iv] []) := by intro _; rfl)
    (hs : swapsWithSole [.Subscript (.Attribute (.Name y py) m fpos) (.Name z pz) spos] value pos.line X.env = pure false := by rfl) (hw : swappedStores [.Subscript (.Attribute (.Name y py) m fpos) (.Name z pz) spos] value X.env = pure none := by rfl)
    (h1 : (assignEach [.Subscript (.Attribute (.Name y py) m fpos) (.Name z pz) spos] X.env).map (·.2) = [assign (.Subscript (.Attribute (.Name y py) m fpos) (.Name z pz) spos) X.env] := by rfl) :
    SS X W E (.Assign [.Subscript (.Attribute (.Name y py) m fpos) (.Name z pz) spos] value pos) (sSetDK c i j l mv) := by
  obtain ⟨tv, pv, kv⟩ := hval
  refine ⟨_, ps_asg pv (pg_sub (pe_fd (pe_var (i := i) hN hv hd hcd) f hb) (pe_var (i := l) hN2 hv2 hd2 hcd2) (set_dict hu) ha) hs hw h1, fun Φ H F ρ σ D I h => ?_⟩
  refine kv _ _ _ _ _ _ I (PostS.bnd h fun d ρ1 v H1 F1 _ I1 x1 r1 h1 => ?_)
  split at h1
  · rename_i x qx
    split at h1
    · rename_i ρ' e'
      obtain ⟨k, ek, ep⟩ := Option.bind_eq_some_iff.mp e'
      obtain ⟨kvs, edk, hl, hρ⟩ := putO_inv ep
      obtain ⟨a, p, vs, ws, fs, qi, _, g1, hi, hvv, hp, rk, hop, up⟩ := I1.dk edk
      obtain ⟨u, eu, ru⟩ := I1.sl.val qx
      obtain ⟨F2, I2⟩ := up (putD kvs k d) (putK ws k v) fun A H' xt => relKs_put (rk.ext xt) (r1.ext xt)
      rw [hρ fs qi] at h1
      refine ⟨_, g1, a, _, vs, .ref p, rfl, hi, hvv, _, eu, p, _, rfl, .inl ⟨ws, k, hp, keyOf_V ek ru, ?_, rfl⟩, h1 _ _ _ I2⟩
      rw [← relKs_len rk]
      exact Nat.lt_of_lt_of_le hl cap_le
    · exact h1.elim
  · exact h1.elim
end
end Tr
/- Tr26 -/
/-! Tr, part 26: tuple(a dict). -/
namespace Tr
open PySem L2
section
variable {prog : Program} {w : World} {A : Around} {E : Value → Shared → Prop} {s : Shared} {T : String} {r d : Addr} {n : Nat} {P : Nat → Value → Prop} {OK : Heap → Prop}
theorem new_tuple_of {Q₁ : Value → Shared → Prop} (K : PySem.W.KdlSrc prog w T r d n P OK) (hh : A.handled = none) (hok : OK s.heap) (hn : n ≤ sizeLine)
    (h : ∀ (h' : Heap) (tk : Nat) (acc : Array Value), (∀ b o, s.heap.get? b = some o → h'.get? b = some o) → ItemsOf P acc n → Q₁ (.ref h'.objs.size) { s with heap := h'.push { cls := .type "tuple", data := .seq acc }, toks := tk }) :
    codeAny (model prog w) A (.call (.builtin "tuple.__new__") ⟨[.type "tuple", .ref r], []⟩) (wants Q₁ E) s := by
  refine codeAny_of_tree ?_
  show wpAny _ A.in1 (do checkBuiltinCall "tuple.__new__" ⟨[.type "tuple", .ref r], []⟩; again (.builtin "tuple.__new__" ⟨[.type "tuple", .ref r], []⟩)) _ _ s
  refine wpAny_bind (wpAny_of_eq (F.newCall_tuple_1 _) (wpAny_pure ⟨plainId_quiet F.plain_tuple_new _, codeAny_builtin F.entry_tuple_new ?_⟩))
  rw [Around.under_plainId F.plain_tuple_new _]
  have hT : s.TypeIs (.ref r) T := K.type s hok
  have n1 := K.notTuple
  have hsub := sub_tuple_self
  have hinit := init_tuple_lookup
  have hmh := madeHere_tuple
  obtain ⟨hp, g, dd, tk, os⟩ := s
  wp_walk using wpAny_typeOf hT, PySem.W.kdu_collect (A := A.in1) (s := ⟨hp, g, dd, tk, os⟩) K (show A.in1.handled = none from hh) hok hn
  intro h' tk' acc hk hacc
  show wpAny _ _ (Builtin.Tuple.tupleExact acc.toList.toArray >>= fun v => ret v) _ _ _
  unfold Builtin.Tuple.tupleExact
  refine wpAny_bind (wpAny_newObj_type ?_ (by show acc.toList.toArray.size ≤ sizeLine; simp only [Array.toArray_toList]; rw [hacc.1]; exact hn))
  refine wpAny_pure ?_
  have e : acc.toList.toArray = acc := by simp
  rw [e]
  exact h h' tk' acc hk hacc
theorem call_tuple_src {Q : Value → Shared → Prop} (K : PySem.W.KdlSrc prog w T r d n P OK) (hh : A.handled = none) (hok : OK s.heap) (hn : n ≤ sizeLine)
    (h : ∀ (h' : Heap) (tk : Nat) (acc : Array Value), (∀ b o, s.heap.get? b = some o → h'.get? b = some o) → ItemsOf P acc n → Q (.ref h'.objs.size) { s with heap := h'.push { cls := .type "tuple", data := .seq acc }, toks := tk }) :
    wpAny (model prog w) A (call (.type "tuple") [.ref r]) Q E s := by
  refine callType_codes (Q₁ := fun obj s₁ => s₁.TypeIs obj "tuple" ∧ Q obj s₁) F.called_tuple (F.typeCall_tuple_1 _) F.entry_object_init
    (new_tuple_of K hh hok hn fun h' tk acc hk hacc => ⟨⟨_, Heap.get?_push_size _ rfl, rfl⟩, h h' tk acc hk hacc⟩) fun obj s₁ h₁ => ?_
  exact ⟨h₁.1, F.args_object_init_2 obj _, object_init_meets F.called_tuple.init.lookup F.called_tuple.made (by decide) prog w A.in1 _ s₁ ⟨h₁.1, rfl, h₁.2⟩⟩
end
/-- tuple(x): a list, a tuple, a dict -/
def bTup : List D → Option D
  | [.dK kvs] => if kvs.length ≤ cap then some (.tup (kvs.map fun p => keyT p.1)) else none
  | xs => bTuple xs
section
variable {X : Cx} {W : Wd}
theorem kv_get {P : Program} {w : World} : ∀ {ws : List (Key × V)} {vs : List (Key × Value)} {i : Nat} {k : Key} {x : Value}, KV ws vs → vs[i]? = some (k, x) → ∃ v, ws[i]? = some (k, v)
  | _, _, i, _, _, .nil, e => by cases i <;> cases e
  | _, _, 0, k, x, .cons (a := p) h t, e => by
    cases e
    obtain ⟨k', v'⟩ := p
    obtain ⟨h1, _⟩ := h
    have h1 : k' = k := h1
    subst h1
    exact ⟨v', rfl⟩
  | _, _, i + 1, k, x, .cons (a := p) h t, e => by
    obtain ⟨v, hv⟩ := kv_get (P := P) (w := w) (i := i) (k := k) (x := x) t (by simpa using e)
    exact ⟨v, by simpa using hv⟩
theorem relDs_keys {A : Addr → Prop} {H : Hp} : ∀ {kvs : List (Key × D)} {ws : List (Key × V)}, RelKs W A H kvs ws → RelDs W A H (kvs.map fun p => keyT p.1) (ws.map fun p => kV p.1)
  | [], _, r => by unfold RelKs at r; rw [r]; exact relDs_nil
  | (k, d) :: kvs, _, r => by
    unfold RelKs at r
    obtain ⟨v, s, rfl, _, h2⟩ := r
    exact relDs_cons relD_key (relDs_keys h2)
theorem cd_tup (hc : X.calm = true) : CallD X W (.type "tuple") bTup := .of fun pins s σ H A xs d vs us Q I ru t r e q => by
  unfold bTup at e
  split at e
  · rename_i kvs
    obtain ⟨hl, e⟩ := Option.ite_none_right_eq_some.mp e
    cases e
    obtain ⟨v, rfl, h⟩ := relDs1_inv r
    unfold RelD at h
    obtain ⟨a, ws, rfl, _, ha, rk⟩ := h
    obtain ⟨u, rfl, rv⟩ := vals1 ru
    cases rv
    obtain ⟨z, hd, kvs', rel, dd⟩ := dk_rd I.hok ha
    obtain ⟨ep, da⟩ := dd.dictAt
    have ll : kvs'.length = ws.length := (Paired.length rel).symm
    refine call_tuple_src (PySem.W.kdl_dict (knd := mixKind X.prog X.w) hd) (I.ok.hd hc) da (by rw [ll]; exact z) fun h' tk acc hk hacc => ?_
    have I1 : Inv X pins σ H { s with heap := h', toks := tk } := I.kept hk
    have hv : Vals (ws.map fun p => kV p.1) acc.toList := by
      refine vals_of_idx _ _ (by rw [List.length_map, Array.length_toList, hacc.1, ll]) fun j u hu => ?_
      rw [Array.getElem?_toList] at hu
      obtain ⟨k, x, h1, h2⟩ := hacc.2 j u hu
      obtain ⟨v, h3⟩ := kv_get (P := X.prog) (w := X.w) rel h1
      exact ⟨kV k, by rw [List.getElem?_map, h3]; rfl, relV_key h2⟩
    have I2 : Inv X pins σ (upd H h'.objs.size (.tup (ws.map fun p => kV p.1))) { s with heap := h'.push { cls := .type "tuple", data := .seq acc }, toks := tk } :=
      I1.laid (t' := tk) (fun b o e => Heap.get?_push_of_some _ e) (Nat.le_refl _) (show ObjOk X.prog X.w _ _ _ (.tup (ws.map fun p => kV p.1)) from ⟨by rw [List.length_map]; exact z, acc.toList, hv, by have := PyProof.Rows.IsTup.new h' acc; simpa using this⟩)
    exact ⟨.ref h'.objs.size, _, I2, rfl, q _ _ (same_new (I1.hok.fresh (Nat.le_refl _))) (relD_new_tup t (I1.hok.fresh (Nat.le_refl _)) (relDs_keys rk))⟩
  · exact (show _ from by
      obtain ⟨r', hr', kr'⟩ := (cd_tuple : CallD X W (.type "tuple") bTuple)
      exact hr' pins s σ H vs us Q I ru (kr' A H xs d vs Q t r e q))
end
end Tr
/- Tr27 -/
/-! Tr, part 27: dict comprehensions. -/
namespace Tr
open PySem L2
section
variable {X : Cx} {W : Wd} {E : XK} {kx vx tg iter : Expr} {ifs : List Expr} {scope : Scope} {oo : List (Str × Nat)} {pos : Pos} {it : LM} {g : GM} {tt : TM} {tk tv : EM} {is : List Nat}
theorem noX_invE {α : Type} {r : R α} {k : α → Env → R D} {Φ : Fx} {σ : St} {B : Addr → Prop} {H : Hp} {Q : VK} (h : PostE W Φ E σ B H Q (bnd (noX r) k)) : ∃ a ρ, r = .ok a ρ ∧ PostE W Φ E σ B H Q (k a ρ) := by
  cases r with
  | ok a ρ => exact ⟨a, ρ, rfl, h⟩
  | exc _ _ _ => exact h.elim
  | bad => exact h.elim
theorem putD_len {kvs : List (Key × D)} {k : Key} {d : D} : (putD kvs k d).length ≤ kvs.length + 1 := by
  unfold putD
  split
  · rw [List.length_map]; omega
  · rw [List.length_append, List.length_singleton]; exact Nat.le_refl _
theorem se_dcomp (hc : X.calm = true) (hN : X.N.Nodup) (hi : SI X W E tg iter it) (ok : BlkOk X.N X.env.scope scope oo) (his : ∀ i ∈ is, i ∈ oo.map (·.2))
    (hg : ∀ (s : Shared) (H : Hp) (C : Addr) (cl : List (Str × Addr)) (fp : List Addr), SG (X.blk s H scope (compEnvC scope cl C X.env) fp) W tg is g)
    (ht : ∀ (s : Shared) (H : Hp) (C : Addr) (cl : List (Str × Addr)) (fp : List Addr), STs (X.blk s H scope (compEnvC scope cl C X.env) fp) W E0 ifs tt)
    (hk : ∀ (s : Shared) (H : Hp) (C : Addr) (cl : List (Str × Addr)) (fp : List Addr), SE (X.blk s H scope (compEnvC scope cl C X.env) fp) W E0 kx tk)
    (he : ∀ (s : Shared) (H : Hp) (C : Addr) (cl : List (Str × Addr)) (fp : List Addr), SE (X.blk s H scope (compEnvC scope cl C X.env) fp) W E0 vx tv)
    (hs : ∀ x, foldedSetIterable iter X.env x = pure x := by intro _; rfl) :
    SE X W E (.DictComp kx vx [⟨tg, iter, ifs, 0⟩] scope pos) (eDComp it (oo.map (·.2)) g tt tk tv) := by
  obtain ⟨wi, pi, ki⟩ := hi
  refine ⟨_, pe_dc hc hN pi ok (fun s H C cl fp => (hg s H C cl fp).can) (fun s H C cl fp => (ht s H C cl fp).ex) (fun s H C cl fp => (hk s H C cl fp).can) (fun s H C cl fp => (he s H C cl fp).can) hs, fun Φ H F ρ σ Q I h => ?_⟩
  refine ki _ _ _ _ _ _ I trivial ?_
  unfold eDComp at h
  cases em : it ρ with
  | exc c d ρ1 => rw [em] at h; exact h
  | bad => rw [em] at h; exact h
  | ok xs ρ1 =>
    rw [em] at h
    have h : PostE W Φ E σ (own Φ.O F) H Q (if xs.length ≤ cap then bnd (dGo (oo.map (·.2)) g tt tk tv [] xs (wipeE ρ1 (oo.map (·.2)))) fun kvs ρ2 => .ok (.dK kvs) ρ2 else .bad) := h
    split at h
    case isFalse => exact h.elim
    rename_i hcap
    intro J H1 F1 I1 x1 itd
    intro D hD
    generalize hvs : oo.map (·.2) = vs at h his
    have start : ∃ F2, RS W (Φ.plus D) (upd H1 D (.dK [])) F2 (wipeE ρ1 vs) (wipe σ vs) ∧ Ext (own Φ.O F1) H1 (own (Φ.plus D).O F2) (upd H1 D (.dK [])) := by
      obtain ⟨I2, x2⟩ := I1.apart (o := .dK []) hD
      obtain ⟨F3, I3, x3⟩ := I2.wipe vs
      exact ⟨F3, I3, x2.trans x3⟩
    obtain ⟨F2, I2, x2⟩ := start
    have h0 := I1.h0 hD
    have nO : ¬ Φ.O D := fun o => by
      obtain ⟨u, q⟩ := I1.oo D o
      rw [hD] at q; cases q
    let Pv : Nat → Hp → Prop := fun i H' => ∃ (F' : List Addr) (ρ' : Env) (acc : List (Key × V)) (ds : List (Key × Tr.D)), RS W (Φ.plus D) H' F' (wipeE ρ' vs) (wipe σ vs) ∧ Ext (own Φ.O F1) H1 (own (Φ.plus D).O F') H' ∧ H' D = some (.dK acc) ∧
      RelKs W (own (Φ.plus D).O F') H' ds acc ∧ ds.length ≤ i ∧ PostE W Φ E σ (own Φ.O F) H Q (bnd (dGo vs g tt tk tv ds (xs.drop i) (wipeE ρ' vs)) fun kvs ρ2 => .ok (.dK kvs) ρ2)
    have P0 : Pv 0 (upd H1 D (.dK [])) := ⟨F2, ρ1, [], [], I2, x2, upd_same, by unfold RelKs; rfl, Nat.le_refl _, by rw [List.drop_zero]; exact h⟩
    refine ⟨fun i m H => m = xs.length - i ∧ i ≤ xs.length ∧ Pv i H, ⟨xs.length, by simp, Nat.zero_le _, P0⟩, ?_⟩
    rintro i m H' ⟨rfl, hi, F', ρ', acc, ds, I', x', hD', rs, hl, hq⟩
    have go := itd (own (Φ.plus D).O F') H' i x' I'.tk
    by_cases hlt : i < xs.length
    · have hx : xs[i]? = some xs[i] := List.getElem?_eq_getElem hlt
      obtain ⟨g1, g2⟩ := go.1 _ hx
      refine .inr ⟨g1, Pv (i + 1), fun H' p' => ⟨xs.length - (i + 1), by omega, rfl, hlt, p'⟩, fun x H2 y => ?_⟩
      obtain ⟨sm, rx⟩ := g2 x H2 y
      obtain ⟨I3, x3⟩ := I'.same sm
      rw [List.drop_eq_getElem_cons hlt] at hq
      have hq : PostE W Φ E σ (own Φ.O F) H Q (bnd (match g xs[i] (wipeE ρ' vs) with
        | none => .bad
        | some ρ1 => bnd (noX (tt ρ1)) fun b ρ2 => if b = true then bnd (noX (tk ρ2)) fun y ρ3 => bnd (noX (tv ρ3)) fun z ρ4 => match keyOf y with
          | some k => dGo vs g tt tk tv (putD ds k z) (xs.drop (i + 1)) (wipeE ρ4 vs)
          | none => .bad else dGo vs g tt tk tv ds (xs.drop (i + 1)) (wipeE ρ2 vs)) fun kvs ρ2 => .ok (.dK kvs) ρ2) := hq
      cases eg : g xs[i] (wipeE ρ' vs) with
      | none => rw [eg] at hq; exact hq.elim
      | some ρ2 =>
        rw [eg] at hq
        have It := I3.turn
        have nDF : D ∉ F' := fun m => I'.dj D m (.inr rfl)
        have hD2 : H2 D = some (.dK acc) := sm D _ hD'
        refine ⟨⟨(Φ.plus D).O, H2, F', (Φ.plus D).v0⟩, F', _, ρ2, _, It, rx, eg, fun σ4 F4 I4 x4 f4 => ?_⟩
        have w4 : L2.wipe σ4 vs = L2.wipe σ vs := f4.wipe his
        refine ⟨w4, ?_⟩
        simp only [bnd_assoc] at hq
        obtain ⟨b, ρ3, eb, hq⟩ := noX_invE hq
        refine ⟨_, F4, ρ2, I4, ?_⟩
        rw [eb]
        intro k H5 F5 I5 x5 ek
        subst ek
        cases b with
        | false =>
          show Pv (i + 1) H5
          obtain ⟨I6, st6⟩ := I3.back I5
          obtain ⟨F7, I7, x7⟩ := I6.wipe vs
          rw [w4] at I7
          have xx := ((x3.trans x4).trans x5).trans x7
          refine ⟨F7, ρ3, acc, ds, I7, x'.trans xx, st6 D _ hD2 nDF, rs.ext xx, by omega, ?_⟩
          simp only [Bool.false_eq_true, if_false] at hq
          exact hq
        | true =>
          simp only [if_true, bnd_assoc] at hq
          obtain ⟨y, ρ4, ey, hq⟩ := noX_invE hq
          show tM W E0 tk σ4 H5 _
          refine ⟨_, F5, ρ3, I5, ?_⟩
          rw [ey]
          intro v H6 F6 I6 x6 r6
          obtain ⟨z, ρ5, ez, hq⟩ := noX_invE hq
          refine ⟨_, F6, ρ4, I6, ?_⟩
          rw [ez]
          intro u H7 F7 I7 x7 r7
          obtain ⟨I8, st8⟩ := I3.back I7
          have hD7 := st8 D _ hD2 nDF
          cases ky : keyOf y with
          | none => rw [ky] at hq; exact hq.elim
          | some kk =>
            rw [ky] at hq
            obtain ⟨I9, x9⟩ := I8.rewrite (o := .dK (putK acc kk u)) h0
            obtain ⟨F10, I10, x10⟩ := I9.wipe vs
            rw [w4] at I10
            have xa := ((x3.trans x4).trans x5).trans (x6.trans x7)
            have xe := xa.trans (x9.trans x10)
            refine ⟨acc, kk, keyOf_V ky r6, hD7, ?_, F10, ρ5, putK acc kk u, putD ds kk z, I10, x'.trans xe, upd_same, relKs_put (rs.ext xe) (r7.ext (x9.trans x10)), Nat.le_trans putD_len (by omega), hq⟩
            rw [← relKs_len rs]
            exact Nat.lt_of_lt_of_le (Nat.lt_of_le_of_lt hl hlt) (Nat.le_trans hcap cap_le)
    · have e : i = xs.length := by omega
      refine .inl ⟨go.2 e, ?_⟩
      rw [e, List.drop_length] at hq
      have hq : PostE W Φ E σ (own Φ.O F) H Q (.ok (.dK ds) (wipeE ρ' vs)) := hq
      obtain ⟨I3, x3⟩ := I'.unplus
      have I4 := I3.unwipe fun j hj s q => wipeE_at hj q
      refine hq _ H' F' I4 (x1.trans (x'.trans x3)) ?_
      unfold RelD
      refine ⟨D, acc, rfl, fun o => ?_, .inl hD', rs.ext x3⟩
      rcases o with o | o
      · exact nO o
      · exact I'.dj D o (.inr rfl)
end
end Tr
/- Tr28 -/
/-! Tr, part 28: repr; len(set(texts)); powers of wide ints. -/
namespace Tr
open PySem L2
mutual
theorem toP_noDict : ∀ {d : D} {p : PyData}, toP d = some p → p.hasDict = false
  | .non, _, e => by unfold toP at e; cases e; simp only [PyData.hasDict]
  | .bl _, _, e => by unfold toP at e; cases e; simp only [PyData.hasDict]
  | .int _, _, e => by unfold toP at e; cases e; simp only [PyData.hasDict]
  | .str _, _, e => by unfold toP at e; cases e; simp only [PyData.hasDict]
  | .tup ds, _, e => by
    unfold toP at e
    obtain ⟨ps, e1, rfl⟩ := Option.map_eq_some_iff.mp e
    simp only [PyData.hasDict]
    exact toPs_noDict e1
  | .lst ds, _, e => by
    unfold toP at e
    obtain ⟨ps, e1, rfl⟩ := Option.map_eq_some_iff.mp e
    simp only [PyData.hasDict]
    exact toPs_noDict e1
  | .dK _, _, e => by unfold toP at e; cases e
  | .dT _, _, e => by unfold toP at e; cases e
  | .obj _ _, _, e => by unfold toP at e; cases e
theorem toPs_noDict : ∀ {ds : List D} {ps : List PyData}, toPs ds = some ps → PyData.hasDictAll ps = false
  | [], _, e => by unfold toPs at e; cases e; simp only [PyData.hasDictAll]
  | d :: ds, _, e => by
    unfold toPs at e
    obtain ⟨p, e1, e⟩ := Option.bind_eq_some_iff.mp e
    obtain ⟨ps, e2, rfl⟩ := Option.map_eq_some_iff.mp e
    simp only [PyData.hasDictAll, toP_noDict e1, toPs_noDict e2, Bool.or_self]
end
def bRepr : List D → Option D
  | [.tup ds] => (toP (.tup ds)).bind fun p => if p.showable = true ∧ p.depth ≤ 60 ∧ p.shown.length ≤ cap then some (.str p.shown) else none
  | _ => none
section
variable {X : Cx} {W : Wd}
theorem cd_repr (hG : X.A.guards = some []) (hu : X.A.units + 62 < cLine) : CallD X W (.builtin "repr") bRepr := .of fun pins s σ H A xs d vs us Q I ru t r e q => by
  unfold bRepr at e
  split at e
  · rename_i ds
    obtain ⟨p, ep, e⟩ := Option.bind_eq_some_iff.mp e
    obtain ⟨⟨h1, h2, h3⟩, e⟩ := Option.ite_none_right_eq_some.mp e
    cases e
    obtain ⟨v, rfl, h⟩ := relDs1_inv r
    obtain ⟨u, rfl, rv⟩ := vals1 ru
    obtain ⟨as, rd⟩ := Dp.reads I p v u (relD_dp h ep) rv
    obtain ⟨a, ws, rfl, _, _, _⟩ := relD_tup_inv h
    cases rv
    have hd := toP_noDict ep
    exact repr_of_reads' rd h1 (fun z => by rw [hd] at z; cases z) hG (by omega) (fun _ _ k => k) (fun h' u tk hk => ⟨.str p.shown, H, I.kept hk, ⟨u, rfl⟩, q _ _ (Same.refl _) relD_str⟩) (Nat.le_trans h3 cap_le)
  · cases e
/-- a wide base -/
def vPowW : D → D → Option D
  | .int a, .int b => if 0 ≤ b ∧ (Builtin.Int.intBits a : Int) * b ≤ 2 ^ 27 then some (.int (a ^ b.toNat)) else none
  | _, _ => none
theorem od_powW : OpD X W (binaryOp .Pow) vPowW := .of fun pins s σ H A x y d v u a b Q I ra rb t rx ry e q => by
  cases x with
  | int i =>
    cases y with
    | int j =>
      obtain ⟨h, e⟩ := Option.ite_none_right_eq_some.mp (show (if 0 ≤ j ∧ (Builtin.Int.intBits i : Int) * j ≤ 2 ^ 27 then some (D.int (i ^ j.toNat)) else none) = some d from e)
      cases e
      rw [relD_int_inv rx] at ra
      rw [relD_int_inv ry] at rb
      obtain ⟨t1, rfl⟩ := ra
      obtain ⟨t2, rfl⟩ := rb
      exact PyProof.Rows.pow_int h.1 h.2 ⟨.int _, H, I.tok _, ⟨_, rfl⟩, q _ _ (Same.refl _) relD_int⟩
    | _ => cases e
  | _ => cases e
end
end Tr
/- Tr29 -/
/-! Tr, part 29: a new instance, one's own. -/
namespace Tr
open PySem L2
section
variable {W : Wd} {Φ : Fx} {E : XK} {H : Hp} {F : List Addr} {ρ : Env} {σ : St} {c : Nat}
/-- a new instance becomes slot i's own -/
theorem RS.newI {i : Nat} {fs : List FV} {x : Addr} {H' : Hp} {F' : List Addr} (I : RS W Φ H F ρ σ) (hi : i ≠ 0) (hl : i < ρ.length) (sm : Same H H') (hF : ∀ a ∈ F', H a = none) (nd : F'.Nodup) (so : SlR W (own (own Φ.O F) F') H' (.oi c fs) (some (.ref x)) F') :
    ∃ F2, RS W Φ H' F2 (ρ.set i (.oi c fs)) (σ.set i (some (.ref x))) := by
  obtain ⟨v, F1, Fi, F2, e1, eF, hsl, up⟩ := I.upd (List.getElem?_eq_getElem hl)
  obtain ⟨I', _⟩ := up H' (.oi c fs) (some (.ref x)) F' (fun b o q _ => sm b o q) (fun b m => .inr (hF b m)) nd (fun z => absurd z hi) (so.sub fun a z => by
    rcases z with z | z
    · exact .inl (.inl z)
    · rcases List.mem_append.mp z with z | z
      · exact .inl (.inr (by rw [eF]; simp [z]))
      · rcases List.mem_append.mp z with z | z
        · exact .inr z
        · exact .inl (.inr (by rw [eF]; simp [z])))
  exact ⟨_, I'⟩
/-- as spF_make, the instance stays one's own -/
theorem spF_makeO {D : Ends} {i : Nat} {xs : List Tr.D} {vs : List V} {f : Fn} {x dx : Addr} (I : RS W Φ H F ρ σ) (r : RelDs W (own Φ.O F) H xs vs) (hx : H x = none) (hdx : H dx = none) (ne : dx ≠ x) (h : PostS W Φ E D (ofMakeI i ρ (f (.oi c [] :: xs.map .val)))) :
    spF W f (.ref x :: vs) (upd (upd H dx (.own x)) x (.ins (W.Ca c) dx [])) (fun v H2 => v = .non ∧ D.nx (σ.set i (some (.ref x))) H2) E := by
  have tk := I.tk
  have oldH : ∀ b o, H b = some o → upd (upd H dx (.own x)) x (.ins (W.Ca c) dx []) b = some o := fun b o q => by
    rw [upd_ne (ne_of_none q hx), upd_ne (ne_of_none q hdx)]; exact q
  let Fp : List Addr := if W.sl c = true then [x, dx] else [x]
  have inFp : ∀ b ∈ Fp, H b = none := fun b hb => by
    have hb : b ∈ (if W.sl c = true then [x, dx] else [x]) := hb
    split at hb
    · rcases List.mem_cons.mp hb with z | z
      · rw [z]; exact hx
      · rw [List.mem_singleton.mp z]; exact hdx
    · rw [List.mem_singleton.mp hb]; exact hx
  have nFp : Fp.Nodup := by
    show (if W.sl c = true then [x, dx] else [x]).Nodup
    split
    · simp [Ne.symm ne]
    · simp
  have hoi : OwnI W (upd (upd H dx (.own x)) x (.ins (W.Ca c) dx [])) c x [] Fp := by
    unfold OwnI
    cases es : W.sl c with
    | false =>
      refine ⟨dx, [], by show (if W.sl c = true then _ else _) = _; rw [es]; rfl, rfl, Nat.zero_le _, ?_⟩
      rw [upd_same, List.zip_nil_right]
    | true =>
      refine ⟨dx, by show (if W.sl c = true then _ else _) = _; rw [es]; rfl, ne, .inl ⟨rfl, upd_same, ?_⟩⟩
      rw [upd_ne ne, upd_same]
  have xt : Ext (own Φ.O F) H (own (own Φ.O F) Fp) (upd (upd H dx (.own x)) x (.ins (W.Ca c) dx [])) := fun b o q z => ⟨oldH b o q, fun w => by
    rcases w with w | w
    · exact z w
    · rw [inFp b w] at q; cases q⟩
  refine ⟨own Φ.O F, Fp, .oi c [] :: xs.map .val, ⟨some (.ref x), vs.map some, Fp, [], rfl, by simp, ⟨x, [], Fp, [], by simp, rfl, hoi, rfl, rfl⟩, (sl_vals r).ext xt fun _ m => nomatch m⟩, nFp,
    fun b ob => (tk b ob).imp fun o q => oldH b o q, fun b m ob => tk.free (inFp b m) ob, ?_⟩
  have sm : ∀ (H' : Hp), (∀ a o, upd (upd H dx (.own x)) x (.ins (W.Ca c) dx []) a = some o → a ∉ Fp → H' a = some o) → Same H H' := fun H' k b o q => k b o (oldH b o q) fun m => by rw [inFp b m] at q; cases q
  cases ef : f (.oi c [] :: xs.map .val) with
  | ok d out =>
    rw [ef] at h
    cases d with
    | non =>
      cases out with
      | oi c' fs =>
        have h : PostS W Φ E D (if i ≠ 0 ∧ i < ρ.length then .ok none (ρ.set i (.oi c' fs)) else .bad) := h
        split at h
        · rename_i hc
          intro v H' F' k kF nd so rd
          unfold RelD at rd
          refine ⟨rd, ?_⟩
          obtain ⟨F2, I2⟩ := I.newI (c := c') (fs := fs) (x := x) hc.1 hc.2 (sm H' k) (fun a m => by
            rcases kF a m with w | w
            · exact inFp a w
            · cases q : H a with
              | none => rfl
              | some o => rw [oldH a o q] at w; cases w) nd so
          exact h _ _ _ I2
        · exact h.elim
      | _ => exact h.elim
    | _ => exact h.elim
  | exc c' d out =>
    rw [ef] at h
    intro dx' v H' F' k kF nd so hq rd
    obtain ⟨I', x'⟩ := I.same (sm H' k)
    exact h dx' v σ H' F I' hq (rd.ext (ext_sub fun a z => .inl z))
  | bad => rw [ef] at h; exact h.elim
end
section
variable {X : Cx} {W : Wd} {E : XK} {e : Expr} {es : List Expr} {kws : List Keyword} {ml mk : LM} {pos p npos spos : Pos} {k c n : Nat} {f : Fn} {x y : Str} {ks : List Str}
/-- y = C(e, ..) -/
theorem ss_make (i : Nat) (hN : X.N.Nodup) (G : ID X.prog X.w X.K X.mg X.base W k c x f) (hr : RoomG (k + 1) X.A) (hx : Passes (L2.CX X.prog X.w) X E) (hg : Gl X x) (hl : SA X W E (e :: es) ml) (hi : X.N[i]? = some y := by rfl) (hy : Loc X.env.scope y := by first | exact Or.inl rfl | exact Or.inr rfl)
    (hdb : (x == ("__debug__" : Str)) = false := by decide) (he : starEach (e :: es) X.env = (false, eval e X.env) :: starEach es X.env := by rfl) (hpl : (backTo pos (starEach es X.env)).any (·.1) = false := by rfl)
    (hs : swapsWith (.Call (.Name x p) (e :: es) [] pos) (some (.Name y npos)) spos.line X.env = pure false := by rfl) (hf : X.fn y = true ∨ X.env.scope.names.lookup y = some .local := by first | exact .inl rfl | exact .inr rfl) :
    SS X W E (.Assign [.Name y npos] (.Call (.Name x p) (e :: es) [] pos) spos) (sNewI i c f ml) := by
  obtain ⟨fa, hm, M, F⟩ := G
  obtain ⟨tl, pl, kl⟩ := hl
  refine ⟨_, ps_set (i := i) hN hi hy (pe_mk M F hr hg hm hx pl hdb he hpl) hs hf, fun Φ H F ρ σ D I h => ?_⟩
  refine kl _ _ _ _ _ _ I (PostS.bnd h fun xs ρ1 vs H1 F1 _ I1 x1 r1 h1 => ?_)
  intro a dx q1 q2 ne
  exact spF_makeO I1 r1 q1 q2 ne h1
/-- y = C(e, .., k = v, ..) -/
theorem ss_makeK (i : Nat) (hN : X.N.Nodup) (G : IDK X.prog X.w X.K X.mg X.base W k c x n ks f) (hr : RoomG (k + 1) X.A) (hx : Passes (L2.CX X.prog X.w) X E) (hg : Gl X x) (hl : SA X W E (e :: es) ml) (hkw : SKw X W E kws mk) (hi : X.N[i]? = some y := by rfl) (hy : Loc X.env.scope y := by first | exact Or.inl rfl | exact Or.inr rfl)
    (hall : (backToKw pos (keywordEach kws X.env)).all (·.1.isSome) = true := by rfl) (hks : (backToKw pos (keywordEach kws X.env)).filterMap (·.1) = ks := by rfl) (hdb : (x == ("__debug__" : Str)) = false := by decide)
    (he : starEach (e :: es) X.env = (false, eval e X.env) :: starEach es X.env := by rfl) (hpl : ((backTo pos (starEach (e :: es) X.env)).any (·.1) || (backToKw pos (keywordEach kws X.env)).any (·.1.isNone)) = false := by rfl)
    (hs : swapsWith (.Call (.Name x p) (e :: es) kws pos) (some (.Name y npos)) spos.line X.env = pure false := by rfl) (hf : X.fn y = true ∨ X.env.scope.names.lookup y = some .local := by first | exact .inl rfl | exact .inr rfl) :
    SS X W E (.Assign [.Name y npos] (.Call (.Name x p) (e :: es) kws pos) spos) (sNewI i c f (lApp (lNum n ml) (lNum ks.length mk))) := by
  obtain ⟨fa, hm, M, F⟩ := G
  obtain ⟨tl, pl, kl⟩ := hl
  obtain ⟨tk, pk, kk⟩ := hkw
  refine ⟨_, ps_set (i := i) hN hi hy (pe_mkK M F hr hg hm hx pl pk hall hks hdb he hpl) hs hf, fun Φ H F ρ σ D I h => ?_⟩
  have h : PostS W Φ E D (bnd (bnd (bnd (ml ρ) fun xs ρ => if xs.length = n then .ok xs ρ else .bad) fun xs ρ => bnd (bnd (mk ρ) fun xs ρ => if xs.length = ks.length then .ok xs ρ else .bad) fun ys ρ => .ok (xs ++ ys) ρ) fun xs ρ => ofMakeI i ρ (f (.oi c [] :: xs.map .val))) := h
  rw [bnd_assoc, bnd_assoc] at h
  refine kl _ _ _ _ _ _ I (PostS.bnd h fun xs ρ1 vs H1 F1 _ I1 x1 r1 h1 => ?_)
  split at h1
  · rename_i hn
    simp only [bnd_ok] at h1
    rw [bnd_assoc, bnd_assoc] at h1
    refine kk _ _ _ _ _ _ I1 (PostS.bnd h1 fun ys ρ2 zs H2 F2 _ I2 x2 r2 h2 => ?_)
    split at h2
    · rename_i hm
      simp only [bnd_ok] at h2
      refine ⟨by rw [← relDs_len r1]; exact hn, by rw [← relDs_len r2]; exact hm, fun a dx q1 q2 ne => ?_⟩
      exact spF_makeO I2 (relDs_app (r1.ext x2) r2) q1 q2 ne h2
    · exact h2.elim
  · exact h1.elim
end
end Tr
/- Tr30 -/
/-! Tr, part 30: the head, for promises that know there is no guard around. -/
namespace Tr
open PySem L2 PyProof.Rows
theorem callerA_rg {k : Nat} (hr : Room k callerA) : RoomG k callerA := ⟨hr, rfl⟩
section
variable {P : Program} {w : World} {K : PySem.W.Frag} {mg mb : Str → Option Value} {k : Nat} {fa a : Addr} {fd : FuncData} {x : Str} {sp : Sp} {s₁ : Shared} {vs : List Value} {ns : List Int} {H : Hp} {o : Obj}
/-- an abstract heap with at most the script -/
structure Scr (P : Program) (w : World) (K : PySem.W.Frag) (H : Hp) (h : Heap) (a : Addr) (o : Obj) : Prop where
  hk : HOk P w H h
  on : ∀ b, H b = none ∨ b = a ∧ ∃ xs, H b = some (.frz o (.lst xs))
  nk : H a ≠ none → K.lookup a = none
theorem Scr.only (S : Scr P w K H s₁.heap a o) : Only H := fun b => (S.on b).imp id fun ⟨_, xs, e⟩ => ⟨o, xs, e⟩
theorem Scr.hid (S : Scr P w K H s₁.heap a o) {b : Addr} {ob : Obj} (e : s₁.heap.get? b = some ob) (n : b = a → H b = none) : (hidT s₁.heap H).get? b = some ob :=
  hidT_get e ((S.on b).elim id fun z => n z.1)
theorem Scr.nsb (S : Scr P w K H s₁.heap a o) (ha : s₁.heap.get? a = some o) (hd : ∀ es ep, o.data ≠ .dict es ep) {b : Addr} {m : Str → Option Value} : s₁.heap.Ns b m → (hidT s₁.heap H).Ns b m
  | ⟨ob, es, ep, e, d, r⟩ => ⟨ob, es, ep, S.hid e (fun z => by subst z; rw [ha] at e; cases e; exact absurd d (hd _ _)), d, r⟩
theorem Scr.kin (S : Scr P w K H s₁.heap a o) (KX : K.In s₁.heap) : K.In (hidT s₁.heap H) := fun b ob e => S.hid (KX b ob e) fun z => by
  subst z
  cases q : H b with
  | none => rfl
  | some u => rw [S.nk (by rw [q]; exact fun z => nomatch z)] at e; cases e
theorem Scr.call (S : Scr P w K H s₁.heap a o) (KX : K.In s₁.heap) (hns : s₁.heap.Ns mainGlobals mg) (hb : s₁.heap.Ns builtinsNs mb) (hbb : ∀ x : Str, x ≠ "__name__" → mb x = bootBuiltins x) (hlim : s₁.heap.NoLimit) (hg : s₁.gens = #[])
    (ha : s₁.heap.get? a = some o) (hd : ∀ es ep, o.data ≠ .dict es ep) (hr : Room k callerA)
    (F : ∀ base : Heap, K.In base → base.Ns mainGlobals mg → FnB P w K mg base (L2.CX P w) k fa fd [x] sp) (hbind : ∀ (s : Shared) (u : Value), BindsTo s fd ⟨[u], []⟩ [(x, u)])
    (hsp : sp [.ref a] H (fun v _ => v = .bl true) fun _ _ _ => False) :
    codeAny (model P w) callerA (.call (.ref fa) ⟨[.ref a], []⟩) (fun r s' => r = .ok (.ret (.bool true)) ∧ OldK s₁.heap s'.heap ∧ s'.os = s₁.os ∧ AllBare s'.gens) s₁ := by
  have kb := S.kin KX
  have nb := S.nsb ha hd hns
  obtain ⟨mc, l1, l2⟩ := hlim
  have e0 : Env0 P w K mg (hidT s₁.heap H) callerA [] s₁ H :=
    ⟨rfl, ⟨kb, nb, ⟨mb, S.nsb ha hd hb, hbb⟩, ⟨mc, S.nsb ha hd l1, l2⟩⟩, fun _ _ e => of_hidT e, Nat.le_of_eq (hidT_size _ _), trivial, fun b hb => absurd (show b ∈ ([] : List Addr) from hb) (by simp), S.hk, .of_eq hg⟩
  refine codeAny_mono ((F _ kb nb).run callerA [] s₁ H ⟨[.ref a], []⟩ [.ref a] [.ref a] _ _ (callerA_rg hr) e0 (hbind s₁ (.ref a)) (.cons rfl .nil) hsp) ?_
  rintro (e | (_ | _ | _ | u)) s' h
  · obtain ⟨_, _, _, _, _, _, _, _, _, _, _, _, q⟩ := h; exact q.elim
  · exact h.elim
  · exact h.elim
  · exact h.elim
  · obtain ⟨v, H', os, bare, un, hk', r', q⟩ := h
    have q' : v = .bl true := q
    subst q'
    refine ⟨by rw [show u = Value.bool true from r'], OldK.of_keep fun b ob e => ?_, os, bare⟩
    rcases S.on b with z | ⟨_, xs, z⟩
    · exact un.keep b ob e z (fun z => absurd (show b ∈ ([] : List Addr) from z) (by simp)) (by simp)
    · obtain ⟨e1, _⟩ := S.hk b _ z
      obtain ⟨e2, _⟩ := hk' b _ (un.frzs b o _ z)
      rw [e] at e1; cases e1
      exact e2
/-- the script's place in the abstract heap: the fragment's own, or frozen -/
theorem scr_ex (KX : K.In s₁.heap) (nl : ∀ b ob, K.lookup b = some ob → ob.cls ≠ .type "list") (ha : s₁.heap.get? a = some { cls := .type "list", data := .seq vs.toArray }) (hi : IntsAre vs ns) (hl : ns.length ≤ sizeLine) :
    ∃ H, Scr P w K H s₁.heap a { cls := .type "list", data := .seq vs.toArray } ∧ Rd H a (.lst (ns.map V.int)) := by
  have rv := vals_ints hi
  cases hk : K.lookup a with
  | some ob =>
    have e := KX a ob hk
    rw [ha] at e; cases e
    exact absurd rfl (nl a _ hk)
  | none =>
    refine ⟨fun b => if b = a then some (.frz { cls := .type "list", data := .seq vs.toArray } (.lst (ns.map V.int))) else none, ⟨fun b u z => ?_, fun b => ?_, fun _ => hk⟩, .inr ⟨_, if_pos rfl⟩⟩
    · by_cases q : b = a
      · subst q
        cases (if_pos rfl).symm.trans z
        exact ⟨ha, by rw [List.length_map]; exact hl, vs, _, rv, ha⟩
      · cases (if_neg q).symm.trans z
    · by_cases q : b = a
      · exact .inr ⟨q, _, if_pos q⟩
      · exact .inl (if_neg q)
end
/-- a law: F gives the written part, the function object, the promise over every base -/
theorem walk_ofG {l : PySem.W.OpenLaw} {n k : Nat} {q : Program} {loose : List Str} {XP : (Str → Option Value) → Heap → Prop} {YP : World → Heap → Prop} {d : DefRec} {x : Str}
    (hn : l.most = some n) (hn2 : n ≤ sizeLine) (hdf : d.params.defaults = []) (hr : Room k callerA)
    (F : ∀ (w : World) (mg : Str → Option Value) (fa : Addr) (h : Heap), YP w h → h.Ns mainGlobals mg → mg d.name = some (.ref fa) →
      ∃ (K : PySem.W.Frag) (fd : FuncData) (sp : Sp), K.In h ∧ (∀ b ob, K.lookup b = some ob → ob.cls ≠ .type "list") ∧ (∀ (s : Shared) (u : Value), BindsTo s fd ⟨[u], []⟩ [(x, u)]) ∧
        (∀ (H : Hp) (a : Addr) (ns : List Int), ns.length ≤ n → Only H → Rd H a (.lst (ns.map V.int)) → sp [.ref a] H (fun v _ => v = .bl true) fun _ _ _ => False) ∧
        ∀ base : Heap, K.In base → base.Ns mainGlobals mg → FnB l.prog w K mg base (L2.CX l.prog w) k fa fd [x] sp) :
    PySem.W.WalkO q loose XP YP l.row.toRowW d [] (fun f vs => PySem.call f vs) := by
  refine Att.attach_call hn hdf fun w s₀ s₁ mg mb fa o pm cd doc a vs ns G Y ho hd hcd hmg hobj hints hlen hg => ?_
  obtain ⟨K, fd, sp, KX, nl, hb, hsp, hF⟩ := F w mg fa _ Y G.T.g hmg
  obtain ⟨H, S, hS⟩ := scr_ex (P := l.prog) (w := w) KX nl hobj hints (Nat.le_trans hlen hn2)
  exact S.call KX G.T.g G.T.b G.T.builtins G.T.nolimit hg hobj (fun _ _ z => nomatch z) hr hF hb (hsp H a ns hlen S.only hS)
end Tr
/- Tr31 -/
/-! Tr, part 31: defs with defaults. -/
namespace Tr
open PySem L2
section
variable {P : Program} {w : World} {K : PySem.W.Frag} {mg : Str → Option Value} {base : Heap} {W : Wd}
/-- THE RULE for a def with defaults: its body does m -/
theorem ok_fnD {x qual : Str} {st : Stmt} {f : Addr} {fd : FuncData} {N ps : List Str} {k : Nat} {m : SM} {params : Arguments} {dvs : List V} {kws : List (Str × V)} (F : FunD K x qual params (defBody st) (defScope st) dvs kws f fd) (S : FnScope N ps (defScope st))
    (hb : ∀ (cdv : Value) (A : Around) (outer : List PySem.Env) (s : Shared) (H : Hp) (E : XK), RoomG k (CXe P w K mg base N qual st f cdv A outer s H E).A → SB (CXe P w K mg base N qual st f cdv A outer s H E) W E (defBody st) m) :
    FnB P w K mg base (L2.CX P w) (k + 1) f fd ps (spF W (fnOf ps.length N.length m)) := by
  obtain ⟨oc, od, dV, kV, doc, pm, an, cdv, ct, osl, rfl, lk, hcd, _, _⟩ := F.ex
  exact ok_at lk hcd S hb
/-- what the caller sees who leaves the last parameters to their defaults -/
def dfl (f : Fn) (ds : List D) : Fn := fun ss => f (ss ++ ds.map .val)
theorem sl_app {A : Addr → Prop} {H : Hp} {ds : List D} {vs : List V} (r : RelDs W A H ds vs) : ∀ {ρ : Env} {us : List V} {F : List Addr}, Sl W A H ρ (us.map some) F → Sl W A H (ρ ++ ds.map .val) ((us ++ vs).map some) F
  | [], us, _, ⟨e, e2⟩ => by
    cases us with
    | cons _ _ => cases e
    | nil => subst e2; simpa using sl_vals r
  | s :: ρ, us, _, ⟨v, q, F1, F2, e1, e2, h1, h2⟩ => by
    cases us with
    | nil => cases e1
    | cons u us =>
      rw [List.map_cons] at e1
      cases e1
      subst e2
      exact ⟨some u, (us ++ vs).map some, F1, F2, by simp, rfl, h1, sl_app r h2⟩
/-- by positional values, the rest by the defaults -/
theorem FnB.rawD {CX : CXT} {k p n : Nat} {f : Addr} {fd : FuncData} {ps : List Str} {m : SM} {ds : List D} {dvs : List V} {dus : List Value} (F : FnB P w K mg base CX k f fd ps (spF W (fnOf ps.length n m))) (hb : Binds K fd ps dus) (rv : Vals dvs dus)
    (rd : ∀ A H, RelDs W A H ds dvs) (hl : ds.length < ps.length) : FnQ P w K mg base CX k f (spF W (dfl (fnOf ps.length n m) ds)) := by
  intro A outer s H us vs Q E hr e0 r hs
  obtain ⟨O, Fp, ss, hsl, nd, tk, dj, hp⟩ := hs
  have hlen : (ss ++ ds.map SV.val).length = ps.length := by
    by_cases e : (ss ++ ds.map SV.val).length = ps.length
    · exact e
    · unfold dfl fnOf at hp
      rw [if_neg e] at hp
      exact hp.elim
  have l1 : ss.length = vs.length := by rw [hsl.length, List.length_map]
  have l2 : dvs.length = ds.length := by have := (sl_vals (rd (fun _ => True) H)).length; simpa using this.symm
  rw [List.length_append, List.length_map] at hlen
  have hd : (vs ++ dvs).head? = vs.head? := by
    cases vs with
    | nil => simp at l1; subst l1; simp at hlen; omega
    | cons v vs => rfl
  have hu : (us ++ dus).length = ps.length := by rw [List.length_append, ← r.length, ← rv.length, l2, ← l1]; exact hlen
  refine F.run A outer s H ⟨us, []⟩ (us ++ dus) (vs ++ dvs) Q E hr e0 (hb s us (e0.mod.kin.keeps fun b o e => (e0.bs b o e).1) hu) (r.append rv) ⟨O, Fp, ss ++ ds.map .val, sl_app (rd _ _) hsl, nd, tk, dj, ?_⟩
  unfold PostF at hp ⊢
  rw [hd]
  exact hp
end
end Tr
/- Tr32 -/
/-! Tr, part 32: dict comprehensions with two clauses: the machine's turns. -/
namespace Tr
open PySem PySem.Spec PyProof.Rows L2
section
variable {prog : Program} {w : World} {A : Around} {R : Result → Shared → Prop} {s : Shared} {kx vx t0 i0 t1 i1 : Expr} {ifs0 ifs1 : List Expr} {scope : Scope} {pos : Pos} {it : Value} {D : Addr} {env : PySem.Env}
abbrev dc2 (kx vx t0 i0 t1 i1 : Expr) (ifs0 ifs1 : List Expr) (scope : Scope) (pos : Pos) : Expr := .DictComp kx vx [⟨t0, i0, ifs0, 0⟩, ⟨t1, i1, ifs1, 0⟩] scope pos
abbrev Nb (prog : Program) (w : World) (A : Around) (env : PySem.Env) (R : Result → Shared → Prop) : Value → Shared → Prop := notedBy (model prog w) A env fun e s' => R (.error e) s'
/-- one turn of a clause up to its tests: stop, yes, no -/
abbrev Clause (prog : Program) (w : World) (A : Around) (env : PySem.Env) (R : Result → Shared → Prop) (tg : Expr) (it : Value) (ifs : List Expr) (stop yes no : Shared → Prop) (s : Shared) : Prop :=
  wpAny (model prog w) A (pyNext it) (fun r s₁ => match r with
    | none => stop s₁
    | some v => wpAny (model prog w) A (letOwnedTupleGo tg it v) (fun _ s₁' => wpAny (model prog w) A (assign tg env v) (fun _ s₂ =>
        wpAny (model prog w) A (forIn ifs true fun c r => if r = true then do let ok ← PySem.isTrue c env (eval c env); pure (ForInStep.yield ok) else pure (ForInStep.yield r)) (fun ok s₃ => if ok = true then yes s₃ else no s₃)
          (Nb prog w A env R) s₂) (Nb prog w A env R) s₁') (Nb prog w A env R) s₁) (Nb prog w A env R) s
theorem turn_out (it acc : Value) : compTurn (dc2 kx vx t0 i0 t1 i1 ifs0 ifs1 scope pos) 0 it acc env = (do
      standAt i0.pos
      match ← pyNext it with
      | none => pure (.done .next)
      | some v =>
        letOwnedTupleGo t0 it v
        assign t0 env v
        let mut ok := true
        for c in ifs0 do
          if ok then ok ← PySem.isTrue c env (eval c env)
        if ok then
          let x ← eval i1 env
          standAt i1.pos
          let x ← foldedSetIterable i1 env x
          let _ ← runOwn (.compStart (dc2 kx vx t0 i0 t1 i1 ifs0 ifs1 scope pos) 1 (← holding [x] (pyIter x)) acc env) env
        again (.compLoop (dc2 kx vx t0 i0 t1 i1 ifs0 ifs1 scope pos) 0 it acc env)) := by rfl
theorem turn_in (it : Value) (D : Addr) : compTurn (dc2 kx vx t0 i0 t1 i1 ifs0 ifs1 scope pos) 1 it (.ref D) env = (do
      standAt i1.pos
      match ← pyNext it with
      | none => pure (.done .next)
      | some v =>
        letOwnedTupleGo t1 it v
        assign t1 env v
        let mut ok := true
        for c in ifs1 do
          if ok then ok ← PySem.isTrue c env (eval c env)
        if ok then
          (do
            let kv ← eval kx env
            let vv ← holding [kv] (eval vx env)
            standAt { kx.pos with endLine := vx.pos.endLine, endCol := vx.pos.endCol }
            holding [kv, vv] (dictSet D kv vv))
        again (.compLoop (dc2 kx vx t0 i0 t1 i1 ifs0 ifs1 scope pos) 1 it (.ref D) env)) := by rfl
theorem dloop_out (acc : Value) (hs : ∀ x, foldedSetIterable i1 env x = pure x) (I : Nat → Shared → Prop)
    (turn : ∀ n s, I n s → Clause prog w A env R t0 it ifs0 (R (.ok .next)) (wpAny (model prog w) A (eval i1 env) (fun x s₄ => wpAny (model prog w) A (pyIter x) (fun it1 s₅ =>
      codeAny (model prog w) A (.compStart (dc2 kx vx t0 i0 t1 i1 ifs0 ifs1 scope pos) 1 it1 acc env) (fun r s' => match r with
        | .ok _ => ∃ m, m < n ∧ I m s'
        | .error _ => False) s₅) (Nb prog w A env R) s₄) (Nb prog w A env R)) (fun s' => ∃ m, m < n ∧ I m s') s)
    (n : Nat) (h : I n s) : codeAny (model prog w) A (.compLoop (dc2 kx vx t0 i0 t1 i1 ifs0 ifs1 scope pos) 0 it acc env) R s := by
  refine codeAny_loop rfl I (fun n s hI => ?_) n h
  show wpAny _ A ((compTurn (dc2 kx vx t0 i0 t1 i1 ifs0 ifs1 scope pos) 0 it acc env).onRaise (fun x => do noteFrame x env; theTreesLotGoes x)) _ _ s
  refine wpAny_noted ?_
  rw [turn_out]
  refine wpAny_bind (wpAny_standAt (wpAny_bind (wpAny_mono (turn n s hI) (fun r s₁ h₁ => ?_) fun _ _ h' => h')))
  cases r with
  | none => exact wpAny_pure h₁
  | some v =>
    refine wpAny_bind (wpAny_mono h₁ (fun _ s₁' h₁' => ?_) fun _ _ h' => h')
    refine wpAny_bind (wpAny_mono h₁' (fun _ s₂ h₂ => wpAny_bind (wpAny_mono h₂ (fun ok s₃ h₃ => ?_) fun _ _ h' => h')) fun _ _ h' => h')
    cases ok with
    | false => exact wpAny_pure ⟨rfl, h₃⟩
    | true =>
      refine wpAny_bind (wpAny_mono h₃ (fun x s₄ h₄ => ?_) fun _ _ h' => h')
      refine wpAny_bind (wpAny_standAt (wpAny_bind (wpAny_of_eq (hs x) (wpAny_bind (wpAny_holding (wpAny_mono h₄ (fun it1 s₅ h₅ => ?_) fun _ _ h' => h'))))))
      refine wpAny_bind (wpAny_runOwn ?_)
      rw [Around.mark_none]
      refine codeAny_mono h₅ fun r s' hr => ?_
      cases r with
      | ok f => first | exact wpAny_pure ⟨rfl, hr⟩ | exact wpAny_bind (wpAny_pure (wpAny_pure ⟨rfl, hr⟩))
      | error e => exact hr.elim
theorem dloop_in (I : Nat → Shared → Prop)
    (turn : ∀ n s, I n s → Clause prog w A env R t1 it ifs1 (R (.ok .next)) (wpAny (model prog w) A (eval kx env) (fun kv s₄ => wpAny (model prog w) A (eval vx env) (fun vv s₅ =>
      wpAny (model prog w) A (dictSet D kv vv) (fun _ s₆ => ∃ m, m < n ∧ I m s₆) (Nb prog w A env R) s₅) (Nb prog w A env R) s₄) (Nb prog w A env R)) (fun s' => ∃ m, m < n ∧ I m s') s)
    (n : Nat) (h : I n s) : codeAny (model prog w) A (.compLoop (dc2 kx vx t0 i0 t1 i1 ifs0 ifs1 scope pos) 1 it (.ref D) env) R s := by
  refine codeAny_loop rfl I (fun n s hI => ?_) n h
  show wpAny _ A ((compTurn (dc2 kx vx t0 i0 t1 i1 ifs0 ifs1 scope pos) 1 it (.ref D) env).onRaise (fun x => do noteFrame x env; theTreesLotGoes x)) _ _ s
  refine wpAny_noted ?_
  rw [turn_in]
  refine wpAny_bind (wpAny_standAt (wpAny_bind (wpAny_mono (turn n s hI) (fun r s₁ h₁ => ?_) fun _ _ h' => h')))
  cases r with
  | none => exact wpAny_pure h₁
  | some v =>
    refine wpAny_bind (wpAny_mono h₁ (fun _ s₁' h₁' => ?_) fun _ _ h' => h')
    refine wpAny_bind (wpAny_mono h₁' (fun _ s₂ h₂ => wpAny_bind (wpAny_mono h₂ (fun ok s₃ h₃ => ?_) fun _ _ h' => h')) fun _ _ h' => h')
    cases ok with
    | false => exact wpAny_pure ⟨rfl, h₃⟩
    | true =>
      exact wpAny_bind (wpAny_bind (wpAny_mono h₃ (fun kv s₄ h₄ => wpAny_bind (wpAny_holding (wpAny_mono h₄ (fun vv s₅ h₅ => wpAny_bind (wpAny_standAt (wpAny_holding (wpAny_mono h₅ (fun _ s₆ h₆ => wpAny_pure ⟨rfl, h₆⟩) fun _ _ h' => h')))) fun _ _ h' => h'))) fun _ _ h' => h'))
theorem dstart1 (acc : Value) (h0 : codeAny (model prog w) A (.compLoop (dc2 kx vx t0 i0 t1 i1 ifs0 ifs1 scope pos) 1 it acc env) R s)
    (h : wpAny (model prog w) A (pyIter it) (fun it' s' => codeAny (model prog w) A (.compLoop (dc2 kx vx t0 i0 t1 i1 ifs0 ifs1 scope pos) 1 it' acc env) R s') (Nb prog w A env R) s) :
    codeAny (model prog w) A (.compStart (dc2 kx vx t0 i0 t1 i1 ifs0 ifs1 scope pos) 1 it acc env) R s := by
  refine codeAny_of_tree ?_
  show wpAny _ _ ((compStart (dc2 kx vx t0 i0 t1 i1 ifs0 ifs1 scope pos) 1 it acc env).onRaise (fun x => do noteFrame x env; standAt theWindowsPlace)) _ _ s
  refine wpAny_notedAt ?_
  unfold compStart
  show wpAny _ _ (ask >>= _) _ _ s
  refine wpAny_bind (wpAny_askSetting (wpAny_ite ?_))
  split
  · first
      | exact wpAny_bind (wpAny_pure (wpAny_pure (And.intro rfl h0)))
      | exact wpAny_pure (And.intro rfl h0)
  · first
      | exact wpAny_bind (wpAny_rule (wpAny_bind (wpAny_standAt (wpAny_bind (wpAny_mono h (fun it' s' h' => wpAny_pure (And.intro rfl h')) fun _ _ x => x)))))
      | (refine wpAny_bind (wpAny_rule ?_); show wpAny _ _ (standAt i1.pos >>= _) _ _ s; exact wpAny_bind (wpAny_standAt (wpAny_bind (wpAny_mono h (fun it' s' h' => wpAny_pure (And.intro rfl h')) fun _ _ x => x))))
end
end Tr
/- Tr33 -/
/-! Tr, part 33: dict comprehensions with two clauses: a clause's turn in a block. -/
namespace Tr
open PySem PySem.Spec PyProof.Rows L2
/-- behind an item of an iterator: its objects are pinned as they stood -/
def Aft (Y : Cx) (pins : List (Addr × Obj)) (fp : List Addr) (tn : Nat → Heap → Prop) (i : Nat) (σ : L2.St) (H : Hp) (s : Shared) : Prop := ∃ h : Heap, Inv Y (pins ++ pinsAt fp h) σ H s ∧ tn i h
section
variable {Y : Cx} {P : Program} {w : World} {K : PySem.W.Frag} {tg : Expr} {J : L2.It} {fp : List Addr} {it : Addr} {tn : Nat → Heap → Prop} {g : TG} {tt : TT} {ifs : List Expr} {i : Nat} {pins : List (Addr × Obj)} {σ : L2.St} {H : Hp} {s : Shared}
theorem Aft.back (T : Turn P w K tg J fp it tn) {σ2 : L2.St} (a : Aft Y pins fp tn i σ2 H s) (hl : σ.length = σ2.length) (hk : ∀ (j : Nat) v, σ[j]? = some (some v) → σ2[j]? = some (some v)) :
    Inv Y pins σ H s ∧ tn i s.heap ∧ ∀ b ∈ fp, H b = none := by
  obtain ⟨h, I, st⟩ := a
  have pin : ∀ b ∈ fp, ∀ o, h.get? b = some o → s.heap.get? b = some o ∧ H b = none := fun b hb o e =>
    let z := I.pin (b, o) (List.mem_append_right _ (List.mem_append_right _ (mem_pinsAt hb e)))
    ⟨z.1, z.2.1⟩
  refine ⟨I.unpinned.weak hl hk, T.keep _ _ _ st fun b hb o e => (pin b hb o e).1, fun b hb => ?_⟩
  obtain ⟨o, e, _⟩ := T.obj _ _ st b hb
  exact (pin b hb o e).2
theorem clause_run {R : Result → Shared → Prop} {KS : Hp → Prop} {KB : Bool → L2.St → Hp → Prop} {stop yes no : Shared → Prop} (T : Turn Y.prog Y.w Y.K tg J fp it tn) (hc : Y.calm = true) (hx : Y.xe = fun _ _ => False) (pg : PG Y tg g) (pt : PTs Y ifs tt)
    (I : Inv Y pins σ H s) (hf : ∀ b ∈ fp, FpOk Y pins H b) (st : tn i s.heap)
    (h : (J.stop i H ∧ KS H) ∨ (J.go i H ∧ ∀ x H', J.yld i H x H' → g x σ H' fun σ2 H2 => tt σ2 H2 fun b H3 => KB b σ2 H3))
    (hS : ∀ s', Inv Y pins σ H s' → KS H → stop s') (hY : ∀ σ2 H3 s3, Aft Y pins fp tn (i + 1) σ2 H3 s3 → KB true σ2 H3 → yes s3) (hN : ∀ σ2 H3 s3, Aft Y pins fp tn (i + 1) σ2 H3 s3 → KB false σ2 H3 → no s3) :
    Clause Y.prog Y.w Y.A Y.env R tg (.ref it) ifs stop yes no s := by
  have tg' := pg.run
  have tt' := pt.run
  rw [hx] at tg' tt'
  rcases h with ⟨sp, ks⟩ | ⟨go, step⟩
  · refine thnF (T.done Y rfl rfl rfl hc i pins s σ H (fun _ _ => False) I hf st sp) fun r s1 ⟨hr, I1⟩ => ?_
    subst hr
    exact hS s1 I1 ks
  · refine thnF (T.item Y rfl rfl rfl hc i pins s σ H (fun _ _ => False) I hf st go) fun r s1 ⟨u, hr, h1⟩ => ?_
    subst hr
    refine thnF h1 fun _ s2 ⟨x, H2, I2, r2, y2, st2, n2⟩ => ?_
    have I2' := I2.pinned (fun b hb => ⟨n2 b hb, (hf b hb).2⟩) (T.obj _ _ st2)
    refine thnF (tg' _ s2 _ H2 x u _ I2' r2 (step x H2 y2)) fun _ s3 ⟨σ3, H3, I3, q3⟩ => ?_
    refine thnF (tt' _ s3 σ3 H3 _ I3 q3) fun b s4 ⟨H4, I4, q4⟩ => ?_
    cases b with
    | true => simp only [if_true]; exact hY _ _ _ ⟨_, I4, st2⟩ q4
    | false => simp only [Bool.false_eq_true, if_false]; exact hN _ _ _ ⟨_, I4, st2⟩ q4
end
end Tr
/- Tr34 -/
/-! Tr, part 34: dict comprehensions with two clauses. -/
namespace Tr
open PySem PySem.Spec PyProof.Rows L2
/-- {k: v for tg in iter if .. for tg1 in iter1 if ..}. vs: the block's names; ws: those of the second target -/
def tDc2 (wi : TI) (g : TG) (tt : TT) (wi1 : TI) (g1 : TG) (tt1 : TT) (tk tv : TE) (vs ws : List Nat) : TE := fun σ H Q => wi σ H fun J H1 => ∀ D, H1 D = none → ∃ W : Nat → Nat → Hp → Prop, (∃ m, W 0 m (upd H1 D (.dK []))) ∧ ∀ i m H, W i m H →
  (J.stop i H ∧ Q (.ref D) H) ∨ (J.go i H ∧ ∃ Nx : Hp → Prop, (∀ H', Nx H' → ∃ m', m' < m ∧ W (i + 1) m' H') ∧ ∀ x H', J.yld i H x H' → g x (L2.wipe σ vs) H' fun σ2 H2 => tt σ2 H2 fun b H3 => L2.wipe σ2 vs = L2.wipe σ vs ∧
    if b = true then wi1 σ2 H3 fun J1 H4 => ∃ W1 : Nat → Nat → Hp → Prop, (∃ m, W1 0 m H4) ∧ ∀ j k H, W1 j k H →
      (J1.stop j H ∧ Nx H) ∨ (J1.go j H ∧ ∃ Nx1 : Hp → Prop, (∀ H', Nx1 H' → ∃ k', k' < k ∧ W1 (j + 1) k' H') ∧ ∀ x H', J1.yld j H x H' → g1 x (L2.wipe σ2 ws) H' fun σ3 H5 => tt1 σ3 H5 fun b H6 => L2.wipe σ3 ws = L2.wipe σ2 ws ∧
        if b = true then tk σ3 H6 fun y H7 => tv σ3 H7 fun z H8 => ∃ kvs k, y = kV k ∧ H8 D = some (.dK kvs) ∧ kvs.length < sizeLine ∧ Nx1 (upd H8 D (.dK (putK kvs k z))) else Nx1 H6)
    else Nx H3)
section
variable {Y : Cx} {kx vx t0 i0 t1 i1 : Expr} {ifs0 ifs1 : List Expr} {scope : Scope} {pos : Pos} {D : Addr} {wi1 : TI} {g g1 : TG} {tt tt1 : TT} {tk tv : TE} {R : Result → Shared → Prop}
/-- the inner loop, from where the first clause has said yes -/
theorem dc2_inner {pins : List (Addr × Obj)} {σ2 : L2.St} {H3 : Hp} {s3 : Shared} {ws : List Nat} {Nx : Hp → Prop} {Fin : Shared → Prop} (hc : Y.calm = true) (hx : Y.xe = fun _ _ => False) (pi1 : PI Y t1 i1 wi1) (pg1 : PG Y t1 g1) (pt1 : PTs Y ifs1 tt1) (pk : PE Y kx tk) (pv : PE Y vx tv)
    (I3 : Inv Y pins σ2 H3 s3)
    (h : wi1 σ2 H3 fun J1 H4 => ∃ W1 : Nat → Nat → Hp → Prop, (∃ m, W1 0 m H4) ∧ ∀ j k H, W1 j k H →
      (J1.stop j H ∧ Nx H) ∨ (J1.go j H ∧ ∃ Nx1 : Hp → Prop, (∀ H', Nx1 H' → ∃ k', k' < k ∧ W1 (j + 1) k' H') ∧ ∀ x H', J1.yld j H x H' → g1 x (L2.wipe σ2 ws) H' fun σ3 H5 => tt1 σ3 H5 fun b H6 => L2.wipe σ3 ws = L2.wipe σ2 ws ∧
        if b = true then tk σ3 H6 fun y H7 => tv σ3 H7 fun z H8 => ∃ kvs k, y = kV k ∧ H8 D = some (.dK kvs) ∧ kvs.length < sizeLine ∧ Nx1 (upd H8 D (.dK (putK kvs k z))) else Nx1 H6))
    (hF : ∀ H' s', Inv Y pins (L2.wipe σ2 ws) H' s' → Nx H' → Fin s') :
    wpAny (model Y.prog Y.w) Y.A (eval i1 Y.env) (fun x s₄ => wpAny (model Y.prog Y.w) Y.A (pyIter x) (fun it1 s₅ =>
      codeAny (model Y.prog Y.w) Y.A (.compStart (dc2 kx vx t0 i0 t1 i1 ifs0 ifs1 scope pos) 1 it1 (.ref D) Y.env) (fun r s' => match r with
        | .ok _ => Fin s'
        | .error _ => False) s₅) (Nb Y.prog Y.w Y.A Y.env R) s₄) (Nb Y.prog Y.w Y.A Y.env R) s3 := by
  have ri := pi1.run
  have rk := pk.run
  have rv := pv.run
  rw [hx] at ri rk rv
  refine thnF (ri pins s3 σ2 H3 _ I3 h) fun xv s4 h4 => thnF h4 fun itv s5 h5 => ?_
  obtain ⟨it, fp, tn, J, H5, e, I5, T, st, f5, W1, ⟨m1, w1⟩, turn⟩ := h5
  subst e
  have loop : codeAny (model Y.prog Y.w) Y.A (.compLoop (dc2 kx vx t0 i0 t1 i1 ifs0 ifs1 scope pos) 1 (.ref it) (.ref D) Y.env) (fun r s' => match r with
        | .ok _ => Fin s'
        | .error _ => False) s5 := by
    refine dloop_in (fun k s' => ∃ j H', Inv Y pins (L2.wipe σ2 ws) H' s' ∧ tn j s'.heap ∧ (∀ b ∈ fp, H' b = none) ∧ W1 j k H') ?_ m1 ⟨0, H5, I5.weak (wipe_length _ _) (fun j v e => (wipe_some e).1), st, fun b hb => (f5 b hb).1, w1⟩
    rintro k s6 ⟨j, H6, I6, st6, n6, w6⟩
    have hf : ∀ b ∈ fp, FpOk Y pins H6 b := fun b hb => ⟨n6 b hb, (f5 b hb).2⟩
    have tr := turn j k H6 w6
    -- the turn's end
    have fin : ∀ {Nx1 : Hp → Prop}, (∀ H', Nx1 H' → ∃ k', k' < k ∧ W1 (j + 1) k' H') → ∀ {σ7 : L2.St} {H' : Hp} {s' : Shared}, L2.wipe σ7 ws = L2.wipe σ2 ws → Aft Y pins fp tn (j + 1) σ7 H' s' → Nx1 H' → ∃ m, m < k ∧ ∃ j H', Inv Y pins (L2.wipe σ2 ws) H' s' ∧ tn j s'.heap ∧ (∀ b ∈ fp, H' b = none) ∧ W1 j m H' := fun {Nx1} hN {σ7 H' s'} hw a nx => by
      obtain ⟨k', hk, w'⟩ := hN H' nx
      obtain ⟨I', st', n'⟩ := a.back (σ := L2.wipe σ2 ws) T (by rw [← hw, wipe_length]) (fun j v e => by rw [← hw] at e; exact (wipe_some e).1)
      exact ⟨k', hk, j + 1, H', I', st', n', w'⟩
    rcases tr with ⟨sp, nx⟩ | ⟨go, Nx1, hN1, step⟩
    · exact clause_run (KS := Nx) (KB := fun _ _ _ => False) T hc hx pg1 pt1 I6 hf st6 (.inl ⟨sp, nx⟩) (fun s' I' nx => hF H6 s' I' nx) (fun _ _ _ _ z => z.elim) fun _ _ _ _ z => z.elim
    · refine clause_run (KS := fun _ => False) (KB := fun b σ3 H6 => L2.wipe σ3 ws = L2.wipe σ2 ws ∧ if b = true then tk σ3 H6 fun y H7 => tv σ3 H7 fun z H8 => ∃ kvs k, y = kV k ∧ H8 D = some (.dK kvs) ∧ kvs.length < sizeLine ∧ Nx1 (upd H8 D (.dK (putK kvs k z))) else Nx1 H6) T hc hx pg1 pt1 I6 hf st6 (.inr ⟨go, step⟩) (fun _ _ z => z.elim) ?_ ?_
      · rintro σ7 H7 s7 ⟨h7, I7, st7⟩ ⟨hw, q⟩
        rw [if_pos rfl] at q
        refine thnF (rk _ s7 σ7 H7 _ I7 q) fun u s8 ⟨y, H8, I8, r8, q8⟩ => ?_
        refine thnF (rv _ s8 σ7 H8 _ I8 q8) fun u2 s9 ⟨z, H9, I9, r9, kvs, ky, ek, hD, hz, nx⟩ => ?_
        subst ek
        exact d_dictSet I9 hD hz r8 r9 fun s10 I10 => fin hN1 hw ⟨h7, I10, st7⟩ nx
      · rintro σ7 H7 s7 a ⟨hw, q⟩
        rw [if_neg (by decide)] at q
        exact fin hN1 hw a q
  exact dstart1 _ loop (T.self Y.A 0 _ _ _ st loop)
end
end Tr
/- Tr35 -/
/-! Tr, part 35: dict comprehensions with two clauses, as an expression. -/
namespace Tr
open PySem PySem.Spec PyProof.Rows L2
section
variable {X : Cx} {kx vx tg iter tg1 iter1 : Expr} {ifs ifs1 : List Expr} {scope : Scope} {oo : List (Str × Nat)} {ws : List Nat} {pos : Pos} {wi wi1 : TI} {g g1 : TG} {tt tt1 : TT} {tk tv : TE}
theorem pe_dc2 (hc : X.calm = true) (hN : X.N.Nodup) (hi : PI X tg iter wi) (ok : BlkOk X.N X.env.scope scope oo) (hv : ∀ i ∈ ws, i ∈ oo.map (·.2))
    (hb : ∀ (s : Shared) (H : Hp) (C : Addr) (cl : List (Str × Addr)) (fp : List Addr), let Y := X.blk s H scope (compEnvC scope cl C X.env) fp
      PG Y tg g ∧ PTs Y ifs tt ∧ PI Y tg1 iter1 wi1 ∧ PG Y tg1 g1 ∧ PTs Y ifs1 tt1 ∧ PE Y kx tk ∧ PE Y vx tv)
    (hs : ∀ x, foldedSetIterable iter X.env x = pure x := by intro _; rfl) (hs1 : ∀ env x, foldedSetIterable iter1 env x = pure x := by intro _ _; rfl) :
    PE X (dc2 kx vx tg iter tg1 iter1 ifs ifs1 scope pos) (tDc2 wi g tt wi1 g1 tt1 tk tv (oo.map (·.2)) ws) := by
  refine ⟨fun pins s σ H Q I h => ?_⟩
  have hfree : ∀ y ∈ scope.names, y.2 = .free → ∃ c, X.env.cells.lookup y.1 = some c := fun y hy e => (ok.free y hy e).elim (fun k => I.ok.has _ (.inl k)) fun k => I.ok.has _ (.inr k)
  rw [arm_eval_DictComp]
  refine wpAny_comprehension_free (use := none) rfl hs (closure_ok hfree) ok.kind (fun y hy e => by rw [ok.uniq y hy, e]) (thn (hi.run pins s σ H _ I h) fun xv s1 hx => thn hx fun itv s2 h2 => ?_)
  obtain ⟨it, fp, tn, J, H2, e, I2, T, st2, f2, q⟩ := h2
  subst e
  refine wpAny_newObj_type (newEnv_comp ?_)
  generalize hD : s2.heap.objs.size = D
  have hDn : H2 D = none := I2.hok.fresh (Nat.le_of_eq hD)
  obtain ⟨W, ⟨m0, w0⟩, turn⟩ := q D hDn
  generalize hvs : oo.map (·.2) = vs at turn hv
  generalize hs3 : ({ s2 with heap := s2.heap.push { cls := .type "dict", data := .dict #[] } } : Shared) = s3
  have grow : ∀ (b : Addr) (o : Obj), s2.heap.get? b = some o → s3.heap.get? b = some o := fun b o e => by rw [← hs3]; exact Heap.get?_push_of_some _ e
  have I3 : Inv X pins σ (upd H2 D (.dK [])) s3 := by
    rw [← hs3]
    refine I2.laid (t' := s2.toks) (fun b o e => Heap.get?_push_of_some _ e) (Nat.le_of_eq hD) ?_
    rw [← hD]
    exact dk_empty s2.heap I2.big
  have f3 : ∀ b ∈ fp, FpOk X pins (upd H2 D (.dK [])) b ∧ b < s3.heap.objs.size := fun b hb => by
    obtain ⟨o, e, _⟩ := T.obj _ _ st2 b hb
    have lt := Heap.lt_size e
    refine ⟨⟨?_, (f2 b hb).2⟩, Heap.lt_size (grow b o e)⟩
    rw [upd_ne (by rw [← hD]; exact Nat.ne_of_lt lt)]
    exact (f2 b hb).1
  have I4 := block_start I3 ok hN f3
  obtain ⟨pg, pt, pi1, pg1, pt1, pk, pv⟩ := hb s3 (upd H2 D (.dK [])) s3.heap.objs.size (cellsFrom (s3.heap.objs.size + 1) scope.names (cloFrom X.env.cells scope.names [])) fp
  show codeAny _ _ (.compStart (dc2 kx vx tg iter tg1 iter1 ifs ifs1 scope pos) 0 (.ref it) (.ref D) (compEnvC scope (cellsFrom (s3.heap.objs.size + 1) scope.names (cloFrom X.env.cells scope.names [])) s3.heap.objs.size X.env)) (compPost (model X.prog X.w) X.A X.xe none _ (.ref D) s3.heap.objs.size) { s3 with heap := pushCells (s3.heap.push { cls := .type "dict", data := .dict #[] }) scope.names }
  generalize hce : compEnvC scope (cellsFrom (s3.heap.objs.size + 1) scope.names (cloFrom X.env.cells scope.names [])) s3.heap.objs.size X.env = ce at I4 pg pt pi1 pg1 pt1 pk pv ⊢
  have cL : ce.locals = s3.heap.objs.size := by subst hce; rfl
  have nfp : ∀ b ∈ fp, (upd H2 D (.dK [])) b = none := fun b hb => (f3 b hb).1.1
  generalize upd H2 D (.dK []) = H3 at I3 I4 pg pt pi1 pg1 pt1 pk pv w0 nfp f3
  generalize hs4 : ({ s3 with heap := pushCells (s3.heap.push { cls := .type "dict", data := .dict #[] }) scope.names } : Shared) = s4 at I4 ⊢
  have st4 : tn 0 s4.heap := T.keep _ _ _ st2 fun b _ o e => by rw [← hs4]; exact pushCells_keeps _ _ _ _ (Heap.get?_push_of_some _ (grow b o e))
  rw [hvs] at I4
  have loop : codeAny (model X.prog X.w) X.A (.compLoop (dc2 kx vx tg iter tg1 iter1 ifs ifs1 scope pos) 0 (.ref it) (.ref D) ce) (compPost (model X.prog X.w) X.A X.xe none (fun v s1 => ∃ v1 H', Inv X pins σ H' s1 ∧ RelV v1 v ∧ Q v1 H') (.ref D) s3.heap.objs.size) s4 := by
    refine dloop_out (env := ce) (.ref D) (hs1 ce) (fun n s' => ∃ i H', Inv (X.blk s3 H3 scope ce fp) [] (L2.wipe σ vs) H' s' ∧ tn i s'.heap ∧ (∀ b ∈ fp, H' b = none) ∧ W i n H') ?_ m0 ⟨0, H3, I4, st4, nfp, w0⟩
    rintro n s5 ⟨i, H5, I5, st5, n5, w5⟩
    have hf : ∀ b ∈ fp, FpOk (X.blk s3 H3 scope ce fp) [] H5 b := fun b hb => ⟨n5 b hb, (I5.ok.exf b hb).1, I5.ok.exfs b hb, .inl hb, fun x c e => (I5.ok.exf b hb).2 x c e, fun p hp => absurd (show p ∈ ([] : List (Addr × Obj)) ++ [] from hp) (by simp)⟩
    rcases turn i n H5 w5 with ⟨sp, qq⟩ | ⟨go, Nx, hNx, step⟩
    · refine clause_run (Y := X.blk s3 H3 scope ce fp) (KS := fun H => Q (.ref D) H) (KB := fun _ _ _ => False) T hc rfl pg pt I5 hf st5 (.inl ⟨sp, qq⟩) (fun s6 I6 qq => ?_) (fun _ _ _ _ z => z.elim) fun _ _ _ _ z => z.elim
      have I7 : Inv X pins σ H5 s6 := I3.call' (ch := fp) I6.os I6.base I6.hok I6.bare fun b hb => ⟨(f3 b hb).1.2.2.2.1, (f3 b hb).1.2.1, (f3 b hb).1.2.2.2.2.1, (f3 b hb).1.2.2.2.2.2⟩
      have nC : H5 ce.locals = none := I6.free
      obtain ⟨m, hn, _⟩ := I6.loc
      have hn : s6.heap.Ns ce.locals m := hn
      rw [cL] at hn nC
      refine ⟨m, hn, fun h'' sb => ?_⟩
      obtain ⟨f0, f1, f2, f3, f4, f5⟩ := I3.fpOk (Nat.le_refl _) nC
      exact ⟨.ref D, H5, I7.turned (t' := s6.toks) (fun b o hb e => (sb.2 b hb).trans e) f0 f1 f3 f4 f5, rfl, qq⟩
    · have fin : ∀ {σ7 : L2.St} {H' : Hp} {s' : Shared}, Aft (X.blk s3 H3 scope ce fp) [] fp tn (i + 1) σ7 H' s' → (L2.wipe σ vs).length = σ7.length → (∀ (j : Nat) v, (L2.wipe σ vs)[j]? = some (some v) → σ7[j]? = some (some v)) → Nx H' →
          ∃ m, m < n ∧ ∃ i H', Inv (X.blk s3 H3 scope ce fp) [] (L2.wipe σ vs) H' s' ∧ tn i s'.heap ∧ (∀ b ∈ fp, H' b = none) ∧ W i m H' := fun a hl hk nx => by
        obtain ⟨m', hm, w'⟩ := hNx _ nx
        obtain ⟨I', st', n'⟩ := a.back (σ := L2.wipe σ vs) T hl hk
        exact ⟨m', hm, i + 1, _, I', st', n', w'⟩
      refine clause_run (Y := X.blk s3 H3 scope ce fp) (KS := fun _ => False) (KB := _) T hc rfl pg pt I5 hf st5 (.inr ⟨go, step⟩) (fun _ _ z => z.elim) ?_ ?_
      · rintro σ7 H7 s7 ⟨h7, I7, st7⟩ ⟨hw, q⟩
        rw [if_pos rfl] at q
        refine dc2_inner (Y := X.blk s3 H3 scope ce fp) (ws := ws) hc rfl pi1 pg1 pt1 pk pv I7 q fun H8 s8 I8 nx => ?_
        refine fin ⟨h7, I8, st7⟩ (by rw [← hw, wipe_length, wipe_length]) (fun j v e => ?_) nx
        rw [← hw] at e
        obtain ⟨e1, e2⟩ := wipe_some e
        rw [wipe_out fun z => e2 (hv j z)]
        exact e1
      · rintro σ7 H7 s7 a ⟨hw, q⟩
        rw [if_neg (by decide)] at q
        exact fin a (by rw [← hw, wipe_length]) (fun j v e => by rw [← hw] at e; exact (wipe_some e).1) q
  exact codeAny_compStart_dict loop (T.self X.A 0 _ _ _ st4 loop)
end
end Tr
/- Tr36 -/
/-! Tr, part 36: dict comprehensions with two clauses, over trees. -/
namespace Tr
open PySem L2
def tIM (W : Wd) (E : XK) (m : LM) : TI := fun σ H R => ∃ (Φ : Fx) (F : List Addr) (ρ : Env), RS W Φ H F ρ σ ∧ PostI W Φ E σ (own Φ.O F) H R (m ρ)
section
variable {X : Cx} {W : Wd} {E : XK} {tg iter : Expr} {m : LM}
theorem si_can (h : SI X W E tg iter m) : PI X tg iter (tIM W E m) := by
  obtain ⟨wi, p, k⟩ := h
  exact ⟨fun pins s σ H R I ⟨Φ, F, ρ, I', q⟩ => p.run pins s σ H R I (k Φ H F ρ σ R I' trivial q)⟩
end
def dIn2 (ws : List Nat) (g : GM) (tt : TM) (tk tv : EM) : List (Key × D) → List D → Env → R (List (Key × D))
  | acc, [], ρ => .ok acc ρ
  | acc, x :: xs, ρ => match g x ρ with
    | none => .bad
    | some ρ1 => bnd (noX (tt ρ1)) fun b ρ2 => if b = true then bnd (noX (tk ρ2)) fun y ρ3 => bnd (noX (tv ρ3)) fun z ρ4 => match keyOf y with
      | some k => if acc.length < cap then dIn2 ws g tt tk tv (putD acc k z) xs (wipeE ρ4 ws) else .bad
      | none => .bad else dIn2 ws g tt tk tv acc xs (wipeE ρ2 ws)
def dOut2 (vs ws : List Nat) (g : GM) (tt : TM) (it1 : LM) (g1 : GM) (tt1 : TM) (tk tv : EM) : List (Key × D) → List D → Env → R (List (Key × D))
  | acc, [], ρ => .ok acc ρ
  | acc, x :: xs, ρ => match g x ρ with
    | none => .bad
    | some ρ1 => bnd (noX (tt ρ1)) fun b ρ2 => if b = true then bnd (noX (it1 ρ2)) fun ys ρ3 => bnd (dIn2 ws g1 tt1 tk tv acc ys (wipeE ρ3 ws)) fun acc ρ4 => dOut2 vs ws g tt it1 g1 tt1 tk tv acc xs (wipeE ρ4 vs)
      else dOut2 vs ws g tt it1 g1 tt1 tk tv acc xs (wipeE ρ2 vs)
def eDComp2 (it : LM) (vs ws : List Nat) (g : GM) (tt : TM) (it1 : LM) (g1 : GM) (tt1 : TM) (tk tv : EM) : EM := fun ρ => bnd (it ρ) fun xs ρ1 => bnd (dOut2 vs ws g tt it1 g1 tt1 tk tv [] xs (wipeE ρ1 vs)) fun kvs ρ2 => .ok (.dK kvs) ρ2
end Tr
/- Tr37 -/
/-! Tr, part 37: the rule for dict comprehensions with two clauses. -/
namespace Tr
open PySem L2
theorem wipe_wipe {σ : L2.St} {ws vs : List Nat} (h : ∀ i ∈ ws, i ∈ vs) : L2.wipe (L2.wipe σ ws) vs = L2.wipe σ vs := by
  apply List.ext_getElem?
  intro i
  rw [wipe_get, wipe_get, wipe_get, wipe_length]
  by_cases hv : i ∈ vs
  · simp [hv]
  · have : i ∉ ws := fun m => hv (h i m)
    simp [hv, this]
section
variable {X : Cx} {W : Wd} {E : XK} {kx vx tg iter tg1 iter1 : Expr} {ifs ifs1 : List Expr} {scope : Scope} {oo : List (Str × Nat)} {pos : Pos} {it it1 : LM} {g g1 : GM} {tt tt1 : TM} {tk tv : EM} {is is1 ws : List Nat}
theorem noX_invB {α β : Type} {r : R α} {k : α → Env → R β} {k2 : β → Env → R D} {Φ : Fx} {σ : St} {B : Addr → Prop} {H : Hp} {Q : VK} (h : PostE W Φ E σ B H Q (bnd (bnd (noX r) k) k2)) : ∃ a ρ, r = .ok a ρ ∧ PostE W Φ E σ B H Q (bnd (k a ρ) k2) := by
  cases r with
  | ok a ρ => exact ⟨a, ρ, rfl, h⟩
  | exc _ _ _ => exact h.elim
  | bad => exact h.elim
theorem se_dcomp2 (hc : X.calm = true) (hN : X.N.Nodup) (hi : SI X W E tg iter it) (ok : BlkOk X.N X.env.scope scope oo) (hv : ∀ i ∈ ws, i ∈ oo.map (·.2)) (his : ∀ i ∈ is, i ∈ oo.map (·.2)) (his1 : ∀ i ∈ is1, i ∈ ws)
    (hb : ∀ (s : Shared) (H : Hp) (C : Addr) (cl : List (Str × Addr)) (fp : List Addr), let Y := X.blk s H scope (compEnvC scope cl C X.env) fp
      SG Y W tg is g ∧ STs Y W E0 ifs tt ∧ SI Y W E0 tg1 iter1 it1 ∧ SG Y W tg1 is1 g1 ∧ STs Y W E0 ifs1 tt1 ∧ SE Y W E0 kx tk ∧ SE Y W E0 vx tv)
    (hs : ∀ x, foldedSetIterable iter X.env x = pure x := by intro _; rfl) (hs1 : ∀ env x, foldedSetIterable iter1 env x = pure x := by intro _ _; rfl) :
    SE X W E (dc2 kx vx tg iter tg1 iter1 ifs ifs1 scope pos) (eDComp2 it (oo.map (·.2)) ws g tt it1 g1 tt1 tk tv) := by
  obtain ⟨wi, pi, ki⟩ := hi
  refine ⟨_, pe_dc2 hc hN pi ok hv (fun s H C cl fp => by
    obtain ⟨a, b, c, d, e, f, h⟩ := hb s H C cl fp
    exact ⟨a.can, b.ex, si_can c, d.can, e.ex, f.can, h.can⟩) hs hs1, fun Φ H F ρ σ Q I h => ?_⟩
  refine ki _ _ _ _ _ _ I trivial ?_
  unfold eDComp2 at h
  cases em : it ρ with
  | exc c d ρ1 => rw [em] at h; exact h
  | bad => rw [em] at h; exact h
  | ok xs ρ1 =>
    rw [em] at h
    generalize hvs : oo.map (·.2) = vs at h his hv
    have h : PostE W Φ E σ (own Φ.O F) H Q (bnd (dOut2 vs ws g tt it1 g1 tt1 tk tv [] xs (wipeE ρ1 vs)) fun kvs ρ2 => .ok (.dK kvs) ρ2) := h
    intro J H1 F1 I1 x1 itd
    intro D hD
    have h0 := I1.h0 hD
    have nO : ¬ Φ.O D := fun o => by
      obtain ⟨u, q⟩ := I1.oo D o
      rw [hD] at q; cases q
    have start : ∃ F2, RS W (Φ.plus D) (upd H1 D (.dK [])) F2 (wipeE ρ1 vs) (wipe σ vs) ∧ Ext (own Φ.O F1) H1 (own (Φ.plus D).O F2) (upd H1 D (.dK [])) := by
      obtain ⟨I2, x2⟩ := I1.apart (o := .dK []) hD
      obtain ⟨F3, I3, x3⟩ := I2.wipe vs
      exact ⟨F3, I3, x2.trans x3⟩
    obtain ⟨F2, I2, x2⟩ := start
    let Pv : Nat → Hp → Prop := fun i H' => ∃ (F' : List Addr) (ρ' : Env) (acc : List (Key × V)) (ds : List (Key × Tr.D)), RS W (Φ.plus D) H' F' (wipeE ρ' vs) (wipe σ vs) ∧ Ext (own Φ.O F1) H1 (own (Φ.plus D).O F') H' ∧ H' D = some (.dK acc) ∧
      RelKs W (own (Φ.plus D).O F') H' ds acc ∧ PostE W Φ E σ (own Φ.O F) H Q (bnd (dOut2 vs ws g tt it1 g1 tt1 tk tv ds (xs.drop i) (wipeE ρ' vs)) fun kvs ρ2 => .ok (.dK kvs) ρ2)
    have P0 : Pv 0 (upd H1 D (.dK [])) := ⟨F2, ρ1, [], [], I2, x2, upd_same, by unfold RelKs; rfl, by rw [List.drop_zero]; exact h⟩
    refine ⟨fun i m H => m = xs.length - i ∧ i ≤ xs.length ∧ Pv i H, ⟨xs.length, by simp, Nat.zero_le _, P0⟩, ?_⟩
    rintro i m H' ⟨rfl, hi, F', ρ', acc, ds, I', x', hD', rs, hq⟩
    have go := itd (own (Φ.plus D).O F') H' i x' I'.tk
    by_cases hlt : i < xs.length
    · have hx : xs[i]? = some xs[i] := List.getElem?_eq_getElem hlt
      obtain ⟨g1', g2'⟩ := go.1 _ hx
      refine .inr ⟨g1', Pv (i + 1), fun H' p' => ⟨xs.length - (i + 1), by omega, rfl, hlt, p'⟩, fun x H2 y => ?_⟩
      obtain ⟨sm, rx⟩ := g2' x H2 y
      obtain ⟨I3, x3⟩ := I'.same sm
      rw [List.drop_eq_getElem_cons hlt] at hq
      unfold dOut2 at hq
      cases eg : g xs[i] (wipeE ρ' vs) with
      | none => rw [eg] at hq; exact hq.elim
      | some ρ2 =>
        rw [eg] at hq
        have nDF : D ∉ F' := fun m => I'.dj D m (.inr rfl)
        have hD2 : H2 D = some (.dK acc) := sm D _ hD'
        refine ⟨⟨(Φ.plus D).O, H2, F', (Φ.plus D).v0⟩, F', _, ρ2, _, I3.turn, rx, eg, fun σ4 F4 I4 x4 f4 => ?_⟩
        have w4 : L2.wipe σ4 vs = L2.wipe σ vs := f4.wipe his
        obtain ⟨b, ρ3, eb, hq⟩ := noX_invB hq
        refine ⟨_, F4, ρ2, I4, ?_⟩
        rw [eb]
        intro k H5 F5 I5 x5 ek
        subst ek
        refine ⟨w4, ?_⟩
        obtain ⟨I6, st6⟩ := I3.back I5
        have hD5 := st6 D _ hD2 nDF
        have x35 := (x3.trans x4).trans x5
        cases b with
        | false =>
          show Pv (i + 1) H5
          obtain ⟨F7, I7, x7⟩ := I6.wipe vs
          rw [w4] at I7
          have xx := x35.trans x7
          refine ⟨F7, ρ3, acc, ds, I7, x'.trans xx, hD5, rs.ext xx, ?_⟩
          simp only [Bool.false_eq_true, if_false] at hq
          exact hq
        | true =>
          simp only [if_true] at hq
          show tIM W E0 it1 σ4 H5 _
          obtain ⟨ys, ρ4, ey, hq⟩ := noX_invB hq
          refine ⟨_, F5, ρ3, I5, ?_⟩
          rw [ey]
          intro J1 H6 F6 I7 x7 itd1
          obtain ⟨I8, st8⟩ := I3.back I7
          have hD6 := st8 D _ hD2 nDF
          have x36 := x35.trans x7
          obtain ⟨F8, I9, x9⟩ := I8.wipe ws
          rw [bnd_assoc] at hq
          let Pv1 : Nat → Hp → Prop := fun j K' => ∃ (G' : List Addr) (ρ' : Env) (acc : List (Key × V)) (ds : List (Key × Tr.D)), RS W (Φ.plus D) K' G' (wipeE ρ' ws) (wipe σ4 ws) ∧ Ext (own (Φ.plus D).O F6) H6 (own (Φ.plus D).O G') K' ∧ K' D = some (.dK acc) ∧
            RelKs W (own (Φ.plus D).O G') K' ds acc ∧ PostE W Φ E σ (own Φ.O F) H Q (bnd (dIn2 ws g1 tt1 tk tv ds (ys.drop j) (wipeE ρ' ws)) fun acc ρ4 => bnd (dOut2 vs ws g tt it1 g1 tt1 tk tv acc (xs.drop (i + 1)) (wipeE ρ4 vs)) fun kvs ρ2 => .ok (.dK kvs) ρ2)
          have P1 : Pv1 0 H6 := ⟨F8, ρ4, acc, ds, I9, x9, hD6, rs.ext (x36.trans x9), by rw [List.drop_zero]; exact hq⟩
          refine ⟨fun j k K => k = ys.length - j ∧ j ≤ ys.length ∧ Pv1 j K, ⟨ys.length, by simp, Nat.zero_le _, P1⟩, ?_⟩
          rintro j k K' ⟨rfl, hj, G', ρ5, acc5, ds5, J', y', hE', rs5, hq5⟩
          have go1 := itd1 (own (Φ.plus D).O G') K' j y' J'.tk
          by_cases hlt1 : j < ys.length
          · have hy : ys[j]? = some ys[j] := List.getElem?_eq_getElem hlt1
            obtain ⟨p1, p2⟩ := go1.1 _ hy
            refine .inr ⟨p1, Pv1 (j + 1), fun K' p' => ⟨ys.length - (j + 1), by omega, rfl, hlt1, p'⟩, fun x K2 y => ?_⟩
            obtain ⟨sm1, rx1⟩ := p2 x K2 y
            obtain ⟨J3, z3⟩ := J'.same sm1
            rw [List.drop_eq_getElem_cons hlt1] at hq5
            unfold dIn2 at hq5
            cases eg1 : g1 ys[j] (wipeE ρ5 ws) with
            | none => rw [eg1] at hq5; exact hq5.elim
            | some ρ6 =>
              rw [eg1] at hq5
              have nDG : D ∉ G' := fun m => J'.dj D m (.inr rfl)
              have hE2 : K2 D = some (.dK acc5) := sm1 D _ hE'
              refine ⟨⟨(Φ.plus D).O, K2, G', (Φ.plus D).v0⟩, G', _, ρ6, _, J3.turn, rx1, eg1, fun σ7 G4 J4 z4 f4' => ?_⟩
              have w7 : L2.wipe σ7 ws = L2.wipe σ4 ws := f4'.wipe his1
              simp only [bnd_assoc] at hq5
              obtain ⟨b1, ρ7, eb1, hq5⟩ := noX_invE hq5
              refine ⟨_, G4, ρ6, J4, ?_⟩
              rw [eb1]
              intro b2 K5 G5 J5 z5 ek1
              subst ek1
              refine ⟨w7, ?_⟩
              cases b1 with
              | false =>
                show Pv1 (j + 1) K5
                obtain ⟨J6, st9⟩ := J3.back J5
                obtain ⟨G7, J7, z7⟩ := J6.wipe ws
                rw [w7] at J7
                have zz := ((z3.trans z4).trans z5).trans z7
                refine ⟨G7, ρ7, acc5, ds5, J7, y'.trans zz, st9 D _ hE2 nDG, rs5.ext zz, ?_⟩
                simp only [Bool.false_eq_true, if_false] at hq5
                exact hq5
              | true =>
                simp only [if_true, bnd_assoc] at hq5
                obtain ⟨y1, ρ8, ey1, hq5⟩ := noX_invE hq5
                show tM W E0 tk σ7 K5 _
                refine ⟨_, G5, ρ7, J5, ?_⟩
                rw [ey1]
                intro v K6 G6 J6 z6 r6
                obtain ⟨z, ρ9, ez, hq5⟩ := noX_invE hq5
                refine ⟨_, G6, ρ8, J6, ?_⟩
                rw [ez]
                intro u K7 G7 J7 z7 r7
                obtain ⟨J8, st9⟩ := J3.back J7
                have hE7 := st9 D _ hE2 nDG
                cases ky : keyOf y1 with
                | none => rw [ky] at hq5; exact hq5.elim
                | some kk =>
                  rw [ky] at hq5
                  by_cases hcap : ds5.length < cap
                  · simp only [hcap, if_true] at hq5
                    obtain ⟨J9, z9⟩ := J8.rewrite (o := .dK (putK acc5 kk u)) h0
                    obtain ⟨G10, J10, z10⟩ := J9.wipe ws
                    rw [w7] at J10
                    have za := ((z3.trans z4).trans z5).trans (z6.trans z7)
                    have zs := za.trans (z9.trans z10)
                    refine ⟨acc5, kk, keyOf_V ky r6, hE7, ?_, G10, ρ9, putK acc5 kk u, putD ds5 kk z, J10, y'.trans zs, upd_same, relKs_put (rs5.ext zs) (r7.ext (z9.trans z10)), hq5⟩
                    rw [← relKs_len rs5]
                    exact Nat.lt_of_lt_of_le hcap cap_le
                  · simp only [hcap, if_false] at hq5
                    exact hq5.elim
          · have ej : j = ys.length := by omega
            refine .inl ⟨go1.2 ej, ?_⟩
            rw [ej, List.drop_length] at hq5
            show Pv (i + 1) K'
            obtain ⟨G7, J7, z7⟩ := J'.wipe vs
            rw [wipe_wipe hv, w4] at J7
            have zz := (x36.trans y').trans z7
            exact ⟨G7, wipeE ρ5 ws, acc5, ds5, J7, x'.trans zz, hE', rs5.ext z7, hq5⟩
    · have e : i = xs.length := by omega
      refine .inl ⟨go.2 e, ?_⟩
      rw [e, List.drop_length] at hq
      have hq : PostE W Φ E σ (own Φ.O F) H Q (.ok (.dK ds) (wipeE ρ' vs)) := hq
      obtain ⟨I3, x3⟩ := I'.unplus
      have I4 := I3.unwipe fun j hj s q => wipeE_at hj q
      refine hq _ H' F' I4 (x1.trans (x'.trans x3)) ?_
      unfold RelD
      refine ⟨D, acc, rfl, fun o => ?_, .inl hD', rs.ext x3⟩
      rcases o with o | o
      · exact nO o
      · exact I'.dj D o (.inr rfl)
end
end Tr
/- Tr38 -/
/-! Tr, part 38: a def that ends by a new list; it is kept as a list of one's own. -/
namespace Tr
open PySem L2
inductive RFN where
  | ok (ds : List D) | bad
abbrev SMN := Env → R (List D)
abbrev FnN := List SV → RFN
def endOfN : R (List D) → RFN
  | .ok ds _ => .ok ds
  | _ => .bad
def fnOfN (p n : Nat) (body : SMN) : FnN := fun ss => if ss.length = p then endOfN (body (ss ++ List.replicate (n - p) .no)) else .bad
def sRetL (l : LM) : SMN := l
def sConsN (a : SM) (b : SMN) : SMN := fun ρ => bnd (a ρ) fun o ρ => match o with
  | none => b ρ
  | some _ => .bad
def lCallN (f : FnN) (l : LM) : LM := fun ρ => bnd (l ρ) fun xs ρ => match f (xs.map .val) with
  | .ok ds => .ok ds ρ
  | .bad => .bad
section
variable {X : Cx} {W : Wd} {E : XK} {st : Stmt} {rest : List Stmt} {ms : SM} {mr : SMN} {ml : LM} {e : Expr} {pos : Pos}
/-- a body that ends by a new list -/
def PostSN (W : Wd) (Φ : Fx) (D : Ends) : R (List Tr.D) → Prop
  | .ok ds ρ' => ∀ vs σ' H' F' p, RS W Φ H' F' ρ' σ' → RelDs W (own Φ.O F') H' ds vs → H' p = none → D.rt (.ref p) (L2.upd H' p (.lst vs))
  | _ => False
structure SBN (X : Cx) (W : Wd) (E : XK) (st : List Stmt) (m : SMN) : Prop where
  ex : ∃ t, PSs X st t ∧ ∀ (Φ : Fx) (H : Hp) (F : List Addr) (ρ : Env) (σ : St) (D : Ends), RS W Φ H F ρ σ → PostSN W Φ D (m ρ) → t D σ H
theorem sbn_ret (h : SN X W E e ml) : SBN X W E [.Return (some e) pos] (sRetL ml) := by
  obtain ⟨t, p, k⟩ := h
  refine ⟨_, pss_one (ps_ret p), fun Φ H F ρ σ D I h => ?_⟩
  refine k _ _ _ _ _ _ I ?_
  unfold sRetL at h
  cases em : ml ρ with
  | ok ds ρ1 => rw [em] at h; exact fun vs H' F' p I' x' rs hp => h vs σ H' F' p I' rs hp
  | exc c d ρ1 => rw [em] at h; exact h.elim
  | bad => rw [em] at h; exact h.elim
theorem sbn_cons (h1 : SS X W E st ms) (h2 : SBN X W E rest mr) : SBN X W E (st :: rest) (sConsN ms mr) := by
  obtain ⟨t1, p1, k1⟩ := h1
  obtain ⟨t2, p2, k2⟩ := h2
  refine ⟨_, pss_cons p1 p2, fun Φ H F ρ σ D I h => ?_⟩
  refine k1 _ _ _ _ _ _ I ?_
  unfold sConsN at h
  cases em : ms ρ with
  | ok o ρ1 =>
    rw [em] at h
    cases o with
    | none => exact fun σ' H' F' I' => k2 _ _ _ _ _ _ I' h
    | some d => exact h.elim
  | exc c d ρ1 => rw [em] at h; exact h.elim
  | bad => rw [em] at h; exact h.elim
end
def PostFN (W : Wd) (O : Addr → Prop) (H : Hp) (Q : VK) : RFN → Prop
  | .ok ds => ∀ vs H' F' p, Same H H' → RelDs W (own O F') H' ds vs → H' p = none → Q (.ref p) (L2.upd H' p (.lst vs))
  | .bad => False
def spFN (W : Wd) (f : FnN) : Sp := fun vs H Q _ => ∃ (O : Addr → Prop) (ds : List D), RelDs W (own O []) H ds vs ∧ (∀ a, O a → ∃ o, H a = some o) ∧ PostFN W O H Q (f (ds.map .val))
section
variable {P : Program} {w : World} {K : PySem.W.Frag} {mg : Str → Option Value} {base : Heap} {W : Wd}
theorem ok_atN {x qual : Str} {st : Stmt} {f : Addr} {N ps : List Str} {k : Nat} {m : SMN} {params : Arguments} {dV kV doc pm cdv ct oc : Value} {an od : Option Addr} {osl : Array (Option Value)}
    (lk : K.lookup f = some ⟨oc, od, .func (PySem.W.fnOf x qual params (defBody st) (defScope st) dV kV doc pm an cdv ct), osl⟩) (hcd : PySem.W.codeIn K cdv qual = true) (S : FnScope N ps (defScope st))
    (hb : ∀ (cdv : Value) (A : Around) (outer : List PySem.Env) (s : Shared) (H : Hp) (E : XK), RoomG k (CXe P w K mg base N qual st f cdv A outer s H E).A → SBN (CXe P w K mg base N qual st f cdv A outer s H E) W E (defBody st) m) :
    FnB P w K mg base (L2.CX P w) (k + 1) f (PySem.W.fnOf x qual params (defBody st) (defScope st) dV kV doc pm an cdv ct) ps (spFN W (fnOfN ps.length N.length m)) := by
  have ln : ∀ vs H Q E, spFN W (fnOfN ps.length N.length m) vs H Q E → vs.length = ps.length := fun vs H Q E h => by
    obtain ⟨O, ds, hr, _, hp⟩ := h
    have := relDs_len hr
    unfold fnOfN at hp
    split at hp
    · rename_i q; rw [List.length_map] at q; omega
    · exact hp.elim
  refine fnB_of lk hcd S ln (fun A outer s H vs Q E hr h => ?_)
  have lv := ln vs H Q E h
  obtain ⟨O, ds, hrel, tk, hp⟩ := h
  obtain ⟨t, p, kk⟩ := hb cdv A outer s H E hr
  refine ⟨t, p, ?_⟩
  have hl : ds.length = vs.length := relDs_len hrel
  have hlp : (ds.map SV.val).length = ps.length := by rw [List.length_map, hl, lv]
  have I : RS W ⟨O, H, [], vs.head?⟩ H [] (ds.map SV.val ++ List.replicate (N.length - ps.length) .no) (start N vs) := by
    refine ⟨sl_app_no _ _ (by rw [lv]) (sl_vals hrel), List.nodup_nil, fun a o q _ => q, fun a m => (nomatch m), tk, fun a m => (nomatch m), fun s' q1 q2 => ?_⟩
    cases ds with
    | nil =>
      rw [List.map_nil, List.nil_append, List.getElem?_replicate] at q1
      split at q1
      · cases q1; cases q2
      · cases q1
    | cons s0 ss =>
      cases q1; cases q2
  refine kk _ _ _ _ _ _ I ?_
  unfold fnOfN at hp
  rw [if_pos hlp] at hp
  cases em : m (ds.map SV.val ++ List.replicate (N.length - ps.length) .no) with
  | ok es ρ' =>
    intro us σ' H' F' p I' rs hn
    rw [em] at hp
    exact hp us H' F' p (fun a o q => I'.st a o q (fun z => nomatch z)) rs hn
  | exc c d ρ' => rw [em] at hp; exact hp.elim
  | bad => rw [em] at hp; exact hp.elim
structure GDN (P : Program) (w : World) (K : PySem.W.Frag) (mg : Str → Option Value) (base : Heap) (W : Wd) (k : Nat) (x : Str) (f : FnN) : Prop where
  ex : ∃ fa, mg x = some (.ref fa) ∧ PySem.W.keepIn K (.ref fa) = true ∧ FnQ P w K mg base (L2.CX P w) k fa (spFN W f)
end
section
variable {X : Cx} {W : Wd} {E : XK} {k : Nat} {x : Str} {f : FnN} {ml : LM} {e : Expr} {es : List Expr} {p pos : Pos}
theorem sn_callN (G : GDN X.prog X.w X.K X.mg X.base W k x f) (hr : RoomG k X.A) (hx : Passes (L2.CX X.prog X.w) X E) (hg : Gl X x) (hl : SA X W E (e :: es) ml)
    (hdb : (x == ("__debug__" : Str)) = false := by decide) (he : starEach (e :: es) X.env = (false, eval e X.env) :: starEach es X.env := by rfl) (hpl : (backTo pos (starEach es X.env)).any (·.1) = false := by rfl) :
    SN X W E (.Call (.Name x p) (e :: es) [] pos) (lCallN f ml) := by
  obtain ⟨fa, hm, hk, F⟩ := G
  obtain ⟨tl, pl, kl⟩ := hl
  refine ⟨_, pe_cl F hr hg hm hk hx pl hdb he hpl, fun Φ H F ρ σ Q I h => ?_⟩
  refine kl _ _ _ _ _ _ I ?_
  unfold lCallN at h
  cases em : ml ρ with
  | exc c d ρ1 => rw [em] at h; exact h
  | bad => rw [em] at h; exact h
  | ok xs ρ1 =>
    rw [em] at h
    intro vs H1 F1 I1 x1 r1
    show spFN W f (vs ++ []) H1 Q E
    rw [List.append_nil]
    refine ⟨own Φ.O F1, xs, r1.ext (ext_sub fun a z => by rcases z with z | z; exact z; cases z), I1.tk, ?_⟩
    have h : PostN W Φ E σ (own Φ.O F) H Q (match f (xs.map .val) with
      | .ok ds => .ok ds ρ1
      | .bad => .bad) := h
    cases ef : f (xs.map .val) with
    | bad => rw [ef] at h; exact h.elim
    | ok ds =>
      rw [ef] at h
      intro us H' F' q sm rs hn
      obtain ⟨I2, x2⟩ := I1.same sm
      exact h us H' F1 q I2 (x1.trans x2) (rs.ext (ext_sub fun a z => .inl z)) hn
end
end Tr
/- Tr39 -/
/-! Tr, part 39: from the text's facts to the bundles of defs. -/
namespace Tr
open PySem L2
theorem u64 {k : Nat} {A : Around} (r : RoomG k A) : A.units + 64 < cLine := by have := r.rm.un; omega
theorem u62 {k : Nat} {A : Around} (r : RoomG k A) : A.units + 62 < cLine := by have := r.rm.un; omega
theorem u66 {k : Nat} {A : Around} (r : RoomG k A) : A.units + 66 < cLine := by have := r.rm.un; omega
theorem u1 {k : Nat} {A : Around} (r : RoomG k A) : A.units + 1 < cLine := by have := r.rm.un; omega
section
variable {P : Program} {w : World} {K : PySem.W.Frag} {mg : Str → Option Value} {base : Heap} {W : Wd} {x q : Str} {st : Stmt} {k c n : Nat} {N ps ks : List Str} {m : SM} {mN : SMN}
abbrev BodyOk (P : Program) (w : World) (K : PySem.W.Frag) (mg : Str → Option Value) (base : Heap) (W : Wd) (N : List Str) (q : Str) (st : Stmt) (k : Nat) (m : SM) : Prop :=
  ∀ (f : Addr) (cdv : Value) (A : Around) (outer : List PySem.Env) (s : Shared) (H : Hp) (E : XK), RoomG k (CXe P w K mg base N q st f cdv A outer s H E).A → SB (CXe P w K mg base N q st f cdv A outer s H E) W E (defBody st) m
abbrev Bind0 (x q : Str) (st : Stmt) (ps : List Str) : Prop := ∀ (kV doc pm : Value) (an : Option Addr) (cdv ct : Value) (us : List Value), us.length = ps.length → bindArgs (PySem.W.fnOf x q (defArgs st) (defBody st) (defScope st) .none kV doc pm an cdv ct) ⟨us, []⟩ = pure (ps.zip us)
abbrev Bind1 (x q : Str) (st : Stmt) (ps : List Str) (n : Nat) : Prop := ∀ (T : Addr) (kV doc pm : Value) (an : Option Addr) (cdv ct : Value) (us its : List Value), us.length = ps.length → its.length = n →
  ∃ k, bindArgs (PySem.W.fnOf x q (defArgs st) (defBody st) (defScope st) (.ref T) kV doc pm an cdv ct) ⟨us, []⟩ = seqItems? (.ref T) >>= k ∧ k (some its.toArray) = pure (ps.zip (us ++ its.drop n))
abbrev BindK (x q : Str) (st : Stmt) (ps ks : List Str) (n : Nat) : Prop := ∀ (kV doc pm : Value) (an : Option Addr) (cdv ct : Value) (us ws : List Value), us.length = n → ws.length = ks.length →
  bindArgs (PySem.W.fnOf x q (defArgs st) (defBody st) (defScope st) .none kV doc pm an cdv ct) ⟨us, ks.zip ws⟩ = pure (ps.zip (us ++ ws))
theorem nilD {α : Type} {l : List α} (h : l.length = 0) : l = [] := List.eq_nil_of_length_eq_zero h
theorem raw0 {fa : Addr} {fd : FuncData} {dvs : List V} {kws : List (Str × V)} (F : FunD K x q (defArgs st) (defBody st) (defScope st) dvs kws fa fd) (h0 : dvs.length = 0) (S : FnScope N ps (defScope st)) (hB : Bind0 x q st ps) (hb : BodyOk P w K mg base W N q st k m) :
    FnQ P w K mg base (L2.CX P w) (k + 1) fa (spF W (fnOf ps.length N.length m)) := by
  have := nilD h0
  subst this
  exact (ok_fnD F S (hb fa)).raw (F.bindsN hB)
theorem raw1 {fa : Addr} {fd : FuncData} {dvs : List V} {kws : List (Str × V)} (F : FunD K x q (defArgs st) (defBody st) (defScope st) dvs kws fa fd) (h0 : dvs.length = n) (hn : n ≠ 0) (S : FnScope N ps (defScope st)) (hB : Bind1 x q st ps n) (hb : BodyOk P w K mg base W N q st k m) :
    FnQ P w K mg base (L2.CX P w) (k + 1) fa (spF W (fnOf ps.length N.length m)) := by
  obtain ⟨ds, hv, hbi⟩ := F.binds1 ps.length n (fun e => hn (by rw [← h0, e]; rfl)) (by rw [h0]; omega) fun T kV doc pm an cdv ct us its h1 h2 => hB T kV doc pm an cdv ct us its h1 (h2.trans h0)
  have e : dvs.drop n = [] := by rw [← h0, List.drop_length]
  rw [e] at hv
  cases hv
  exact (ok_fnD F S (hb fa)).raw hbi
theorem rawK {fa : Addr} {fd : FuncData} {dvs : List V} {kws : List (Str × V)} (F : FunD K x q (defArgs st) (defBody st) (defScope st) dvs kws fa fd) (h0 : dvs.length = 0) (S : FnScope N ps (defScope st)) (hB : BindK x q st ps ks n) (hb : BodyOk P w K mg base W N q st k m) :
    FnK P w K mg base (L2.CX P w) (k + 1) fa n ks (spF W (fnOf ps.length N.length m)) := by
  have := nilD h0
  subst this
  refine FnK.of (ok_fnD F S (hb fa)) ⟨fun s us ws X l1 l2 => ?_, fun r1 r2 => r1.append r2⟩
  obtain ⟨oc, od, dV, kV, doc, pm, an, cdv, ct, osl, rfl, lk, hcd, hD, hK⟩ := F.ex
  rcases hD with ⟨_, rfl⟩ | ⟨e, _⟩
  · exact .of_eq (hB kV doc pm an cdv ct us ws l1 l2)
  · exact absurd rfl e
theorem gd_of (T : ∃ (fa : Addr) (fd : FuncData) (dvs : List V), mg x = some (.ref fa) ∧ FunD K x x (defArgs st) (defBody st) (defScope st) dvs [] fa fd ∧ dvs.length = 0) (S : FnScope N ps (defScope st)) (hB : Bind0 x x st ps) (hb : BodyOk P w K mg base W N x st k m) :
    GD P w K mg base W (k + 1) x (fnOf ps.length N.length m) := by
  obtain ⟨fa, fd, dvs, hm, F, h0⟩ := T
  exact ⟨fa, hm, F.kp, raw0 F h0 S hB hb⟩
theorem gd_of1 (T : ∃ (fa : Addr) (fd : FuncData) (dvs : List V), mg x = some (.ref fa) ∧ FunD K x x (defArgs st) (defBody st) (defScope st) dvs [] fa fd ∧ dvs.length = n) (S : FnScope N ps (defScope st)) (hn : n ≠ 0) (hB : Bind1 x x st ps n) (hb : BodyOk P w K mg base W N x st k m) :
    GD P w K mg base W (k + 1) x (fnOf ps.length N.length m) := by
  obtain ⟨fa, fd, dvs, hm, F, h0⟩ := T
  exact ⟨fa, hm, F.kp, raw1 F h0 hn S hB hb⟩
theorem gdn_of (T : ∃ (fa : Addr) (fd : FuncData) (dvs : List V), mg x = some (.ref fa) ∧ FunD K x x (defArgs st) (defBody st) (defScope st) dvs [] fa fd ∧ dvs.length = 0) (S : FnScope N ps (defScope st)) (hB : Bind0 x x st ps)
    (hb : ∀ (f : Addr) (cdv : Value) (A : Around) (outer : List PySem.Env) (s : Shared) (H : Hp) (E : XK), RoomG k (CXe P w K mg base N x st f cdv A outer s H E).A → SBN (CXe P w K mg base N x st f cdv A outer s H E) W E (defBody st) mN) :
    GDN P w K mg base W (k + 1) x (fnOfN ps.length N.length mN) := by
  obtain ⟨fa, fd, dvs, hm, F, h0⟩ := T
  have := nilD h0
  subst this
  obtain ⟨oc, od, dV, kV, doc, pm, an, cdv, ct, osl, rfl, lk, hcd, _, _⟩ := F.ex
  exact ⟨fa, hm, F.kp, (ok_atN lk hcd S (hb fa)).raw (F.bindsN hB)⟩
theorem id_of (T : ∃ (fa : Addr) (fd : FuncData) (dvs : List V) (kws : List (Str × V)), mg x = some (.ref (W.Ca c)) ∧ Mk K (W.Ca c) fa ∧ FunD K "__init__" q (defArgs st) (defBody st) (defScope st) dvs kws fa fd ∧ dvs.length = 0) (S : FnScope N ps (defScope st)) (hB : Bind0 "__init__" q st ps) (hb : BodyOk P w K mg base W N q st k m) :
    ID P w K mg base W (k + 1) c x (fnOf ps.length N.length m) := by
  obtain ⟨fa, fd, dvs, kws, hm, M, F, h0⟩ := T
  exact ⟨fa, hm, M, raw0 F h0 S hB hb⟩
theorem id_of1 (T : ∃ (fa : Addr) (fd : FuncData) (dvs : List V) (kws : List (Str × V)), mg x = some (.ref (W.Ca c)) ∧ Mk K (W.Ca c) fa ∧ FunD K "__init__" q (defArgs st) (defBody st) (defScope st) dvs kws fa fd ∧ dvs.length = n) (S : FnScope N ps (defScope st)) (hn : n ≠ 0) (hB : Bind1 "__init__" q st ps n) (hb : BodyOk P w K mg base W N q st k m) :
    ID P w K mg base W (k + 1) c x (fnOf ps.length N.length m) := by
  obtain ⟨fa, fd, dvs, kws, hm, M, F, h0⟩ := T
  exact ⟨fa, hm, M, raw1 F h0 hn S hB hb⟩
theorem idk_of (T : ∃ (fa : Addr) (fd : FuncData) (dvs : List V) (kws : List (Str × V)), mg x = some (.ref (W.Ca c)) ∧ Mk K (W.Ca c) fa ∧ FunD K "__init__" q (defArgs st) (defBody st) (defScope st) dvs kws fa fd ∧ dvs.length = 0) (S : FnScope N ps (defScope st)) (hB : BindK "__init__" q st ps ks (n + 1)) (hb : BodyOk P w K mg base W N q st k m) :
    IDK P w K mg base W (k + 1) c x n ks (fnOf ps.length N.length m) := by
  obtain ⟨fa, fd, dvs, kws, hm, M, F, h0⟩ := T
  exact ⟨fa, hm, M, rawK F h0 S hB hb⟩
theorem pd_of (C : CD K W c) (T : ∃ (pa fa : Addr) (fd : FuncData), PropOf K (W.Ca c) x pa fa ∧ FunD K x q (defArgs st) (defBody st) (defScope st) [] [] fa fd) (S : FnScope N ps (defScope st)) (hB : Bind0 x q st ps) (hb : BodyOk P w K mg base W N q st k m) :
    PD P w K mg base W (k + 1) c x (fnOf ps.length N.length m) := by
  obtain ⟨pa, fa, fd, hp, F⟩ := T
  exact ⟨C, pa, fa, hp, raw0 F rfl S hB hb⟩
theorem md_of (C : CD K W c) (an : x ∉ W.an c) (T : ∃ (fa : Addr) (fd : FuncData) (kws : List (Str × V)), Meth K (W.Ca c) x fa ∧ PySem.W.fnIn K fa = true ∧ FunD K x q (defArgs st) (defBody st) (defScope st) [] kws fa fd) (S : FnScope N ps (defScope st)) (hB : Bind0 x q st ps) (hb : BodyOk P w K mg base W N q st k m) :
    MD P w K mg base W (k + 1) c x (fnOf ps.length N.length m) := by
  obtain ⟨fa, fd, kws, M, hf, F⟩ := T
  exact ⟨C, an, fa, M, hf, raw0 F rfl S hB hb⟩
theorem mdk_of (C : CD K W c) (an : x ∉ W.an c) (T : ∃ (fa : Addr) (fd : FuncData) (kws : List (Str × V)), Meth K (W.Ca c) x fa ∧ PySem.W.fnIn K fa = true ∧ FunD K x q (defArgs st) (defBody st) (defScope st) [] kws fa fd) (S : FnScope N ps (defScope st)) (hB : BindK x q st ps ks (n + 1)) (hb : BodyOk P w K mg base W N q st k m) :
    MDK P w K mg base W (k + 1) c x n ks (fnOf ps.length N.length m) := by
  obtain ⟨fa, fd, kws, M, hf, F⟩ := T
  exact ⟨C, an, fa, M, rawK F rfl S hB hb⟩
end
end Tr
/- Tr40 -/
/-! Tr, part 40: name = [..] on one line; a conditional as a test. -/
namespace Tr
open PySem L2
section
variable {X : Cx} {W : Wd} {E : XK} {elt tg iter : Expr} {ifs : List Expr} {scope : Scope} {oo : List (Str × Nat)} {pos spos py : Pos} {it : LM} {g : GM} {tt : TM} {te : EM} {is : List Nat} {y : Str} {l : Nat}
/-- name = [..] on one line, the name a local: kept as a list of one's own -/
theorem ss_compL (i : Nat) (hc : X.calm = true) (hN : X.N.Nodup) (hi : SI X W E tg iter it) (ok : BlkOk X.N X.env.scope scope oo) (his : ∀ i ∈ is, i ∈ oo.map (·.2))
    (hg : ∀ (s : Shared) (H : Hp) (C : Addr) (cl : List (Str × Addr)) (fp : List Addr), SG (X.blk s H scope (compEnvC scope cl C X.env) fp) W tg is g)
    (ht : ∀ (s : Shared) (H : Hp) (C : Addr) (cl : List (Str × Addr)) (fp : List Addr), STs (X.blk s H scope (compEnvC scope cl C X.env) fp) W E0 ifs tt)
    (he : ∀ (s : Shared) (H : Hp) (C : Addr) (cl : List (Str × Addr)) (fp : List Addr), SE (X.blk s H scope (compEnvC scope cl C X.env) fp) W E0 elt te)
    (hk : X.env.scope.kind = .function) (hl : (py.line == pos.line) = true) (ha : (scope.names.any fun (n, k) => n == y && (k == .local || k == .cell)) = false)
    (hy : X.N[i]? = some y := by rfl) (hyl : X.env.scope.names.lookup y = some .local := by rfl) (hs : ∀ x, foldedSetIterable iter X.env x = pure x := by intro _; rfl) :
    SS X W E (.Assign [.Name y py] (.ListComp elt [⟨tg, iter, ifs, 0⟩] scope pos) spos) (sNewL i (lComp it (oo.map (·.2)) g tt te)) := by
  obtain ⟨wi, pi, ki⟩ := hi
  refine ⟨_, ps_setLc hc hN hy hyl (sw_true hk hyl hl ha) pi ok (fun s H C cl fp => (hg s H C cl fp).can) (fun s H C cl fp => (ht s H C cl fp).ex) (fun s H C cl fp => (he s H C cl fp).can) hs, fun Φ H F ρ σ D I h => ?_⟩
  refine lc_sem (E := E) ki his I trivial ?_
  unfold sNewL at h
  cases em : lComp it (oo.map (·.2)) g tt te ρ with
  | ok xs ρ1 =>
    rw [em] at h
    have h : PostS W Φ E D (if i ≠ 0 ∧ i < ρ1.length then .ok none (ρ1.set i (.ol xs)) else .bad) := h
    split at h
    · rename_i hc
      intro vs H1 F1 q I1 x1 r1 hp
      obtain ⟨F2, I2, _⟩ := I1.lnew hp r1 hc.1 hc.2
      exact h _ _ _ I2
    · exact h.elim
  | exc c d ρ1 =>
    rw [em] at h
    exact fun dx v H' F' I' => h dx v _ H' F' I'
  | bad => rw [em] at h; exact h
/-- .. kept as a tree -/
theorem ss_compV (i : Nat) (hc : X.calm = true) (hN : X.N.Nodup) (hi : SI X W E tg iter it) (ok : BlkOk X.N X.env.scope scope oo) (his : ∀ i ∈ is, i ∈ oo.map (·.2))
    (hg : ∀ (s : Shared) (H : Hp) (C : Addr) (cl : List (Str × Addr)) (fp : List Addr), SG (X.blk s H scope (compEnvC scope cl C X.env) fp) W tg is g)
    (ht : ∀ (s : Shared) (H : Hp) (C : Addr) (cl : List (Str × Addr)) (fp : List Addr), STs (X.blk s H scope (compEnvC scope cl C X.env) fp) W E0 ifs tt)
    (he : ∀ (s : Shared) (H : Hp) (C : Addr) (cl : List (Str × Addr)) (fp : List Addr), SE (X.blk s H scope (compEnvC scope cl C X.env) fp) W E0 elt te)
    (hk : X.env.scope.kind = .function) (hl : (py.line == pos.line) = true) (ha : (scope.names.any fun (n, k) => n == y && (k == .local || k == .cell)) = false)
    (hy : X.N[i]? = some y := by rfl) (hyl : X.env.scope.names.lookup y = some .local := by rfl) (hs : ∀ x, foldedSetIterable iter X.env x = pure x := by intro _; rfl) :
    SS X W E (.Assign [.Name y py] (.ListComp elt [⟨tg, iter, ifs, 0⟩] scope pos) spos) (sAsg (eLstN (lComp it (oo.map (·.2)) g tt te)) (gSet i)) := by
  obtain ⟨wi, pi, ki⟩ := hi
  refine ⟨_, ps_setLc hc hN hy hyl (sw_true hk hyl hl ha) pi ok (fun s H C cl fp => (hg s H C cl fp).can) (fun s H C cl fp => (ht s H C cl fp).ex) (fun s H C cl fp => (he s H C cl fp).can) hs, fun Φ H F ρ σ D I h => ?_⟩
  refine lc_sem (E := E) ki his I trivial ?_
  unfold sAsg eLstN at h
  cases em : lComp it (oo.map (·.2)) g tt te ρ with
  | ok xs ρ1 =>
    rw [em] at h
    intro vs H1 F1 q I1 x1 r1 hp
    obtain ⟨I2, x2⟩ := I1.same (same_new (o := .lst vs) hp)
    have h : PostS W Φ E D (match gSet i (.lst xs) ρ1 with
      | some ρ' => .ok none ρ'
      | none => .bad) := h
    unfold gSet at h
    split at h
    · rename_i ρ' e
      split at e
      · rename_i hlt
        cases e
        obtain ⟨F', I', x⟩ := I2.setVal (List.getElem?_eq_getElem hlt) (relD_new_lst I1.tk hp r1)
        exact h _ _ _ I'
      · cases e
    · exact h.elim
  | exc c d ρ1 =>
    rw [em] at h
    exact fun dx v H' F' I' => h dx v _ H' F' I'
  | bad => rw [em] at h; exact h
end
def tIfM (c a b : TM) : TM := fun ρ => bnd (c ρ) fun k ρ => if k = true then a ρ else b ρ
def tIfT (c a b : TT) : TT := fun σ H Q => c σ H fun k H1 => if k = true then a σ H1 Q else b σ H1 Q
section
variable {X : Cx} {W : Wd} {E : XK} {a b c : Expr} {ma mb mc : TM} {pos : Pos}
theorem pt_if {ta tb tc : TT} (hc : PT X c tc) (ha : PT X a ta) (hb : PT X b tb) : PT X (.IfExp c a b pos) (tIfT tc ta tb) := by
  refine ⟨fun pins s σ H Q I h => ?_⟩
  show wpAny _ _ (do if ← isTrue c X.env (eval c X.env) then isTrue a X.env (eval a X.env) else isTrue b X.env (eval b X.env)) _ _ _
  refine wpAny_bind (thn (hc.run pins s σ H _ I h) fun k s1 hk => ?_)
  obtain ⟨H1, I1, q⟩ := hk
  cases k with
  | true => exact ha.run pins s1 σ H1 Q I1 q
  | false => exact hb.run pins s1 σ H1 Q I1 q
theorem st_if (hc : ST X W E c mc) (ha : ST X W E a ma) (hb : ST X W E b mb) : ST X W E (.IfExp c a b pos) (tIfM mc ma mb) := by
  obtain ⟨tc, pc, kc⟩ := hc
  obtain ⟨ta, pa, ka⟩ := ha
  obtain ⟨tb, pb, kb⟩ := hb
  refine ⟨_, pt_if pc pa pb, fun Φ H F ρ σ Q I h => ?_⟩
  refine kc _ _ _ _ _ _ I (h.bnd fun k ρ1 v H1 F1 _ I1 x1 r1 h1 => ?_)
  subst r1
  cases k with
  | true => exact ka _ _ _ _ _ _ I1 h1
  | false => exact kb _ _ _ _ _ _ I1 h1
end
end Tr
/- Tr41 -/
/-! Tr, part 41: list(range(n)). -/
namespace Tr
open PySem L2
def itRangeL : List D → Option (List D)
  | [.int j] => if okB j = true ∧ j.toNat ≤ cap then some (rangeD 0 j.toNat) else none
  | _ => none
section
variable {X : Cx} {W : Wd} {E : XK} {e : Expr} {ma : EM} {p p2 pos pos2 : Pos}
theorem relDs_range {A : Addr → Prop} {H : Hp} (n : Nat) : RelDs W A H (rangeD 0 n) (rgV 0 n) := by
  unfold rangeD rgV
  rw [show ((n : Int) - 0).toNat = n by omega]
  generalize List.range n = l
  induction l with
  | nil => exact relDs_nil
  | cons i l ih =>
    rw [List.map_cons, List.map_cons]
    exact relDs_cons relD_int ih
theorem sn_listRange (hc : X.calm = true) (hg : Gl X "list") (hm : X.mg "list" = none) (hg2 : Gl X "range") (hm2 : X.mg "range" = none) (hl : SE X W E e ma)
    (na : starEach [e] X.env = (false, eval e X.env) :: starEach [] X.env := by rfl) (na2 : starEach [.Call (.Name "range" p2) [e] [] pos2] X.env = (false, eval (.Call (.Name "range" p2) [e] [] pos2) X.env) :: starEach [] X.env := by rfl) :
    SN X W E (.Call (.Name "list" p) [.Call (.Name "range" p2) [e] [] pos2] [] pos) (lIt itRangeL (lCons ma lNil)) := by
  obtain ⟨t, pp, k⟩ := hl
  refine ⟨_, pe_listRg hc hg hm (prg_1 hg2 hm2 pp na) na2, fun Φ H F ρ σ Q I h => ?_⟩
  refine k _ _ _ _ _ _ I ?_
  unfold lIt lCons lNil at h
  cases em : ma ρ with
  | ok d ρ1 =>
    rw [em] at h
    intro v H1 F1 I1 x1 r1
    have h : PostN W Φ E σ (own Φ.O F) H Q (optR (itRangeL [d]) ρ1) := h
    cases d with
    | int j =>
      have h : PostN W Φ E σ (own Φ.O F) H Q (optR (if okB j = true ∧ j.toNat ≤ cap then some (rangeD 0 j.toNat) else none) ρ1) := h
      split at h
      · rename_i hj
        obtain ⟨h1, h2⟩ := hj
        have hb := okB_inv h1
        have ev := relD_int_inv r1
        refine ⟨j, ev, ⟨by omega, by omega, hb.1, hb.2, ?_⟩, fun q hq => ?_⟩
        · have : cap ≤ 2 ^ 24 := by decide
          omega
        · have e : rgV 0 j = rgV 0 (j.toNat : Int) := by
            unfold rgV
            rw [show ((j.toNat : Int) - 0).toNat = (j - 0).toNat by omega]
          rw [e]
          exact h _ H1 F1 q I1 x1 (relDs_range _) hq
      · exact h.elim
    | _ => exact h.elim
  | exc c d ρ1 => rw [em] at h; exact h
  | bad => rw [em] at h; exact h
end
end Tr
/- Tr42 -/
/-! Tr, part 42: list(zip(a, b)): the machine's turns. -/
namespace Tr
open PySem PySem.Spec PyProof.Rows L2
section
variable {prog : Program} {w : World} {A : Around} {E : Value → Shared → Prop} {s : Shared}
/-- a zip that has handed out the tuple T, which is kept elsewhere -/
abbrev ZipO (h : Heap) (z TI TO T : Addr) (f : Bool) : Prop :=
  h.get? z = some { cls := .type "zip", dict := none, data := .fields #[rawInt T, .bool f, .bool false, .ref TI, .ref TO], slots := #[] }
theorem zo_free {z TI TO T : Addr} {f : Bool} {oT : Obj} {Q : Bool → Shared → Prop} (hz : ZipO s.heap z TI TO T f) (hT : s.heap.get? T = some oT)
    (hQ : ∀ h', ZipO h' z TI TO T true → Heap.SameBut z s.heap h' → Q false { s with heap := h' }) : wpAny (model prog w) A (Builtin.SmallTypes.ownedTupleIsFree (.ref z)) Q E s := by
  unfold Builtin.SmallTypes.ownedTupleIsFree
  refine wpAny_bind (wpAny_field hz rfl (x := rawInt T) rfl ?_)
  show wpAny _ _ (loadIfAlive ((T : Int).toNat) >>= _) _ _ _
  rw [Int.toNat_natCast]
  refine wpAny_bind (PySem.W.kdx_alive hT ?_)
  simp only [Option.isNone_some, Bool.false_eq_true, if_false]
  refine wpAny_bind (wpAny_field hz rfl (x := .bool f) rfl ?_)
  cases f with
  | true =>
    rw [if_neg (show ¬ ((Value.bool true != Value.bool true) = true) from Bool.false_ne_true)]
    exact wpAny_pure (hQ s.heap hz (Heap.SameBut.refl _ _))
  | false =>
    rw [if_pos (show (Value.bool false != Value.bool true) = true from rfl)]
    refine wpAny_bind (wpAny_setField_rec hz (by simp) fun h₁ hz₁ hs₁ => ?_)
    exact wpAny_pure (hQ h₁ hz₁ hs₁)
theorem zo_item {z TI TO T i1 i2 l1 l2 : Addr} {f : Bool} {k1 k2 : Nat} {xs ys : Array Value} {x y : Value} {oT : Obj} {Q : Value → Shared → Prop} (D : ZipApart z TI TO i1 i2 l1 l2)
    (hz : ZipO s.heap z TI TO T f) (hT : s.heap.get? T = some oT) (hTI : IsPair s.heap TI (.ref i1) (.ref i2))
    (h1 : s.heap.IsListIter i1 l1 k1) (h2 : s.heap.IsListIter i2 l2 k2) (hl1 : s.heap.IsList l1 xs) (hl2 : s.heap.IsList l2 ys) (hx : xs[k1]? = some x) (hy : ys[k2]? = some y)
    (hQ : ∀ h', ZipO h' z TI TO T true → h'.IsListIter i1 l1 (k1 + 1) → h'.IsListIter i2 l2 (k2 + 1) → IsPair h' s.heap.objs.size x y → h'.objs.size = s.heap.objs.size + 1 →
      (∀ c o, c ≠ z → c ≠ i1 → c ≠ i2 → s.heap.get? c = some o → h'.get? c = some o) → Q (.ref s.heap.objs.size) { s with heap := h' }) :
    wpAny (model prog w) A (Builtin.«zip.__next__» ⟨[.ref z], []⟩) (fun fin s' => ∃ v, fin = .done (.ret v) ∧ Q v s') E s := by
  show wpAny _ _ (field (.ref z) 2 >>= _) _ _ _
  refine wpAny_bind (wpAny_field hz rfl (x := .bool false) rfl ?_)
  show wpAny _ _ (field (.ref z) 3 >>= _) _ _ _
  refine wpAny_bind (wpAny_field hz rfl (x := .ref TI) rfl ?_)
  refine wpAny_bind (wpAny_seqItems hTI rfl ?_)
  show wpAny _ _ (Builtin.SmallTypes.ownedTupleIsFree (.ref z) >>= _) _ _ _
  refine wpAny_bind (zo_free hz hT fun h₁ hz₁ hs₁ => ?_)
  simp only [Bool.false_eq_true, if_false]
  refine wpAny_bind ?_
  rw [← Array.forIn_toList]
  simp only [List.forIn_cons, List.forIn_nil]
  refine wpAny_bind (wpAny_bind (wpAny_holding ?_))
  show wpAny _ _ (Builtin.SmallTypes.nextOf (.ref i1) >>= _) _ _ _
  refine wpAny_bind (wpAny_nextOf_list_item (h1.extBut hs₁.extBut D.i1z) (hl1.extBut hs₁.extBut D.l1z) hx fun h₂ h1₂ hs₂ => wpAny_pure ?_)
  refine wpAny_pure ?_
  refine wpAny_bind (wpAny_bind (wpAny_holding ?_))
  show wpAny _ _ (Builtin.SmallTypes.nextOf (.ref i2) >>= _) _ _ _
  refine wpAny_bind (wpAny_nextOf_list_item ((h2.extBut hs₁.extBut D.i2z).extBut hs₂.extBut D.i12.symm) ((hl2.extBut hs₁.extBut D.l2z).extBut hs₂.extBut D.l2i1) hy fun h₃ h2₃ hs₃ => wpAny_pure ?_)
  refine wpAny_pure (wpAny_pure ?_)
  have hsz : h₃.objs.size = s.heap.objs.size := by rw [hs₃.1, hs₂.1, hs₁.1]
  have hz₃ : ZipO h₃ z TI TO T true := hs₃.extBut _ _ D.i2z.symm (hs₂.extBut _ _ D.i1z.symm hz₁)
  refine wpAny_bind (wpAny_newTuple (hsz := by show (2 : Nat) ≤ sizeLine; decide) ?_)
  refine wpAny_pure ⟨_, rfl, ?_⟩
  show Q (.ref h₃.objs.size) _
  have g : IsPair (h₃.push { cls := .type "tuple", data := .seq #[x, y] }) h₃.objs.size x y := Heap.get?_push_size _ rfl
  rw [hsz] at g ⊢
  exact hQ _ (Heap.get?_push_of_some _ hz₃) ((h1₂.extBut hs₃.extBut D.i12).at fun o e => Heap.get?_push_of_some _ e) (h2₃.at fun o e => Heap.get?_push_of_some _ e) g (by rw [Heap.size_push, hsz]) fun c o c1 c2 c3 e =>
    Heap.get?_push_of_some _ (hs₃.extBut _ _ c3 (hs₂.extBut _ _ c2 (hs₁.extBut _ _ c1 e)))
theorem zo_end {z TI TO T i1 i2 l1 l2 : Addr} {f : Bool} {k1 k2 : Nat} {xs ys : Array Value} {oT : Obj} {Q : Fin → Shared → Prop} (hh : A.handled = none) (D : ZipApart z TI TO i1 i2 l1 l2)
    (hz : ZipO s.heap z TI TO T f) (hT : s.heap.get? T = some oT) (hTI : IsPair s.heap TI (.ref i1) (.ref i2))
    (h1 : s.heap.IsListIter i1 l1 k1) (h2 : s.heap.IsListIter i2 l2 k2) (hl1 : s.heap.IsList l1 xs) (hl2 : s.heap.IsList l2 ys) (hend : xs[k1]? = none ∨ ys[k2]? = none)
    (hE : ∀ h' e, (∀ c o, c ≠ z → c ≠ i1 → c ≠ i2 → s.heap.get? c = some o → h'.get? c = some o) → (∃ o, h'.get? e = some o ∧ o.cls = .type "StopIteration") → E (.ref e) { s with heap := h' }) :
    wpAny (model prog w) A (Builtin.«zip.__next__» ⟨[.ref z], []⟩) Q E s := by
  show wpAny _ _ (field (.ref z) 2 >>= _) _ _ _
  refine wpAny_bind (wpAny_field hz rfl (x := .bool false) rfl ?_)
  show wpAny _ _ (field (.ref z) 3 >>= _) _ _ _
  refine wpAny_bind (wpAny_field hz rfl (x := .ref TI) rfl ?_)
  refine wpAny_bind (wpAny_seqItems hTI rfl ?_)
  show wpAny _ _ (Builtin.SmallTypes.ownedTupleIsFree (.ref z) >>= _) _ _ _
  refine wpAny_bind (zo_free hz hT fun h₁ hz₁ hs₁ => ?_)
  simp only [Bool.false_eq_true, if_false]
  refine wpAny_bind ?_
  rw [← Array.forIn_toList]
  simp only [List.forIn_cons, List.forIn_nil]
  refine wpAny_bind (wpAny_bind (wpAny_holding ?_))
  show wpAny _ _ (Builtin.SmallTypes.nextOf (.ref i1) >>= _) _ _ _
  cases hx : xs[k1]? with
  | none =>
    refine wpAny_bind (wpAny_nextOf_list_end hh (h1.extBut hs₁.extBut D.i1z) (hl1.extBut hs₁.extBut D.l1z) hx fun h₂ e hs₂ he => ?_)
    exact hE h₂ e (fun c o c1 c2 _ x => hs₂ _ _ c2 (hs₁.extBut _ _ c1 x)) he
  | some x =>
    have hy : ys[k2]? = none := by rcases hend with h | h; rw [hx] at h; cases h; exact h
    refine wpAny_bind (wpAny_nextOf_list_item (h1.extBut hs₁.extBut D.i1z) (hl1.extBut hs₁.extBut D.l1z) hx fun h₂ h1₂ hs₂ => wpAny_pure ?_)
    refine wpAny_pure ?_
    refine wpAny_bind (wpAny_bind (wpAny_holding ?_))
    show wpAny _ _ (Builtin.SmallTypes.nextOf (.ref i2) >>= _) _ _ _
    refine wpAny_bind (wpAny_nextOf_list_end hh ((h2.extBut hs₁.extBut D.i2z).extBut hs₂.extBut D.i12.symm) ((hl2.extBut hs₁.extBut D.l2z).extBut hs₂.extBut D.l2i1) hy fun h₃ e hs₃ he => ?_)
    exact hE h₃ e (fun c o c1 c2 c3 x => hs₃ _ _ c3 (hs₂.extBut _ _ c2 (hs₁.extBut _ _ c1 x))) he
end
end Tr
/- Tr43 -/
/-! Tr, part 43: list(zip([x], [y])). -/
namespace Tr
open PySem PySem.Spec PyProof.Rows L2
theorem zip_no_len : typeLookup (.type "zip") "__len__" = pure none := am_miss_of_fast (by decide +kernel)
theorem zip_no_hint : typeLookup (.type "zip") "__length_hint__" = pure none := am_miss_of_fast (by decide +kernel)
section
variable {prog : Program} {w : World} {A : Around} {E : Value → Shared → Prop} {s : Shared}
theorem zip_hint {r : Addr} (hT : s.TypeIs (.ref r) "zip") {Q : Bool → Shared → Prop} (h : Q true s) : wpAny (model prog w) A (Builtin.List.listLengthHint (.ref r)) Q E s := by
  unfold Builtin.List.listLengthHint
  refine wpAny_bind (wpAny_specialOf hT zip_no_len ?_)
  simp only [Option.isSome_none, Bool.false_eq_true, if_false]
  refine wpAny_bind (wpAny_specialOf hT zip_no_hint ?_)
  exact wpAny_pure h
theorem zo_next {z TI TO T i1 i2 l1 l2 : Addr} {f : Bool} {k1 k2 : Nat} {xs ys : Array Value} {oT : Obj} {Q : Option Value → Shared → Prop} (hh : A.handled = none) (D : ZipApart z TI TO i1 i2 l1 l2)
    (hz : ZipO s.heap z TI TO T f) (hT : s.heap.get? T = some oT) (hTI : IsPair s.heap TI (.ref i1) (.ref i2))
    (h1 : s.heap.IsListIter i1 l1 k1) (h2 : s.heap.IsListIter i2 l2 k2) (hl1 : s.heap.IsList l1 xs) (hl2 : s.heap.IsList l2 ys) (hend : xs[k1]? = none ∨ ys[k2]? = none)
    (hQ : ∀ h', (∀ c o, c ≠ z → c ≠ i1 → c ≠ i2 → s.heap.get? c = some o → h'.get? c = some o) → Q none { s with heap := h' }) : wpAny (model prog w) A (pyNext (.ref z)) Q E s := by
  have hty : s.TypeIs (.ref z) "zip" := ⟨_, hz, rfl⟩
  unfold pyNext
  refine wpAny_bind (wpAny_attempt (wpAny_callSpecial?_slot (name := Str.ofString "__next__") hty F.slot_zip_next
    (wpAny_call_entry F.slot_zip_next hty F.entry_zip_next (zo_end hh D hz hT hTI h1 h2 hl1 hl2 hend fun h' e hk he => ?_) (F.args_zip_next_1 _))))
  obtain ⟨o, ho, hc⟩ := he
  refine wpAny_bind (wpAny_isInstance (T := "StopIteration") (b := true) ⟨o, ho, hc⟩ isSubtype_stop ?_)
  exact wpAny_pure (hQ _ hk)
/-- the zip's parts, and the list that is being made, apart -/
structure ZS (S z TI TO i1 i2 l1 l2 : Addr) : Prop where
  D : ZipApart z TI TO i1 i2 l1 l2
  z : S ≠ z
  TI : S ≠ TI
  TO : S ≠ TO
  i1 : S ≠ i1
  i2 : S ≠ i2
  l1 : S ≠ l1
  l2 : S ≠ l2
theorem zl1_loop {S z TI TO i1 i2 l1 l2 : Addr} {x y a b : Value} {c : Nat} {res : Value} {R : Result → Shared → Prop} (hh : A.handled = none) (Z : ZS S z TI TO i1 i2 l1 l2)
    (hz : IsZip s.heap z TI TO .none) (hTI : IsPair s.heap TI (.ref i1) (.ref i2)) (hTO : IsPair s.heap TO a b) (h1 : s.heap.IsListIter i1 l1 0) (h2 : s.heap.IsListIter i2 l2 0) (hl1 : s.heap.IsList l1 #[x]) (hl2 : s.heap.IsList l2 #[y])
    (hS : s.heap.get? S = some { cls := .type "list", dict := none, data := .seq #[] c, slots := #[] })
    (hR : ∀ h' c', (∀ b o, b ≠ S → b ≠ z → b ≠ TO → b ≠ i1 → b ≠ i2 → s.heap.get? b = some o → h'.get? b = some o) → h'.get? S = some { cls := .type "list", dict := none, data := .seq #[.ref s.heap.objs.size] c', slots := #[] } →
      IsPair h' s.heap.objs.size x y → R (.ok (.ret res)) { s with heap := h' }) :
    codeAny (model prog w) A (.builtin "list.extend.loop" ⟨[.ref S, .ref z, res], []⟩) R s := by
  have D := Z.D
  have hSl : S < s.heap.objs.size := Heap.lt_size hS
  have hzl : z < s.heap.objs.size := Heap.lt_size hz
  refine codeAny_builtin PySem.F.entry_extend_loop ?_
  rw [Around.under_plainId PySem.F.plain_extend_loop _]
  show wpAny _ A.in1 (pyNext (.ref z) >>= _) _ _ _
  refine wpAny_bind (wpAny_pyNext_zip_item (A := A.in1) D hz hTI hTO h1 h2 hl1 hl2 (k1 := 0) (k2 := 0) (x := x) (y := y) rfl rfl fun h' a1 a2 a3 a4 a5 a6 hk => ?_)
  have hS' := hk S _ Z.z Z.TO Z.i1 Z.i2 hS
  show wpAny _ A.in1 (updateSeq S (·.push (Value.ref s.heap.objs.size)) >>= _) _ _ _
  refine wpAny_bind (wpAny_updateSeq hS' rfl ?_ (by show (0 : Nat) ≤ sizeLine; decide) (by show (1 : Nat) ≤ sizeLine + 1; decide))
  have up : ∀ b o, b ≠ S → h'.get? b = some o → (h'.update S (Obj.mapSeq (·.push (Value.ref s.heap.objs.size)))).get? b = some o := fun b o hb e => (Heap.get?_update_other _ _ (Ne.symm hb)).trans e
  have hS2 := Heap.get?_update_self (Obj.mapSeq (·.push (Value.ref s.heap.objs.size))) hS' rfl
  generalize h'.update S (Obj.mapSeq (·.push (Value.ref s.heap.objs.size))) = h2' at up hS2 ⊢
  have z2 : ZipO h2' z TI TO s.heap.objs.size false := up _ _ Z.z.symm a1
  have T2 : IsPair h2' s.heap.objs.size x y := up _ _ (Nat.ne_of_gt hSl) a5
  have k2 : ∀ b o, b ≠ S → b ≠ z → b ≠ TO → b ≠ i1 → b ≠ i2 → s.heap.get? b = some o → h2'.get? b = some o := fun b o b0 b1 b2 b3 b4 e => up b o b0 (hk b o b1 b2 b3 b4 e)
  refine wpAny_pure ⟨plainId_quiet PySem.F.plain_extend_loop _, ?_⟩
  refine codeAny_builtin PySem.F.entry_extend_loop ?_
  rw [Around.under_plainId PySem.F.plain_extend_loop _]
  show wpAny _ A.in1 (pyNext (.ref z) >>= _) _ _ _
  have i1l : i1 < s.heap.objs.size := by obtain ⟨_, e, _⟩ := h1; exact Heap.lt_size e
  have i2l : i2 < s.heap.objs.size := by obtain ⟨_, e, _⟩ := h2; exact Heap.lt_size e
  refine wpAny_bind (zo_next (A := A.in1) (s := { s with heap := h2' }) (k1 := 1) (k2 := 1) (xs := #[x]) (ys := #[y]) hh D z2 T2 (k2 _ _ Z.TI.symm D.TIz D.TITO D.TIi1 D.TIi2 hTI) (a3.at fun o e => up _ o Z.i1.symm e) (a4.at fun o e => up _ o Z.i2.symm e)
    (hl1.at fun o e => k2 _ o Z.l1.symm D.l1z D.l1TO D.l1i1 D.l1i2 e) (hl2.at fun o e => k2 _ o Z.l2.symm D.l2z D.l2TO D.l2i1 D.l2i2 e) (.inl rfl) fun h3 k3 => ?_)
  refine wpAny_pure (hR h3 _ (fun b o b0 b1 b2 b3 b4 e => k3 b o b1 b3 b4 (k2 b o b0 b1 b2 b3 b4 e)) (k3 _ _ Z.z Z.i1 Z.i2 hS2) ?_)
  exact k3 _ _ (Nat.ne_of_gt hzl) (Nat.ne_of_gt i1l) (Nat.ne_of_gt i2l) T2
end
end Tr
/- Tr44 -/
/-! Tr, part 44: list(zip([x], [y])), the call. -/
namespace Tr
open PySem PySem.Spec PyProof.Rows L2
section
variable {prog : Program} {w : World} {A : Around} {E : Value → Shared → Prop} {s : Shared}
structure ZF (h : Heap) (z TI TO i1 i2 l1 l2 : Addr) (x y : Value) : Prop where
  zip : IsZip h z TI TO .none
  pi : IsPair h TI (.ref i1) (.ref i2)
  po : ∃ a b, IsPair h TO a b
  n1 : h.IsListIter i1 l1 0
  n2 : h.IsListIter i2 l2 0
  s1 : h.IsList l1 #[x]
  s2 : h.IsList l2 #[y]
theorem ZF.off {h h' : Heap} {S z TI TO i1 i2 l1 l2 : Addr} {x y : Value} (F : ZF h z TI TO i1 i2 l1 l2 x y) (Z : ZS S z TI TO i1 i2 l1 l2) (k : ∀ b o, b ≠ S → h.get? b = some o → h'.get? b = some o) : ZF h' z TI TO i1 i2 l1 l2 x y := by
  obtain ⟨a, b, hp⟩ := F.po
  exact ⟨k _ _ Z.z.symm F.zip, k _ _ Z.TI.symm F.pi, ⟨a, b, k _ _ Z.TO.symm hp⟩, F.n1.at fun o e => k _ o Z.i1.symm e, F.n2.at fun o e => k _ o Z.i2.symm e, F.s1.at fun o e => k _ o Z.l1.symm e, F.s2.at fun o e => k _ o Z.l2.symm e⟩
/-- what list(..) leaves: the list S of one tuple T -/
def ZEnd (h h' : Heap) (S z TO i1 i2 : Addr) (x y : Value) : Prop := ∃ T c', h.objs.size ≤ T ∧ (∀ b o, b ≠ S → b ≠ z → b ≠ TO → b ≠ i1 → b ≠ i2 → h.get? b = some o → h'.get? b = some o) ∧
  h'.get? S = some { cls := .type "list", dict := none, data := .seq #[.ref T] c', slots := #[] } ∧ IsPair h' T x y
theorem zl1_extend {S z TI TO i1 i2 l1 l2 : Addr} {x y : Value} {c : Nat} {res : Value} {R : Result → Shared → Prop} (hh : A.handled = none) (Z : ZS S z TI TO i1 i2 l1 l2) (F : ZF s.heap z TI TO i1 i2 l1 l2 x y)
    (hS : s.heap.get? S = some { cls := .type "list", dict := none, data := .seq #[] c, slots := #[] }) (hR : ∀ h', ZEnd s.heap h' S z TO i1 i2 x y → R (.ok (.ret res)) { s with heap := h' }) :
    wpAny (model prog w) A.in1 (Builtin.List.listExtendWith (.ref S) (.ref z) res)
      (fun fin s' => match fin with | .done f => R (.ok f) s' | .again c' => c'.quiet = true ∧ codeAny (model prog w) A c' R s') (fun e s' => R (.error e) s') s := by
  have key : ∀ (h : Heap) (c₁ : Nat), h.objs.size = s.heap.objs.size → (∀ b o, b ≠ S → s.heap.get? b = some o → h.get? b = some o) → h.get? S = some { cls := .type "list", dict := none, data := .seq #[] c₁, slots := #[] } →
      codeAny (model prog w) A (.builtin "list.extend.loop" ⟨[.ref S, .ref z, res], []⟩) R { s with heap := h } := by
    intro h c₁ hz hk hS₁
    have F1 := F.off Z hk
    obtain ⟨a, b, hp⟩ := F1.po
    refine zl1_loop (s := { s with heap := h }) hh Z F1.zip F1.pi hp F1.n1 F1.n2 F1.s1 F1.s2 hS₁ fun h' c' k hS' hT => hR h' ⟨h.objs.size, c', Nat.le_of_eq hz.symm, fun b o b0 b1 b2 b3 b4 e => k b o b0 b1 b2 b3 b4 (hk b o b0 e), hS', hT⟩
  have hty : s.TypeIs (.ref z) "zip" := ⟨_, F.zip, rfl⟩
  unfold Builtin.List.listExtendWith
  refine wpAny_bind (wpAny_typeOf (T := "zip") hty ?_)
  have h1 : Builtin.List.listSameRef (.ref S) (.ref z) = false := by simp [Builtin.List.listSameRef, Z.z]
  have h2 : (Value.type "zip" == Value.type "list") = false := by decide
  have h3 : (Value.type "zip" == Value.type "tuple") = false := by decide
  simp only [h1, h2, h3, Bool.or_false, Bool.false_eq_true, if_false]
  refine wpAny_bind (wpAny_pyIter_zip F.zip ?_)
  refine wpAny_bind (wpAny_holding (zip_hint hty ?_))
  refine wpAny_ite_split (fun _ => ?_) (fun _ => wpAny_pure ⟨plainId_quiet PySem.F.plain_extend_loop _, key s.heap c rfl (fun b o _ e => e) hS⟩)
  refine wpAny_bind (wpAny_rule ?_)
  refine wpAny_bind ?_
  show wpAny _ _ (updateSeq S (·.push .none) >>= fun _ => updateSeq S (·.pop)) _ _ _
  refine wpAny_bind (wpAny_updateSeq hS rfl ?_ (by show (0 : Nat) ≤ sizeLine; decide) (by show (1 : Nat) ≤ sizeLine + 1; decide))
  have hS₂ := Heap.get?_update_self (Obj.mapSeq (·.push Value.none)) hS rfl
  refine wpAny_updateSeq hS₂ rfl ?_ (by show (1 : Nat) ≤ sizeLine; decide) (by show (0 : Nat) ≤ sizeLine + 1; decide)
  have hS₃ := Heap.get?_update_self (Obj.mapSeq (·.pop)) hS₂ rfl
  refine wpAny_pure ⟨plainId_quiet PySem.F.plain_extend_loop _, key _ _ (by rw [Heap.size_update, Heap.size_update]) (fun b o hb e => ?_) hS₃⟩
  exact (Heap.get?_update_other _ _ (Ne.symm hb)).trans ((Heap.get?_update_other _ _ (Ne.symm hb)).trans e)
theorem zl1_init {S z TI TO i1 i2 l1 l2 : Addr} {x y : Value} {R : Result → Shared → Prop} (hh : A.handled = none) (Z : ZS S z TI TO i1 i2 l1 l2) (F : ZF s.heap z TI TO i1 i2 l1 l2 x y)
    (hS : s.heap.get? S = some { cls := .type "list", data := .seq #[] }) (hR : ∀ h', ZEnd s.heap h' S z TO i1 i2 x y → R (.ok (.ret .none)) { s with heap := h' }) :
    wpAny (model prog w) A.in1 (Builtin.«list.__init__» ⟨[.ref S, .ref z], []⟩)
      (fun fin s' => match fin with | .done f => R (.ok f) s' | .again c' => c'.quiet = true ∧ codeAny (model prog w) A c' R s') (fun e s' => R (.error e) s') s := by
  show wpAny _ _ (do let old ← Builtin.List.listItems (.ref S); Builtin.List.listUpdate (.ref S) (fun _ => #[]); letGo old.toList.reverse; Builtin.List.listExtendWith (.ref S) (.ref z) .none) _ _ s
  refine wpAny_bind ?_
  unfold Builtin.List.listItems
  refine wpAny_bind (wpAny_seqItems hS rfl (wpAny_pure ?_))
  show wpAny _ _ (updateSeq S (fun _ => #[]) >>= fun _ => letGo (#[] : Array Value).toList.reverse >>= fun _ => Builtin.List.listExtendWith (.ref S) (.ref z) .none) _ _ s
  refine wpAny_bind (wpAny_updateSeq hS rfl ?_)
  have hS₂ := Heap.get?_update_self (Obj.mapSeq (fun _ => (#[] : Array Value))) hS rfl
  have oth : ∀ b o, b ≠ S → s.heap.get? b = some o → (s.heap.update S (Obj.mapSeq (fun _ => (#[] : Array Value)))).get? b = some o :=
    fun b o hb e => (Heap.get?_update_other _ _ (Ne.symm hb)).trans e
  have hsz : (s.heap.update S (Obj.mapSeq (fun _ => (#[] : Array Value)))).objs.size = s.heap.objs.size := Heap.size_update ..
  generalize s.heap.update S (Obj.mapSeq (fun _ => (#[] : Array Value))) = h2 at hS₂ oth hsz ⊢
  refine wpAny_bind (wpAny_letGo ?_)
  refine zl1_extend (s := { s with heap := h2 }) hh Z (F.off Z oth) hS₂ fun h' e => hR h' ?_
  obtain ⟨T, c', e1, e2, e3, e4⟩ := e
  exact ⟨T, c', by show s.heap.objs.size ≤ T; rw [← hsz]; exact e1, fun b o b0 b1 b2 b3 b4 e => e2 b o b0 b1 b2 b3 b4 (oth b o b0 e), e3, e4⟩
theorem zl1_call {z TI TO i1 i2 l1 l2 : Addr} {x y : Value} {Q : Value → Shared → Prop} (hh : A.handled = none) (D : ZipApart z TI TO i1 i2 l1 l2) (F : ZF s.heap z TI TO i1 i2 l1 l2 x y)
    (hQ : ∀ h' T c', s.heap.objs.size < T → (∀ b o, b ≠ z → b ≠ TO → b ≠ i1 → b ≠ i2 → s.heap.get? b = some o → h'.get? b = some o) →
      h'.get? s.heap.objs.size = some { cls := .type "list", dict := none, data := .seq #[.ref T] c', slots := #[] } → IsPair h' T x y → Q (.ref s.heap.objs.size) { s with heap := h' }) :
    wpAny (model prog w) A (call (.type "list") [.ref z]) Q E s := by
  refine callType_codes (Q₁ := fun obj s₁ => obj = .ref s.heap.objs.size ∧ s₁ = { s with heap := s.heap.push { cls := .type "list", data := .seq #[] } }) PySem.F.called_list (PySem.F.typeCall_list_1 _) PySem.F.entry_list_init
    (code_list_new _ ⟨rfl, rfl⟩) fun obj s₁ h₁ => ?_
  obtain ⟨rfl, rfl⟩ := h₁
  have hS : (s.heap.push { cls := .type "list", data := .seq #[] }).get? s.heap.objs.size = some { cls := .type "list", data := .seq #[] } := Heap.get?_push_size _ rfl
  obtain ⟨a, b, hp⟩ := F.po
  have Z : ZS s.heap.objs.size z TI TO i1 i2 l1 l2 := by
    refine ⟨D, Nat.ne_of_gt (Heap.lt_size F.zip), Nat.ne_of_gt (Heap.lt_size F.pi), Nat.ne_of_gt (Heap.lt_size hp), ?_, ?_, ?_, ?_⟩
    · obtain ⟨_, e, _⟩ := F.n1; exact Nat.ne_of_gt (Heap.lt_size e)
    · obtain ⟨_, e, _⟩ := F.n2; exact Nat.ne_of_gt (Heap.lt_size e)
    · obtain ⟨_, e, _⟩ := F.s1; exact Nat.ne_of_gt (Heap.lt_size e)
    · obtain ⟨_, e, _⟩ := F.s2; exact Nat.ne_of_gt (Heap.lt_size e)
  have F1 : ZF (s.heap.push { cls := .type "list", data := .seq #[] }) z TI TO i1 i2 l1 l2 x y := F.off Z fun b o _ e => Heap.get?_push_of_some _ e
  refine ⟨⟨_, hS, rfl⟩, PySem.F.args_list_init_2 _ _, zl1_init (A := A.in1) (s := { s with heap := s.heap.push { cls := .type "list", data := .seq #[] } }) hh Z F1 hS fun h' e => ?_⟩
  obtain ⟨T, c', e1, e2, e3, e4⟩ := e
  refine ⟨rfl, hQ h' T c' ?_ (fun b o b1 b2 b3 b4 e => e2 b o (Nat.ne_of_lt (Heap.lt_size e)) b1 b2 b3 b4 (Heap.get?_push_of_some _ e)) e3 e4⟩
  have : (s.heap.push { cls := .type "list", data := .seq #[] }).objs.size = s.heap.objs.size + 1 := Heap.size_push ..
  have e1' : (s.heap.push { cls := .type "list", data := .seq #[] }).objs.size ≤ T := e1
  omega
end
end Tr
/- Tr45 -/
/-! Tr, part 45: list(zip(a, b)), lists of one item: the rule. -/
namespace Tr
open PySem L2
/-- list(zip(a, b)), lists of one item -/
def tZip1 (K : PySem.W.Frag) (t : TA) : TE := fun σ H Q => t σ H fun vs H1 => ∃ a b x y, vs = [.ref a, .ref b] ∧ SqL K H1 a [x] ∧ SqL K H1 b [y] ∧
  ∀ p T, H1 p = none → H1 T = none → T ≠ p → Q (.ref p) (upd (upd H1 T (.tup [x, y])) p (.lst [.ref T]))
section
variable {X : Cx} {e e2 : Expr} {ta : TA} {p p2 pos pos2 : Pos}
theorem two_laid {pins : List (Addr × Obj)} {σ : L2.St} {H : Hp} {s : Shared} {h' : Heap} {T S : Addr} {x y : V} {u v : Value} {c : Nat} (I : Inv X pins σ H s) (hk : ∀ b o, s.heap.get? b = some o → h'.get? b = some o) (hT : s.heap.objs.size ≤ T) (hS : s.heap.objs.size ≤ S) (ne : T ≠ S)
    (rx : RelV x u) (ry : RelV y v) (gT : PySem.IsPair h' T u v) (gS : h'.get? S = some { cls := .type "list", dict := none, data := .seq #[.ref T] c, slots := #[] }) : Inv X pins σ (upd (upd H T (.tup [x, y])) S (.lst [.ref T])) { s with heap := h' } := by
  have nT : H T = none := I.hok.fresh hT
  have nS : H S = none := I.hok.fresh hS
  have off : ∀ b, b ≠ T → b ≠ S → upd (upd H T (.tup [x, y])) S (.lst [.ref T]) b = H b := fun b h1 h2 => by rw [upd_ne h2, upd_ne h1]
  have kp : ∀ b q, H b = some q → upd (upd H T (.tup [x, y])) S (.lst [.ref T]) b = some q := fun b q z => by
    rw [off b (fun k => by rw [k, nT] at z; cases z) fun k => by rw [k, nS] at z; cases z]
    exact z
  have low : ∀ b o, s.heap.get? b = some o → b ≠ T ∧ b ≠ S := fun b o q => ⟨fun k => by subst k; exact absurd (Heap.lt_size q) (Nat.not_lt.mpr hT), fun k => by subst k; exact absurd (Heap.lt_size q) (Nat.not_lt.mpr hS)⟩
  refine I.call' (ch := []) (s' := { s with heap := h' }) rfl ⟨fun b o q _ _ _ => hk b o q, fun b o q _ _ _ => ⟨o.slots, hk b o q⟩, fun b o q n _ => ?_, fun b o q _ => ⟨o, hk b o q⟩, fun b xs q => kp b _ q, fun b o u q => kp b _ q, fun b ps q => ⟨#[], by rw [kp b _ q]; simp⟩⟩ (fun b q hq => ?_) I.bare fun b z => by simp at z
  · obtain ⟨z1, z2⟩ := low b o q
    rw [off b z1 z2]
    exact n
  · by_cases h2 : b = S
    · subst h2
      rw [upd_same] at hq
      cases hq
      exact ⟨by show 1 ≤ sizeLine; decide, [.ref T], c, .cons rfl .nil, gS⟩
    · by_cases h1 : b = T
      · subst h1
        rw [upd_ne h2, upd_same] at hq
        cases hq
        exact ⟨by show 2 ≤ sizeLine; decide, [u, v], .cons rx (.cons ry .nil), ⟨_, gT, rfl, _, rfl⟩⟩
      · rw [off b h1 h2] at hq
        exact (I.hok b q hq).stay (fun d v _ y => hk d v y) (fun d y => kp d _ y) fun d xs y => kp d _ y
theorem pe_listZip1 (hc : X.calm = true) (hg : Gl X "list") (hm : X.mg "list" = none) (hg2 : Gl X "zip") (hm2 : X.mg "zip" = none) (ha : PA X [e, e2] ta)
    (hs : starEach [e, e2] X.env = (false, eval e X.env) :: starEach [e2] X.env := by rfl) (hpl : (backTo pos2 (starEach [e2] X.env)).any (·.1) = false := by rfl)
    (hs2 : starEach [.Call (.Name "zip" p2) [e, e2] [] pos2] X.env = (false, eval (.Call (.Name "zip" p2) [e, e2] [] pos2) X.env) :: starEach [] X.env := by rfl) :
    PE X (.Call (.Name "list" p) [.Call (.Name "zip" p2) [e, e2] [] pos2] [] pos) (tZip1 X.K ta) := by
  refine ⟨fun pins s σ H Q I h => ?_⟩
  refine PyProof.Rows.Call_ (ld_blt I hg hm (show bootBuiltins "list" = some (.type "list") by decide +kernel) (PyProof.Rows.callWith_type1 ?_ hs2 rfl))
  rw [hs2]
  show wpAny _ _ (spliced ((false, eval (.Call (.Name "zip" p2) [e, e2] [] pos2) X.env) :: backTo pos (starEach [] X.env))) _ _ s
  refine Calls.spliced_cons ?_
  refine PyProof.Rows.Call_ (ld_blt I hg2 hm2 PyProof.Rows.boot_zip (PyProof.Rows.callWith_type1 (thn (ha.run pos2 pins s σ H _ I h) fun us s1 ⟨vs, H1, I1, r1, q1⟩ => ?_) hs hpl))
  obtain ⟨a, b, x, y, ex, hqx, hqy, q⟩ := q1
  subst ex
  cases r1 with
  | cons r rr =>
    cases rr with
    | cons r' rr =>
      cases rr
      cases r
      cases r'
      obtain ⟨its, rv, p1, _⟩ := I1.list hqx
      obtain ⟨its2, rv2, p2, _⟩ := I1.list hqy
      obtain ⟨u, rfl, rx⟩ : ∃ u, its = [u] ∧ RelV x u := by
        cases rv with
        | cons r t => cases t; exact ⟨_, rfl, r⟩
      obtain ⟨v, rfl, ry⟩ : ∃ u, its2 = [u] ∧ RelV y u := by
        cases rv2 with
        | cons r t => cases t; exact ⟨_, rfl, r⟩
      have la : a < s1.heap.objs.size := p1.lt
      have lb : b < s1.heap.objs.size := p2.lt
      refine call_zip_2 p1.isList p2.isList fun h' hz hTI hTO h1 h2 hsz hk => ?_
      refine Calls.spliced_nil ?_
      have D := PySem.W.ktu_apart s1.heap.objs.size a b la lb
      refine zl1_call (s := { s1 with heap := h' }) (x := u) (y := v) (I1.ok.hd hc) D ⟨hz, hTI, ⟨_, _, hTO⟩, h1, h2, p1.isList.at fun o e => hk _ o e, p2.isList.at fun o e => hk _ o e⟩ fun h2 T c' hT k2 gS gT => ?_
      have hT : h'.objs.size < T := hT
      have kk : ∀ b o, s1.heap.get? b = some o → h2.get? b = some o := fun b o e => by
        have l := Heap.lt_size e
        have up : ∀ n, b ≠ s1.heap.objs.size + n := fun n => Nat.ne_of_lt (Nat.lt_of_lt_of_le l (Nat.le_add_right _ _))
        exact k2 b o (up 4) (up 3) (up 0) (up 1) (hk b o e)
      have I2 := two_laid (S := h'.objs.size) (T := T) I1 kk (by omega) (by omega) (Nat.ne_of_gt hT) rx ry gT gS
      exact ⟨.ref h'.objs.size, _, I2, rfl, q _ _ (I1.hok.fresh (by omega)) (I1.hok.fresh (by omega)) (Nat.ne_of_gt hT)⟩
end
/-- list(zip(a, b)) of two lists of one item -/
def itZip1 : List D → Option (List D)
  | [.lst [x], .lst [y]] => some [.tup [x, y]]
  | _ => none
section
variable {X : Cx} {W : Wd} {E : XK} {e e2 : Expr} {ml : LM} {p p2 pos pos2 : Pos}
theorem sn_listZip (hc : X.calm = true) (hg : Gl X "list") (hm : X.mg "list" = none) (hg2 : Gl X "zip") (hm2 : X.mg "zip" = none) (hl : SA X W E [e, e2] ml)
    (hs : starEach [e, e2] X.env = (false, eval e X.env) :: starEach [e2] X.env := by rfl) (hpl : (backTo pos2 (starEach [e2] X.env)).any (·.1) = false := by rfl)
    (hs2 : starEach [.Call (.Name "zip" p2) [e, e2] [] pos2] X.env = (false, eval (.Call (.Name "zip" p2) [e, e2] [] pos2) X.env) :: starEach [] X.env := by rfl) :
    SN X W E (.Call (.Name "list" p) [.Call (.Name "zip" p2) [e, e2] [] pos2] [] pos) (lIt itZip1 ml) := by
  obtain ⟨t, pp, k⟩ := hl
  refine ⟨_, pe_listZip1 hc hg hm hg2 hm2 pp hs hpl hs2, fun Φ H F ρ σ Q I h => ?_⟩
  refine k _ _ _ _ _ _ I ?_
  unfold lIt at h
  cases em : ml ρ with
  | exc c d ρ1 => rw [em] at h; exact h
  | bad => rw [em] at h; exact h
  | ok xs ρ1 =>
    rw [em] at h
    intro vs H1 F1 I1 x1 r1
    have h : PostN W Φ E σ (own Φ.O F) H Q (optR (itZip1 xs) ρ1) := h
    unfold itZip1 at h
    split at h
    · rename_i x y
      obtain ⟨v, u, rfl, h1, h2⟩ := relDs2_inv r1
      obtain ⟨a, ws, rfl, _, ha, rs⟩ := relD_lst_inv h1
      obtain ⟨b, zs, rfl, _, hb, rs2⟩ := relD_lst_inv h2
      obtain ⟨v, rfl, rv⟩ := relDs1_inv rs
      obtain ⟨u, rfl, ru⟩ := relDs1_inv rs2
      refine ⟨a, b, v, u, rfl, .inl ha, .inl hb, fun q T hq hT ne => ?_⟩
      obtain ⟨I2, x2⟩ := I1.same (same_new (o := .tup [v, u]) hT)
      have hq' : upd H1 T (.tup [v, u]) q = none := by rw [upd_ne ne.symm]; exact hq
      exact h _ _ F1 q I2 (x1.trans x2) (relDs_one (relD_new_tup I1.tk hT (relDs_two rv ru))) hq'
    · exact h.elim
end
end Tr
/- Tr46 -/
/-! Tr, part 46: sets of tuples of keys: what the machine asks of such a tuple. -/
namespace Tr
open PySem PySem.Spec PyProof.Rows L2
abbrev hashT (P : Program) (w : World) (k : List Key) : Int := tupleKeyHash (mixKind P w) k
abbrev TupAt (P : Program) (w : World) (h : Heap) (k : List Key) (a : Addr) : Prop := IsTupleKey (mixKind P w) h k a
section
variable {P : Program} {w : World} {A : Around} {E : Value → Shared → Prop} {s : Shared}
/-- an int or a text -/
def Atom (v : Value) : Prop := (∃ i t, v = Value.int i t) ∨ ∃ x t, v = Value.str x t
theorem atoms {k : List Key} {vs : List Value} (h : ItemsAre (mixKind P w) k vs) : ∀ v ∈ vs, Atom v := by
  induction h with
  | nil => exact fun v hv => nomatch hv
  | @cons k0 u ks us h1 _ ih =>
    intro v hv
    rcases List.mem_cons.mp hv with e | hv
    · subst e
      have h1 : keyIs k0 v = true := h1
      cases k0 with
      | inl i => cases v with
        | int j t => exact .inl ⟨_, _, rfl⟩
        | _ => cases h1
      | inr x => cases v with
        | str y t => exact .inr ⟨_, _, rfl⟩
        | _ => cases h1
    · exact ih v hv
theorem atom_cls {v : Value} (h : Atom v) (n : Nat) : ofAClassStatement n v = pure false := by
  rcases h with ⟨i, t, rfl⟩ | ⟨x, t, rfl⟩ <;> cases n <;> rfl
theorem atom_hash {v : Value} (h : Atom v) (n : Nat) : ∃ b, hashByValue n v = pure b := by
  rcases h with ⟨i, t, rfl⟩ | ⟨x, t, rfl⟩ <;> cases n <;> exact ⟨_, rfl⟩
theorem tup_cls {k : List Key} {b : Addr} {Q : Bool → Shared → Prop} (hk : TupAt P w s.heap k b) (h : Q false s) : wpAny (model P w) A (ofAClassStatement 8 (.ref b)) Q E s := by
  have ty := hk.typeIs
  obtain ⟨o, its, n, ho, _, hd, hi⟩ := hk
  have at_ := atoms hi
  unfold ofAClassStatement
  refine wpAny_bind (wpAny_typeOf ty ?_)
  dsimp only
  simp only [show (("tuple" : String) == "tuple") = true by decide, if_true, Bool.not_true, Bool.false_eq_true, if_false]
  refine wpAny_bind ?_
  refine wpAny_pure ?_
  simp only [Bool.not_true, Bool.false_eq_true, if_false]
  refine wpAny_bind (wpAny_seqItems ho hd ?_)
  refine wpAny_bind ?_
  show wpAny _ _ (forIn its _ _) _ _ s
  rw [← Array.forIn_toList]
  refine wpAny_forIn_list _ (fun rest r s' => r.1 = none ∧ s' = s ∧ ∀ v ∈ rest, Atom v) _ ?_ ?_ _ _ ⟨rfl, rfl, at_⟩
  · rintro v rest r s' ⟨_, rfl, al⟩
    rw [atom_cls (al v List.mem_cons_self)]
    refine wpAny_bind (wpAny_pure ?_)
    simp only [Bool.false_eq_true, if_false]
    exact wpAny_pure ⟨rfl, rfl, fun u m => al u (List.mem_cons_of_mem _ m)⟩
  · rintro ⟨r1, r2⟩ s' ⟨e, rfl, _⟩
    cases e
    exact wpAny_pure h
theorem tup_hash {k : List Key} {b : Addr} {Q : Bool → Shared → Prop} (hk : TupAt P w s.heap k b) (h : ∀ c, Q c s) : wpAny (model P w) A (hashByValue 8 (.ref b)) Q E s := by
  have ty := hk.typeIs
  obtain ⟨o, its, n, ho, _, hd, hi⟩ := hk
  have at_ := atoms hi
  unfold hashByValue
  refine wpAny_bind (wpAny_specialOf ty F.slot_tuple_hash.lookup ?_)
  show wpAny _ _ (seqItems? (.ref b) >>= _) _ _ s
  refine wpAny_bind (wpAny_seqItems ho hd ?_)
  refine wpAny_bind ?_
  show wpAny _ _ (forIn its _ _) _ _ s
  rw [← Array.forIn_toList]
  refine wpAny_forIn_list _ (fun rest r s' => (r.1 = none ∨ ∃ c, r.1 = some c) ∧ s' = s ∧ ∀ v ∈ rest, Atom v) _ ?_ ?_ _ _ ⟨.inl rfl, rfl, at_⟩
  · rintro v rest r s' ⟨_, rfl, al⟩
    obtain ⟨c, e⟩ := atom_hash (al v List.mem_cons_self) 7
    rw [e]
    refine wpAny_bind (wpAny_pure ?_)
    cases c with
    | true =>
      simp only [Bool.not_true, Bool.false_eq_true, if_false]
      exact wpAny_pure ⟨.inl rfl, rfl, fun u m => al u (List.mem_cons_of_mem _ m)⟩
    | false =>
      simp only [Bool.not_false, if_true]
      exact wpAny_pure (wpAny_pure (h _))
  · rintro ⟨r1, r2⟩ s' ⟨e, rfl, _⟩
    rcases e with e | ⟨c, e⟩
    · cases e
      exact wpAny_pure (h _)
    · cases e
      exact wpAny_pure (h _)
/-- a search among such tuples shows nothing -/
theorem tup_seen {k : List Key} {b : Addr} {Q : Bool → Shared → Prop} (hk : TupAt P w s.heap k b) {ys : List Value} (hy : ∀ y ∈ ys, ∃ k' c, y = Value.ref c ∧ TupAt P w s.heap k' c) (h : Q false s) : wpAny (model P w) A (searchCouldBeSeen (.ref b) ys) Q E s := by
  unfold searchCouldBeSeen
  refine wpAny_bind ?_
  refine wpAny_forIn_list _ (fun rest r s' => r.1 = none ∧ s' = s ∧ ∀ y ∈ rest, ∃ k' c, y = Value.ref c ∧ TupAt P w s.heap k' c) _ ?_ ?_ _ _ ⟨rfl, rfl, hy⟩
  · rintro v rest r s' ⟨_, rfl, al⟩
    obtain ⟨k', c, rfl, hc⟩ := al v List.mem_cons_self
    have al' : ∀ y ∈ rest, ∃ k' c, y = Value.ref c ∧ TupAt P w s'.heap k' c := fun u m => al u (List.mem_cons_of_mem _ m)
    dsimp only
    by_cases hv : (b == c || (carriedByValue (.ref b) && carriedByValue (.ref c))) = true
    · refine wp_if_pos hv (wpAny_pure ⟨rfl, rfl, al'⟩)
    · refine wp_if_neg hv ?_
      refine wpAny_bind (wpAny_eqIsQuiet_tuple hk ?_)
      simp only [Bool.not_true, Bool.false_eq_true, if_false]
      refine wpAny_bind (wpAny_eqIsQuiet_tuple hc ?_)
      simp only [Bool.not_true, Bool.false_eq_true, if_false]
      refine wpAny_bind (tup_cls hk ?_)
      simp only [Bool.false_eq_true, if_false]
      refine wpAny_bind (tup_cls hc ?_)
      simp only [Bool.false_eq_true, if_false]
      exact wpAny_pure ⟨rfl, rfl, al'⟩
  · rintro ⟨r1, r2⟩ s' ⟨e, rfl, _⟩
    cases e
    exact wpAny_pure h
end
end Tr
/- Tr47 -/
/-! Tr, part 47: sets of tuples of keys, pairwise unlike: a search for a new one, and adding it. -/
namespace Tr
open PySem PySem.Spec PyProof.Rows L2
/-- the rows of a set with the keys L -/
abbrev rowsK (P : Program) (w : World) (L : List (Addr × List Key)) : List (Int × Value) := L.map fun p => (hashT P w p.2, Value.ref p.1)
abbrev hashK (P : Program) (w : World) (L : List (Addr × List Key)) : List Int := L.map fun p => hashT P w p.2
/-- at a stands a set of the tuples L -/
structure MS (P : Program) (w : World) (h : Heap) (a : Addr) (L : List (Addr × List Key)) (es : Array (Int × Value)) (ep : Nat) (t : SetTable) : Prop where
  obj : ∃ o, h.get? a = some o ∧ o.ExactSet ∧ o.data = .set es ep t
  row : es.toList = rowsK P w L
  tab : TabOk t (hashK P w L)
  key : ∀ p ∈ L, TupAt P w h p.2 p.1
  led : w.params.followText "set-order" = true ∨ t.led = true
  roo : L.length * 5 < t.mask * 3
  few : L.length < 64
section
variable {P : Program} {w : World} {A : Around} {E : Value → Shared → Prop} {s : Shared} {a : Addr} {L : List (Addr × List Key)} {es : Array (Int × Value)} {ep : Nat} {t : SetTable}
theorem MS.size (R : MS P w s.heap a L es ep t) : es.size = L.length := by
  have e := congrArg List.length R.row
  rwa [Array.length_toList, List.length_map] at e
theorem MS.fits (R : MS P w s.heap a L es ep t) : t.fits es.size = true := by
  have e1 := R.tab.sz
  rw [List.length_map] at e1
  have e2 := R.size
  have e3 := R.roo
  unfold SetTable.fits SetTable.fill
  rw [R.tab.dm, Bool.and_eq_true, beq_iff_eq, decide_eq_true_eq]
  refine ⟨by omega, ?_⟩
  show t.place.size + 0 ≤ t.mask
  omega
theorem MS.at_ (R : MS P w s.heap a L es ep t) {i : Nat} {p : Addr × List Key} (h : L[i]? = some p) : es[i]? = some (hashT P w p.2, Value.ref p.1) := by
  rw [← Array.getElem?_toList, R.row, List.getElem?_map, h]
  rfl
/-- the c-th place that a search looks at -/
abbrev prb (t : SetTable) (x : Int) (c : Nat) : SetTable.Probe := nth t.mask (runAt t.mask (SetTable.bits x % (t.mask + 1)) (SetTable.bits x)) c
theorem prb_dummy (m : Nat) : ∀ (n : Nat) (p : SetTable.Probe), p.dummy = none → (nth m p n).dummy = none
  | 0, _, h => h
  | n + 1, p, h => prb_dummy m n (adv m p) (by unfold adv; split <;> exact h)
theorem prb_add (t : SetTable) (x : Int) (c q : Nat) : nth t.mask (prb t x c) q = prb t x (c + q) := (nth_add t.mask c _ q).symm
/-- a search for a tuple that the set has not, from the c-th place on, ends at the first free place -/
theorem find_new (R : MS P w s.heap a L es ep t) {x : Addr} {k : List Key} (hx : TupAt P w s.heap k x) (hn : k ∉ L.map (·.2)) (hu : A.units < cLine) {K : Nat} (hf0 : K < 10 * SetTable.turns t.mask)
    (hK : way t.mask (hashT P w k) K ∉ t.place.toList) (hB : ∀ c, c < K → way t.mask (hashT P w k) c ∈ t.place.toList) {Q : SetFound → Shared → Prop} (hq : Q (.free (way t.mask (hashT P w k) K) false) s) :
    ∀ (f c : Nat) (st : Option SetTable.Probe), st.getD (t.probeStart (hashT P w k)) = prb t (hashT P w k) c → c ≤ K → K - c < f → wpAny (model P w) A (setSearchFrom a (.ref x) (hashT P w k) true f st) Q E s
  | 0, _, _, _, _, hf => absurd hf (Nat.not_lt_zero _)
  | f + 1, c, st, hst, hc, hf => by
    obtain ⟨o, ho, hex, hd⟩ := R.obj
    rw [setSearchFrom_succ]
    refine wpAny_bind (wpAny_setState_of ho hd R.fits ?_)
    dsimp only
    have odd : ¬ t.gaveWay = true := by unfold SetTable.gaveWay; rw [mask_odd R.tab.mok]; decide
    refine wp_if_neg odd ?_
    try refine wpAny_bind (wpAny_pure ?_)
    have e1 : ∀ q, (nth t.mask (prb t (hashT P w k) c) q).j = way t.mask (hashT P w k) (c + q) := fun q => congrArg SetTable.Probe.j (prb_add t (hashT P w k) c q)
    have spec := go_spec t R.tab.ris R.tab.dm (fun i => (es[i]?.map (·.1)).getD 0) (hashT P w k) (10 * SetTable.turns t.mask) (K - c) (prb t (hashT P w k) c) (prb_dummy _ c _ rfl) (by omega)
      (fun q hq => by rw [e1]; exact hB (c + q) (by omega)) (by rw [e1, show c + (K - c) = K by omega]; exact hK)
    rcases spec with ⟨q, i, hq1, hi, _, _, hpr⟩ | ⟨_, hpr⟩
    · have hpr' : t.probe (fun i => (es[i]?.map (·.1)).getD 0) (hashT P w k) (st.getD (t.probeStart (hashT P w k))) = some (.candidate (way t.mask (hashT P w k) (c + q)) i (prb t (hashT P w k) (c + (q + 1)))) := by
        rw [hst, ← e1, ← prb_add]
        exact hpr
      rw [hpr']
      dsimp only
      rw [e1] at hi
      have hil : i < L.length := by
        have l1 := (List.getElem?_eq_some_iff.mp hi).1
        have l2 := R.tab.sz
        rw [List.length_map] at l2
        rw [Array.length_toList] at l1
        omega
      obtain ⟨p, hp⟩ : ∃ p, L[i]? = some p := ⟨_, List.getElem?_eq_getElem hil⟩
      have hm : p ∈ L := List.mem_of_getElem? hp
      have ne : p.2 ≠ k := fun e => hn (by rw [← e]; exact List.mem_map.mpr ⟨p, hm, rfl⟩)
      have go : wpAny (model P w) A (searchRest a (.ref x) (hashT P w k) true f es t (way t.mask (hashT P w k) (c + q)) i (prb t (hashT P w k) (c + (q + 1)))) Q E s := by
        unfold searchRest
        rw [R.at_ hp]
        dsimp only
        refine wpAny_bind (wpAny_holding (wpAny_eqBool_tuple hu (R.key p hm) hx ?_))
        refine wpAny_bind (wpAny_setState_of ho hd R.fits ?_)
        dsimp only
        refine wp_if_neg (by simp [ne]) ?_
        try refine wpAny_bind (wpAny_pure ?_)
        rw [sameMem]
        dsimp only
        simp only [if_true, slot_live R.tab.ris hi, R.at_ hp]
        refine wpAny_bind (wpAny_isSame_ref_self (wpAny_bind (wpAny_pure ?_)))
        simp only [if_true]
        refine wp_if_neg (by simp [ne]) ?_
        exact find_new R hx hn hu hf0 hK hB hq f (c + (q + 1)) _ rfl (by omega) (by omega)
      by_cases hl : t.led = true
      · refine wp_if_neg (by simp [hl]) ?_
        try refine wpAny_bind (wpAny_pure ?_)
        exact go
      · refine wp_if_pos (by simp [hl]) ?_
        refine wpAny_bind (tup_seen hx (fun y hy => ?_) ?_)
        · obtain ⟨e, he, rfl⟩ := List.mem_map.mp hy
          have he2 : e ∈ es.toList := by
            have : e ∈ es ∧ e.1 = hashT P w k := by simpa using he
            simpa using this.1
          rw [R.row] at he2
          obtain ⟨p2, hp2, rfl⟩ := List.mem_map.mp he2
          exact ⟨p2.2, p2.1, rfl, R.key p2 hp2⟩
        · refine wp_if_neg (by decide) ?_
          try refine wpAny_bind (wpAny_pure ?_)
          exact go
    · have hpr' : t.probe (fun i => (es[i]?.map (·.1)).getD 0) (hashT P w k) (st.getD (t.probeStart (hashT P w k))) = some (.empty (way t.mask (hashT P w k) K) none) := by
        have e2 : way t.mask (hashT P w k) K = (nth t.mask (prb t (hashT P w k) c) (K - c)).j := by rw [e1, show c + (K - c) = K by omega]
        rw [hst, e2]
        exact hpr
      rw [hpr']
      dsimp only
      exact wpAny_pure hq
end
end Tr
/- Tr48 -/
/-! Tr, part 48: sets of tuples of keys: a new tuple added. -/
namespace Tr
open PySem PySem.Spec PyProof.Rows L2
theorem pick_range {α : Type} : ∀ L : List α, (List.range L.length).filterMap (fun i => L[i]?) = L
  | [] => rfl
  | x :: L => by
    rw [List.length_cons, List.range_succ_eq_map, List.filterMap_cons_some (b := x) (by rfl), List.filterMap_map]
    exact congrArg (x :: ·) (pick_range L)
theorem pick_perm {α : Type} {L : List α} {o : List Nat} (h : o.Perm (List.range L.length)) : (o.filterMap fun i => L[i]?).Perm L := by
  have := h.filterMap fun i => L[i]?
  rwa [pick_range] at this
theorem pick_map {α β : Type} (f : α → β) (L : List α) : ∀ o : List Nat, (o.filterMap fun i => (L.map f)[i]?) = (o.filterMap fun i => L[i]?).map f
  | [] => rfl
  | i :: o => by
    cases h : L[i]? with
    | none => rw [List.filterMap_cons_none (by rw [List.getElem?_map, h]; rfl), List.filterMap_cons_none h, pick_map f L o]
    | some x => rw [List.filterMap_cons_some (b := f x) (by rw [List.getElem?_map, h]; rfl), List.filterMap_cons_some h, pick_map f L o]; rfl
theorem pick_all {α : Type} (g : α → Int) (L : List α) : ∀ o : List Nat, (∀ i ∈ o, i < L.length) → ((o.filterMap fun i => L[i]?).map g) = o.map fun i => ((L.map g).toArray).getD i 0
  | [], _ => rfl
  | i :: o, h => by
    have hi := h i List.mem_cons_self
    have e : L[i]? = some L[i] := List.getElem?_eq_getElem hi
    rw [List.filterMap_cons_some e, List.map_cons, List.map_cons, pick_all g L o fun j m => h j (List.mem_cons_of_mem _ m)]
    congr 1
    simp [Array.getD_eq_getD_getElem?, e]
section
variable {P : Program} {w : World} {A : Around} {E : Value → Shared → Prop} {s : Shared} {a : Addr} {L : List (Addr × List Key)} {es : Array (Int × Value)} {ep : Nat} {t : SetTable}
theorem tupAt_off {h h' : Heap} {k : List Key} {b : Addr} {o : Obj} (hb : TupAt P w h k b) (ho : h.get? a = some o) (hd : o.data = .set es ep t) (hs : Heap.SameBut a h h') : TupAt P w h' k b := by
  obtain ⟨o', its, n, ho', hc, hd', hi⟩ := hb
  refine ⟨o', its, n, (hs.2 b fun e => ?_).trans ho', hc, hd', hi⟩
  subst e
  rw [ho] at ho'
  cases ho'
  rw [hd] at hd'
  cases hd'
/-- the table laid anew, larger -/
theorem relay_new {o : Obj} (ho : s.heap.get? a = some o) (hex : o.ExactSet) (hd : o.data = .set es ep t) (hrow : es.toList = rowsK P w L) (hsz : t.place.size = es.size) (hdm : t.dummies = #[]) (hfl : es.size ≤ t.mask)
    (hkey : ∀ p ∈ L, TupAt P w s.heap p.2 p.1) (ld : w.params.followText "set-order" = true ∨ t.led = true) (few : L.length < 64) {wanted M : Nat}
    (hw : SetTable.sizeAbove wanted - 1 = M) (hM : MaskOk M) (hw2 : SetTable.sizeAbove wanted ≤ 128) (hn : L.length * 5 < M * 3) {Q : Unit → Shared → Prop}
    (hQ : ∀ h' L' es' ep' t', Heap.SameBut a s.heap h' → MS P w h' a L' es' ep' t' → L'.Perm L → Q () { s with heap := h' }) : wpAny (model P w) A (setRelay a wanted) Q E s := by
  have hsl : es.size = L.length := by
    have e := congrArg List.length hrow
    rwa [Array.length_toList, List.length_map] at e
  have hfit : t.fits es.size = true := by
    unfold SetTable.fits SetTable.fill
    rw [hdm, Bool.and_eq_true, beq_iff_eq, decide_eq_true_eq]
    refine ⟨hsz, ?_⟩
    show t.place.size + 0 ≤ t.mask
    omega
  have ees : es = (rowsK P w L).toArray := by rw [← hrow, Array.toArray_toList]
  obtain ⟨t', order, e, hp, T, em, el, _, ed⟩ := relaid_ok t (hs := es.map (·.1)) (wanted := wanted) hw hM (by rw [Array.size_map, hsl]; omega)
  rw [Array.size_map, hsl] at hp
  obtain ⟨L2, hL2⟩ : ∃ L2, L2 = order.toList.filterMap fun i => L[i]? := ⟨_, rfl⟩
  have r1 : (order.filterMap (es[·]?)).toList = rowsK P w L2 := by
    rw [Array.toList_filterMap, ees]
    show (order.toList.filterMap fun i => (rowsK P w L).toArray[i]?) = _
    rw [hL2]
    refine Eq.trans ?_ (pick_map (fun p : Addr × List Key => (hashT P w p.2, Value.ref p.1)) L order.toList)
    congr 1
    funext i
    rw [List.getElem?_toArray]
  have r2 : L2.Perm L := by rw [hL2]; exact pick_perm hp
  have r3 : hashK P w L2 = order.toList.map fun i => (es.map (·.1)).getD i 0 := by
    rw [hL2]
    refine (pick_all (fun p : Addr × List Key => hashT P w p.2) L order.toList fun i m => List.mem_range.mp (hp.mem_iff.mp m)).trans ?_
    have : (es.map (·.1)) = (L.map fun p => hashT P w p.2).toArray := by
      rw [ees]
      simp [rowsK, List.map_map, Function.comp_def]
    rw [this]
  rw [← r3] at T
  have hs2 : (order.filterMap (es[·]?)).size = es.size := by
    have e := congrArg List.length r1
    rw [Array.length_toList, List.length_map, r2.length_eq] at e
    rw [e, hsl]
  rw [setRelay_eq]
  refine wpAny_bind (wpAny_setState_of ho hd hfit ?_)
  dsimp only
  refine wp_if_neg (by rw [sizeLine_eq]; omega) ?_
  try refine wpAny_bind (wpAny_pure ?_)
  rw [e]
  dsimp only
  refine wpAny_bind ?_
  refine wp_if_neg (by rw [hs2]; simp) ?_
  try refine wpAny_bind (wpAny_pure ?_)
  refine wpAny_pure ?_
  dsimp only
  refine wpAny_storeSet_of ho hd ?_ (by rw [hs2, hsl, sizeLine_eq]; omega)
  have sb : Heap.SameBut a s.heap (s.heap.update a (Obj.putSet (order.filterMap (es[·]?)) t')) := Heap.SameBut.update ..
  refine hQ _ L2 (order.filterMap (es[·]?)) (ep + 1) t' sb ⟨⟨_, store_at ho hd, ⟨hex.1, hex.2.1, hex.2.2⟩, rfl⟩, r1, T, fun p hm => tupAt_off (hkey p (r2.mem_iff.mp hm)) ho hd sb, by rw [el]; exact ld, ?_, by rw [r2.length_eq]; exact few⟩ r2
  rw [r2.length_eq, em]
  exact hn
end
end Tr
/- Tr49 -/
/-! Tr, part 49: sets of tuples of keys: a new tuple added (the whole step). -/
namespace Tr
open PySem PySem.Spec PyProof.Rows L2
theorem tab_plain {t : SetTable} {hs : List Int} (T : TabOk t hs) (b : Bool) : TabOk { t with plain := b } hs := ⟨T.ris, T.dm, T.sz, T.mok, T.bd, T.reach⟩
section
variable {P : Program} {w : World} {A : Around} {E : Value → Shared → Prop} {s : Shared} {a : Addr} {L : List (Addr × List Key)} {es : Array (Int × Value)} {ep : Nat} {t : SetTable}
theorem add_new (R : MS P w s.heap a L es ep t) {x : Addr} {k : List Key} (hx : TupAt P w s.heap k x) (hn : k ∉ L.map (·.2)) (hu : A.units < cLine) (hfew : L.length + 1 < 64) {Q : Bool → Shared → Prop}
    (hQ : ∀ b h' L' es' ep' t', Heap.SameBut a s.heap h' → MS P w h' a L' es' ep' t' → L'.Perm ((x, k) :: L) → Q b { s with heap := h' }) : wpAny (model P w) A (setAddHashed a (.ref x) (hashT P w k)) Q E s := by
  obtain ⟨o, ho, hex, hd⟩ := R.obj
  have hsl := R.size
  have hroo := R.roo
  obtain ⟨K, hK0, hK, hB⟩ := R.tab.first (by rw [List.length_map]; omega) (hashT P w k)
  unfold setAddHashed
  refine wpAny_holding ?_
  rw [show (100000 : Nat) = 99999 + 1 from rfl, setAddHashedIn_succ]
  refine wpAny_bind (wpAny_setState_of ho hd R.fits ?_)
  dsimp only
  refine wp_if_neg (by simp [byScan, Value.scannable]) ?_
  try refine wpAny_bind (wpAny_pure ?_)
  have hbig : K < 100000 := by
    have : 10 * SetTable.turns t.mask ≤ 1420 := by
      unfold SetTable.turns
      rcases R.tab.mok with e | e | e <;> omega
    omega
  refine wpAny_bind ?_
  unfold setSearch
  refine find_new R hx hn hu hK0 hK hB ?_ 100000 0 none rfl (Nat.zero_le _) (by omega)
  dsimp only
  refine wpAny_bind (wpAny_setState_of ho hd R.fits ?_)
  dsimp only
  obtain ⟨q1, q2, q3, q4, q5, q6, q7, q8, q9⟩ := R.tab.put hK hB
  generalize hpt : t.put (way t.mask (hashT P w k) K) = pt at q1 q3 q4 q5 q6 q7 q8 q9 ⊢
  obtain ⟨t1, p⟩ := pt
  dsimp only at q1 q3 q4 q5 q6 q7 q8 q9 ⊢
  subst q1
  have hin : (SetTable.insertAt es (SetTable.below t.place (way t.mask (hashT P w k) K)) (hashT P w k, Value.ref x)).toList = rowsK P w (L.take (SetTable.below t.place (way t.mask (hashT P w k) K)) ++ (x, k) :: L.drop (SetTable.below t.place (way t.mask (hashT P w k) K))) := by
    rw [SetTable.toList_insertAt, R.row]
    unfold rowsK
    rw [List.map_append, List.map_cons, List.map_take, List.map_drop]
  generalize SetTable.below t.place (way t.mask (hashT P w k) K) = p at q2 q3 hin ⊢
  have pm : (L.take p ++ (x, k) :: L.drop p).Perm ((x, k) :: L) := put_perm L p (x, k)
  have hlen : (L.take p ++ (x, k) :: L.drop p).length = L.length + 1 := pm.length_eq
  have hhs : hashK P w (L.take p ++ (x, k) :: L.drop p) = (hashK P w L).take p ++ hashT P w k :: (hashK P w L).drop p := by
    unfold hashK
    rw [List.map_append, List.map_cons, List.map_take, List.map_drop]
  rw [← hhs] at q3
  have hes : (SetTable.insertAt es p (hashT P w k, Value.ref x)).size = L.length + 1 := by
    have e := congrArg List.length hin
    rw [Array.length_toList, List.length_map, hlen] at e
    exact e
  generalize SetTable.insertAt es p (hashT P w k, Value.ref x) = es1 at hin hes ⊢
  generalize L.take p ++ (x, k) :: L.drop p = L1 at pm hlen q3 hin
  -- from where the table is known, by value or not
  have rest : ∀ c : Bool, wpAny (model P w) A (do
      storeSet a es1 (if c = true then t1 else { t1 with plain := false })
      if (!false && (if c = true then t1 else { t1 with plain := false }).tooFull) = true then setRelay a (SetTable.grown (es.size + 1))
      return true) Q E s := by
    intro c
    obtain ⟨t2, ht2⟩ : ∃ t2, t2 = (if c = true then t1 else { t1 with plain := false }) := ⟨_, rfl⟩
    rw [← ht2]
    have T2 : TabOk t2 (hashK P w L1) := by
      rw [ht2]
      cases c
      · exact tab_plain q3 false
      · exact q3
    have m2 : t2.mask = t.mask := by rw [ht2]; cases c <;> exact q4
    have l2 : t2.led = t.led := by rw [ht2]; cases c <;> exact q5
    have f2 : t2.fill = L.length + 1 := by
      have q9' : t1.fill = L.length + 1 := by rw [q9, List.length_map]
      rw [ht2]; cases c <;> exact q9'
    refine wpAny_bind (wpAny_storeSet_of ho hd ?_ (by rw [hes, sizeLine_eq]; omega))
    have sb : Heap.SameBut a s.heap (s.heap.update a (Obj.putSet es1 t2)) := Heap.SameBut.update ..
    have ho1 := store_at (es' := es1) (t' := t2) ho hd
    generalize s.heap.update a (Obj.putSet es1 t2) = h1 at sb ho1 ⊢
    have key1 : ∀ p ∈ L1, TupAt P w h1 p.2 p.1 := fun p hp => by
      rcases List.mem_cons.mp (pm.mem_iff.mp hp) with e | hp
      · rw [e]; exact tupAt_off hx ho hd sb
      · exact tupAt_off (R.key p hp) ho hd sb
    have ld1 : w.params.followText "set-order" = true ∨ t2.led = true := by rw [l2]; exact R.led
    have full : t2.tooFull = true → (L.length + 1) * 5 ≥ t.mask * 3 := fun h => by
      unfold SetTable.tooFull at h
      rw [decide_eq_true_eq, f2, m2] at h
      exact h
    by_cases hf : t2.tooFull = true
    · have hfull := full hf
      rw [hsl]
      have hsz1 : t2.place.size = es1.size := by
        have e := T2.sz
        rw [List.length_map, hlen] at e
        rw [e, hes]
      have two : (t.mask = 7 ∧ L.length = 4) ∨ (t.mask = 31 ∧ L.length = 18) := by
        rcases R.tab.mok with e | e | e
        · left; rw [e] at hfull hroo; exact ⟨e, by omega⟩
        · right; rw [e] at hfull hroo; exact ⟨e, by omega⟩
        · exfalso; rw [e] at hfull hroo; omega
      have go : ∀ M, SetTable.sizeAbove (SetTable.grown (L.length + 1)) - 1 = M → MaskOk M → SetTable.sizeAbove (SetTable.grown (L.length + 1)) ≤ 128 → (L.length + 1) * 5 < M * 3 →
          wpAny (model P w) A (setRelay a (SetTable.grown (L.length + 1))) (fun _ s' => wpAny (model P w) A (pure true) Q E s') E { s with heap := h1 } := fun M g1 g2 g3 g4 => by
        refine relay_new (s := { s with heap := h1 }) ho1 ⟨hex.1, hex.2.1, hex.2.2⟩ rfl hin hsz1 T2.dm (by rw [hes, m2]; rcases two with ⟨e, e2⟩ | ⟨e, e2⟩ <;> omega) key1 ld1 (by rw [hlen]; exact hfew) g1 g2 g3 (by rw [hlen]; exact g4) ?_
        intro h2 L2 es2 ep2 t2 sb2 R2 pm2
        exact wpAny_pure (hQ true h2 L2 es2 ep2 t2 (sb.trans sb2) R2 (pm2.trans pm))
      have br : wpAny (model P w) A (setRelay a (SetTable.grown (L.length + 1))) (fun _ s' => wpAny (model P w) A (pure true) Q E s') E { s with heap := h1 } := by
        rcases two with ⟨_, e2⟩ | ⟨_, e2⟩
        · exact go 31 (by rw [e2, size_20]) (.inr (.inl rfl)) (by rw [e2, size_20]; decide) (by omega)
        · exact go 127 (by rw [e2, size_76]) (.inr (.inr rfl)) (by rw [e2, size_76]; decide) (by omega)
      first
        | (refine wp_if_pos (by simp [hf]) ?_; exact wpAny_bind br)
        | (refine wpAny_bind ?_; refine wp_if_pos (by simp [hf]) ?_; exact br)
    · have fin : Q true { s with heap := h1 } := hQ true h1 L1 es1 (ep + 1) t2 sb ⟨⟨_, ho1, ⟨hex.1, hex.2.1, hex.2.2⟩, rfl⟩, hin, T2, key1, ld1, by
        have : ¬ t2.fill * 5 ≥ t2.mask * 3 := fun h => hf (by unfold SetTable.tooFull; rw [decide_eq_true_eq]; exact h)
        rw [f2] at this
        rw [hlen]
        omega, by rw [hlen]; exact hfew⟩ pm
      first
        | (refine wp_if_neg (by simp [hf]) ?_; exact wpAny_pure fin)
        | (refine wpAny_bind ?_; refine wp_if_neg (by simp [hf]) ?_; exact wpAny_pure (wpAny_pure fin))
  by_cases hp1 : t1.plain = true
  · first
      | (refine wpAny_bind ?_; refine wp_if_pos hp1 ?_; exact tup_hash hx fun c => rest c)
      | exact wp_if_pos hp1 (wpAny_bind (tup_hash hx fun c => rest c))
  · first
      | (refine wpAny_bind ?_; refine wp_if_neg hp1 ?_; exact wpAny_pure (rest true))
      | exact wp_if_neg hp1 (wpAny_bind (wpAny_pure (rest true)))
end
end Tr
/- Tr50 -/
/-! Tr, part 50: set(xs) of tuples of keys, pairwise unlike. -/
namespace Tr
open PySem PySem.Spec PyProof.Rows L2
section
variable {P : Program} {w : World} {A : Around} {E : Value → Shared → Prop} {s : Shared}
theorem tupAt_keep {h h' : Heap} {k : List Key} {b : Addr} (x : TupAt P w h k b) (hk : ∀ c o, h.get? c = some o → h'.get? c = some o) : TupAt P w h' k b := by
  obtain ⟨o, its, n, ho, r⟩ := x
  exact ⟨o, its, n, hk b o ho, r⟩
theorem MS.keep {h h' : Heap} {a : Addr} {L : List (Addr × List Key)} {es : Array (Int × Value)} {ep : Nat} {t : SetTable} (R : MS P w h a L es ep t) (ha : ∀ o, h.get? a = some o → h'.get? a = some o) (ht : ∀ p ∈ L, TupAt P w h' p.2 p.1) : MS P w h' a L es ep t := by
  obtain ⟨o, ho, r⟩ := R.obj
  exact ⟨⟨o, ha o ho, r⟩, R.row, R.tab, ht, R.led, R.roo, R.few⟩
abbrev newSet (w : World) : Obj := { cls := .type "set", dict := none, data := .set #[] 0 (.fresh 0 0 (!w.params.followText "set-order")) }
theorem ms_fresh {h : Heap} {a : Addr} (ho : h.get? a = some (newSet w)) : MS P w h a [] #[] 0 (.fresh 0 0 (!w.params.followText "set-order")) where
  obj := ⟨_, ho, ⟨rfl, rfl, rfl⟩, rfl⟩
  row := rfl
  tab := ⟨List.Pairwise.nil, rfl, rfl, .inl rfl, fun x hx => (nomatch hx), fun i h j hi => (by simp [hashK] at hi)⟩
  key := fun p hp => (nomatch hp)
  led := by
    show _ ∨ (!w.params.followText "set-order") = true
    cases w.params.followText "set-order"
    · exact .inr rfl
    · exact .inl rfl
  roo := by show 0 * 5 < 7 * 3; decide
  few := by show 0 < 64; decide
theorem set_loop {I : Addr} {fp wr : List Addr} {G : Array GenState → Array GenState → Prop} {n : Nat} {Pv : Nat → Value → Prop} {St : Nat → Shared → Prop} {R : Result → Shared → Prop}
    (W : WalksS P w A.in1 I fp wr G n Pv St) (S : Addr) (hSf : S ∉ fp) (ks : List (Addr × List Key)) (hn : n = ks.length) (few : ks.length < 64) (nd : (ks.map (·.2)).Nodup) (hval : ∀ i v, Pv i v → ∃ p, ks[i]? = some p ∧ v = .ref p.1)
    (h0 : Heap) (hk : ∀ p ∈ ks, TupAt P w h0 p.2 p.1) (hS0 : h0.get? S = none) (hw0 : ∀ b ∈ wr, h0.get? b = none) (hu : A.in1.units < cLine) :
    ∀ (k i : Nat) (s : Shared), n - i = k → i ≤ n → St i s → (∀ b o, h0.get? b = some o → s.heap.get? b = some o) → (∃ L es ep t, MS P w s.heap S L es ep t ∧ L.Perm (ks.take i)) →
      (∀ s' L es ep t, Moved (S :: wr) G s s' → MS P w s'.heap S L es ep t → L.Perm ks → (∀ b o, h0.get? b = some o → s'.heap.get? b = some o) → R (.ok (.ret .none)) s') →
      codeAny (model P w) A (.builtin "set.update.loop" ⟨[.ref S, .ref I], []⟩) R s := by
  have hSw : S ∉ wr := fun h => hSf (W.sub _ h)
  have more : ∀ b ∈ wr, b ∈ S :: wr := fun b hb => List.mem_cons_of_mem _ hb
  have stay : ∀ {s s' : Shared}, Moved wr G s s' → (∀ b o, h0.get? b = some o → s.heap.get? b = some o) → ∀ b o, h0.get? b = some o → s'.heap.get? b = some o := fun hm hkp b o e =>
    hm.heap b o (fun hb => by rw [hw0 b hb] at e; cases e) (hkp b o e)
  intro k
  induction k with
  | zero =>
    intro i s hk' hi hst hkp ⟨L, es, ep, t, hS, pm⟩ hR
    have hin : i = n := by omega
    subst hin
    rw [hn, List.take_length] at pm
    refine codeAny_builtin F.entry_set_update_loop ?_
    rw [Around.under_plainId F.plain_set_update_loop _]
    show wpAny _ A.in1 (pyNext (.ref I) >>= _) _ _ s
    refine wpAny_bind (W.done s _ _ hst fun s' hm => ?_)
    show wpAny _ A.in1 (ret Value.none) _ _ s'
    have hkp' := stay hm hkp
    exact wpAny_pure (hR s' L es ep t (hm.mono more) (hS.keep (fun o e => hm.heap S o hSw e) fun p hp => tupAt_keep (hk p (pm.mem_iff.mp hp)) hkp') pm hkp')
  | succ k ih =>
    intro i s hk' hi hst hkp ⟨L, es, ep, t, hS, pm⟩ hR
    have hlt : i < n := by omega
    refine codeAny_builtin F.entry_set_update_loop ?_
    rw [Around.under_plainId F.plain_set_update_loop _]
    show wpAny _ A.in1 (pyNext (.ref I) >>= _) _ _ s
    refine wpAny_bind (W.item i s _ _ hlt hst fun v s' hP hst' hm => ?_)
    obtain ⟨p, hp, rfl⟩ := hval i v hP
    have hkp' := stay hm hkp
    have inn : ∀ q ∈ L, q ∈ ks := fun q hq => List.mem_of_mem_take (pm.mem_iff.mp hq)
    have hS' : MS P w s'.heap S L es ep t := hS.keep (fun o e => hm.heap S o hSw e) fun q hq => tupAt_keep (hk q (inn q hq)) hkp'
    have hx : TupAt P w s'.heap p.2 p.1 := tupAt_keep (hk p (List.mem_of_getElem? hp)) hkp'
    have nw : p.2 ∉ L.map (·.2) := fun m => by
      obtain ⟨q, hq, e⟩ := List.mem_map.mp m
      obtain ⟨j, hj, ej⟩ := List.getElem_of_mem (pm.mem_iff.mp hq)
      rw [List.length_take] at hj
      rw [List.getElem_take] at ej
      have hi' := List.getElem?_eq_some_iff.mp hp
      obtain ⟨hi1, hi2⟩ := hi'
      have hj' : j < ks.length := by omega
      have e1 : (ks.map (·.2))[j]? = (ks.map (·.2))[i]? := by rw [List.getElem?_map, List.getElem?_map, List.getElem?_eq_getElem hj', hp, ej]; simp [e]
      have := (List.getElem?_inj (by rw [List.length_map]; exact hj') nd).mp e1
      omega
    have few1 : L.length + 1 < 64 := by
      have := pm.length_eq
      rw [List.length_take] at this
      omega
    show wpAny _ A.in1 (holding [Value.ref p.1] (setAdd S (.ref p.1)) >>= _) _ _ s'
    refine wpAny_bind (wpAny_holding ?_)
    unfold setAdd
    refine wpAny_holding ?_
    refine wpAny_bind (wpAny_pyHash_tuple hu hx ?_)
    refine add_new (s := { s' with toks := s'.toks + (p.2.length + 1) }) hS' hx nw hu few1 fun b h' L' es' ep' t' hsb hS2 pm2 => ?_
    have pm' : L'.Perm (ks.take (i + 1)) := by
      have e : ks.take (i + 1) = ks.take i ++ [p] := by rw [List.take_succ, hp]; rfl
      rw [e]
      exact (pm2.trans (List.Perm.cons p pm)).trans (List.perm_append_singleton p _).symm
    have hkp2 : ∀ b o, h0.get? b = some o → h'.get? b = some o := fun b o e => (hsb.2 b (fun z => by rw [z, hS0] at e; cases e)).trans (hkp' b o e)
    refine wpAny_pure ⟨plainId_quiet F.plain_set_update_loop _, ih (i + 1) _ (by omega) hlt (W.frame _ s' _ _ hst' (Nat.le_add_right _ _) fun b hb o e => ?_) hkp2 ⟨L', es', ep', t', hS2, pm'⟩ fun s'' L2 es2 ep2 t2 hm'' hS'' g'' hkp'' => ?_⟩
    · rw [hsb.2 b (fun h : b = S => hSf (by rw [← h]; exact hb))]; exact e
    · refine hR s'' L2 es2 ep2 t2 (Moved.trans W.gtrans ((hm.mono more).then_heap (Nat.le_add_right _ _) fun b o hb e => ?_) hm'') hS'' g'' hkp''
      rw [hsb.2 b (fun h : b = S => hb (by rw [h]; exact List.mem_cons_self))]; exact e
end
end Tr
/- Tr51 -/
section
set_option maxHeartbeats 3200000
/-! Tr, part 51: set(xs) of tuples of keys: the call. -/
namespace Tr
open PySem PySem.Spec PyProof.Rows L2
section
variable {P : Program} {w : World} {A : Around} {E : Value → Shared → Prop} {s : Shared}
/-- set(xs), xs a list -/
theorem set_of_list {l : Addr} {items : Array Value} (ks : List (Addr × List Key)) {Q : Value → Shared → Prop} (hh : A.handled = none) (hl : s.heap.IsList l items) (hit : items.toList = ks.map fun p => Value.ref p.1)
    (hk : ∀ p ∈ ks, TupAt P w s.heap p.2 p.1) (few : ks.length < 64) (nd : (ks.map (·.2)).Nodup) (hu : A.units + 3 < cLine)
    (h : ∀ (h' : Heap) (tk : Nat) L es ep t, MS P w h' s.heap.objs.size L es ep t → L.Perm ks → (∀ b o, s.heap.get? b = some o → h'.get? b = some o) → Q (.ref s.heap.objs.size) { s with heap := h', toks := tk }) :
    wpAny (model P w) A (call (.type "set") [.ref l]) Q E s := by
  have hisz : items.size = ks.length := by
    have q := congrArg List.length hit
    rwa [Array.length_toList, List.length_map] at q
  obtain ⟨c, tl, hmro⟩ := F.called_set.mro
  have hmade := F.called_set.made
  have hsub := F.called_set.sub
  refine wpAny_call (codeAny_of_tree ?_)
  show wpAny _ _ (callAny (.type "set") _) _ _ _
  refine wpAny_pure ⟨Code.quiet_builtin _ (by decide +kernel), codeAny_builtin F.entry_type_call ?_⟩
  rw [Around.under_plain (weight_type_call_type "set" [.ref l] []) rfl]
  have h1 := F.called_set.notType
  have h2 := F.called_set.canCreate
  have hct := F.typeCall_set_1 (.ref l)
  repeat (any_goals (first | assumption | wp_step))
  refine codeAny_mono (code_set_led1 (.ref l) (E := E) (Q₁ := fun obj s₁ => obj = .ref s.heap.objs.size ∧ s₁ = { s with heap := s.heap.push (newSet w) }) ⟨rfl, rfl⟩) fun r s₁ hr => ?_
  cases r with
  | error e => exact hr
  | ok fl =>
    cases fl with
    | ret obj =>
      obtain ⟨rfl, rfl⟩ := hr
      have hS : (s.heap.push (newSet w)).get? s.heap.objs.size = some (newSet w) := Heap.get?_push_size _ rfl
      have hT : Shared.TypeIs { s with heap := s.heap.push (newSet w) } (.ref s.heap.objs.size) "set" := ⟨_, hS, rfl⟩
      have hli := F.called_set.init.lookup
      have hbi := F.called_set.init.bind (.ref s.heap.objs.size)
      repeat (any_goals (first | assumption | wp_step))
      refine codeAny_mono (codeAny_call_builtin (R := wants (fun r s₂ => r = .none ∧ ∃ h' tk L es ep t, s₂ = { s with heap := h', toks := tk } ∧ MS P w h' s.heap.objs.size L es ep t ∧ L.Perm ks ∧
          (∀ b o, s.heap.get? b = some o → h'.get? b = some o)) E) F.called_set.init.plain F.entry_set_init (check_set_init_1 hT ?_)) fun r₂ s₂ hr₂ => ?_
      · obtain ⟨ol, hol, hcl, nl, hdl⟩ := hl
        obtain ⟨ocls, odict, odata, oslots⟩ := ol
        simp only at hcl hdl
        subst hcl; subst hdl
        have hol' : (s.heap.push (newSet w)).get? l = some { cls := .type "list", dict := odict, data := .seq items nl, slots := oslots } := Heap.get?_push_of_some _ hol
        have hsls := F.sub_list_set
        have hslf := F.sub_list_frozenset
        have hne : (Value.type "list" == Value.type "dict") = false := by decide
        have hl1 : (s.heap.push (newSet w)).IsList l items := ⟨_, hol', rfl, nl, rfl⟩
        unfold Builtin.«set.__init__» noKeywords Builtin.Frozenset.updateFrom
        generalize hPI : pyIter = PI
        wp_walk
        subst hPI
        refine wpAny_pyIter_list hl1 ?_
        refine wpAny_bind (wpAny_runValue ?_)
        have hlS : l < s.heap.objs.size := Heap.lt_size hol
        have hh3 : A.in1.in1.in1.handled = none := by simp [hh]
        have hneI : l ≠ (s.heap.push (newSet w)).objs.size := by
          rw [Heap.size_push]; exact Nat.ne_of_lt (Nat.lt_succ_of_lt hlS)
        have hSf : s.heap.objs.size ∉ [(s.heap.push (newSet w)).objs.size, l] := by
          rw [Heap.size_push]; simp only [List.mem_cons, List.mem_singleton, List.not_mem_nil, or_false, not_or]
          exact ⟨Nat.ne_of_lt (Nat.lt_succ_self _), Nat.ne_of_gt hlS⟩
        have hval : ∀ (i : Nat) (v : Value), items[i]? = some v → ∃ p, ks[i]? = some p ∧ v = .ref p.1 := fun i v hv => by
          have q : items.toList[i]? = some v := by rw [Array.getElem?_toList]; exact hv
          rw [hit, List.getElem?_map] at q
          obtain ⟨p, e1, e2⟩ := Option.map_eq_some_iff.mp q
          exact ⟨p, e1, e2.symm⟩
        have none_of : ∀ b, s.heap.objs.size ≤ b → s.heap.get? b = none := fun b hb => by
          cases q : s.heap.get? b with
          | none => rfl
          | some o => exact absurd (Nat.lt_of_lt_of_le (Heap.lt_size q) hb) (Nat.lt_irrefl _)
        refine set_loop ((Walks.list hh3 _ l hneI items).toS) s.heap.objs.size
          hSf ks hisz few nd hval s.heap hk (none_of _ (Nat.le_refl _)) (fun b hb => none_of b (by
            rw [List.mem_singleton.mp hb, Heap.size_push]
            exact Nat.le_succ _)) hu (items.size - 0) 0 _ (by omega) (Nat.zero_le _)
          ⟨⟨_, Heap.get?_push_size _ rfl, rfl, rfl⟩, (hl1.push _)⟩ (fun b o e => Heap.get?_push_of_some _ (Heap.get?_push_of_some _ e)) ?hS0 ?hR
        case hS0 => exact ⟨[], #[], 0, _, ms_fresh (Heap.get?_push_of_some _ hS), List.Perm.refl _⟩
        case hR =>
          intro s' L es ep t hm hS' pm hkp
          obtain ⟨h', g2, d', tk', os'⟩ := s'
          have eg : g2 = s.gens := hm.gens
          have ed : d' = s.drawn := hm.drawn
          have eo : os' = s.os := hm.os
          subst eg; subst ed; subst eo
          show wpAny _ _ _ _ _ _
          refine wpAny_pure ?_
          show wpAny _ _ (ret Value.none) _ _ _
          exact wpAny_pure ⟨rfl, h', tk', L, es, ep, t, rfl, hS', pm, hkp⟩
      · cases r₂ with
        | error e => exact hr₂
        | ok fl₂ =>
          cases fl₂ with
          | ret r =>
            obtain ⟨rfl, h', tk, L, es, ep, t, rfl, hS', pm, hk'⟩ := hr₂
            repeat (any_goals (first | assumption | wp_step))
            exact h _ _ _ _ _ _ hS' pm hk'
          | _ => exact hr₂.elim
    | _ => exact hr.elim
/-- set(xs), xs a tuple -/
theorem set_of_tuple {l : Addr} {items : Array Value} (ks : List (Addr × List Key)) {Q : Value → Shared → Prop} (hh : A.handled = none) (hl : s.heap.IsTuple l items) (hit : items.toList = ks.map fun p => Value.ref p.1)
    (hk : ∀ p ∈ ks, TupAt P w s.heap p.2 p.1) (few : ks.length < 64) (nd : (ks.map (·.2)).Nodup) (hu : A.units + 3 < cLine)
    (h : ∀ (h' : Heap) (tk : Nat) L es ep t, MS P w h' s.heap.objs.size L es ep t → L.Perm ks → (∀ b o, s.heap.get? b = some o → h'.get? b = some o) → Q (.ref s.heap.objs.size) { s with heap := h', toks := tk }) :
    wpAny (model P w) A (call (.type "set") [.ref l]) Q E s := by
  have hisz : items.size = ks.length := by
    have q := congrArg List.length hit
    rwa [Array.length_toList, List.length_map] at q
  obtain ⟨c, tl, hmro⟩ := F.called_set.mro
  have hmade := F.called_set.made
  have hsub := F.called_set.sub
  refine wpAny_call (codeAny_of_tree ?_)
  show wpAny _ _ (callAny (.type "set") _) _ _ _
  refine wpAny_pure ⟨Code.quiet_builtin _ (by decide +kernel), codeAny_builtin F.entry_type_call ?_⟩
  rw [Around.under_plain (weight_type_call_type "set" [.ref l] []) rfl]
  have h1 := F.called_set.notType
  have h2 := F.called_set.canCreate
  have hct := F.typeCall_set_1 (.ref l)
  repeat (any_goals (first | assumption | wp_step))
  refine codeAny_mono (code_set_led1 (.ref l) (E := E) (Q₁ := fun obj s₁ => obj = .ref s.heap.objs.size ∧ s₁ = { s with heap := s.heap.push (newSet w) }) ⟨rfl, rfl⟩) fun r s₁ hr => ?_
  cases r with
  | error e => exact hr
  | ok fl =>
    cases fl with
    | ret obj =>
      obtain ⟨rfl, rfl⟩ := hr
      have hS : (s.heap.push (newSet w)).get? s.heap.objs.size = some (newSet w) := Heap.get?_push_size _ rfl
      have hT : Shared.TypeIs { s with heap := s.heap.push (newSet w) } (.ref s.heap.objs.size) "set" := ⟨_, hS, rfl⟩
      have hli := F.called_set.init.lookup
      have hbi := F.called_set.init.bind (.ref s.heap.objs.size)
      repeat (any_goals (first | assumption | wp_step))
      refine codeAny_mono (codeAny_call_builtin (R := wants (fun r s₂ => r = .none ∧ ∃ h' tk L es ep t, s₂ = { s with heap := h', toks := tk } ∧ MS P w h' s.heap.objs.size L es ep t ∧ L.Perm ks ∧
          (∀ b o, s.heap.get? b = some o → h'.get? b = some o)) E) F.called_set.init.plain F.entry_set_init (check_set_init_1 hT ?_)) fun r₂ s₂ hr₂ => ?_
      · obtain ⟨ol, hol, hcl, nl, hdl⟩ := hl
        obtain ⟨ocls, odict, odata, oslots⟩ := ol
        simp only at hcl hdl
        subst hcl; subst hdl
        have hol' : (s.heap.push (newSet w)).get? l = some { cls := .type "tuple", dict := odict, data := .seq items nl, slots := oslots } := Heap.get?_push_of_some _ hol
        have hsls := F.sub_tuple_set
        have hslf := F.sub_tuple_frozenset
        have hne : (Value.type "tuple" == Value.type "dict") = false := by decide
        have hl1 : (s.heap.push (newSet w)).IsTuple l items := ⟨_, hol', rfl, nl, rfl⟩
        unfold Builtin.«set.__init__» noKeywords Builtin.Frozenset.updateFrom
        generalize hPI : pyIter = PI
        wp_walk
        subst hPI
        refine wpAny_pyIter_tuple hl1 ?_
        refine wpAny_bind (wpAny_runValue ?_)
        have hlS : l < s.heap.objs.size := Heap.lt_size hol
        have hh3 : A.in1.in1.in1.handled = none := by simp [hh]
        have hneI : l ≠ (s.heap.push (newSet w)).objs.size := by
          rw [Heap.size_push]; exact Nat.ne_of_lt (Nat.lt_succ_of_lt hlS)
        have hSf : s.heap.objs.size ∉ [(s.heap.push (newSet w)).objs.size, l] := by
          rw [Heap.size_push]; simp only [List.mem_cons, List.mem_singleton, List.not_mem_nil, or_false, not_or]
          exact ⟨Nat.ne_of_lt (Nat.lt_succ_self _), Nat.ne_of_gt hlS⟩
        have hval : ∀ (i : Nat) (v : Value), items[i]? = some v → ∃ p, ks[i]? = some p ∧ v = .ref p.1 := fun i v hv => by
          have q : items.toList[i]? = some v := by rw [Array.getElem?_toList]; exact hv
          rw [hit, List.getElem?_map] at q
          obtain ⟨p, e1, e2⟩ := Option.map_eq_some_iff.mp q
          exact ⟨p, e1, e2.symm⟩
        have none_of : ∀ b, s.heap.objs.size ≤ b → s.heap.get? b = none := fun b hb => by
          cases q : s.heap.get? b with
          | none => rfl
          | some o => exact absurd (Nat.lt_of_lt_of_le (Heap.lt_size q) hb) (Nat.lt_irrefl _)
        refine set_loop ((Walks.tuple hh3 _ l hneI items).toS) s.heap.objs.size
          hSf ks hisz few nd hval s.heap hk (none_of _ (Nat.le_refl _)) (fun b hb => none_of b (by
            rw [List.mem_singleton.mp hb, Heap.size_push]
            exact Nat.le_succ _)) hu (items.size - 0) 0 _ (by omega) (Nat.zero_le _)
          ⟨⟨_, Heap.get?_push_size _ rfl, rfl, rfl⟩, (hl1.push _)⟩ (fun b o e => Heap.get?_push_of_some _ (Heap.get?_push_of_some _ e)) ?hS0 ?hR
        case hS0 => exact ⟨[], #[], 0, _, ms_fresh (Heap.get?_push_of_some _ hS), List.Perm.refl _⟩
        case hR =>
          intro s' L es ep t hm hS' pm hkp
          obtain ⟨h', g2, d', tk', os'⟩ := s'
          have eg : g2 = s.gens := hm.gens
          have ed : d' = s.drawn := hm.drawn
          have eo : os' = s.os := hm.os
          subst eg; subst ed; subst eo
          show wpAny _ _ _ _ _ _
          refine wpAny_pure ?_
          show wpAny _ _ (ret Value.none) _ _ _
          exact wpAny_pure ⟨rfl, h', tk', L, es, ep, t, rfl, hS', pm, hkp⟩
      · cases r₂ with
        | error e => exact hr₂
        | ok fl₂ =>
          cases fl₂ with
          | ret r =>
            obtain ⟨rfl, h', tk, L, es, ep, t, rfl, hS', pm, hk'⟩ := hr₂
            repeat (any_goals (first | assumption | wp_step))
            exact h _ _ _ _ _ _ hS' pm hk'
          | _ => exact hr₂.elim
    | _ => exact hr.elim
end
end Tr
end
/- Tr52 -/
/-! Tr, part 52: tuples of keys as trees; their order. -/
namespace Tr
open PySem L2
def keyP : Key → PyData
  | .inl i => .int i
  | .inr x => .str x
def keysO : List D → Option (List Key)
  | [] => some []
  | d :: ds => (keyOf d).bind fun k => (keysO ds).map (k :: ·)
def tupO : D → Option (List Key)
  | .tup es => keysO es
  | _ => none
def tupsO : List D → Option (List (List Key))
  | [] => some []
  | d :: ds => (tupO d).bind fun k => (tupsO ds).map (k :: ·)
def tupOf (k : List Key) : D := .tup (k.map keyT)
/-- sorted(set(x)), x a list or tuple of tuples of keys, pairwise unlike -/
def vSortSet (x : D) : Option D := (items x).bind fun ds => (tupsO ds).bind fun kss => if kss.Nodup ∧ ds.length < 60 then bSorted [.lst ds] else none
theorem keyOf_eq {d : D} {k : Key} (h : keyOf d = some k) : d = keyT k := by
  unfold keyOf at h
  split at h
  · cases h; rfl
  · cases h; rfl
  · cases h
theorem keysO_eq : ∀ {ds : List D} {ks : List Key}, keysO ds = some ks → ds = ks.map keyT
  | [], _, h => by cases h; rfl
  | d :: ds, _, h => by
    obtain ⟨k, e1, h⟩ := Option.bind_eq_some_iff.mp h
    obtain ⟨ks, e2, rfl⟩ := Option.map_eq_some_iff.mp h
    rw [keyOf_eq e1, keysO_eq e2]
    rfl
theorem tupO_eq {d : D} {k : List Key} (h : tupO d = some k) : d = tupOf k := by
  unfold tupO at h
  split at h
  · rw [keysO_eq h]; rfl
  · cases h
theorem tupsO_eq : ∀ {ds : List D} {ks : List (List Key)}, tupsO ds = some ks → ds = ks.map tupOf
  | [], _, h => by cases h; rfl
  | d :: ds, _, h => by
    obtain ⟨k, e1, h⟩ := Option.bind_eq_some_iff.mp h
    obtain ⟨ks, e2, rfl⟩ := Option.map_eq_some_iff.mp h
    rw [tupO_eq e1, tupsO_eq e2]
    rfl
theorem toP_keyT (k : Key) : toP (keyT k) = some (keyP k) := by cases k <;> rfl
theorem toPs_keys : ∀ ks : List Key, toPs (ks.map keyT) = some (ks.map keyP)
  | [] => rfl
  | k :: ks => by
    rw [List.map_cons, toPs, toP_keyT, toPs_keys ks]
    rfl
theorem encD_tup (k : List Key) : encD (tupOf k) = .tuple (k.map keyP) := by
  unfold encD tupOf toP
  rw [toPs_keys]
  rfl
theorem toks_inj : ∀ k k' : List Key, PySem.W.keyToksAll (k.map keyP) = PySem.W.keyToksAll (k'.map keyP) → k = k'
  | [], [], _ => rfl
  | [], _ :: _, h => by
    rw [List.map_nil, List.map_cons, PySem.W.keyToksAll, PySem.W.toks_all_cons] at h
    simp at h
  | _ :: _, [], h => by
    rw [List.map_nil, List.map_cons, PySem.W.keyToksAll, PySem.W.toks_all_cons] at h
    simp at h
  | a :: k, b :: k', h => by
    rw [List.map_cons, List.map_cons, PySem.W.toks_all_cons, PySem.W.toks_all_cons] at h
    have h := (List.cons.inj h).2
    have one : ∀ c : Key, ∃ s, PySem.W.keyToks (keyP c) = [s] ∧ ∀ c' : Key, PySem.W.keyToks (keyP c') = [s] → c = c' := fun c => by
      cases c with
      | inl i =>
        refine ⟨.inl i, rfl, fun c' e => ?_⟩
        cases c' with
        | inl j =>
          have e : [(Sum.inl j : Int ⊕ List Nat)] = [.inl i] := e
          simp at e
          rw [e]
        | inr y =>
          have e : [(Sum.inr y.cps.toList : Int ⊕ List Nat)] = [.inl i] := e
          simp at e
      | inr x =>
        refine ⟨.inr x.cps.toList, rfl, fun c' e => ?_⟩
        cases c' with
        | inl j =>
          have e : [(Sum.inl j : Int ⊕ List Nat)] = [.inr x.cps.toList] := e
          simp at e
        | inr y =>
          have e : [(Sum.inr y.cps.toList : Int ⊕ List Nat)] = [.inr x.cps.toList] := e
          simp only [List.cons.injEq, Sum.inr.injEq, and_true] at e
          rw [PySem.W.str_of_cps e]
    obtain ⟨s, e1, u⟩ := one a
    obtain ⟨s', e2, _⟩ := one b
    rw [e1, e2] at h
    have h := List.cons.inj h
    rw [u b (by rw [e2, h.1]), toks_inj k k' h.2]
theorem leD_anti {k k' : List Key} (h1 : leD (tupOf k) (tupOf k') = true) (h2 : leD (tupOf k') (tupOf k) = true) : tupOf k = tupOf k' := by
  have a1 : (!PyProof.Rows.lexLt PyProof.Rows.itemOrd (PySem.W.keyToks (encD (tupOf k'))) (PySem.W.keyToks (encD (tupOf k)))) = true := h1
  have a2 : (!PyProof.Rows.lexLt PyProof.Rows.itemOrd (PySem.W.keyToks (encD (tupOf k))) (PySem.W.keyToks (encD (tupOf k')))) = true := h2
  rw [encD_tup, encD_tup, PySem.W.keyToks, PySem.W.keyToks] at a1 a2
  have := PyProof.Rows.lex_total (O := PyProof.Rows.itemOrd) _ _ (by simpa using a2) (by simpa using a1)
  rw [toks_inj k k' this]
theorem leD_total : PySem.W.TotalLe leD := PySem.W.sortLe_total (PyProof.Rows.listOrd PyProof.Rows.itemOrd) false fun b => PySem.W.keyToks (encD b)
theorem merge_pw (l : List D) : (l.mergeSort leD).Pairwise fun a b => leD a b = true :=
  List.pairwise_mergeSort leD_total.trans (fun a b => by rcases leD_total.total a b with h | h <;> simp [h]) l
theorem merge_same {ks ks' : List (List Key)} (h : ks'.Perm ks) : (ks'.map tupOf).mergeSort leD = (ks.map tupOf).mergeSort leD := by
  refine List.Perm.eq_of_pairwise (le := fun a b => leD a b = true) (fun a b ha hb h1 h2 => ?_) (merge_pw _) (merge_pw _) ?_
  · obtain ⟨k, _, rfl⟩ := List.mem_map.mp ((List.mergeSort_perm _ _).mem_iff.mp ha)
    obtain ⟨k', _, rfl⟩ := List.mem_map.mp ((List.mergeSort_perm _ _).mem_iff.mp hb)
    exact leD_anti h1 h2
  · exact (List.mergeSort_perm _ _).trans ((h.map tupOf).trans (List.mergeSort_perm _ _).symm)
theorem perm_map_inv {α β : Type} {f : α → β} : ∀ {out : List β} {l : List α}, out.Perm (l.map f) → ∃ l' : List α, l'.Perm l ∧ out = l'.map f
  | [], l, h => by
    have e : l.map f = [] := h.symm.eq_nil
    rw [List.map_eq_nil_iff.mp e]
    exact ⟨[], List.Perm.refl _, rfl⟩
  | b :: out, l, h => by
    obtain ⟨x, hx, rfl⟩ := List.mem_map.mp (h.mem_iff.mp List.mem_cons_self)
    obtain ⟨l1, l2, rfl⟩ := List.append_of_mem hx
    rw [List.map_append, List.map_cons] at h
    have h2 := List.Perm.cons_inv (h.trans List.perm_middle)
    rw [← List.map_append] at h2
    obtain ⟨l', pm, e⟩ := perm_map_inv h2
    exact ⟨x :: l', (pm.cons x).trans List.perm_middle.symm, by rw [e]; rfl⟩
end Tr
/- Tr53 -/
/-! Tr, part 53: sorted(set(x)), x of tuples of keys, pairwise unlike. -/
namespace Tr
open PySem L2
section
variable {X : Cx} {W : Wd} {A : Addr → Prop} {H : Hp}
theorem toPs_some : ∀ {ds : List D} {ps : List PyData}, toPs ds = some ps → ∀ d ∈ ds, toP d = some (encD d) ∧ encD d ∈ ps
  | [], _, _, _, m => nomatch m
  | d :: ds, _, e, x, m => by
    unfold toPs at e
    obtain ⟨p, e1, e⟩ := Option.bind_eq_some_iff.mp e
    obtain ⟨qs, e2, rfl⟩ := Option.map_eq_some_iff.mp e
    rcases List.mem_cons.mp m with rfl | m
    · unfold encD; rw [e1]; exact ⟨rfl, List.mem_cons_self⟩
    · obtain ⟨g1, g2⟩ := toPs_some e2 x m
      exact ⟨g1, List.mem_cons_of_mem _ g2⟩
theorem toPs_all : ∀ {ds : List D}, (∀ d ∈ ds, toP d = some (encD d)) → toPs ds = some (ds.map encD)
  | [], _ => rfl
  | d :: ds, h => by
    unfold toPs
    rw [h d List.mem_cons_self, toPs_all fun x m => h x (List.mem_cons_of_mem _ m)]
    rfl
/-- what bSorted asks, of any permutation -/
theorem bSorted_perm {ds ds' : List D} {r : D} (pm : ds'.Perm ds) (e : bSorted [.lst ds] = some r) : r = .lst (ds.mergeSort leD) ∧ ∃ ps, toPs ds' = some ps ∧ allAlike ps = true ∧ sortable ps = true ∧ ps.all (fun p => decide (p.depth ≤ 60)) = true ∧ ds'.length ≤ cap := by
  unfold bSorted at e
  obtain ⟨ps, ep, e⟩ := Option.bind_eq_some_iff.mp e
  obtain ⟨hh, e⟩ := Option.ite_none_right_eq_some.mp e
  simp only [Bool.and_eq_true, decide_eq_true_eq] at hh
  obtain ⟨⟨⟨h1, h2⟩, h3⟩, h4⟩ := hh
  cases e
  refine ⟨rfl, ds'.map encD, toPs_all fun d m => (toPs_some ep d (pm.mem_iff.mp m)).1, ?_, ?_, ?_, by rw [pm.length_eq]; exact h4⟩
  all_goals
    have em := toPs_enc ep
    have pp : (ds'.map encD).Perm ps := by rw [← em]; exact pm.map _
  · unfold allAlike at h1 ⊢
    rw [List.all_eq_true] at h1 ⊢
    intro x hx
    have := h1 x (pp.mem_iff.mp hx)
    rw [List.all_eq_true] at this ⊢
    exact fun y hy => this y (pp.mem_iff.mp hy)
  · unfold sortable at h2 ⊢
    rw [Bool.or_eq_true, List.all_eq_true, List.all_eq_true] at h2 ⊢
    exact h2.imp (fun k x hx => k x (pp.mem_iff.mp hx)) fun k x hx => k x (pp.mem_iff.mp hx)
  · rw [List.all_eq_true] at h3 ⊢
    exact fun x hx => h3 x (pp.mem_iff.mp hx)
/-- trees that are tuples of keys: their addresses -/
theorem tups_at : ∀ {kss : List (List Key)} {vs : List V}, RelDs W A H (kss.map tupOf) vs → ∃ ks : List (Addr × List Key), ks.map (·.2) = kss ∧ vs = ks.map (fun p => V.ref p.1) ∧ ∀ p ∈ ks, RelD W A H (tupOf p.2) (.ref p.1)
  | [], _, r => ⟨[], rfl, by rw [relDs_nil_inv r]; rfl, fun _ m => nomatch m⟩
  | k :: kss, _, r => by
    obtain ⟨v, s, rfl, h1, h2⟩ := relDs_cons_inv r
    obtain ⟨ks, e1, e2, h3⟩ := tups_at h2
    have h1' := h1
    unfold tupOf at h1
    obtain ⟨a, ws, rfl, _, _, _⟩ := relD_tup_inv h1
    exact ⟨(a, k) :: ks, by rw [List.map_cons, e1], by rw [List.map_cons, e2], fun p m => by
      rcases List.mem_cons.mp m with rfl | m
      · exact h1'
      · exact h3 p m⟩
theorem relDs_kT : ∀ {k : List Key} {vs : List V}, RelDs W A H (k.map keyT) vs → vs = k.map kV
  | [], _, r => relDs_nil_inv r
  | k :: ks, _, r => by
    obtain ⟨v, s, rfl, h1, h2⟩ := relDs_cons_inv r
    rw [relDs_kT h2]
    cases k with
    | inl i => rw [relD_int_inv h1]; rfl
    | inr x => rw [relD_str_inv h1]; rfl
theorem items_mix {P : Program} {w : World} : ∀ {k : List Key} {us : List Value}, Vals (k.map kV) us → ItemsAre (mixKind P w) k us
  | [], _, .nil => .nil
  | _ :: _, _, .cons r t => .cons (kV_is r) (items_mix t)
theorem tup_of_rel {pins : List (Addr × Obj)} {σ : St} {s : Shared} {k : List Key} {a : Addr} (I : Inv X pins σ H s) (r : RelD W A H (tupOf k) (.ref a)) : TupAt X.prog X.w s.heap k a := by
  unfold tupOf at r
  obtain ⟨b, ws, e, _, hb, rs⟩ := relD_tup_inv r
  cases e
  rw [relDs_kT rs] at hb
  obtain ⟨its, rv, ⟨o, ho, hc, n, hd⟩, _⟩ := I.tuple (.of hb)
  exact ⟨o, its.toArray, n, ho, hc, hd, by simpa using items_mix rv⟩
theorem refs_eq : ∀ {ks : List (Addr × List Key)} {us : List Value}, Vals (ks.map fun p => V.ref p.1) us → us = ks.map fun p => Value.ref p.1
  | [], _, .nil => rfl
  | _ :: _, _, .cons r t => by
    cases r
    rw [refs_eq t]
    rfl
theorem refs_vals : ∀ ks : List (Addr × List Key), Vals (ks.map fun p => V.ref p.1) (ks.map fun p => Value.ref p.1)
  | [] => .nil
  | _ :: ks => .cons rfl (refs_vals ks)
theorem relDs_refs : ∀ {ks : List (Addr × List Key)}, (∀ p ∈ ks, RelD W A H (tupOf p.2) (.ref p.1)) → RelDs W A H (ks.map fun p => tupOf p.2) (ks.map fun p => V.ref p.1)
  | [], _ => relDs_nil
  | p :: ks, h => relDs_cons (h p List.mem_cons_self) (relDs_refs fun q m => h q (List.mem_cons_of_mem _ m))
/-- the state as it is, where nothing was taken away -/
theorem inv_grown {pins : List (Addr × Obj)} {σ : St} {s s' : Shared} (I : Inv X pins σ H s) (k : ∀ b o, s.heap.get? b = some o → s'.heap.get? b = some o) (hg : s'.gens = s.gens) (ho : s'.os = s.os) : Inv X pins σ H s' :=
  I.call' (ch := []) ho ⟨fun b o q _ _ _ => k b o q, fun b o q _ _ _ => ⟨o.slots, k b o q⟩, fun _ _ _ n _ => n, fun b o q _ => ⟨o, k b o q⟩, fun _ _ q => q, fun _ _ _ q => q, fun _ ps q => ⟨#[], by rw [q]; simp⟩⟩
    (fun b q hq => (I.hok b q hq).stay (fun d v _ y => k d v y) (fun _ y => y) fun _ _ y => y) (by rw [hg]; exact I.bare) fun b z => by simp at z
/-- the two calls -/
theorem sortSet_run {pins : List (Addr × Obj)} {σ : St} {s : Shared} {Q : VK} {d r : D} {v : V} {u : Value} (hc : X.calm = true) (hu : X.A.units + 66 < cLine) (t : Tk A H) (I : Inv X pins σ H s) (ru : RelV v u) (rd : RelD W A H d v) (e : vSortSet d = some r)
    (q : ∀ z H2, Same H H2 → RelD W A H2 r z → Q z H2) :
    wpAny (model X.prog X.w) X.A (call (.type "set") [u]) (fun a s1 => wpAny (model X.prog X.w) X.A (call (.builtin "sorted") [a]) (EP X pins σ Q) X.xe s1) X.xe s := by
  unfold vSortSet at e
  obtain ⟨ds, e1, e⟩ := Option.bind_eq_some_iff.mp e
  obtain ⟨kss, e2, e⟩ := Option.bind_eq_some_iff.mp e
  obtain ⟨⟨nd, few⟩, e⟩ := Option.ite_none_right_eq_some.mp e
  have eds := tupsO_eq e2
  -- the source
  have src : ∃ (a : Addr) (vs : List V), v = .ref a ∧ (H a = some (.tup vs) ∨ Rd H a (.lst vs)) ∧ RelDs W A H ds vs := by
    unfold items at e1
    split at e1
    · cases e1
      obtain ⟨a, vs, rfl, _, h, rs⟩ := relD_tup_inv rd
      exact ⟨a, vs, rfl, .inl h, rs⟩
    · cases e1
      obtain ⟨a, vs, rfl, _, h, rs⟩ := relD_lst_inv rd
      exact ⟨a, vs, rfl, .inr h, rs⟩
    · cases e1
  obtain ⟨l, vs, rfl, hl, rs⟩ := src
  cases ru
  rw [eds] at rs
  obtain ⟨ks, k1, k2, k3⟩ := tups_at rs
  subst k2
  have lk : ks.length < 64 := by
    have : ds.length = ks.length := by rw [eds, List.length_map, ← k1, List.length_map]
    omega
  have nd' : (ks.map (·.2)).Nodup := by rw [k1]; exact nd
  have hkey : ∀ p ∈ ks, TupAt X.prog X.w s.heap p.2 p.1 := fun p m => tup_of_rel I (k3 p m)
  have cont : ∀ (h' : Heap) (tk : Nat) L es ep t, MS X.prog X.w h' s.heap.objs.size L es ep t → L.Perm ks → (∀ b o, s.heap.get? b = some o → h'.get? b = some o) →
      wpAny (model X.prog X.w) X.A (call (.builtin "sorted") [.ref s.heap.objs.size]) (EP X pins σ Q) X.xe { s with heap := h', toks := tk } := by
    intro h' tk L es ep tb R pmL kp
    have I2 : Inv X pins σ H { s with heap := h', toks := tk } := I.kept (t' := tk) kp
    obtain ⟨o, ho, hex, hd⟩ := R.obj
    have hsz := MS.size (s := { s with heap := h', toks := tk }) R
    have hfew := R.few
    have hrow : es.toList.map (·.2) = L.map fun p => Value.ref p.1 := by
      rw [R.row, List.map_map]
      rfl
    refine PyProof.Rows.call_function_entry_kw PyProof.Rows.kind_sorted PyProof.Rows.plain_sorted PyProof.Rows.entry_sorted (PyProof.Rows.args_sorted1 _) ?_
    unfold Builtin.«sorted»
    refine wpAny_bind (m := checkCount "sorted" 1 1 _) (wpAny_pure ?_)
    refine wpAny_bind (collect_set (A := X.A.in1) (s := { s with heap := h', toks := tk }) (I.ok.hd hc) ⟨o, ho, hex.1, hd⟩ (MS.fits (s := { s with heap := h', toks := tk }) R) (by unfold scanBound; omega) R.tab.ris R.led fun s1 us kp1 hz g1 o1 pm => ?_)
    rw [hrow] at pm
    obtain ⟨ks', pk, eu⟩ := perm_map_inv (pm.trans (pmL.map fun p => Value.ref p.1))
    subst eu
    have I3 : Inv X pins σ H s1 := inv_grown I2 kp1 g1 o1
    have pds : (ks'.map fun p => tupOf p.2).Perm ds := by
      rw [eds, ← k1, List.map_map]
      exact pk.map fun p => tupOf p.2
    obtain ⟨er, ps, ep', h1, h2, h3, h4⟩ := bSorted_perm pds e
    subst er
    have rs' : RelDs W A H (ks'.map fun p => tupOf p.2) (ks'.map fun p => V.ref p.1) := relDs_refs fun p m => k3 p (pk.mem_iff.mp m)
    have rv' := refs_vals ks'
    have em := toPs_enc ep'
    have hal : PySem.W.AllAlike ((ks'.map fun p => tupOf p.2).map encD) := by
      rw [em]
      intro d hd d' hd'
      unfold allAlike at h1
      exact List.all_eq_true.mp (List.all_eq_true.mp h1 d hd) d' hd'
    have hk : PySem.W.Sortable ((ks'.map fun p => tupOf p.2).map encD) := by
      rw [em]
      unfold sortable at h2
      rcases Bool.or_eq_true_iff.mp h2 with h2 | h2
      · refine .inl fun d hd => ?_
        have := List.all_eq_true.mp h2 d hd
        split at this
        · exact ⟨_, _, rfl⟩
        · cases this
      · refine .inr fun d hd => ?_
        have := List.all_eq_true.mp h2 d hd
        split at this
        · cases this
        · cases this
        · rename_i n1 n2
          exact ⟨n1, n2⟩
    have hlen : (ks'.map fun p => Value.ref p.1).length ≤ sizeLine := by
      rw [List.length_map]
      rw [List.length_map] at h4
      exact Nat.le_trans h4 cap_le
    refine wpAny_bind (PySem.wpAny_newList ?_ hlen)
    have hp : (s1.heap.push { cls := .type "list", data := .seq (ks'.map fun p => Value.ref p.1).toArray }).get? s1.heap.objs.size = some (PyProof.Rows.seqObj "list" (ks'.map fun p => Value.ref p.1).toArray 0) := Heap.get?_push_size _ rfl
    have er : PySem.W.EachIs (fun v d => ∃ as, PySem.Reads (s1.heap.push { cls := .type "list", data := .seq (ks'.map fun p => Value.ref p.1).toArray }) v (encD d) as ∧ s1.heap.objs.size ∉ as) (ks'.map fun p => Value.ref p.1) (ks'.map fun p => tupOf p.2) :=
      (each_reads (K := X.K) I3 rs' rv' ep').mono fun v d ⟨as, r⟩ => ⟨as, PyProof.Rows.Reads.keeps (fun b o => Heap.get?_push_of_some _) r, fun m => by
        obtain ⟨o, q⟩ := PyProof.On.reads_mem_get r _ m
        exact absurd (Heap.lt_size q) (Nat.lt_irrefl _)⟩
    refine wpAny_bind (wpAny_holding (PySem.W.list_sort_data (s := { s1 with heap := s1.heap.push { cls := .type "list", data := .seq (ks'.map fun p => Value.ref p.1).toArray } }) (R := ItemR W A H) (enc := encD) (bs := ks'.map fun p => tupOf p.2) hp (each_rel rs' rv') er hal hk (Nat.le_trans h4 cap_le) (fun b hb => ?_) fun out lo eo => ?_))
    · have : encD b ∈ ps := by rw [← em]; exact List.mem_map_of_mem hb
      have := of_decide_eq_true (List.all_eq_true.mp h3 _ this)
      show X.A.units + 1 + 1 + _ < _
      omega
    · obtain ⟨ws, g1, g2⟩ := rel_each eo
      obtain ⟨ep, he'⟩ := PyProof.Rows.sortedHeap_at (out := out.toArray) hp
      have hlen : ws.length ≤ sizeLine := by
        rw [← relDs_len g2, List.length_mergeSort]
        exact Nat.le_trans h4 cap_le
      have eqm : ((ks'.map fun p => tupOf p.2).mergeSort leD) = ds.mergeSort leD := by
        rw [eds]
        have := merge_same (ks := kss) (ks' := ks'.map (·.2)) (by rw [← k1]; exact pk.map _)
        rw [List.map_map] at this
        exact this
      have g2 : RelDs W A H ((ks'.map fun p => tupOf p.2).mergeSort leD) ws := g2
      rw [eqm] at g2
      have hn : H s1.heap.objs.size = none := I3.hok.fresh (Nat.le_refl _)
      refine wpAny_pure ⟨_, rfl, .ref s1.heap.objs.size, upd H s1.heap.objs.size (.lst ws), I3.laid (t' := s1.toks) (fun b o z => ?_) (Nat.le_refl _) ⟨hlen, out, ep, g1, he'⟩, rfl, q _ _ (same_new hn) (relD_new_lst t hn g2)⟩
      have hlt := Heap.lt_size z
      rw [PyProof.Rows.sortedHeap_old (Nat.ne_of_lt hlt) (by rw [Heap.size_push]; exact Nat.lt_succ_of_lt hlt)]
      exact Heap.get?_push_of_some _ z
  rcases hl with hl | hl
  · obtain ⟨its, rv, pt, hz⟩ := I.tuple (.of hl)
    have ei := refs_eq rv
    exact set_of_tuple ks (I.ok.hd hc) (show s.heap.IsTuple l its.toArray from pt) (by rw [← ei]) hkey lk nd' (by omega) cont
  · obtain ⟨its, rv, pl, hz⟩ := I.list (.inl hl)
    have ei := refs_eq rv
    exact set_of_list ks (I.ok.hd hc) pl.isList (by rw [← ei]) hkey lk nd' (by omega) cont
end
end Tr
/- Tr54 -/
section
set_option maxHeartbeats 3200000
/-! Tr, part 54: set(xs), xs a list of keys, pairwise unlike. -/
namespace Tr
open PySem PySem.Spec PyProof.Rows L2
theorem vals_key : ∀ {ks : List Key} {us : List Value} {i : Nat} {v : Value}, Vals (ks.map kV) us → us[i]? = some v → ∃ k, ks[i]? = some k ∧ RelV (kV k) v
  | [], _, _, _, .nil, h => by cases h
  | k :: ks, _, 0, _, .cons r t, h => by cases h; exact ⟨k, rfl, r⟩
  | k :: ks, _, i + 1, _, .cons r t, h => vals_key (ks := ks) t h
section
variable {P : Program} {w : World} {A : Around} {E : Value → Shared → Prop} {s : Shared}
theorem keys_loop {I : Addr} {fp wr : List Addr} {G : Array GenState → Array GenState → Prop} {n : Nat} {Pv : Nat → Value → Prop} {St : Nat → Shared → Prop} {R : Result → Shared → Prop}
    (W : WalksS P w A.in1 I fp wr G n Pv St) (S : Addr) (hSf : S ∉ fp) (ks : List Key) (hn : n = ks.length) (few : ks.length < 64) (nd : ks.Nodup) (hval : ∀ i v, Pv i v → ∃ k, ks[i]? = some k ∧ RelV (kV k) v)
    (h0 : Heap) (hS0 : h0.get? S = none) (hw0 : ∀ b ∈ wr, h0.get? b = none) :
    ∀ (k i : Nat) (s : Shared), n - i = k → i ≤ n → St i s → (∀ b o, h0.get? b = some o → s.heap.get? b = some o) → (∃ Sf, s.heap.SetOf (mixKind P w) S Sf i ∧ ∀ k, Sf k = true → k ∈ ks.take i) →
      (∀ s' Sf, Moved (S :: wr) G s s' → s'.heap.SetOf (mixKind P w) S Sf ks.length → (∀ b o, h0.get? b = some o → s'.heap.get? b = some o) → R (.ok (.ret .none)) s') →
      codeAny (model P w) A (.builtin "set.update.loop" ⟨[.ref S, .ref I], []⟩) R s := by
  have hSw : S ∉ wr := fun h => hSf (W.sub _ h)
  have more : ∀ b ∈ wr, b ∈ S :: wr := fun b hb => List.mem_cons_of_mem _ hb
  have stay : ∀ {s s' : Shared}, Moved wr G s s' → (∀ b o, h0.get? b = some o → s.heap.get? b = some o) → ∀ b o, h0.get? b = some o → s'.heap.get? b = some o := fun hm hkp b o e =>
    hm.heap b o (fun hb => by rw [hw0 b hb] at e; cases e) (hkp b o e)
  intro k
  induction k with
  | zero =>
    intro i s hk' hi hst hkp ⟨Sf, hS, _⟩ hR
    have hin : i = ks.length := by omega
    rw [hin] at hS
    have hin : i = n := by omega
    subst hin
    refine codeAny_builtin F.entry_set_update_loop ?_
    rw [Around.under_plainId F.plain_set_update_loop _]
    show wpAny _ A.in1 (pyNext (.ref I) >>= _) _ _ s
    refine wpAny_bind (W.done s _ _ hst fun s' hm => ?_)
    show wpAny _ A.in1 (ret Value.none) _ _ s'
    refine wpAny_pure (hR s' Sf (hm.mono more) ?_ (stay hm hkp))
    obtain ⟨o, es, ep, t, ho, r⟩ := hS
    exact ⟨o, es, ep, t, hm.heap S _ hSw ho, r⟩
  | succ k ih =>
    intro i s hk' hi hst hkp ⟨Sf, hS, hin⟩ hR
    have hlt : i < n := by omega
    refine codeAny_builtin F.entry_set_update_loop ?_
    rw [Around.under_plainId F.plain_set_update_loop _]
    show wpAny _ A.in1 (pyNext (.ref I) >>= _) _ _ s
    refine wpAny_bind (W.item i s _ _ hlt hst fun v s' hP hst' hm => ?_)
    obtain ⟨key, hp, rv⟩ := hval i v hP
    have hkp' := stay hm hkp
    have hS' : s'.heap.SetOf (mixKind P w) S Sf i := by
      obtain ⟨o, es, ep, t, ho, r⟩ := hS
      exact ⟨o, es, ep, t, hm.heap S _ hSw ho, r⟩
    have nw : ¬ Sf key = true := fun m => by
      obtain ⟨j, hj, ej⟩ := List.getElem_of_mem (hin key m)
      rw [List.length_take] at hj
      rw [List.getElem_take] at ej
      have hj' : j < ks.length := by omega
      have e1 : ks[j]? = ks[i]? := by rw [List.getElem?_eq_getElem hj', hp, ej]
      have := (List.getElem?_inj hj' nd).mp e1
      omega
    show wpAny _ A.in1 (holding [v] (setAdd S v) >>= _) _ _ s'
    refine wpAny_bind (wpAny_holding ?_)
    unfold setAdd
    refine wpAny_holding ?_
    refine wpAny_bind ((mixKind P w).pyHash (k := key) (kV_is rv) ?_)
    refine wpAny_setAddHashed_of (knd := mixKind P w) (s := { s' with toks := s'.toks + 1 }) (kV_is rv) (key_scan rv) hS' (by unfold scanBound; omega) fun h' hsb hS2 => ?_
    rw [if_neg nw] at hS2
    have hkp2 : ∀ b o, h0.get? b = some o → h'.get? b = some o := fun b o e => (hsb.2 b (fun z => by rw [z, hS0] at e; cases e)).trans (hkp' b o e)
    have inv : ∀ k', (Sf k' || decide (k' = key)) = true → k' ∈ ks.take (i + 1) := fun k' h => by
      have e : ks.take (i + 1) = ks.take i ++ [key] := by rw [List.take_succ, hp]; rfl
      rw [e]
      rcases Bool.or_eq_true_iff.mp h with h | h
      · exact List.mem_append_left _ (hin k' h)
      · rw [of_decide_eq_true h]; exact List.mem_append_right _ List.mem_cons_self
    refine wpAny_pure ⟨plainId_quiet F.plain_set_update_loop _, ih (i + 1) _ (by omega) hlt (W.frame _ s' _ _ hst' (Nat.le_add_right _ _) fun b hb o e => ?_) hkp2 ⟨_, hS2, inv⟩ fun s'' S2 hm'' hS'' hkp'' => ?_⟩
    · rw [hsb.2 b (fun h : b = S => hSf (by rw [← h]; exact hb))]; exact e
    · refine hR s'' S2 (Moved.trans W.gtrans ((hm.mono more).then_heap (Nat.le_add_right _ _) fun b o hb e => ?_) hm'') hS'' hkp''
      rw [hsb.2 b (fun h : b = S => hb (by rw [h]; exact List.mem_cons_self))]; exact e
/-- set(xs), xs a list of keys -/
theorem set_of_keys {l : Addr} {items : Array Value} {ks : List Key} {Q : Value → Shared → Prop} (hh : A.handled = none) (hl : s.heap.IsList l items) (hit : Vals (ks.map kV) items.toList) (few : ks.length < 64) (nd : ks.Nodup)
    (h : ∀ (h' : Heap) (tk : Nat) Sf, h'.SetOf (mixKind P w) s.heap.objs.size Sf ks.length → (∀ b o, s.heap.get? b = some o → h'.get? b = some o) → Q (.ref s.heap.objs.size) { s with heap := h', toks := tk }) :
    wpAny (model P w) A (call (.type "set") [.ref l]) Q E s := by
  have hisz : items.size = ks.length := by
    have q : (ks.map kV).length = items.toList.length := hit.length
    rw [List.length_map] at q
    rw [← Array.length_toList]
    exact q.symm
  obtain ⟨c, tl, hmro⟩ := F.called_set.mro
  have hmade := F.called_set.made
  have hsub := F.called_set.sub
  refine wpAny_call (codeAny_of_tree ?_)
  show wpAny _ _ (callAny (.type "set") _) _ _ _
  refine wpAny_pure ⟨Code.quiet_builtin _ (by decide +kernel), codeAny_builtin F.entry_type_call ?_⟩
  rw [Around.under_plain (weight_type_call_type "set" [.ref l] []) rfl]
  have h1 := F.called_set.notType
  have h2 := F.called_set.canCreate
  have hct := F.typeCall_set_1 (.ref l)
  repeat (any_goals (first | assumption | wp_step))
  refine codeAny_mono (code_set_led1 (.ref l) (E := E) (Q₁ := fun obj s₁ => obj = .ref s.heap.objs.size ∧ s₁ = { s with heap := s.heap.push (newSet w) }) ⟨rfl, rfl⟩) fun r s₁ hr => ?_
  cases r with
  | error e => exact hr
  | ok fl =>
    cases fl with
    | ret obj =>
      obtain ⟨rfl, rfl⟩ := hr
      have hS : (s.heap.push (newSet w)).get? s.heap.objs.size = some (newSet w) := Heap.get?_push_size _ rfl
      have hT : Shared.TypeIs { s with heap := s.heap.push (newSet w) } (.ref s.heap.objs.size) "set" := ⟨_, hS, rfl⟩
      have hli := F.called_set.init.lookup
      have hbi := F.called_set.init.bind (.ref s.heap.objs.size)
      repeat (any_goals (first | assumption | wp_step))
      refine codeAny_mono (codeAny_call_builtin (R := wants (fun r s₂ => r = .none ∧ ∃ h' tk Sf, s₂ = { s with heap := h', toks := tk } ∧ h'.SetOf (mixKind P w) s.heap.objs.size Sf ks.length ∧
          (∀ b o, s.heap.get? b = some o → h'.get? b = some o)) E) F.called_set.init.plain F.entry_set_init (check_set_init_1 hT ?_)) fun r₂ s₂ hr₂ => ?_
      · obtain ⟨ol, hol, hcl, nl, hdl⟩ := hl
        obtain ⟨ocls, odict, odata, oslots⟩ := ol
        simp only at hcl hdl
        subst hcl; subst hdl
        have hol' : (s.heap.push (newSet w)).get? l = some { cls := .type "list", dict := odict, data := .seq items nl, slots := oslots } := Heap.get?_push_of_some _ hol
        have hsls := F.sub_list_set
        have hslf := F.sub_list_frozenset
        have hne : (Value.type "list" == Value.type "dict") = false := by decide
        have hl1 : (s.heap.push (newSet w)).IsList l items := ⟨_, hol', rfl, nl, rfl⟩
        unfold Builtin.«set.__init__» noKeywords Builtin.Frozenset.updateFrom
        generalize hPI : pyIter = PI
        wp_walk
        subst hPI
        refine wpAny_pyIter_list hl1 ?_
        refine wpAny_bind (wpAny_runValue ?_)
        have hlS : l < s.heap.objs.size := Heap.lt_size hol
        have hh3 : A.in1.in1.in1.handled = none := by simp [hh]
        have hneI : l ≠ (s.heap.push (newSet w)).objs.size := by
          rw [Heap.size_push]; exact Nat.ne_of_lt (Nat.lt_succ_of_lt hlS)
        have hSf : s.heap.objs.size ∉ [(s.heap.push (newSet w)).objs.size, l] := by
          rw [Heap.size_push]; simp only [List.mem_cons, List.mem_singleton, List.not_mem_nil, or_false, not_or]
          exact ⟨Nat.ne_of_lt (Nat.lt_succ_self _), Nat.ne_of_gt hlS⟩
        have hval : ∀ (i : Nat) (v : Value), items[i]? = some v → ∃ k, ks[i]? = some k ∧ RelV (kV k) v := fun i v hv => by
          have q : items.toList[i]? = some v := by rw [Array.getElem?_toList]; exact hv
          exact vals_key hit q
        have none_of : ∀ b, s.heap.objs.size ≤ b → s.heap.get? b = none := fun b hb => by
          cases q : s.heap.get? b with
          | none => rfl
          | some o => exact absurd (Nat.lt_of_lt_of_le (Heap.lt_size q) hb) (Nat.lt_irrefl _)
        refine keys_loop ((Walks.list hh3 _ l hneI items).toS) s.heap.objs.size
          hSf ks hisz few nd hval s.heap (none_of _ (Nat.le_refl _)) (fun b hb => none_of b (by
            rw [List.mem_singleton.mp hb, Heap.size_push]
            exact Nat.le_succ _)) (items.size - 0) 0 _ (by omega) (Nat.zero_le _)
          ⟨⟨_, Heap.get?_push_size _ rfl, rfl, rfl⟩, (hl1.push _)⟩ (fun b o e => Heap.get?_push_of_some _ (Heap.get?_push_of_some _ e)) ?hS0 ?hR
        case hS0 => exact ⟨fun _ => false, ⟨_, #[], 0, _, Heap.get?_push_of_some _ hS, ⟨rfl, rfl, rfl⟩, rfl, (fun e he => by simp at he), (fun k => by simp), (by decide), (by rfl), rfl⟩, fun k hk => by cases hk⟩
        case hR =>
          intro s' Sf hm hS' hkp
          obtain ⟨h', g2, d', tk', os'⟩ := s'
          have eg : g2 = s.gens := hm.gens
          have ed : d' = s.drawn := hm.drawn
          have eo : os' = s.os := hm.os
          subst eg; subst ed; subst eo
          show wpAny _ _ _ _ _ _
          refine wpAny_pure ?_
          show wpAny _ _ (ret Value.none) _ _ _
          exact wpAny_pure ⟨rfl, h', tk', Sf, rfl, hS', hkp⟩
      · cases r₂ with
        | error e => exact hr₂
        | ok fl₂ =>
          cases fl₂ with
          | ret r =>
            obtain ⟨rfl, h', tk, Sf, rfl, hS', hk'⟩ := hr₂
            repeat (any_goals (first | assumption | wp_step))
            exact h _ _ _ hS' hk'
          | _ => exact hr₂.elim
    | _ => exact hr.elim
end
end Tr
end
/- Tr55 -/
/-! Tr, part 55: the rules for sorted(set(x)) and len(set(x)). -/
namespace Tr
open PySem L2
/-- what an expression of one argument gives, said of trees -/
def tG (W : Wd) (g : D → Option D) (ta : TE) : TE := fun σ H Q => ta σ H fun v H1 => ∃ (A : Addr → Prop) (d r : D), Tk A H1 ∧ RelD W A H1 d v ∧ g d = some r ∧ ∀ z H2, Same H1 H2 → RelD W A H2 r z → Q z H2
/-- len(set(x)), x a list of ints and texts, pairwise unlike -/
def vLenSet : D → Option D
  | .lst ds => (keysO ds).bind fun ks => if ks.Nodup ∧ ks.length < 60 then some (.int ks.length) else none
  | _ => none
section
variable {X : Cx} {W : Wd} {E : XK} {a : Expr} {ma : EM} {ta : TE} {p p2 pos q : Pos}
theorem se_tG {e : Expr} {g : D → Option D} (hp : ∀ ta : TE, PE X a ta → PE X e (tG W g ta)) (he : SE X W E a ma) : SE X W E e (eUn g ma) := by
  obtain ⟨t, pp, k⟩ := he
  refine ⟨_, hp t pp, fun Φ H F ρ σ Q I h => ?_⟩
  refine k _ _ _ _ _ _ I (h.bnd fun x ρ1 v H1 F1 _ I1 x1 r1 h1 => ?_)
  cases eg : g x with
  | none => rw [eg] at h1; exact h1.elim
  | some r =>
    rw [eg] at h1
    refine ⟨own Φ.O F1, x, r, I1.tk, r1, eg, fun z H2 sm rz => ?_⟩
    obtain ⟨I2, x2⟩ := I1.same sm
    exact h1 _ _ _ I2 x2 rz
theorem pe_sortSet (hc : X.calm = true) (hu : X.A.units + 66 < cLine) (hg : Gl X "sorted") (hm : X.mg "sorted" = none) (hg2 : Gl X "set") (hm2 : X.mg "set" = none) (ha : PE X a ta)
    (na : starEach [a] X.env = (false, eval a X.env) :: starEach [] X.env := by rfl) : PE X (.Call (.Name "sorted" p) [.Call (.Name "set" p2) [a] [] q] [] pos) (tG W vSortSet ta) := by
  refine ⟨fun pins s σ H Q I h => ?_⟩
  refine PyProof.Rows.Call_ (ld_blt I hg hm (show bootBuiltins "sorted" = some (.builtin "sorted") by decide +kernel) ?_)
  refine PyProof.Rows.callWith_builtin1 (PyProof.Rows.args_cons ?_ rfl) rfl rfl
  refine PyProof.Rows.Call_ (ld_blt I hg2 hm2 (show bootBuiltins "set" = some (.type "set") by decide +kernel) ?_)
  refine PyProof.Rows.callWith_type1 (PyProof.Rows.args_cons (thn (ha.run pins s σ H _ I h) fun v s1 ⟨x, H1, I1, r1, q1⟩ => PyProof.Rows.args_nil ?_) na) na rfl
  obtain ⟨A, d, r, t, rd, e, q1⟩ := q1
  refine wpAny_mono (sortSet_run hc hu t I1 r1 rd e q1) (fun u s2 h2 => PyProof.Rows.args_nil h2) fun _ _ z => z
theorem se_sortSet (hu : X.A.units + 66 < cLine) (hc : X.calm = true) (hg : Gl X "sorted") (hm : X.mg "sorted" = none) (hg2 : Gl X "set") (hm2 : X.mg "set" = none) (he : SE X W E a ma)
    (na : starEach [a] X.env = (false, eval a X.env) :: starEach [] X.env := by rfl) : SE X W E (.Call (.Name "sorted" p) [.Call (.Name "set" p2) [a] [] q] [] pos) (eUn vSortSet ma) :=
  se_tG (fun _ h => pe_sortSet hc hu hg hm hg2 hm2 h na) he
theorem pe_lenSetK (hc : X.calm = true) (hg : Gl X "len") (hm : X.mg "len" = none) (hg2 : Gl X "set") (hm2 : X.mg "set" = none) (ha : PE X a ta)
    (na : starEach [a] X.env = (false, eval a X.env) :: starEach [] X.env := by rfl) : PE X (.Call (.Name "len" p) [.Call (.Name "set" p2) [a] [] q] [] pos) (tG W vLenSet ta) := by
  refine ⟨fun pins s σ H Q I h => ?_⟩
  refine PyProof.Rows.Call_ (ld_blt I hg hm (show bootBuiltins "len" = some (.builtin "len") by decide +kernel) ?_)
  refine PyProof.Rows.callWith_builtin1 (PyProof.Rows.args_cons ?_ rfl) rfl rfl
  refine PyProof.Rows.Call_ (ld_blt I hg2 hm2 (show bootBuiltins "set" = some (.type "set") by decide +kernel) ?_)
  refine PyProof.Rows.callWith_type1 (PyProof.Rows.args_cons (thn (ha.run pins s σ H _ I h) fun v s1 ⟨x, H1, I1, r1, q1⟩ => PyProof.Rows.args_nil ?_) na) na rfl
  obtain ⟨A, d, r, t, rd, e, q1⟩ := q1
  unfold vLenSet at e
  split at e
  · obtain ⟨ks, e1, e⟩ := Option.bind_eq_some_iff.mp e
    obtain ⟨⟨nd, few⟩, e⟩ := Option.ite_none_right_eq_some.mp e
    cases e
    rw [keysO_eq e1] at rd
    obtain ⟨l, vs, rfl, _, hl, rs⟩ := relD_lst_inv rd
    cases r1
    rw [relDs_kT rs] at hl
    obtain ⟨its, rv, pl, hz⟩ := I1.list (.inl hl)
    refine set_of_keys (ks := ks) (I1.ok.hd hc) pl.isList (by simpa using rv) (by omega) nd fun h' tk Sf hS hk => ?_
    refine PyProof.Rows.args_nil ?_
    obtain ⟨o, es, ep, tb, ho, hex, hd, _, _, _, hf, hn⟩ := hS
    have I2 : Inv X pins σ H1 { s1 with heap := h', toks := tk } := I1.kept (t' := tk) hk
    exact call_len_set ho hex hd hf (by rw [hn]; omega) ⟨.int ks.length, H1, I2.tok _, ⟨_, by rw [hn]⟩, q1 _ _ (Same.refl _) relD_int⟩
  · cases e
theorem se_lenSet (hc : X.calm = true) (hg : Gl X "len") (hm : X.mg "len" = none) (hg2 : Gl X "set") (hm2 : X.mg "set" = none) (he : SE X W E a ma)
    (na : starEach [a] X.env = (false, eval a X.env) :: starEach [] X.env := by rfl) : SE X W E (.Call (.Name "len" p) [.Call (.Name "set" p2) [a] [] q] [] pos) (eUn vLenSet ma) :=
  se_tG (fun _ h => pe_lenSetK hc hg hm hg2 hm2 h na) he
end
end Tr
/- Tr56 -/
/-! Tr, part 56: facts of the top: defs wherever they stand, classes, properties, slots. -/
namespace Tr
open PySem L2
open He (ga ma eqO Dv FnW)
/-- a def: where it stands, what its function object is to hold -/
structure DZ where
  ad : PySem.W.Frag → Addr
  name : Str
  st : Stmt
  qual : Str
  dfl : List Dv := []
def fnZ (K : PySem.W.Frag) (a : Addr) : FnW := match K.lookup a with
  | some ⟨_, _, .func fd, _⟩ => some (fd.name, fd.qualname, fd.params, fd.body, fd.scope, fd.globals, fd.closure, fd.builtins)
  | _ => none
def DZ.val (d : DZ) : FnW := some (d.name, d.qual, defArgs d.st, .stmts (defBody d.st), defScope d.st, mainGlobals, [], builtinsNs)
def DZ.dvs (K : PySem.W.Frag) (d : DZ) : List V := d.dfl.map (Dv.v K)
def DZ.ok (K : PySem.W.Frag) (d : DZ) : Bool := PySem.W.keepIn K (.ref (d.ad K)) && (match K.lookup (d.ad K) with
  | some ⟨_, _, .func fd, _⟩ => PySem.W.codeIn K fd.code d.qual && He.dflB K fd.defaults (d.dvs K)
  | _ => false)
theorem DZ.funD {K : PySem.W.Frag} {d : DZ} (e : fnZ K (d.ad K) = d.val) (c : d.ok K = true) : ∃ fd, FunD K d.name d.qual (defArgs d.st) (defBody d.st) (defScope d.st) (d.dvs K) [] (d.ad K) fd := by
  unfold DZ.ok at c
  obtain ⟨kp, c⟩ := Bool.and_eq_true_iff.mp c
  unfold fnZ at e
  cases q : K.lookup (d.ad K) with
  | none => rw [q] at c; cases c
  | some o =>
    obtain ⟨oc, od, dt, osl⟩ := o
    rw [q] at c e
    cases dt with
    | func fd =>
      obtain ⟨n1, n2, n3, n4, n5, n6, n7, n8, n9, n10, n11, n12, n13, n14, n15⟩ := fd
      have e2 : (some (n1, n2, n3, n4, n5, n6, n7, n15) : FnW) = some (d.name, d.qual, defArgs d.st, .stmts (defBody d.st), defScope d.st, mainGlobals, [], builtinsNs) := e
      simp only [Option.some.injEq, Prod.mk.injEq] at e2
      obtain ⟨h1, h2, h3, h4, h5, h6, h7, h8⟩ := e2
      subst h1 h2 h3 h4 h5 h6 h7 h8
      obtain ⟨k1, k2⟩ := Bool.and_eq_true_iff.mp (show (PySem.W.codeIn K n13 d.qual && He.dflB K n8 (d.dvs K)) = true from c)
      exact ⟨_, ⟨oc, od, n8, n9, n10, n11, n12, n13, n14, osl, rfl, q, k1, He.dflB_ok k2, .inl rfl⟩, kp⟩
    | _ => cases c
/-! ### classes -/
def cdB (x : Str) (sl : Bool) (K : PySem.W.Frag) : Bool := PySem.W.plainGet K (ga K x) Str.empty && (PySem.W.isClsIn K (ga K x) && (PySem.W.plainOver K (ga K x) && (eqO (PySem.W.findIn K (.ref (ga K x)) "__setattr__") (some (some (.builtin "object.__setattr__"))) && (sl || PySem.W.hasDictIn K (ga K x)))))
theorem cdB_ok {K : PySem.W.Frag} {W : Wd} {c : Nat} {x : Str} {sl : Bool} (h : cdB x sl K = true) (ea : W.Ca c = ga K x) (es : W.sl c = sl) : CD K W c := by
  unfold cdB at h
  simp only [Bool.and_eq_true] at h
  obtain ⟨h1, h2, h3, h4, h5⟩ := h
  refine ⟨by rw [ea]; exact h1, by rw [ea]; exact h2, by rw [ea]; exact h3, by rw [ea]; exact He.eqO_ok h4, fun e => ?_⟩
  rw [es] at e
  subst e
  rw [ea]
  simpa using h5
def pgA (K : PySem.W.Frag) (C f : Str) : Addr := match PySem.W.recIn K (ma K (ga K C) f) "property" with
  | some (.ref g :: _) => g
  | _ => 0
def ppB (C f : Str) (K : PySem.W.Frag) : Bool := eqO (PySem.W.findIn K (.ref (ga K C)) f) (some (some (.ref (ma K (ga K C) f)))) && (eqO (PySem.W.specialIn K (.ref (ma K (ga K C) f)) "__get__") (some (some (.builtin "property.__get__"))) &&
  (decide (PySem.W.takesIn K (.ref (ma K (ga K C) f)) = some true) && (match PySem.W.recIn K (ma K (ga K C) f) "property" with
    | some (.ref _ :: _) => true
    | _ => false)))
theorem ppB_ok {K : PySem.W.Frag} {C f : Str} (h : ppB C f K = true) : PropOf K (ga K C) f (ma K (ga K C) f) (pgA K C f) := by
  unfold ppB at h
  simp only [Bool.and_eq_true] at h
  obtain ⟨h1, h2, h3, h4⟩ := h
  refine ⟨He.eqO_ok h1, He.eqO_ok h2, of_decide_eq_true h3, ?_⟩
  unfold pgA
  split at h4
  · rename_i g rest e
    rw [e]
    exact ⟨rest, rfl⟩
  · cases h4
def slB (C f : Str) (i : Nat) (K : PySem.W.Frag) : Bool := eqO (PySem.W.findIn K (.ref (ga K C)) f) (some (some (.ref (ma K (ga K C) f)))) && (eqO (PySem.W.specialIn K (.ref (ma K (ga K C) f)) "__get__") (some (some (.builtin "member_descriptor.__get__"))) &&
  (decide (PySem.W.takesIn K (.ref (ma K (ga K C) f)) = some true) && (decide (PySem.W.typeIn K (.ref (ma K (ga K C) f)) = some (.type "member_descriptor")) && decide (PySem.W.slotIn K (ma K (ga K C) f) (ga K C) = some i))))
theorem slB_ok {K : PySem.W.Frag} {C f : Str} {i : Nat} (h : slB C f i K = true) (hi : i < 1000) : SlX.Slot1 K (ga K C) f (ma K (ga K C) f) i := by
  unfold slB at h
  simp only [Bool.and_eq_true] at h
  obtain ⟨h1, h2, h3, h4, h5⟩ := h
  exact ⟨He.eqO_ok h1, He.eqO_ok h2, of_decide_eq_true h3, of_decide_eq_true h4, of_decide_eq_true h5, hi⟩
def fnB (C m : Str) (K : PySem.W.Frag) : Bool := (He.Fa.meth C m).ok K && PySem.W.fnIn K (ma K (ga K C) m)
theorem fnB_ok {K : PySem.W.Frag} {C m : Str} (h : fnB C m K = true) : Meth K (ga K C) m (ma K (ga K C) m) ∧ PySem.W.fnIn K (ma K (ga K C) m) = true := by
  obtain ⟨h1, h2⟩ := Bool.and_eq_true_iff.mp h
  exact ⟨He.meth_ok h1, h2⟩
/-- no list stands in the fragment -/
def noLst (K : PySem.W.Frag) : Bool := K.all fun p => match p.2.cls with
  | .type c => !(c == "list")
  | _ => true
theorem lookup_in : ∀ {K : PySem.W.Frag} {a : Addr} {o : Obj}, K.lookup a = some o → ∃ p ∈ K, p.2 = o
  | [], _, _, h => by cases h
  | (b, u) :: K, a, o, h => by
    unfold List.lookup at h
    split at h
    · cases h; exact ⟨_, List.mem_cons_self, rfl⟩
    · obtain ⟨p, m, e⟩ := lookup_in h
      exact ⟨p, List.mem_cons_of_mem _ m, e⟩
theorem noLst_ok {K : PySem.W.Frag} (h : noLst K = true) : ∀ b ob, K.lookup b = some ob → ob.cls ≠ .type "list" := fun b ob q e => by
  obtain ⟨p, m, rfl⟩ := lookup_in q
  have := List.all_eq_true.mp h p m
  rw [e] at this
  cases this
/-! ### the hook -/
/-- what an object names, so far as it is asked for: in a dict the keys of xs alone -/
def refsZ (xs : List Str) (o : Obj) : List Addr := match o.data with
  | .dict es _ => es.toList.flatMap fun e => match e.key with
    | .str x _ => (match xs.contains x with
      | true => He.refV e.val
      | false => [])
    | _ => []
  | .func fd => He.refV fd.code ++ He.refV fd.defaults
  | .cls cd => [cd.ns]
  | .fields vs => vs.toList.flatMap He.refV
  | _ => []
def growZ (xs : List Str) (g : Addr → Option Obj) (as : List Addr) : List Addr := as.flatMap fun a => match g a with
  | some o => refsZ xs o
  | none => []
/-- globals; the names xs of them; class dicts; the names ys of these; what stands behind -/
def asZ (xs ys : List Str) (g : Addr → Option Obj) : List Addr :=
  let a1 := growZ xs g [mainGlobals]
  let a2 := growZ [] g a1
  let a3 := growZ ys g a2
  let a4 := growZ [] g a3
  let a5 := growZ [] g a4
  mainGlobals :: (a1 ++ (a2 ++ (a3 ++ (a4 ++ a5))))
abbrev AlZ : Type := Bool × List FnW
def obsK (ex : List (PySem.W.Frag → Bool)) (fn : List DZ) (K : PySem.W.Frag) : AlZ := ((ex.all fun f => f K) && fn.all fun d => d.ok K, fn.map fun d => fnZ K (d.ad K))
def SaysZ (ex : List (PySem.W.Frag → Bool)) (fn : List DZ) (K : PySem.W.Frag) : Prop := obsK ex fn K = (true, fn.map DZ.val)
def obsZ (xs ys : List Str) (ex : List (PySem.W.Frag → Bool)) (fn : List DZ) (g : Addr → Option Obj) : AlZ := obsK ex fn (He.frG g (asZ xs ys g))
def hookZ (xs ys : List Str) (ex : List (PySem.W.Frag → Bool)) (fn : List DZ) : PySem.W.Hook where
  α := AlZ
  obs := fun s => obsZ xs ys ex fn s.heap.get?
  val := fun _ => (true, fn.map DZ.val)
  says := fun _ h => ∃ K : PySem.W.Frag, K.In h ∧ SaysZ ex fn K
  of := fun _ _ e => ⟨_, He.frG_in, e⟩
  keeps := fun _ _ _ ⟨K, hK, c⟩ k => ⟨K, PySem.W.Frag.In.keeps hK k, c⟩
theorem obsZ_eq {xs ys : List Str} {ex : List (PySem.W.Frag → Bool)} {fn : List DZ} {g : Addr → Option Obj} {s : Shared} (h : ∀ a, g a = s.heap.get? a) : obsZ xs ys ex fn g = (hookZ xs ys ex fn).obs s := by
  have e : g = s.heap.get? := funext h
  rw [e]
  rfl
section
variable {ex : List (PySem.W.Frag → Bool)} {fn : List DZ} {K : PySem.W.Frag}
theorem SaysZ.fact (c : SaysZ ex fn K) (i : Nat) {f : PySem.W.Frag → Bool} (h : ex[i]? = some f := by rfl) : f K = true := by
  have c1 := (Bool.and_eq_true_iff.mp (show ((ex.all fun f => f K) && fn.all fun d => d.ok K) = true from congrArg (fun z : AlZ => z.1) c)).1
  exact List.all_eq_true.mp c1 f (List.mem_of_getElem? h)
theorem SaysZ.def_ (c : SaysZ ex fn K) (i : Nat) {d : DZ} (h : fn[i]? = some d := by rfl) : ∃ fd, FunD K d.name d.qual (defArgs d.st) (defBody d.st) (defScope d.st) (d.dvs K) [] (d.ad K) fd := by
  have c2 := (Bool.and_eq_true_iff.mp (show ((ex.all fun f => f K) && fn.all fun d => d.ok K) = true from congrArg (fun z : AlZ => z.1) c)).2
  have e : fn.map (fun d => fnZ K (d.ad K)) = fn.map DZ.val := congrArg (fun z : AlZ => z.2) c
  have e2 : (fn.map fun d => fnZ K (d.ad K))[i]? = (fn.map DZ.val)[i]? := by rw [e]
  rw [List.getElem?_map, List.getElem?_map, h] at e2
  exact DZ.funD (Option.some.inj e2) (List.all_eq_true.mp c2 d (List.mem_of_getElem? h))
end
end Tr
/- G1 -/
/-! The defs of the law's text: mirrors, derivations (printed by gen.py). -/
namespace G
open PySem L2 Tr
def top (i : Nat) : Stmt := PySem.Challenge.pw_lastcame_k52_what_is_put_to_seen.main.body.getD i (.Pass ⟨0, 0, 0, 0⟩)
def bodyOf (s : Stmt) : List Stmt := match s with
  | .ClassDef (body := b) .. => b
  | _ => []
def mth (i j : Nat) : Stmt := (bodyOf (top i)).getD j (.Pass ⟨0, 0, 0, 0⟩)
structure Txt (K : PySem.W.Frag) (mg : Str → Option Value) (W : Wd) : Prop where
  b_list : mg "list" = none
  b_max : mg "max" = none
  b_min : mg "min" = none
  b_len : mg "len" = none
  b_range : mg "range" = none
  b_int : mg "int" = none
  b_abs : mg "abs" = none
  b_all : mg "all" = none
  b_tuple : mg "tuple" = none
  b_sorted : mg "sorted" = none
  b_isinstance : mg "isinstance" = none
  b_str : mg "str" = none
  b_bool : mg "bool" = none
  b_zip : mg "zip" = none
  b_enumerate : mg "enumerate" = none
  b_any : mg "any" = none
  b_set : mg "set" = none
  b_repr : mg "repr" = none
  c_LAST_MINUTE : ∃ t, mg "LAST_MINUTE" = some (.int 2999 t)
  c_MOST_LOOKS : ∃ t, mg "MOST_LOOKS" = some (.int 60 t)
  c_PAIR : ∃ t, mg "PAIR" = some (.int 2 t)
  c_TRIPLE : ∃ t, mg "TRIPLE" = some (.int 3 t)
  c_MOST_STOPS : ∃ t, mg "MOST_STOPS" = some (.int 8 t)
  c_MOST_LETTERS : ∃ t, mg "MOST_LETTERS" = some (.int 8 t)
  c_LINE_WORDS : ∃ t, mg "LINE_WORDS" = some (.int 6 t)
  c_MOST_LINES : ∃ t, mg "MOST_LINES" = some (.int 6 t)
  c_MOST_FIGURES : ∃ t, mg "MOST_FIGURES" = some (.int 18 t)
  c_MOST_GAP : ∃ t, mg "MOST_GAP" = some (.int 60 t)
  c_MOST_RIDE : ∃ t, mg "MOST_RIDE" = some (.int 120 t)
  c_FIRST_RIDE : ∃ t, mg "FIRST_RIDE" = some (.int 6 t)
  c_CAME : ∃ t, mg "CAME" = some (.str "came" t)
  c_NONE : ∃ t, mg "NONE" = some (.str "none" t)
  c_BLANK : ∃ t, mg "BLANK" = some (.str " " t)
  c_COMMA : ∃ t, mg "COMMA" = some (.str "," t)
  c_DASH : ∃ t, mg "DASH" = some (.str "-" t)
  c_FEED : ∃ t, mg "FEED" = some (.str "\n" t)
  c_STOPS : ∃ t, mg "STOPS" = some (.str "stops" t)
  c_LETTERS : ∃ t, mg "LETTERS" = some (.str "abcdefghijklmnopqrstuvwxyz" t)
  c_WAY : ∃ t, mg "WAY" = some (.str "way" t)
  c_LINE : ∃ t, mg "LINE" = some (.str "line" t)
  c_TO : ∃ t, mg "TO" = some (.str "to" t)
  c_FIGURES : ∃ t, mg "FIGURES" = some (.str "0123456789" t)
  c_NOUGHT : ∃ t, mg "NOUGHT" = some (.str "0" t)
  c_STAY : ∃ t, mg "STAY" = some (.str "stay" t)
  fd_Net_own_stops : FD K W 7 1 "own_stops"
  fd_Seen_own_net : FD K W 2 0 "own_net"
  fd_Net_own_lines : FD K W 7 3 "own_lines"
  fd_Book_own_gaps : FD K W 1 0 "own_gaps"
  fd_Book_own_looks : FD K W 1 1 "own_looks"
  fd_Seen_own_looks : FD K W 2 1 "own_looks"
  fd_Track_own_masks : FD K W 0 2 "own_masks"
  fd_Track_own_begin : FD K W 0 1 "own_begin"
  fd_Track_own_gaps : FD K W 0 0 "own_gaps"
  fd_Gaps_own_most : FD K W 5 1 "own_most"
  fd_Gaps_own_least : FD K W 5 0 "own_least"
  fd_Day_own_begun : FD K W 4 0 "own_begun"
  fd_Day_own_past : FD K W 4 3 "own_past"
  fd_Moment_line : FD K W 3 1 "line"
  fd_Moment_known : FD K W 3 0 "known"
  fd_Moment_place : FD K W 3 3 "place"
  fd_Moment_now : FD K W 3 2 "now"
  fd_Day_own_later : FD K W 4 2 "own_later"
  fd_Day_own_block : FD K W 4 1 "own_block"
  fd_Draft_own_stops : FD K W 6 0 "own_stops"
  fd_Draft_own_ways : FD K W 6 1 "own_ways"
  fd_Draft_own_lines : FD K W 6 2 "own_lines"
  fd_Net_own_text : FD K W 7 0 "own_text"
  fd_Net_own_ways : FD K W 7 2 "own_ways"
  cd_Track : CD K W 0
  sl_Track : W.sl 0 = false
  an_Track : W.an 0 = (["own_gaps", "own_begin", "own_masks"] : List Str)
  cd_Book : CD K W 1
  sl_Book : W.sl 1 = false
  an_Book : W.an 1 = (["own_gaps", "own_looks"] : List Str)
  cd_Seen : CD K W 2
  sl_Seen : W.sl 2 = false
  an_Seen : W.an 2 = (["own_net", "own_looks"] : List Str)
  cd_Moment : CD K W 3
  sl_Moment : W.sl 3 = true
  an_Moment : W.an 3 = ([] : List Str)
  cd_Day : CD K W 4
  sl_Day : W.sl 4 = true
  an_Day : W.an 4 = ([] : List Str)
  cd_Gaps : CD K W 5
  sl_Gaps : W.sl 5 = false
  an_Gaps : W.an 5 = (["own_least", "own_most"] : List Str)
  cd_Draft : CD K W 6
  sl_Draft : W.sl 6 = false
  an_Draft : W.an 6 = (["own_stops", "own_ways", "own_lines"] : List Str)
  cd_Net : CD K W 7
  sl_Net : W.sl 7 = false
  an_Net : W.an 7 = (["own_text", "own_stops", "own_ways", "own_lines"] : List Str)
  F_law_cells : ∃ (fa : Addr) (fd : FuncData) (dvs : List V), mg "_law_cells" = some (.ref fa) ∧ FunD K "_law_cells" "_law_cells" (defArgs (top 109)) (defBody (top 109)) (defScope (top 109)) dvs [] fa fd ∧ dvs.length = 0
  F_law_pot : ∃ (fa : Addr) (fd : FuncData) (dvs : List V), mg "_law_pot" = some (.ref fa) ∧ FunD K "_law_pot" "_law_pot" (defArgs (top 105)) (defBody (top 105)) (defScope (top 105)) dvs [] fa fd ∧ dvs.length = 0
  F_law_take : ∃ (fa : Addr) (fd : FuncData) (dvs : List V), mg "_law_take" = some (.ref fa) ∧ FunD K "_law_take" "_law_take" (defArgs (top 106)) (defBody (top 106)) (defScope (top 106)) dvs [] fa fd ∧ dvs.length = 0
  F_law_some : ∃ (fa : Addr) (fd : FuncData) (dvs : List V), mg "_law_some" = some (.ref fa) ∧ FunD K "_law_some" "_law_some" (defArgs (top 108)) (defBody (top 108)) (defScope (top 108)) dvs [] fa fd ∧ dvs.length = 0
  F_law_stop_names : ∃ (fa : Addr) (fd : FuncData) (dvs : List V), mg "_law_stop_names" = some (.ref fa) ∧ FunD K "_law_stop_names" "_law_stop_names" (defArgs (top 110)) (defBody (top 110)) (defScope (top 110)) dvs [] fa fd ∧ dvs.length = 0
  F_law_line_names : ∃ (fa : Addr) (fd : FuncData) (dvs : List V), mg "_law_line_names" = some (.ref fa) ∧ FunD K "_law_line_names" "_law_line_names" (defArgs (top 111)) (defBody (top 111)) (defScope (top 111)) dvs [] fa fd ∧ dvs.length = 0
  F_law_of : ∃ (fa : Addr) (fd : FuncData) (dvs : List V), mg "_law_of" = some (.ref fa) ∧ FunD K "_law_of" "_law_of" (defArgs (top 107)) (defBody (top 107)) (defScope (top 107)) dvs [] fa fd ∧ dvs.length = 0
  F_Net_check_stop : ∃ (fa : Addr) (fd : FuncData) (kws : List (Str × V)), Meth K (W.Ca 7) "check_stop" fa ∧ PySem.W.fnIn K fa = true ∧ FunD K "check_stop" "Net.check_stop" (defArgs (mth 103 4)) (defBody (mth 103 4)) (defScope (mth 103 4)) [] kws fa fd
  F_Seen_net : ∃ (pa fa : Addr) (fd : FuncData), PropOf K (W.Ca 2) "net" pa fa ∧ FunD K "net" "Seen.net" (defArgs (mth 74 1)) (defBody (mth 74 1)) (defScope (mth 74 1)) [] [] fa fd
  F_is_integer : ∃ (fa : Addr) (fd : FuncData) (dvs : List V), mg "is_integer" = some (.ref fa) ∧ FunD K "is_integer" "is_integer" (defArgs (top 32)) (defBody (top 32)) (defScope (top 32)) dvs [] fa fd ∧ dvs.length = 2
  F_is_minute : ∃ (fa : Addr) (fd : FuncData) (dvs : List V), mg "is_minute" = some (.ref fa) ∧ FunD K "is_minute" "is_minute" (defArgs (top 42)) (defBody (top 42)) (defScope (top 42)) dvs [] fa fd ∧ dvs.length = 0
  F_check_minute : ∃ (fa : Addr) (fd : FuncData) (dvs : List V), mg "check_minute" = some (.ref fa) ∧ FunD K "check_minute" "check_minute" (defArgs (top 63)) (defBody (top 63)) (defScope (top 63)) dvs [] fa fd ∧ dvs.length = 0
  F_check_start : ∃ (fa : Addr) (fd : FuncData) (dvs : List V), mg "check_start" = some (.ref fa) ∧ FunD K "check_start" "check_start" (defArgs (top 67)) (defBody (top 67)) (defScope (top 67)) dvs [] fa fd ∧ dvs.length = 0
  F_Net_lines : ∃ (pa fa : Addr) (fd : FuncData), PropOf K (W.Ca 7) "lines" pa fa ∧ FunD K "lines" "Net.lines" (defArgs (mth 103 3)) (defBody (mth 103 3)) (defScope (mth 103 3)) [] [] fa fd
  F_Net_contains : ∃ (fa : Addr) (fd : FuncData) (kws : List (Str × V)), Meth K (W.Ca 7) "__contains__" fa ∧ PySem.W.fnIn K fa = true ∧ FunD K "__contains__" "Net.__contains__" (defArgs (mth 103 12)) (defBody (mth 103 12)) (defScope (mth 103 12)) [] kws fa fd
  F_Net_check_line : ∃ (fa : Addr) (fd : FuncData) (kws : List (Str × V)), Meth K (W.Ca 7) "check_line" fa ∧ PySem.W.fnIn K fa = true ∧ FunD K "check_line" "Net.check_line" (defArgs (mth 103 5)) (defBody (mth 103 5)) (defScope (mth 103 5)) [] kws fa fd
  F_Net_getitem : ∃ (fa : Addr) (fd : FuncData) (kws : List (Str × V)), Meth K (W.Ca 7) "__getitem__" fa ∧ PySem.W.fnIn K fa = true ∧ FunD K "__getitem__" "Net.__getitem__" (defArgs (mth 103 10)) (defBody (mth 103 10)) (defScope (mth 103 10)) [] kws fa fd
  F_is_tuple : ∃ (fa : Addr) (fd : FuncData) (dvs : List V), mg "is_tuple" = some (.ref fa) ∧ FunD K "is_tuple" "is_tuple" (defArgs (top 33)) (defBody (top 33)) (defScope (top 33)) dvs [] fa fd ∧ dvs.length = 0
  F_are_ends : ∃ (fa : Addr) (fd : FuncData) (dvs : List V), mg "are_ends" = some (.ref fa) ∧ FunD K "are_ends" "are_ends" (defArgs (top 43)) (defBody (top 43)) (defScope (top 43)) dvs [] fa fd ∧ dvs.length = 0
  F_is_look : ∃ (fa : Addr) (fd : FuncData) (dvs : List V), mg "is_look" = some (.ref fa) ∧ FunD K "is_look" "is_look" (defArgs (top 44)) (defBody (top 44)) (defScope (top 44)) dvs [] fa fd ∧ dvs.length = 0
  F_do_rise : ∃ (fa : Addr) (fd : FuncData) (dvs : List V), mg "do_rise" = some (.ref fa) ∧ FunD K "do_rise" "do_rise" (defArgs (top 35)) (defBody (top 35)) (defScope (top 35)) dvs [] fa fd ∧ dvs.length = 0
  F_are_looks : ∃ (fa : Addr) (fd : FuncData) (dvs : List V), mg "are_looks" = some (.ref fa) ∧ FunD K "are_looks" "are_looks" (defArgs (top 58)) (defBody (top 58)) (defScope (top 58)) dvs [] fa fd ∧ dvs.length = 0
  F_Book_init : ∃ (fa : Addr) (fd : FuncData) (dvs : List V) (kws : List (Str × V)), mg "Book" = some (.ref (W.Ca 1)) ∧ Mk K (W.Ca 1) fa ∧ FunD K "__init__" "Book.__init__" (defArgs (mth 61 0)) (defBody (mth 61 0)) (defScope (mth 61 0)) dvs kws fa fd ∧ dvs.length = 1
  F_looks_at : ∃ (fa : Addr) (fd : FuncData) (dvs : List V), mg "looks_at" = some (.ref fa) ∧ FunD K "looks_at" "looks_at" (defArgs (top 73)) (defBody (top 73)) (defScope (top 73)) dvs [] fa fd ∧ dvs.length = 0
  F_Seen_getitem : ∃ (fa : Addr) (fd : FuncData) (kws : List (Str × V)), Meth K (W.Ca 2) "__getitem__" fa ∧ PySem.W.fnIn K fa = true ∧ FunD K "__getitem__" "Seen.__getitem__" (defArgs (mth 74 6)) (defBody (mth 74 6)) (defScope (mth 74 6)) [] kws fa fd
  F_Track_first_void : ∃ (fa : Addr) (fd : FuncData) (kws : List (Str × V)), Meth K (W.Ca 0) "first_void" fa ∧ PySem.W.fnIn K fa = true ∧ FunD K "first_void" "Track.first_void" (defArgs (mth 54 3)) (defBody (mth 54 3)) (defScope (mth 54 3)) [] kws fa fd
  F_cars_in : ∃ (fa : Addr) (fd : FuncData) (dvs : List V), mg "cars_in" = some (.ref fa) ∧ FunD K "cars_in" "cars_in" (defArgs (top 48)) (defBody (top 48)) (defScope (top 48)) dvs [] fa fd ∧ dvs.length = 0
  F_empty_in : ∃ (fa : Addr) (fd : FuncData) (dvs : List V), mg "empty_in" = some (.ref fa) ∧ FunD K "empty_in" "empty_in" (defArgs (top 49)) (defBody (top 49)) (defScope (top 49)) dvs [] fa fd ∧ dvs.length = 0
  F_Gaps_most : ∃ (pa fa : Addr) (fd : FuncData), PropOf K (W.Ca 5) "most" pa fa ∧ FunD K "most" "Gaps.most" (defArgs (mth 86 2)) (defBody (mth 86 2)) (defScope (mth 86 2)) [] [] fa fd
  F_all_ages : ∃ (fa : Addr) (fd : FuncData) (dvs : List V), mg "all_ages" = some (.ref fa) ∧ FunD K "all_ages" "all_ages" (defArgs (top 50)) (defBody (top 50)) (defScope (top 50)) dvs [] fa fd ∧ dvs.length = 0
  F_Gaps_least : ∃ (pa fa : Addr) (fd : FuncData), PropOf K (W.Ca 5) "least" pa fa ∧ FunD K "least" "Gaps.least" (defArgs (mth 86 1)) (defBody (mth 86 1)) (defScope (mth 86 1)) [] [] fa fd
  F_due_ages : ∃ (fa : Addr) (fd : FuncData) (dvs : List V), mg "due_ages" = some (.ref fa) ∧ FunD K "due_ages" "due_ages" (defArgs (top 51)) (defBody (top 51)) (defScope (top 51)) dvs [] fa fd ∧ dvs.length = 0
  F_masks_from : ∃ (fa : Addr) (fd : FuncData) (dvs : List V), mg "masks_from" = some (.ref fa) ∧ FunD K "masks_from" "masks_from" (defArgs (top 53)) (defBody (top 53)) (defScope (top 53)) dvs [] fa fd ∧ dvs.length = 0
  F_Track_init : ∃ (fa : Addr) (fd : FuncData) (dvs : List V) (kws : List (Str × V)), mg "Track" = some (.ref (W.Ca 0)) ∧ Mk K (W.Ca 0) fa ∧ FunD K "__init__" "Track.__init__" (defArgs (mth 54 0)) (defBody (mth 54 0)) (defScope (mth 54 0)) dvs kws fa fd ∧ dvs.length = 0
  F_first_looked : ∃ (fa : Addr) (fd : FuncData) (dvs : List V), mg "first_looked" = some (.ref fa) ∧ FunD K "first_looked" "first_looked" (defArgs (top 46)) (defBody (top 46)) (defScope (top 46)) dvs [] fa fd ∧ dvs.length = 0
  F_last_looked : ∃ (fa : Addr) (fd : FuncData) (dvs : List V), mg "last_looked" = some (.ref fa) ∧ FunD K "last_looked" "last_looked" (defArgs (top 47)) (defBody (top 47)) (defScope (top 47)) dvs [] fa fd ∧ dvs.length = 0
  F_is_possible : ∃ (fa : Addr) (fd : FuncData) (dvs : List V), mg "is_possible" = some (.ref fa) ∧ FunD K "is_possible" "is_possible" (defArgs (top 55)) (defBody (top 55)) (defScope (top 55)) dvs [] fa fd ∧ dvs.length = 0
  F_Book_gaps : ∃ (pa fa : Addr) (fd : FuncData), PropOf K (W.Ca 1) "gaps" pa fa ∧ FunD K "gaps" "Book.gaps" (defArgs (mth 61 1)) (defBody (mth 61 1)) (defScope (mth 61 1)) [] [] fa fd
  F_Book_looks : ∃ (pa fa : Addr) (fd : FuncData), PropOf K (W.Ca 1) "looks" pa fa ∧ FunD K "looks" "Book.looks" (defArgs (mth 61 2)) (defBody (mth 61 2)) (defScope (mth 61 2)) [] [] fa fd
  F_Seen_check_lines : ∃ (fa : Addr) (fd : FuncData) (kws : List (Str × V)), Meth K (W.Ca 2) "check_lines" fa ∧ PySem.W.fnIn K fa = true ∧ FunD K "check_lines" "Seen.check_lines" (defArgs (mth 74 5)) (defBody (mth 74 5)) (defScope (mth 74 5)) [] kws fa fd
  F_check_late : ∃ (fa : Addr) (fd : FuncData) (dvs : List V), mg "check_late" = some (.ref fa) ∧ FunD K "check_late" "check_late" (defArgs (top 70)) (defBody (top 70)) (defScope (top 70)) dvs [] fa fd ∧ dvs.length = 0
  F_Net_leaving : ∃ (fa : Addr) (fd : FuncData) (kws : List (Str × V)), Meth K (W.Ca 7) "leaving" fa ∧ PySem.W.fnIn K fa = true ∧ FunD K "leaving" "Net.leaving" (defArgs (mth 103 7)) (defBody (mth 103 7)) (defScope (mth 103 7)) [] kws fa fd
  F_check_cars : ∃ (fa : Addr) (fd : FuncData) (dvs : List V), mg "check_cars" = some (.ref fa) ∧ FunD K "check_cars" "check_cars" (defArgs (top 76)) (defBody (top 76)) (defScope (top 76)) dvs [] fa fd ∧ dvs.length = 0
  F_up_to : ∃ (fa : Addr) (fd : FuncData) (dvs : List V), mg "up_to" = some (.ref fa) ∧ FunD K "up_to" "up_to" (defArgs (top 59)) (defBody (top 59)) (defScope (top 59)) dvs [] fa fd ∧ dvs.length = 0
  F_ages_in : ∃ (fa : Addr) (fd : FuncData) (dvs : List V), mg "ages_in" = some (.ref fa) ∧ FunD K "ages_in" "ages_in" (defArgs (top 52)) (defBody (top 52)) (defScope (top 52)) dvs [] fa fd ∧ dvs.length = 0
  F_Track_mask_at : ∃ (fa : Addr) (fd : FuncData) (kws : List (Str × V)), Meth K (W.Ca 0) "mask_at" fa ∧ PySem.W.fnIn K fa = true ∧ FunD K "mask_at" "Track.mask_at" (defArgs (mth 54 2)) (defBody (mth 54 2)) (defScope (mth 54 2)) [] kws fa fd
  F_Book_ages : ∃ (fa : Addr) (fd : FuncData) (kws : List (Str × V)), Meth K (W.Ca 1) "ages" fa ∧ PySem.W.fnIn K fa = true ∧ FunD K "ages" "Book.ages" (defArgs (mth 61 3)) (defBody (mth 61 3)) (defScope (mth 61 3)) [] kws fa fd
  F_can_be : ∃ (fa : Addr) (fd : FuncData) (dvs : List V), mg "can_be" = some (.ref fa) ∧ FunD K "can_be" "can_be" (defArgs (top 77)) (defBody (top 77)) (defScope (top 77)) dvs [] fa fd ∧ dvs.length = 0
  F_Seen_looks : ∃ (pa fa : Addr) (fd : FuncData), PropOf K (W.Ca 2) "looks" pa fa ∧ FunD K "looks" "Seen.looks" (defArgs (mth 74 2)) (defBody (mth 74 2)) (defScope (mth 74 2)) [] [] fa fd
  F_is_told : ∃ (fa : Addr) (fd : FuncData) (dvs : List V), mg "is_told" = some (.ref fa) ∧ FunD K "is_told" "is_told" (defArgs (top 78)) (defBody (top 78)) (defScope (top 78)) dvs [] fa fd ∧ dvs.length = 0
  F_put_to : ∃ (fa : Addr) (fd : FuncData) (dvs : List V), mg "put_to" = some (.ref fa) ∧ FunD K "put_to" "put_to" (defArgs (top 79)) (defBody (top 79)) (defScope (top 79)) dvs [] fa fd ∧ dvs.length = 0
  F_is_pair : ∃ (fa : Addr) (fd : FuncData) (dvs : List V), mg "is_pair" = some (.ref fa) ∧ FunD K "is_pair" "is_pair" (defArgs (top 72)) (defBody (top 72)) (defScope (top 72)) dvs [] fa fd ∧ dvs.length = 0
  F_Seen_init : ∃ (fa : Addr) (fd : FuncData) (dvs : List V) (kws : List (Str × V)), mg "Seen" = some (.ref (W.Ca 2)) ∧ Mk K (W.Ca 2) fa ∧ FunD K "__init__" "Seen.__init__" (defArgs (mth 74 0)) (defBody (mth 74 0)) (defScope (mth 74 0)) dvs kws fa fd ∧ dvs.length = 1
  F_looked : ∃ (fa : Addr) (fd : FuncData) (dvs : List V), mg "looked" = some (.ref fa) ∧ FunD K "looked" "looked" (defArgs (top 80)) (defBody (top 80)) (defScope (top 80)) dvs [] fa fd ∧ dvs.length = 0
  F_cars_text : ∃ (fa : Addr) (fd : FuncData) (dvs : List V), mg "cars_text" = some (.ref fa) ∧ FunD K "cars_text" "cars_text" (defArgs (top 81)) (defBody (top 81)) (defScope (top 81)) dvs [] fa fd ∧ dvs.length = 0
  F_Moment_init : ∃ (fa : Addr) (fd : FuncData) (dvs : List V) (kws : List (Str × V)), mg "Moment" = some (.ref (W.Ca 3)) ∧ Mk K (W.Ca 3) fa ∧ FunD K "__init__" "Moment.__init__" (defArgs (mth 82 1)) (defBody (mth 82 1)) (defScope (mth 82 1)) dvs kws fa fd ∧ dvs.length = 0
  F_Day_init : ∃ (fa : Addr) (fd : FuncData) (dvs : List V) (kws : List (Str × V)), mg "Day" = some (.ref (W.Ca 4)) ∧ Mk K (W.Ca 4) fa ∧ FunD K "__init__" "Day.__init__" (defArgs (mth 83 1)) (defBody (mth 83 1)) (defScope (mth 83 1)) dvs kws fa fd ∧ dvs.length = 0
  F_is_name : ∃ (fa : Addr) (fd : FuncData) (dvs : List V), mg "is_name" = some (.ref fa) ∧ FunD K "is_name" "is_name" (defArgs (top 34)) (defBody (top 34)) (defScope (top 34)) dvs [] fa fd ∧ dvs.length = 0
  F_stops_in : ∃ (fa : Addr) (fd : FuncData) (dvs : List V), mg "stops_in" = some (.ref fa) ∧ FunD K "stops_in" "stops_in" (defArgs (top 99)) (defBody (top 99)) (defScope (top 99)) dvs [] fa fd ∧ dvs.length = 0
  F_Draft_init : ∃ (fa : Addr) (fd : FuncData) (dvs : List V) (kws : List (Str × V)), mg "Draft" = some (.ref (W.Ca 6)) ∧ Mk K (W.Ca 6) fa ∧ FunD K "__init__" "Draft.__init__" (defArgs (mth 101 0)) (defBody (mth 101 0)) (defScope (mth 101 0)) dvs kws fa fd ∧ dvs.length = 0
  F_number_in : ∃ (fa : Addr) (fd : FuncData) (dvs : List V), mg "number_in" = some (.ref fa) ∧ FunD K "number_in" "number_in" (defArgs (top 36)) (defBody (top 36)) (defScope (top 36)) dvs [] fa fd ∧ dvs.length = 0
  F_rides_in : ∃ (fa : Addr) (fd : FuncData) (dvs : List V), mg "rides_in" = some (.ref fa) ∧ FunD K "rides_in" "rides_in" (defArgs (top 100)) (defBody (top 100)) (defScope (top 100)) dvs [] fa fd ∧ dvs.length = 0
  F_Gaps_init : ∃ (fa : Addr) (fd : FuncData) (dvs : List V) (kws : List (Str × V)), mg "Gaps" = some (.ref (W.Ca 5)) ∧ Mk K (W.Ca 5) fa ∧ FunD K "__init__" "Gaps.__init__" (defArgs (mth 86 0)) (defBody (mth 86 0)) (defScope (mth 86 0)) dvs kws fa fd ∧ dvs.length = 0
  F_Draft_take_line : ∃ (fa : Addr) (fd : FuncData) (kws : List (Str × V)), Meth K (W.Ca 6) "take_line" fa ∧ PySem.W.fnIn K fa = true ∧ FunD K "take_line" "Draft.take_line" (defArgs (mth 101 2)) (defBody (mth 101 2)) (defScope (mth 101 2)) [] kws fa fd
  F_Draft_take : ∃ (fa : Addr) (fd : FuncData) (kws : List (Str × V)), Meth K (W.Ca 6) "take" fa ∧ PySem.W.fnIn K fa = true ∧ FunD K "take" "Draft.take" (defArgs (mth 101 3)) (defBody (mth 101 3)) (defScope (mth 101 3)) [] kws fa fd
  F_draft_in : ∃ (fa : Addr) (fd : FuncData) (dvs : List V), mg "draft_in" = some (.ref fa) ∧ FunD K "draft_in" "draft_in" (defArgs (top 102)) (defBody (top 102)) (defScope (top 102)) dvs [] fa fd ∧ dvs.length = 0
  F_Net_init : ∃ (fa : Addr) (fd : FuncData) (dvs : List V) (kws : List (Str × V)), mg "Net" = some (.ref (W.Ca 7)) ∧ Mk K (W.Ca 7) fa ∧ FunD K "__init__" "Net.__init__" (defArgs (mth 103 0)) (defBody (mth 103 0)) (defScope (mth 103 0)) dvs kws fa fd ∧ dvs.length = 0
  F_law_line_text : ∃ (fa : Addr) (fd : FuncData) (dvs : List V), mg "_law_line_text" = some (.ref fa) ∧ FunD K "_law_line_text" "_law_line_text" (defArgs (top 112)) (defBody (top 112)) (defScope (top 112)) dvs [] fa fd ∧ dvs.length = 0
  F_law_net_text : ∃ (fa : Addr) (fd : FuncData) (dvs : List V), mg "_law_net_text" = some (.ref fa) ∧ FunD K "_law_net_text" "_law_net_text" (defArgs (top 113)) (defBody (top 113)) (defScope (top 113)) dvs [] fa fd ∧ dvs.length = 0
  F_law_due : ∃ (fa : Addr) (fd : FuncData) (dvs : List V), mg "_law_due" = some (.ref fa) ∧ FunD K "_law_due" "_law_due" (defArgs (top 114)) (defBody (top 114)) (defScope (top 114)) dvs [] fa fd ∧ dvs.length = 0
  F_Day_moment : ∃ (pa fa : Addr) (fd : FuncData), PropOf K (W.Ca 4) "moment" pa fa ∧ FunD K "moment" "Day.moment" (defArgs (mth 83 2)) (defBody (mth 83 2)) (defScope (mth 83 2)) [] [] fa fd
  F_Day_seen : ∃ (pa fa : Addr) (fd : FuncData), PropOf K (W.Ca 4) "seen" pa fa ∧ FunD K "seen" "Day.seen" (defArgs (mth 83 3)) (defBody (mth 83 3)) (defScope (mth 83 3)) [] [] fa fd
  F_Day_minute : ∃ (pa fa : Addr) (fd : FuncData), PropOf K (W.Ca 4) "minute" pa fa ∧ FunD K "minute" "Day.minute" (defArgs (mth 83 5)) (defBody (mth 83 5)) (defScope (mth 83 5)) [] [] fa fd
  F_Day_go : ∃ (fa : Addr) (fd : FuncData) (kws : List (Str × V)), Meth K (W.Ca 4) "go" fa ∧ PySem.W.fnIn K fa = true ∧ FunD K "go" "Day.go" (defArgs (mth 83 11)) (defBody (mth 83 11)) (defScope (mth 83 11)) [] kws fa fd
  F_Day_stop : ∃ (pa fa : Addr) (fd : FuncData), PropOf K (W.Ca 4) "stop" pa fa ∧ FunD K "stop" "Day.stop" (defArgs (mth 83 4)) (defBody (mth 83 4)) (defScope (mth 83 4)) [] [] fa fd
  F_Day_stay : ∃ (fa : Addr) (fd : FuncData) (kws : List (Str × V)), Meth K (W.Ca 4) "stay" fa ∧ PySem.W.fnIn K fa = true ∧ FunD K "stay" "Day.stay" (defArgs (mth 83 12)) (defBody (mth 83 12)) (defScope (mth 83 12)) [] kws fa fd
  F_law_right : ∃ (fa : Addr) (fd : FuncData) (dvs : List V), mg "_law_right" = some (.ref fa) ∧ FunD K "_law_right" "_law_right" (defArgs (top 115)) (defBody (top 115)) (defScope (top 115)) dvs [] fa fd ∧ dvs.length = 0
  F_law : ∃ (fa : Addr) (fd : FuncData) (dvs : List V), mg "law" = some (.ref fa) ∧ FunD K "law" "law" (defArgs (top 116)) (defBody (top 116)) (defScope (top 116)) dvs [] fa fd ∧ dvs.length = 0
def b_law_cells : SM := (sRet (eLstN (lIt itRangeL (lCons (eB bMax (lCons (eC (.int 1)) (lCons (eB bMin (lCons (eV 1) (lCons (eB bLen (lCons (eV 0) lNil)) lNil))) lNil))) lNil))))
def f_law_cells : Fn := fnOf 2 2 b_law_cells
def b_law_pot : SMN := (sConsN (sAsg (eIf (tE (eOp vLt (eV 1) (eB bLen (lCons (eV 0) lNil)))) (eOp vIx (eV 0) (eV 1)) (eOp vAdd (eOp vMul (eC (.int 31)) (eV 1)) (eC (.int 23)))) (gSet 2)) (sConsN (sAsg (eOp vMul (eOp vMod (eB bInt (lCons (eB bAbs (lCons (eV 2) lNil)) lNil)) (eOp vPowW (eOp vPow (eC (.int 10)) (eC (.int 60))) (eC (.int 5)))) (eB bInt (lCons (eOp vGe (eB bAbs (lCons (eV 2) lNil)) (eOp vPow (eC (.int 10)) (eC (.int 18)))) lNil))) (gSet 3)) (sConsN (sAsg (eOp vAdd (eOp vAdd (eOp vMul (eOp vMod (eB bInt (lCons (eV 2) lNil)) (eC (.int 2305843009213693951))) (eC (.int 70117))) (eOp vMul (eOp vMul (eC (.int 8219)) (eV 1)) (eV 1))) (eC (.int 43))) (gSet 4)) (sRetL (lCap (lCons (eV 3) (lCons (eOp vMod (eB bInt (lCons (eV 4) lNil)) (eC (.int 2305843009213693907))) (lCons (eC (.int 0)) lNil))))))))
def f_law_pot : FnN := fnOfN 2 5 b_law_pot
def b_law_take : SM := (sCons (sIf (tE (eOp vGt (eIxO 0 (eC (.int 0))) (eC (.int 0)))) (sCons (sAsg (eOp vMod (eB bInt (lCons (eIxO 0 (eC (.int 0))) lNil)) (eV 1)) (gSet 2)) (sCons (sSetO 0 (eOp vDiv (eIxO 0 (eC (.int 0))) (eV 1)) (eC (.int 0))) (sRet (eV 2)))) sNil) (sCons (sAsg (eOp vAdd (eIxO 0 (eC (.int 2))) (eC (.int 1))) (gSet 3)) (sCons (sSetO 0 (eV 3) (eC (.int 2))) (sCons (sAsg (eOp vMod (eB bInt (lCons (eOp vMul (eOp vAdd (eOp vAdd (eIxO 0 (eC (.int 1))) (eOp vMul (eOp vMul (eC (.int 90533)) (eV 3)) (eV 3))) (eC (.int 61))) (eC (.int 70241))) lNil)) (eC (.int 2305843009213693921))) (gSet 4)) (sCons (sAsg (eOp vMod (eB bInt (lCons (eOp vMul (eV 4) (eOp vAdd (eOp vMod (eB bInt (lCons (eV 4) lNil)) (eC (.int 1000003))) (eOp vMul (eC (.int 100183)) (eV 3)))) lNil)) (eC (.int 2305843009213693907))) (gSet 4)) (sRet (eOp vMod (eB bInt (lCons (eOp vAdd (eOp vDiv (eV 4) (eC (.int 113))) (eOp vDiv (eV 4) (eC (.int 999983)))) lNil)) (eV 1))))))))
def f_law_take : Fn := fnOf 2 5 b_law_take
def b_law_some : SM := (sCons (sParL 3 4 (lList (eV 1))) (sCons (sFor (lIt itRange1 (lCons (eV 2) lNil)) (gSet 5) (sExpr (eStepO 4 appL (eStepO 3 popL (eCallO f_law_take 0 (lCons (eLenO 3) lNil)))))) (sRet (eFz 4))))
def f_law_some : Fn := fnOf 3 6 b_law_some
def b_law_stop_names : SM := (sCons (sAsg (eLst (lCons (eC (.str "home")) (lCons (eC (.str "park")) (lCons (eC (.str "town")) (lCons (eC (.str "stops")) (lCons (eC (.str "way")) (lCons (eC (.str "line")) (lCons (eC (.str "to")) (lCons (eC (.str "zzzzzzzz")) (lCons (eC (.str "look")) (lCons (eC (.str "day")) (lCons (eC (.str "a")) lNil)))))))))))) (gSet 2)) (sRet (eCallO f_law_some 0 (lCons (eV 2) (lCons (eV 1) lNil)))))
def f_law_stop_names : Fn := fnOf 2 3 b_law_stop_names
def b_law_line_names : SM := (sRet (eCallO f_law_some 0 (lCons (eLst (lCons (eC (.str "red")) (lCons (eC (.str "blue")) (lCons (eC (.str "line")) (lCons (eC (.str "stay")) (lCons (eC (.str "walk")) (lCons (eC (.str "ride")) (lCons (eC (.str "came")) (lCons (eC (.str "none")) (lCons (eC (.str "b")) (lCons (eC (.str "look")) lNil))))))))))) (lCons (eV 1) lNil))))
def f_law_line_names : Fn := fnOf 2 2 b_law_line_names
def b_law_of : SM := (sRet (eOp vIx (eV 1) (eCallO f_law_take 0 (lCons (eB bLen (lCons (eV 1) lNil)) lNil))))
def f_law_of : Fn := fnOf 2 2 b_law_of
def b_Net_check_stop : SM := (sIf (tOrM (tNotM (tE (eUn (isTy "str") (eV 1)))) (tE (eOp vNotIn (eV 1) (eUn (fldOf 7 1) (eV 0))))) (fun _ => .bad) sNil)
def f_Net_check_stop : Fn := fnOf 2 2 b_Net_check_stop
def b_Seen_net : SM := (sRet (eUn (fldOf 2 0) (eV 0)))
def f_Seen_net : Fn := fnOf 1 1 b_Seen_net
def b_is_integer : SM := (sCons (sIf (tOrM (tNotM (tE (eUn (isTy "int") (eV 0)))) (tE (eUn (isTy "bool") (eV 0)))) (sRet (eC (.bl false))) sNil) (sRet (eAnd (eOr (eOp vIsN (eV 1) (eC .non)) (eOp vLe (eV 1) (eV 0))) (eOr (eOp vIsN (eV 2) (eC .non)) (eOp vLe (eV 0) (eV 2))))))
def f_is_integer : Fn := fnOf 3 3 b_is_integer
def b_is_minute : SM := (sRet (eCall f_is_integer (lCons (eV 0) (lCons (eC (.int 0)) (lCons (eC (.int 2999)) lNil)))))
def f_is_minute : Fn := fnOf 1 1 b_is_minute
def b_check_minute : SM := (sIf (tNotM (tE (eCall f_is_minute (lCons (eV 0) lNil)))) (fun _ => .bad) sNil)
def f_check_minute : Fn := fnOf 1 1 b_check_minute
def b_check_start : SM := (sCons (sExpr (eMeth 7 f_Net_check_stop (eProp 2 f_Seen_net (eV 0)) (lCons (eV 1) lNil))) (sExpr (eCall f_check_minute (lCons (eV 2) lNil))))
def f_check_start : Fn := fnOf 3 3 b_check_start
def b_Net_lines : SM := (sRet (eB bTup (lCons (eUn (fldOf 7 3) (eV 0)) lNil)))
def f_Net_lines : Fn := fnOf 1 1 b_Net_lines
def b_Net_contains : SM := (sRet (eAnd (eUn (isTy "str") (eV 1)) (eOp vIn (eV 1) (eUn (fldOf 7 3) (eV 0)))))
def f_Net_contains : Fn := fnOf 2 2 b_Net_contains
def b_Net_check_line : SM := (sIf (tE (eInO 7 f_Net_contains (!·) (eV 1) (eV 0))) (fun _ => .bad) sNil)
def f_Net_check_line : Fn := fnOf 2 2 b_Net_check_line
def b_Net_getitem : SM := (sCons (sExpr (eMeth 7 f_Net_check_line (eV 0) (lCons (eV 1) lNil))) (sRet (eOp vDx (eUn (fldOf 7 3) (eV 0)) (eV 1))))
def f_Net_getitem : Fn := fnOf 2 2 b_Net_getitem
def b_is_tuple : SM := (sRet (eAnd (eUn (isTy "tuple") (eV 0)) (eChain vLe vLe (eV 1) (eB bLen (lCons (eV 0) lNil)) (eV 2))))
def f_is_tuple : Fn := fnOf 3 3 b_is_tuple
def b_are_ends : SM := (sRet (eAnd (eCall f_is_minute (lCons (eV 0) lNil)) (eAnd (eCall f_is_minute (lCons (eV 1) lNil)) (eOp vLe (eV 0) (eV 1)))))
def f_are_ends : Fn := fnOf 2 2 b_are_ends
def b_is_look : SM := (sCons (sIf (tOrM (tNotM (tE (eCall f_is_tuple (lCons (eV 0) (lCons (eC (.int 2)) (lCons (eC (.int 3)) lNil)))))) (tNotM (tE (eUn (isTy "str") (eOp vIx (eV 0) (eC (.int 0))))))) (sRet (eC (.bl false))) sNil) (sCons (sIf (tE (eOp vEq (eB bLen (lCons (eV 0) lNil)) (eC (.int 2)))) (sRet (eAnd (eOp vEq (eOp vIx (eV 0) (eC (.int 0))) (eC (.str "came"))) (eCall f_is_minute (lCons (eOp vIx (eV 0) (eC (.int 1))) lNil)))) sNil) (sRet (eAnd (eOp vEq (eOp vIx (eV 0) (eC (.int 0))) (eC (.str "none"))) (eCall f_are_ends (lCons (eOp vIx (eV 0) (eC (.int 1))) (lCons (eOp vIx (eV 0) (eC (.int 2))) lNil)))))))
def f_is_look : Fn := fnOf 1 1 b_is_look
def b_do_rise : SM := (sRet (eB bAll (lCons (eLstN (lComp (lIt itZip (lCons (eV 0) (lCons (eSlice (eV 0) (oSome (eC (.int 1))) oNone) lNil))) [1, 2] (gTupM 2 (gConsM (gSet 1) (gConsM (gSet 2) gNilM))) tYesM (eOp vLt (eV 1) (eV 2)))) lNil)))
def f_do_rise : Fn := fnOf 1 3 b_do_rise
def b_are_looks : SM := (sCons (sIf (tOrM (tNotM (tE (eUn (isTy "tuple") (eV 0)))) (tOrM (tE (eOp vGt (eB bLen (lCons (eV 0) lNil)) (eC (.int 60)))) (tNotM (tE (eB bAll (lCons (eLstN (lComp (lItems (eV 0)) [1] (gSet 1) tYesM (eCall f_is_look (lCons (eV 1) lNil)))) lNil)))))) (sRet (eC (.bl false))) sNil) (sRet (eCall f_do_rise (lCons (eV 0) lNil))))
def f_are_looks : Fn := fnOf 1 2 b_are_looks
def b_Book_init : SM := (sCons (sIf (tNotM (tE (eCall f_are_looks (lCons (eV 2) lNil)))) (fun _ => .bad) sNil) (sCons (sFldO false 1 0 0 (eV 1)) (sFldO false 1 0 1 (eV 2))))
def f_Book_init : Fn := fnOf 3 3 b_Book_init
def b_looks_at : SM := (sRet (eB bTuple (lCons (eLstN (lComp (lItems (eV 0)) [2, 3] (gTupM 2 (gConsM (gSet 2) (gConsM (gSet 3) gNilM))) (tE (eOp vEq (eV 2) (eV 1))) (eV 3))) lNil)))
def f_looks_at : Fn := fnOf 2 4 b_looks_at
def b_Seen_getitem : SM := (sCons (sAsg (eGet 7 f_Net_getitem (eUn (fldOf 2 0) (eV 0)) (eV 1)) (gTupM 3 (gConsM (gSet 2) (gConsM (gSet 3) (gConsM (gSet 4) gNilM))))) (sRet (eMake 1 f_Book_init (lCons (eV 3) (lCons (eCall f_looks_at (lCons (eUn (fldOf 2 1) (eV 0)) (lCons (eV 1) lNil))) lNil)))))
def f_Seen_getitem : Fn := fnOf 2 5 b_Seen_getitem
def b_Track_first_void : SM := (sCons (sFor (lIt itEnum (lCons (eUn (fldOf 0 2) (eV 0)) lNil)) (gTupM 2 (gConsM (gSet 1) (gConsM (gSet 2) gNilM))) (sIf (tE (eOp vEq (eV 2) (eC (.int 0)))) (sRet (eOp vSub (eOp vAdd (eUn (fldOf 0 1) (eV 0)) (eV 1)) (eC (.int 1)))) sNil)) (sRet (eC .non)))
def f_Track_first_void : Fn := fnOf 1 3 b_Track_first_void
def b_cars_in : SM := (sRet (eDComp (lItems (eV 0)) [1] (gSet 1) (tE (eOp vEq (eOp vIx (eV 1) (eC (.int 0))) (eC (.str "came")))) (eOp vIx (eV 1) (eC (.int 1))) (eC (.bl true))))
def f_cars_in : Fn := fnOf 1 2 b_cars_in
def b_empty_in : SM := (sRet (eDComp2 (lItems (eV 0)) [1, 2] [2] (gSet 1) (tE (eOp vEq (eOp vIx (eV 1) (eC (.int 0))) (eC (.str "none")))) (lIt itRange2 (lCons (eOp vIx (eV 1) (eC (.int 1))) (lCons (eOp vAdd (eOp vIx (eV 1) (eC (.int 2))) (eC (.int 1))) lNil))) (gSet 2) tYesM (eV 2) (eC (.bl true))))
def f_empty_in : Fn := fnOf 1 3 b_empty_in
def b_Gaps_most : SM := (sRet (eUn (fldOf 5 1) (eV 0)))
def f_Gaps_most : Fn := fnOf 1 1 b_Gaps_most
def b_all_ages : SM := (sRet (eOp vSub (eOp vShl (eC (.int 1)) (eProp 5 f_Gaps_most (eV 0))) (eC (.int 1))))
def f_all_ages : Fn := fnOf 1 1 b_all_ages
def b_Gaps_least : SM := (sRet (eUn (fldOf 5 0) (eV 0)))
def f_Gaps_least : Fn := fnOf 1 1 b_Gaps_least
def b_due_ages : SM := (sRet (eOp vSub (eOp vShl (eC (.int 1)) (eOp vAdd (eProp 5 f_Gaps_most (eV 0)) (eC (.int 1)))) (eOp vShl (eC (.int 1)) (eProp 5 f_Gaps_least (eV 0)))))
def f_due_ages : Fn := fnOf 1 1 b_due_ages
def b_masks_from : SM := (sCons (sAsg (eTup (lCons (eCall f_cars_in (lCons (eV 1) lNil)) (lCons (eCall f_empty_in (lCons (eV 1) lNil)) (lCons (eCall f_all_ages (lCons (eV 0) lNil)) (lCons (eCall f_due_ages (lCons (eV 0) lNil)) lNil))))) (gTupM 4 (gConsM (gSet 5) (gConsM (gSet 6) (gConsM (gSet 7) (gConsM (gSet 8) gNilM)))))) (sCons (sNewL 9 (lCap (lCons (eV 2) lNil))) (sCons (sFor (lIt itRange2 (lCons (eV 3) (lCons (eOp vAdd (eV 4) (eC (.int 1))) lNil))) (gSet 10) (sCons (sAsg (eOp vShl (eV 2) (eC (.int 1))) (gSet 11)) (sCons (sIf (tE (eOp vIn (eV 10) (eV 6))) (sAsg (eIf (tE (eOp vIn (eV 10) (eV 5))) (eC (.int 0)) (eOp vAnd (eV 11) (eV 7))) (gSet 2)) (sIf (tE (eOp vIn (eV 10) (eV 5))) (sAsg (eB bInt (lCons (eOp vNe (eOp vAnd (eV 11) (eV 8)) (eC (.int 0))) lNil)) (gSet 2)) (sAsg (eOp vOr (eOp vAnd (eV 11) (eV 7)) (eB bInt (lCons (eOp vNe (eOp vAnd (eV 11) (eV 8)) (eC (.int 0))) lNil))) (gSet 2)))) (sExpr (eStepO 9 appL (eV 2)))))) (sRet (eFz 9)))))
def f_masks_from : Fn := fnOf 5 12 b_masks_from
def b_Track_init : SM := (sCons (sFldO false 0 0 0 (eV 1)) (sCons (sFldO false 0 0 1 (eB bMin (lCons (eLst (lCons (eV 3) (lStar (eLstN (lComp (lItems (eV 2)) [5] (gSet 5) tYesM (eOp vIx (eV 5) (eC (.int 1))))) lNil))) lNil))) (sFldO false 0 0 2 (eCall f_masks_from (lCons (eV 1) (lCons (eV 2) (lCons (eCall f_all_ages (lCons (eV 1) lNil)) (lCons (eFldO 0 0 1) (lCons (eV 4) lNil)))))))))
def f_Track_init : Fn := fnOf 5 6 b_Track_init
def b_first_looked : SM := (sRet (eB bMin (lCons (eLstN (lComp (lItems (eV 0)) [1] (gSet 1) tYesM (eB bInt (lCons (eOp vIx (eV 1) (eC (.int 1))) lNil)))) lNil)))
def f_first_looked : Fn := fnOf 1 2 b_first_looked
def b_last_looked : SM := (sRet (eB bMax (lCons (eLstN (lComp (lItems (eV 0)) [1] (gSet 1) tYesM (eB bInt (lCons (eOp vIx (eV 1) (eUn vNeg (eC (.int 1)))) lNil)))) lNil)))
def f_last_looked : Fn := fnOf 1 2 b_last_looked
def b_is_possible : SM := (sCons (sIf (tE (eOp vEq (eB bLen (lCons (eV 1) lNil)) (eC (.int 0)))) (sRet (eC (.bl true))) sNil) (sRet (eOp vIsN (eMeth 0 f_Track_first_void (eMake 0 f_Track_init (lCons (eV 0) (lCons (eV 1) (lCons (eCall f_first_looked (lCons (eV 1) lNil)) (lCons (eCall f_last_looked (lCons (eV 1) lNil)) lNil))))) lNil) (eC .non))))
def f_is_possible : Fn := fnOf 2 2 b_is_possible
def b_Book_gaps : SM := (sRet (eUn (fldOf 1 0) (eV 0)))
def f_Book_gaps : Fn := fnOf 1 1 b_Book_gaps
def b_Book_looks : SM := (sRet (eUn (fldOf 1 1) (eV 0)))
def f_Book_looks : Fn := fnOf 1 1 b_Book_looks
def b_Seen_check_lines : SM := (sFor (lItems (eProp 7 f_Net_lines (eUn (fldOf 2 0) (eV 0)))) (gSet 1) (sCons (sAsg (eGet 2 f_Seen_getitem (eV 0) (eV 1)) (gSet 2)) (sIf (tNotM (tE (eCall f_is_possible (lCons (eProp 1 f_Book_gaps (eV 2)) (lCons (eProp 1 f_Book_looks (eV 2)) lNil))))) (fun _ => .bad) sNil)))
def f_Seen_check_lines : Fn := fnOf 1 3 b_Seen_check_lines
def b_check_late : SM := (sCons (sExpr (eMeth 2 f_Seen_check_lines (eV 0) lNil)) (sFor (lItems (eProp 7 f_Net_lines (eProp 2 f_Seen_net (eV 0)))) (gSet 2) (sFor (lItems (eProp 1 f_Book_looks (eGet 2 f_Seen_getitem (eV 0) (eV 2)))) (gSet 3) (sIf (tE (eOp vGt (eOp vIx (eV 3) (eUn vNeg (eC (.int 1)))) (eV 1))) (fun _ => .bad) sNil))))
def f_check_late : Fn := fnOf 2 4 b_check_late
def b_Net_leaving : SM := (sCons (sExpr (eMeth 7 f_Net_check_stop (eV 0) (lCons (eV 1) lNil))) (sRet (eB bTuple (lCons (eLstN (lLock 0 7 3 (lComp (lDItems 0 7 3) [2, 3] (gTupM 2 (gConsM (gSet 2) (gConsM (gSet 3) gNilM))) (tE (eOp vEq (eOp vIx (eV 3) (eC (.int 0))) (eV 1))) (eV 2)))) lNil))))
def f_Net_leaving : Fn := fnOf 2 4 b_Net_leaving
def b_check_cars : SM := (sCons (sAsg (eMeth 7 f_Net_leaving (eV 0) (lCons (eV 1) lNil)) (gSet 3)) (sCons (sIf (tOrM (tNotM (tE (eUn (isTy "tuple") (eV 2)))) (tNotM (tE (eB bAll (lCons (eLstN (lComp (lItems (eV 2)) [4] (gSet 4) tYesM (eAnd (eUn (isTy "str") (eV 4)) (eOp vIn (eV 4) (eV 3))))) lNil))))) (fun _ => .bad) sNil) (sIf (tNotM (tE (eCall f_do_rise (lCons (eV 2) lNil)))) (fun _ => .bad) sNil)))
def f_check_cars : Fn := fnOf 3 5 b_check_cars
def b_up_to : SM := (sCons (sNewL 2 (lCap lNil)) (sCons (sFor (lItems (eV 0)) (gSet 3) (sIf (tE (eOp vLe (eOp vIx (eV 3) (eC (.int 1))) (eV 1))) (sExpr (eStepO 2 appL (eIf (tE (eOp vEq (eOp vIx (eV 3) (eC (.int 0))) (eC (.str "came")))) (eV 3) (eTup (lCons (eC (.str "none")) (lCons (eOp vIx (eV 3) (eC (.int 1))) (lCons (eB bMin (lCons (eOp vIx (eV 3) (eC (.int 2))) (lCons (eV 1) lNil))) lNil))))))) sNil)) (sRet (eB bTuple (lCons (eFz 2) lNil)))))
def f_up_to : Fn := fnOf 2 4 b_up_to
def b_ages_in : SM := (sRet (eB bTuple (lCons (eLstN (lComp (lIt itRange1 (lCons (eUn mBits (eV 0)) lNil)) [1] (gSet 1) (tE (eOp vEq (eOp vAnd (eOp vShr (eV 0) (eV 1)) (eC (.int 1))) (eC (.int 1)))) (eV 1))) lNil)))
def f_ages_in : Fn := fnOf 1 2 b_ages_in
def b_Track_mask_at : SM := (sRet (eOp vIx (eUn (fldOf 0 2) (eV 0)) (eB bMax (lCons (eC (.int 0)) (lCons (eOp vAdd (eOp vSub (eV 1) (eUn (fldOf 0 1) (eV 0))) (eC (.int 1))) lNil)))))
def f_Track_mask_at : Fn := fnOf 2 2 b_Track_mask_at
def b_Book_ages : SM := (sCons (sIf (tNotM (tE (eCall f_is_minute (lCons (eV 1) lNil)))) (fun _ => .bad) sNil) (sCons (sAsg (eMake 0 f_Track_init (lCons (eUn (fldOf 1 0) (eV 0)) (lCons (eCall f_up_to (lCons (eUn (fldOf 1 1) (eV 0)) (lCons (eV 1) lNil))) (lCons (eV 1) (lCons (eV 1) lNil))))) (gSet 2)) (sRet (eCall f_ages_in (lCons (eMeth 0 f_Track_mask_at (eV 2) (lCons (eV 1) lNil)) lNil)))))
def f_Book_ages : Fn := fnOf 2 3 b_Book_ages
def b_can_be : SM := (sCons (sFor (lItems (eMeth 7 f_Net_leaving (eProp 2 f_Seen_net (eV 0)) (lCons (eV 1) lNil))) (gSet 4) (sCons (sAsg (eMeth 1 f_Book_ages (eGet 2 f_Seen_getitem (eV 0) (eV 4)) (lCons (eV 2) lNil)) (gSet 5)) (sIf (tIfM (tE (eOp vIn (eV 4) (eV 3))) (tE (eOp vNotIn (eC (.int 0)) (eV 5))) (tNotM (tE (eB bAny (lCons (eLstN (lComp (lItems (eV 5)) [6] (gSet 6) tYesM (eOp vGt (eV 6) (eC (.int 0))))) lNil))))) (sRet (eC (.bl false))) sNil))) (sRet (eC (.bl true))))
def f_can_be : Fn := fnOf 4 7 b_can_be
def b_Seen_looks : SM := (sRet (eUn (fldOf 2 1) (eV 0)))
def f_Seen_looks : Fn := fnOf 1 1 b_Seen_looks
def b_is_told : SM := (sCons (sIf (tE (eV 2)) (sRet (eOp vIn (eTup (lCons (eC (.str "came")) (lCons (eV 1) lNil))) (eV 0))) sNil) (sRet (eB bAny (lCons (eLstN (lComp (lItems (eV 0)) [3] (gSet 3) tYesM (eAnd (eOp vEq (eOp vIx (eV 3) (eC (.int 0))) (eC (.str "none"))) (eChain vLe vLe (eOp vIx (eV 3) (eC (.int 1))) (eV 1) (eOp vIx (eV 3) (eC (.int 2))))))) lNil))))
def f_is_told : Fn := fnOf 3 4 b_is_told
def b_put_to : SM := (sCons (sIf (tE (eCall f_is_told (lCons (eV 0) (lCons (eV 1) (lCons (eV 2) lNil))))) (sRet (eV 0)) sNil) (sCons (sIf (tE (eV 2)) (sRet (eB bTuple (lCons (eB bSorted (lCons (eLst (lStar (eV 0) (lCons (eTup (lCons (eC (.str "came")) (lCons (eV 1) lNil))) lNil))) lNil)) lNil))) sNil) (sCons (sAsg (eSlice (eLstN (lComp (lItems (eV 0)) [5] (gSet 5) (tAndM (tE (eOp vEq (eOp vIx (eV 5) (eC (.int 0))) (eC (.str "none")))) (tE (eOp vEq (eOp vIx (eV 5) (eC (.int 2))) (eOp vSub (eV 1) (eC (.int 1)))))) (eV 5))) oNone (oSome (eC (.int 1)))) (gSet 3)) (sCons (sAsg (eIf (tE (eOp vNe (eV 3) (eLst lNil))) (eOp vIx (eOp vIx (eV 3) (eC (.int 0))) (eC (.int 1))) (eV 1)) (gSet 4)) (sRet (eB bTuple (lCons (eUn vSortSet (eLst (lStar (eLstN (lComp (lItems (eV 0)) [5] (gSet 5) (tE (eOp vNotIn (eV 5) (eV 3))) (eV 5))) (lCons (eTup (lCons (eC (.str "none")) (lCons (eV 4) (lCons (eV 1) lNil)))) lNil)))) lNil)))))))
def f_put_to : Fn := fnOf 3 6 b_put_to
def b_is_pair : SM := (sRet (eAnd (eCall f_is_tuple (lCons (eV 1) (lCons (eC (.int 2)) (lCons (eC (.int 2)) lNil)))) (eAnd (eInO 7 f_Net_contains id (eOp vIx (eV 1) (eC (.int 0))) (eV 0)) (eCall f_is_look (lCons (eOp vIx (eV 1) (eC (.int 1))) lNil)))))
def f_is_pair : Fn := fnOf 2 2 b_is_pair
def b_Seen_init : SM := (sCons (sIf (tOrM (tNotM (tE (eUn (isTy "tuple") (eV 2)))) (tOrM (tNotM (tE (eB bAll (lCons (eLstN (lComp (lItems (eV 2)) [3] (gSet 3) tYesM (eCall f_is_pair (lCons (eV 1) (lCons (eV 3) lNil))))) lNil)))) (tNotM (tE (eCall f_do_rise (lCons (eV 2) lNil)))))) (fun _ => .bad) sNil) (sCons (sIf (tE (eB bAny (lCons (eLstN (lComp (lItems (eProp 7 f_Net_lines (eV 1))) [4] (gSet 4) tYesM (eOp vGt (eB bLen (lCons (eCall f_looks_at (lCons (eV 2) (lCons (eV 4) lNil))) lNil)) (eC (.int 60))))) lNil))) (fun _ => .bad) sNil) (sCons (sFldO false 2 0 0 (eV 1)) (sFldO false 2 0 1 (eV 2)))))
def f_Seen_init : Fn := fnOf 3 5 b_Seen_init
def b_looked : SM := (sCons (sExpr (eCall f_check_cars (lCons (eProp 2 f_Seen_net (eV 0)) (lCons (eV 1) (lCons (eV 3) lNil))))) (sCons (sIf (tNotM (tE (eCall f_can_be (lCons (eV 0) (lCons (eV 1) (lCons (eV 2) (lCons (eV 3) lNil))))))) (fun _ => .bad) sNil) (sCons (sNewL 4 (lComp (lItems (eProp 2 f_Seen_looks (eV 0))) [7] (gSet 7) (tE (eOp vNotIn (eOp vIx (eV 7) (eC (.int 0))) (eMeth 7 f_Net_leaving (eProp 2 f_Seen_net (eV 0)) (lCons (eV 1) lNil)))) (eV 7))) (sCons (sFor (lItems (eMeth 7 f_Net_leaving (eProp 2 f_Seen_net (eV 0)) (lCons (eV 1) lNil))) (gSet 5) (sCons (sAsg (eCall f_put_to (lCons (eCall f_looks_at (lCons (eProp 2 f_Seen_looks (eV 0)) (lCons (eV 5) lNil))) (lCons (eV 2) (lCons (eOp vIn (eV 5) (eV 3)) lNil)))) (gSet 6)) (sCons (sIf (tE (eOp vGt (eB bLen (lCons (eV 6) lNil)) (eC (.int 60)))) (fun _ => .bad) sNil) (sExpr (eExtO 4 (lComp (lItems (eV 6)) [8] (gSet 8) tYesM (eTup (lCons (eV 5) (lCons (eV 8) lNil))))))))) (sRet (eMake 2 f_Seen_init (lCons (eProp 2 f_Seen_net (eV 0)) (lCons (eB bTuple (lCons (eB bSorted (lCons (eFz 4) lNil)) lNil)) lNil))))))))
def f_looked : Fn := fnOf 4 9 b_looked
def b_cars_text : SM := (sRet (eIf (tE (eOp vNe (eV 0) (eTup lNil))) (eM1 isStrD mJoin (eC (.str ",")) (eV 0)) (eC (.str "-"))))
def f_cars_text : Fn := fnOf 1 1 b_cars_text
def b_Moment_init : SM := (sCons (sFldO true 3 0 1 (eV 1)) (sCons (sFldO true 3 0 0 (eV 2)) (sCons (sFldO true 3 0 3 (eV 3)) (sFldO true 3 0 2 (eV 4)))))
def f_Moment_init : Fn := fnOf 5 5 b_Moment_init
def b_Day_init : SM := (sCons (sExpr (eCall f_check_start (lCons (eV 1) (lCons (eV 2) (lCons (eV 3) lNil))))) (sCons (sExpr (eCall f_check_late (lCons (eV 1) (lCons (eV 3) lNil)))) (sCons (sAsg (eCall f_looked (lCons (eV 1) (lCons (eV 2) (lCons (eV 3) (lCons (eV 4) lNil))))) (gSet 5)) (sCons (sFldO true 4 0 0 (eV 1)) (sCons (sAsg (eM1 isStrD mJoin (eC (.str " ")) (eLst (lCons (eC (.str "day")) (lCons (eV 2) (lCons (eB bStr (lCons (eV 3) lNil)) (lCons (eCall f_cars_text (lCons (eV 4) lNil)) lNil)))))) (gSet 6)) (sCons (sFldO true 4 0 3 (eTup (lCons (eMake 3 f_Moment_init (lCons (eV 6) (lCons (eV 5) (lCons (eV 2) (lCons (eV 3) lNil))))) lNil))) (sCons (sFldO true 4 0 2 (eTup lNil)) (sFldO true 4 0 1 (eC .non)))))))))
def f_Day_init : Fn := fnOf 5 7 b_Day_init
def b_is_name : SM := (sCons (sIf (tOrM (tNotM (tE (eUn (isTy "str") (eV 0)))) (tNotM (tE (eChain vLt vLe (eC (.int 0)) (eB bLen (lCons (eV 0) lNil)) (eC (.int 8)))))) (sRet (eC (.bl false))) sNil) (sRet (eB bAll (lCons (eLstN (lComp (lItems (eV 0)) [1] (gSet 1) tYesM (eOp vIn (eV 1) (eC (.str "abcdefghijklmnopqrstuvwxyz"))))) lNil))))
def f_is_name : Fn := fnOf 1 2 b_is_name
def b_stops_in : SM := (sCons (sAsg (eSlice (eV 0) (oSome (eC (.int 1))) oNone) (gSet 1)) (sCons (sIf (tOrM (tE (eOp vNe (eOp vIx (eV 0) (eC (.int 0))) (eC (.str "stops")))) (tOrM (tNotM (tE (eChain vLt vLe (eC (.int 0)) (eB bLen (lCons (eV 1) lNil)) (eC (.int 8))))) (tNotM (tE (eB bAll (lCons (eLstN (lComp (lItems (eV 1)) [2] (gSet 2) tYesM (eCall f_is_name (lCons (eV 2) lNil)))) lNil)))))) (sRet (eC .non)) sNil) (sRet (eIf (tE (eOp vEq (eUn vLenSet (eV 1)) (eB bLen (lCons (eV 1) lNil)))) (eB bTuple (lCons (eV 1) lNil)) (eC .non)))))
def f_stops_in : Fn := fnOf 1 3 b_stops_in
def b_Draft_init : SM := (sCons (sFldO false 6 0 0 (eV 1)) (sCons (sNewDK false 6 0 1) (sNewDK false 6 0 2)))
def f_Draft_init : Fn := fnOf 2 2 b_Draft_init
def b_number_in : SM := (sCons (sIf (tOrM (tNotM (tE (eChain vLt vLe (eC (.int 0)) (eB bLen (lCons (eV 0) lNil)) (eC (.int 18))))) (tNotM (tE (eB bAll (lCons (eLstN (lComp (lItems (eV 0)) [3] (gSet 3) tYesM (eOp vIn (eV 3) (eC (.str "0123456789"))))) lNil))))) (sRet (eC .non)) sNil) (sCons (sIf (tAndM (tE (eOp vEq (eOp vIx (eV 0) (eC (.int 0))) (eC (.str "0")))) (tE (eOp vNe (eV 0) (eC (.str "0"))))) (sRet (eC .non)) sNil) (sRet (eIf (tE (eChain vLe vLe (eV 1) (eB bInt (lCons (eV 0) lNil)) (eV 2))) (eB bInt (lCons (eV 0) lNil)) (eC .non)))))
def f_number_in : Fn := fnOf 3 4 b_number_in
def b_rides_in : SM := (sCons (sIf (tOrM (tE (eOp vEq (eV 2) (eLst lNil))) (tE (eOp vEq (eOp vMod (eB bLen (lCons (eV 2) lNil)) (eC (.int 2))) (eC (.int 1))))) (sRet (eC .non)) sNil) (sCons (sPar 3 4 (lCons (eSliceK (eV 2) oNone (oSome (eC (.int 2)))) (lCons (eLstN (lComp (lItems (eSliceK (eV 2) (oSome (eC (.int 1))) (oSome (eC (.int 2))))) [5] (gSet 5) tYesM (eCall f_number_in (lCons (eV 5) (lCons (eC (.int 1)) (lCons (eC (.int 120)) lNil)))))) lNil))) (sCons (sIf (tOrM (tNotM (tE (eB bAll (lCons (eLstN (lComp (lItems (eV 3)) [6] (gSet 6) tYesM (eAnd (eOp vIn (eV 6) (eV 0)) (eOp vNe (eV 6) (eV 1))))) lNil)))) (tE (eOp vLt (eUn vLenSet (eV 3)) (eB bLen (lCons (eV 3) lNil))))) (sRet (eC .non)) sNil) (sCons (sIf (tOrM (tE (eOp vIn (eC .non) (eV 4))) (tNotM (tE (eB bAll (lCons (eLstN (lComp (lIt itZip (lCons (eV 4) (lCons (eSlice (eV 4) (oSome (eC (.int 1))) oNone) lNil))) [7, 8] (gTupM 2 (gConsM (gSet 7) (gConsM (gSet 8) gNilM))) tYesM (eOp vLt (eV 7) (eV 8)))) lNil))))) (sRet (eC .non)) sNil) (sRet (eB bTuple (lCons (eLstN (lIt itZip1 (lCons (eV 3) (lCons (eV 4) lNil)))) lNil)))))))
def f_rides_in : Fn := fnOf 3 9 b_rides_in
def b_Gaps_init : SM := (sCons (sIf (tOrM (tNotM (tE (eCall f_is_integer (lCons (eV 1) (lCons (eC (.int 1)) (lCons (eC (.int 60)) lNil)))))) (tOrM (tNotM (tE (eCall f_is_integer (lCons (eV 2) (lCons (eC (.int 1)) (lCons (eC (.int 60)) lNil)))))) (tE (eOp vGt (eV 1) (eV 2))))) (fun _ => .bad) sNil) (sCons (sFldO false 5 0 0 (eV 1)) (sFldO false 5 0 1 (eV 2))))
def f_Gaps_init : Fn := fnOf 3 3 b_Gaps_init
def b_Draft_take_line : SM := (sCons (sIf (tOrM (tE (eOp vLe (eB bLen (lCons (eV 1) lNil)) (eC (.int 6)))) (tOrM (tE (eOp vEq (eBOD bLen 0 6 2) (eC (.int 6)))) (tE (eOp vNe (eOp vIx (eV 1) (eOp vSub (eC (.int 6)) (eC (.int 1)))) (eC (.str "to")))))) (sRet (eC (.bl false))) sNil) (sCons (sAsg (eTup (lCons (eOp vIx (eV 1) (eC (.int 1))) (lCons (eOp vIx (eV 1) (eC (.int 2))) (lStar (eLstN (lComp (lItems (eSlice (eV 1) (oSome (eC (.int 3))) (oSome (eC (.int 5))))) [7] (gSet 7) tYesM (eCall f_number_in (lCons (eV 7) (lCons (eC (.int 1)) (lCons (eC (.int 60)) lNil)))))) lNil)))) (gTupM 4 (gConsM (gSet 2) (gConsM (gSet 3) (gConsM (gSet 4) (gConsM (gSet 5) gNilM)))))) (sCons (sIf (tOrM (tNotM (tE (eCall f_is_name (lCons (eV 2) lNil)))) (tOrM (tE (eOpOD vIn 0 6 2 (eV 2))) (tE (eOp vNotIn (eV 3) (eFldO 0 6 0))))) (sRet (eC (.bl false))) sNil) (sCons (sAsg (eCall f_rides_in (lCons (eFldO 0 6 0) (lCons (eV 3) (lCons (eSlice (eV 1) (oSome (eC (.int 6))) oNone) lNil)))) (gSet 6)) (sCons (sIf (tOrM (tE (eOp vIsN (eV 4) (eC .non))) (tOrM (tE (eOp vIsN (eV 5) (eC .non))) (tOrM (tE (eOp vGt (eV 4) (eV 5))) (tE (eOp vIsN (eV 6) (eC .non)))))) (sRet (eC (.bl false))) sNil) (sCons (sSetDK 6 0 2 2 (eTup (lCons (eV 3) (lCons (eMake 5 f_Gaps_init (lCons (eV 4) (lCons (eV 5) lNil))) (lCons (eV 6) lNil))))) (sRet (eC (.bl true)))))))))
def f_Draft_take_line : Fn := fnOf 2 8 b_Draft_take_line
def b_Draft_take : SM := (sCons (sAsg (eM1 isStrD mSplit (eV 1) (eC (.str " "))) (gSet 2)) (sCons (sIf (tE (eOp vEq (eOp vIx (eV 2) (eC (.int 0))) (eC (.str "way")))) (fun _ => .bad) sNil) (sRet (eAnd (eOp vEq (eOp vIx (eV 2) (eC (.int 0))) (eC (.str "line"))) (eMethO 6 f_Draft_take_line 0 (lCons (eV 2) lNil))))))
def f_Draft_take : Fn := fnOf 2 3 b_Draft_take
def b_draft_in : SM := (sCons (sIf (tNotM (tE (eUn (isTy "str") (eV 0)))) (fun _ => .bad) sNil) (sCons (sAsg (eM1 isStrD mSplit (eV 0) (eC (.str "\n"))) (gSet 1)) (sCons (sAsg (eCall f_stops_in (lCons (eM1 isStrD mSplit (eOp vIx (eV 1) (eC (.int 0))) (eC (.str " "))) lNil)) (gSet 2)) (sCons (sIf (tE (eOp vIsN (eV 2) (eC .non))) (fun _ => .bad) sNil) (sCons (sNewI 3 6 f_Draft_init (lCons (eV 2) lNil)) (sCons (sFor (lIt itEnum (lCons (eSlice (eV 1) (oSome (eC (.int 1))) oNone) lNil)) (gTupM 2 (gConsM (gSet 4) (gConsM (gSet 5) gNilM))) (sIf (tNotM (tE (eMethO 6 f_Draft_take 3 (lCons (eV 5) lNil)))) (fun _ => .bad) sNil)) (sRet (eFz 3))))))))
def f_draft_in : Fn := fnOf 1 6 b_draft_in
def b_Net_init : SM := (sCons (sAsg (eCall f_draft_in (lCons (eV 1) lNil)) (gSet 2)) (sCons (sFldO false 7 0 0 (eV 1)) (sCons (sFldO false 7 0 1 (eUn (fldOf 6 0) (eV 2))) (sCons (sFldO false 7 0 2 (eUn (fldOf 6 1) (eV 2))) (sFldO false 7 0 3 (eUn (fldOf 6 2) (eV 2)))))))
def f_Net_init : Fn := fnOf 2 3 b_Net_init
def b_law_line_text : SM := (sCons (sAsg (eV 0) (gTupM 5 (gConsM (gSet 1) (gConsM (gSet 2) (gConsM (gSet 3) (gConsM (gSet 4) (gConsM (gSet 5) gNilM))))))) (sCons (sNewL 6 (lCap (lCons (eC (.str "line")) (lCons (eV 1) (lCons (eV 2) (lCons (eB bStr (lCons (eV 3) lNil)) (lCons (eB bStr (lCons (eV 4) lNil)) (lCons (eC (.str "to")) lNil)))))))) (sCons (sFor (lItems (eV 5)) (gTupM 2 (gConsM (gSet 7) (gConsM (gSet 8) gNilM))) (sExpr (eExtO 6 (lCap (lCons (eV 7) (lCons (eB bStr (lCons (eV 8) lNil)) lNil)))))) (sRet (eM1 isStrD mJoin (eC (.str " ")) (eFz 6))))))
def f_law_line_text : Fn := fnOf 1 9 b_law_line_text
def b_law_net_text : SM := (sCons (sNewL 1 (lCap (lCons (eOp vAdd (eC (.str "stops ")) (eM1 isStrD mJoin (eC (.str " ")) (eOp vDx (eV 0) (eC (.str "stops"))))) lNil))) (sCons (sExpr (eExtO 1 (lComp (lItems (eOp vDx (eV 0) (eC (.str "ways")))) [2, 3, 4] (gTupM 3 (gConsM (gSet 2) (gConsM (gSet 3) (gConsM (gSet 4) gNilM)))) tYesM (eM1 isStrD mJoin (eC (.str " ")) (eLst (lCons (eC (.str "way")) (lCons (eV 2) (lCons (eV 3) (lCons (eB bStr (lCons (eV 4) lNil)) lNil))))))))) (sRet (eM1 isStrD mJoin (eC (.str "\n")) (eOp vAdd (eFz 1) (eLstN (lComp (lItems (eOp vDx (eV 0) (eC (.str "lines")))) [5] (gSet 5) tYesM (eCall f_law_line_text (lCons (eV 5) lNil)))))))))
def f_law_net_text : Fn := fnOf 1 6 b_law_net_text
def b_law_due : SM := (sCons (sIf (tE (eV 2)) (sRet (eB bTuple (lCons (eUn vSortSet (eOp vAdd (eV 0) (eTup (lCons (eTup (lCons (eC (.str "came")) (lCons (eV 1) lNil))) lNil)))) lNil))) sNil) (sCons (sAsg (eLstN (lComp (lItems (eV 0)) [6] (gSet 6) (tAndM (tE (eOp vEq (eOp vIx (eV 6) (eC (.int 0))) (eC (.str "none")))) (tE (eChain vLe vLe (eOp vIx (eV 6) (eC (.int 1))) (eV 1) (eOp vIx (eV 6) (eC (.int 2)))))) (eV 6))) (gSet 3)) (sCons (sAsg (eLstN (lComp (lItems (eV 0)) [6] (gSet 6) (tAndM (tE (eOp vEq (eOp vIx (eV 6) (eC (.int 0))) (eC (.str "none")))) (tE (eOp vEq (eOp vIx (eV 6) (eC (.int 2))) (eOp vSub (eV 1) (eC (.int 1)))))) (eV 6))) (gSet 4)) (sCons (sIf (tE (eOp vNe (eV 3) (eLst lNil))) (sRet (eV 0)) sNil) (sCons (sAsg (eB bTuple (lCons (eLstN (lComp (lItems (eV 0)) [6] (gSet 6) (tE (eOp vNotIn (eV 6) (eSlice (eV 4) oNone (oSome (eC (.int 1)))))) (eV 6))) lNil)) (gSet 5)) (sRet (eB bTuple (lCons (eB bSorted (lCons (eOp vAdd (eV 5) (eTup (lCons (eTup (lCons (eC (.str "none")) (lCons (eIf (tE (eOp vNe (eV 4) (eLst lNil))) (eOp vIx (eOp vIx (eV 4) (eC (.int 0))) (eC (.int 1))) (eV 1)) (lCons (eV 1) lNil)))) lNil))) lNil)) lNil))))))))
def f_law_due : Fn := fnOf 3 7 b_law_due
def b_Day_moment : SM := (sRet (eOp vIx (eFldO 0 4 3) (eUn vNeg (eC (.int 1)))))
def f_Day_moment : Fn := fnOf 1 1 b_Day_moment
def b_Day_seen : SM := (sRet (eUn (fldOf 3 0) (ePropO 4 f_Day_moment 0)))
def f_Day_seen : Fn := fnOf 1 1 b_Day_seen
def b_Day_minute : SM := (sRet (eUn (fldOf 3 2) (ePropO 4 f_Day_moment 0)))
def f_Day_minute : Fn := fnOf 1 1 b_Day_minute
def b_Day_go : SM := (sCons (sAsg (eOp vAdd (ePropO 4 f_Day_minute 0) (eV 3)) (gSet 5)) (sCons (sIf (tE (eOp vGt (eV 5) (eC (.int 2999)))) (fun _ => .bad) sNil) (sCons (sAsg (eCall f_looked (lCons (ePropO 4 f_Day_seen 0) (lCons (eV 2) (lCons (eV 5) (lCons (eV 4) lNil))))) (gSet 6)) (sCons (sAsg (eM1 isStrD mJoin (eC (.str " ")) (eLst (lStar (eV 1) (lCons (eCall f_cars_text (lCons (eV 4) lNil)) lNil)))) (gSet 7)) (sCons (sFldO true 4 0 3 (eTup (lStar (eFldO 0 4 3) (lCons (eMake 3 f_Moment_init (lCons (eV 7) (lCons (eV 6) (lCons (eV 2) (lCons (eV 5) lNil))))) lNil)))) (sFldO true 4 0 2 (eTup lNil)))))))
def f_Day_go : Fn := fnOf 5 8 b_Day_go
def b_Day_stop : SM := (sRet (eUn (fldOf 3 3) (ePropO 4 f_Day_moment 0)))
def f_Day_stop : Fn := fnOf 1 1 b_Day_stop
def b_Day_stay : SM := (sExpr (eMethO 4 f_Day_go 0 (lCons (eLst (lCons (eC (.str "stay")) lNil)) (lCons (ePropO 4 f_Day_stop 0) (lCons (eC (.int 1)) (lCons (eV 1) lNil))))))
def f_Day_stay : Fn := fnOf 2 2 b_Day_stay
def b_law_right : SM := (sCons (sAsg (eTup (lCons (eCallO f_law_stop_names 0 (lCons (eC (.int 2)) lNil)) (lCons (eOp vIx (eCallO f_law_line_names 0 (lCons (eC (.int 1)) lNil)) (eC (.int 0))) (lCons (eOp vAdd (eC (.int 100)) (eCallO f_law_take 0 (lCons (eC (.int 2800)) lNil))) lNil)))) (gTupM 3 (gConsM (gLstM 2 (gConsM (gSet 1) (gConsM (gSet 2) gNilM))) (gConsM (gSet 3) (gConsM (gSet 4) gNilM))))) (sCons (sAsg (eDisp [.inr "stops", .inr "ways", .inr "lines"] (lCons (eLst (lCons (eV 1) (lCons (eV 2) lNil))) (lCons (eLst lNil) (lCons (eLst (lCons (eTup (lCons (eV 3) (lCons (eV 1) (lCons (eC (.int 1)) (lCons (eC (.int 60)) (lCons (eTup (lCons (eTup (lCons (eV 2) (lCons (eC (.int 5)) lNil))) lNil)) lNil)))))) lNil)) lNil)))) (gSet 5)) (sCons (sNewL 6 (lCap (lCons (eTup (lCons (eC (.str "none")) (lCons (eOp vSub (eV 4) (eC (.int 3))) (lCons (eOp vSub (eV 4) (eC (.int 1))) lNil)))) (lCons (eTup (lCons (eC (.str "none")) (lCons (eOp vSub (eV 4) (eC (.int 1))) (lCons (eOp vSub (eV 4) (eC (.int 1))) lNil)))) (lCons (eTup (lCons (eC (.str "none")) (lCons (eOp vSub (eV 4) (eC (.int 2))) (lCons (eV 4) lNil)))) lNil))))) (sCons (sExpr (eExtO 6 (lCap (lCons (eTup (lCons (eC (.str "none")) (lCons (eOp vSub (eV 4) (eC (.int 6))) (lCons (eOp vSub (eV 4) (eC (.int 4))) lNil)))) (lCons (eTup (lCons (eC (.str "came")) (lCons (eOp vSub (eV 4) (eC (.int 7))) lNil))) (lCons (eTup (lCons (eC (.str "none")) (lCons (eOp vSub (eV 4) (eC (.int 5))) (lCons (eOp vSub (eV 4) (eC (.int 2))) lNil)))) lNil)))))) (sCons (sAsg (eB bTuple (lCons (eB bSorted (lCons (eCallO f_law_some 0 (lCons (eFz 6) (lCons (eCallO f_law_take 0 (lCons (eC (.int 6)) lNil)) lNil))) lNil)) lNil)) (gSet 7)) (sCons (sAsg (eIf (tE (eOp vIn (eTup (lCons (eC (.str "none")) (lCons (eOp vSub (eV 4) (eC (.int 2))) (lCons (eV 4) lNil)))) (eV 7))) (eTup lNil) (eCallO f_law_of 0 (lCons (eLst (lCons (eTup lNil) (lCons (eTup (lCons (eV 3) lNil)) lNil))) lNil))) (gSet 8)) (sCons (sNewI 9 4 f_Day_init (lApp (lNum 3 (lCons (eMake 2 f_Seen_init (lCons (eMake 7 f_Net_init (lCons (eCall f_law_net_text (lCons (eV 5) lNil)) lNil)) (lCons (eB bTuple (lCons (eLstN (lComp (lItems (eV 7)) [12] (gSet 12) tYesM (eTup (lCons (eV 3) (lCons (eV 12) lNil))))) lNil)) lNil))) (lCons (eV 1) (lCons (eV 4) lNil)))) (lNum 1 (lCons (eV 8) lNil)))) (sCons (sAsg (eCall f_law_due (lCons (eV 7) (lCons (eV 4) (lCons (eOp vNe (eV 8) (eTup lNil)) lNil)))) (gSet 10)) (sCons (sFor (lIt itRange1 (lCons (eOp vAdd (eC (.int 1)) (eCallO f_law_take 0 (lCons (eC (.int 8)) lNil))) lNil)) (gSet 11) (sCons (sIf (tE (eOp vNe (eB bRepr (lCons (eProp 2 f_Seen_looks (ePropO 4 f_Day_seen 9)) lNil)) (eB bRepr (lCons (eB bTuple (lCons (eLstN (lComp (lItems (eV 10)) [12] (gSet 12) tYesM (eTup (lCons (eV 3) (lCons (eV 12) lNil))))) lNil)) lNil)))) (sRet (eC (.bl false))) sNil) (sCons (sAsg (eCallO f_law_of 0 (lCons (eLst (lCons (eTup lNil) (lCons (eTup lNil) (lCons (eTup (lCons (eV 3) lNil)) lNil)))) lNil)) (gSet 8)) (sCons (sExpr (eMethO 4 f_Day_stay 9 (lNum 1 (lCons (eV 8) lNil)))) (sAsg (eCall f_law_due (lCons (eV 10) (lCons (eOp vAdd (eOp vAdd (eV 4) (eV 11)) (eC (.int 1))) (lCons (eOp vNe (eV 8) (eTup lNil)) lNil)))) (gSet 10)))))) (sRet (eOp vEq (eB bRepr (lCons (eProp 2 f_Seen_looks (ePropO 4 f_Day_seen 9)) lNil)) (eB bRepr (lCons (eB bTuple (lCons (eLstN (lComp (lItems (eV 10)) [12] (gSet 12) tYesM (eTup (lCons (eV 3) (lCons (eV 12) lNil))))) lNil)) lNil)))))))))))))
def f_law_right : Fn := fnOf 1 13 b_law_right
def b_law : SM := (sCons (sFor (lItems (eCall f_law_cells (lCons (eV 0) (lCons (eC (.int 4)) lNil)))) (gSet 1) (sCons (sNewL 2 (lCallN f_law_pot (lCons (eV 0) (lCons (eV 1) lNil)))) (sIf (tNotM (tE (eB bAll (lCons (eLstN (lComp (lIt itRange1 (lCons (eC (.int 3)) lNil)) [3] (gSet 3) tYesM (eCallO f_law_right 2 lNil))) lNil)))) (sRet (eC (.bl false))) sNil))) (sRet (eC (.bl true))))
def f_law : Fn := fnOf 1 4 b_law
end G
/- G3 -/
section
set_option maxHeartbeats 1000000
namespace G
open PySem L2 Tr
def clsN (c : Nat) : Str := (["Track", "Book", "Seen", "Moment", "Day", "Gaps", "Draft", "Net"] : List Str).getD c ""
def clsF (c : Nat) : List Str := ([["own_gaps", "own_begin", "own_masks"], ["own_gaps", "own_looks"], ["own_net", "own_looks"], [], [], ["own_least", "own_most"], ["own_stops", "own_ways", "own_lines"], ["own_text", "own_stops", "own_ways", "own_lines"]] : List (List Str)).getD c []
def clsS (c : Nat) : Bool := ([false, false, false, true, true, false, false, false] : List Bool).getD c false
def namesX : List Str := (["Book", "Day", "Draft", "Gaps", "Moment", "Net", "Seen", "Track"] : List Str) ++ (["_law_cells", "_law_due", "_law_line_names", "_law_line_text", "_law_net_text", "_law_of", "_law_pot", "_law_right"] : List Str) ++ (["_law_some", "_law_stop_names", "_law_take", "ages_in", "all_ages", "are_ends", "are_looks", "can_be"] : List Str) ++ (["cars_in", "cars_text", "check_cars", "check_late", "check_minute", "check_start", "do_rise", "draft_in"] : List Str) ++ (["due_ages", "empty_in", "first_looked", "is_integer", "is_look", "is_minute", "is_name", "is_pair"] : List Str) ++ (["is_possible", "is_told", "is_tuple", "last_looked", "law", "looked", "looks_at", "masks_from"] : List Str) ++ (["number_in", "put_to", "rides_in", "stops_in", "up_to"] : List Str)
def namesY : List Str := (["__contains__", "__getitem__", "__init__", "ages", "check_line", "check_lines", "check_stop", "first_void"] : List Str) ++ (["gaps", "go", "known", "least", "leaving", "line", "lines", "looks"] : List Str) ++ (["mask_at", "minute", "moment", "most", "net", "now", "own_begun", "own_block"] : List Str) ++ (["own_later", "own_past", "place", "seen", "stay", "stop", "take", "take_line"] : List Str)
def names : List Str := (["_wall", "LineError", "BadGaps", "BadMany", "NoGaps", "BadLooks", "BadLook", "NoLook"] : List Str) ++ (["Full", "BadMinute", "NoTimetable", "BadNet", "NoLine", "NoStop", "LateLook", "BadCars"] : List Str) ++ (["Unfit", "NoPath", "NoCar", "NoRide", "BLANK", "FEED", "COMMA", "DASH"] : List Str) ++ (["NOUGHT", "FIGURES", "LETTERS", "MOST_LETTERS", "MOST_FIGURES", "PAIR", "is_integer", "is_tuple"] : List Str) ++ (["is_name", "do_rise", "number_in", "CAME", "NONE", "LAST_MINUTE", "TRIPLE", "is_minute"] : List Str) ++ (["are_ends", "is_look", "with_looks", "first_looked", "last_looked", "cars_in", "empty_in", "all_ages"] : List Str) ++ (["due_ages", "ages_in", "masks_from", "Track", "is_possible", "MOST_LOOKS", "are_looks", "up_to"] : List Str) ++ (["turned", "Book", "check_minute", "WALK", "RIDE", "check_start", "STAY", "check_late"] : List Str) ++ (["is_pair", "looks_at", "Seen", "check_cars", "can_be", "is_told", "put_to", "looked"] : List Str) ++ (["cars_text", "Moment", "Day", "MOST_GAP", "Gaps", "STOPS", "WAY", "LINE"] : List Str) ++ (["TO", "MOST_STOPS", "MOST_LINES", "MOST_WAY", "MOST_RIDE", "WAY_WORDS", "LINE_WORDS", "FIRST_RIDE"] : List Str) ++ (["stops_in", "rides_in", "Draft", "draft_in", "Net", "_law_pot", "_law_take", "_law_of"] : List Str) ++ (["_law_some", "_law_cells", "_law_stop_names", "_law_line_names", "_law_line_text", "_law_net_text", "_law_due", "_law_right"] : List Str)
def wd (K : PySem.W.Frag) : Wd := ⟨fun c => He.ga K (clsN c), clsF, clsS⟩
def exL : List (PySem.W.Frag → Bool) := [
  fun K => (He.Fa.free "list").ok K,
  fun K => (He.Fa.free "max").ok K,
  fun K => (He.Fa.free "min").ok K,
  fun K => (He.Fa.free "len").ok K,
  fun K => (He.Fa.free "range").ok K,
  fun K => (He.Fa.free "int").ok K,
  fun K => (He.Fa.free "abs").ok K,
  fun K => (He.Fa.free "all").ok K,
  fun K => (He.Fa.free "tuple").ok K,
  fun K => (He.Fa.free "sorted").ok K,
  fun K => (He.Fa.free "isinstance").ok K,
  fun K => (He.Fa.free "str").ok K,
  fun K => (He.Fa.free "bool").ok K,
  fun K => (He.Fa.free "zip").ok K,
  fun K => (He.Fa.free "enumerate").ok K,
  fun K => (He.Fa.free "any").ok K,
  fun K => (He.Fa.free "set").ok K,
  fun K => (He.Fa.free "repr").ok K,
  fun K => (He.Fa.int "LAST_MINUTE" 2999).ok K,
  fun K => (He.Fa.int "MOST_LOOKS" 60).ok K,
  fun K => (He.Fa.int "PAIR" 2).ok K,
  fun K => (He.Fa.int "TRIPLE" 3).ok K,
  fun K => (He.Fa.int "MOST_STOPS" 8).ok K,
  fun K => (He.Fa.int "MOST_LETTERS" 8).ok K,
  fun K => (He.Fa.int "LINE_WORDS" 6).ok K,
  fun K => (He.Fa.int "MOST_LINES" 6).ok K,
  fun K => (He.Fa.int "MOST_FIGURES" 18).ok K,
  fun K => (He.Fa.int "MOST_GAP" 60).ok K,
  fun K => (He.Fa.int "MOST_RIDE" 120).ok K,
  fun K => (He.Fa.int "FIRST_RIDE" 6).ok K,
  fun K => (He.Fa.str "CAME" "came").ok K,
  fun K => (He.Fa.str "NONE" "none").ok K,
  fun K => (He.Fa.str "BLANK" " ").ok K,
  fun K => (He.Fa.str "COMMA" ",").ok K,
  fun K => (He.Fa.str "DASH" "-").ok K,
  fun K => (He.Fa.str "FEED" "\n").ok K,
  fun K => (He.Fa.str "STOPS" "stops").ok K,
  fun K => (He.Fa.str "LETTERS" "abcdefghijklmnopqrstuvwxyz").ok K,
  fun K => (He.Fa.str "WAY" "way").ok K,
  fun K => (He.Fa.str "LINE" "line").ok K,
  fun K => (He.Fa.str "TO" "to").ok K,
  fun K => (He.Fa.str "FIGURES" "0123456789").ok K,
  fun K => (He.Fa.str "NOUGHT" "0").ok K,
  fun K => (He.Fa.str "STAY" "stay").ok K,
  cdB "Track" false,
  cdB "Book" false,
  cdB "Seen" false,
  cdB "Moment" true,
  cdB "Day" true,
  cdB "Gaps" false,
  cdB "Draft" false,
  cdB "Net" false,
  fun K => (He.Fa.noat "Net" "own_stops").ok K,
  fun K => (He.Fa.noat "Seen" "own_net").ok K,
  fun K => (He.Fa.noat "Net" "own_lines").ok K,
  fun K => (He.Fa.noat "Book" "own_gaps").ok K,
  fun K => (He.Fa.noat "Book" "own_looks").ok K,
  fun K => (He.Fa.noat "Seen" "own_looks").ok K,
  fun K => (He.Fa.noat "Track" "own_masks").ok K,
  fun K => (He.Fa.noat "Track" "own_begin").ok K,
  fun K => (He.Fa.noat "Track" "own_gaps").ok K,
  fun K => (He.Fa.noat "Gaps" "own_most").ok K,
  fun K => (He.Fa.noat "Gaps" "own_least").ok K,
  slB "Day" "own_begun" 0,
  slB "Day" "own_past" 3,
  slB "Moment" "line" 1,
  slB "Moment" "known" 0,
  slB "Moment" "place" 3,
  slB "Moment" "now" 2,
  slB "Day" "own_later" 2,
  slB "Day" "own_block" 1,
  fun K => (He.Fa.noat "Draft" "own_stops").ok K,
  fun K => (He.Fa.noat "Draft" "own_ways").ok K,
  fun K => (He.Fa.noat "Draft" "own_lines").ok K,
  fun K => (He.Fa.noat "Net" "own_text").ok K,
  fun K => (He.Fa.noat "Net" "own_ways").ok K,
  fun K => (He.Fa.glo "_law_cells").ok K,
  fun K => (He.Fa.glo "_law_pot").ok K,
  fun K => (He.Fa.glo "_law_take").ok K,
  fun K => (He.Fa.glo "_law_some").ok K,
  fun K => (He.Fa.glo "_law_stop_names").ok K,
  fun K => (He.Fa.glo "_law_line_names").ok K,
  fun K => (He.Fa.glo "_law_of").ok K,
  Tr.fnB "Net" "check_stop",
  ppB "Seen" "net",
  fun K => (He.Fa.glo "is_integer").ok K,
  fun K => (He.Fa.glo "is_minute").ok K,
  fun K => (He.Fa.glo "check_minute").ok K,
  fun K => (He.Fa.glo "check_start").ok K,
  ppB "Net" "lines",
  Tr.fnB "Net" "__contains__",
  Tr.fnB "Net" "check_line",
  Tr.fnB "Net" "__getitem__",
  fun K => (He.Fa.glo "is_tuple").ok K,
  fun K => (He.Fa.glo "are_ends").ok K,
  fun K => (He.Fa.glo "is_look").ok K,
  fun K => (He.Fa.glo "do_rise").ok K,
  fun K => (He.Fa.glo "are_looks").ok K,
  fun K => (He.Fa.glo "Book").ok K,
  fun K => (He.Fa.mkr "Book").ok K,
  fun K => (He.Fa.glo "looks_at").ok K,
  Tr.fnB "Seen" "__getitem__",
  Tr.fnB "Track" "first_void",
  fun K => (He.Fa.glo "cars_in").ok K,
  fun K => (He.Fa.glo "empty_in").ok K,
  ppB "Gaps" "most",
  fun K => (He.Fa.glo "all_ages").ok K,
  ppB "Gaps" "least",
  fun K => (He.Fa.glo "due_ages").ok K,
  fun K => (He.Fa.glo "masks_from").ok K,
  fun K => (He.Fa.glo "Track").ok K,
  fun K => (He.Fa.mkr "Track").ok K,
  fun K => (He.Fa.glo "first_looked").ok K,
  fun K => (He.Fa.glo "last_looked").ok K,
  fun K => (He.Fa.glo "is_possible").ok K,
  ppB "Book" "gaps",
  ppB "Book" "looks",
  Tr.fnB "Seen" "check_lines",
  fun K => (He.Fa.glo "check_late").ok K,
  Tr.fnB "Net" "leaving",
  fun K => (He.Fa.glo "check_cars").ok K,
  fun K => (He.Fa.glo "up_to").ok K,
  fun K => (He.Fa.glo "ages_in").ok K,
  Tr.fnB "Track" "mask_at",
  Tr.fnB "Book" "ages",
  fun K => (He.Fa.glo "can_be").ok K,
  ppB "Seen" "looks",
  fun K => (He.Fa.glo "is_told").ok K,
  fun K => (He.Fa.glo "put_to").ok K,
  fun K => (He.Fa.glo "is_pair").ok K,
  fun K => (He.Fa.glo "Seen").ok K,
  fun K => (He.Fa.mkr "Seen").ok K,
  fun K => (He.Fa.glo "looked").ok K,
  fun K => (He.Fa.glo "cars_text").ok K,
  fun K => (He.Fa.glo "Moment").ok K,
  fun K => (He.Fa.mkr "Moment").ok K,
  fun K => (He.Fa.glo "Day").ok K,
  fun K => (He.Fa.mkr "Day").ok K,
  fun K => (He.Fa.glo "is_name").ok K,
  fun K => (He.Fa.glo "stops_in").ok K,
  fun K => (He.Fa.glo "Draft").ok K,
  fun K => (He.Fa.mkr "Draft").ok K,
  fun K => (He.Fa.glo "number_in").ok K,
  fun K => (He.Fa.glo "rides_in").ok K,
  fun K => (He.Fa.glo "Gaps").ok K,
  fun K => (He.Fa.mkr "Gaps").ok K,
  Tr.fnB "Draft" "take_line",
  Tr.fnB "Draft" "take",
  fun K => (He.Fa.glo "draft_in").ok K,
  fun K => (He.Fa.glo "Net").ok K,
  fun K => (He.Fa.mkr "Net").ok K,
  fun K => (He.Fa.glo "_law_line_text").ok K,
  fun K => (He.Fa.glo "_law_net_text").ok K,
  fun K => (He.Fa.glo "_law_due").ok K,
  ppB "Day" "moment",
  ppB "Day" "seen",
  ppB "Day" "minute",
  Tr.fnB "Day" "go",
  ppB "Day" "stop",
  Tr.fnB "Day" "stay",
  fun K => (He.Fa.glo "_law_right").ok K,
  fun K => (He.Fa.glo "law").ok K,
  noLst]
def z_law_cells : DZ := ⟨fun K => He.ga K "_law_cells", "_law_cells", (top 109), "_law_cells", []⟩
def z_law_pot : DZ := ⟨fun K => He.ga K "_law_pot", "_law_pot", (top 105), "_law_pot", []⟩
def z_law_take : DZ := ⟨fun K => He.ga K "_law_take", "_law_take", (top 106), "_law_take", []⟩
def z_law_some : DZ := ⟨fun K => He.ga K "_law_some", "_law_some", (top 108), "_law_some", []⟩
def z_law_stop_names : DZ := ⟨fun K => He.ga K "_law_stop_names", "_law_stop_names", (top 110), "_law_stop_names", []⟩
def z_law_line_names : DZ := ⟨fun K => He.ga K "_law_line_names", "_law_line_names", (top 111), "_law_line_names", []⟩
def z_law_of : DZ := ⟨fun K => He.ga K "_law_of", "_law_of", (top 107), "_law_of", []⟩
def z_Net_check_stop : DZ := ⟨fun K => He.ma K (He.ga K "Net") "check_stop", "check_stop", (mth 103 4), "Net.check_stop", []⟩
def z_Seen_net : DZ := ⟨fun K => pgA K "Seen" "net", "net", (mth 74 1), "Seen.net", []⟩
def z_is_integer : DZ := ⟨fun K => He.ga K "is_integer", "is_integer", (top 32), "is_integer", [.non, .non]⟩
def z_is_minute : DZ := ⟨fun K => He.ga K "is_minute", "is_minute", (top 42), "is_minute", []⟩
def z_check_minute : DZ := ⟨fun K => He.ga K "check_minute", "check_minute", (top 63), "check_minute", []⟩
def z_check_start : DZ := ⟨fun K => He.ga K "check_start", "check_start", (top 67), "check_start", []⟩
def z_Net_lines : DZ := ⟨fun K => pgA K "Net" "lines", "lines", (mth 103 3), "Net.lines", []⟩
def z_Net_contains : DZ := ⟨fun K => He.ma K (He.ga K "Net") "__contains__", "__contains__", (mth 103 12), "Net.__contains__", []⟩
def z_Net_check_line : DZ := ⟨fun K => He.ma K (He.ga K "Net") "check_line", "check_line", (mth 103 5), "Net.check_line", []⟩
def z_Net_getitem : DZ := ⟨fun K => He.ma K (He.ga K "Net") "__getitem__", "__getitem__", (mth 103 10), "Net.__getitem__", []⟩
def z_is_tuple : DZ := ⟨fun K => He.ga K "is_tuple", "is_tuple", (top 33), "is_tuple", []⟩
def z_are_ends : DZ := ⟨fun K => He.ga K "are_ends", "are_ends", (top 43), "are_ends", []⟩
def z_is_look : DZ := ⟨fun K => He.ga K "is_look", "is_look", (top 44), "is_look", []⟩
def z_do_rise : DZ := ⟨fun K => He.ga K "do_rise", "do_rise", (top 35), "do_rise", []⟩
def z_are_looks : DZ := ⟨fun K => He.ga K "are_looks", "are_looks", (top 58), "are_looks", []⟩
def z_Book_init : DZ := ⟨fun K => He.ma K (He.ga K "Book") "__init__", "__init__", (mth 61 0), "Book.__init__", [.adr (He.dflAt ("Book", some "__init__") 0)]⟩
def z_looks_at : DZ := ⟨fun K => He.ga K "looks_at", "looks_at", (top 73), "looks_at", []⟩
def z_Seen_getitem : DZ := ⟨fun K => He.ma K (He.ga K "Seen") "__getitem__", "__getitem__", (mth 74 6), "Seen.__getitem__", []⟩
def z_Track_first_void : DZ := ⟨fun K => He.ma K (He.ga K "Track") "first_void", "first_void", (mth 54 3), "Track.first_void", []⟩
def z_cars_in : DZ := ⟨fun K => He.ga K "cars_in", "cars_in", (top 48), "cars_in", []⟩
def z_empty_in : DZ := ⟨fun K => He.ga K "empty_in", "empty_in", (top 49), "empty_in", []⟩
def z_Gaps_most : DZ := ⟨fun K => pgA K "Gaps" "most", "most", (mth 86 2), "Gaps.most", []⟩
def z_all_ages : DZ := ⟨fun K => He.ga K "all_ages", "all_ages", (top 50), "all_ages", []⟩
def z_Gaps_least : DZ := ⟨fun K => pgA K "Gaps" "least", "least", (mth 86 1), "Gaps.least", []⟩
def z_due_ages : DZ := ⟨fun K => He.ga K "due_ages", "due_ages", (top 51), "due_ages", []⟩
def z_masks_from : DZ := ⟨fun K => He.ga K "masks_from", "masks_from", (top 53), "masks_from", []⟩
def z_Track_init : DZ := ⟨fun K => He.ma K (He.ga K "Track") "__init__", "__init__", (mth 54 0), "Track.__init__", []⟩
def z_first_looked : DZ := ⟨fun K => He.ga K "first_looked", "first_looked", (top 46), "first_looked", []⟩
def z_last_looked : DZ := ⟨fun K => He.ga K "last_looked", "last_looked", (top 47), "last_looked", []⟩
def z_is_possible : DZ := ⟨fun K => He.ga K "is_possible", "is_possible", (top 55), "is_possible", []⟩
def z_Book_gaps : DZ := ⟨fun K => pgA K "Book" "gaps", "gaps", (mth 61 1), "Book.gaps", []⟩
def z_Book_looks : DZ := ⟨fun K => pgA K "Book" "looks", "looks", (mth 61 2), "Book.looks", []⟩
def z_Seen_check_lines : DZ := ⟨fun K => He.ma K (He.ga K "Seen") "check_lines", "check_lines", (mth 74 5), "Seen.check_lines", []⟩
def z_check_late : DZ := ⟨fun K => He.ga K "check_late", "check_late", (top 70), "check_late", []⟩
def z_Net_leaving : DZ := ⟨fun K => He.ma K (He.ga K "Net") "leaving", "leaving", (mth 103 7), "Net.leaving", []⟩
def z_check_cars : DZ := ⟨fun K => He.ga K "check_cars", "check_cars", (top 76), "check_cars", []⟩
def z_up_to : DZ := ⟨fun K => He.ga K "up_to", "up_to", (top 59), "up_to", []⟩
def z_ages_in : DZ := ⟨fun K => He.ga K "ages_in", "ages_in", (top 52), "ages_in", []⟩
def z_Track_mask_at : DZ := ⟨fun K => He.ma K (He.ga K "Track") "mask_at", "mask_at", (mth 54 2), "Track.mask_at", []⟩
def z_Book_ages : DZ := ⟨fun K => He.ma K (He.ga K "Book") "ages", "ages", (mth 61 3), "Book.ages", []⟩
def z_can_be : DZ := ⟨fun K => He.ga K "can_be", "can_be", (top 77), "can_be", []⟩
def z_Seen_looks : DZ := ⟨fun K => pgA K "Seen" "looks", "looks", (mth 74 2), "Seen.looks", []⟩
def z_is_told : DZ := ⟨fun K => He.ga K "is_told", "is_told", (top 78), "is_told", []⟩
def z_put_to : DZ := ⟨fun K => He.ga K "put_to", "put_to", (top 79), "put_to", []⟩
def z_is_pair : DZ := ⟨fun K => He.ga K "is_pair", "is_pair", (top 72), "is_pair", []⟩
def z_Seen_init : DZ := ⟨fun K => He.ma K (He.ga K "Seen") "__init__", "__init__", (mth 74 0), "Seen.__init__", [.adr (He.dflAt ("Seen", some "__init__") 0)]⟩
def z_looked : DZ := ⟨fun K => He.ga K "looked", "looked", (top 80), "looked", []⟩
def z_cars_text : DZ := ⟨fun K => He.ga K "cars_text", "cars_text", (top 81), "cars_text", []⟩
def z_Moment_init : DZ := ⟨fun K => He.ma K (He.ga K "Moment") "__init__", "__init__", (mth 82 1), "Moment.__init__", []⟩
def z_Day_init : DZ := ⟨fun K => He.ma K (He.ga K "Day") "__init__", "__init__", (mth 83 1), "Day.__init__", []⟩
def z_is_name : DZ := ⟨fun K => He.ga K "is_name", "is_name", (top 34), "is_name", []⟩
def z_stops_in : DZ := ⟨fun K => He.ga K "stops_in", "stops_in", (top 99), "stops_in", []⟩
def z_Draft_init : DZ := ⟨fun K => He.ma K (He.ga K "Draft") "__init__", "__init__", (mth 101 0), "Draft.__init__", []⟩
def z_number_in : DZ := ⟨fun K => He.ga K "number_in", "number_in", (top 36), "number_in", []⟩
def z_rides_in : DZ := ⟨fun K => He.ga K "rides_in", "rides_in", (top 100), "rides_in", []⟩
def z_Gaps_init : DZ := ⟨fun K => He.ma K (He.ga K "Gaps") "__init__", "__init__", (mth 86 0), "Gaps.__init__", []⟩
def z_Draft_take_line : DZ := ⟨fun K => He.ma K (He.ga K "Draft") "take_line", "take_line", (mth 101 2), "Draft.take_line", []⟩
def z_Draft_take : DZ := ⟨fun K => He.ma K (He.ga K "Draft") "take", "take", (mth 101 3), "Draft.take", []⟩
def z_draft_in : DZ := ⟨fun K => He.ga K "draft_in", "draft_in", (top 102), "draft_in", []⟩
def z_Net_init : DZ := ⟨fun K => He.ma K (He.ga K "Net") "__init__", "__init__", (mth 103 0), "Net.__init__", []⟩
def z_law_line_text : DZ := ⟨fun K => He.ga K "_law_line_text", "_law_line_text", (top 112), "_law_line_text", []⟩
def z_law_net_text : DZ := ⟨fun K => He.ga K "_law_net_text", "_law_net_text", (top 113), "_law_net_text", []⟩
def z_law_due : DZ := ⟨fun K => He.ga K "_law_due", "_law_due", (top 114), "_law_due", []⟩
def z_Day_moment : DZ := ⟨fun K => pgA K "Day" "moment", "moment", (mth 83 2), "Day.moment", []⟩
def z_Day_seen : DZ := ⟨fun K => pgA K "Day" "seen", "seen", (mth 83 3), "Day.seen", []⟩
def z_Day_minute : DZ := ⟨fun K => pgA K "Day" "minute", "minute", (mth 83 5), "Day.minute", []⟩
def z_Day_go : DZ := ⟨fun K => He.ma K (He.ga K "Day") "go", "go", (mth 83 11), "Day.go", []⟩
def z_Day_stop : DZ := ⟨fun K => pgA K "Day" "stop", "stop", (mth 83 4), "Day.stop", []⟩
def z_Day_stay : DZ := ⟨fun K => He.ma K (He.ga K "Day") "stay", "stay", (mth 83 12), "Day.stay", []⟩
def z_law_right : DZ := ⟨fun K => He.ga K "_law_right", "_law_right", (top 115), "_law_right", []⟩
def z_law : DZ := ⟨fun K => He.ga K "law", "law", (top 116), "law", []⟩
def fnL : List DZ := [z_law_cells, z_law_pot, z_law_take, z_law_some, z_law_stop_names, z_law_line_names, z_law_of, z_Net_check_stop, z_Seen_net, z_is_integer, z_is_minute, z_check_minute, z_check_start, z_Net_lines, z_Net_contains, z_Net_check_line, z_Net_getitem, z_is_tuple, z_are_ends, z_is_look, z_do_rise, z_are_looks, z_Book_init, z_looks_at, z_Seen_getitem, z_Track_first_void, z_cars_in, z_empty_in, z_Gaps_most, z_all_ages, z_Gaps_least, z_due_ages, z_masks_from, z_Track_init, z_first_looked, z_last_looked, z_is_possible, z_Book_gaps, z_Book_looks, z_Seen_check_lines, z_check_late, z_Net_leaving, z_check_cars, z_up_to, z_ages_in, z_Track_mask_at, z_Book_ages, z_can_be, z_Seen_looks, z_is_told, z_put_to, z_is_pair, z_Seen_init, z_looked, z_cars_text, z_Moment_init, z_Day_init, z_is_name, z_stops_in, z_Draft_init, z_number_in, z_rides_in, z_Gaps_init, z_Draft_take_line, z_Draft_take, z_draft_in, z_Net_init, z_law_line_text, z_law_net_text, z_law_due, z_Day_moment, z_Day_seen, z_Day_minute, z_Day_go, z_Day_stop, z_Day_stay, z_law_right, z_law]
theorem txt_of {K : PySem.W.Frag} {h : Heap} {mg : Str → Option Value} (X : K.In h) (G : h.Ns mainGlobals mg) (c : SaysZ exL fnL K) : Txt K mg (wd K) where
  b_list := He.free_ok X G (c.fact 0)
  b_max := He.free_ok X G (c.fact 1)
  b_min := He.free_ok X G (c.fact 2)
  b_len := He.free_ok X G (c.fact 3)
  b_range := He.free_ok X G (c.fact 4)
  b_int := He.free_ok X G (c.fact 5)
  b_abs := He.free_ok X G (c.fact 6)
  b_all := He.free_ok X G (c.fact 7)
  b_tuple := He.free_ok X G (c.fact 8)
  b_sorted := He.free_ok X G (c.fact 9)
  b_isinstance := He.free_ok X G (c.fact 10)
  b_str := He.free_ok X G (c.fact 11)
  b_bool := He.free_ok X G (c.fact 12)
  b_zip := He.free_ok X G (c.fact 13)
  b_enumerate := He.free_ok X G (c.fact 14)
  b_any := He.free_ok X G (c.fact 15)
  b_set := He.free_ok X G (c.fact 16)
  b_repr := He.free_ok X G (c.fact 17)
  c_LAST_MINUTE := He.int_ok X G (c.fact 18)
  c_MOST_LOOKS := He.int_ok X G (c.fact 19)
  c_PAIR := He.int_ok X G (c.fact 20)
  c_TRIPLE := He.int_ok X G (c.fact 21)
  c_MOST_STOPS := He.int_ok X G (c.fact 22)
  c_MOST_LETTERS := He.int_ok X G (c.fact 23)
  c_LINE_WORDS := He.int_ok X G (c.fact 24)
  c_MOST_LINES := He.int_ok X G (c.fact 25)
  c_MOST_FIGURES := He.int_ok X G (c.fact 26)
  c_MOST_GAP := He.int_ok X G (c.fact 27)
  c_MOST_RIDE := He.int_ok X G (c.fact 28)
  c_FIRST_RIDE := He.int_ok X G (c.fact 29)
  c_CAME := He.str_ok X G (c.fact 30)
  c_NONE := He.str_ok X G (c.fact 31)
  c_BLANK := He.str_ok X G (c.fact 32)
  c_COMMA := He.str_ok X G (c.fact 33)
  c_DASH := He.str_ok X G (c.fact 34)
  c_FEED := He.str_ok X G (c.fact 35)
  c_STOPS := He.str_ok X G (c.fact 36)
  c_LETTERS := He.str_ok X G (c.fact 37)
  c_WAY := He.str_ok X G (c.fact 38)
  c_LINE := He.str_ok X G (c.fact 39)
  c_TO := He.str_ok X G (c.fact 40)
  c_FIGURES := He.str_ok X G (c.fact 41)
  c_NOUGHT := He.str_ok X G (c.fact 42)
  c_STAY := He.str_ok X G (c.fact 43)
  fd_Net_own_stops := ⟨(cdB_ok (W := wd K) (c := 7) (c.fact 51) rfl rfl), fun _ => ⟨He.noat_ok (c.fact 52), rfl, (show (clsF 7).Nodup by decide +kernel), (show (clsF 7).length < 1000 by decide +kernel)⟩, fun h => (by cases h)⟩
  fd_Seen_own_net := ⟨(cdB_ok (W := wd K) (c := 2) (c.fact 46) rfl rfl), fun _ => ⟨He.noat_ok (c.fact 53), rfl, (show (clsF 2).Nodup by decide +kernel), (show (clsF 2).length < 1000 by decide +kernel)⟩, fun h => (by cases h)⟩
  fd_Net_own_lines := ⟨(cdB_ok (W := wd K) (c := 7) (c.fact 51) rfl rfl), fun _ => ⟨He.noat_ok (c.fact 54), rfl, (show (clsF 7).Nodup by decide +kernel), (show (clsF 7).length < 1000 by decide +kernel)⟩, fun h => (by cases h)⟩
  fd_Book_own_gaps := ⟨(cdB_ok (W := wd K) (c := 1) (c.fact 45) rfl rfl), fun _ => ⟨He.noat_ok (c.fact 55), rfl, (show (clsF 1).Nodup by decide +kernel), (show (clsF 1).length < 1000 by decide +kernel)⟩, fun h => (by cases h)⟩
  fd_Book_own_looks := ⟨(cdB_ok (W := wd K) (c := 1) (c.fact 45) rfl rfl), fun _ => ⟨He.noat_ok (c.fact 56), rfl, (show (clsF 1).Nodup by decide +kernel), (show (clsF 1).length < 1000 by decide +kernel)⟩, fun h => (by cases h)⟩
  fd_Seen_own_looks := ⟨(cdB_ok (W := wd K) (c := 2) (c.fact 46) rfl rfl), fun _ => ⟨He.noat_ok (c.fact 57), rfl, (show (clsF 2).Nodup by decide +kernel), (show (clsF 2).length < 1000 by decide +kernel)⟩, fun h => (by cases h)⟩
  fd_Track_own_masks := ⟨(cdB_ok (W := wd K) (c := 0) (c.fact 44) rfl rfl), fun _ => ⟨He.noat_ok (c.fact 58), rfl, (show (clsF 0).Nodup by decide +kernel), (show (clsF 0).length < 1000 by decide +kernel)⟩, fun h => (by cases h)⟩
  fd_Track_own_begin := ⟨(cdB_ok (W := wd K) (c := 0) (c.fact 44) rfl rfl), fun _ => ⟨He.noat_ok (c.fact 59), rfl, (show (clsF 0).Nodup by decide +kernel), (show (clsF 0).length < 1000 by decide +kernel)⟩, fun h => (by cases h)⟩
  fd_Track_own_gaps := ⟨(cdB_ok (W := wd K) (c := 0) (c.fact 44) rfl rfl), fun _ => ⟨He.noat_ok (c.fact 60), rfl, (show (clsF 0).Nodup by decide +kernel), (show (clsF 0).length < 1000 by decide +kernel)⟩, fun h => (by cases h)⟩
  fd_Gaps_own_most := ⟨(cdB_ok (W := wd K) (c := 5) (c.fact 49) rfl rfl), fun _ => ⟨He.noat_ok (c.fact 61), rfl, (show (clsF 5).Nodup by decide +kernel), (show (clsF 5).length < 1000 by decide +kernel)⟩, fun h => (by cases h)⟩
  fd_Gaps_own_least := ⟨(cdB_ok (W := wd K) (c := 5) (c.fact 49) rfl rfl), fun _ => ⟨He.noat_ok (c.fact 62), rfl, (show (clsF 5).Nodup by decide +kernel), (show (clsF 5).length < 1000 by decide +kernel)⟩, fun h => (by cases h)⟩
  fd_Day_own_begun := ⟨(cdB_ok (W := wd K) (c := 4) (c.fact 48) rfl rfl), fun h => (by cases h), fun _ => ⟨_, slB_ok (c.fact 63) (by decide)⟩⟩
  fd_Day_own_past := ⟨(cdB_ok (W := wd K) (c := 4) (c.fact 48) rfl rfl), fun h => (by cases h), fun _ => ⟨_, slB_ok (c.fact 64) (by decide)⟩⟩
  fd_Moment_line := ⟨(cdB_ok (W := wd K) (c := 3) (c.fact 47) rfl rfl), fun h => (by cases h), fun _ => ⟨_, slB_ok (c.fact 65) (by decide)⟩⟩
  fd_Moment_known := ⟨(cdB_ok (W := wd K) (c := 3) (c.fact 47) rfl rfl), fun h => (by cases h), fun _ => ⟨_, slB_ok (c.fact 66) (by decide)⟩⟩
  fd_Moment_place := ⟨(cdB_ok (W := wd K) (c := 3) (c.fact 47) rfl rfl), fun h => (by cases h), fun _ => ⟨_, slB_ok (c.fact 67) (by decide)⟩⟩
  fd_Moment_now := ⟨(cdB_ok (W := wd K) (c := 3) (c.fact 47) rfl rfl), fun h => (by cases h), fun _ => ⟨_, slB_ok (c.fact 68) (by decide)⟩⟩
  fd_Day_own_later := ⟨(cdB_ok (W := wd K) (c := 4) (c.fact 48) rfl rfl), fun h => (by cases h), fun _ => ⟨_, slB_ok (c.fact 69) (by decide)⟩⟩
  fd_Day_own_block := ⟨(cdB_ok (W := wd K) (c := 4) (c.fact 48) rfl rfl), fun h => (by cases h), fun _ => ⟨_, slB_ok (c.fact 70) (by decide)⟩⟩
  fd_Draft_own_stops := ⟨(cdB_ok (W := wd K) (c := 6) (c.fact 50) rfl rfl), fun _ => ⟨He.noat_ok (c.fact 71), rfl, (show (clsF 6).Nodup by decide +kernel), (show (clsF 6).length < 1000 by decide +kernel)⟩, fun h => (by cases h)⟩
  fd_Draft_own_ways := ⟨(cdB_ok (W := wd K) (c := 6) (c.fact 50) rfl rfl), fun _ => ⟨He.noat_ok (c.fact 72), rfl, (show (clsF 6).Nodup by decide +kernel), (show (clsF 6).length < 1000 by decide +kernel)⟩, fun h => (by cases h)⟩
  fd_Draft_own_lines := ⟨(cdB_ok (W := wd K) (c := 6) (c.fact 50) rfl rfl), fun _ => ⟨He.noat_ok (c.fact 73), rfl, (show (clsF 6).Nodup by decide +kernel), (show (clsF 6).length < 1000 by decide +kernel)⟩, fun h => (by cases h)⟩
  fd_Net_own_text := ⟨(cdB_ok (W := wd K) (c := 7) (c.fact 51) rfl rfl), fun _ => ⟨He.noat_ok (c.fact 74), rfl, (show (clsF 7).Nodup by decide +kernel), (show (clsF 7).length < 1000 by decide +kernel)⟩, fun h => (by cases h)⟩
  fd_Net_own_ways := ⟨(cdB_ok (W := wd K) (c := 7) (c.fact 51) rfl rfl), fun _ => ⟨He.noat_ok (c.fact 75), rfl, (show (clsF 7).Nodup by decide +kernel), (show (clsF 7).length < 1000 by decide +kernel)⟩, fun h => (by cases h)⟩
  cd_Track := (cdB_ok (W := wd K) (c := 0) (c.fact 44) rfl rfl)
  sl_Track := rfl
  an_Track := rfl
  cd_Book := (cdB_ok (W := wd K) (c := 1) (c.fact 45) rfl rfl)
  sl_Book := rfl
  an_Book := rfl
  cd_Seen := (cdB_ok (W := wd K) (c := 2) (c.fact 46) rfl rfl)
  sl_Seen := rfl
  an_Seen := rfl
  cd_Moment := (cdB_ok (W := wd K) (c := 3) (c.fact 47) rfl rfl)
  sl_Moment := rfl
  an_Moment := rfl
  cd_Day := (cdB_ok (W := wd K) (c := 4) (c.fact 48) rfl rfl)
  sl_Day := rfl
  an_Day := rfl
  cd_Gaps := (cdB_ok (W := wd K) (c := 5) (c.fact 49) rfl rfl)
  sl_Gaps := rfl
  an_Gaps := rfl
  cd_Draft := (cdB_ok (W := wd K) (c := 6) (c.fact 50) rfl rfl)
  sl_Draft := rfl
  an_Draft := rfl
  cd_Net := (cdB_ok (W := wd K) (c := 7) (c.fact 51) rfl rfl)
  sl_Net := rfl
  an_Net := rfl
  F_law_cells := let ⟨fd, h⟩ := c.def_ 0 (d := z_law_cells) rfl; ⟨_, fd, _, He.glo_ok X G (c.fact 76), h, rfl⟩
  F_law_pot := let ⟨fd, h⟩ := c.def_ 1 (d := z_law_pot) rfl; ⟨_, fd, _, He.glo_ok X G (c.fact 77), h, rfl⟩
  F_law_take := let ⟨fd, h⟩ := c.def_ 2 (d := z_law_take) rfl; ⟨_, fd, _, He.glo_ok X G (c.fact 78), h, rfl⟩
  F_law_some := let ⟨fd, h⟩ := c.def_ 3 (d := z_law_some) rfl; ⟨_, fd, _, He.glo_ok X G (c.fact 79), h, rfl⟩
  F_law_stop_names := let ⟨fd, h⟩ := c.def_ 4 (d := z_law_stop_names) rfl; ⟨_, fd, _, He.glo_ok X G (c.fact 80), h, rfl⟩
  F_law_line_names := let ⟨fd, h⟩ := c.def_ 5 (d := z_law_line_names) rfl; ⟨_, fd, _, He.glo_ok X G (c.fact 81), h, rfl⟩
  F_law_of := let ⟨fd, h⟩ := c.def_ 6 (d := z_law_of) rfl; ⟨_, fd, _, He.glo_ok X G (c.fact 82), h, rfl⟩
  F_Net_check_stop := let ⟨fd, h⟩ := c.def_ 7 (d := z_Net_check_stop) rfl; ⟨_, fd, _, (fnB_ok (c.fact 83)).1, (fnB_ok (c.fact 83)).2, h⟩
  F_Seen_net := let ⟨fd, h⟩ := c.def_ 8 (d := z_Seen_net) rfl; ⟨_, _, fd, ppB_ok (c.fact 84), h⟩
  F_is_integer := let ⟨fd, h⟩ := c.def_ 9 (d := z_is_integer) rfl; ⟨_, fd, _, He.glo_ok X G (c.fact 85), h, rfl⟩
  F_is_minute := let ⟨fd, h⟩ := c.def_ 10 (d := z_is_minute) rfl; ⟨_, fd, _, He.glo_ok X G (c.fact 86), h, rfl⟩
  F_check_minute := let ⟨fd, h⟩ := c.def_ 11 (d := z_check_minute) rfl; ⟨_, fd, _, He.glo_ok X G (c.fact 87), h, rfl⟩
  F_check_start := let ⟨fd, h⟩ := c.def_ 12 (d := z_check_start) rfl; ⟨_, fd, _, He.glo_ok X G (c.fact 88), h, rfl⟩
  F_Net_lines := let ⟨fd, h⟩ := c.def_ 13 (d := z_Net_lines) rfl; ⟨_, _, fd, ppB_ok (c.fact 89), h⟩
  F_Net_contains := let ⟨fd, h⟩ := c.def_ 14 (d := z_Net_contains) rfl; ⟨_, fd, _, (fnB_ok (c.fact 90)).1, (fnB_ok (c.fact 90)).2, h⟩
  F_Net_check_line := let ⟨fd, h⟩ := c.def_ 15 (d := z_Net_check_line) rfl; ⟨_, fd, _, (fnB_ok (c.fact 91)).1, (fnB_ok (c.fact 91)).2, h⟩
  F_Net_getitem := let ⟨fd, h⟩ := c.def_ 16 (d := z_Net_getitem) rfl; ⟨_, fd, _, (fnB_ok (c.fact 92)).1, (fnB_ok (c.fact 92)).2, h⟩
  F_is_tuple := let ⟨fd, h⟩ := c.def_ 17 (d := z_is_tuple) rfl; ⟨_, fd, _, He.glo_ok X G (c.fact 93), h, rfl⟩
  F_are_ends := let ⟨fd, h⟩ := c.def_ 18 (d := z_are_ends) rfl; ⟨_, fd, _, He.glo_ok X G (c.fact 94), h, rfl⟩
  F_is_look := let ⟨fd, h⟩ := c.def_ 19 (d := z_is_look) rfl; ⟨_, fd, _, He.glo_ok X G (c.fact 95), h, rfl⟩
  F_do_rise := let ⟨fd, h⟩ := c.def_ 20 (d := z_do_rise) rfl; ⟨_, fd, _, He.glo_ok X G (c.fact 96), h, rfl⟩
  F_are_looks := let ⟨fd, h⟩ := c.def_ 21 (d := z_are_looks) rfl; ⟨_, fd, _, He.glo_ok X G (c.fact 97), h, rfl⟩
  F_Book_init := let ⟨fd, h⟩ := c.def_ 22 (d := z_Book_init) rfl; ⟨_, fd, _, _, He.glo_ok X G (c.fact 98), He.mkr_ok (c.fact 99), h, rfl⟩
  F_looks_at := let ⟨fd, h⟩ := c.def_ 23 (d := z_looks_at) rfl; ⟨_, fd, _, He.glo_ok X G (c.fact 100), h, rfl⟩
  F_Seen_getitem := let ⟨fd, h⟩ := c.def_ 24 (d := z_Seen_getitem) rfl; ⟨_, fd, _, (fnB_ok (c.fact 101)).1, (fnB_ok (c.fact 101)).2, h⟩
  F_Track_first_void := let ⟨fd, h⟩ := c.def_ 25 (d := z_Track_first_void) rfl; ⟨_, fd, _, (fnB_ok (c.fact 102)).1, (fnB_ok (c.fact 102)).2, h⟩
  F_cars_in := let ⟨fd, h⟩ := c.def_ 26 (d := z_cars_in) rfl; ⟨_, fd, _, He.glo_ok X G (c.fact 103), h, rfl⟩
  F_empty_in := let ⟨fd, h⟩ := c.def_ 27 (d := z_empty_in) rfl; ⟨_, fd, _, He.glo_ok X G (c.fact 104), h, rfl⟩
  F_Gaps_most := let ⟨fd, h⟩ := c.def_ 28 (d := z_Gaps_most) rfl; ⟨_, _, fd, ppB_ok (c.fact 105), h⟩
  F_all_ages := let ⟨fd, h⟩ := c.def_ 29 (d := z_all_ages) rfl; ⟨_, fd, _, He.glo_ok X G (c.fact 106), h, rfl⟩
  F_Gaps_least := let ⟨fd, h⟩ := c.def_ 30 (d := z_Gaps_least) rfl; ⟨_, _, fd, ppB_ok (c.fact 107), h⟩
  F_due_ages := let ⟨fd, h⟩ := c.def_ 31 (d := z_due_ages) rfl; ⟨_, fd, _, He.glo_ok X G (c.fact 108), h, rfl⟩
  F_masks_from := let ⟨fd, h⟩ := c.def_ 32 (d := z_masks_from) rfl; ⟨_, fd, _, He.glo_ok X G (c.fact 109), h, rfl⟩
  F_Track_init := let ⟨fd, h⟩ := c.def_ 33 (d := z_Track_init) rfl; ⟨_, fd, _, _, He.glo_ok X G (c.fact 110), He.mkr_ok (c.fact 111), h, rfl⟩
  F_first_looked := let ⟨fd, h⟩ := c.def_ 34 (d := z_first_looked) rfl; ⟨_, fd, _, He.glo_ok X G (c.fact 112), h, rfl⟩
  F_last_looked := let ⟨fd, h⟩ := c.def_ 35 (d := z_last_looked) rfl; ⟨_, fd, _, He.glo_ok X G (c.fact 113), h, rfl⟩
  F_is_possible := let ⟨fd, h⟩ := c.def_ 36 (d := z_is_possible) rfl; ⟨_, fd, _, He.glo_ok X G (c.fact 114), h, rfl⟩
  F_Book_gaps := let ⟨fd, h⟩ := c.def_ 37 (d := z_Book_gaps) rfl; ⟨_, _, fd, ppB_ok (c.fact 115), h⟩
  F_Book_looks := let ⟨fd, h⟩ := c.def_ 38 (d := z_Book_looks) rfl; ⟨_, _, fd, ppB_ok (c.fact 116), h⟩
  F_Seen_check_lines := let ⟨fd, h⟩ := c.def_ 39 (d := z_Seen_check_lines) rfl; ⟨_, fd, _, (fnB_ok (c.fact 117)).1, (fnB_ok (c.fact 117)).2, h⟩
  F_check_late := let ⟨fd, h⟩ := c.def_ 40 (d := z_check_late) rfl; ⟨_, fd, _, He.glo_ok X G (c.fact 118), h, rfl⟩
  F_Net_leaving := let ⟨fd, h⟩ := c.def_ 41 (d := z_Net_leaving) rfl; ⟨_, fd, _, (fnB_ok (c.fact 119)).1, (fnB_ok (c.fact 119)).2, h⟩
  F_check_cars := let ⟨fd, h⟩ := c.def_ 42 (d := z_check_cars) rfl; ⟨_, fd, _, He.glo_ok X G (c.fact 120), h, rfl⟩
  F_up_to := let ⟨fd, h⟩ := c.def_ 43 (d := z_up_to) rfl; ⟨_, fd, _, He.glo_ok X G (c.fact 121), h, rfl⟩
  F_ages_in := let ⟨fd, h⟩ := c.def_ 44 (d := z_ages_in) rfl; ⟨_, fd, _, He.glo_ok X G (c.fact 122), h, rfl⟩
  F_Track_mask_at := let ⟨fd, h⟩ := c.def_ 45 (d := z_Track_mask_at) rfl; ⟨_, fd, _, (fnB_ok (c.fact 123)).1, (fnB_ok (c.fact 123)).2, h⟩
  F_Book_ages := let ⟨fd, h⟩ := c.def_ 46 (d := z_Book_ages) rfl; ⟨_, fd, _, (fnB_ok (c.fact 124)).1, (fnB_ok (c.fact 124)).2, h⟩
  F_can_be := let ⟨fd, h⟩ := c.def_ 47 (d := z_can_be) rfl; ⟨_, fd, _, He.glo_ok X G (c.fact 125), h, rfl⟩
  F_Seen_looks := let ⟨fd, h⟩ := c.def_ 48 (d := z_Seen_looks) rfl; ⟨_, _, fd, ppB_ok (c.fact 126), h⟩
  F_is_told := let ⟨fd, h⟩ := c.def_ 49 (d := z_is_told) rfl; ⟨_, fd, _, He.glo_ok X G (c.fact 127), h, rfl⟩
  F_put_to := let ⟨fd, h⟩ := c.def_ 50 (d := z_put_to) rfl; ⟨_, fd, _, He.glo_ok X G (c.fact 128), h, rfl⟩
  F_is_pair := let ⟨fd, h⟩ := c.def_ 51 (d := z_is_pair) rfl; ⟨_, fd, _, He.glo_ok X G (c.fact 129), h, rfl⟩
  F_Seen_init := let ⟨fd, h⟩ := c.def_ 52 (d := z_Seen_init) rfl; ⟨_, fd, _, _, He.glo_ok X G (c.fact 130), He.mkr_ok (c.fact 131), h, rfl⟩
  F_looked := let ⟨fd, h⟩ := c.def_ 53 (d := z_looked) rfl; ⟨_, fd, _, He.glo_ok X G (c.fact 132), h, rfl⟩
  F_cars_text := let ⟨fd, h⟩ := c.def_ 54 (d := z_cars_text) rfl; ⟨_, fd, _, He.glo_ok X G (c.fact 133), h, rfl⟩
  F_Moment_init := let ⟨fd, h⟩ := c.def_ 55 (d := z_Moment_init) rfl; ⟨_, fd, _, _, He.glo_ok X G (c.fact 134), He.mkr_ok (c.fact 135), h, rfl⟩
  F_Day_init := let ⟨fd, h⟩ := c.def_ 56 (d := z_Day_init) rfl; ⟨_, fd, _, _, He.glo_ok X G (c.fact 136), He.mkr_ok (c.fact 137), h, rfl⟩
  F_is_name := let ⟨fd, h⟩ := c.def_ 57 (d := z_is_name) rfl; ⟨_, fd, _, He.glo_ok X G (c.fact 138), h, rfl⟩
  F_stops_in := let ⟨fd, h⟩ := c.def_ 58 (d := z_stops_in) rfl; ⟨_, fd, _, He.glo_ok X G (c.fact 139), h, rfl⟩
  F_Draft_init := let ⟨fd, h⟩ := c.def_ 59 (d := z_Draft_init) rfl; ⟨_, fd, _, _, He.glo_ok X G (c.fact 140), He.mkr_ok (c.fact 141), h, rfl⟩
  F_number_in := let ⟨fd, h⟩ := c.def_ 60 (d := z_number_in) rfl; ⟨_, fd, _, He.glo_ok X G (c.fact 142), h, rfl⟩
  F_rides_in := let ⟨fd, h⟩ := c.def_ 61 (d := z_rides_in) rfl; ⟨_, fd, _, He.glo_ok X G (c.fact 143), h, rfl⟩
  F_Gaps_init := let ⟨fd, h⟩ := c.def_ 62 (d := z_Gaps_init) rfl; ⟨_, fd, _, _, He.glo_ok X G (c.fact 144), He.mkr_ok (c.fact 145), h, rfl⟩
  F_Draft_take_line := let ⟨fd, h⟩ := c.def_ 63 (d := z_Draft_take_line) rfl; ⟨_, fd, _, (fnB_ok (c.fact 146)).1, (fnB_ok (c.fact 146)).2, h⟩
  F_Draft_take := let ⟨fd, h⟩ := c.def_ 64 (d := z_Draft_take) rfl; ⟨_, fd, _, (fnB_ok (c.fact 147)).1, (fnB_ok (c.fact 147)).2, h⟩
  F_draft_in := let ⟨fd, h⟩ := c.def_ 65 (d := z_draft_in) rfl; ⟨_, fd, _, He.glo_ok X G (c.fact 148), h, rfl⟩
  F_Net_init := let ⟨fd, h⟩ := c.def_ 66 (d := z_Net_init) rfl; ⟨_, fd, _, _, He.glo_ok X G (c.fact 149), He.mkr_ok (c.fact 150), h, rfl⟩
  F_law_line_text := let ⟨fd, h⟩ := c.def_ 67 (d := z_law_line_text) rfl; ⟨_, fd, _, He.glo_ok X G (c.fact 151), h, rfl⟩
  F_law_net_text := let ⟨fd, h⟩ := c.def_ 68 (d := z_law_net_text) rfl; ⟨_, fd, _, He.glo_ok X G (c.fact 152), h, rfl⟩
  F_law_due := let ⟨fd, h⟩ := c.def_ 69 (d := z_law_due) rfl; ⟨_, fd, _, He.glo_ok X G (c.fact 153), h, rfl⟩
  F_Day_moment := let ⟨fd, h⟩ := c.def_ 70 (d := z_Day_moment) rfl; ⟨_, _, fd, ppB_ok (c.fact 154), h⟩
  F_Day_seen := let ⟨fd, h⟩ := c.def_ 71 (d := z_Day_seen) rfl; ⟨_, _, fd, ppB_ok (c.fact 155), h⟩
  F_Day_minute := let ⟨fd, h⟩ := c.def_ 72 (d := z_Day_minute) rfl; ⟨_, _, fd, ppB_ok (c.fact 156), h⟩
  F_Day_go := let ⟨fd, h⟩ := c.def_ 73 (d := z_Day_go) rfl; ⟨_, fd, _, (fnB_ok (c.fact 157)).1, (fnB_ok (c.fact 157)).2, h⟩
  F_Day_stop := let ⟨fd, h⟩ := c.def_ 74 (d := z_Day_stop) rfl; ⟨_, _, fd, ppB_ok (c.fact 158), h⟩
  F_Day_stay := let ⟨fd, h⟩ := c.def_ 75 (d := z_Day_stay) rfl; ⟨_, fd, _, (fnB_ok (c.fact 159)).1, (fnB_ok (c.fact 159)).2, h⟩
  F_law_right := let ⟨fd, h⟩ := c.def_ 76 (d := z_law_right) rfl; ⟨_, fd, _, He.glo_ok X G (c.fact 160), h, rfl⟩
  F_law := let ⟨fd, h⟩ := c.def_ 77 (d := z_law) rfl; ⟨_, fd, _, He.glo_ok X G (c.fact 161), h, rfl⟩
end G
end
/- G4_k52 -/
section
set_option maxHeartbeats 0
namespace G
open PySem L2 Tr
abbrev R : PySem.W.OpenRow := PySem.W.OpenLaw.row PySem.Challenge.rw_lastcame_k52_what_is_put_to_seen
abbrev hk : PySem.W.Hook := hookZ namesX namesY exL fnL
def ob (s : PySem.W.SharedT) : AlZ := obsZ namesX namesY exL fnL (HandSHeadRun.getT s)
theorem ob_eq (s : PySem.W.SharedT) : ob s = hk.obs s.abs := obsZ_eq (HandSHeadRun.getT_eq s)
theorem opt3 {α β γ δ : Type} {o : Option α} {f : α → β} {g : α → γ} {h : α → δ} {a : β} {b : γ} {c : δ} (e : o.map f = some a) (k : o.map g = some b) (l : o.map h = some c) : o.map (fun s => (f s, g s, h s)) = some (a, b, c) := by
  cases o with
  | none => cases e
  | some x => cases e; cases k; cases l; rfl
noncomputable section
open PySem.W PySem.Calls PyProof.Rows HandSHeadRun
abbrev qv : Program := view R.prog [116]
def lookA (w : World) (s : SharedT) : Bool := looksF R.prog (boot_heap w.params) s.abs
abbrev lookB (s : SharedT) := HandSHeadRun.seenQ qv names (importedModules R.prog.main.body) (fun s => xlAt qv [] s && recOk R.toRowW.records s) s.abs
theorem runA (w : World) (os : OsState) : (endF (stepQ (denQ tabQ) R.prog w) 16000 R.prog w os).map (lookA w) = some true := by kernel_rfl
theorem runB (w : World) (os : OsState) : (endF (stepQ (denQ tabQ) R.prog w) 16000 R.prog w os).map lookB = some (openGood qv names) := by kernel_rfl
def frK (s : SharedT) : PySem.W.Frag := He.frG (HandSHeadRun.getT s) (asZ namesX namesY (HandSHeadRun.getT s))
theorem optP {α γ : Type} {o : Option α} {f g : α → Bool} {h : α → γ} {c : γ} (e : o.map f = some true) (k : o.map g = some true) (l : o.map h = some c) : o.map (fun s => ((f s && g s), h s)) = some (true, c) := by
  cases o with
  | none => cases e
  | some x =>
    have e1 : f x = true := Option.some.inj e
    have e2 : g x = true := Option.some.inj k
    have e3 : h x = c := Option.some.inj l
    show some ((f x && g x), h x) = _
    rw [e1, e2, e3]
    rfl
theorem runC1 (w : World) (os : OsState) : (endF (stepQ (denQ tabQ) R.prog w) 16000 R.prog w os).map (fun s => exL.all fun f => f (frK s)) = some true := by kernel_rfl
theorem runC2 (w : World) (os : OsState) : (endF (stepQ (denQ tabQ) R.prog w) 16000 R.prog w os).map (fun s => fnL.all fun d => d.ok (frK s)) = some true := by kernel_rfl
theorem runC3 (w : World) (os : OsState) : (endF (stepQ (denQ tabQ) R.prog w) 16000 R.prog w os).map (fun s => fnL.map fun d => fnZ (frK s) (d.ad (frK s))) = some (fnL.map DZ.val) := by kernel_rfl
theorem runC (w : World) (os : OsState) : (endF (stepQ (denQ tabQ) R.prog w) 16000 R.prog w os).map ob = some (hk.val w) := optP (runC1 w os) (runC2 w os) (runC3 w os)
theorem run (w : World) : RunEq R qv hk ob 16000 names w := fun os => opt3 (runA w os) (runB w os) (runC w os)
end
end G
end
/- G2 -/
section
set_option maxHeartbeats 1000000
namespace G
open PySem L2 Tr
theorem sc_law_cells : FnScope ["_law_script", "_law_most"] ["_law_script", "_law_most"] (defScope (top 109)) := ⟨rfl, rfl, rfl, by decide +kernel, rfl, by decide +kernel, by decide +kernel⟩
theorem ok_law_cells {P : Program} {w : World} {K : PySem.W.Frag} {mg : Str → Option Value} {base : Heap} {W : Wd} (T : Txt K mg W) : GD P w K mg base W 1 "_law_cells" f_law_cells := by
  refine gd_of (ps := ["_law_script", "_law_most"]) T.F_law_cells sc_law_cells (fun _ _ _ _ _ _ us hl => match us, hl with | [_, _], _ => rfl) fun f cdv A outer s H E hr => ?_
  exact (sb_one (ss_ret (se_ofN (sn_listRange rfl rfl T.b_list rfl T.b_range (se_bi (cd_max rfl) rfl T.b_max (by decide +kernel) (sa_cons se_int (sa_cons (se_bi (cd_min rfl) rfl T.b_min (by decide +kernel) (sa_cons (se_v 1) (sa_cons (se_bi cd_len rfl T.b_len (by decide +kernel) (sa_cons (se_v 0) sa_nil)) sa_nil))) sa_nil)))))))
theorem sc_law_pot : FnScope ["_law_script", "_law_place", "_law_cell", "_law_own", "_law_base"] ["_law_script", "_law_place"] (defScope (top 105)) := ⟨rfl, rfl, rfl, by decide +kernel, rfl, by decide +kernel, by decide +kernel⟩
theorem ok_law_pot {P : Program} {w : World} {K : PySem.W.Frag} {mg : Str → Option Value} {base : Heap} {W : Wd} (T : Txt K mg W) : GDN P w K mg base W 1 "_law_pot" f_law_pot := by
  refine gdn_of (ps := ["_law_script", "_law_place"]) T.F_law_pot sc_law_pot (fun _ _ _ _ _ _ us hl => match us, hl with | [_, _], _ => rfl) fun f cdv A outer s H E hr => ?_
  exact (sbn_cons (ss_asg (se_if (st_cmp (od_lt (u64 hr)) (se_v 1) (se_bi cd_len rfl T.b_len (by decide +kernel) (sa_cons (se_v 0) sa_nil)) rfl) (se_ix (se_v 0) (se_v 1)) (se_op od_add (se_op od_mul se_int (se_v 1)) se_int)) (sg_name 2 sc_law_pot.nd))
    (sbn_cons (ss_asg (se_op od_mul (se_op od_mod (se_ty cd_int rfl T.b_int (by decide +kernel) (sa_cons (se_bi cd_abs rfl T.b_abs (by decide +kernel) (sa_cons (se_v 2) sa_nil)) sa_nil)) (se_op od_powW (se_op od_pow se_int se_int) se_int)) (se_ty cd_int rfl T.b_int (by decide +kernel) (sa_cons (se_cmp od_ge (se_bi cd_abs rfl T.b_abs (by decide +kernel) (sa_cons (se_v 2) sa_nil)) (se_op od_pow se_int se_int) rfl) sa_nil))) (sg_name 3 sc_law_pot.nd))
    (sbn_cons (ss_asg (se_op od_add (se_op od_add (se_op od_mul (se_op od_mod (se_ty cd_int rfl T.b_int (by decide +kernel) (sa_cons (se_v 2) sa_nil)) se_int) se_int) (se_op od_mul (se_op od_mul se_int (se_v 1)) (se_v 1))) se_int) (sg_name 4 sc_law_pot.nd))
    (sbn_ret (sn_lst (sa_cons (se_v 3) (sa_cons (se_op od_mod (se_ty cd_int rfl T.b_int (by decide +kernel) (sa_cons (se_v 4) sa_nil)) se_int) (sa_cons se_int sa_nil))))))))
theorem sc_law_take : FnScope ["_law_pot_here", "_law_many", "_law_digit", "_law_turn", "_law_mixed"] ["_law_pot_here", "_law_many"] (defScope (top 106)) := ⟨rfl, rfl, rfl, by decide +kernel, rfl, by decide +kernel, by decide +kernel⟩
theorem ok_law_take {P : Program} {w : World} {K : PySem.W.Frag} {mg : Str → Option Value} {base : Heap} {W : Wd} (T : Txt K mg W) : GD P w K mg base W 1 "_law_take" f_law_take := by
  refine gd_of (ps := ["_law_pot_here", "_law_many"]) T.F_law_take sc_law_take (fun _ _ _ _ _ _ us hl => match us, hl with | [_, _], _ => rfl) fun f cdv A outer s H E hr => ?_
  exact (sb_cons (ss_if (st_cmp od_gt (se_ixO 0 se_int) se_int rfl) (sb_cons (ss_asg (se_op od_mod (se_ty cd_int rfl T.b_int (by decide +kernel) (sa_cons (se_ixO 0 se_int) sa_nil)) (se_v 1)) (sg_name 2 sc_law_take.nd))
    (sb_cons (ss_setO 0 (se_op od_div (se_ixO 0 se_int) (se_v 1)) se_int)
    (sb_one (ss_ret (se_v 2))))) sb_nil)
    (sb_cons (ss_asg (se_op od_add (se_ixO 0 se_int) se_int) (sg_name 3 sc_law_take.nd))
    (sb_cons (ss_setO 0 (se_v 3) se_int)
    (sb_cons (ss_asg (se_op od_mod (se_ty cd_int rfl T.b_int (by decide +kernel) (sa_cons (se_op od_mul (se_op od_add (se_op od_add (se_ixO 0 se_int) (se_op od_mul (se_op od_mul se_int (se_v 3)) (se_v 3))) se_int) se_int) sa_nil)) se_int) (sg_name 4 sc_law_take.nd))
    (sb_cons (ss_asg (se_op od_mod (se_ty cd_int rfl T.b_int (by decide +kernel) (sa_cons (se_op od_mul (se_v 4) (se_op od_add (se_op od_mod (se_ty cd_int rfl T.b_int (by decide +kernel) (sa_cons (se_v 4) sa_nil)) se_int) (se_op od_mul se_int (se_v 3)))) sa_nil)) se_int) (sg_name 4 sc_law_take.nd))
    (sb_one (ss_ret (se_op od_mod (se_ty cd_int rfl T.b_int (by decide +kernel) (sa_cons (se_op od_add (se_op od_div (se_v 4) se_int) (se_op od_div (se_v 4) se_int)) sa_nil)) (se_v 1)))))))))
theorem sc_law_some : FnScope ["_law_pot_here", "_law_pool", "_law_many", "_law_left", "_law_found", "_law_turn"] ["_law_pot_here", "_law_pool", "_law_many"] (defScope (top 108)) := ⟨rfl, rfl, rfl, by decide +kernel, rfl, by decide +kernel, by decide +kernel⟩
theorem ok_law_some {P : Program} {w : World} {K : PySem.W.Frag} {mg : Str → Option Value} {base : Heap} {W : Wd} (T : Txt K mg W) : GD P w K mg base W 2 "_law_some" f_law_some := by
  refine gd_of (ps := ["_law_pot_here", "_law_pool", "_law_many"]) T.F_law_some sc_law_some (fun _ _ _ _ _ _ us hl => match us, hl with | [_, _, _], _ => rfl) fun f cdv A outer s H E hr => ?_
  exact (sb_cons (ss_parL (i := 3) (j := 4) (sn_list rfl T.b_list (by decide +kernel) (se_v 1)) rfl sc_law_some.nd rfl rfl (by decide) rfl rfl rfl)
    (sb_cons (ss_for cx_own rfl (si_range1 rfl T.b_range (sa_cons (se_v 2) sa_nil)) (sg_name 5 sc_law_some.nd) (sb_one (ss_expr (se_append 4 (se_popAt 3 (se_callO 0 (ok_law_take T) (hr.mono (by decide)) cx_passes rfl rfl (sa_cons (se_lenO 3 rfl T.b_len (by decide +kernel)) sa_nil)))))))
    (sb_one (ss_ret (se_fz 4)))))
theorem sc_law_stop_names : FnScope ["_law_pot_here", "_law_many", "_law_pool"] ["_law_pot_here", "_law_many"] (defScope (top 110)) := ⟨rfl, rfl, rfl, by decide +kernel, rfl, by decide +kernel, by decide +kernel⟩
theorem ok_law_stop_names {P : Program} {w : World} {K : PySem.W.Frag} {mg : Str → Option Value} {base : Heap} {W : Wd} (T : Txt K mg W) : GD P w K mg base W 3 "_law_stop_names" f_law_stop_names := by
  refine gd_of (ps := ["_law_pot_here", "_law_many"]) T.F_law_stop_names sc_law_stop_names (fun _ _ _ _ _ _ us hl => match us, hl with | [_, _], _ => rfl) fun f cdv A outer s H E hr => ?_
  exact (sb_cons (ss_asg (se_lst (sa_cons se_str (sa_cons se_str (sa_cons se_str (sa_cons se_str (sa_cons se_str (sa_cons se_str (sa_cons se_str (sa_cons se_str (sa_cons se_str (sa_cons se_str (sa_cons se_str sa_nil)))))))))))) (sg_name 2 sc_law_stop_names.nd))
    (sb_one (ss_ret (se_callO 0 (ok_law_some T) (hr.mono (by decide)) cx_passes rfl rfl (sa_cons (se_v 2) (sa_cons (se_v 1) sa_nil))))))
theorem sc_law_line_names : FnScope ["_law_pot_here", "_law_many"] ["_law_pot_here", "_law_many"] (defScope (top 111)) := ⟨rfl, rfl, rfl, by decide +kernel, rfl, by decide +kernel, by decide +kernel⟩
theorem ok_law_line_names {P : Program} {w : World} {K : PySem.W.Frag} {mg : Str → Option Value} {base : Heap} {W : Wd} (T : Txt K mg W) : GD P w K mg base W 3 "_law_line_names" f_law_line_names := by
  refine gd_of (ps := ["_law_pot_here", "_law_many"]) T.F_law_line_names sc_law_line_names (fun _ _ _ _ _ _ us hl => match us, hl with | [_, _], _ => rfl) fun f cdv A outer s H E hr => ?_
  exact (sb_one (ss_ret (se_callO 0 (ok_law_some T) (hr.mono (by decide)) cx_passes rfl rfl (sa_cons (se_lst (sa_cons se_str (sa_cons se_str (sa_cons se_str (sa_cons se_str (sa_cons se_str (sa_cons se_str (sa_cons se_str (sa_cons se_str (sa_cons se_str (sa_cons se_str sa_nil))))))))))) (sa_cons (se_v 1) sa_nil)))))
theorem sc_law_of : FnScope ["_law_pot_here", "_law_some_here"] ["_law_pot_here", "_law_some_here"] (defScope (top 107)) := ⟨rfl, rfl, rfl, by decide +kernel, rfl, by decide +kernel, by decide +kernel⟩
theorem ok_law_of {P : Program} {w : World} {K : PySem.W.Frag} {mg : Str → Option Value} {base : Heap} {W : Wd} (T : Txt K mg W) : GD P w K mg base W 2 "_law_of" f_law_of := by
  refine gd_of (ps := ["_law_pot_here", "_law_some_here"]) T.F_law_of sc_law_of (fun _ _ _ _ _ _ us hl => match us, hl with | [_, _], _ => rfl) fun f cdv A outer s H E hr => ?_
  exact (sb_one (ss_ret (se_ix (se_v 1) (se_callO 0 (ok_law_take T) (hr.mono (by decide)) cx_passes rfl rfl (sa_cons (se_bi cd_len rfl T.b_len (by decide +kernel) (sa_cons (se_v 1) sa_nil)) sa_nil)))))
theorem sc_Net_check_stop : FnScope ["self", "value"] ["self", "value"] (defScope (mth 103 4)) := ⟨rfl, rfl, rfl, by decide +kernel, rfl, by decide +kernel, by decide +kernel⟩
theorem ok_Net_check_stop {P : Program} {w : World} {K : PySem.W.Frag} {mg : Str → Option Value} {base : Heap} {W : Wd} (T : Txt K mg W) : MD P w K mg base W 1 7 "check_stop" f_Net_check_stop := by
  refine md_of (ps := ["self", "value"]) T.cd_Net (by rw [T.an_Net]; decide) T.F_Net_check_stop sc_Net_check_stop (fun _ _ _ _ _ _ us hl => match us, hl with | [_, _], _ => rfl) fun f cdv A outer s H E hr => ?_
  exact (sb_one (ss_if (sw_t (sw_or (st_not (st_val (se_isi (x := "") ask_str (se_v 1) rfl T.b_isinstance rfl T.b_str (by decide +kernel)))) (sw_or1 (st_cmp (od_notIn (u64 hr)) (se_v 1) (se_fld (se_v 0) T.fd_Net_own_stops) rfl)))) sb_never sb_nil))
theorem sc_Seen_net : FnScope ["self"] ["self"] (defScope (mth 74 1)) := ⟨rfl, rfl, rfl, by decide +kernel, rfl, by decide +kernel, by decide +kernel⟩
theorem ok_Seen_net {P : Program} {w : World} {K : PySem.W.Frag} {mg : Str → Option Value} {base : Heap} {W : Wd} (T : Txt K mg W) : PD P w K mg base W 1 2 "net" f_Seen_net := by
  refine pd_of (ps := ["self"]) T.cd_Seen T.F_Seen_net sc_Seen_net (fun _ _ _ _ _ _ us hl => match us, hl with | [_], _ => rfl) fun f cdv A outer s H E hr => ?_
  exact (sb_one (ss_ret (se_fld (se_v 0) T.fd_Seen_own_net)))
theorem sc_is_integer : FnScope ["value", "low", "high"] ["value", "low", "high"] (defScope (top 32)) := ⟨rfl, rfl, rfl, by decide +kernel, rfl, by decide +kernel, by decide +kernel⟩
theorem ok_is_integer {P : Program} {w : World} {K : PySem.W.Frag} {mg : Str → Option Value} {base : Heap} {W : Wd} (T : Txt K mg W) : GD P w K mg base W 1 "is_integer" f_is_integer := by
  refine gd_of1 (ps := ["value", "low", "high"]) (n := 2) T.F_is_integer sc_is_integer (by decide) (fun _ _ _ _ _ _ _ us its hl hi => match us, hl, its, hi with | [_, _, _], _, [_, _], _ => ⟨_, rfl, rfl⟩) fun f cdv A outer s H E hr => ?_
  exact (sb_cons (ss_if (sw_t (sw_or (st_not (st_val (se_isi (x := "") ask_int (se_v 0) rfl T.b_isinstance rfl T.b_int (by decide +kernel)))) (sw_or1 (st_val (se_isi (x := "") ask_bool (se_v 0) rfl T.b_isinstance rfl T.b_bool (by decide +kernel)))))) (sb_one (ss_ret se_bl)) sb_nil)
    (sb_one (ss_ret (se_and (se_or (se_cmp od_isN (se_v 1) se_non rfl) (se_one (se_cmp od_le (se_v 1) (se_v 0) rfl))) (se_one (se_or (se_cmp od_isN (se_v 2) se_non rfl) (se_one (se_cmp od_le (se_v 0) (se_v 2) rfl))))))))
theorem sc_is_minute : FnScope ["value"] ["value"] (defScope (top 42)) := ⟨rfl, rfl, rfl, by decide +kernel, rfl, by decide +kernel, by decide +kernel⟩
theorem ok_is_minute {P : Program} {w : World} {K : PySem.W.Frag} {mg : Str → Option Value} {base : Heap} {W : Wd} (T : Txt K mg W) : GD P w K mg base W 2 "is_minute" f_is_minute := by
  refine gd_of (ps := ["value"]) T.F_is_minute sc_is_minute (fun _ _ _ _ _ _ us hl => match us, hl with | [_], _ => rfl) fun f cdv A outer s H E hr => ?_
  exact (sb_one (ss_ret (se_call (ok_is_integer T) (hr.mono (by decide)) cx_passes rfl (sa_cons (se_v 0) (sa_cons se_int (sa_cons (se_gI rfl T.c_LAST_MINUTE) sa_nil))))))
theorem sc_check_minute : FnScope ["value"] ["value"] (defScope (top 63)) := ⟨rfl, rfl, rfl, by decide +kernel, rfl, by decide +kernel, by decide +kernel⟩
theorem ok_check_minute {P : Program} {w : World} {K : PySem.W.Frag} {mg : Str → Option Value} {base : Heap} {W : Wd} (T : Txt K mg W) : GD P w K mg base W 3 "check_minute" f_check_minute := by
  refine gd_of (ps := ["value"]) T.F_check_minute sc_check_minute (fun _ _ _ _ _ _ us hl => match us, hl with | [_], _ => rfl) fun f cdv A outer s H E hr => ?_
  exact (sb_one (ss_if (st_not (st_val (se_call (ok_is_minute T) (hr.mono (by decide)) cx_passes rfl (sa_cons (se_v 0) sa_nil)))) sb_never sb_nil))
theorem sc_check_start : FnScope ["seen", "start", "minute"] ["seen", "start", "minute"] (defScope (top 67)) := ⟨rfl, rfl, rfl, by decide +kernel, rfl, by decide +kernel, by decide +kernel⟩
theorem ok_check_start {P : Program} {w : World} {K : PySem.W.Frag} {mg : Str → Option Value} {base : Heap} {W : Wd} (T : Txt K mg W) : GD P w K mg base W 4 "check_start" f_check_start := by
  refine gd_of (ps := ["seen", "start", "minute"]) T.F_check_start sc_check_start (fun _ _ _ _ _ _ us hl => match us, hl with | [_, _, _], _ => rfl) fun f cdv A outer s H E hr => ?_
  exact (sb_cons (ss_expr (se_meth (se_prop (se_v 0) (ok_Seen_net T) (hr.mono (by decide))) (ok_Net_check_stop T) (hr.mono (by decide)) cx_passes (sa_cons (se_v 1) sa_nil)))
    (sb_one (ss_expr (se_call (ok_check_minute T) (hr.mono (by decide)) cx_passes rfl (sa_cons (se_v 2) sa_nil)))))
theorem sc_Net_lines : FnScope ["self"] ["self"] (defScope (mth 103 3)) := ⟨rfl, rfl, rfl, by decide +kernel, rfl, by decide +kernel, by decide +kernel⟩
theorem ok_Net_lines {P : Program} {w : World} {K : PySem.W.Frag} {mg : Str → Option Value} {base : Heap} {W : Wd} (T : Txt K mg W) : PD P w K mg base W 1 7 "lines" f_Net_lines := by
  refine pd_of (ps := ["self"]) T.cd_Net T.F_Net_lines sc_Net_lines (fun _ _ _ _ _ _ us hl => match us, hl with | [_], _ => rfl) fun f cdv A outer s H E hr => ?_
  exact (sb_one (ss_ret (se_ty (cd_tup rfl) rfl T.b_tuple (by decide +kernel) (sa_cons (se_fld (se_v 0) T.fd_Net_own_lines) sa_nil))))
theorem sc_Net_contains : FnScope ["self", "value"] ["self", "value"] (defScope (mth 103 12)) := ⟨rfl, rfl, rfl, by decide +kernel, rfl, by decide +kernel, by decide +kernel⟩
theorem ok_Net_contains {P : Program} {w : World} {K : PySem.W.Frag} {mg : Str → Option Value} {base : Heap} {W : Wd} (T : Txt K mg W) : MD P w K mg base W 1 7 "__contains__" f_Net_contains := by
  refine md_of (ps := ["self", "value"]) T.cd_Net (by rw [T.an_Net]; decide) T.F_Net_contains sc_Net_contains (fun _ _ _ _ _ _ us hl => match us, hl with | [_, _], _ => rfl) fun f cdv A outer s H E hr => ?_
  exact (sb_one (ss_ret (se_and (se_isi (x := "") ask_str (se_v 1) rfl T.b_isinstance rfl T.b_str (by decide +kernel)) (se_one (se_cmp (od_in (u64 hr)) (se_v 1) (se_fld (se_v 0) T.fd_Net_own_lines) rfl)))))
theorem sc_Net_check_line : FnScope ["self", "value"] ["self", "value"] (defScope (mth 103 5)) := ⟨rfl, rfl, rfl, by decide +kernel, rfl, by decide +kernel, by decide +kernel⟩
theorem ok_Net_check_line {P : Program} {w : World} {K : PySem.W.Frag} {mg : Str → Option Value} {base : Heap} {W : Wd} (T : Txt K mg W) : MD P w K mg base W 2 7 "check_line" f_Net_check_line := by
  refine md_of (ps := ["self", "value"]) T.cd_Net (by rw [T.an_Net]; decide) T.F_Net_check_line sc_Net_check_line (fun _ _ _ _ _ _ us hl => match us, hl with | [_, _], _ => rfl) fun f cdv A outer s H E hr => ?_
  exact (sb_one (ss_if (st_ninO (se_v 1) (se_v 0) (ok_Net_contains T) (hr.mono (by decide)) cx_passes) sb_never sb_nil))
theorem sc_Net_getitem : FnScope ["self", "line"] ["self", "line"] (defScope (mth 103 10)) := ⟨rfl, rfl, rfl, by decide +kernel, rfl, by decide +kernel, by decide +kernel⟩
theorem ok_Net_getitem {P : Program} {w : World} {K : PySem.W.Frag} {mg : Str → Option Value} {base : Heap} {W : Wd} (T : Txt K mg W) : MD P w K mg base W 3 7 "__getitem__" f_Net_getitem := by
  refine md_of (ps := ["self", "line"]) T.cd_Net (by rw [T.an_Net]; decide) T.F_Net_getitem sc_Net_getitem (fun _ _ _ _ _ _ us hl => match us, hl with | [_, _], _ => rfl) fun f cdv A outer s H E hr => ?_
  exact (sb_cons (ss_expr (se_meth (se_v 0) (ok_Net_check_line T) (hr.mono (by decide)) cx_passes (sa_cons (se_v 1) sa_nil)))
    (sb_one (ss_ret (se_dx (u64 hr) (se_fld (se_v 0) T.fd_Net_own_lines) (se_v 1)))))
theorem sc_is_tuple : FnScope ["value", "least", "most"] ["value", "least", "most"] (defScope (top 33)) := ⟨rfl, rfl, rfl, by decide +kernel, rfl, by decide +kernel, by decide +kernel⟩
theorem ok_is_tuple {P : Program} {w : World} {K : PySem.W.Frag} {mg : Str → Option Value} {base : Heap} {W : Wd} (T : Txt K mg W) : GD P w K mg base W 1 "is_tuple" f_is_tuple := by
  refine gd_of (ps := ["value", "least", "most"]) T.F_is_tuple sc_is_tuple (fun _ _ _ _ _ _ us hl => match us, hl with | [_, _, _], _ => rfl) fun f cdv A outer s H E hr => ?_
  exact (sb_one (ss_ret (se_and (se_isi (x := "") ask_tuple (se_v 0) rfl T.b_isinstance rfl T.b_tuple (by decide +kernel)) (se_one (se_chain od_le od_le (se_v 1) (se_bi cd_len rfl T.b_len (by decide +kernel) (sa_cons (se_v 0) sa_nil)) (se_v 2))))))
theorem sc_are_ends : FnScope ["first", "last"] ["first", "last"] (defScope (top 43)) := ⟨rfl, rfl, rfl, by decide +kernel, rfl, by decide +kernel, by decide +kernel⟩
theorem ok_are_ends {P : Program} {w : World} {K : PySem.W.Frag} {mg : Str → Option Value} {base : Heap} {W : Wd} (T : Txt K mg W) : GD P w K mg base W 3 "are_ends" f_are_ends := by
  refine gd_of (ps := ["first", "last"]) T.F_are_ends sc_are_ends (fun _ _ _ _ _ _ us hl => match us, hl with | [_, _], _ => rfl) fun f cdv A outer s H E hr => ?_
  exact (sb_one (ss_ret (se_and (se_call (ok_is_minute T) (hr.mono (by decide)) cx_passes rfl (sa_cons (se_v 0) sa_nil)) (se_and (se_call (ok_is_minute T) (hr.mono (by decide)) cx_passes rfl (sa_cons (se_v 1) sa_nil)) (se_one (se_cmp od_le (se_v 0) (se_v 1) rfl))))))
theorem sc_is_look : FnScope ["value"] ["value"] (defScope (top 44)) := ⟨rfl, rfl, rfl, by decide +kernel, rfl, by decide +kernel, by decide +kernel⟩
theorem ok_is_look {P : Program} {w : World} {K : PySem.W.Frag} {mg : Str → Option Value} {base : Heap} {W : Wd} (T : Txt K mg W) : GD P w K mg base W 4 "is_look" f_is_look := by
  refine gd_of (ps := ["value"]) T.F_is_look sc_is_look (fun _ _ _ _ _ _ us hl => match us, hl with | [_], _ => rfl) fun f cdv A outer s H E hr => ?_
  exact (sb_cons (ss_if (sw_t (sw_or (st_not (st_val (se_call (ok_is_tuple T) (hr.mono (by decide)) cx_passes rfl (sa_cons (se_v 0) (sa_cons (se_gI rfl T.c_PAIR) (sa_cons (se_gI rfl T.c_TRIPLE) sa_nil)))))) (sw_or1 (st_not (st_val (se_isi (x := "") ask_str (se_ix (se_v 0) se_int) rfl T.b_isinstance rfl T.b_str (by decide +kernel))))))) (sb_one (ss_ret se_bl)) sb_nil)
    (sb_cons (ss_if (st_cmp (od_eq (u64 hr)) (se_bi cd_len rfl T.b_len (by decide +kernel) (sa_cons (se_v 0) sa_nil)) (se_gI rfl T.c_PAIR) rfl) (sb_one (ss_ret (se_and (se_cmp (od_eq (u64 hr)) (se_ix (se_v 0) se_int) (se_gS rfl T.c_CAME) rfl) (se_one (se_call (ok_is_minute T) (hr.mono (by decide)) cx_passes rfl (sa_cons (se_ix (se_v 0) se_int) sa_nil)))))) sb_nil)
    (sb_one (ss_ret (se_and (se_cmp (od_eq (u64 hr)) (se_ix (se_v 0) se_int) (se_gS rfl T.c_NONE) rfl) (se_one (se_call (ok_are_ends T) (hr.mono (by decide)) cx_passes rfl (sa_cons (se_ix (se_v 0) se_int) (sa_cons (se_ix (se_v 0) se_int) sa_nil)))))))))
theorem sc_do_rise : FnScope ["value", "one", "other"] ["value"] (defScope (top 35)) := ⟨rfl, rfl, rfl, by decide +kernel, rfl, by decide +kernel, by decide +kernel⟩
theorem ok_do_rise {P : Program} {w : World} {K : PySem.W.Frag} {mg : Str → Option Value} {base : Heap} {W : Wd} (T : Txt K mg W) : GD P w K mg base W 1 "do_rise" f_do_rise := by
  refine gd_of (ps := ["value"]) T.F_do_rise sc_do_rise (fun _ _ _ _ _ _ us hl => match us, hl with | [_], _ => rfl) fun f cdv A outer s H E hr => ?_
  exact (sb_one (ss_ret (se_bi (cd_all rfl) rfl T.b_all (by decide +kernel) (sa_cons (se_ofN (sn_comp (oo := [("one", 1), ("other", 2)]) rfl sc_do_rise.nd (si_zip rfl T.b_zip (sa_cons (se_v 0) (sa_cons (se_slice (se_v 0) (so_some se_int) so_none) sa_nil))) (blkOk_by (by show blkC ["value", "one", "other"] (defScope (top 35)) _ _ = true; decide +kernel)) (by decide) (fun _ _ _ _ _ => (sg_tup rfl (sgs_cons (sg_name 1 sc_do_rise.nd) (sgs_cons (sg_name 2 sc_do_rise.nd) sgs_nil)))) (fun _ _ _ _ _ => sts_nil) (fun _ _ _ _ _ => (se_cmp (od_lt (u64 hr)) (se_v 1) (se_v 2) rfl)))) sa_nil))))
theorem sc_are_looks : FnScope ["value", "look"] ["value"] (defScope (top 58)) := ⟨rfl, rfl, rfl, by decide +kernel, rfl, by decide +kernel, by decide +kernel⟩
theorem ok_are_looks {P : Program} {w : World} {K : PySem.W.Frag} {mg : Str → Option Value} {base : Heap} {W : Wd} (T : Txt K mg W) : GD P w K mg base W 5 "are_looks" f_are_looks := by
  refine gd_of (ps := ["value"]) T.F_are_looks sc_are_looks (fun _ _ _ _ _ _ us hl => match us, hl with | [_], _ => rfl) fun f cdv A outer s H E hr => ?_
  exact (sb_cons (ss_if (sw_t (sw_or (st_not (st_val (se_isi (x := "") ask_tuple (se_v 0) rfl T.b_isinstance rfl T.b_tuple (by decide +kernel)))) (sw_or (st_cmp od_gt (se_bi cd_len rfl T.b_len (by decide +kernel) (sa_cons (se_v 0) sa_nil)) (se_gI rfl T.c_MOST_LOOKS) rfl) (sw_or1 (st_not (st_val (se_bi (cd_all rfl) rfl T.b_all (by decide +kernel) (sa_cons (se_ofN (sn_comp (oo := [("look", 1)]) rfl sc_are_looks.nd (si_seq (se_v 0)) (blkOk_by (by show blkC ["value", "look"] (defScope (top 58)) _ _ = true; decide +kernel)) (by decide) (fun _ _ _ _ _ => (sg_name 1 sc_are_looks.nd)) (fun _ _ _ _ _ => sts_nil) (fun _ _ _ _ _ => (se_call (ok_is_look T) (hr.mono (by decide)) passL rfl (sa_cons (se_v 1) sa_nil))))) sa_nil)))))))) (sb_one (ss_ret se_bl)) sb_nil)
    (sb_one (ss_ret (se_call (ok_do_rise T) (hr.mono (by decide)) cx_passes rfl (sa_cons (se_v 0) sa_nil)))))
theorem sc_Book_init : FnScope ["self", "gaps", "looks"] ["self", "gaps", "looks"] (defScope (mth 61 0)) := ⟨rfl, rfl, rfl, by decide +kernel, rfl, by decide +kernel, by decide +kernel⟩
theorem ok_Book_init {P : Program} {w : World} {K : PySem.W.Frag} {mg : Str → Option Value} {base : Heap} {W : Wd} (T : Txt K mg W) : ID P w K mg base W 6 1 "Book" f_Book_init := by
  refine id_of1 (ps := ["self", "gaps", "looks"]) (n := 1) T.F_Book_init sc_Book_init (by decide) (fun _ _ _ _ _ _ _ us its hl hi => match us, hl, its, hi with | [_, _, _], _, [_], _ => ⟨_, rfl, rfl⟩) fun f cdv A outer s H E hr => ?_
  have hm : SB (CXe P w K mg base ["self", "gaps", "looks"] "Book.__init__" (mth 61 0) f cdv A outer s H E) W E (defBody (mth 61 0)) ((sCons (sIf (tNotM (tE (eCall f_are_looks (lCons (eV 2) lNil)))) (fun _ => .bad) sNil) (sCons (sFldO (W.sl 1) 1 0 0 (eV 1)) (sFldO (W.sl 1) 1 0 1 (eV 2))))) := (sb_cons (ss_if (st_not (st_val (se_call (ok_are_looks T) (hr.mono (by decide)) cx_passes rfl (sa_cons (se_v 2) sa_nil)))) sb_never sb_nil)
    (sb_cons (ss_fldO 0 T.fd_Book_own_gaps (se_v 1))
    (sb_one (ss_fldO 0 T.fd_Book_own_looks (se_v 2)))))
  rw [T.sl_Book] at hm
  exact hm
theorem sc_looks_at : FnScope ["looks", "line", "name", "look"] ["looks", "line"] (defScope (top 73)) := ⟨rfl, rfl, rfl, by decide +kernel, rfl, by decide +kernel, by decide +kernel⟩
theorem ok_looks_at {P : Program} {w : World} {K : PySem.W.Frag} {mg : Str → Option Value} {base : Heap} {W : Wd} (T : Txt K mg W) : GD P w K mg base W 1 "looks_at" f_looks_at := by
  refine gd_of (ps := ["looks", "line"]) T.F_looks_at sc_looks_at (fun _ _ _ _ _ _ us hl => match us, hl with | [_, _], _ => rfl) fun f cdv A outer s H E hr => ?_
  exact (sb_one (ss_ret (se_ty cd_tuple rfl T.b_tuple (by decide +kernel) (sa_cons (se_ofN (sn_comp (oo := [("name", 2), ("look", 3)]) rfl sc_looks_at.nd (si_seq (se_v 0)) (blkOk_by (by show blkC ["looks", "line", "name", "look"] (defScope (top 73)) _ _ = true; decide +kernel)) (by decide) (fun _ _ _ _ _ => (sg_tup rfl (sgs_cons (sg_name 2 sc_looks_at.nd) (sgs_cons (sg_name 3 sc_looks_at.nd) sgs_nil)))) (fun _ _ _ _ _ => (sts_one (st_cmp (od_eq (u64 hr)) (se_v 2) (se_v 1) rfl))) (fun _ _ _ _ _ => (se_v 3)))) sa_nil))))
theorem sc_Seen_getitem : FnScope ["self", "line", "stop", "gaps", "rides"] ["self", "line"] (defScope (mth 74 6)) := ⟨rfl, rfl, rfl, by decide +kernel, rfl, by decide +kernel, by decide +kernel⟩
theorem ok_Seen_getitem {P : Program} {w : World} {K : PySem.W.Frag} {mg : Str → Option Value} {base : Heap} {W : Wd} (T : Txt K mg W) : MD P w K mg base W 8 2 "__getitem__" f_Seen_getitem := by
  refine md_of (ps := ["self", "line"]) T.cd_Seen (by rw [T.an_Seen]; decide) T.F_Seen_getitem sc_Seen_getitem (fun _ _ _ _ _ _ us hl => match us, hl with | [_, _], _ => rfl) fun f cdv A outer s H E hr => ?_
  exact (sb_cons (ss_asg (se_get (se_fld (se_v 0) T.fd_Seen_own_net) (se_v 1) (ok_Net_getitem T) (hr.mono (by decide)) cx_passes) (sg_tup rfl (sgs_cons (sg_name 2 sc_Seen_getitem.nd) (sgs_cons (sg_name 3 sc_Seen_getitem.nd) (sgs_cons (sg_name 4 sc_Seen_getitem.nd) sgs_nil)))))
    (sb_one (ss_ret (se_make (ok_Book_init T) (hr.mono (by decide)) cx_passes rfl (sa_cons (se_v 3) (sa_cons (se_call (ok_looks_at T) (hr.mono (by decide)) cx_passes rfl (sa_cons (se_fld (se_v 0) T.fd_Seen_own_looks) (sa_cons (se_v 1) sa_nil))) sa_nil))))))
theorem sc_Track_first_void : FnScope ["self", "number", "mask"] ["self"] (defScope (mth 54 3)) := ⟨rfl, rfl, rfl, by decide +kernel, rfl, by decide +kernel, by decide +kernel⟩
theorem ok_Track_first_void {P : Program} {w : World} {K : PySem.W.Frag} {mg : Str → Option Value} {base : Heap} {W : Wd} (T : Txt K mg W) : MD P w K mg base W 1 0 "first_void" f_Track_first_void := by
  refine md_of (ps := ["self"]) T.cd_Track (by rw [T.an_Track]; decide) T.F_Track_first_void sc_Track_first_void (fun _ _ _ _ _ _ us hl => match us, hl with | [_], _ => rfl) fun f cdv A outer s H E hr => ?_
  exact (sb_cons (ss_for cx_own rfl (si_enum rfl T.b_enumerate (sa_cons (se_fld (se_v 0) T.fd_Track_own_masks) sa_nil)) (sg_tup rfl (sgs_cons (sg_name 1 sc_Track_first_void.nd) (sgs_cons (sg_name 2 sc_Track_first_void.nd) sgs_nil))) (sb_one (ss_if (st_cmp (od_eq (u64 hr)) (se_v 2) se_int rfl) (sb_one (ss_ret (se_op od_sub (se_op od_add (se_fld (se_v 0) T.fd_Track_own_begin) (se_v 1)) se_int))) sb_nil)))
    (sb_one (ss_ret se_non)))
theorem sc_cars_in : FnScope ["looks", "look"] ["looks"] (defScope (top 48)) := ⟨rfl, rfl, rfl, by decide +kernel, rfl, by decide +kernel, by decide +kernel⟩
theorem ok_cars_in {P : Program} {w : World} {K : PySem.W.Frag} {mg : Str → Option Value} {base : Heap} {W : Wd} (T : Txt K mg W) : GD P w K mg base W 1 "cars_in" f_cars_in := by
  refine gd_of (ps := ["looks"]) T.F_cars_in sc_cars_in (fun _ _ _ _ _ _ us hl => match us, hl with | [_], _ => rfl) fun f cdv A outer s H E hr => ?_
  exact (sb_one (ss_ret (se_dcomp (oo := [("look", 1)]) rfl sc_cars_in.nd (si_seq (se_v 0)) (blkOk_by (by show blkC ["looks", "look"] (defScope (top 48)) _ _ = true; decide +kernel)) (by decide) (fun _ _ _ _ _ => (sg_name 1 sc_cars_in.nd)) (fun _ _ _ _ _ => (sts_one (st_cmp (od_eq (u64 hr)) (se_ix (se_v 1) se_int) (se_gS rfl T.c_CAME) rfl))) (fun _ _ _ _ _ => (se_ix (se_v 1) se_int)) (fun _ _ _ _ _ => se_bl))))
theorem sc_empty_in : FnScope ["looks", "look", "minute"] ["looks"] (defScope (top 49)) := ⟨rfl, rfl, rfl, by decide +kernel, rfl, by decide +kernel, by decide +kernel⟩
theorem ok_empty_in {P : Program} {w : World} {K : PySem.W.Frag} {mg : Str → Option Value} {base : Heap} {W : Wd} (T : Txt K mg W) : GD P w K mg base W 1 "empty_in" f_empty_in := by
  refine gd_of (ps := ["looks"]) T.F_empty_in sc_empty_in (fun _ _ _ _ _ _ us hl => match us, hl with | [_], _ => rfl) fun f cdv A outer s H E hr => ?_
  exact (sb_one (ss_ret (se_dcomp2 (oo := [("look", 1), ("minute", 2)]) (ws := [2]) rfl sc_empty_in.nd (si_seq (se_v 0)) (blkOk_by (by show blkC ["looks", "look", "minute"] (defScope (top 49)) _ _ = true; decide +kernel)) (by decide) (by decide) (by decide) (fun _ _ _ _ _ => ⟨(sg_name 1 sc_empty_in.nd), (sts_one (st_cmp (od_eq (u64 hr)) (se_ix (se_v 1) se_int) (se_gS rfl T.c_NONE) rfl)), (si_range2 rfl T.b_range (sa_cons (se_ix (se_v 1) se_int) (sa_cons (se_op od_add (se_ix (se_v 1) se_int) se_int) sa_nil))), (sg_name 2 sc_empty_in.nd), sts_nil, (se_v 2), se_bl⟩))))
theorem sc_Gaps_most : FnScope ["self"] ["self"] (defScope (mth 86 2)) := ⟨rfl, rfl, rfl, by decide +kernel, rfl, by decide +kernel, by decide +kernel⟩
theorem ok_Gaps_most {P : Program} {w : World} {K : PySem.W.Frag} {mg : Str → Option Value} {base : Heap} {W : Wd} (T : Txt K mg W) : PD P w K mg base W 1 5 "most" f_Gaps_most := by
  refine pd_of (ps := ["self"]) T.cd_Gaps T.F_Gaps_most sc_Gaps_most (fun _ _ _ _ _ _ us hl => match us, hl with | [_], _ => rfl) fun f cdv A outer s H E hr => ?_
  exact (sb_one (ss_ret (se_fld (se_v 0) T.fd_Gaps_own_most)))
theorem sc_all_ages : FnScope ["gaps"] ["gaps"] (defScope (top 50)) := ⟨rfl, rfl, rfl, by decide +kernel, rfl, by decide +kernel, by decide +kernel⟩
theorem ok_all_ages {P : Program} {w : World} {K : PySem.W.Frag} {mg : Str → Option Value} {base : Heap} {W : Wd} (T : Txt K mg W) : GD P w K mg base W 3 "all_ages" f_all_ages := by
  refine gd_of (ps := ["gaps"]) T.F_all_ages sc_all_ages (fun _ _ _ _ _ _ us hl => match us, hl with | [_], _ => rfl) fun f cdv A outer s H E hr => ?_
  exact (sb_one (ss_ret (se_op od_sub (se_op od_shl se_int (se_prop (se_v 0) (ok_Gaps_most T) (hr.mono (by decide)))) se_int)))
theorem sc_Gaps_least : FnScope ["self"] ["self"] (defScope (mth 86 1)) := ⟨rfl, rfl, rfl, by decide +kernel, rfl, by decide +kernel, by decide +kernel⟩
theorem ok_Gaps_least {P : Program} {w : World} {K : PySem.W.Frag} {mg : Str → Option Value} {base : Heap} {W : Wd} (T : Txt K mg W) : PD P w K mg base W 1 5 "least" f_Gaps_least := by
  refine pd_of (ps := ["self"]) T.cd_Gaps T.F_Gaps_least sc_Gaps_least (fun _ _ _ _ _ _ us hl => match us, hl with | [_], _ => rfl) fun f cdv A outer s H E hr => ?_
  exact (sb_one (ss_ret (se_fld (se_v 0) T.fd_Gaps_own_least)))
theorem sc_due_ages : FnScope ["gaps"] ["gaps"] (defScope (top 51)) := ⟨rfl, rfl, rfl, by decide +kernel, rfl, by decide +kernel, by decide +kernel⟩
theorem ok_due_ages {P : Program} {w : World} {K : PySem.W.Frag} {mg : Str → Option Value} {base : Heap} {W : Wd} (T : Txt K mg W) : GD P w K mg base W 3 "due_ages" f_due_ages := by
  refine gd_of (ps := ["gaps"]) T.F_due_ages sc_due_ages (fun _ _ _ _ _ _ us hl => match us, hl with | [_], _ => rfl) fun f cdv A outer s H E hr => ?_
  exact (sb_one (ss_ret (se_op od_sub (se_op od_shl se_int (se_op od_add (se_prop (se_v 0) (ok_Gaps_most T) (hr.mono (by decide))) se_int)) (se_op od_shl se_int (se_prop (se_v 0) (ok_Gaps_least T) (hr.mono (by decide)))))))
theorem sc_masks_from : FnScope ["gaps", "looks", "mask", "begin", "end", "cars", "empty", "ages", "due", "found", "minute", "grown"] ["gaps", "looks", "mask", "begin", "end"] (defScope (top 53)) := ⟨rfl, rfl, rfl, by decide +kernel, rfl, by decide +kernel, by decide +kernel⟩
theorem ok_masks_from {P : Program} {w : World} {K : PySem.W.Frag} {mg : Str → Option Value} {base : Heap} {W : Wd} (T : Txt K mg W) : GD P w K mg base W 4 "masks_from" f_masks_from := by
  refine gd_of (ps := ["gaps", "looks", "mask", "begin", "end"]) T.F_masks_from sc_masks_from (fun _ _ _ _ _ _ us hl => match us, hl with | [_, _, _, _, _], _ => rfl) fun f cdv A outer s H E hr => ?_
  exact (sb_cons (ss_asg (se_tup (sa_cons (se_call (ok_cars_in T) (hr.mono (by decide)) cx_passes rfl (sa_cons (se_v 1) sa_nil)) (sa_cons (se_call (ok_empty_in T) (hr.mono (by decide)) cx_passes rfl (sa_cons (se_v 1) sa_nil)) (sa_cons (se_call (ok_all_ages T) (hr.mono (by decide)) cx_passes rfl (sa_cons (se_v 0) sa_nil)) (sa_cons (se_call (ok_due_ages T) (hr.mono (by decide)) cx_passes rfl (sa_cons (se_v 0) sa_nil)) sa_nil))))) (sg_tup rfl (sgs_cons (sg_name 5 sc_masks_from.nd) (sgs_cons (sg_name 6 sc_masks_from.nd) (sgs_cons (sg_name 7 sc_masks_from.nd) (sgs_cons (sg_name 8 sc_masks_from.nd) sgs_nil))))))
    (sb_cons (ss_newL 9 sc_masks_from.nd (sn_lst (sa_cons (se_v 2) sa_nil)))
    (sb_cons (ss_for cx_own rfl (si_range2 rfl T.b_range (sa_cons (se_v 3) (sa_cons (se_op od_add (se_v 4) se_int) sa_nil))) (sg_name 10 sc_masks_from.nd) (sb_cons (ss_asg (se_op od_shl (se_v 2) se_int) (sg_name 11 sc_masks_from.nd))
    (sb_cons (ss_if (st_cmp (od_in (u64 hr)) (se_v 10) (se_v 6) rfl) (sb_one (ss_asg (se_if (st_cmp (od_in (u64 hr)) (se_v 10) (se_v 5) rfl) se_int (se_op od_and (se_v 11) (se_v 7))) (sg_name 2 sc_masks_from.nd))) (sb_one (ss_if (st_cmp (od_in (u64 hr)) (se_v 10) (se_v 5) rfl) (sb_one (ss_asg (se_ty cd_int rfl T.b_int (by decide +kernel) (sa_cons (se_cmp (od_ne (u64 hr)) (se_op od_and (se_v 11) (se_v 8)) se_int rfl) sa_nil)) (sg_name 2 sc_masks_from.nd))) (sb_one (ss_asg (se_op od_or (se_op od_and (se_v 11) (se_v 7)) (se_ty cd_int rfl T.b_int (by decide +kernel) (sa_cons (se_cmp (od_ne (u64 hr)) (se_op od_and (se_v 11) (se_v 8)) se_int rfl) sa_nil))) (sg_name 2 sc_masks_from.nd))))))
    (sb_one (ss_expr (se_append 9 (se_v 2)))))))
    (sb_one (ss_ret (se_fz 9))))))
theorem sc_Track_init : FnScope ["self", "gaps", "looks", "begin", "end", "look"] ["self", "gaps", "looks", "begin", "end"] (defScope (mth 54 0)) := ⟨rfl, rfl, rfl, by decide +kernel, rfl, by decide +kernel, by decide +kernel⟩
theorem ok_Track_init {P : Program} {w : World} {K : PySem.W.Frag} {mg : Str → Option Value} {base : Heap} {W : Wd} (T : Txt K mg W) : ID P w K mg base W 5 0 "Track" f_Track_init := by
  refine id_of (ps := ["self", "gaps", "looks", "begin", "end"]) T.F_Track_init sc_Track_init (fun _ _ _ _ _ _ us hl => match us, hl with | [_, _, _, _, _], _ => rfl) fun f cdv A outer s H E hr => ?_
  have hm : SB (CXe P w K mg base ["self", "gaps", "looks", "begin", "end", "look"] "Track.__init__" (mth 54 0) f cdv A outer s H E) W E (defBody (mth 54 0)) ((sCons (sFldO (W.sl 0) 0 0 0 (eV 1)) (sCons (sFldO (W.sl 0) 0 0 1 (eB bMin (lCons (eLst (lCons (eV 3) (lStar (eLstN (lComp (lItems (eV 2)) [5] (gSet 5) tYesM (eOp vIx (eV 5) (eC (.int 1))))) lNil))) lNil))) (sFldO (W.sl 0) 0 0 2 (eCall f_masks_from (lCons (eV 1) (lCons (eV 2) (lCons (eCall f_all_ages (lCons (eV 1) lNil)) (lCons (eFldO 0 0 1) (lCons (eV 4) lNil)))))))))) := (sb_cons (ss_fldO 0 T.fd_Track_own_gaps (se_v 1))
    (sb_cons (ss_fldO 0 T.fd_Track_own_begin (se_bi (cd_min rfl) rfl T.b_min (by decide +kernel) (sa_cons (se_lst (sa_cons (se_v 3) (sa_star (se_ofN (sn_comp (oo := [("look", 5)]) rfl sc_Track_init.nd (si_seq (se_v 2)) (blkOk_by (by show blkC ["self", "gaps", "looks", "begin", "end", "look"] (defScope (mth 54 0)) _ _ = true; decide +kernel)) (by decide) (fun _ _ _ _ _ => (sg_name 5 sc_Track_init.nd)) (fun _ _ _ _ _ => sts_nil) (fun _ _ _ _ _ => (se_ix (se_v 5) se_int)))) sa_nil))) sa_nil)))
    (sb_one (ss_fldO 0 T.fd_Track_own_masks (se_call (ok_masks_from T) (hr.mono (by decide)) cx_passes rfl (sa_cons (se_v 1) (sa_cons (se_v 2) (sa_cons (se_call (ok_all_ages T) (hr.mono (by decide)) cx_passes rfl (sa_cons (se_v 1) sa_nil)) (sa_cons (se_fldO 0 T.fd_Track_own_begin) (sa_cons (se_v 4) sa_nil))))))))))
  rw [T.sl_Track] at hm
  exact hm
theorem sc_first_looked : FnScope ["looks", "look"] ["looks"] (defScope (top 46)) := ⟨rfl, rfl, rfl, by decide +kernel, rfl, by decide +kernel, by decide +kernel⟩
theorem ok_first_looked {P : Program} {w : World} {K : PySem.W.Frag} {mg : Str → Option Value} {base : Heap} {W : Wd} (T : Txt K mg W) : GD P w K mg base W 1 "first_looked" f_first_looked := by
  refine gd_of (ps := ["looks"]) T.F_first_looked sc_first_looked (fun _ _ _ _ _ _ us hl => match us, hl with | [_], _ => rfl) fun f cdv A outer s H E hr => ?_
  exact (sb_one (ss_ret (se_bi (cd_min rfl) rfl T.b_min (by decide +kernel) (sa_cons (se_ofN (sn_comp (oo := [("look", 1)]) rfl sc_first_looked.nd (si_seq (se_v 0)) (blkOk_by (by show blkC ["looks", "look"] (defScope (top 46)) _ _ = true; decide +kernel)) (by decide) (fun _ _ _ _ _ => (sg_name 1 sc_first_looked.nd)) (fun _ _ _ _ _ => sts_nil) (fun _ _ _ _ _ => (se_ty cd_int rfl T.b_int (by decide +kernel) (sa_cons (se_ix (se_v 1) se_int) sa_nil))))) sa_nil))))
theorem sc_last_looked : FnScope ["looks", "look"] ["looks"] (defScope (top 47)) := ⟨rfl, rfl, rfl, by decide +kernel, rfl, by decide +kernel, by decide +kernel⟩
theorem ok_last_looked {P : Program} {w : World} {K : PySem.W.Frag} {mg : Str → Option Value} {base : Heap} {W : Wd} (T : Txt K mg W) : GD P w K mg base W 1 "last_looked" f_last_looked := by
  refine gd_of (ps := ["looks"]) T.F_last_looked sc_last_looked (fun _ _ _ _ _ _ us hl => match us, hl with | [_], _ => rfl) fun f cdv A outer s H E hr => ?_
  exact (sb_one (ss_ret (se_bi (cd_max rfl) rfl T.b_max (by decide +kernel) (sa_cons (se_ofN (sn_comp (oo := [("look", 1)]) rfl sc_last_looked.nd (si_seq (se_v 0)) (blkOk_by (by show blkC ["looks", "look"] (defScope (top 47)) _ _ = true; decide +kernel)) (by decide) (fun _ _ _ _ _ => (sg_name 1 sc_last_looked.nd)) (fun _ _ _ _ _ => sts_nil) (fun _ _ _ _ _ => (se_ty cd_int rfl T.b_int (by decide +kernel) (sa_cons (se_ix (se_v 1) (se_un ud_neg se_int)) sa_nil))))) sa_nil))))
theorem sc_is_possible : FnScope ["gaps", "looks"] ["gaps", "looks"] (defScope (top 55)) := ⟨rfl, rfl, rfl, by decide +kernel, rfl, by decide +kernel, by decide +kernel⟩
theorem ok_is_possible {P : Program} {w : World} {K : PySem.W.Frag} {mg : Str → Option Value} {base : Heap} {W : Wd} (T : Txt K mg W) : GD P w K mg base W 7 "is_possible" f_is_possible := by
  refine gd_of (ps := ["gaps", "looks"]) T.F_is_possible sc_is_possible (fun _ _ _ _ _ _ us hl => match us, hl with | [_, _], _ => rfl) fun f cdv A outer s H E hr => ?_
  exact (sb_cons (ss_if (st_cmp (od_eq (u64 hr)) (se_bi cd_len rfl T.b_len (by decide +kernel) (sa_cons (se_v 1) sa_nil)) se_int rfl) (sb_one (ss_ret se_bl)) sb_nil)
    (sb_one (ss_ret (se_cmp od_isN (se_meth0 (se_make (ok_Track_init T) (hr.mono (by decide)) cx_passes rfl (sa_cons (se_v 0) (sa_cons (se_v 1) (sa_cons (se_call (ok_first_looked T) (hr.mono (by decide)) cx_passes rfl (sa_cons (se_v 1) sa_nil)) (sa_cons (se_call (ok_last_looked T) (hr.mono (by decide)) cx_passes rfl (sa_cons (se_v 1) sa_nil)) sa_nil))))) (ok_Track_first_void T) (hr.mono (by decide)) cx_passes) se_non rfl))))
theorem sc_Book_gaps : FnScope ["self"] ["self"] (defScope (mth 61 1)) := ⟨rfl, rfl, rfl, by decide +kernel, rfl, by decide +kernel, by decide +kernel⟩
theorem ok_Book_gaps {P : Program} {w : World} {K : PySem.W.Frag} {mg : Str → Option Value} {base : Heap} {W : Wd} (T : Txt K mg W) : PD P w K mg base W 1 1 "gaps" f_Book_gaps := by
  refine pd_of (ps := ["self"]) T.cd_Book T.F_Book_gaps sc_Book_gaps (fun _ _ _ _ _ _ us hl => match us, hl with | [_], _ => rfl) fun f cdv A outer s H E hr => ?_
  exact (sb_one (ss_ret (se_fld (se_v 0) T.fd_Book_own_gaps)))
theorem sc_Book_looks : FnScope ["self"] ["self"] (defScope (mth 61 2)) := ⟨rfl, rfl, rfl, by decide +kernel, rfl, by decide +kernel, by decide +kernel⟩
theorem ok_Book_looks {P : Program} {w : World} {K : PySem.W.Frag} {mg : Str → Option Value} {base : Heap} {W : Wd} (T : Txt K mg W) : PD P w K mg base W 1 1 "looks" f_Book_looks := by
  refine pd_of (ps := ["self"]) T.cd_Book T.F_Book_looks sc_Book_looks (fun _ _ _ _ _ _ us hl => match us, hl with | [_], _ => rfl) fun f cdv A outer s H E hr => ?_
  exact (sb_one (ss_ret (se_fld (se_v 0) T.fd_Book_own_looks)))
theorem sc_Seen_check_lines : FnScope ["self", "line", "book"] ["self"] (defScope (mth 74 5)) := ⟨rfl, rfl, rfl, by decide +kernel, rfl, by decide +kernel, by decide +kernel⟩
theorem ok_Seen_check_lines {P : Program} {w : World} {K : PySem.W.Frag} {mg : Str → Option Value} {base : Heap} {W : Wd} (T : Txt K mg W) : MD P w K mg base W 10 2 "check_lines" f_Seen_check_lines := by
  refine md_of (ps := ["self"]) T.cd_Seen (by rw [T.an_Seen]; decide) T.F_Seen_check_lines sc_Seen_check_lines (fun _ _ _ _ _ _ us hl => match us, hl with | [_], _ => rfl) fun f cdv A outer s H E hr => ?_
  exact (sb_one (ss_for cx_own rfl (si_seq (se_prop (se_fld (se_v 0) T.fd_Seen_own_net) (ok_Net_lines T) (hr.mono (by decide)))) (sg_name 1 sc_Seen_check_lines.nd) (sb_cons (ss_asg (se_get (se_v 0) (se_v 1) (ok_Seen_getitem T) (hr.mono (by decide)) cx_passes) (sg_name 2 sc_Seen_check_lines.nd))
    (sb_one (ss_if (st_not (st_val (se_call (ok_is_possible T) (hr.mono (by decide)) cx_passes rfl (sa_cons (se_prop (se_v 2) (ok_Book_gaps T) (hr.mono (by decide))) (sa_cons (se_prop (se_v 2) (ok_Book_looks T) (hr.mono (by decide))) sa_nil))))) sb_never sb_nil)))))
theorem sc_check_late : FnScope ["seen", "minute", "line", "look"] ["seen", "minute"] (defScope (top 70)) := ⟨rfl, rfl, rfl, by decide +kernel, rfl, by decide +kernel, by decide +kernel⟩
theorem ok_check_late {P : Program} {w : World} {K : PySem.W.Frag} {mg : Str → Option Value} {base : Heap} {W : Wd} (T : Txt K mg W) : GD P w K mg base W 11 "check_late" f_check_late := by
  refine gd_of (ps := ["seen", "minute"]) T.F_check_late sc_check_late (fun _ _ _ _ _ _ us hl => match us, hl with | [_, _], _ => rfl) fun f cdv A outer s H E hr => ?_
  exact (sb_cons (ss_expr (se_meth0 (se_v 0) (ok_Seen_check_lines T) (hr.mono (by decide)) cx_passes))
    (sb_one (ss_for cx_own rfl (si_seq (se_prop (se_prop (se_v 0) (ok_Seen_net T) (hr.mono (by decide))) (ok_Net_lines T) (hr.mono (by decide)))) (sg_name 2 sc_check_late.nd) (sb_one (ss_for cx_own rfl (si_seq (se_prop (se_get (se_v 0) (se_v 2) (ok_Seen_getitem T) (hr.mono (by decide)) cx_passes) (ok_Book_looks T) (hr.mono (by decide)))) (sg_name 3 sc_check_late.nd) (sb_one (ss_if (st_cmp od_gt (se_ix (se_v 3) (se_un ud_neg se_int)) (se_v 1) rfl) sb_never sb_nil)))))))
theorem sc_Net_leaving : FnScope ["self", "stop", "name", "row"] ["self", "stop"] (defScope (mth 103 7)) := ⟨rfl, rfl, rfl, by decide +kernel, rfl, by decide +kernel, by decide +kernel⟩
theorem ok_Net_leaving {P : Program} {w : World} {K : PySem.W.Frag} {mg : Str → Option Value} {base : Heap} {W : Wd} (T : Txt K mg W) : MD P w K mg base W 2 7 "leaving" f_Net_leaving := by
  refine md_of (ps := ["self", "stop"]) T.cd_Net (by rw [T.an_Net]; decide) T.F_Net_leaving sc_Net_leaving (fun _ _ _ _ _ _ us hl => match us, hl with | [_, _], _ => rfl) fun f cdv A outer s H E hr => ?_
  exact (sb_cons (ss_expr (se_meth (se_v 0) (ok_Net_check_stop T) (hr.mono (by decide)) cx_passes (sa_cons (se_v 1) sa_nil)))
    (sb_one (ss_ret (se_ty cd_tuple rfl T.b_tuple (by decide +kernel) (sa_cons (se_ofN (sn_lock (sn_compP (oo := [("name", 2), ("row", 3)]) rfl sc_Net_leaving.nd (si_ditems (i := 0) T.fd_Net_own_lines) (blkOk_by (by show blkC ["self", "stop", "name", "row"] (defScope (mth 103 7)) _ _ = true; decide +kernel)) (by decide) (fun _ _ _ _ _ => (sg_tup rfl (sgs_cons (sg_name 2 sc_Net_leaving.nd) (sgs_cons (sg_name 3 sc_Net_leaving.nd) sgs_nil)))) (fun _ _ _ _ _ => (sts_one (st_cmp (od_eq (u64 hr)) (se_ix (se_v 3) se_int) (se_v 1) rfl))) (fun _ _ _ _ _ => (se_v 2))))) sa_nil)))))
theorem sc_check_cars : FnScope ["net", "stop", "value", "leaving", "line"] ["net", "stop", "value"] (defScope (top 76)) := ⟨rfl, rfl, rfl, by decide +kernel, rfl, by decide +kernel, by decide +kernel⟩
theorem ok_check_cars {P : Program} {w : World} {K : PySem.W.Frag} {mg : Str → Option Value} {base : Heap} {W : Wd} (T : Txt K mg W) : GD P w K mg base W 3 "check_cars" f_check_cars := by
  refine gd_of (ps := ["net", "stop", "value"]) T.F_check_cars sc_check_cars (fun _ _ _ _ _ _ us hl => match us, hl with | [_, _, _], _ => rfl) fun f cdv A outer s H E hr => ?_
  exact (sb_cons (ss_asg (se_meth (se_v 0) (ok_Net_leaving T) (hr.mono (by decide)) cx_passes (sa_cons (se_v 1) sa_nil)) (sg_name 3 sc_check_cars.nd))
    (sb_cons (ss_if (sw_t (sw_or (st_not (st_val (se_isi (x := "") ask_tuple (se_v 2) rfl T.b_isinstance rfl T.b_tuple (by decide +kernel)))) (sw_or1 (st_not (st_val (se_bi (cd_all rfl) rfl T.b_all (by decide +kernel) (sa_cons (se_ofN (sn_comp (oo := [("line", 4)]) rfl sc_check_cars.nd (si_seq (se_v 2)) (blkOk_by (by show blkC ["net", "stop", "value", "leaving", "line"] (defScope (top 76)) _ _ = true; decide +kernel)) (by decide) (fun _ _ _ _ _ => (sg_name 4 sc_check_cars.nd)) (fun _ _ _ _ _ => sts_nil) (fun _ _ _ _ _ => (se_and (se_isi (x := "") ask_str (se_v 4) rfl T.b_isinstance rfl T.b_str (by decide +kernel)) (se_one (se_cmp (od_in (u64 hr)) (se_v 4) (se_v 3) rfl)))))) sa_nil))))))) sb_never sb_nil)
    (sb_one (ss_if (st_not (st_val (se_call (ok_do_rise T) (hr.mono (by decide)) cx_passes rfl (sa_cons (se_v 2) sa_nil)))) sb_never sb_nil))))
theorem sc_up_to : FnScope ["looks", "minute", "found", "look"] ["looks", "minute"] (defScope (top 59)) := ⟨rfl, rfl, rfl, by decide +kernel, rfl, by decide +kernel, by decide +kernel⟩
theorem ok_up_to {P : Program} {w : World} {K : PySem.W.Frag} {mg : Str → Option Value} {base : Heap} {W : Wd} (T : Txt K mg W) : GD P w K mg base W 1 "up_to" f_up_to := by
  refine gd_of (ps := ["looks", "minute"]) T.F_up_to sc_up_to (fun _ _ _ _ _ _ us hl => match us, hl with | [_, _], _ => rfl) fun f cdv A outer s H E hr => ?_
  exact (sb_cons (ss_newL 2 sc_up_to.nd (sn_lst sa_nil))
    (sb_cons (ss_for cx_own rfl (si_seq (se_v 0)) (sg_name 3 sc_up_to.nd) (sb_one (ss_if (st_cmp od_le (se_ix (se_v 3) se_int) (se_v 1) rfl) (sb_one (ss_expr (se_append 2 (se_if (st_cmp (od_eq (u64 hr)) (se_ix (se_v 3) se_int) (se_gS rfl T.c_CAME) rfl) (se_v 3) (se_tup (sa_cons (se_gS rfl T.c_NONE) (sa_cons (se_ix (se_v 3) se_int) (sa_cons (se_bi (cd_min rfl) rfl T.b_min (by decide +kernel) (sa_cons (se_ix (se_v 3) se_int) (sa_cons (se_v 1) sa_nil))) sa_nil)))))))) sb_nil)))
    (sb_one (ss_ret (se_ty cd_tuple rfl T.b_tuple (by decide +kernel) (sa_cons (se_fz 2) sa_nil))))))
theorem sc_ages_in : FnScope ["mask", "age"] ["mask"] (defScope (top 52)) := ⟨rfl, rfl, rfl, by decide +kernel, rfl, by decide +kernel, by decide +kernel⟩
theorem ok_ages_in {P : Program} {w : World} {K : PySem.W.Frag} {mg : Str → Option Value} {base : Heap} {W : Wd} (T : Txt K mg W) : GD P w K mg base W 1 "ages_in" f_ages_in := by
  refine gd_of (ps := ["mask"]) T.F_ages_in sc_ages_in (fun _ _ _ _ _ _ us hl => match us, hl with | [_], _ => rfl) fun f cdv A outer s H E hr => ?_
  exact (sb_one (ss_ret (se_ty cd_tuple rfl T.b_tuple (by decide +kernel) (sa_cons (se_ofN (sn_comp (oo := [("age", 1)]) rfl sc_ages_in.nd (si_range1 rfl T.b_range (sa_cons (se_bits (se_v 0)) sa_nil)) (blkOk_by (by show blkC ["mask", "age"] (defScope (top 52)) _ _ = true; decide +kernel)) (by decide) (fun _ _ _ _ _ => (sg_name 1 sc_ages_in.nd)) (fun _ _ _ _ _ => (sts_one (st_cmp (od_eq (u64 hr)) (se_op od_and (se_op od_shr (se_v 0) (se_v 1)) se_int) se_int rfl))) (fun _ _ _ _ _ => (se_v 1)))) sa_nil))))
theorem sc_Track_mask_at : FnScope ["self", "minute"] ["self", "minute"] (defScope (mth 54 2)) := ⟨rfl, rfl, rfl, by decide +kernel, rfl, by decide +kernel, by decide +kernel⟩
theorem ok_Track_mask_at {P : Program} {w : World} {K : PySem.W.Frag} {mg : Str → Option Value} {base : Heap} {W : Wd} (T : Txt K mg W) : MD P w K mg base W 1 0 "mask_at" f_Track_mask_at := by
  refine md_of (ps := ["self", "minute"]) T.cd_Track (by rw [T.an_Track]; decide) T.F_Track_mask_at sc_Track_mask_at (fun _ _ _ _ _ _ us hl => match us, hl with | [_, _], _ => rfl) fun f cdv A outer s H E hr => ?_
  exact (sb_one (ss_ret (se_ix (se_fld (se_v 0) T.fd_Track_own_masks) (se_bi (cd_max rfl) rfl T.b_max (by decide +kernel) (sa_cons se_int (sa_cons (se_op od_add (se_op od_sub (se_v 1) (se_fld (se_v 0) T.fd_Track_own_begin)) se_int) sa_nil))))))
theorem sc_Book_ages : FnScope ["self", "minute", "track"] ["self", "minute"] (defScope (mth 61 3)) := ⟨rfl, rfl, rfl, by decide +kernel, rfl, by decide +kernel, by decide +kernel⟩
theorem ok_Book_ages {P : Program} {w : World} {K : PySem.W.Frag} {mg : Str → Option Value} {base : Heap} {W : Wd} (T : Txt K mg W) : MD P w K mg base W 7 1 "ages" f_Book_ages := by
  refine md_of (ps := ["self", "minute"]) T.cd_Book (by rw [T.an_Book]; decide) T.F_Book_ages sc_Book_ages (fun _ _ _ _ _ _ us hl => match us, hl with | [_, _], _ => rfl) fun f cdv A outer s H E hr => ?_
  exact (sb_cons (ss_if (st_not (st_val (se_call (ok_is_minute T) (hr.mono (by decide)) cx_passes rfl (sa_cons (se_v 1) sa_nil)))) sb_never sb_nil)
    (sb_cons (ss_asg (se_make (ok_Track_init T) (hr.mono (by decide)) cx_passes rfl (sa_cons (se_fld (se_v 0) T.fd_Book_own_gaps) (sa_cons (se_call (ok_up_to T) (hr.mono (by decide)) cx_passes rfl (sa_cons (se_fld (se_v 0) T.fd_Book_own_looks) (sa_cons (se_v 1) sa_nil))) (sa_cons (se_v 1) (sa_cons (se_v 1) sa_nil))))) (sg_name 2 sc_Book_ages.nd))
    (sb_one (ss_ret (se_call (ok_ages_in T) (hr.mono (by decide)) cx_passes rfl (sa_cons (se_meth (se_v 2) (ok_Track_mask_at T) (hr.mono (by decide)) cx_passes (sa_cons (se_v 1) sa_nil)) sa_nil))))))
theorem sc_can_be : FnScope ["seen", "stop", "minute", "cars", "line", "ages", "age"] ["seen", "stop", "minute", "cars"] (defScope (top 77)) := ⟨rfl, rfl, rfl, by decide +kernel, rfl, by decide +kernel, by decide +kernel⟩
theorem ok_can_be {P : Program} {w : World} {K : PySem.W.Frag} {mg : Str → Option Value} {base : Heap} {W : Wd} (T : Txt K mg W) : GD P w K mg base W 10 "can_be" f_can_be := by
  refine gd_of (ps := ["seen", "stop", "minute", "cars"]) T.F_can_be sc_can_be (fun _ _ _ _ _ _ us hl => match us, hl with | [_, _, _, _], _ => rfl) fun f cdv A outer s H E hr => ?_
  exact (sb_cons (ss_for cx_own rfl (si_seq (se_meth (se_prop (se_v 0) (ok_Seen_net T) (hr.mono (by decide))) (ok_Net_leaving T) (hr.mono (by decide)) cx_passes (sa_cons (se_v 1) sa_nil))) (sg_name 4 sc_can_be.nd) (sb_cons (ss_asg (se_meth (se_get (se_v 0) (se_v 4) (ok_Seen_getitem T) (hr.mono (by decide)) cx_passes) (ok_Book_ages T) (hr.mono (by decide)) cx_passes (sa_cons (se_v 2) sa_nil)) (sg_name 5 sc_can_be.nd))
    (sb_one (ss_if (st_if (st_cmp (od_in (u64 hr)) (se_v 4) (se_v 3) rfl) (st_cmp (od_notIn (u64 hr)) se_int (se_v 5) rfl) (st_not (st_val (se_bi (cd_any rfl) rfl T.b_any (by decide +kernel) (sa_cons (se_ofN (sn_comp (oo := [("age", 6)]) rfl sc_can_be.nd (si_seq (se_v 5)) (blkOk_by (by show blkC ["seen", "stop", "minute", "cars", "line", "ages", "age"] (defScope (top 77)) _ _ = true; decide +kernel)) (by decide) (fun _ _ _ _ _ => (sg_name 6 sc_can_be.nd)) (fun _ _ _ _ _ => sts_nil) (fun _ _ _ _ _ => (se_cmp od_gt (se_v 6) se_int rfl)))) sa_nil))))) (sb_one (ss_ret se_bl)) sb_nil))))
    (sb_one (ss_ret se_bl)))
theorem sc_Seen_looks : FnScope ["self"] ["self"] (defScope (mth 74 2)) := ⟨rfl, rfl, rfl, by decide +kernel, rfl, by decide +kernel, by decide +kernel⟩
theorem ok_Seen_looks {P : Program} {w : World} {K : PySem.W.Frag} {mg : Str → Option Value} {base : Heap} {W : Wd} (T : Txt K mg W) : PD P w K mg base W 1 2 "looks" f_Seen_looks := by
  refine pd_of (ps := ["self"]) T.cd_Seen T.F_Seen_looks sc_Seen_looks (fun _ _ _ _ _ _ us hl => match us, hl with | [_], _ => rfl) fun f cdv A outer s H E hr => ?_
  exact (sb_one (ss_ret (se_fld (se_v 0) T.fd_Seen_own_looks)))
theorem sc_is_told : FnScope ["looks", "minute", "has_car", "look"] ["looks", "minute", "has_car"] (defScope (top 78)) := ⟨rfl, rfl, rfl, by decide +kernel, rfl, by decide +kernel, by decide +kernel⟩
theorem ok_is_told {P : Program} {w : World} {K : PySem.W.Frag} {mg : Str → Option Value} {base : Heap} {W : Wd} (T : Txt K mg W) : GD P w K mg base W 1 "is_told" f_is_told := by
  refine gd_of (ps := ["looks", "minute", "has_car"]) T.F_is_told sc_is_told (fun _ _ _ _ _ _ us hl => match us, hl with | [_, _, _], _ => rfl) fun f cdv A outer s H E hr => ?_
  exact (sb_cons (ss_if (st_val (se_v 2)) (sb_one (ss_ret (se_cmp (od_in (u64 hr)) (se_tup (sa_cons (se_gS rfl T.c_CAME) (sa_cons (se_v 1) sa_nil))) (se_v 0) rfl))) sb_nil)
    (sb_one (ss_ret (se_bi (cd_any rfl) rfl T.b_any (by decide +kernel) (sa_cons (se_ofN (sn_comp (oo := [("look", 3)]) rfl sc_is_told.nd (si_seq (se_v 0)) (blkOk_by (by show blkC ["looks", "minute", "has_car", "look"] (defScope (top 78)) _ _ = true; decide +kernel)) (by decide) (fun _ _ _ _ _ => (sg_name 3 sc_is_told.nd)) (fun _ _ _ _ _ => sts_nil) (fun _ _ _ _ _ => (se_and (se_cmp (od_eq (u64 hr)) (se_ix (se_v 3) se_int) (se_gS rfl T.c_NONE) rfl) (se_one (se_chain od_le od_le (se_ix (se_v 3) se_int) (se_v 1) (se_ix (se_v 3) se_int))))))) sa_nil)))))
theorem sc_put_to : FnScope ["looks", "minute", "has_car", "ahead", "first", "look"] ["looks", "minute", "has_car"] (defScope (top 79)) := ⟨rfl, rfl, rfl, by decide +kernel, rfl, by decide +kernel, by decide +kernel⟩
theorem ok_put_to {P : Program} {w : World} {K : PySem.W.Frag} {mg : Str → Option Value} {base : Heap} {W : Wd} (T : Txt K mg W) : GD P w K mg base W 2 "put_to" f_put_to := by
  refine gd_of (ps := ["looks", "minute", "has_car"]) T.F_put_to sc_put_to (fun _ _ _ _ _ _ us hl => match us, hl with | [_, _, _], _ => rfl) fun f cdv A outer s H E hr => ?_
  exact (sb_cons (ss_if (st_val (se_call (ok_is_told T) (hr.mono (by decide)) cx_passes rfl (sa_cons (se_v 0) (sa_cons (se_v 1) (sa_cons (se_v 2) sa_nil))))) (sb_one (ss_ret (se_v 0))) sb_nil)
    (sb_cons (ss_if (st_val (se_v 2)) (sb_one (ss_ret (se_ty cd_tuple rfl T.b_tuple (by decide +kernel) (sa_cons (se_bi (cd_sorted (u66 hr)) rfl T.b_sorted (by decide +kernel) (sa_cons (se_lst (sa_star (se_v 0) (sa_cons (se_tup (sa_cons (se_gS rfl T.c_CAME) (sa_cons (se_v 1) sa_nil))) sa_nil))) sa_nil)) sa_nil)))) sb_nil)
    (sb_cons (ss_asg (se_slice (se_ofN (sn_comp (oo := [("look", 5)]) rfl sc_put_to.nd (si_seq (se_v 0)) (blkOk_by (by show blkC ["looks", "minute", "has_car", "ahead", "first", "look"] (defScope (top 79)) _ _ = true; decide +kernel)) (by decide) (fun _ _ _ _ _ => (sg_name 5 sc_put_to.nd)) (fun _ _ _ _ _ => (sts_one (sw_t (sw_and (st_cmp (od_eq (u64 hr)) (se_ix (se_v 5) se_int) (se_gS rfl T.c_NONE) rfl) (sw_and1 (st_cmp (od_eq (u64 hr)) (se_ix (se_v 5) se_int) (se_op od_sub (se_v 1) se_int) rfl)))))) (fun _ _ _ _ _ => (se_v 5)))) so_none (so_some se_int)) (sg_name 3 sc_put_to.nd))
    (sb_cons (ss_asg (se_if (st_cmp (od_ne (u64 hr)) (se_v 3) (se_lst sa_nil) rfl) (se_ix (se_ix (se_v 3) se_int) se_int) (se_v 1)) (sg_name 4 sc_put_to.nd))
    (sb_one (ss_ret (se_ty cd_tuple rfl T.b_tuple (by decide +kernel) (sa_cons (se_sortSet (u66 hr) rfl rfl T.b_sorted rfl T.b_set (se_lst (sa_star (se_ofN (sn_comp (oo := [("look", 5)]) rfl sc_put_to.nd (si_seq (se_v 0)) (blkOk_by (by show blkC ["looks", "minute", "has_car", "ahead", "first", "look"] (defScope (top 79)) _ _ = true; decide +kernel)) (by decide) (fun _ _ _ _ _ => (sg_name 5 sc_put_to.nd)) (fun _ _ _ _ _ => (sts_one (st_cmp (od_notIn (u64 hr)) (se_v 5) (se_v 3) rfl))) (fun _ _ _ _ _ => (se_v 5)))) (sa_cons (se_tup (sa_cons (se_gS rfl T.c_NONE) (sa_cons (se_v 4) (sa_cons (se_v 1) sa_nil)))) sa_nil)))) sa_nil))))))))
theorem sc_is_pair : FnScope ["net", "value"] ["net", "value"] (defScope (top 72)) := ⟨rfl, rfl, rfl, by decide +kernel, rfl, by decide +kernel, by decide +kernel⟩
theorem ok_is_pair {P : Program} {w : World} {K : PySem.W.Frag} {mg : Str → Option Value} {base : Heap} {W : Wd} (T : Txt K mg W) : GD P w K mg base W 5 "is_pair" f_is_pair := by
  refine gd_of (ps := ["net", "value"]) T.F_is_pair sc_is_pair (fun _ _ _ _ _ _ us hl => match us, hl with | [_, _], _ => rfl) fun f cdv A outer s H E hr => ?_
  exact (sb_one (ss_ret (se_and (se_call (ok_is_tuple T) (hr.mono (by decide)) cx_passes rfl (sa_cons (se_v 1) (sa_cons (se_gI rfl T.c_PAIR) (sa_cons (se_gI rfl T.c_PAIR) sa_nil)))) (se_and (se_inO (se_ix (se_v 1) se_int) (se_v 0) (ok_Net_contains T) (hr.mono (by decide)) cx_passes) (se_one (se_call (ok_is_look T) (hr.mono (by decide)) cx_passes rfl (sa_cons (se_ix (se_v 1) se_int) sa_nil)))))))
theorem sc_Seen_init : FnScope ["self", "net", "looks", "pair", "line"] ["self", "net", "looks"] (defScope (mth 74 0)) := ⟨rfl, rfl, rfl, by decide +kernel, rfl, by decide +kernel, by decide +kernel⟩
theorem ok_Seen_init {P : Program} {w : World} {K : PySem.W.Frag} {mg : Str → Option Value} {base : Heap} {W : Wd} (T : Txt K mg W) : ID P w K mg base W 6 2 "Seen" f_Seen_init := by
  refine id_of1 (ps := ["self", "net", "looks"]) (n := 1) T.F_Seen_init sc_Seen_init (by decide) (fun _ _ _ _ _ _ _ us its hl hi => match us, hl, its, hi with | [_, _, _], _, [_], _ => ⟨_, rfl, rfl⟩) fun f cdv A outer s H E hr => ?_
  have hm : SB (CXe P w K mg base ["self", "net", "looks", "pair", "line"] "Seen.__init__" (mth 74 0) f cdv A outer s H E) W E (defBody (mth 74 0)) ((sCons (sIf (tOrM (tNotM (tE (eUn (isTy "tuple") (eV 2)))) (tOrM (tNotM (tE (eB bAll (lCons (eLstN (lComp (lItems (eV 2)) [3] (gSet 3) tYesM (eCall f_is_pair (lCons (eV 1) (lCons (eV 3) lNil))))) lNil)))) (tNotM (tE (eCall f_do_rise (lCons (eV 2) lNil)))))) (fun _ => .bad) sNil) (sCons (sIf (tE (eB bAny (lCons (eLstN (lComp (lItems (eProp 7 f_Net_lines (eV 1))) [4] (gSet 4) tYesM (eOp vGt (eB bLen (lCons (eCall f_looks_at (lCons (eV 2) (lCons (eV 4) lNil))) lNil)) (eC (.int 60))))) lNil))) (fun _ => .bad) sNil) (sCons (sFldO (W.sl 2) 2 0 0 (eV 1)) (sFldO (W.sl 2) 2 0 1 (eV 2)))))) := (sb_cons (ss_if (sw_t (sw_or (st_not (st_val (se_isi (x := "") ask_tuple (se_v 2) rfl T.b_isinstance rfl T.b_tuple (by decide +kernel)))) (sw_or (st_not (st_val (se_bi (cd_all rfl) rfl T.b_all (by decide +kernel) (sa_cons (se_ofN (sn_comp (oo := [("pair", 3)]) rfl sc_Seen_init.nd (si_seq (se_v 2)) (blkOk_by (by show blkC ["self", "net", "looks", "pair", "line"] (defScope (mth 74 0)) _ _ = true; decide +kernel)) (by decide) (fun _ _ _ _ _ => (sg_name 3 sc_Seen_init.nd)) (fun _ _ _ _ _ => sts_nil) (fun _ _ _ _ _ => (se_call (ok_is_pair T) (hr.mono (by decide)) passL rfl (sa_cons (se_v 1) (sa_cons (se_v 3) sa_nil)))))) sa_nil)))) (sw_or1 (st_not (st_val (se_call (ok_do_rise T) (hr.mono (by decide)) cx_passes rfl (sa_cons (se_v 2) sa_nil)))))))) sb_never sb_nil)
    (sb_cons (ss_if (st_val (se_bi (cd_any rfl) rfl T.b_any (by decide +kernel) (sa_cons (se_ofN (sn_comp (oo := [("line", 4)]) rfl sc_Seen_init.nd (si_seq (se_prop (se_v 1) (ok_Net_lines T) (hr.mono (by decide)))) (blkOk_by (by show blkC ["self", "net", "looks", "pair", "line"] (defScope (mth 74 0)) _ _ = true; decide +kernel)) (by decide) (fun _ _ _ _ _ => (sg_name 4 sc_Seen_init.nd)) (fun _ _ _ _ _ => sts_nil) (fun _ _ _ _ _ => (se_cmp od_gt (se_bi cd_len rfl T.b_len (by decide +kernel) (sa_cons (se_call (ok_looks_at T) (hr.mono (by decide)) passL rfl (sa_cons (se_v 2) (sa_cons (se_v 4) sa_nil))) sa_nil)) (se_gI rfl T.c_MOST_LOOKS) rfl)))) sa_nil))) sb_never sb_nil)
    (sb_cons (ss_fldO 0 T.fd_Seen_own_net (se_v 1))
    (sb_one (ss_fldO 0 T.fd_Seen_own_looks (se_v 2))))))
  rw [T.sl_Seen] at hm
  exact hm
theorem sc_looked : FnScope ["seen", "stop", "minute", "cars", "rows", "line", "looks", "pair", "look"] ["seen", "stop", "minute", "cars"] (defScope (top 80)) := ⟨rfl, rfl, rfl, by decide +kernel, rfl, by decide +kernel, by decide +kernel⟩
theorem ok_looked {P : Program} {w : World} {K : PySem.W.Frag} {mg : Str → Option Value} {base : Heap} {W : Wd} (T : Txt K mg W) : GD P w K mg base W 11 "looked" f_looked := by
  refine gd_of (ps := ["seen", "stop", "minute", "cars"]) T.F_looked sc_looked (fun _ _ _ _ _ _ us hl => match us, hl with | [_, _, _, _], _ => rfl) fun f cdv A outer s H E hr => ?_
  exact (sb_cons (ss_expr (se_call (ok_check_cars T) (hr.mono (by decide)) cx_passes rfl (sa_cons (se_prop (se_v 0) (ok_Seen_net T) (hr.mono (by decide))) (sa_cons (se_v 1) (sa_cons (se_v 3) sa_nil)))))
    (sb_cons (ss_if (st_not (st_val (se_call (ok_can_be T) (hr.mono (by decide)) cx_passes rfl (sa_cons (se_v 0) (sa_cons (se_v 1) (sa_cons (se_v 2) (sa_cons (se_v 3) sa_nil))))))) sb_never sb_nil)
    (sb_cons (ss_compL 4 (oo := [("pair", 7)]) rfl sc_looked.nd (si_seq (se_prop (se_v 0) (ok_Seen_looks T) (hr.mono (by decide)))) (blkOk_by (by show blkC ["seen", "stop", "minute", "cars", "rows", "line", "looks", "pair", "look"] (defScope (top 80)) _ _ = true; decide +kernel)) (by decide) (fun _ _ _ _ _ => (sg_name 7 sc_looked.nd)) (fun _ _ _ _ _ => (sts_one (st_cmp (od_notIn (u64 hr)) (se_ix (se_v 7) se_int) (se_meth (se_prop (se_v 0) (ok_Seen_net T) (hr.mono (by decide))) (ok_Net_leaving T) (hr.mono (by decide)) passL (sa_cons (se_v 1) sa_nil)) rfl))) (fun _ _ _ _ _ => (se_v 7)) rfl rfl rfl)
    (sb_cons (ss_for cx_own rfl (si_seq (se_meth (se_prop (se_v 0) (ok_Seen_net T) (hr.mono (by decide))) (ok_Net_leaving T) (hr.mono (by decide)) cx_passes (sa_cons (se_v 1) sa_nil))) (sg_name 5 sc_looked.nd) (sb_cons (ss_asg (se_call (ok_put_to T) (hr.mono (by decide)) cx_passes rfl (sa_cons (se_call (ok_looks_at T) (hr.mono (by decide)) cx_passes rfl (sa_cons (se_prop (se_v 0) (ok_Seen_looks T) (hr.mono (by decide))) (sa_cons (se_v 5) sa_nil))) (sa_cons (se_v 2) (sa_cons (se_cmp (od_in (u64 hr)) (se_v 5) (se_v 3) rfl) sa_nil)))) (sg_name 6 sc_looked.nd))
    (sb_cons (ss_if (st_cmp od_gt (se_bi cd_len rfl T.b_len (by decide +kernel) (sa_cons (se_v 6) sa_nil)) (se_gI rfl T.c_MOST_LOOKS) rfl) sb_never sb_nil)
    (sb_one (ss_expr (se_extend 4 (sn_comp (oo := [("look", 8)]) rfl sc_looked.nd (si_seq (se_v 6)) (blkOk_by (by show blkC ["seen", "stop", "minute", "cars", "rows", "line", "looks", "pair", "look"] (defScope (top 80)) _ _ = true; decide +kernel)) (by decide) (fun _ _ _ _ _ => (sg_name 8 sc_looked.nd)) (fun _ _ _ _ _ => sts_nil) (fun _ _ _ _ _ => (se_tup (sa_cons (se_v 5) (sa_cons (se_v 8) sa_nil)))))))))))
    (sb_one (ss_ret (se_make (ok_Seen_init T) (hr.mono (by decide)) cx_passes rfl (sa_cons (se_prop (se_v 0) (ok_Seen_net T) (hr.mono (by decide))) (sa_cons (se_ty cd_tuple rfl T.b_tuple (by decide +kernel) (sa_cons (se_bi (cd_sorted (u66 hr)) rfl T.b_sorted (by decide +kernel) (sa_cons (se_fz 4) sa_nil)) sa_nil)) sa_nil)))))))))
theorem sc_cars_text : FnScope ["cars"] ["cars"] (defScope (top 81)) := ⟨rfl, rfl, rfl, by decide +kernel, rfl, by decide +kernel, by decide +kernel⟩
theorem ok_cars_text {P : Program} {w : World} {K : PySem.W.Frag} {mg : Str → Option Value} {base : Heap} {W : Wd} (T : Txt K mg W) : GD P w K mg base W 1 "cars_text" f_cars_text := by
  refine gd_of (ps := ["cars"]) T.F_cars_text sc_cars_text (fun _ _ _ _ _ _ us hl => match us, hl with | [_], _ => rfl) fun f cdv A outer s H E hr => ?_
  exact (sb_one (ss_ret (se_if (st_cmp (od_ne (u64 hr)) (se_v 0) (se_tup sa_nil) rfl) (se_join (se_gS rfl T.c_COMMA) (se_v 0)) (se_gS rfl T.c_DASH))))
theorem sc_Moment_init : FnScope ["self", "line", "known", "place", "now"] ["self", "line", "known", "place", "now"] (defScope (mth 82 1)) := ⟨rfl, rfl, rfl, by decide +kernel, rfl, by decide +kernel, by decide +kernel⟩
theorem ok_Moment_init {P : Program} {w : World} {K : PySem.W.Frag} {mg : Str → Option Value} {base : Heap} {W : Wd} (T : Txt K mg W) : ID P w K mg base W 1 3 "Moment" f_Moment_init := by
  refine id_of (ps := ["self", "line", "known", "place", "now"]) T.F_Moment_init sc_Moment_init (fun _ _ _ _ _ _ us hl => match us, hl with | [_, _, _, _, _], _ => rfl) fun f cdv A outer s H E hr => ?_
  have hm : SB (CXe P w K mg base ["self", "line", "known", "place", "now"] "Moment.__init__" (mth 82 1) f cdv A outer s H E) W E (defBody (mth 82 1)) ((sCons (sFldO (W.sl 3) 3 0 1 (eV 1)) (sCons (sFldO (W.sl 3) 3 0 0 (eV 2)) (sCons (sFldO (W.sl 3) 3 0 3 (eV 3)) (sFldO (W.sl 3) 3 0 2 (eV 4)))))) := (sb_cons (ss_fldO 0 T.fd_Moment_line (se_v 1))
    (sb_cons (ss_fldO 0 T.fd_Moment_known (se_v 2))
    (sb_cons (ss_fldO 0 T.fd_Moment_place (se_v 3))
    (sb_one (ss_fldO 0 T.fd_Moment_now (se_v 4))))))
  rw [T.sl_Moment] at hm
  exact hm
theorem sc_Day_init : FnScope ["self", "seen", "stop", "minute", "cars", "made", "line"] ["self", "seen", "stop", "minute", "cars"] (defScope (mth 83 1)) := ⟨rfl, rfl, rfl, by decide +kernel, rfl, by decide +kernel, by decide +kernel⟩
theorem ok_Day_init {P : Program} {w : World} {K : PySem.W.Frag} {mg : Str → Option Value} {base : Heap} {W : Wd} (T : Txt K mg W) : IDK P w K mg base W 12 4 "Day" 3 ["cars"] f_Day_init := by
  refine idk_of (ps := ["self", "seen", "stop", "minute", "cars"]) T.F_Day_init sc_Day_init (fun _ _ _ _ _ _ us ws hl hw => match us, hl, ws, hw with | [_, _, _, _], _, [_], _ => rfl) fun f cdv A outer s H E hr => ?_
  have hm : SB (CXe P w K mg base ["self", "seen", "stop", "minute", "cars", "made", "line"] "Day.__init__" (mth 83 1) f cdv A outer s H E) W E (defBody (mth 83 1)) ((sCons (sExpr (eCall f_check_start (lCons (eV 1) (lCons (eV 2) (lCons (eV 3) lNil))))) (sCons (sExpr (eCall f_check_late (lCons (eV 1) (lCons (eV 3) lNil)))) (sCons (sAsg (eCall f_looked (lCons (eV 1) (lCons (eV 2) (lCons (eV 3) (lCons (eV 4) lNil))))) (gSet 5)) (sCons (sFldO (W.sl 4) 4 0 0 (eV 1)) (sCons (sAsg (eM1 isStrD mJoin (eC (.str " ")) (eLst (lCons (eC (.str "day")) (lCons (eV 2) (lCons (eB bStr (lCons (eV 3) lNil)) (lCons (eCall f_cars_text (lCons (eV 4) lNil)) lNil)))))) (gSet 6)) (sCons (sFldO (W.sl 4) 4 0 3 (eTup (lCons (eMake 3 f_Moment_init (lCons (eV 6) (lCons (eV 5) (lCons (eV 2) (lCons (eV 3) lNil))))) lNil))) (sCons (sFldO (W.sl 4) 4 0 2 (eTup lNil)) (sFldO (W.sl 4) 4 0 1 (eC .non)))))))))) := (sb_cons (ss_expr (se_call (ok_check_start T) (hr.mono (by decide)) cx_passes rfl (sa_cons (se_v 1) (sa_cons (se_v 2) (sa_cons (se_v 3) sa_nil)))))
    (sb_cons (ss_expr (se_call (ok_check_late T) (hr.mono (by decide)) cx_passes rfl (sa_cons (se_v 1) (sa_cons (se_v 3) sa_nil))))
    (sb_cons (ss_asg (se_call (ok_looked T) (hr.mono (by decide)) cx_passes rfl (sa_cons (se_v 1) (sa_cons (se_v 2) (sa_cons (se_v 3) (sa_cons (se_v 4) sa_nil))))) (sg_name 5 sc_Day_init.nd))
    (sb_cons (ss_fldO 0 T.fd_Day_own_begun (se_v 1))
    (sb_cons (ss_asg (se_join (se_gS rfl T.c_BLANK) (se_lst (sa_cons se_str (sa_cons (se_v 2) (sa_cons (se_ty cd_str rfl T.b_str (by decide +kernel) (sa_cons (se_v 3) sa_nil)) (sa_cons (se_call (ok_cars_text T) (hr.mono (by decide)) cx_passes rfl (sa_cons (se_v 4) sa_nil)) sa_nil)))))) (sg_name 6 sc_Day_init.nd))
    (sb_cons (ss_fldO 0 T.fd_Day_own_past (se_tup (sa_cons (se_make (ok_Moment_init T) (hr.mono (by decide)) cx_passes rfl (sa_cons (se_v 6) (sa_cons (se_v 5) (sa_cons (se_v 2) (sa_cons (se_v 3) sa_nil))))) sa_nil)))
    (sb_cons (ss_fldO 0 T.fd_Day_own_later (se_tup sa_nil))
    (sb_one (ss_fldO 0 T.fd_Day_own_block se_non)))))))))
  rw [T.sl_Day] at hm
  exact hm
theorem sc_is_name : FnScope ["value", "sign"] ["value"] (defScope (top 34)) := ⟨rfl, rfl, rfl, by decide +kernel, rfl, by decide +kernel, by decide +kernel⟩
theorem ok_is_name {P : Program} {w : World} {K : PySem.W.Frag} {mg : Str → Option Value} {base : Heap} {W : Wd} (T : Txt K mg W) : GD P w K mg base W 1 "is_name" f_is_name := by
  refine gd_of (ps := ["value"]) T.F_is_name sc_is_name (fun _ _ _ _ _ _ us hl => match us, hl with | [_], _ => rfl) fun f cdv A outer s H E hr => ?_
  exact (sb_cons (ss_if (sw_t (sw_or (st_not (st_val (se_isi (x := "") ask_str (se_v 0) rfl T.b_isinstance rfl T.b_str (by decide +kernel)))) (sw_or1 (st_not (st_chain (od_lt (u64 hr)) od_le se_int (se_bi cd_len rfl T.b_len (by decide +kernel) (sa_cons (se_v 0) sa_nil)) (se_gI rfl T.c_MOST_LETTERS)))))) (sb_one (ss_ret se_bl)) sb_nil)
    (sb_one (ss_ret (se_bi (cd_all rfl) rfl T.b_all (by decide +kernel) (sa_cons (se_ofN (sn_comp (oo := [("sign", 1)]) rfl sc_is_name.nd (si_seq (se_v 0)) (blkOk_by (by show blkC ["value", "sign"] (defScope (top 34)) _ _ = true; decide +kernel)) (by decide) (fun _ _ _ _ _ => (sg_name 1 sc_is_name.nd)) (fun _ _ _ _ _ => sts_nil) (fun _ _ _ _ _ => (se_cmp (od_in (u64 hr)) (se_v 1) (se_gS rfl T.c_LETTERS) rfl)))) sa_nil)))))
theorem sc_stops_in : FnScope ["words", "names", "name"] ["words"] (defScope (top 99)) := ⟨rfl, rfl, rfl, by decide +kernel, rfl, by decide +kernel, by decide +kernel⟩
theorem ok_stops_in {P : Program} {w : World} {K : PySem.W.Frag} {mg : Str → Option Value} {base : Heap} {W : Wd} (T : Txt K mg W) : GD P w K mg base W 2 "stops_in" f_stops_in := by
  refine gd_of (ps := ["words"]) T.F_stops_in sc_stops_in (fun _ _ _ _ _ _ us hl => match us, hl with | [_], _ => rfl) fun f cdv A outer s H E hr => ?_
  exact (sb_cons (ss_asg (se_slice (se_v 0) (so_some se_int) so_none) (sg_name 1 sc_stops_in.nd))
    (sb_cons (ss_if (sw_t (sw_or (st_cmp (od_ne (u64 hr)) (se_ix (se_v 0) se_int) (se_gS rfl T.c_STOPS) rfl) (sw_or (st_not (st_chain (od_lt (u64 hr)) od_le se_int (se_bi cd_len rfl T.b_len (by decide +kernel) (sa_cons (se_v 1) sa_nil)) (se_gI rfl T.c_MOST_STOPS))) (sw_or1 (st_not (st_val (se_bi (cd_all rfl) rfl T.b_all (by decide +kernel) (sa_cons (se_ofN (sn_comp (oo := [("name", 2)]) rfl sc_stops_in.nd (si_seq (se_v 1)) (blkOk_by (by show blkC ["words", "names", "name"] (defScope (top 99)) _ _ = true; decide +kernel)) (by decide) (fun _ _ _ _ _ => (sg_name 2 sc_stops_in.nd)) (fun _ _ _ _ _ => sts_nil) (fun _ _ _ _ _ => (se_call (ok_is_name T) (hr.mono (by decide)) passL rfl (sa_cons (se_v 2) sa_nil))))) sa_nil)))))))) (sb_one (ss_ret se_non)) sb_nil)
    (sb_one (ss_ret (se_if (st_cmp (od_eq (u64 hr)) (se_lenSet rfl rfl T.b_len rfl T.b_set (se_v 1)) (se_bi cd_len rfl T.b_len (by decide +kernel) (sa_cons (se_v 1) sa_nil)) rfl) (se_ty cd_tuple rfl T.b_tuple (by decide +kernel) (sa_cons (se_v 1) sa_nil)) se_non)))))
theorem sc_Draft_init : FnScope ["self", "stops"] ["self", "stops"] (defScope (mth 101 0)) := ⟨rfl, rfl, rfl, by decide +kernel, rfl, by decide +kernel, by decide +kernel⟩
theorem ok_Draft_init {P : Program} {w : World} {K : PySem.W.Frag} {mg : Str → Option Value} {base : Heap} {W : Wd} (T : Txt K mg W) : ID P w K mg base W 1 6 "Draft" f_Draft_init := by
  refine id_of (ps := ["self", "stops"]) T.F_Draft_init sc_Draft_init (fun _ _ _ _ _ _ us hl => match us, hl with | [_, _], _ => rfl) fun f cdv A outer s H E hr => ?_
  have hm : SB (CXe P w K mg base ["self", "stops"] "Draft.__init__" (mth 101 0) f cdv A outer s H E) W E (defBody (mth 101 0)) ((sCons (sFldO (W.sl 6) 6 0 0 (eV 1)) (sCons (sNewDK (W.sl 6) 6 0 1) (sNewDK (W.sl 6) 6 0 2)))) := (sb_cons (ss_fldO 0 T.fd_Draft_own_stops (se_v 1))
    (sb_cons (ss_newDK (i := 0) T.fd_Draft_own_ways)
    (sb_one (ss_newDK (i := 0) T.fd_Draft_own_lines))))
  rw [T.sl_Draft] at hm
  exact hm
theorem sc_number_in : FnScope ["word", "low", "high", "sign"] ["word", "low", "high"] (defScope (top 36)) := ⟨rfl, rfl, rfl, by decide +kernel, rfl, by decide +kernel, by decide +kernel⟩
theorem ok_number_in {P : Program} {w : World} {K : PySem.W.Frag} {mg : Str → Option Value} {base : Heap} {W : Wd} (T : Txt K mg W) : GD P w K mg base W 1 "number_in" f_number_in := by
  refine gd_of (ps := ["word", "low", "high"]) T.F_number_in sc_number_in (fun _ _ _ _ _ _ us hl => match us, hl with | [_, _, _], _ => rfl) fun f cdv A outer s H E hr => ?_
  exact (sb_cons (ss_if (sw_t (sw_or (st_not (st_chain (od_lt (u64 hr)) od_le se_int (se_bi cd_len rfl T.b_len (by decide +kernel) (sa_cons (se_v 0) sa_nil)) (se_gI rfl T.c_MOST_FIGURES))) (sw_or1 (st_not (st_val (se_bi (cd_all rfl) rfl T.b_all (by decide +kernel) (sa_cons (se_ofN (sn_comp (oo := [("sign", 3)]) rfl sc_number_in.nd (si_seq (se_v 0)) (blkOk_by (by show blkC ["word", "low", "high", "sign"] (defScope (top 36)) _ _ = true; decide +kernel)) (by decide) (fun _ _ _ _ _ => (sg_name 3 sc_number_in.nd)) (fun _ _ _ _ _ => sts_nil) (fun _ _ _ _ _ => (se_cmp (od_in (u64 hr)) (se_v 3) (se_gS rfl T.c_FIGURES) rfl)))) sa_nil))))))) (sb_one (ss_ret se_non)) sb_nil)
    (sb_cons (ss_if (sw_t (sw_and (st_cmp (od_eq (u64 hr)) (se_ix (se_v 0) se_int) (se_gS rfl T.c_NOUGHT) rfl) (sw_and1 (st_cmp (od_ne (u64 hr)) (se_v 0) (se_gS rfl T.c_NOUGHT) rfl)))) (sb_one (ss_ret se_non)) sb_nil)
    (sb_one (ss_ret (se_if (st_chain od_le od_le (se_v 1) (se_ty cd_int rfl T.b_int (by decide +kernel) (sa_cons (se_v 0) sa_nil)) (se_v 2)) (se_ty cd_int rfl T.b_int (by decide +kernel) (sa_cons (se_v 0) sa_nil)) se_non)))))
theorem sc_rides_in : FnScope ["stops", "stop", "words", "names", "minutes", "word", "name", "one", "other"] ["stops", "stop", "words"] (defScope (top 100)) := ⟨rfl, rfl, rfl, by decide +kernel, rfl, by decide +kernel, by decide +kernel⟩
theorem ok_rides_in {P : Program} {w : World} {K : PySem.W.Frag} {mg : Str → Option Value} {base : Heap} {W : Wd} (T : Txt K mg W) : GD P w K mg base W 2 "rides_in" f_rides_in := by
  refine gd_of (ps := ["stops", "stop", "words"]) T.F_rides_in sc_rides_in (fun _ _ _ _ _ _ us hl => match us, hl with | [_, _, _], _ => rfl) fun f cdv A outer s H E hr => ?_
  exact (sb_cons (ss_if (sw_t (sw_or (st_cmp (od_eq (u64 hr)) (se_v 2) (se_lst sa_nil) rfl) (sw_or1 (st_cmp (od_eq (u64 hr)) (se_op od_mod (se_bi cd_len rfl T.b_len (by decide +kernel) (sa_cons (se_v 2) sa_nil)) (se_gI rfl T.c_PAIR)) se_int rfl)))) (sb_one (ss_ret se_non)) sb_nil)
    (sb_cons (ss_par (i := 3) (j := 4) (sa_cons (se_sliceK (se_v 2) so_none (so_some (se_gI rfl T.c_PAIR))) (sa_cons (se_ofN (sn_comp (oo := [("word", 5)]) rfl sc_rides_in.nd (si_seq (se_sliceK (se_v 2) (so_some se_int) (so_some (se_gI rfl T.c_PAIR)))) (blkOk_by (by show blkC ["stops", "stop", "words", "names", "minutes", "word", "name", "one", "other"] (defScope (top 100)) _ _ = true; decide +kernel)) (by decide) (fun _ _ _ _ _ => (sg_name 5 sc_rides_in.nd)) (fun _ _ _ _ _ => sts_nil) (fun _ _ _ _ _ => (se_call (ok_number_in T) (hr.mono (by decide)) passL rfl (sa_cons (se_v 5) (sa_cons se_int (sa_cons (se_gI rfl T.c_MOST_RIDE) sa_nil))))))) sa_nil)) rfl sc_rides_in.nd rfl rfl (by decide) rfl rfl rfl)
    (sb_cons (ss_if (sw_t (sw_or (st_not (st_val (se_bi (cd_all rfl) rfl T.b_all (by decide +kernel) (sa_cons (se_ofN (sn_comp (oo := [("name", 6)]) rfl sc_rides_in.nd (si_seq (se_v 3)) (blkOk_by (by show blkC ["stops", "stop", "words", "names", "minutes", "word", "name", "one", "other"] (defScope (top 100)) _ _ = true; decide +kernel)) (by decide) (fun _ _ _ _ _ => (sg_name 6 sc_rides_in.nd)) (fun _ _ _ _ _ => sts_nil) (fun _ _ _ _ _ => (se_and (se_cmp (od_in (u64 hr)) (se_v 6) (se_v 0) rfl) (se_one (se_cmp (od_ne (u64 hr)) (se_v 6) (se_v 1) rfl)))))) sa_nil)))) (sw_or1 (st_cmp (od_lt (u64 hr)) (se_lenSet rfl rfl T.b_len rfl T.b_set (se_v 3)) (se_bi cd_len rfl T.b_len (by decide +kernel) (sa_cons (se_v 3) sa_nil)) rfl)))) (sb_one (ss_ret se_non)) sb_nil)
    (sb_cons (ss_if (sw_t (sw_or (st_cmp (od_in (u64 hr)) se_non (se_v 4) rfl) (sw_or1 (st_not (st_val (se_bi (cd_all rfl) rfl T.b_all (by decide +kernel) (sa_cons (se_ofN (sn_comp (oo := [("one", 7), ("other", 8)]) rfl sc_rides_in.nd (si_zip rfl T.b_zip (sa_cons (se_v 4) (sa_cons (se_slice (se_v 4) (so_some se_int) so_none) sa_nil))) (blkOk_by (by show blkC ["stops", "stop", "words", "names", "minutes", "word", "name", "one", "other"] (defScope (top 100)) _ _ = true; decide +kernel)) (by decide) (fun _ _ _ _ _ => (sg_tup rfl (sgs_cons (sg_name 7 sc_rides_in.nd) (sgs_cons (sg_name 8 sc_rides_in.nd) sgs_nil)))) (fun _ _ _ _ _ => sts_nil) (fun _ _ _ _ _ => (se_cmp (od_lt (u64 hr)) (se_v 7) (se_v 8) rfl)))) sa_nil))))))) (sb_one (ss_ret se_non)) sb_nil)
    (sb_one (ss_ret (se_ty cd_tuple rfl T.b_tuple (by decide +kernel) (sa_cons (se_ofN (sn_listZip rfl rfl T.b_list rfl T.b_zip (sa_cons (se_v 3) (sa_cons (se_v 4) sa_nil)))) sa_nil))))))))
theorem sc_Gaps_init : FnScope ["self", "least", "most"] ["self", "least", "most"] (defScope (mth 86 0)) := ⟨rfl, rfl, rfl, by decide +kernel, rfl, by decide +kernel, by decide +kernel⟩
theorem ok_Gaps_init {P : Program} {w : World} {K : PySem.W.Frag} {mg : Str → Option Value} {base : Heap} {W : Wd} (T : Txt K mg W) : ID P w K mg base W 2 5 "Gaps" f_Gaps_init := by
  refine id_of (ps := ["self", "least", "most"]) T.F_Gaps_init sc_Gaps_init (fun _ _ _ _ _ _ us hl => match us, hl with | [_, _, _], _ => rfl) fun f cdv A outer s H E hr => ?_
  have hm : SB (CXe P w K mg base ["self", "least", "most"] "Gaps.__init__" (mth 86 0) f cdv A outer s H E) W E (defBody (mth 86 0)) ((sCons (sIf (tOrM (tNotM (tE (eCall f_is_integer (lCons (eV 1) (lCons (eC (.int 1)) (lCons (eC (.int 60)) lNil)))))) (tOrM (tNotM (tE (eCall f_is_integer (lCons (eV 2) (lCons (eC (.int 1)) (lCons (eC (.int 60)) lNil)))))) (tE (eOp vGt (eV 1) (eV 2))))) (fun _ => .bad) sNil) (sCons (sFldO (W.sl 5) 5 0 0 (eV 1)) (sFldO (W.sl 5) 5 0 1 (eV 2))))) := (sb_cons (ss_if (sw_t (sw_or (st_not (st_val (se_call (ok_is_integer T) (hr.mono (by decide)) cx_passes rfl (sa_cons (se_v 1) (sa_cons se_int (sa_cons (se_gI rfl T.c_MOST_GAP) sa_nil)))))) (sw_or (st_not (st_val (se_call (ok_is_integer T) (hr.mono (by decide)) cx_passes rfl (sa_cons (se_v 2) (sa_cons se_int (sa_cons (se_gI rfl T.c_MOST_GAP) sa_nil)))))) (sw_or1 (st_cmp od_gt (se_v 1) (se_v 2) rfl))))) sb_never sb_nil)
    (sb_cons (ss_fldO 0 T.fd_Gaps_own_least (se_v 1))
    (sb_one (ss_fldO 0 T.fd_Gaps_own_most (se_v 2)))))
  rw [T.sl_Gaps] at hm
  exact hm
theorem sc_Draft_take_line : FnScope ["self", "words", "name", "stop", "low", "high", "rides", "word"] ["self", "words"] (defScope (mth 101 2)) := ⟨rfl, rfl, rfl, by decide +kernel, rfl, by decide +kernel, by decide +kernel⟩
theorem ok_Draft_take_line {P : Program} {w : World} {K : PySem.W.Frag} {mg : Str → Option Value} {base : Heap} {W : Wd} (T : Txt K mg W) : MD P w K mg base W 4 6 "take_line" f_Draft_take_line := by
  refine md_of (ps := ["self", "words"]) T.cd_Draft (by rw [T.an_Draft]; decide) T.F_Draft_take_line sc_Draft_take_line (fun _ _ _ _ _ _ us hl => match us, hl with | [_, _], _ => rfl) fun f cdv A outer s H E hr => ?_
  exact (sb_cons (ss_if (sw_t (sw_or (st_cmp od_le (se_bi cd_len rfl T.b_len (by decide +kernel) (sa_cons (se_v 1) sa_nil)) (se_gI rfl T.c_LINE_WORDS) rfl) (sw_or (st_cmp (od_eq (u64 hr)) (se_biOD (i := 0) T.fd_Draft_own_lines cd_len rfl T.b_len (by decide +kernel)) (se_gI rfl T.c_MOST_LINES) rfl) (sw_or1 (st_cmp (od_ne (u64 hr)) (se_ix (se_v 1) (se_op od_sub (se_gI rfl T.c_LINE_WORDS) se_int)) (se_gS rfl T.c_TO) rfl))))) (sb_one (ss_ret se_bl)) sb_nil)
    (sb_cons (ss_asg (se_tup (sa_cons (se_ix (se_v 1) se_int) (sa_cons (se_ix (se_v 1) se_int) (sa_star (se_ofN (sn_comp (oo := [("word", 7)]) rfl sc_Draft_take_line.nd (si_seq (se_slice (se_v 1) (so_some se_int) (so_some se_int))) (blkOk_by (by show blkC ["self", "words", "name", "stop", "low", "high", "rides", "word"] (defScope (mth 101 2)) _ _ = true; decide +kernel)) (by decide) (fun _ _ _ _ _ => (sg_name 7 sc_Draft_take_line.nd)) (fun _ _ _ _ _ => sts_nil) (fun _ _ _ _ _ => (se_call (ok_number_in T) (hr.mono (by decide)) passL rfl (sa_cons (se_v 7) (sa_cons se_int (sa_cons (se_gI rfl T.c_MOST_GAP) sa_nil))))))) sa_nil)))) (sg_tup rfl (sgs_cons (sg_name 2 sc_Draft_take_line.nd) (sgs_cons (sg_name 3 sc_Draft_take_line.nd) (sgs_cons (sg_name 4 sc_Draft_take_line.nd) (sgs_cons (sg_name 5 sc_Draft_take_line.nd) sgs_nil))))))
    (sb_cons (ss_if (sw_t (sw_or (st_not (st_val (se_call (ok_is_name T) (hr.mono (by decide)) cx_passes rfl (sa_cons (se_v 2) sa_nil)))) (sw_or (st_cmpOD (i := 0) T.fd_Draft_own_lines (od_in (u64 hr)) (se_v 2)) (sw_or1 (st_cmp (od_notIn (u64 hr)) (se_v 3) (se_fldO 0 T.fd_Draft_own_stops) rfl))))) (sb_one (ss_ret se_bl)) sb_nil)
    (sb_cons (ss_asg (se_call (ok_rides_in T) (hr.mono (by decide)) cx_passes rfl (sa_cons (se_fldO 0 T.fd_Draft_own_stops) (sa_cons (se_v 3) (sa_cons (se_slice (se_v 1) (so_some (se_gI rfl T.c_FIRST_RIDE)) so_none) sa_nil)))) (sg_name 6 sc_Draft_take_line.nd))
    (sb_cons (ss_if (sw_t (sw_or (st_cmp od_isN (se_v 4) se_non rfl) (sw_or (st_cmp od_isN (se_v 5) se_non rfl) (sw_or (st_cmp od_gt (se_v 4) (se_v 5) rfl) (sw_or1 (st_cmp od_isN (se_v 6) se_non rfl)))))) (sb_one (ss_ret se_bl)) sb_nil)
    (sb_cons (ss_setDK (i := 0) (l := 2) (u1 hr) T.fd_Draft_own_lines (se_tup (sa_cons (se_v 3) (sa_cons (se_make (ok_Gaps_init T) (hr.mono (by decide)) cx_passes rfl (sa_cons (se_v 4) (sa_cons (se_v 5) sa_nil))) (sa_cons (se_v 6) sa_nil)))))
    (sb_one (ss_ret se_bl))))))))
theorem sc_Draft_take : FnScope ["self", "line", "words"] ["self", "line"] (defScope (mth 101 3)) := ⟨rfl, rfl, rfl, by decide +kernel, rfl, by decide +kernel, by decide +kernel⟩
theorem ok_Draft_take {P : Program} {w : World} {K : PySem.W.Frag} {mg : Str → Option Value} {base : Heap} {W : Wd} (T : Txt K mg W) : MD P w K mg base W 5 6 "take" f_Draft_take := by
  refine md_of (ps := ["self", "line"]) T.cd_Draft (by rw [T.an_Draft]; decide) T.F_Draft_take sc_Draft_take (fun _ _ _ _ _ _ us hl => match us, hl with | [_, _], _ => rfl) fun f cdv A outer s H E hr => ?_
  exact (sb_cons (ss_asg (se_split (se_v 1) (se_gS rfl T.c_BLANK)) (sg_name 2 sc_Draft_take.nd))
    (sb_cons (ss_if (st_cmp (od_eq (u64 hr)) (se_ix (se_v 2) se_int) (se_gS rfl T.c_WAY) rfl) sb_never sb_nil)
    (sb_one (ss_ret (se_and (se_cmp (od_eq (u64 hr)) (se_ix (se_v 2) se_int) (se_gS rfl T.c_LINE) rfl) (se_one (se_methO 0 (ok_Draft_take_line T) (hr.mono (by decide)) cx_passes (sa_cons (se_v 2) sa_nil))))))))
theorem sc_draft_in : FnScope ["text", "rows", "stops", "found", "number", "row"] ["text"] (defScope (top 102)) := ⟨rfl, rfl, rfl, by decide +kernel, rfl, by decide +kernel, by decide +kernel⟩
theorem ok_draft_in {P : Program} {w : World} {K : PySem.W.Frag} {mg : Str → Option Value} {base : Heap} {W : Wd} (T : Txt K mg W) : GD P w K mg base W 6 "draft_in" f_draft_in := by
  refine gd_of (ps := ["text"]) T.F_draft_in sc_draft_in (fun _ _ _ _ _ _ us hl => match us, hl with | [_], _ => rfl) fun f cdv A outer s H E hr => ?_
  exact (sb_cons (ss_if (st_not (st_val (se_isi (x := "") ask_str (se_v 0) rfl T.b_isinstance rfl T.b_str (by decide +kernel)))) sb_never sb_nil)
    (sb_cons (ss_asg (se_split (se_v 0) (se_gS rfl T.c_FEED)) (sg_name 1 sc_draft_in.nd))
    (sb_cons (ss_asg (se_call (ok_stops_in T) (hr.mono (by decide)) cx_passes rfl (sa_cons (se_split (se_ix (se_v 1) se_int) (se_gS rfl T.c_BLANK)) sa_nil)) (sg_name 2 sc_draft_in.nd))
    (sb_cons (ss_if (st_cmp od_isN (se_v 2) se_non rfl) sb_never sb_nil)
    (sb_cons (ss_make 3 sc_draft_in.nd (ok_Draft_init T) (hr.mono (by decide)) cx_passes rfl (sa_cons (se_v 2) sa_nil))
    (sb_cons (ss_for cx_own rfl (si_enum rfl T.b_enumerate (sa_cons (se_slice (se_v 1) (so_some se_int) so_none) sa_nil)) (sg_tup rfl (sgs_cons (sg_name 4 sc_draft_in.nd) (sgs_cons (sg_name 5 sc_draft_in.nd) sgs_nil))) (sb_one (ss_if (st_not (st_val (se_methO 3 (ok_Draft_take T) (hr.mono (by decide)) cx_passes (sa_cons (se_v 5) sa_nil)))) sb_never sb_nil)))
    (sb_one (ss_ret (se_fz 3)))))))))
theorem sc_Net_init : FnScope ["self", "text", "draft"] ["self", "text"] (defScope (mth 103 0)) := ⟨rfl, rfl, rfl, by decide +kernel, rfl, by decide +kernel, by decide +kernel⟩
theorem ok_Net_init {P : Program} {w : World} {K : PySem.W.Frag} {mg : Str → Option Value} {base : Heap} {W : Wd} (T : Txt K mg W) : ID P w K mg base W 7 7 "Net" f_Net_init := by
  refine id_of (ps := ["self", "text"]) T.F_Net_init sc_Net_init (fun _ _ _ _ _ _ us hl => match us, hl with | [_, _], _ => rfl) fun f cdv A outer s H E hr => ?_
  have hm : SB (CXe P w K mg base ["self", "text", "draft"] "Net.__init__" (mth 103 0) f cdv A outer s H E) W E (defBody (mth 103 0)) ((sCons (sAsg (eCall f_draft_in (lCons (eV 1) lNil)) (gSet 2)) (sCons (sFldO (W.sl 7) 7 0 0 (eV 1)) (sCons (sFldO (W.sl 7) 7 0 1 (eUn (fldOf 6 0) (eV 2))) (sCons (sFldO (W.sl 7) 7 0 2 (eUn (fldOf 6 1) (eV 2))) (sFldO (W.sl 7) 7 0 3 (eUn (fldOf 6 2) (eV 2)))))))) := (sb_cons (ss_asg (se_call (ok_draft_in T) (hr.mono (by decide)) cx_passes rfl (sa_cons (se_v 1) sa_nil)) (sg_name 2 sc_Net_init.nd))
    (sb_cons (ss_fldO 0 T.fd_Net_own_text (se_v 1))
    (sb_cons (ss_fldO 0 T.fd_Net_own_stops (se_fld (se_v 2) T.fd_Draft_own_stops))
    (sb_cons (ss_fldO 0 T.fd_Net_own_ways (se_fld (se_v 2) T.fd_Draft_own_ways))
    (sb_one (ss_fldO 0 T.fd_Net_own_lines (se_fld (se_v 2) T.fd_Draft_own_lines)))))))
  rw [T.sl_Net] at hm
  exact hm
theorem sc_law_line_text : FnScope ["_law_row", "_law_name", "_law_stop", "_law_least", "_law_most", "_law_rides", "_law_words", "_law_other", "_law_late"] ["_law_row"] (defScope (top 112)) := ⟨rfl, rfl, rfl, by decide +kernel, rfl, by decide +kernel, by decide +kernel⟩
theorem ok_law_line_text {P : Program} {w : World} {K : PySem.W.Frag} {mg : Str → Option Value} {base : Heap} {W : Wd} (T : Txt K mg W) : GD P w K mg base W 1 "_law_line_text" f_law_line_text := by
  refine gd_of (ps := ["_law_row"]) T.F_law_line_text sc_law_line_text (fun _ _ _ _ _ _ us hl => match us, hl with | [_], _ => rfl) fun f cdv A outer s H E hr => ?_
  exact (sb_cons (ss_asg (se_v 0) (sg_tup rfl (sgs_cons (sg_name 1 sc_law_line_text.nd) (sgs_cons (sg_name 2 sc_law_line_text.nd) (sgs_cons (sg_name 3 sc_law_line_text.nd) (sgs_cons (sg_name 4 sc_law_line_text.nd) (sgs_cons (sg_name 5 sc_law_line_text.nd) sgs_nil)))))))
    (sb_cons (ss_newL 6 sc_law_line_text.nd (sn_lst (sa_cons se_str (sa_cons (se_v 1) (sa_cons (se_v 2) (sa_cons (se_ty cd_str rfl T.b_str (by decide +kernel) (sa_cons (se_v 3) sa_nil)) (sa_cons (se_ty cd_str rfl T.b_str (by decide +kernel) (sa_cons (se_v 4) sa_nil)) (sa_cons se_str sa_nil))))))))
    (sb_cons (ss_for cx_own rfl (si_seq (se_v 5)) (sg_tup rfl (sgs_cons (sg_name 7 sc_law_line_text.nd) (sgs_cons (sg_name 8 sc_law_line_text.nd) sgs_nil))) (sb_one (ss_expr (se_extend 6 (sn_lst (sa_cons (se_v 7) (sa_cons (se_ty cd_str rfl T.b_str (by decide +kernel) (sa_cons (se_v 8) sa_nil)) sa_nil)))))))
    (sb_one (ss_ret (se_join se_str (se_fz 6)))))))
theorem sc_law_net_text : FnScope ["_law_lore", "_law_rows", "_law_one", "_law_other", "_law_many", "_law_row"] ["_law_lore"] (defScope (top 113)) := ⟨rfl, rfl, rfl, by decide +kernel, rfl, by decide +kernel, by decide +kernel⟩
theorem ok_law_net_text {P : Program} {w : World} {K : PySem.W.Frag} {mg : Str → Option Value} {base : Heap} {W : Wd} (T : Txt K mg W) : GD P w K mg base W 2 "_law_net_text" f_law_net_text := by
  refine gd_of (ps := ["_law_lore"]) T.F_law_net_text sc_law_net_text (fun _ _ _ _ _ _ us hl => match us, hl with | [_], _ => rfl) fun f cdv A outer s H E hr => ?_
  exact (sb_cons (ss_newL 1 sc_law_net_text.nd (sn_lst (sa_cons (se_op od_add se_str (se_join se_str (se_dx (u64 hr) (se_v 0) se_str))) sa_nil)))
    (sb_cons (ss_expr (se_extend 1 (sn_comp (oo := [("_law_one", 2), ("_law_other", 3), ("_law_many", 4)]) rfl sc_law_net_text.nd (si_seq (se_dx (u64 hr) (se_v 0) se_str)) (blkOk_by (by show blkC ["_law_lore", "_law_rows", "_law_one", "_law_other", "_law_many", "_law_row"] (defScope (top 113)) _ _ = true; decide +kernel)) (by decide) (fun _ _ _ _ _ => (sg_tup rfl (sgs_cons (sg_name 2 sc_law_net_text.nd) (sgs_cons (sg_name 3 sc_law_net_text.nd) (sgs_cons (sg_name 4 sc_law_net_text.nd) sgs_nil))))) (fun _ _ _ _ _ => sts_nil) (fun _ _ _ _ _ => (se_join se_str (se_lst (sa_cons se_str (sa_cons (se_v 2) (sa_cons (se_v 3) (sa_cons (se_ty cd_str rfl T.b_str (by decide +kernel) (sa_cons (se_v 4) sa_nil)) sa_nil))))))))))
    (sb_one (ss_ret (se_join se_str (se_op od_add (se_fz 1) (se_ofN (sn_comp (oo := [("_law_row", 5)]) rfl sc_law_net_text.nd (si_seq (se_dx (u64 hr) (se_v 0) se_str)) (blkOk_by (by show blkC ["_law_lore", "_law_rows", "_law_one", "_law_other", "_law_many", "_law_row"] (defScope (top 113)) _ _ = true; decide +kernel)) (by decide) (fun _ _ _ _ _ => (sg_name 5 sc_law_net_text.nd)) (fun _ _ _ _ _ => sts_nil) (fun _ _ _ _ _ => (se_call (ok_law_line_text T) (hr.mono (by decide)) passL rfl (sa_cons (se_v 5) sa_nil)))))))))))
theorem sc_law_due : FnScope ["_law_looks", "_law_minute", "_law_has_car", "_law_holding", "_law_ahead", "_law_rest", "_law_look"] ["_law_looks", "_law_minute", "_law_has_car"] (defScope (top 114)) := ⟨rfl, rfl, rfl, by decide +kernel, rfl, by decide +kernel, by decide +kernel⟩
theorem ok_law_due {P : Program} {w : World} {K : PySem.W.Frag} {mg : Str → Option Value} {base : Heap} {W : Wd} (T : Txt K mg W) : GD P w K mg base W 1 "_law_due" f_law_due := by
  refine gd_of (ps := ["_law_looks", "_law_minute", "_law_has_car"]) T.F_law_due sc_law_due (fun _ _ _ _ _ _ us hl => match us, hl with | [_, _, _], _ => rfl) fun f cdv A outer s H E hr => ?_
  exact (sb_cons (ss_if (st_val (se_v 2)) (sb_one (ss_ret (se_ty cd_tuple rfl T.b_tuple (by decide +kernel) (sa_cons (se_sortSet (u66 hr) rfl rfl T.b_sorted rfl T.b_set (se_op od_add (se_v 0) (se_tup (sa_cons (se_tup (sa_cons se_str (sa_cons (se_v 1) sa_nil))) sa_nil)))) sa_nil)))) sb_nil)
    (sb_cons (ss_compV 3 (oo := [("_law_look", 6)]) rfl sc_law_due.nd (si_seq (se_v 0)) (blkOk_by (by show blkC ["_law_looks", "_law_minute", "_law_has_car", "_law_holding", "_law_ahead", "_law_rest", "_law_look"] (defScope (top 114)) _ _ = true; decide +kernel)) (by decide) (fun _ _ _ _ _ => (sg_name 6 sc_law_due.nd)) (fun _ _ _ _ _ => (sts_one (sw_t (sw_and (st_cmp (od_eq (u64 hr)) (se_ix (se_v 6) se_int) se_str rfl) (sw_and1 (st_chain od_le od_le (se_ix (se_v 6) se_int) (se_v 1) (se_ix (se_v 6) se_int))))))) (fun _ _ _ _ _ => (se_v 6)) rfl rfl rfl)
    (sb_cons (ss_asg (se_ofN (sn_comp (oo := [("_law_look", 6)]) rfl sc_law_due.nd (si_seq (se_v 0)) (blkOk_by (by show blkC ["_law_looks", "_law_minute", "_law_has_car", "_law_holding", "_law_ahead", "_law_rest", "_law_look"] (defScope (top 114)) _ _ = true; decide +kernel)) (by decide) (fun _ _ _ _ _ => (sg_name 6 sc_law_due.nd)) (fun _ _ _ _ _ => (sts_one (sw_t (sw_and (st_cmp (od_eq (u64 hr)) (se_ix (se_v 6) se_int) se_str rfl) (sw_and1 (st_cmp (od_eq (u64 hr)) (se_ix (se_v 6) se_int) (se_op od_sub (se_v 1) se_int) rfl)))))) (fun _ _ _ _ _ => (se_v 6)))) (sg_name 4 sc_law_due.nd))
    (sb_cons (ss_if (st_cmp (od_ne (u64 hr)) (se_v 3) (se_lst sa_nil) rfl) (sb_one (ss_ret (se_v 0))) sb_nil)
    (sb_cons (ss_asg (se_ty cd_tuple rfl T.b_tuple (by decide +kernel) (sa_cons (se_ofN (sn_comp (oo := [("_law_look", 6)]) rfl sc_law_due.nd (si_seq (se_v 0)) (blkOk_by (by show blkC ["_law_looks", "_law_minute", "_law_has_car", "_law_holding", "_law_ahead", "_law_rest", "_law_look"] (defScope (top 114)) _ _ = true; decide +kernel)) (by decide) (fun _ _ _ _ _ => (sg_name 6 sc_law_due.nd)) (fun _ _ _ _ _ => (sts_one (st_cmp (od_notIn (u64 hr)) (se_v 6) (se_slice (se_v 4) so_none (so_some se_int)) rfl))) (fun _ _ _ _ _ => (se_v 6)))) sa_nil)) (sg_name 5 sc_law_due.nd))
    (sb_one (ss_ret (se_ty cd_tuple rfl T.b_tuple (by decide +kernel) (sa_cons (se_bi (cd_sorted (u66 hr)) rfl T.b_sorted (by decide +kernel) (sa_cons (se_op od_add (se_v 5) (se_tup (sa_cons (se_tup (sa_cons se_str (sa_cons (se_if (st_cmp (od_ne (u64 hr)) (se_v 4) (se_lst sa_nil) rfl) (se_ix (se_ix (se_v 4) se_int) se_int) (se_v 1)) (sa_cons (se_v 1) sa_nil)))) sa_nil))) sa_nil)) sa_nil)))))))))
theorem sc_Day_moment : FnScope ["self"] ["self"] (defScope (mth 83 2)) := ⟨rfl, rfl, rfl, by decide +kernel, rfl, by decide +kernel, by decide +kernel⟩
theorem ok_Day_moment {P : Program} {w : World} {K : PySem.W.Frag} {mg : Str → Option Value} {base : Heap} {W : Wd} (T : Txt K mg W) : PD P w K mg base W 1 4 "moment" f_Day_moment := by
  refine pd_of (ps := ["self"]) T.cd_Day T.F_Day_moment sc_Day_moment (fun _ _ _ _ _ _ us hl => match us, hl with | [_], _ => rfl) fun f cdv A outer s H E hr => ?_
  exact (sb_one (ss_ret (se_ix (se_fldO 0 T.fd_Day_own_past) (se_un ud_neg se_int))))
theorem sc_Day_seen : FnScope ["self"] ["self"] (defScope (mth 83 3)) := ⟨rfl, rfl, rfl, by decide +kernel, rfl, by decide +kernel, by decide +kernel⟩
theorem ok_Day_seen {P : Program} {w : World} {K : PySem.W.Frag} {mg : Str → Option Value} {base : Heap} {W : Wd} (T : Txt K mg W) : PD P w K mg base W 3 4 "seen" f_Day_seen := by
  refine pd_of (ps := ["self"]) T.cd_Day T.F_Day_seen sc_Day_seen (fun _ _ _ _ _ _ us hl => match us, hl with | [_], _ => rfl) fun f cdv A outer s H E hr => ?_
  exact (sb_one (ss_ret (se_fld (se_propO 0 (ok_Day_moment T) (hr.mono (by decide))) T.fd_Moment_known)))
theorem sc_Day_minute : FnScope ["self"] ["self"] (defScope (mth 83 5)) := ⟨rfl, rfl, rfl, by decide +kernel, rfl, by decide +kernel, by decide +kernel⟩
theorem ok_Day_minute {P : Program} {w : World} {K : PySem.W.Frag} {mg : Str → Option Value} {base : Heap} {W : Wd} (T : Txt K mg W) : PD P w K mg base W 3 4 "minute" f_Day_minute := by
  refine pd_of (ps := ["self"]) T.cd_Day T.F_Day_minute sc_Day_minute (fun _ _ _ _ _ _ us hl => match us, hl with | [_], _ => rfl) fun f cdv A outer s H E hr => ?_
  exact (sb_one (ss_ret (se_fld (se_propO 0 (ok_Day_moment T) (hr.mono (by decide))) T.fd_Moment_now)))
theorem sc_Day_go : FnScope ["self", "words", "stop", "many", "cars", "minute", "made", "line"] ["self", "words", "stop", "many", "cars"] (defScope (mth 83 11)) := ⟨rfl, rfl, rfl, by decide +kernel, rfl, by decide +kernel, by decide +kernel⟩
theorem ok_Day_go {P : Program} {w : World} {K : PySem.W.Frag} {mg : Str → Option Value} {base : Heap} {W : Wd} (T : Txt K mg W) : MD P w K mg base W 12 4 "go" f_Day_go := by
  refine md_of (ps := ["self", "words", "stop", "many", "cars"]) T.cd_Day (by rw [T.an_Day]; decide) T.F_Day_go sc_Day_go (fun _ _ _ _ _ _ us hl => match us, hl with | [_, _, _, _, _], _ => rfl) fun f cdv A outer s H E hr => ?_
  have hm : SB (CXe P w K mg base ["self", "words", "stop", "many", "cars", "minute", "made", "line"] "Day.go" (mth 83 11) f cdv A outer s H E) W E (defBody (mth 83 11)) ((sCons (sAsg (eOp vAdd (ePropO 4 f_Day_minute 0) (eV 3)) (gSet 5)) (sCons (sIf (tE (eOp vGt (eV 5) (eC (.int 2999)))) (fun _ => .bad) sNil) (sCons (sAsg (eCall f_looked (lCons (ePropO 4 f_Day_seen 0) (lCons (eV 2) (lCons (eV 5) (lCons (eV 4) lNil))))) (gSet 6)) (sCons (sAsg (eM1 isStrD mJoin (eC (.str " ")) (eLst (lStar (eV 1) (lCons (eCall f_cars_text (lCons (eV 4) lNil)) lNil)))) (gSet 7)) (sCons (sFldO (W.sl 4) 4 0 3 (eTup (lStar (eFldO 0 4 3) (lCons (eMake 3 f_Moment_init (lCons (eV 7) (lCons (eV 6) (lCons (eV 2) (lCons (eV 5) lNil))))) lNil)))) (sFldO (W.sl 4) 4 0 2 (eTup lNil)))))))) := (sb_cons (ss_asg (se_op od_add (se_propO 0 (ok_Day_minute T) (hr.mono (by decide))) (se_v 3)) (sg_name 5 sc_Day_go.nd))
    (sb_cons (ss_if (st_cmp od_gt (se_v 5) (se_gI rfl T.c_LAST_MINUTE) rfl) sb_never sb_nil)
    (sb_cons (ss_asg (se_call (ok_looked T) (hr.mono (by decide)) cx_passes rfl (sa_cons (se_propO 0 (ok_Day_seen T) (hr.mono (by decide))) (sa_cons (se_v 2) (sa_cons (se_v 5) (sa_cons (se_v 4) sa_nil))))) (sg_name 6 sc_Day_go.nd))
    (sb_cons (ss_asg (se_join (se_gS rfl T.c_BLANK) (se_lst (sa_star (se_v 1) (sa_cons (se_call (ok_cars_text T) (hr.mono (by decide)) cx_passes rfl (sa_cons (se_v 4) sa_nil)) sa_nil)))) (sg_name 7 sc_Day_go.nd))
    (sb_cons (ss_fldO 0 T.fd_Day_own_past (se_tup (sa_star (se_fldO 0 T.fd_Day_own_past) (sa_cons (se_make (ok_Moment_init T) (hr.mono (by decide)) cx_passes rfl (sa_cons (se_v 7) (sa_cons (se_v 6) (sa_cons (se_v 2) (sa_cons (se_v 5) sa_nil))))) sa_nil))))
    (sb_one (ss_fldO 0 T.fd_Day_own_later (se_tup sa_nil))))))))
  rw [T.sl_Day] at hm
  exact hm
theorem sc_Day_stop : FnScope ["self"] ["self"] (defScope (mth 83 4)) := ⟨rfl, rfl, rfl, by decide +kernel, rfl, by decide +kernel, by decide +kernel⟩
theorem ok_Day_stop {P : Program} {w : World} {K : PySem.W.Frag} {mg : Str → Option Value} {base : Heap} {W : Wd} (T : Txt K mg W) : PD P w K mg base W 3 4 "stop" f_Day_stop := by
  refine pd_of (ps := ["self"]) T.cd_Day T.F_Day_stop sc_Day_stop (fun _ _ _ _ _ _ us hl => match us, hl with | [_], _ => rfl) fun f cdv A outer s H E hr => ?_
  exact (sb_one (ss_ret (se_fld (se_propO 0 (ok_Day_moment T) (hr.mono (by decide))) T.fd_Moment_place)))
theorem sc_Day_stay : FnScope ["self", "cars"] ["self", "cars"] (defScope (mth 83 12)) := ⟨rfl, rfl, rfl, by decide +kernel, rfl, by decide +kernel, by decide +kernel⟩
theorem ok_Day_stay {P : Program} {w : World} {K : PySem.W.Frag} {mg : Str → Option Value} {base : Heap} {W : Wd} (T : Txt K mg W) : MDK P w K mg base W 13 4 "stay" 0 ["cars"] f_Day_stay := by
  refine mdk_of (ps := ["self", "cars"]) T.cd_Day (by rw [T.an_Day]; decide) T.F_Day_stay sc_Day_stay (fun _ _ _ _ _ _ us ws hl hw => match us, hl, ws, hw with | [_], _, [_], _ => rfl) fun f cdv A outer s H E hr => ?_
  exact (sb_one (ss_expr (se_methO 0 (ok_Day_go T) (hr.mono (by decide)) cx_passes (sa_cons (se_lst (sa_cons (se_gS rfl T.c_STAY) sa_nil)) (sa_cons (se_propO 0 (ok_Day_stop T) (hr.mono (by decide))) (sa_cons se_int (sa_cons (se_v 1) sa_nil)))))))
theorem sc_law_right : FnScope ["_law_pot_here", "_law_one", "_law_other", "_law_line", "_law_minute", "_law_lore", "_law_some_here", "_law_looks", "_law_lot", "_law_day", "_law_due_here", "_law_lap", "_law_look"] ["_law_pot_here"] (defScope (top 115)) := ⟨rfl, rfl, rfl, by decide +kernel, rfl, by decide +kernel, by decide +kernel⟩
theorem ok_law_right {P : Program} {w : World} {K : PySem.W.Frag} {mg : Str → Option Value} {base : Heap} {W : Wd} (T : Txt K mg W) : GD P w K mg base W 14 "_law_right" f_law_right := by
  refine gd_of (ps := ["_law_pot_here"]) T.F_law_right sc_law_right (fun _ _ _ _ _ _ us hl => match us, hl with | [_], _ => rfl) fun f cdv A outer s H E hr => ?_
  exact (sb_cons (ss_asg (se_tup (sa_cons (se_callO 0 (ok_law_stop_names T) (hr.mono (by decide)) cx_passes rfl rfl (sa_cons se_int sa_nil)) (sa_cons (se_ix (se_callO 0 (ok_law_line_names T) (hr.mono (by decide)) cx_passes rfl rfl (sa_cons se_int sa_nil)) se_int) (sa_cons (se_op od_add se_int (se_callO 0 (ok_law_take T) (hr.mono (by decide)) cx_passes rfl rfl (sa_cons se_int sa_nil))) sa_nil)))) (sg_tup rfl (sgs_cons (sg_lst rfl (sgs_cons (sg_name 1 sc_law_right.nd) (sgs_cons (sg_name 2 sc_law_right.nd) sgs_nil))) (sgs_cons (sg_name 3 sc_law_right.nd) (sgs_cons (sg_name 4 sc_law_right.nd) sgs_nil)))))
    (sb_cons (ss_asg (se_disp (sp_cons (se_lst (sa_cons (se_v 1) (sa_cons (se_v 2) sa_nil))) (sp_cons (se_lst sa_nil) (sp_cons (se_lst (sa_cons (se_tup (sa_cons (se_v 3) (sa_cons (se_v 1) (sa_cons se_int (sa_cons se_int (sa_cons (se_tup (sa_cons (se_tup (sa_cons (se_v 2) (sa_cons se_int sa_nil))) sa_nil)) sa_nil)))))) sa_nil)) sp_nil)))) (sg_name 5 sc_law_right.nd))
    (sb_cons (ss_newL 6 sc_law_right.nd (sn_lst (sa_cons (se_tup (sa_cons se_str (sa_cons (se_op od_sub (se_v 4) se_int) (sa_cons (se_op od_sub (se_v 4) se_int) sa_nil)))) (sa_cons (se_tup (sa_cons se_str (sa_cons (se_op od_sub (se_v 4) se_int) (sa_cons (se_op od_sub (se_v 4) se_int) sa_nil)))) (sa_cons (se_tup (sa_cons se_str (sa_cons (se_op od_sub (se_v 4) se_int) (sa_cons (se_v 4) sa_nil)))) sa_nil)))))
    (sb_cons (ss_expr (se_extend 6 (sn_lst (sa_cons (se_tup (sa_cons se_str (sa_cons (se_op od_sub (se_v 4) se_int) (sa_cons (se_op od_sub (se_v 4) se_int) sa_nil)))) (sa_cons (se_tup (sa_cons se_str (sa_cons (se_op od_sub (se_v 4) se_int) sa_nil))) (sa_cons (se_tup (sa_cons se_str (sa_cons (se_op od_sub (se_v 4) se_int) (sa_cons (se_op od_sub (se_v 4) se_int) sa_nil)))) sa_nil))))))
    (sb_cons (ss_asg (se_ty cd_tuple rfl T.b_tuple (by decide +kernel) (sa_cons (se_bi (cd_sorted (u66 hr)) rfl T.b_sorted (by decide +kernel) (sa_cons (se_callO 0 (ok_law_some T) (hr.mono (by decide)) cx_passes rfl rfl (sa_cons (se_fz 6) (sa_cons (se_callO 0 (ok_law_take T) (hr.mono (by decide)) cx_passes rfl rfl (sa_cons se_int sa_nil)) sa_nil))) sa_nil)) sa_nil)) (sg_name 7 sc_law_right.nd))
    (sb_cons (ss_asg (se_if (st_cmp (od_in (u64 hr)) (se_tup (sa_cons se_str (sa_cons (se_op od_sub (se_v 4) se_int) (sa_cons (se_v 4) sa_nil)))) (se_v 7) rfl) (se_tup sa_nil) (se_callO 0 (ok_law_of T) (hr.mono (by decide)) cx_passes rfl rfl (sa_cons (se_lst (sa_cons (se_tup sa_nil) (sa_cons (se_tup (sa_cons (se_v 3) sa_nil)) sa_nil))) sa_nil))) (sg_name 8 sc_law_right.nd))
    (sb_cons (ss_makeK 9 sc_law_right.nd (ok_Day_init T) (hr.mono (by decide)) cx_passes rfl (sa_cons (se_make (ok_Seen_init T) (hr.mono (by decide)) cx_passes rfl (sa_cons (se_make (ok_Net_init T) (hr.mono (by decide)) cx_passes rfl (sa_cons (se_call (ok_law_net_text T) (hr.mono (by decide)) cx_passes rfl (sa_cons (se_v 5) sa_nil)) sa_nil)) (sa_cons (se_ty cd_tuple rfl T.b_tuple (by decide +kernel) (sa_cons (se_ofN (sn_comp (oo := [("_law_look", 12)]) rfl sc_law_right.nd (si_seq (se_v 7)) (blkOk_by (by show blkC ["_law_pot_here", "_law_one", "_law_other", "_law_line", "_law_minute", "_law_lore", "_law_some_here", "_law_looks", "_law_lot", "_law_day", "_law_due_here", "_law_lap", "_law_look"] (defScope (top 115)) _ _ = true; decide +kernel)) (by decide) (fun _ _ _ _ _ => (sg_name 12 sc_law_right.nd)) (fun _ _ _ _ _ => sts_nil) (fun _ _ _ _ _ => (se_tup (sa_cons (se_v 3) (sa_cons (se_v 12) sa_nil)))))) sa_nil)) sa_nil))) (sa_cons (se_v 1) (sa_cons (se_v 4) sa_nil))) (sk_one (se_v 8)))
    (sb_cons (ss_asg (se_call (ok_law_due T) (hr.mono (by decide)) cx_passes rfl (sa_cons (se_v 7) (sa_cons (se_v 4) (sa_cons (se_cmp (od_ne (u64 hr)) (se_v 8) (se_tup sa_nil) rfl) sa_nil)))) (sg_name 10 sc_law_right.nd))
    (sb_cons (ss_for cx_own rfl (si_range1 rfl T.b_range (sa_cons (se_op od_add se_int (se_callO 0 (ok_law_take T) (hr.mono (by decide)) cx_passes rfl rfl (sa_cons se_int sa_nil))) sa_nil)) (sg_name 11 sc_law_right.nd) (sb_cons (ss_if (st_cmp (od_ne (u64 hr)) (se_bi (cd_repr hr.gd (u62 hr)) rfl T.b_repr (by decide +kernel) (sa_cons (se_prop (se_propO 9 (ok_Day_seen T) (hr.mono (by decide))) (ok_Seen_looks T) (hr.mono (by decide))) sa_nil)) (se_bi (cd_repr hr.gd (u62 hr)) rfl T.b_repr (by decide +kernel) (sa_cons (se_ty cd_tuple rfl T.b_tuple (by decide +kernel) (sa_cons (se_ofN (sn_comp (oo := [("_law_look", 12)]) rfl sc_law_right.nd (si_seq (se_v 10)) (blkOk_by (by show blkC ["_law_pot_here", "_law_one", "_law_other", "_law_line", "_law_minute", "_law_lore", "_law_some_here", "_law_looks", "_law_lot", "_law_day", "_law_due_here", "_law_lap", "_law_look"] (defScope (top 115)) _ _ = true; decide +kernel)) (by decide) (fun _ _ _ _ _ => (sg_name 12 sc_law_right.nd)) (fun _ _ _ _ _ => sts_nil) (fun _ _ _ _ _ => (se_tup (sa_cons (se_v 3) (sa_cons (se_v 12) sa_nil)))))) sa_nil)) sa_nil)) rfl) (sb_one (ss_ret se_bl)) sb_nil)
    (sb_cons (ss_asg (se_callO 0 (ok_law_of T) (hr.mono (by decide)) cx_passes rfl rfl (sa_cons (se_lst (sa_cons (se_tup sa_nil) (sa_cons (se_tup sa_nil) (sa_cons (se_tup (sa_cons (se_v 3) sa_nil)) sa_nil)))) sa_nil)) (sg_name 8 sc_law_right.nd))
    (sb_cons (ss_expr (se_methOK0 9 (ok_Day_stay T) (hr.mono (by decide)) cx_passes (sk_one (se_v 8))))
    (sb_one (ss_asg (se_call (ok_law_due T) (hr.mono (by decide)) cx_passes rfl (sa_cons (se_v 10) (sa_cons (se_op od_add (se_op od_add (se_v 4) (se_v 11)) se_int) (sa_cons (se_cmp (od_ne (u64 hr)) (se_v 8) (se_tup sa_nil) rfl) sa_nil)))) (sg_name 10 sc_law_right.nd)))))))
    (sb_one (ss_ret (se_cmp (od_eq (u64 hr)) (se_bi (cd_repr hr.gd (u62 hr)) rfl T.b_repr (by decide +kernel) (sa_cons (se_prop (se_propO 9 (ok_Day_seen T) (hr.mono (by decide))) (ok_Seen_looks T) (hr.mono (by decide))) sa_nil)) (se_bi (cd_repr hr.gd (u62 hr)) rfl T.b_repr (by decide +kernel) (sa_cons (se_ty cd_tuple rfl T.b_tuple (by decide +kernel) (sa_cons (se_ofN (sn_comp (oo := [("_law_look", 12)]) rfl sc_law_right.nd (si_seq (se_v 10)) (blkOk_by (by show blkC ["_law_pot_here", "_law_one", "_law_other", "_law_line", "_law_minute", "_law_lore", "_law_some_here", "_law_looks", "_law_lot", "_law_day", "_law_due_here", "_law_lap", "_law_look"] (defScope (top 115)) _ _ = true; decide +kernel)) (by decide) (fun _ _ _ _ _ => (sg_name 12 sc_law_right.nd)) (fun _ _ _ _ _ => sts_nil) (fun _ _ _ _ _ => (se_tup (sa_cons (se_v 3) (sa_cons (se_v 12) sa_nil)))))) sa_nil)) sa_nil)) rfl))))))))))))
theorem sc_law : FnScope ["_law_script", "_law_place", "_law_pot_here", "_law_lap"] ["_law_script"] (defScope (top 116)) := ⟨rfl, rfl, rfl, by decide +kernel, rfl, by decide +kernel, by decide +kernel⟩
theorem body_law {P : Program} {w : World} {K : PySem.W.Frag} {mg : Str → Option Value} {base : Heap} {W : Wd} (T : Txt K mg W) : BodyOk P w K mg base W ["_law_script", "_law_place", "_law_pot_here", "_law_lap"] "law" (top 116) 14 b_law := fun f cdv A outer s H E hr => (sb_cons (ss_for cx_own rfl (si_seq (se_call (ok_law_cells T) (hr.mono (by decide)) cx_passes rfl (sa_cons (se_v 0) (sa_cons se_int sa_nil)))) (sg_name 1 sc_law.nd) (sb_cons (ss_newL 2 sc_law.nd (sn_callN (ok_law_pot T) (hr.mono (by decide)) cx_passes rfl (sa_cons (se_v 0) (sa_cons (se_v 1) sa_nil))))
    (sb_one (ss_if (st_not (st_val (se_bi (cd_all rfl) rfl T.b_all (by decide +kernel) (sa_cons (se_ofN (sn_comp (oo := [("_law_lap", 3)]) rfl sc_law.nd (si_range1 rfl T.b_range (sa_cons se_int sa_nil)) (blkOk_by (by show blkC ["_law_script", "_law_place", "_law_pot_here", "_law_lap"] (defScope (top 116)) _ _ = true; decide +kernel)) (by decide) (fun _ _ _ _ _ => (sg_name 3 sc_law.nd)) (fun _ _ _ _ _ => sts_nil) (fun _ _ _ _ _ => (se_callO 2 (ok_law_right T) (hr.mono (by decide)) passL rfl rfl sa_nil)))) sa_nil)))) (sb_one (ss_ret se_bl)) sb_nil))))
    (sb_one (ss_ret se_bl)))
theorem okB_law {P : Program} {w : World} {K : PySem.W.Frag} {mg : Str → Option Value} {base : Heap} {W : Wd} (T : Txt K mg W) {fa : Addr} {fd : FuncData} (F : FunD K "law" "law" (defArgs (top 116)) (defBody (top 116)) (defScope (top 116)) [] [] fa fd) : FnB P w K mg base (L2.CX P w) 15 fa fd ["_law_script"] (spF W f_law) :=
  ok_fnD F sc_law (body_law T fa)
def lawK : Nat := 15
end G
end
/- P0 -/
/-! The plain law: how mirrors are computed. -/
namespace Pl
open PySem hiding Env
open L2 Tr G
section
variable (a b c : EM) (ρ : Env)
@[simp] theorem s_eV (i : Nat) : eV i ρ = match ρ[i]? with
  | some (.val d) => .ok d ρ
  | _ => .bad := rfl
@[simp] theorem s_eC (d : D) : eC d ρ = .ok d ρ := rfl
@[simp] theorem s_eOp (f : D → D → Option D) : eOp f a b ρ = bnd (a ρ) fun x ρ => bnd (b ρ) fun y ρ => optR (f x y) ρ := rfl
@[simp] theorem s_eUn (f : D → Option D) : eUn f a ρ = bnd (a ρ) fun x ρ => optR (f x) ρ := rfl
def andK (b : EM) (x : D) (ρ : Env) : R D := match x with
  | .bl true => b ρ
  | .bl false => .ok (.bl false) ρ
  | _ => .bad
@[simp] theorem s_eAnd : eAnd a b ρ = bnd (a ρ) (andK b) := rfl
@[simp] theorem s_andK (k : Bool) : andK b (.bl k) ρ = if k = true then b ρ else .ok (.bl false) ρ := by cases k <;> rfl
def orK (b : EM) (x : D) (ρ : Env) : R D := match x with
  | .bl true => .ok (.bl true) ρ
  | .bl false => b ρ
  | _ => .bad
@[simp] theorem s_eOr : eOr a b ρ = bnd (a ρ) (orK b) := rfl
@[simp] theorem s_orK (k : Bool) : orK b (.bl k) ρ = if k = true then .ok (.bl true) ρ else b ρ := by cases k <;> rfl
def chK (g : D → D → Option D) (c : EM) (y : D) (z : D) (ρ : Env) : R D := match z with
  | .bl true => bnd (c ρ) fun w ρ => optR (g y w) ρ
  | .bl false => .ok (.bl false) ρ
  | _ => .bad
@[simp] theorem s_eChain (f g : D → D → Option D) : eChain f g a b c ρ = bnd (a ρ) fun x ρ => bnd (b ρ) fun y ρ => bnd (optR (f x y) ρ) (chK g c y) := rfl
@[simp] theorem s_chK (g : D → D → Option D) (y : D) (k : Bool) : chK g c y (.bl k) ρ = if k = true then bnd (c ρ) (fun w ρ => optR (g y w) ρ) else .ok (.bl false) ρ := by cases k <;> rfl
def notK (x : D) (ρ : Env) : R D := match x with
  | .bl b => .ok (.bl (!b)) ρ
  | _ => .bad
@[simp] theorem s_eNot : eNot a ρ = bnd (a ρ) notK := rfl
@[simp] theorem s_notK (k : Bool) : notK (.bl k) ρ = .ok (.bl (!k)) ρ := rfl
@[simp] theorem s_eIf (t : TM) : eIf t a b ρ = bnd (t ρ) fun k ρ => if k = true then a ρ else b ρ := rfl
@[simp] theorem s_tE : tE a ρ = bnd (a ρ) fun x ρ => optR (asB x) ρ := rfl
@[simp] theorem s_asB (k : Bool) : asB (.bl k) = some k := rfl
@[simp] theorem s_tAnd (s t : TM) : tAndM s t ρ = bnd (s ρ) fun k ρ => if k = true then t ρ else .ok false ρ := rfl
@[simp] theorem s_tOr (s t : TM) : tOrM s t ρ = bnd (s ρ) fun k ρ => if k = true then .ok true ρ else t ρ := rfl
@[simp] theorem s_tNot (s : TM) : tNotM s ρ = bnd (s ρ) fun k ρ => .ok (!k) ρ := rfl
@[simp] theorem s_tIf (s t u : TM) : tIfM s t u ρ = bnd (s ρ) fun k ρ => if k = true then t ρ else u ρ := rfl
@[simp] theorem s_lNil : lNil ρ = .ok [] ρ := rfl
@[simp] theorem s_lCons (l : LM) : lCons a l ρ = bnd (a ρ) fun x ρ => bnd (l ρ) fun xs ρ => .ok (x :: xs) ρ := rfl
@[simp] theorem s_lStar (l : LM) : lStar a l ρ = bnd (a ρ) fun x ρ => bnd (optR (items x) ρ) fun xs ρ => bnd (l ρ) fun ys ρ => .ok (xs ++ ys) ρ := rfl
@[simp] theorem s_itT (ds : List D) : items (.tup ds) = some ds := rfl
@[simp] theorem s_itL (ds : List D) : items (.lst ds) = some ds := rfl
@[simp] theorem s_eTup (l : LM) : eTup l ρ = bnd (l ρ) fun xs ρ => if xs.length ≤ cap then .ok (.tup xs) ρ else .bad := rfl
@[simp] theorem s_eLst (l : LM) : eLst l ρ = bnd (l ρ) fun xs ρ => if xs.length ≤ cap then .ok (.lst xs) ρ else .bad := rfl
@[simp] theorem s_lCap (l : LM) : lCap l ρ = bnd (l ρ) fun xs ρ => if xs.length ≤ cap then .ok xs ρ else .bad := rfl
@[simp] theorem s_eLstN (l : LM) : eLstN l ρ = bnd (l ρ) fun xs ρ => .ok (.lst xs) ρ := rfl
@[simp] theorem s_eB (f : List D → Option D) (l : LM) : eB f l ρ = bnd (l ρ) fun xs ρ => optR (f xs) ρ := rfl
@[simp] theorem s_eCall (f : Fn) (l : LM) : eCall f l ρ = bnd (l ρ) fun xs ρ => ofRF ρ (f (xs.map .val)) := rfl
@[simp] theorem s_ofRF (d : D) (o : SV) : ofRF ρ (.ok d o) = .ok d ρ := rfl
@[simp] theorem s_eMeth (k : Nat) (f : Fn) (l : LM) : eMeth k f a l ρ = bnd (a ρ) fun y ρ => if Tr.isObj k y = true then bnd (l ρ) fun xs ρ => ofRF ρ (f (.val y :: xs.map .val)) else .bad := rfl
@[simp] theorem s_isObj (k k' : Nat) (fs : List D) : Tr.isObj k (.obj k' fs) = (k' == k) := rfl
@[simp] theorem s_eProp (k : Nat) (f : Fn) : eProp k f a ρ = bnd (a ρ) fun y ρ => if Tr.isObj k y = true then ofPP ρ (f [.val y]) else .bad := rfl
@[simp] theorem s_ofPP (d : D) (o : SV) : ofPP ρ (.ok d o) = .ok d ρ := rfl
@[simp] theorem s_eInO (k : Nat) (f : Fn) (g : Bool → Bool) : eInO k f g a b ρ = bnd (a ρ) fun x ρ => bnd (b ρ) fun y ρ => if Tr.isObj k y = true then boolR g (ofRF ρ (f [.val y, .val x])) else .bad := rfl
@[simp] theorem s_boolR (g : Bool → Bool) (k : Bool) : boolR g (.ok (.bl k) ρ) = .ok (.bl (g k)) ρ := rfl
@[simp] theorem s_eGet (k : Nat) (f : Fn) : eGet k f a b ρ = bnd (a ρ) fun x ρ => if Tr.isObj k x = true then bnd (b ρ) fun y ρ => ofRF ρ (f [.val x, .val y]) else .bad := rfl
@[simp] theorem s_fld (k j k' : Nat) (fs : List D) : fldOf k j (.obj k' fs) = if k' = k then fs[j]? else none := rfl
@[simp] theorem s_make (k : Nat) (f : Fn) (l : LM) : eMake k f l ρ = bnd (l ρ) fun xs ρ => ofMake ρ (f (.oi k [] :: xs.map .val)) := rfl
@[simp] theorem s_ofMake (k : Nat) (fs : List FV) : ofMake ρ (.ok .non (.oi k fs)) = optR ((fs.mapM frz1).map (.obj k)) ρ := rfl
@[simp] theorem s_frz (d : D) : frz1 (.val d) = some d := rfl
@[simp] theorem s_frzK (d : List (Key × D)) : frz1 (.dK d) = some (.dK d) := rfl
@[simp] theorem s_tYes : tYesM ρ = .ok true ρ := rfl
@[simp] theorem s_lIt (f : List D → Option (List D)) (l : LM) : lIt f l ρ = bnd (l ρ) fun xs ρ => optR (f xs) ρ := rfl
@[simp] theorem s_lItems : lItems a ρ = bnd (a ρ) fun x ρ => optR (itemsS x) ρ := rfl
@[simp] theorem s_isT (ds : List D) : itemsS (.tup ds) = some ds := rfl
@[simp] theorem s_isL (ds : List D) : itemsS (.lst ds) = some ds := rfl
@[simp] theorem s_oNone : oNone ρ = .ok none ρ := rfl
@[simp] theorem s_oSome : oSome a ρ = bnd (a ρ) fun x ρ => bnd (optR (asI x) ρ) fun i ρ => .ok (some i) ρ := rfl
@[simp] theorem s_asI (i : Int) : asI (.int i) = some i := rfl
@[simp] theorem s_eSlice (l h : OM) : eSlice a l h ρ = bnd (a ρ) fun x ρ => bnd (l ρ) fun l ρ => bnd (h ρ) fun h ρ => optR (vSlice x l h) ρ := rfl
@[simp] theorem s_vSlT (ds : List D) (l h : Option Int) : vSlice (.tup ds) l h = some (.tup (cutD ds l h)) := rfl
@[simp] theorem s_vSlL (ds : List D) (l h : Option Int) : vSlice (.lst ds) l h = some (.lst (cutD ds l h)) := rfl
/-! statements -/
variable (s t : SM)
@[simp] theorem s_sCons : sCons s t ρ = bnd (s ρ) fun o ρ => match o with
  | none => t ρ
  | some d => .ok (some d) ρ := rfl
@[simp] theorem s_sNil : sNil ρ = .ok none ρ := rfl
@[simp] theorem s_sExpr : sExpr a ρ = bnd (a ρ) fun _ ρ => .ok none ρ := rfl
@[simp] theorem s_sRet : sRet a ρ = bnd (a ρ) fun d ρ => .ok (some d) ρ := rfl
@[simp] theorem s_sIf (k : TM) : sIf k s t ρ = bnd (k ρ) fun k ρ => if k = true then s ρ else t ρ := rfl
@[simp] theorem s_sAsg (g : GM) : sAsg a g ρ = bnd (a ρ) fun d ρ => match g d ρ with
  | some ρ' => .ok none ρ'
  | none => .bad := rfl
@[simp] theorem s_gSet (i : Nat) (d : D) : gSet i d ρ = if i < ρ.length then some (ρ.set i (.val d)) else none := rfl
@[simp] theorem s_gTup (n : Nat) (m : List D → Env → Option Env) (ds : List D) : gTupM n m (.tup ds) ρ = if ds.length = n then m ds ρ else none := rfl
@[simp] theorem s_gLst (n : Nat) (m : List D → Env → Option Env) (ds : List D) : gLstM n m (.lst ds) ρ = if ds.length = n then m ds ρ else none := rfl
@[simp] theorem s_gNil : gNilM [] ρ = some ρ := rfl
@[simp] theorem s_gCons (m : GM) (r : List D → Env → Option Env) (d : D) (ds : List D) : gConsM m r (d :: ds) ρ = (m d ρ).bind (r ds) := rfl
@[simp] theorem s_sFldO (sl : Bool) (k i j : Nat) : sFldO sl k i j a ρ = bnd (a ρ) fun d ρ => match ρ[i]? with
  | some (.oi c' fs) => if c' = k then (match putF sl j (.val d) fs with
    | some fs' => .ok none (ρ.set i (.oi k fs'))
    | none => .bad) else .bad
  | _ => .bad := rfl
@[simp] theorem s_eFldO (i k j : Nat) : eFldO i k j ρ = match ρ[i]? with
  | some (.oi c' fs) => if c' = k then (match fs[j]? with
    | some (.val d) => .ok d ρ
    | _ => .bad) else .bad
  | _ => .bad := rfl
@[simp] theorem s_endO (d : D) : endOf (.ok (some d) ρ) = .ok d (keepOwn ρ[0]?) := rfl
@[simp] theorem s_endN : endOf (.ok none ρ) = .ok .non (keepOwn ρ[0]?) := rfl
@[simp] theorem s_kv (d : D) : keepOwn (some (.val d)) = .no := rfl
@[simp] theorem s_kl (d : List D) : keepOwn (some (.ol d)) = .ol d := rfl
@[simp] theorem s_ki (k : Nat) (d : List FV) : keepOwn (some (.oi k d)) = .oi k d := rfl
@[simp] theorem s_kn : keepOwn (some .no) = .no := rfl
@[simp] theorem s_bnd_ite {α β : Type} (p : Prop) [Decidable p] (x y : R α) (k : α → Env → R β) : bnd (if p then x else y) k = if p then bnd x k else bnd y k := by split <;> rfl
end
/-! values -/
@[simp] theorem v_le (i j : Int) : vLe (.int i) (.int j) = some (.bl (decide (i ≤ j))) := rfl
@[simp] theorem v_gt (i j : Int) : vGt (.int i) (.int j) = some (.bl (decide (j < i))) := rfl
@[simp] theorem v_ge (i j : Int) : vGe (.int i) (.int j) = some (.bl (decide (j ≤ i))) := rfl
@[simp] theorem v_add (i j : Int) : vAdd (.int i) (.int j) = some (.int (i + j)) := rfl
@[simp] theorem v_sub (i j : Int) : vSub (.int i) (.int j) = some (.int (i - j)) := rfl
@[simp] theorem v_neg (i : Int) : vNeg (.int i) = some (.int (-i)) := rfl
@[simp] theorem v_eqI (i j : Int) : vEq (.int i) (.int j) = some (.bl (decide (i = j))) := rfl
@[simp] theorem v_neI (i j : Int) : vNe (.int i) (.int j) = some (.bl (!decide (i = j))) := rfl
@[simp] theorem v_eqS (i j : Str) : vEq (.str i) (.str j) = some (.bl (decide (i = j))) := rfl
@[simp] theorem v_neS (i j : Str) : vNe (.str i) (.str j) = some (.bl (!decide (i = j))) := rfl
@[simp] theorem v_isNI (i : Int) : vIsN (.int i) .non = some (.bl false) := rfl
@[simp] theorem v_isNN : vIsN .non .non = some (.bl true) := rfl
@[simp] theorem v_isNT (i : List D) : vIsN (.tup i) .non = some (.bl false) := rfl
@[simp] theorem ty_i (T : String) (i : Int) : isTy T (.int i) = some (.bl ("int" == T || ("int" == "bool" && T == "int"))) := rfl
@[simp] theorem ty_s (T : String) (i : Str) : isTy T (.str i) = some (.bl ("str" == T || ("str" == "bool" && T == "int"))) := rfl
@[simp] theorem ty_t (T : String) (i : List D) : isTy T (.tup i) = some (.bl ("tuple" == T || ("tuple" == "bool" && T == "int"))) := rfl
@[simp] theorem b_lenT (ds : List D) : bLen [.tup ds] = some (.int ds.length) := rfl
@[simp] theorem b_lenL (ds : List D) : bLen [.lst ds] = some (.int ds.length) := rfl
@[simp] theorem b_tupL (ds : List D) : bTuple [.lst ds] = some (.tup ds) := rfl
@[simp] theorem b_tupT (ds : List D) : bTuple [.tup ds] = some (.tup ds) := rfl
@[simp] theorem b_intI (i : Int) : bInt [.int i] = some (.int i) := rfl
@[simp] theorem b_intB (b : Bool) : bInt [.bl b] = some (.int (if b then 1 else 0)) := rfl
@[simp] theorem x_tup (ds : List D) (i : Int) : vIx (.tup ds) (.int i) = (ixD ds.length i).bind (ds[·]?) := rfl
@[simp] theorem x_lst (ds : List D) (i : Int) : vIx (.lst ds) (.int i) = (ixD ds.length i).bind (ds[·]?) := rfl
theorem is_integer_ok (i l h : Int) : f_is_integer [.val (.int i), .val (.int l), .val (.int h)] = .ok (.bl (decide (l ≤ i ∧ i ≤ h))) .no := by
  show endOf (b_is_integer [.val (.int i), .val (.int l), .val (.int h)]) = _
  by_cases h1 : l ≤ i <;> by_cases h2 : i ≤ h <;> simp [b_is_integer, h1, h2]
theorem is_minute_ok (i : Int) : f_is_minute [.val (.int i)] = .ok (.bl (decide (0 ≤ i ∧ i ≤ 2999))) .no := by
  show endOf (b_is_minute [.val (.int i)]) = _
  simp [b_is_minute, is_integer_ok]
theorem is_tuple_ok (ds : List D) (a b : Int) : f_is_tuple [.val (.tup ds), .val (.int a), .val (.int b)] = .ok (.bl (decide (a ≤ ds.length ∧ ds.length ≤ b))) .no := by
  show endOf (b_is_tuple [.val (.tup ds), .val (.int a), .val (.int b)]) = _
  by_cases h1 : a ≤ ds.length <;> by_cases h2 : (ds.length : Int) ≤ b <;> simp [b_is_tuple, h1, h2]
theorem are_ends_ok (a b : Int) : f_are_ends [.val (.int a), .val (.int b)] = .ok (.bl (decide ((0 ≤ a ∧ a ≤ 2999) ∧ (0 ≤ b ∧ b ≤ 2999) ∧ a ≤ b))) .no := by
  show endOf (b_are_ends [.val (.int a), .val (.int b)]) = _
  by_cases h1 : 0 ≤ a ∧ a ≤ 2999 <;> by_cases h2 : 0 ≤ b ∧ b ≤ 2999 <;> by_cases h3 : a ≤ b <;> simp [b_are_ends, is_minute_ok, h1, h2, h3]
end Pl
/- P1 -/
/-! The plain law: looks. -/
namespace Pl
open PySem hiding Env
open L2 Tr G
/-! ### looks as keys -/
def kc (a : Int) : List Key := [.inr "came", .inl a]
def kn (a b : Int) : List Key := [.inr "none", .inl a, .inl b]
abbrev dc (a : Int) : D := .tup [.str "came", .int a]
abbrev dn (a b : Int) : D := .tup [.str "none", .int a, .int b]
theorem dc_eq (a : Int) : dc a = tupOf (kc a) := rfl
theorem dn_eq (a b : Int) : dn a b = tupOf (kn a b) := rfl
/-- a look whose minutes lie from lo to hi -/
inductive IsLk (lo hi : Int) : D → Prop
  | c (a : Int) : lo ≤ a → a ≤ hi → IsLk lo hi (dc a)
  | n (a b : Int) : lo ≤ a → a ≤ b → b ≤ hi → IsLk lo hi (dn a b)
theorem IsLk.mono {lo hi lo' hi' : Int} {d : D} (h : IsLk lo hi d) (h1 : lo' ≤ lo) (h2 : hi ≤ hi') : IsLk lo' hi' d := by
  cases h with
  | c a x y => exact .c a (by omega) (by omega)
  | n a b x y z => exact .n a b (by omega) y (by omega)
theorem IsLk.key {lo hi : Int} {d : D} (h : IsLk lo hi d) : ∃ k, d = tupOf k ∧ tupO d = some k := by
  cases h with
  | c a x y => exact ⟨kc a, rfl, rfl⟩
  | n a b x y z => exact ⟨kn a b, rfl, rfl⟩
theorem came_ne_none : ("came" : Str) ≠ "none" := by decide
/-- two looks are alike, and equal just if they are -/
theorem lk_two {lo hi lo' hi' : Int} {d e : D} (h : IsLk lo hi d) (g : IsLk lo' hi' e) : ∃ p q, toP d = some p ∧ toP e = some q ∧ W.alike p q = true ∧ p.depth ≤ 60 ∧ (PyData.eqv p q = true ↔ d = e) := by
  cases h with
  | c a x y =>
    cases g with
    | c b x y =>
      refine ⟨.tuple [.str "came", .int a], .tuple [.str "came", .int b], rfl, rfl, ?_, ?_, ?_⟩
      · simp [W.alike, W.alikeAll]
      · simp [PyData.depth, PyData.depthAll]
      · simp [PyData.eqv, PyData.eqvAll]
    | n b c x y z =>
      refine ⟨.tuple [.str "came", .int a], .tuple [.str "none", .int b, .int c], rfl, rfl, ?_, ?_, ?_⟩
      · simp [W.alike, W.alikeAll]
      · simp [PyData.depth, PyData.depthAll]
      · simp [PyData.eqv, PyData.eqvAll, came_ne_none]
  | n a a' x y z =>
    cases g with
    | c b x y =>
      refine ⟨.tuple [.str "none", .int a, .int a'], .tuple [.str "came", .int b], rfl, rfl, ?_, ?_, ?_⟩
      · simp [W.alike, W.alikeAll]
      · simp [PyData.depth, PyData.depthAll]
      · simp [PyData.eqv, PyData.eqvAll, came_ne_none.symm]
    | n b c x y z =>
      refine ⟨.tuple [.str "none", .int a, .int a'], .tuple [.str "none", .int b, .int c], rfl, rfl, ?_, ?_, ?_⟩
      · simp [W.alike, W.alikeAll]
      · simp [PyData.depth, PyData.depthAll]
      · simp [PyData.eqv, PyData.eqvAll]
theorem flat_lk {lo hi : Int} {d : D} (h : IsLk lo hi d) : flatD d = false := by cases h <;> rfl
/-- a look among looks -/
theorem anyEq_lk {lo hi lo' hi' : Int} {d : D} (h : IsLk lo hi d) : ∀ {ds : List D}, (∀ e ∈ ds, IsLk lo' hi' e) → ∃ b, anyEq d ds = some b ∧ (b = true ↔ d ∈ ds)
  | [], _ => ⟨false, rfl, by simp⟩
  | e :: ds, g => by
    obtain ⟨b, e1, e2⟩ := anyEq_lk h (ds := ds) fun x m => g x (List.mem_cons_of_mem _ m)
    obtain ⟨p, q, t1, t2, al, dp, eq⟩ := lk_two (g e List.mem_cons_self) h
    unfold anyEq
    rw [flat_lk h, flat_lk (g e List.mem_cons_self), t1, t2, e1]
    refine ⟨PyData.eqv p q || b, by simp [al, dp], ?_⟩
    rw [Bool.or_eq_true, eq, e2, List.mem_cons]
    exact ⟨fun z => z.imp Eq.symm id, fun z => z.imp Eq.symm id⟩
open Classical in
theorem vIn_lk {lo hi lo' hi' : Int} {d : D} (h : IsLk lo hi d) {ds : List D} (g : ∀ e ∈ ds, IsLk lo' hi' e) : vIn d (.tup ds) = some (.bl (decide (d ∈ ds))) ∧ vIn d (.lst ds) = some (.bl (decide (d ∈ ds))) ∧ vNotIn d (.lst ds) = some (.bl (!decide (d ∈ ds))) := by
  obtain ⟨b, e1, e2⟩ := anyEq_lk h g
  have : b = decide (d ∈ ds) := by
    cases b with
    | true => exact (decide_eq_true (e2.mp rfl)).symm
    | false => exact (decide_eq_false fun m => Bool.false_ne_true (e2.mpr m)).symm
  show (anyEq d ds).map D.bl = _ ∧ (anyEq d ds).map D.bl = _ ∧ (anyEq d ds).map (fun b => D.bl (!b)) = _
  rw [e1, this]
  exact ⟨rfl, rfl, rfl⟩
theorem is_look_ok {d : D} (h : IsLk 0 2999 d) : f_is_look [.val d] = .ok (.bl true) .no := by
  cases h with
  | c a x y =>
    show endOf (b_is_look [.val (dc a)]) = _
    simp [b_is_look, is_tuple_ok, is_minute_ok, ixD, x, y]
  | n a b x y z =>
    show endOf (b_is_look [.val (dn a b)]) = _
    have h1 : a ≤ 2999 := by omega
    have h2 : 0 ≤ b := by omega
    simp [b_is_look, is_tuple_ok, are_ends_ok, ixD, x, y, z, h1, h2]
/-! ### comprehensions -/
theorem comp_map {vs : List Nat} {g : GM} {tt : TM} {te : EM} {ρ : Env} (F : D → Option D) : ∀ {xs : List D}, (∀ x ∈ xs, ∃ ρ1 b ρ2, g x ρ = some ρ1 ∧ tt ρ1 = .ok b ρ2 ∧ (b = false → wipeE ρ2 vs = ρ ∧ F x = none) ∧ (b = true → ∃ y ρ3, te ρ2 = .ok y ρ3 ∧ wipeE ρ3 vs = ρ ∧ F x = some y)) →
    compGo vs g tt te xs ρ = .ok (xs.filterMap F) ρ
  | [], _ => rfl
  | x :: xs, h => by
    obtain ⟨ρ1, b, ρ2, e1, e2, h1, h2⟩ := h x List.mem_cons_self
    have ih := comp_map F (xs := xs) fun y m => h y (List.mem_cons_of_mem _ m)
    unfold compGo
    rw [e1]
    show bnd (noX (tt ρ1)) _ = _
    rw [e2]
    show (if b = true then _ else _) = _
    cases b with
    | false =>
      obtain ⟨w, f⟩ := h1 rfl
      rw [if_neg Bool.false_ne_true, w, ih, List.filterMap_cons_none f]
    | true =>
      obtain ⟨y, ρ3, e3, w, f⟩ := h2 rfl
      rw [if_pos rfl, e3]
      show bnd (compGo vs g tt te xs (wipeE ρ3 vs)) _ = _
      rw [w, ih, List.filterMap_cons_some f]
      rfl
/-- .. of all items, no test -/
theorem comp_all {vs : List Nat} {g : GM} {te : EM} {ρ : Env} (F : D → D) {xs : List D} (h : ∀ x ∈ xs, ∃ ρ1 ρ3, g x ρ = some ρ1 ∧ te ρ1 = .ok (F x) ρ3 ∧ wipeE ρ3 vs = ρ) :
    compGo vs g tYesM te xs ρ = .ok (xs.map F) ρ := by
  rw [comp_map (fun x => some (F x)) fun x m => ?_]
  · rw [List.filterMap_eq_map']
  · obtain ⟨ρ1, ρ3, e1, e2, e3⟩ := h x m
    exact ⟨ρ1, true, ρ1, e1, rfl, (fun z => by cases z), fun _ => ⟨F x, ρ3, e2, e3, rfl⟩⟩
theorem asBs_of : ∀ {xs : List D}, (∀ x ∈ xs, x = .bl true) → asBs xs = some (List.replicate xs.length true)
  | [], _ => rfl
  | x :: xs, h => by
    rw [h x List.mem_cons_self, asBs, asBs_of fun y m => h y (List.mem_cons_of_mem _ m)]
    rfl
theorem bAll_of {xs : List D} (h : ∀ x ∈ xs, x = .bl true) : bAll [.lst xs] = some (.bl true) := by
  show (asBs xs).map _ = _
  rw [asBs_of h]
  simp
theorem bAny_ex : ∀ {xs : List D} {bs : List Bool}, asBs xs = some bs → bAny [.lst xs] = some (.bl (bs.any id)) := fun h => by
  show (asBs _).map _ = _
  rw [h]
  rfl
end Pl
/- P2 -/
/-! The plain law: the order of looks; what rises. -/
namespace Pl
open PySem hiding Env
open L2 Tr G
/-- a look of a line -/
abbrev pr (L : Str) (d : D) : D := .tup [.str L, d]
theorem toP_pr {L : Str} {d : D} {p : PyData} (h : toP d = some p) : toP (pr L d) = some (.tuple [.str L, p]) := by
  show (toPs [.str L, d]).map _ = _
  rw [toPs, toPs, h]
  rfl
theorem enc_of {d : D} {p : PyData} (h : toP d = some p) : encD d = p := by unfold encD; rw [h]; rfl
theorem leD_def (x y : D) : leD x y = !W.dataLt (encD y) (encD x) := rfl
theorem lt_of {lo hi lo' hi' : Int} {d e : D} (h : IsLk lo hi d) (g : IsLk lo' hi' e) (l : leD d e = true) (ne : d ≠ e) : W.dataLt (encD d) (encD e) = true := by
  cases q : W.dataLt (encD d) (encD e) with
  | true => rfl
  | false =>
    exfalso
    obtain ⟨k, rfl, _⟩ := h.key
    obtain ⟨k', rfl, _⟩ := g.key
    refine ne (leD_anti l ?_)
    rw [leD_def, q]
    rfl
theorem ltD_lk {lo hi lo' hi' : Int} {d e : D} (h : IsLk lo hi d) (g : IsLk lo' hi' e) (l : leD d e = true) (ne : d ≠ e) : ltD d e = some true := by
  have lt := lt_of h g l ne
  obtain ⟨p, q, t1, t2, al, dp, _⟩ := lk_two h g
  rw [enc_of t1, enc_of t2] at lt
  unfold ltD
  rw [t1, t2]
  have np : p ≠ .none := by
    rintro rfl
    cases h <;> cases t1
  show (match p with
    | .none => none
    | _ => if W.alike p q && decide (p.depth ≤ 60) then some (W.dataLt p q) else none) = _
  split
  · exact absurd rfl np
  · rw [lt, al]
    simp [dp]
/-- pairs of one line: as their looks -/
theorem pair_lt {L : Str} {lo hi lo' hi' : Int} {d e : D} (h : IsLk lo hi d) (g : IsLk lo' hi' e) (ne : d ≠ e) : ∃ p q, toP (pr L d) = some p ∧ toP (pr L e) = some q ∧ W.alike p q = true ∧ p.depth ≤ 60 ∧ W.dataLt p q = W.dataLt (encD d) (encD e) := by
  obtain ⟨p, q, t1, t2, al, dp, eq⟩ := lk_two h g
  refine ⟨_, _, toP_pr t1, toP_pr t2, ?_, ?_, ?_⟩
  · simp [W.alike, W.alikeAll, al]
  · have : p.depth ≤ 1 := by cases h <;> cases t1 <;> simp [PyData.depth, PyData.depthAll]
    simp [PyData.depth, PyData.depthAll]
    omega
  · have e1 : PyData.eqv (.str L) (.str L) = true := by simp [PyData.eqv]
    have e2 : PyData.eqv p q = false := by
      cases z : PyData.eqv p q with
      | false => rfl
      | true => exact absurd (eq.mp z) ne
    rw [W.dataLt_tuple, W.dataLt_all_yes (by simp [W.alike]) e1, W.dataLt_all_no al e2, enc_of t1, enc_of t2]
theorem leD_pair {L : Str} {lo hi lo' hi' : Int} {d e : D} (h : IsLk lo hi d) (g : IsLk lo' hi' e) (ne : d ≠ e) : leD (pr L d) (pr L e) = leD d e := by
  obtain ⟨p, q, t1, t2, _, _, lt⟩ := pair_lt (L := L) g h ne.symm
  rw [leD_def, leD_def, enc_of t1, enc_of t2, lt]
theorem ltD_pair {L : Str} {lo hi lo' hi' : Int} {d e : D} (h : IsLk lo hi d) (g : IsLk lo' hi' e) (l : leD d e = true) (ne : d ≠ e) : ltD (pr L d) (pr L e) = some true := by
  have lt := lt_of h g l ne
  obtain ⟨p, q, t1, t2, al, dp, lt2⟩ := pair_lt (L := L) h g ne
  rw [lt] at lt2
  unfold ltD
  rw [t1, t2]
  obtain ⟨p', t3⟩ : ∃ p', toP d = some p' := by cases h <;> exact ⟨_, rfl⟩
  rw [toP_pr t3] at t1
  cases t1
  show (if W.alike _ q && _ then some (W.dataLt _ q) else none) = _
  rw [lt2, al]
  simp [dp]
/-- looks in order, pairwise unlike -/
structure Srt (lo hi : Int) (ds : List D) : Prop where
  lk : ∀ d ∈ ds, IsLk lo hi d
  pw : ds.Pairwise fun a b => leD a b = true
  nd : ds.Nodup
theorem Srt.both {lo hi : Int} {ds : List D} (h : Srt lo hi ds) : ds.Pairwise fun a b => leD a b = true ∧ a ≠ b := h.pw.and h.nd
theorem Srt.mono {lo hi lo' hi' : Int} {ds : List D} (h : Srt lo hi ds) (h1 : lo' ≤ lo) (h2 : hi ≤ hi') : Srt lo' hi' ds := ⟨fun d m => (h.lk d m).mono h1 h2, h.pw, h.nd⟩
theorem Srt.pairs {lo hi : Int} {ds : List D} (h : Srt lo hi ds) (L : Str) : (ds.map (pr L)).Pairwise fun a b => leD a b = true := by
  rw [List.pairwise_map]
  refine List.Pairwise.imp_of_mem (fun {a b} ha hb z => ?_) h.both
  rw [leD_pair (h.lk a ha) (h.lk b hb) z.2]
  exact z.1
/-- what stands one behind the other -/
theorem next_in {R : D → D → Prop} : ∀ {ds : List D}, ds.Pairwise R → ∀ x ∈ List.zipWith (fun x y => D.tup [x, y]) ds ds.tail, ∃ d e, d ∈ ds ∧ e ∈ ds ∧ R d e ∧ x = .tup [d, e]
  | [], _, _, m => by cases m
  | [_], _, _, m => by cases m
  | a :: b :: ds, h, x, m => by
    obtain ⟨h1, h2⟩ := List.pairwise_cons.mp h
    rcases List.mem_cons.mp m with rfl | m
    · exact ⟨a, b, List.mem_cons_self, List.mem_cons_of_mem _ List.mem_cons_self, h1 b List.mem_cons_self, rfl⟩
    · obtain ⟨d, e, m1, m2, r, rfl⟩ := next_in h2 x m
      exact ⟨d, e, List.mem_cons_of_mem _ m1, List.mem_cons_of_mem _ m2, r, rfl⟩
theorem cut1 (ds : List D) : cutD ds (some 1) none = ds.tail := by
  unfold cutD
  rw [HT.sIx_none, show (some (1 : Int)) = some ((1 : Nat) : Int) from rfl, HT.sIx_nat]
  cases ds with
  | nil => rfl
  | cons a ds =>
    have : min 1 (ds.length + 1) = 1 := by omega
    simp [this]
theorem do_rise_ok {ds : List D} (hl : ds.length ≤ cap) (h : ds.Pairwise fun a b => ltD a b = some true) : f_do_rise [.val (.tup ds)] = .ok (.bl true) .no := by
  show endOf (b_do_rise [.val (.tup ds), .no, .no]) = _
  have c := comp_all (vs := [1, 2]) (g := gTupM 2 (gConsM (gSet 1) (gConsM (gSet 2) gNilM))) (te := eOp vLt (eV 1) (eV 2)) (ρ := [.val (.tup ds), .no, .no]) (fun _ => .bl true) (xs := List.zipWith (fun x y => D.tup [x, y]) ds ds.tail) fun x m => by
    obtain ⟨d, e, _, _, r, rfl⟩ := next_in h x m
    refine ⟨[.val (.tup ds), .val d, .val e], [.val (.tup ds), .val d, .val e], by simp, ?_, by simp [wipeE]⟩
    simp [vLt, r]
  have hz : ds.length ≤ cap + 1 := Nat.le_succ_of_le hl
  have e : bAll [.lst (List.zipWith (fun _ _ => D.bl true) ds ds.tail)] = some (.bl true) := bAll_of fun x m => by
    rw [show List.zipWith (fun _ _ => D.bl true) ds ds.tail = (List.zipWith (fun x y => D.tup [x, y]) ds ds.tail).map fun _ => .bl true by rw [List.map_zipWith]] at m
    obtain ⟨_, _, e⟩ := List.mem_map.mp m
    exact e.symm
  simp [b_do_rise, lComp, cut1, itZip, hz, wipeE, c, e]
theorem Srt.rise {lo hi : Int} {ds : List D} (h : Srt lo hi ds) (hl : ds.length ≤ cap) : f_do_rise [.val (.tup ds)] = .ok (.bl true) .no :=
  do_rise_ok hl (List.Pairwise.imp_of_mem (fun {a b} ha hb z => ltD_lk (h.lk a ha) (h.lk b hb) z.1 z.2) h.both)
theorem Srt.riseP {lo hi : Int} {ds : List D} (h : Srt lo hi ds) (L : Str) (hl : ds.length ≤ cap) : f_do_rise [.val (.tup (ds.map (pr L)))] = .ok (.bl true) .no := by
  refine do_rise_ok (by rw [List.length_map]; exact hl) ?_
  rw [List.pairwise_map]
  exact List.Pairwise.imp_of_mem (fun {a b} ha hb z => ltD_pair (h.lk a ha) (h.lk b hb) z.1 z.2) h.both
end Pl
/- P3 -/
/-! The plain law: nets, books, what was seen. -/
namespace Pl
open PySem hiding Env
open L2 Tr G
theorem cap_big {n : Nat} (h : n ≤ 60) : n ≤ cap := by unfold cap; omega
@[simp] theorem cap_1 : (1 : Nat) ≤ cap := by unfold cap; omega
@[simp] theorem cap_2 : (2 : Nat) ≤ cap := by unfold cap; omega
@[simp] theorem cap_3 : (3 : Nat) ≤ cap := by unfold cap; omega
@[simp] theorem cap_4 : (4 : Nat) ≤ cap := by unfold cap; omega
@[simp] theorem cap_5 : (5 : Nat) ≤ cap := by unfold cap; omega
@[simp] theorem cap_6 : (6 : Nat) ≤ cap := by unfold cap; omega
@[simp] theorem cap_7 : (7 : Nat) ≤ cap := by unfold cap; omega
@[simp] theorem cap_8 : (8 : Nat) ≤ cap := by unfold cap; omega
@[simp] theorem cap_9 : (9 : Nat) ≤ cap := by unfold cap; omega
@[simp] theorem cap_10 : (10 : Nat) ≤ cap := by unfold cap; omega
@[simp] theorem cap_11 : (11 : Nat) ≤ cap := by unfold cap; omega
/-- a list with one line from A to B, gaps 1 to 60 -/
abbrev gapsD : D := .obj 5 [.int 1, .int 60]
abbrev rowD (A B : Str) : D := .tup [.str A, gapsD, .tup [.tup [.str B, .int 5]]]
abbrev netD (T A B L : Str) : D := .obj 7 [.str T, .tup [.str A, .str B], .dK [], .dK [(.inr L, rowD A B)]]
section
variable (T A B L : Str)
@[simp] theorem anyS (x y : Str) (ds : List D) : anyEq (.str x) (.str y :: ds) = (anyEq (.str x) ds).map (decide (y = x) || ·) := rfl
@[simp] theorem anyN (x : D) : anyEq x [] = some false := rfl
@[simp] theorem vInT (x : D) (ds : List D) : vIn x (.tup ds) = (anyEq x ds).map .bl := rfl
@[simp] theorem vInL (x : D) (ds : List D) : vIn x (.lst ds) = (anyEq x ds).map .bl := rfl
@[simp] theorem vNiT (x : D) (ds : List D) : vNotIn x (.tup ds) = (anyEq x ds).map fun b => .bl (!b) := rfl
@[simp] theorem vNiL (x : D) (ds : List D) : vNotIn x (.lst ds) = (anyEq x ds).map fun b => .bl (!b) := rfl
@[simp] theorem vInK (x : Str) (kvs : List (Key × D)) : vIn (.str x) (.dK kvs) = some (.bl (getK kvs (.inr x)).isSome) := rfl
@[simp] theorem getK1 (k : Key) (d : D) : getK [(k, d)] k = some d := by unfold getK; simp
theorem check_stop_ok : f_Net_check_stop [.val (netD T A B L), .val (.str A)] = .ok .non .no := by
  show endOf (b_Net_check_stop [.val (netD T A B L), .val (.str A)]) = _
  simp [b_Net_check_stop]
theorem lines_ok : f_Net_lines [.val (netD T A B L)] = .ok (.tup [.str L]) .no := by
  show endOf (b_Net_lines [.val (netD T A B L)]) = _
  have e : bTup [.dK [((.inr L : Key), rowD A B)]] = some (.tup [.str L]) := by unfold bTup; simp [keyT]
  simp [b_Net_lines, e]
theorem contains_ok : f_Net_contains [.val (netD T A B L), .val (.str L)] = .ok (.bl true) .no := by
  show endOf (b_Net_contains [.val (netD T A B L), .val (.str L)]) = _
  simp [b_Net_contains]
theorem check_line_ok : f_Net_check_line [.val (netD T A B L), .val (.str L)] = .ok .non .no := by
  show endOf (b_Net_check_line [.val (netD T A B L), .val (.str L)]) = _
  simp [b_Net_check_line, contains_ok]
@[simp] theorem vDx1 (x : Str) (d : D) : vDx (.dK [(.inr x, d)]) (.str x) = some d := by
  show ((keyD (.str x)).map (getK [((.inr x : Key), d)])).bind id = _
  simp [keyD]
theorem getitem_ok : f_Net_getitem [.val (netD T A B L), .val (.str L)] = .ok (rowD A B) .no := by
  show endOf (b_Net_getitem [.val (netD T A B L), .val (.str L)]) = _
  simp [b_Net_getitem, check_line_ok]
theorem leaving_ok : f_Net_leaving [.val (netD T A B L), .val (.str A)] = .ok (.tup [.str L]) .no := by
  show endOf (b_Net_leaving [.val (netD T A B L), .val (.str A), .no, .no]) = _
  simp [b_Net_leaving, check_stop_ok, lLock, dkAt, lComp, lDItems, keyT, compGo, wipeE, ixD]
theorem seen_net_ok (x : D) : f_Seen_net [.val (.obj 2 [netD T A B L, x])] = .ok (netD T A B L) .no := by
  show endOf (b_Seen_net [.val (.obj 2 [netD T A B L, x])]) = _
  simp [b_Seen_net]
theorem seen_looks_ok (x : D) : f_Seen_looks [.val (.obj 2 [netD T A B L, x])] = .ok x .no := by
  show endOf (b_Seen_looks [.val (.obj 2 [netD T A B L, x])]) = _
  simp [b_Seen_looks]
theorem check_minute_ok {i : Int} (h : 0 ≤ i ∧ i ≤ 2999) : f_check_minute [.val (.int i)] = .ok .non .no := by
  show endOf (b_check_minute [.val (.int i)]) = _
  simp [b_check_minute, is_minute_ok, h]
theorem check_start_ok (x : D) {i : Int} (h : 0 ≤ i ∧ i ≤ 2999) : f_check_start [.val (.obj 2 [netD T A B L, x]), .val (.str A), .val (.int i)] = .ok .non .no := by
  show endOf (b_check_start [.val (.obj 2 [netD T A B L, x]), .val (.str A), .val (.int i)]) = _
  simp [b_check_start, seen_net_ok, check_stop_ok, check_minute_ok h]
theorem book_gaps_ok (x y : D) : f_Book_gaps [.val (.obj 1 [x, y])] = .ok x .no := by
  show endOf (b_Book_gaps [.val (.obj 1 [x, y])]) = _
  simp [b_Book_gaps]
theorem book_looks_ok (x y : D) : f_Book_looks [.val (.obj 1 [x, y])] = .ok y .no := by
  show endOf (b_Book_looks [.val (.obj 1 [x, y])]) = _
  simp [b_Book_looks]
/-! looks of a line -/
theorem looks_at_ok {ds : List D} (hl : ds.length ≤ cap) : f_looks_at [.val (.tup (ds.map (pr L))), .val (.str L)] = .ok (.tup ds) .no := by
  show endOf (b_looks_at [.val (.tup (ds.map (pr L))), .val (.str L), .no, .no]) = _
  have c := comp_map (vs := [2, 3]) (g := gTupM 2 (gConsM (gSet 2) (gConsM (gSet 3) gNilM))) (tt := tE (eOp vEq (eV 2) (eV 1))) (te := eV 3) (ρ := [.val (.tup (ds.map (pr L))), .val (.str L), .no, .no])
    (fun x => match x with
      | .tup [_, d] => some d
      | _ => none) (xs := ds.map (pr L)) fun x m => by
    obtain ⟨d, _, rfl⟩ := List.mem_map.mp m
    refine ⟨[.val (.tup (ds.map (pr L))), .val (.str L), .val (.str L), .val d], true, [.val (.tup (ds.map (pr L))), .val (.str L), .val (.str L), .val d], by simp, by simp, (fun z => by cases z), fun _ => ⟨d, [.val (.tup (ds.map (pr L))), .val (.str L), .val (.str L), .val d], by simp, by simp [wipeE], rfl⟩⟩
  have e : (ds.map (pr L)).filterMap (fun x => match x with
      | .tup [_, d] => some d
      | _ => none) = ds := by
    rw [List.filterMap_map]
    exact List.filterMap_some
  rw [e] at c
  simp [b_looks_at, lComp, hl, wipeE, c]
variable {ds : List D}
theorem are_looks_ok (h : Srt 0 2999 ds) (hl : ds.length ≤ 60) : f_are_looks [.val (.tup ds)] = .ok (.bl true) .no := by
  show endOf (b_are_looks [.val (.tup ds), .no]) = _
  have c := comp_all (vs := [1]) (g := gSet 1) (te := eCall f_is_look (lCons (eV 1) lNil)) (ρ := [.val (.tup ds), .no]) (fun _ => .bl true) (xs := ds) fun x m =>
    ⟨[.val (.tup ds), .val x], [.val (.tup ds), .val x], by simp, by simp [is_look_ok (h.lk x m)], by simp [wipeE]⟩
  have e : bAll [.lst (ds.map fun _ => D.bl true)] = some (.bl true) := bAll_of fun x m => by
    obtain ⟨_, _, e⟩ := List.mem_map.mp m
    exact e.symm
  have h60 : ¬ (60 : Int) < ds.length := by omega
  simp [b_are_looks, h60, lComp, cap_big hl, wipeE, c, e, h.rise (cap_big hl)]
theorem book_init_ok (g : D) (h : Srt 0 2999 ds) (hl : ds.length ≤ 60) : f_Book_init [.oi 1 [], .val g, .val (.tup ds)] = .ok .non (.oi 1 [.val g, .val (.tup ds)]) := by
  show endOf (b_Book_init [.oi 1 [], .val g, .val (.tup ds)]) = _
  simp [b_Book_init, are_looks_ok h hl, Tr.putF]
theorem seen_getitem_ok (h : Srt 0 2999 ds) (hl : ds.length ≤ 60) : f_Seen_getitem [.val (.obj 2 [netD T A B L, .tup (ds.map (pr L))]), .val (.str L)] = .ok (.obj 1 [gapsD, .tup ds]) .no := by
  show endOf (b_Seen_getitem [.val (.obj 2 [netD T A B L, .tup (ds.map (pr L))]), .val (.str L), .no, .no, .no]) = _
  simp [b_Seen_getitem, getitem_ok, looks_at_ok L (cap_big hl), book_init_ok gapsD h hl]
theorem is_pair_ok {d : D} (h : IsLk 0 2999 d) : f_is_pair [.val (netD T A B L), .val (pr L d)] = .ok (.bl true) .no := by
  show endOf (b_is_pair [.val (netD T A B L), .val (pr L d)]) = _
  simp [b_is_pair, is_tuple_ok, contains_ok, is_look_ok h, ixD]
theorem seen_init_ok (h : Srt 0 2999 ds) (hl : ds.length ≤ 60) : f_Seen_init [.oi 2 [], .val (netD T A B L), .val (.tup (ds.map (pr L)))] = .ok .non (.oi 2 [.val (netD T A B L), .val (.tup (ds.map (pr L)))]) := by
  show endOf (b_Seen_init [.oi 2 [], .val (netD T A B L), .val (.tup (ds.map (pr L))), .no, .no]) = _
  have c := comp_all (vs := [3]) (g := gSet 3) (te := eCall f_is_pair (lCons (eV 1) (lCons (eV 3) lNil))) (ρ := [.oi 2 [], .val (netD T A B L), .val (.tup (ds.map (pr L))), .no, .no]) (fun _ => .bl true) (xs := ds.map (pr L)) fun x m => by
    obtain ⟨d, hd, rfl⟩ := List.mem_map.mp m
    exact ⟨[.oi 2 [], .val (netD T A B L), .val (.tup (ds.map (pr L))), .val (pr L d), .no], [.oi 2 [], .val (netD T A B L), .val (.tup (ds.map (pr L))), .val (pr L d), .no], by simp, by simp [is_pair_ok T A B L (h.lk d hd)], by simp [wipeE]⟩
  have e : bAll [.lst ((ds.map (pr L)).map fun _ => D.bl true)] = some (.bl true) := bAll_of fun x m => by
    obtain ⟨_, _, e⟩ := List.mem_map.mp m
    exact e.symm
  have h60 : ¬ (60 : Int) < ds.length := by omega
  have hcap : (ds.map (pr L)).length ≤ cap := by rw [List.length_map]; exact cap_big hl
  have b : bAny [.lst [.bl false]] = some (.bl false) := rfl
  simp only [List.map_map] at c e
  simp [b_Seen_init, lComp, cap_big hl, wipeE, c, e, h.riseP L (cap_big hl), lines_ok, looks_at_ok L (cap_big hl), compGo, h60, b, Tr.putF]
end
end Pl
/- P4 -/
/-! The plain law: a look is put to looks. -/
namespace Pl
open PySem hiding Env
open L2 Tr G
theorem toPs_lk {lo hi : Int} : ∀ {xs : List D}, (∀ d ∈ xs, IsLk lo hi d) → ∃ ps, toPs xs = some ps ∧ PyData.canLayAll0 ps = true ∧ PyData.depthAll ps ≤ 1 ∧ ps.length = xs.length ∧ (∀ p ∈ ps, p.depth ≤ 60 ∧ ∃ q r, p = .tuple (q :: r)) ∧ ∀ p ∈ ps, ∃ d ∈ xs, toP d = some p
  | [], _ => ⟨[], rfl, rfl, by simp [PyData.depthAll], rfl, fun _ m => (nomatch m), fun _ m => (nomatch m)⟩
  | d :: xs, h => by
    obtain ⟨ps, e1, e2, e3, e4, e5, e6⟩ := toPs_lk (xs := xs) fun x m => h x (List.mem_cons_of_mem _ m)
    have hd := h d List.mem_cons_self
    have one : ∃ p, toP d = some p ∧ p.canLay0 = true ∧ p.depth ≤ 1 ∧ ∃ q r, p = .tuple (q :: r) := by
      cases hd with
      | c a x y => exact ⟨_, rfl, by simp [PyData.canLay0, PyData.canLayAll0]; decide +kernel, by simp [PyData.depth, PyData.depthAll], _, _, rfl⟩
      | n a b x y z => exact ⟨_, rfl, by simp [PyData.canLay0, PyData.canLayAll0]; decide +kernel, by simp [PyData.depth, PyData.depthAll], _, _, rfl⟩
    obtain ⟨p, t1, t2, t3, t4⟩ := one
    refine ⟨p :: ps, by rw [toPs, t1, e1]; rfl, by simp [PyData.canLayAll0, t2, e2], by simp [PyData.depthAll]; omega, by simp [e4], fun q m => ?_, fun q m => ?_⟩
    · rcases List.mem_cons.mp m with rfl | m
      · exact ⟨by omega, t4⟩
      · exact e5 q m
    · rcases List.mem_cons.mp m with rfl | m
      · exact ⟨d, List.mem_cons_self, t1⟩
      · obtain ⟨x, m, e⟩ := e6 q m
        exact ⟨x, List.mem_cons_of_mem _ m, e⟩
theorem ne_nil {lo hi : Int} {xs : List D} (h : ∀ d ∈ xs, IsLk lo hi d) : vNe (.lst xs) (.lst []) = some (.bl (!decide (xs = []))) := by
  obtain ⟨ps, e1, e2, e3, e4, _⟩ := toPs_lk h
  have t1 : toP (.lst xs) = some (.list ps) := by rw [toP, e1]; rfl
  have s1 : SeqAt.shaped (.list ps) = true := by
    unfold SeqAt.shaped
    simp [PyData.canLay0, e2, PyData.depth]
    omega
  have s2 : SeqAt.shaped (.list []) = true := by
    unfold SeqAt.shaped
    simp [PyData.canLay0, PyData.canLayAll0, PyData.depth, PyData.depthAll]
  show (eqD (.lst xs) (.lst [])).map _ = _
  have t2 : toP (.lst []) = some (.list []) := rfl
  unfold eqD
  rw [t1, t2]
  show (if (false && false) = true then _ else if SeqAt.shaped (.list ps) && SeqAt.shaped (.list []) then some (PyData.eqv (.list ps) (.list [])) else none : Option Bool).map _ = _
  rw [s1, s2]
  cases ps with
  | nil =>
    have : xs = [] := List.eq_nil_of_length_eq_zero (by simpa using e4.symm)
    simp [this, PyData.eqv, PyData.eqvAll]
  | cons p ps =>
    have : xs ≠ [] := fun z => by rw [z] at e4; simp at e4
    simp [this, PyData.eqv, PyData.eqvAll]
theorem sorted_ok {lo hi : Int} {xs : List D} (h : ∀ d ∈ xs, IsLk lo hi d) (hl : xs.length ≤ cap) : bSorted [.lst xs] = some (.lst (xs.mergeSort leD)) ∧ bSorted [.tup xs] = some (.lst (xs.mergeSort leD)) := by
  obtain ⟨ps, e1, _, _, _, e5, e6⟩ := toPs_lk h
  have al : allAlike ps = true := by
    unfold allAlike
    rw [List.all_eq_true]
    intro p hp
    rw [List.all_eq_true]
    intro q hq
    obtain ⟨d, hd, t1⟩ := e6 p hp
    obtain ⟨e, he, t2⟩ := e6 q hq
    obtain ⟨p', q', u1, u2, al, _⟩ := lk_two (h d hd) (h e he)
    rw [t1] at u1; rw [t2] at u2
    cases u1; cases u2
    exact al
  have so : sortable ps = true := by
    unfold sortable
    rw [Bool.or_eq_true]
    left
    rw [List.all_eq_true]
    intro p hp
    obtain ⟨_, q, r, rfl⟩ := e5 p hp
    rfl
  have dp : ps.all (fun p => decide (p.depth ≤ 60)) = true := by
    rw [List.all_eq_true]
    intro p hp
    exact decide_eq_true (e5 p hp).1
  constructor
  · show (toPs xs).bind _ = _
    rw [e1]
    simp [al, so, hl]
    exact fun p m => (e5 p m).1
  · show (toPs xs).bind _ = _
    rw [e1]
    simp [al, so, hl]
    exact fun p m => (e5 p m).1
theorem tupsO_lk {lo hi : Int} : ∀ {xs : List D}, (∀ d ∈ xs, IsLk lo hi d) → ∃ ks, tupsO xs = some ks
  | [], _ => ⟨[], rfl⟩
  | d :: xs, h => by
    obtain ⟨ks, e⟩ := tupsO_lk (xs := xs) fun x m => h x (List.mem_cons_of_mem _ m)
    obtain ⟨k, _, e2⟩ := (h d List.mem_cons_self).key
    exact ⟨k :: ks, by rw [tupsO, e2, e]; rfl⟩
theorem set_ok {lo hi : Int} {xs : List D} (h : ∀ d ∈ xs, IsLk lo hi d) (nd : xs.Nodup) (hl : xs.length < 60) : vSortSet (.lst xs) = some (.lst (xs.mergeSort leD)) ∧ vSortSet (.tup xs) = some (.lst (xs.mergeSort leD)) := by
  obtain ⟨ks, e⟩ := tupsO_lk h
  have nk : ks.Nodup := by
    rw [tupsO_eq e] at nd
    exact nodup_of_map nd
  have so := (sorted_ok h (cap_big (by omega))).1
  constructor
  · show (tupsO xs).bind _ = _
    rw [e]
    simp [nk, hl, so]
  · show (tupsO xs).bind _ = _
    rw [e]
    simp [nk, hl, so]
/-- what is sorted is in order -/
theorem srt_sort {lo hi : Int} {xs : List D} (h : ∀ d ∈ xs, IsLk lo hi d) (nd : xs.Nodup) : Srt lo hi (xs.mergeSort leD) :=
  ⟨fun d m => h d ((List.mergeSort_perm _ _).mem_iff.mp m), merge_pw _, (List.mergeSort_perm _ _).nodup_iff.mpr nd⟩
/-- no car stands where none came -/
def Apart (ds : List D) : Prop := ∀ a b c, dc a ∈ ds → dn b c ∈ ds → ¬ (b ≤ a ∧ a ≤ c)
/-- none, up to e -/
def isEnd (e : Int) (d : D) : Bool := match d with
  | .tup [.str _, .int _, .int b] => decide (b = e)
  | _ => false
def holdsB (t : Int) (d : D) : Bool := match d with
  | .tup [.str _, .int a, .int b] => decide (a ≤ t) && decide (t ≤ b)
  | _ => false
def firstOf (t : Int) : List D → Int
  | .tup [_, .int a, _] :: _ => a
  | _ => t
end Pl
/- P5 -/
/-! The plain law: put_to and what is due. -/
namespace Pl
open PySem hiding Env
open L2 Tr G
theorem lk_cases {lo hi : Int} {d : D} (h : IsLk lo hi d) : (∃ a, d = dc a ∧ lo ≤ a ∧ a ≤ hi) ∨ ∃ a b, d = dn a b ∧ lo ≤ a ∧ a ≤ b ∧ b ≤ hi := by
  cases h with
  | c a x y => exact .inl ⟨a, rfl, x, y⟩
  | n a b x y z => exact .inr ⟨a, b, rfl, x, y, z⟩
@[simp] theorem came_eq : (("came" : Str) = "none") = False := by simp [came_ne_none]
@[simp] theorem none_eq : (("none" : Str) = "came") = False := by simp [came_ne_none.symm]
section
variable {lo hi t : Int} {ds : List D}
/-- no look holds t: of none is it told -/
theorem told_no (h : ∀ d ∈ ds, IsLk lo hi d) (hl : ds.length ≤ cap) (ht : hi < t) : f_is_told [.val (.tup ds), .val (.int t), .val (.bl false)] = .ok (.bl false) .no := by
  show endOf (b_is_told [.val (.tup ds), .val (.int t), .val (.bl false), .no]) = _
  have c := comp_all (vs := [3]) (g := gSet 3) (te := eAnd (eOp vEq (eOp vIx (eV 3) (eC (.int 0))) (eC (.str "none"))) (eChain vLe vLe (eOp vIx (eV 3) (eC (.int 1))) (eV 1) (eOp vIx (eV 3) (eC (.int 2)))))
    (ρ := [.val (.tup ds), .val (.int t), .val (.bl false), .no]) (fun _ => .bl false) (xs := ds) fun x m => by
    refine ⟨[.val (.tup ds), .val (.int t), .val (.bl false), .val x], [.val (.tup ds), .val (.int t), .val (.bl false), .val x], by simp, ?_, by simp [wipeE]⟩
    rcases lk_cases (h x m) with ⟨a, rfl, _, _⟩ | ⟨a, b, rfl, h1, h2, h3⟩
    · simp [ixD]
    · have : ¬ t ≤ b := by omega
      by_cases h4 : a ≤ t <;> simp [ixD, this, h4]
  have e : bAny [.lst (ds.map fun _ => D.bl false)] = some (.bl false) := by
    show (asBs (ds.map fun _ => .bl false)).map _ = _
    have : ∀ n : Nat, asBs (List.replicate n (.bl false)) = some (List.replicate n false) := fun n => by
      induction n with
      | zero => rfl
      | succ n ih => rw [List.replicate_succ, asBs, ih]; rfl
    rw [List.map_const', this]
    simp
  simp [b_is_told, lComp, hl, wipeE, c, e]
theorem told_car (h : ∀ d ∈ ds, IsLk lo hi d) (ht : hi < t) : f_is_told [.val (.tup ds), .val (.int t), .val (.bl true)] = .ok (.bl false) .no := by
  show endOf (b_is_told [.val (.tup ds), .val (.int t), .val (.bl true), .no]) = _
  obtain ⟨b, e1, e2⟩ := anyEq_lk (IsLk.c t (Int.le_refl t) (Int.le_refl t)) h
  have : b = false := by
    cases b with
    | false => rfl
    | true =>
      exfalso
      have m := e2.mp rfl
      rcases lk_cases (h _ m) with ⟨a, e, _, _⟩ | ⟨a, b, e, _⟩
      · cases e; omega
      · cases e
  subst this
  simp [b_is_told, e1]
theorem new_c (h : ∀ d ∈ ds, IsLk lo hi d) (ht : hi < t) : dc t ∉ ds := fun m => by
  rcases lk_cases (h _ m) with ⟨a, e, _, _⟩ | ⟨a, b, e, _⟩
  · cases e; omega
  · cases e
theorem new_n {a : Int} (h : ∀ d ∈ ds, IsLk lo hi d) (ht : hi < t) : dn a t ∉ ds := fun m => by
  rcases lk_cases (h _ m) with ⟨a, e, _, _⟩ | ⟨a, b, e, _⟩
  · cases e
  · cases e; omega
theorem nodup_snoc {xs : List D} {x : D} (h : xs.Nodup) (n : x ∉ xs) : (xs ++ [x]).Nodup := by
  refine List.nodup_append.mpr ⟨h, List.pairwise_singleton _ _, fun a ha b hb => ?_⟩
  rw [List.mem_singleton] at hb
  rintro rfl
  exact n (hb ▸ ha)
/-- a car is put -/
theorem put_car (h : Srt lo hi ds) (ap : Apart ds) (hl : ds.length ≤ 58) (ht : hi < t) (h0 : lo ≤ t) :
    f_put_to [.val (.tup ds), .val (.int t), .val (.bl true)] = .ok (.tup ((ds ++ [dc t]).mergeSort leD)) .no ∧ f_law_due [.val (.tup ds), .val (.int t), .val (.bl true)] = .ok (.tup ((ds ++ [dc t]).mergeSort leD)) .no ∧
    Srt lo t ((ds ++ [dc t]).mergeSort leD) ∧ Apart ((ds ++ [dc t]).mergeSort leD) ∧ ((ds ++ [dc t]).mergeSort leD).length = ds.length + 1 := by
  have hm : ∀ d ∈ ds ++ [dc t], IsLk lo t d := fun d m => by
    rcases List.mem_append.mp m with m | m
    · exact (h.lk d m).mono (Int.le_refl _) (by omega)
    · rw [List.mem_singleton.mp m]; exact .c t h0 (Int.le_refl _)
  have nd : (ds ++ [dc t]).Nodup := nodup_snoc h.nd (new_c h.lk ht)
  have len : (ds ++ [dc t]).length = ds.length + 1 := by simp
  have so := (sorted_ok hm (cap_big (by omega))).1
  have st := (set_ok hm nd (by omega)).2
  have c1 : ds.length + 1 ≤ cap := cap_big (by omega)
  refine ⟨?_, ?_, srt_sort hm nd, ?_, by rw [List.length_mergeSort, len]⟩
  · show endOf (b_put_to [.val (.tup ds), .val (.int t), .val (.bl true), .no, .no, .no]) = _
    simp [b_put_to, told_car h.lk ht, so, c1]
  · show endOf (b_law_due [.val (.tup ds), .val (.int t), .val (.bl true), .no, .no, .no, .no]) = _
    have va : vAdd (.tup ds) (.tup [dc t]) = some (.tup (ds ++ [dc t])) := by
      show (if ds.length + 1 ≤ cap then _ else _) = _
      rw [if_pos c1]
    simp [b_law_due, va, st]
  · intro a b c m1 m2
    rw [(List.mergeSort_perm _ _).mem_iff, List.mem_append, List.mem_singleton] at m1 m2
    rcases m2 with m2 | m2
    · rcases m1 with m1 | m1
      · exact ap a b c m1 m2
      · cases m1
        rcases lk_cases (h.lk _ m2) with ⟨_, e, _⟩ | ⟨_, _, e, _, _, _⟩
        · cases e
        · cases e; omega
    · cases m2
end
end Pl
/- P6 -/
/-! The plain law: none is put. -/
namespace Pl
open PySem hiding Env
open L2 Tr G
theorem fm_filter {α : Type} (p : α → Bool) : ∀ xs : List α, xs.filterMap (fun x => if p x = true then some x else none) = xs.filter p
  | [] => rfl
  | x :: xs => by
    cases h : p x with
    | true => rw [List.filterMap_cons_some (b := x) (by simp [h]), List.filter_cons_of_pos h, fm_filter p xs]
    | false => rw [List.filterMap_cons_none (by simp [h]), List.filter_cons_of_neg (by simp [h]), fm_filter p xs]
theorem cutT (ds : List D) : cutD ds none (some 1) = ds.take 1 := by
  unfold cutD
  rw [HT.sIx_none, show (some (1 : Int)) = some ((1 : Nat) : Int) from rfl, HT.sIx_nat]
  cases ds with
  | nil => rfl
  | cons a ds =>
    have : min 1 (ds.length + 1) = 1 := by omega
    simp [this]
/-- the look none that ends ahead, what is left, the look that comes -/
def ahdOf (t : Int) (ds : List D) : List D := ds.filter (isEnd (t - 1))
def fstOf (t : Int) : List D → Int
  | .tup [_, .int a, _] :: _ => a
  | _ => t
def kpOf (tk : List D) (x : D) : Option D := match anyEq x tk with
  | some false => some x
  | _ => none
theorem kpOf_eq {tk : List D} {x y : D} (h : kpOf tk x = some y) : y = x := by
  unfold kpOf at h
  split at h
  · cases h; rfl
  · cases h
def restOf (tk ds : List D) : List D := ds.filterMap (kpOf tk)
def resN (t : Int) (ds : List D) : List D := (restOf ((ahdOf t ds).take 1) ds ++ [dn (fstOf t (ahdOf t ds)) t]).mergeSort leD
section
variable {lo hi t : Int} {ds : List D}
theorem mem_rest {tk : List D} (h : ∀ d ∈ ds, IsLk lo hi d) (g : ∀ d ∈ tk, IsLk lo hi d) {x : D} : x ∈ restOf tk ds ↔ x ∈ ds ∧ x ∉ tk := by
  unfold restOf
  rw [List.mem_filterMap]
  constructor
  · rintro ⟨y, m, e⟩
    obtain ⟨b, e1, e2⟩ := anyEq_lk (h y m) g
    unfold kpOf at e
    rw [e1] at e
    cases b with
    | true => cases e
    | false => cases e; exact ⟨m, fun z => Bool.false_ne_true (e2.mpr z)⟩
  · rintro ⟨m, n⟩
    obtain ⟨b, e1, e2⟩ := anyEq_lk (h x m) g
    refine ⟨x, m, ?_⟩
    unfold kpOf
    rw [e1]
    cases b with
    | true => exact absurd (e2.mp rfl) n
    | false => rfl
theorem rest_sub {tk : List D} : ∀ {ds : List D}, (restOf tk ds).Sublist ds
  | [] => List.Sublist.refl _
  | x :: ds => by
    have ih := rest_sub (tk := tk) (ds := ds)
    unfold restOf at ih ⊢
    cases q : kpOf tk x with
    | none => rw [List.filterMap_cons_none q]; exact ih.cons _
    | some y =>
      rw [List.filterMap_cons_some q, kpOf_eq q]
      exact ih.cons₂ _
/-- none is put -/
theorem put_none (h : Srt lo hi ds) (ap : Apart ds) (hl : ds.length ≤ 57) (ht : hi < t) (h0 : lo ≤ t) :
    f_put_to [.val (.tup ds), .val (.int t), .val (.bl false)] = .ok (.tup (resN t ds)) .no ∧ f_law_due [.val (.tup ds), .val (.int t), .val (.bl false)] = .ok (.tup (resN t ds)) .no ∧
    Srt lo t (resN t ds) ∧ Apart (resN t ds) ∧ (resN t ds).length ≤ ds.length + 1 := by
  obtain ⟨ah, eah⟩ : ∃ ah, ah = ahdOf t ds := ⟨_, rfl⟩
  obtain ⟨tk, etk⟩ : ∃ tk, tk = ah.take 1 := ⟨_, rfl⟩
  have ahm : ∀ d ∈ ah, d ∈ ds ∧ isEnd (t - 1) d = true := fun d m => by
    rw [eah] at m
    exact List.mem_filter.mp m
  have tkm : ∀ d ∈ tk, d ∈ ah := fun d m => by rw [etk] at m; exact List.mem_of_mem_take m
  have lka : ∀ d ∈ ah, IsLk lo hi d := fun d m => h.lk d (ahm d m).1
  have lkt : ∀ d ∈ tk, IsLk lo hi d := fun d m => lka d (tkm d m)
  -- the first ahead
  have fst : (ah = [] ∧ fstOf t ah = t) ∨ ∃ a r, ah = dn a (t - 1) :: r ∧ fstOf t ah = a ∧ lo ≤ a ∧ a ≤ t - 1 := by
    cases ah with
    | nil => exact .inl ⟨rfl, rfl⟩
    | cons d r =>
      right
      have ⟨m, e⟩ := ahm d List.mem_cons_self
      rcases lk_cases (h.lk d m) with ⟨a, rfl, _⟩ | ⟨a, b, rfl, h1, h2, h3⟩
      · cases e
      · have : b = t - 1 := of_decide_eq_true e
        subst this
        exact ⟨a, r, rfl, rfl, h1, h2⟩
  obtain ⟨f, ef⟩ : ∃ f, f = fstOf t ah := ⟨_, rfl⟩
  have f1 : lo ≤ f ∧ f ≤ t := by
    rcases fst with ⟨_, e⟩ | ⟨a, r, _, e, _, _⟩ <;> rw [ef, e] <;> omega
  have eres : resN t ds = (restOf tk ds ++ [dn f t]).mergeSort leD := by rw [ef, etk, eah]; rfl
  have hm : ∀ d ∈ restOf tk ds ++ [dn f t], IsLk lo t d := fun d m => by
    rcases List.mem_append.mp m with m | m
    · exact (h.lk d (rest_sub.subset m)).mono (Int.le_refl _) (by omega)
    · rw [List.mem_singleton.mp m]; exact .n f t f1.1 f1.2 (Int.le_refl _)
  have nd : (restOf tk ds ++ [dn f t]).Nodup := nodup_snoc (h.nd.sublist rest_sub) fun m => new_n h.lk ht (rest_sub.subset m)
  have rl : (restOf tk ds).length ≤ ds.length := rest_sub.length_le
  have len : (restOf tk ds ++ [dn f t]).length ≤ ds.length + 1 := by simp; exact rl
  have so := (sorted_ok hm (cap_big (by omega))).2
  have st := (set_ok hm nd (by omega)).1
  have cd : ds.length ≤ cap := cap_big (by omega)
  have cr : (restOf tk ds).length + 1 ≤ cap := cap_big (by omega)
  have ne1 := ne_nil lkt
  have ne2 := ne_nil lka
  rw [eres]
  -- the comprehensions
  have isE : ∀ x, (if isEnd (t - 1) x = true then some x else none) = (if isEnd (t - 1) x = true then some x else none : Option D) := fun _ => rfl
  have ca : ∀ (vs : List Nat) (k kt : Nat) (ρ : Env) (ρ' : D → Env), vs = [k] → (∀ x, gSet k x ρ = some (ρ' x) ∧ (ρ' x)[k]? = some (.val x) ∧ (ρ' x)[kt]? = some (.val (.int t)) ∧ wipeE (ρ' x) [k] = ρ) →
      compGo vs (gSet k) (tAndM (tE (eOp vEq (eOp vIx (eV k) (eC (.int 0))) (eC (.str "none")))) (tE (eOp vEq (eOp vIx (eV k) (eC (.int 2))) (eOp vSub (eV kt) (eC (.int 1)))))) (eV k) ds ρ = .ok ah ρ := by
    rintro vs k kt ρ ρ' rfl hρ
    rw [eah]
    show _ = R.ok (ds.filter _) ρ
    rw [← fm_filter]
    refine comp_map _ fun x m => ?_
    obtain ⟨g1, g2, g3, g4⟩ := hρ x
    refine ⟨ρ' x, isEnd (t - 1) x, ρ' x, g1, ?_, fun z => ⟨g4, by simp [z]⟩, fun z => ⟨x, ρ' x, by simp [g2], g4, by simp [z]⟩⟩
    rcases lk_cases (h.lk x m) with ⟨a, rfl, _⟩ | ⟨a, b, rfl, _⟩
    · simp [g2, ixD, isEnd]
    · simp [g2, g3, ixD, isEnd]
  have cb : ∀ (vs : List Nat) (k : Nat) (ek : EM) (ρ : Env) (ρ' : D → Env), vs = [k] → (∀ x, gSet k x ρ = some (ρ' x) ∧ (ρ' x)[k]? = some (.val x) ∧ ek (ρ' x) = .ok (.lst tk) (ρ' x) ∧ wipeE (ρ' x) [k] = ρ) →
      compGo vs (gSet k) (tE (eOp vNotIn (eV k) ek)) (eV k) ds ρ = .ok (restOf tk ds) ρ := by
    rintro vs k ek ρ ρ' rfl hρ
    refine comp_map _ fun x m => ?_
    obtain ⟨g1, g2, g3, g4⟩ := hρ x
    obtain ⟨b, e1, e2⟩ := anyEq_lk (h.lk x m) lkt
    refine ⟨ρ' x, !b, ρ' x, g1, by simp [g2, g3, e1], fun z => ⟨g4, ?_⟩, fun z => ⟨x, ρ' x, by simp [g2], g4, ?_⟩⟩
    · unfold kpOf; rw [e1]; cases b <;> simp_all
    · unfold kpOf; rw [e1]; cases b <;> simp_all
  refine ⟨?_, ?_, srt_sort hm nd, ?_, by rw [List.length_mergeSort]; exact len⟩
  · show endOf (b_put_to [.val (.tup ds), .val (.int t), .val (.bl false), .no, .no, .no]) = _
    have c1 := ca [5] 5 1 [.val (.tup ds), .val (.int t), .val (.bl false), .no, .no, .no] (fun x => [.val (.tup ds), .val (.int t), .val (.bl false), .no, .no, .val x]) rfl fun x => ⟨by simp, by simp, by simp, by simp [wipeE]⟩
    have c2 := cb [5] 5 (eV 3) [.val (.tup ds), .val (.int t), .val (.bl false), .val (.lst tk), .val (.int f), .no] (fun x => [.val (.tup ds), .val (.int t), .val (.bl false), .val (.lst tk), .val (.int f), .val x]) rfl fun x => ⟨by simp, by simp, by simp, by simp [wipeE]⟩
    rcases fst with ⟨e1, e2⟩ | ⟨a, r, e1, e2, _, _⟩
    · have e3 : tk = [] := by rw [etk, e1]; rfl
      have e4 : f = t := by rw [ef, e2]
      subst e4
      rw [e3] at ne1 c2 cr st
      rw [e1] at c1
      simp [b_put_to, told_no h.lk cd ht, lComp, cd, wipeE, c1, cutT, e3, ne1, c2, cr, st]
    · have e3 : tk = [dn a (t - 1)] := by rw [etk, e1]; rfl
      have e4 : f = a := by rw [ef, e2]
      subst e4
      rw [e3] at ne1 c2 cr st
      rw [e1] at c1
      simp [b_put_to, told_no h.lk cd ht, lComp, cd, wipeE, c1, cutT, e3, ne1, c2, cr, st, ixD]
  · show endOf (b_law_due [.val (.tup ds), .val (.int t), .val (.bl false), .no, .no, .no, .no]) = _
    have c0 : compGo [6] (gSet 6) (tAndM (tE (eOp vEq (eOp vIx (eV 6) (eC (.int 0))) (eC (.str "none")))) (tE (eChain vLe vLe (eOp vIx (eV 6) (eC (.int 1))) (eV 1) (eOp vIx (eV 6) (eC (.int 2)))))) (eV 6) ds [.val (.tup ds), .val (.int t), .val (.bl false), .no, .no, .no, .no] = .ok [] [.val (.tup ds), .val (.int t), .val (.bl false), .no, .no, .no, .no] := by
      have c := comp_map (vs := [6]) (g := gSet 6) (tt := tAndM (tE (eOp vEq (eOp vIx (eV 6) (eC (.int 0))) (eC (.str "none")))) (tE (eChain vLe vLe (eOp vIx (eV 6) (eC (.int 1))) (eV 1) (eOp vIx (eV 6) (eC (.int 2)))))) (te := eV 6) (ρ := [.val (.tup ds), .val (.int t), .val (.bl false), .no, .no, .no, .no]) (fun _ => none) (xs := ds) fun x m => by
        refine ⟨[.val (.tup ds), .val (.int t), .val (.bl false), .no, .no, .no, .val x], false, [.val (.tup ds), .val (.int t), .val (.bl false), .no, .no, .no, .val x], by simp, ?_, (fun _ => ⟨by simp [wipeE], rfl⟩), fun z => by cases z⟩
        rcases lk_cases (h.lk x m) with ⟨a, rfl, _⟩ | ⟨a, b, rfl, h1, h2, h3⟩
        · simp [ixD]
        · have : ¬ t ≤ b := by omega
          by_cases h4 : a ≤ t <;> simp [ixD, this, h4]
      rw [c]
      congr 1
      induction ds with
      | nil => rfl
      | cons x xs ih => simp
    have c1 := ca [6] 6 1 [.val (.tup ds), .val (.int t), .val (.bl false), .val (.lst []), .no, .no, .no] (fun x => [.val (.tup ds), .val (.int t), .val (.bl false), .val (.lst []), .no, .no, .val x]) rfl fun x => ⟨by simp, by simp, by simp, by simp [wipeE]⟩
    have c2 := cb [6] 6 (eSlice (eV 4) oNone (oSome (eC (.int 1)))) [.val (.tup ds), .val (.int t), .val (.bl false), .val (.lst []), .val (.lst ah), .no, .no] (fun x => [.val (.tup ds), .val (.int t), .val (.bl false), .val (.lst []), .val (.lst ah), .no, .val x]) rfl fun x => ⟨by simp, by simp, by simp [cutT, etk], by simp [wipeE]⟩
    have n0 : vNe (.lst []) (.lst []) = some (.bl false) := ne_nil (lo := 0) (hi := 0) (xs := []) fun _ m => nomatch m
    have va : vAdd (.tup (restOf tk ds)) (.tup [dn f t]) = some (.tup (restOf tk ds ++ [dn f t])) := by
      show (if (restOf tk ds).length + 1 ≤ cap then _ else _) = _
      rw [if_pos cr]
    rcases fst with ⟨e1, e2⟩ | ⟨a, r, e1, e2, _, _⟩
    · have e4 : f = t := by rw [ef, e2]
      subst e4
      rw [e1] at ne2 c1 c2
      simp [b_law_due, lComp, cd, wipeE, c0, c1, ne2, c2, n0, va, so]
    · have e4 : f = a := by rw [ef, e2]
      subst e4
      rw [e1] at ne2 c1 c2
      simp [b_law_due, lComp, cd, wipeE, c0, c1, ne2, c2, n0, va, so, ixD]
  · intro a b c m1 m2
    rw [(List.mergeSort_perm _ _).mem_iff, List.mem_append, List.mem_singleton] at m1 m2
    rcases m1 with m1 | m1
    · have k1 := rest_sub.subset m1
      rcases m2 with m2 | m2
      · exact ap a b c k1 (rest_sub.subset m2)
      · cases m2
        rcases lk_cases (h.lk _ k1) with ⟨a', e, g1, g2⟩ | ⟨_, _, e, _⟩
        · cases e
          rcases fst with ⟨e1, e2⟩ | ⟨a', r, e1, e2, _, _⟩
          · have : f = t := by rw [ef, e2]
            omega
          · have e4 : f = a' := by rw [ef, e2]
            subst e4
            have := ap a f (t - 1) k1 (ahm _ (by rw [e1]; exact List.mem_cons_self)).1
            omega
        · cases e
    · cases m1
end
end Pl
/- P7 -/
/-! The plain law: none is told already. -/
namespace Pl
open PySem hiding Env
open L2 Tr G
theorem holds_c (t a : Int) : holdsB t (dc a) = false := rfl
theorem holds_n (t a b : Int) : holdsB t (dn a b) = (decide (a ≤ t) && decide (t ≤ b)) := rfl
section
variable {lo hi t : Int} {ds : List D}
theorem asBs_map (p : D → Bool) : ∀ xs : List D, asBs (xs.map fun x => .bl (p x)) = some (xs.map p)
  | [] => rfl
  | x :: xs => by rw [List.map_cons, asBs, asBs_map p xs]; rfl
theorem told_held (h : ∀ d ∈ ds, IsLk lo hi d) (hl : ds.length ≤ cap) (hh : ∃ d ∈ ds, holdsB t d = true) : f_is_told [.val (.tup ds), .val (.int t), .val (.bl false)] = .ok (.bl true) .no := by
  show endOf (b_is_told [.val (.tup ds), .val (.int t), .val (.bl false), .no]) = _
  have c := comp_all (vs := [3]) (g := gSet 3) (te := eAnd (eOp vEq (eOp vIx (eV 3) (eC (.int 0))) (eC (.str "none"))) (eChain vLe vLe (eOp vIx (eV 3) (eC (.int 1))) (eV 1) (eOp vIx (eV 3) (eC (.int 2)))))
    (ρ := [.val (.tup ds), .val (.int t), .val (.bl false), .no]) (fun x => .bl (holdsB t x)) (xs := ds) fun x m => by
    refine ⟨[.val (.tup ds), .val (.int t), .val (.bl false), .val x], [.val (.tup ds), .val (.int t), .val (.bl false), .val x], by simp, ?_, by simp [wipeE]⟩
    rcases lk_cases (h x m) with ⟨a, rfl, _, _⟩ | ⟨a, b, rfl, h1, h2, h3⟩
    · simp [ixD, holds_c]
    · by_cases h4 : a ≤ t <;> by_cases h5 : t ≤ b <;> simp [ixD, holds_n, h4, h5]
  have e : bAny [.lst (ds.map fun x => D.bl (holdsB t x))] = some (.bl true) := by
    show (asBs (ds.map fun x => D.bl (holdsB t x))).map _ = _
    rw [asBs_map]
    have : (ds.map (holdsB t)).any id = true := by
      rw [List.any_eq_true]
      obtain ⟨d, m, e⟩ := hh
      exact ⟨true, List.mem_map.mpr ⟨d, m, e⟩, rfl⟩
    simp [this]
  simp [b_is_told, lComp, hl, wipeE, c, e]
theorem put_held (h : ∀ d ∈ ds, IsLk lo hi d) (hl : ds.length ≤ cap) (hh : ∃ d ∈ ds, holdsB t d = true) :
    f_put_to [.val (.tup ds), .val (.int t), .val (.bl false)] = .ok (.tup ds) .no ∧ f_law_due [.val (.tup ds), .val (.int t), .val (.bl false)] = .ok (.tup ds) .no := by
  refine ⟨?_, ?_⟩
  · show endOf (b_put_to [.val (.tup ds), .val (.int t), .val (.bl false), .no, .no, .no]) = _
    simp [b_put_to, told_held h hl hh]
  · show endOf (b_law_due [.val (.tup ds), .val (.int t), .val (.bl false), .no, .no, .no, .no]) = _
    have c0 : compGo [6] (gSet 6) (tAndM (tE (eOp vEq (eOp vIx (eV 6) (eC (.int 0))) (eC (.str "none")))) (tE (eChain vLe vLe (eOp vIx (eV 6) (eC (.int 1))) (eV 1) (eOp vIx (eV 6) (eC (.int 2)))))) (eV 6) ds [.val (.tup ds), .val (.int t), .val (.bl false), .no, .no, .no, .no] = .ok (ds.filter (holdsB t)) [.val (.tup ds), .val (.int t), .val (.bl false), .no, .no, .no, .no] := by
      rw [← fm_filter]
      refine comp_map _ fun x m => ?_
      refine ⟨[.val (.tup ds), .val (.int t), .val (.bl false), .no, .no, .no, .val x], holdsB t x, [.val (.tup ds), .val (.int t), .val (.bl false), .no, .no, .no, .val x], by simp, ?_, (fun z => ⟨by simp [wipeE], by simp [z]⟩), fun z => ⟨x, [.val (.tup ds), .val (.int t), .val (.bl false), .no, .no, .no, .val x], by simp, by simp [wipeE], by simp [z]⟩⟩
      rcases lk_cases (h x m) with ⟨a, rfl, _⟩ | ⟨a, b, rfl, h1, h2, h3⟩
      · simp [ixD, holds_c]
      · by_cases h4 : a ≤ t <;> by_cases h5 : t ≤ b <;> simp [ixD, holds_n, h4, h5]
    obtain ⟨hd, ehd⟩ : ∃ hd, hd = ds.filter (holdsB t) := ⟨_, rfl⟩
    rw [← ehd] at c0
    have lkh : ∀ d ∈ hd, IsLk lo hi d := fun d m => by rw [ehd] at m; exact h d (List.mem_filter.mp m).1
    have nn : hd ≠ [] := by
      obtain ⟨d, m, e⟩ := hh
      intro z
      have : d ∈ hd := by rw [ehd]; exact List.mem_filter.mpr ⟨m, e⟩
      rw [z] at this
      cases this
    have ne := ne_nil lkh
    have c1 : compGo [6] (gSet 6) (tAndM (tE (eOp vEq (eOp vIx (eV 6) (eC (.int 0))) (eC (.str "none")))) (tE (eOp vEq (eOp vIx (eV 6) (eC (.int 2))) (eOp vSub (eV 1) (eC (.int 1)))))) (eV 6) ds [.val (.tup ds), .val (.int t), .val (.bl false), .val (.lst hd), .no, .no, .no] = .ok (ds.filter (isEnd (t - 1))) [.val (.tup ds), .val (.int t), .val (.bl false), .val (.lst hd), .no, .no, .no] := by
      rw [← fm_filter]
      refine comp_map _ fun x m => ?_
      refine ⟨[.val (.tup ds), .val (.int t), .val (.bl false), .val (.lst hd), .no, .no, .val x], isEnd (t - 1) x, [.val (.tup ds), .val (.int t), .val (.bl false), .val (.lst hd), .no, .no, .val x], by simp, ?_, (fun z => ⟨by simp [wipeE], by simp [z]⟩), fun z => ⟨x, [.val (.tup ds), .val (.int t), .val (.bl false), .val (.lst hd), .no, .no, .val x], by simp, by simp [wipeE], by simp [z]⟩⟩
      rcases lk_cases (h x m) with ⟨a, rfl, _⟩ | ⟨a, b, rfl, h1, h2, h3⟩
      · simp [ixD, isEnd]
      · simp [ixD, isEnd]
    simp [b_law_due, lComp, hl, wipeE, c0, c1, ne, nn]
end
end Pl
/- P8 -/
/-! The plain law: masks of ages. -/
namespace Pl
open PySem hiding Env
open L2 Tr G
theorem or_nat (a b : Nat) : Builtin.bitOr (a : Int) (b : Int) = ((a ||| b : Nat) : Int) := by
  have e : ∀ n : Nat, Builtin.bitNot (n : Int) = -(n : Int) - 1 := fun _ => rfl
  unfold Builtin.bitOr Builtin.bitAnd
  have h1 : decide (0 ≤ Builtin.bitNot (a : Int)) = false := decide_eq_false (by rw [e]; omega)
  have h2 : decide (0 ≤ Builtin.bitNot (b : Int)) = false := decide_eq_false (by rw [e]; omega)
  rw [h1, h2]
  have h3 : ∀ n : Nat, (Builtin.bitNot (Builtin.bitNot (n : Int))).toNat = n := fun n => by
    unfold Builtin.bitNot
    omega
  show Builtin.bitNot (Builtin.bitNot (((Builtin.bitNot (Builtin.bitNot (a : Int))).toNat ||| (Builtin.bitNot (Builtin.bitNot (b : Int))).toNat : Nat) : Int)) = _
  rw [h3, h3]
  unfold Builtin.bitNot
  omega
abbrev AG : Nat := 1152921504606846975
abbrev DU : Nat := 2305843009213693950
theorem bit2 (m b : Nat) : (m * 2).testBit (b + 1) = m.testBit b := by
  rw [Nat.testBit_succ]
  congr 1
  omega
theorem bit_AG (b : Nat) : AG.testBit b = decide (b < 60) := by
  show (2 ^ 60 - 1).testBit b = _
  rw [Nat.testBit_two_pow_sub_one]
theorem bit_DU (b : Nat) : DU.testBit (b + 1) = decide (b < 60) := by
  show (AG * 2).testBit (b + 1) = _
  rw [bit2, bit_AG]
def stepN (c e : Bool) (m : Nat) : Nat := if e = true then (if c = true then 0 else (m * 2) &&& AG) else if c = true then (if (m * 2) &&& DU ≠ 0 then 1 else 0) else ((m * 2) &&& AG) ||| (if (m * 2) &&& DU ≠ 0 then 1 else 0)
/-- a mask with an age of at most j -/
structure Good (m j : Nat) : Prop where
  lt : m < 2 ^ 60
  ex : ∃ b, b ≤ j ∧ m.testBit b = true
theorem Good.ne {m j : Nat} (h : Good m j) : m ≠ 0 := by
  obtain ⟨b, _, e⟩ := h.ex
  rintro rfl
  rw [Nat.zero_testBit] at e
  cases e
theorem and_lt (x : Nat) : x &&& AG < 2 ^ 60 := Nat.lt_of_le_of_lt Nat.and_le_right (by decide)
theorem step_good {c e : Bool} {m j : Nat} (h : Good m j) (hj : j ≤ 58) (ce : ¬ (c = true ∧ e = true)) :
    Good (stepN c e m) (j + 1) ∧ (c = false → ∃ b, 1 ≤ b ∧ b < 60 ∧ (stepN c e m).testBit b = true) ∧ (c = false → e = false → (stepN c e m).testBit 0 = true) := by
  obtain ⟨b, hb, hm⟩ := h.ex
  have g1 : (m * 2).testBit (b + 1) = true := by rw [bit2, hm]
  have g2 : (m * 2 &&& AG).testBit (b + 1) = true := by
    rw [Nat.testBit_and, g1, bit_AG]
    simp
    omega
  have g3 : m * 2 &&& DU ≠ 0 := by
    intro z
    have : (m * 2 &&& DU).testBit (b + 1) = true := by
      rw [Nat.testBit_and, g1, bit_DU]
      simp
      omega
    rw [z, Nat.zero_testBit] at this
    cases this
  cases e with
  | true =>
    cases c with
    | true => exact absurd ⟨rfl, rfl⟩ ce
    | false =>
      have es : stepN false true m = m * 2 &&& AG := rfl
      rw [es]
      exact ⟨⟨and_lt _, b + 1, by omega, g2⟩, fun _ => ⟨b + 1, by omega, by omega, g2⟩, (fun _ z => by cases z)⟩
  | false =>
    cases c with
    | true =>
      have es : stepN true false m = 1 := by
        unfold stepN
        rw [if_neg Bool.false_ne_true, if_pos rfl, if_pos g3]
      rw [es]
      exact ⟨⟨by decide, 0, by omega, by decide⟩, (fun z => by cases z), (fun z => by cases z)⟩
    | false =>
      have es : stepN false false m = (m * 2 &&& AG) ||| 1 := by
        unfold stepN
        rw [if_neg Bool.false_ne_true, if_neg Bool.false_ne_true, if_pos g3]
      rw [es]
      have o : ((m * 2 &&& AG) ||| 1).testBit (b + 1) = true := by rw [Nat.testBit_or, g2]; rfl
      refine ⟨⟨Nat.or_lt_two_pow (and_lt _) (by decide), b + 1, by omega, o⟩, fun _ => ⟨b + 1, by omega, by omega, o⟩, fun _ _ => ?_⟩
      rw [Nat.testBit_or]
      simp
theorem good_full : Good AG 0 := ⟨by decide, 0, Nat.le_refl _, by decide⟩
/-! ### ages -/
@[simp] theorem v_andN (a b : Nat) : vAnd (.int a) (.int b) = some (.int ((a &&& b : Nat) : Int)) := by
  show some (D.int (Builtin.bitAnd a b)) = _
  rw [W.os_band]
@[simp] theorem v_orN (a b : Nat) : vOr (.int a) (.int b) = some (.int ((a ||| b : Nat) : Int)) := by
  show some (D.int (Builtin.bitOr a b)) = _
  rw [or_nat]
theorem gaps_most_ok : f_Gaps_most [.val gapsD] = .ok (.int 60) .no := by
  show endOf (b_Gaps_most [.val gapsD]) = _
  simp [b_Gaps_most]
theorem gaps_least_ok : f_Gaps_least [.val gapsD] = .ok (.int 1) .no := by
  show endOf (b_Gaps_least [.val gapsD]) = _
  simp [b_Gaps_least]
theorem all_ages_ok : f_all_ages [.val gapsD] = .ok (.int (AG : Nat)) .no := by
  show endOf (b_all_ages [.val gapsD]) = _
  have e : vShl (.int 1) (.int 60) = some (.int 1152921504606846976) := by simp [vShl]
  simp [b_all_ages, gaps_most_ok, e]
theorem due_ages_ok : f_due_ages [.val gapsD] = .ok (.int (DU : Nat)) .no := by
  show endOf (b_due_ages [.val gapsD]) = _
  have e : vShl (.int 1) (.int 61) = some (.int 2305843009213693952) := by simp [vShl]
  have e2 : vShl (.int 1) (.int 1) = some (.int 2) := by simp [vShl]
  simp [b_due_ages, gaps_most_ok, gaps_least_ok, e, e2]
end Pl
/- P9 -/
/-! The plain law: dicts of minutes. -/
namespace Pl
open PySem hiding Env
open L2 Tr G
def has (kvs : List (Key × D)) (k : Int) : Bool := (getK kvs (.inl k)).isSome
theorem getK_any (kvs : List (Key × D)) (k : Key) : (getK kvs k).isSome = kvs.any fun p => decide (p.1 = k) := by
  unfold getK
  rw [Option.isSome_map]
  induction kvs with
  | nil => rfl
  | cons p kvs ih =>
    rw [List.find?_cons, List.any_cons]
    cases decide (p.1 = k) with
    | true => rfl
    | false => exact ih
theorem any_put (kvs : List (Key × D)) (k k' : Key) (d : D) : ((putD kvs k d).any fun p => decide (p.1 = k')) = (decide (k = k') || kvs.any fun p => decide (p.1 = k')) := by
  unfold putD
  split
  · rename_i h
    rw [List.any_map]
    have e : (fun p : Key × D => decide (p.1 = k')) ∘ (fun kv : Key × D => if kv.1 = k then (kv.1, d) else kv) = fun p => decide (p.1 = k') := by
      funext p
      show decide ((if p.1 = k then (p.1, d) else p).1 = k') = _
      split <;> rfl
    rw [e]
    cases q : decide (k = k') with
    | false => rfl
    | true =>
      have := of_decide_eq_true q
      subst this
      rw [h]; rfl
  · rw [List.any_append]
    simp [Bool.or_comm]
theorem has_put (kvs : List (Key × D)) (i k : Int) (d : D) : has (putD kvs (.inl i) d) k = (decide (i = k) || has kvs k) := by
  unfold has
  rw [getK_any, getK_any, any_put]
  congr 1
  simp
theorem put_len (kvs : List (Key × D)) (k : Key) (d : D) : (putD kvs k d).length ≤ kvs.length + 1 := by
  unfold putD
  split <;> simp
@[simp] theorem has_nil (k : Int) : has [] k = false := rfl
@[simp] theorem vIn_has (kvs : List (Key × D)) (k : Int) : vIn (.int k) (.dK kvs) = some (.bl (has kvs k)) := rfl
@[simp] theorem keyOf_int (i : Int) : keyOf (.int i) = some (.inl i) := rfl
def isCar (k : Int) (d : D) : Bool := match d with
  | .tup [.str _, .int a] => decide (a = k)
  | _ => false
section
variable {lo hi : Int}
theorem cars_go {x0 : SV} : ∀ {ds : List D} (acc : List (Key × D)), (∀ d ∈ ds, IsLk lo hi d) → ∃ kvs, dGo [1] (gSet 1) (tE (eOp vEq (eOp vIx (eV 1) (eC (.int 0))) (eC (.str "came")))) (eOp vIx (eV 1) (eC (.int 1))) (eC (.bl true)) acc ds [x0, .no] = .ok kvs [x0, .no] ∧ ∀ k, has kvs k = (has acc k || ds.any (isCar k))
  | [], acc, _ => ⟨acc, rfl, fun k => by simp⟩
  | d :: ds, acc, h => by
    have hd := h d List.mem_cons_self
    have ht := fun x m => h x (List.mem_cons_of_mem d m)
    rcases lk_cases hd with ⟨a, rfl, _⟩ | ⟨a, b, rfl, _⟩
    · obtain ⟨kvs, e, f⟩ := cars_go (x0 := x0) (putD acc (.inl a) (.bl true)) ht
      refine ⟨kvs, ?_, fun k => ?_⟩
      · simp [dGo, ixD, wipeE, e]
      · rw [f, has_put, List.any_cons]
        show _ = (has acc k || (decide (a = k) || _))
        cases decide (a = k) <;> cases has acc k <;> simp
    · obtain ⟨kvs, e, f⟩ := cars_go (x0 := x0) acc ht
      refine ⟨kvs, ?_, fun k => ?_⟩
      · simp [dGo, ixD, wipeE, e]
      · rw [f, List.any_cons]
        rfl
theorem cars_in_ok {ds : List D} (h : ∀ d ∈ ds, IsLk lo hi d) (hl : ds.length ≤ cap) : ∃ kvs, f_cars_in [.val (.tup ds)] = .ok (.dK kvs) .no ∧ ∀ k, has kvs k = ds.any (isCar k) := by
  obtain ⟨kvs, e, f⟩ := cars_go (x0 := .val (.tup ds)) [] h
  refine ⟨kvs, ?_, fun k => by rw [f]; rfl⟩
  show endOf (b_cars_in [.val (.tup ds), .no]) = _
  simp [b_cars_in, eDComp, hl, wipeE, e]
theorem rangeD_succ (i : Int) (n : Nat) : rangeD i (n + 1) = .int i :: rangeD (i + 1) n := by
  unfold rangeD
  rw [List.range_succ_eq_map, List.map_cons, List.map_map]
  congr 1
  · simp
  · apply List.map_congr_left
    intro k _
    show D.int (i + ((k + 1 : Nat) : Int)) = .int (i + 1 + k)
    congr 1
    omega
theorem in_go {x0 x1 : SV} : ∀ (n : Nat) (i : Int) (acc : List (Key × D)), acc.length + n ≤ cap → ∃ kvs, dIn2 [2] (gSet 2) tYesM (eV 2) (eC (.bl true)) acc (rangeD i n) [x0, x1, .no] = .ok kvs [x0, x1, .no] ∧ kvs.length ≤ acc.length + n ∧ ∀ k, has kvs k = (has acc k || decide (i ≤ k ∧ k < i + n))
  | 0, i, acc, _ => ⟨acc, rfl, by omega, fun k => by
      have : ¬ (i ≤ k ∧ k < i + (0 : Nat)) := by omega
      rw [decide_eq_false this, Bool.or_false]⟩
  | n + 1, i, acc, h => by
    have pl := put_len acc (.inl i) (.bl true)
    obtain ⟨kvs, e, l, f⟩ := in_go (x0 := x0) (x1 := x1) n (i + 1) (putD acc (.inl i) (.bl true)) (by omega)
    refine ⟨kvs, ?_, by omega, fun k => ?_⟩
    · rw [rangeD_succ]
      have : acc.length < cap := by omega
      simp [dIn2, wipeE, this, e]
    · rw [f, has_put]
      have : decide (i ≤ k ∧ k < i + ((n + 1 : Nat) : Int)) = (decide (i = k) || decide (i + 1 ≤ k ∧ k < i + 1 + (n : Int))) := by
        rw [← Bool.decide_or]
        apply decide_eq_decide.mpr
        omega
      rw [this]
      cases decide (i = k) <;> cases has acc k <;> simp
theorem okB_of {i : Int} (h : 0 ≤ i) (g : i ≤ 5000) : okB i = true := by
  unfold okB
  have : -(2 ^ 61) ≤ i ∧ i ≤ 2 ^ 61 := by omega
  rw [decide_eq_true this]
theorem empty_go {x0 : SV} (h0 : 0 ≤ lo) (h1 : hi ≤ 2999) : ∀ {ds : List D} (acc : List (Key × D)), (∀ d ∈ ds, IsLk lo hi d) → acc.length + 3000 * ds.length ≤ cap → ∃ kvs, dOut2 [1, 2] [2] (gSet 1) (tE (eOp vEq (eOp vIx (eV 1) (eC (.int 0))) (eC (.str "none")))) (lIt itRange2 (lCons (eOp vIx (eV 1) (eC (.int 1))) (lCons (eOp vAdd (eOp vIx (eV 1) (eC (.int 2))) (eC (.int 1))) lNil))) (gSet 2) tYesM (eV 2) (eC (.bl true)) acc ds [x0, .no, .no] = .ok kvs [x0, .no, .no] ∧ ∀ k, has kvs k = (has acc k || ds.any (holdsB k))
  | [], acc, _, _ => ⟨acc, rfl, fun k => by simp⟩
  | d :: ds, acc, h, hl => by
    have hd := h d List.mem_cons_self
    have ht := fun x m => h x (List.mem_cons_of_mem d m)
    rw [List.length_cons] at hl
    rcases lk_cases hd with ⟨a, rfl, _⟩ | ⟨a, b, rfl, g1, g2, g3⟩
    · obtain ⟨kvs, e, f⟩ := empty_go (x0 := x0) h0 h1 acc ht (by omega)
      refine ⟨kvs, ?_, fun k => ?_⟩
      · simp [dOut2, ixD, wipeE, e]
      · rw [f, List.any_cons]
        rfl
    · obtain ⟨kv1, e1, l1, f1⟩ := in_go (x0 := x0) (x1 := .val (dn a b)) (b + 1 - a).toNat a acc (by omega)
      obtain ⟨kvs, e, f⟩ := empty_go (x0 := x0) h0 h1 kv1 ht (by omega)
      refine ⟨kvs, ?_, fun k => ?_⟩
      · have o1 := okB_of (i := a) (by omega) (by omega)
        have o2 := okB_of (i := b + 1) (by omega) (by omega)
        simp [dOut2, ixD, wipeE, itRange2, o1, o2, e1, e]
      · rw [f, f1, List.any_cons]
        show _ = (has acc k || ((decide (a ≤ k) && decide (k ≤ b)) || _))
        have : decide (a ≤ k ∧ k < a + ((b + 1 - a).toNat : Int)) = (decide (a ≤ k) && decide (k ≤ b)) := by
          rw [← Bool.decide_and]
          apply decide_eq_decide.mpr
          omega
        rw [this, Bool.or_assoc]
theorem empty_in_ok {ds : List D} (h0 : 0 ≤ lo) (h1 : hi ≤ 2999) (h : ∀ d ∈ ds, IsLk lo hi d) (hl : ds.length ≤ 60) : ∃ kvs, f_empty_in [.val (.tup ds)] = .ok (.dK kvs) .no ∧ ∀ k, has kvs k = ds.any (holdsB k) := by
  obtain ⟨kvs, e, f⟩ := empty_go (x0 := .val (.tup ds)) h0 h1 [] h (by unfold cap; simp; omega)
  refine ⟨kvs, ?_, fun k => by rw [f]; rfl⟩
  show endOf (b_empty_in [.val (.tup ds), .no, .no]) = _
  simp [b_empty_in, eDComp2, wipeE, e]
end
theorem any_car {lo hi k : Int} {ds : List D} (h : ∀ d ∈ ds, IsLk lo hi d) : ds.any (isCar k) = true ↔ dc k ∈ ds := by
  rw [List.any_eq_true]
  constructor
  · rintro ⟨d, m, e⟩
    rcases lk_cases (h d m) with ⟨a, rfl, _⟩ | ⟨a, b, rfl, _⟩
    · have : a = k := of_decide_eq_true e
      subst this
      exact m
    · cases e
  · exact fun m => ⟨_, m, decide_eq_true rfl⟩
theorem any_holds {lo hi k : Int} {ds : List D} (h : ∀ d ∈ ds, IsLk lo hi d) : ds.any (holdsB k) = true ↔ ∃ a b, dn a b ∈ ds ∧ a ≤ k ∧ k ≤ b := by
  rw [List.any_eq_true]
  constructor
  · rintro ⟨d, m, e⟩
    rcases lk_cases (h d m) with ⟨a, rfl, _⟩ | ⟨a, b, rfl, _⟩
    · cases e
    · have e' : (decide (a ≤ k) && decide (k ≤ b)) = true := e
      simp at e'
      exact ⟨a, b, m, e'⟩
  · rintro ⟨a, b, m, h1, h2⟩
    refine ⟨_, m, ?_⟩
    show (decide (a ≤ k) && decide (k ≤ b)) = true
    simp [h1, h2]
end Pl
/- P10 -/
/-! The plain law: the masks. -/
namespace Pl
open PySem hiding Env
open L2 Tr G
def dN (m : Nat) : D := .int (m : Int)
theorem shl1 {m j : Nat} (h : Good m j) : vShl (.int (m : Int)) (.int 1) = some (.int ((m * 2 : Nat) : Int)) := by
  have l := h.lt
  have : (m : Int).natAbs < 2 ^ 64 := by rw [Int.natAbs_natCast]; omega
  show (if (0 : Int) ≤ 1 ∧ (1 : Int) ≤ 1000000 ∧ (m : Int).natAbs < 2 ^ 64 then some (D.int ((m : Int) * 2 ^ 1)) else none) = _
  rw [if_pos ⟨by omega, by omega, this⟩]
  congr 2
theorem go_stop (g : GM) (b : SM) (ρ : Env) : forGo g b [] ρ = .ok none ρ := rfl
theorem ce_stop (p : Prop) [Decidable p] (a b : Nat) : ((if p then a else b : Nat) : Int) = if p then (a : Int) else (b : Int) := by split <;> rfl
def bodyM : SM := (sCons (sAsg (eOp vShl (eV 2) (eC (.int 1))) (gSet 11)) (sCons (sIf (tE (eOp vIn (eV 10) (eV 6))) (sAsg (eIf (tE (eOp vIn (eV 10) (eV 5))) (eC (.int 0)) (eOp vAnd (eV 11) (eV 7))) (gSet 2)) (sIf (tE (eOp vIn (eV 10) (eV 5))) (sAsg (eB bInt (lCons (eOp vNe (eOp vAnd (eV 11) (eV 8)) (eC (.int 0))) lNil)) (gSet 2)) (sAsg (eOp vOr (eOp vAnd (eV 11) (eV 7)) (eB bInt (lCons (eOp vNe (eOp vAnd (eV 11) (eV 8)) (eC (.int 0))) lNil))) (gSet 2)))) (sExpr (eStepO 9 appL (eV 2)))))
theorem asN (n : Nat) (i : Int) (h : i = (n : Int)) : D.int i = dN n := by rw [h]; rfl
theorem turn_raw {ck ek : List (Key × D)} {mi g A Du p q r w : Int} (k : Int) (a b c d x11 : SV) (fs : List D) (hl : fs.length < cap)
    (e1 : vShl (.int mi) (.int 1) = some (.int g)) (e2 : vAnd (.int g) (.int A) = some (.int p)) (e3 : vAnd (.int g) (.int Du) = some (.int q)) (e4 : bInt [.bl (!decide (q = 0))] = some (.int r)) (e5 : vOr (.int p) (.int r) = some (.int w)) (y : Int)
    (hy : y = if has ek k = true then (if has ck k = true then 0 else p) else if has ck k = true then r else w) :
    bodyM [a, b, .val (.int mi), c, d, .val (.dK ck), .val (.dK ek), .val (.int A), .val (.int Du), .ol fs, .val (.int k), x11] =
    .ok none [a, b, .val (.int y), c, d, .val (.dK ck), .val (.dK ek), .val (.int A), .val (.int Du), .ol (fs ++ [.int y]), .val (.int k), .val (.int g)] := by
  unfold bodyM
  cases ce : has ek k with
  | true =>
    cases cc : has ck k with
    | true =>
      have : y = 0 := by rw [hy, ce, cc]; rfl
      subst this
      simp [e1, ce, cc, olAt, eStepO, stepO, appL, hl]
    | false =>
      have : y = p := by rw [hy, ce, cc]; rfl
      subst this
      simp [e1, e2, ce, cc, olAt, eStepO, stepO, appL, hl]
  | false =>
    cases cc : has ck k with
    | true =>
      have : y = r := by rw [hy, ce, cc]; rfl
      subst this
      cases hq : decide (q = 0) with
      | true =>
        have : q = 0 := of_decide_eq_true hq
        subst this
        have : y = 0 := by injection (Option.some.inj e4) with h; exact h.symm
        subst this
        simp [e1, e3, ce, cc, olAt, eStepO, stepO, appL, hl]
      | false =>
        have nq : ¬ q = 0 := of_decide_eq_false hq
        rw [hq] at e4
        have : y = 1 := by injection (Option.some.inj e4) with h; exact h.symm
        subst this
        simp [e1, e3, nq, ce, cc, olAt, eStepO, stepO, appL, hl]
    | false =>
      have : y = w := by rw [hy, ce, cc]; rfl
      subst this
      cases hq : decide (q = 0) with
      | true =>
        have : q = 0 := of_decide_eq_true hq
        subst this
        have : r = 0 := by injection (Option.some.inj e4) with h; exact h.symm
        subst this
        simp [e1, e2, e3, e5, ce, cc, olAt, eStepO, stepO, appL, hl]
      | false =>
        have nq : ¬ q = 0 := of_decide_eq_false hq
        rw [hq] at e4
        have : r = 1 := by injection (Option.some.inj e4) with h; exact h.symm
        subst this
        simp [e1, e2, e3, nq, e5, ce, cc, olAt, eStepO, stepO, appL, hl]
theorem turn_ok {ck ek : List (Key × D)} {m j : Nat} (h : Good m j) (k : Int) (a b c d x11 : SV) (fs : List D) (hl : fs.length < cap) :
    bodyM [a, b, .val (.int (m : Int)), c, d, .val (.dK ck), .val (.dK ek), .val (.int (AG : Nat)), .val (.int (DU : Nat)), .ol fs, .val (.int k), x11] =
    .ok none [a, b, .val (.int (stepN (has ck k) (has ek k) m : Nat)), c, d, .val (.dK ck), .val (.dK ek), .val (.int (AG : Nat)), .val (.int (DU : Nat)), .ol (fs ++ [dN (stepN (has ck k) (has ek k) m)]), .val (.int k), .val (.int ((m * 2 : Nat) : Int))] := by
  refine turn_raw k a b c d x11 fs hl (shl1 h) (v_andN (m * 2) AG) (v_andN (m * 2) DU) (r := ((if (m * 2 &&& DU) ≠ 0 then 1 else 0 : Nat) : Int)) ?_ (v_orN (m * 2 &&& AG) (if (m * 2 &&& DU) ≠ 0 then 1 else 0)) _ ?_
  · rw [b_intB]
    congr 2
    generalize m * 2 &&& DU = x
    by_cases e : x = 0
    · simp [e]
    · have : ¬ (x : Int) = 0 := by omega
      simp [e, this]
  · unfold stepN
    split
    · split <;> rfl
    · split <;> rfl
def msks (C E : Int → Bool) : Nat → Int → Nat → List Nat
  | _, _, 0 => []
  | m, i, n + 1 => stepN (C i) (E i) m :: msks C E (stepN (C i) (E i) m) (i + 1) n
theorem msks_len {C E : Int → Bool} : ∀ (n m : Nat) (i : Int), (msks C E m i n).length = n
  | 0, _, _ => rfl
  | n + 1, m, i => by rw [msks, List.length_cons, msks_len n]
theorem msks_ok {C E : Int → Bool} (ce : ∀ k, ¬ (C k = true ∧ E k = true)) : ∀ (n m j : Nat) (i : Int), Good m j → j + n ≤ 59 →
    (∀ x ∈ msks C E m i n, x ≠ 0) ∧ ∀ x, (msks C E m i n)[n - 1]? = some x → ∃ m' j', Good m' j' ∧ j' ≤ 58 ∧ x = stepN (C (i + n - 1)) (E (i + n - 1)) m'
  | 0, m, j, i, h, hn => ⟨fun _ m => (nomatch m), fun _ e => (nomatch e)⟩
  | n + 1, m, j, i, h, hn => by
    have g := (step_good h (by omega) (ce i)).1
    obtain ⟨h1, h2⟩ := msks_ok ce n _ (j + 1) (i + 1) g (by omega)
    constructor
    · intro x hx
      rw [msks] at hx
      rcases List.mem_cons.mp hx with rfl | hx
      · exact g.ne
      · exact h1 x hx
    · intro x hx
      rw [msks] at hx
      cases n with
      | zero =>
        cases hx
        refine ⟨m, j, h, by omega, ?_⟩
        rw [show i + ((0 + 1 : Nat) : Int) - 1 = i by omega]
      | succ n =>
        obtain ⟨m', j', k1, k2, k3⟩ := h2 x hx
        refine ⟨m', j', k1, k2, ?_⟩
        rw [k3, show i + 1 + ((n + 1 : Nat) : Int) - 1 = i + ((n + 1 + 1 : Nat) : Int) - 1 by omega]
def AGi : Int := 1152921504606846975
def DUi : Int := 2305843009213693950
theorem AGi_eq : AGi = ((AG : Nat) : Int) := rfl
theorem DUi_eq : DUi = ((DU : Nat) : Int) := rfl
theorem mask_go {ck ek : List (Key × D)} (ce : ∀ k, ¬ (has ck k = true ∧ has ek k = true)) (a b c d : SV) : ∀ (n m j : Nat) (i : Int) (x10 x11 : SV) (fs : List D), Good m j → j + n ≤ 59 → fs.length + n ≤ cap →
    ∃ m' y10 y11, forGo (gSet 10) bodyM (rangeD i n) [a, b, .val (.int (m : Int)), c, d, .val (.dK ck), .val (.dK ek), .val (.int AGi), .val (.int DUi), .ol fs, x10, x11] =
    .ok none [a, b, m', c, d, .val (.dK ck), .val (.dK ek), .val (.int AGi), .val (.int DUi), .ol (fs ++ (msks (has ck) (has ek) m i n).map dN), y10, y11]
  | 0, m, j, i, x10, x11, fs, h, hn, hl => ⟨_, x10, x11, by rw [msks, List.map_nil, List.append_nil]; rfl⟩
  | n + 1, m, j, i, x10, x11, fs, h, hn, hl => by
    have g := (step_good h (by omega) (ce i)).1
    obtain ⟨m', y10, y11, e⟩ := mask_go ce a b c d n (stepN (has ck i) (has ek i) m) (j + 1) (i + 1) (.val (.int i)) (.val (.int ((m * 2 : Nat) : Int))) (fs ++ [dN (stepN (has ck i) (has ek i) m)]) g (by omega) (by simp; omega)
    refine ⟨m', y10, y11, ?_⟩
    rw [rangeD_succ, forGo]
    show bnd (bodyM [a, b, .val (.int (m : Int)), c, d, .val (.dK ck), .val (.dK ek), .val (.int AGi), .val (.int DUi), .ol fs, .val (.int i), x11]) _ = _
    rw [AGi_eq, DUi_eq] at e ⊢
    rw [turn_ok h i a b c d x11 fs (by omega)]
    show forGo _ _ _ _ = _
    rw [e, msks, List.map_cons, List.append_assoc]
    rfl
end Pl
/- P11 -/
/-! The plain law: tracks. -/
namespace Pl
open PySem hiding Env
open L2 Tr G
theorem all_ages_ok' : f_all_ages [.val gapsD] = .ok (.int AGi) .no := all_ages_ok
theorem due_ages_ok' : f_due_ages [.val gapsD] = .ok (.int DUi) .no := due_ages_ok
def carB (ds : List D) (k : Int) : Bool := ds.any (isCar k)
def empB (ds : List D) (k : Int) : Bool := ds.any (holdsB k)
theorem ce_apart {lo hi : Int} {ds : List D} (h : ∀ d ∈ ds, IsLk lo hi d) (ap : Apart ds) (k : Int) : ¬ (carB ds k = true ∧ empB ds k = true) := by
  rintro ⟨h1, h2⟩
  have m := (any_car h).mp h1
  obtain ⟨a, b, m2, g1, g2⟩ := (any_holds h).mp h2
  exact ap k a b m m2 ⟨g1, g2⟩
def mskD (ds : List D) (i e : Int) : List D := dN AG :: (msks (carB ds) (empB ds) AG i (e + 1 - i).toNat).map dN
section
variable {lo hi : Int} {ds : List D}
theorem masks_from_ok (h0 : 0 ≤ lo) (h1 : hi ≤ 2999) (h : ∀ d ∈ ds, IsLk lo hi d) (hl : ds.length ≤ 60) (ap : Apart ds) {i e : Int} (i0 : 0 ≤ i) (e1 : e ≤ 2999) (ie : i ≤ e) (hn : e + 1 - i ≤ 59) :
    f_masks_from [.val gapsD, .val (.tup ds), .val (.int AGi), .val (.int i), .val (.int e)] = .ok (.lst (mskD ds i e)) .no := by
  obtain ⟨ck, c1, c2⟩ := cars_in_ok h (cap_big hl)
  obtain ⟨ek, k1, k2⟩ := empty_in_ok h0 h1 h hl
  have fc : has ck = carB ds := funext c2
  have fe : has ek = empB ds := funext k2
  have ce : ∀ k, ¬ (has ck k = true ∧ has ek k = true) := fun k => by rw [fc, fe]; exact ce_apart h ap k
  obtain ⟨m', y10, y11, g⟩ := mask_go ce (.val gapsD) (.val (.tup ds)) (.val (.int i)) (.val (.int e)) (e + 1 - i).toNat AG 0 i .no .no [dN AG] good_full (by omega) (by have := cap_big (n := 60) (by omega); simp; omega)
  rw [← AGi_eq] at g
  unfold bodyM at g
  have o1 := okB_of (i := i) (by omega) (by omega)
  have o2 := okB_of (i := e + 1) (by omega) (by omega)
  have a0 : dN AG = .int AGi := rfl
  show endOf (b_masks_from [.val gapsD, .val (.tup ds), .val (.int AGi), .val (.int i), .val (.int e), .no, .no, .no, .no, .no, .no, .no]) = _
  unfold mskD
  rw [← fc, ← fe]
  rw [a0] at g ⊢
  simp [b_masks_from, c1, k1, all_ages_ok', due_ages_ok', sNewL, sFor, itRange2, o1, o2, g, eFz]
end
end Pl
/- P12 -/
/-! The plain law: tracks. -/
namespace Pl
open PySem hiding Env
open L2 Tr G
def fstI : D → Int
  | .tup [_, .int a] => a
  | .tup [_, .int a, _] => a
  | _ => 0
def lstI : D → Int
  | .tup [_, .int a] => a
  | .tup [_, _, .int a] => a
  | _ => 0
theorem lk_fl {lo hi : Int} {d : D} (h : IsLk lo hi d) : lo ≤ fstI d ∧ fstI d ≤ lstI d ∧ lstI d ≤ hi := by
  cases h with
  | c a x y => exact ⟨x, Int.le_refl _, y⟩
  | n a b x y z => exact ⟨x, y, z⟩
theorem asIs_map (f : D → Int) : ∀ ds : List D, asIs (ds.map fun d => .int (f d)) = some (ds.map f)
  | [] => rfl
  | d :: ds => by rw [List.map_cons, asIs, asIs_map f ds]; rfl
theorem fmin_le : ∀ (is : List Int) (b : Int), is.foldl min b ≤ b
  | [], b => Int.le_refl _
  | i :: is, b => Int.le_trans (fmin_le is (min b i)) (Int.min_le_left _ _)
theorem le_fmin {lo : Int} : ∀ (is : List Int) (b : Int), lo ≤ b → (∀ i ∈ is, lo ≤ i) → lo ≤ is.foldl min b
  | [], b, h, _ => h
  | i :: is, b, h, g => le_fmin is (min b i) (Int.le_min.mpr ⟨h, g i List.mem_cons_self⟩) fun j m => g j (List.mem_cons_of_mem _ m)
theorem fmax_le {hi : Int} : ∀ (is : List Int) (b : Int), b ≤ hi → (∀ i ∈ is, i ≤ hi) → is.foldl max b ≤ hi
  | [], b, h, _ => h
  | i :: is, b, h, g => fmax_le is (max b i) (Int.max_le.mpr ⟨h, g i List.mem_cons_self⟩) fun j m => g j (List.mem_cons_of_mem _ m)
theorem le_fmax : ∀ (is : List Int) (b : Int), b ≤ is.foldl max b
  | [], b => Int.le_refl _
  | i :: is, b => Int.le_trans (Int.le_max_left _ _) (le_fmax is (max b i))
def begI (ds : List D) (b : Int) : Int := (ds.map fstI).foldl min b
section
variable {lo hi : Int} {ds : List D}
theorem begI_le (b : Int) : begI ds b ≤ b := fmin_le _ _
theorem le_begI (h : ∀ d ∈ ds, IsLk lo hi d) {b : Int} (hb : lo ≤ b) : lo ≤ begI ds b := le_fmin _ _ hb fun i m => by
  obtain ⟨d, md, rfl⟩ := List.mem_map.mp m
  exact (lk_fl (h d md)).1
theorem min_beg (b : Int) : bMin [.lst (.int b :: ds.map fun d => .int (fstI d))] = some (.int (begI ds b)) := by
  show (((asIs (ds.map fun d => .int (fstI d))).map (b :: ·)).bind minI).map D.int = _
  rw [asIs_map]
  rfl
theorem track_init_ok (h0 : 0 ≤ lo) (h1 : hi ≤ 2999) (h : ∀ d ∈ ds, IsLk lo hi d) (hl : ds.length ≤ 57) (ap : Apart ds) {b e : Int} (b0 : lo ≤ b) (be : b ≤ e) (e1 : e ≤ 2999) (hn : e + 1 - lo ≤ 59) :
    f_Track_init [.oi 0 [], .val gapsD, .val (.tup ds), .val (.int b), .val (.int e)] = .ok .non (.oi 0 [.val gapsD, .val (.int (begI ds b)), .val (.lst (mskD ds (begI ds b) e))]) := by
  have l1 := begI_le (ds := ds) b
  have l2 := le_begI h b0
  have m := masks_from_ok h0 h1 h (by omega) ap (i := begI ds b) (e := e) (by omega) e1 (by omega) (by omega)
  have c := comp_all (vs := [5]) (g := gSet 5) (te := eOp vIx (eV 5) (eC (.int 1))) (ρ := [.oi 0 [.val gapsD], .val gapsD, .val (.tup ds), .val (.int b), .val (.int e), .no]) (fun d => .int (fstI d)) (xs := ds) fun x m => by
    refine ⟨[.oi 0 [.val gapsD], .val gapsD, .val (.tup ds), .val (.int b), .val (.int e), .val x], [.oi 0 [.val gapsD], .val gapsD, .val (.tup ds), .val (.int b), .val (.int e), .val x], by simp, ?_, by simp [wipeE]⟩
    rcases lk_cases (h x m) with ⟨a, rfl, _, _⟩ | ⟨a, b, rfl, h1, h2, h3⟩
    · simp [ixD, fstI]
    · simp [ixD, fstI]
  have mb := min_beg (ds := ds) b
  have cd : ds.length ≤ cap := cap_big (by omega)
  have cd1 : ds.length + 1 ≤ cap := cap_big (by omega)
  show endOf (b_Track_init [.oi 0 [], .val gapsD, .val (.tup ds), .val (.int b), .val (.int e), .no]) = _
  simp [b_Track_init, Tr.putF, lComp, cd, cd1, wipeE, c, mb, all_ages_ok', m]
/-! ### what the masks tell -/
theorem msk_ne (ap : Apart ds) (h : ∀ d ∈ ds, IsLk lo hi d) {i e : Int} (hn : e + 1 - i ≤ 59) : ∃ ms : List Nat, mskD ds i e = ms.map dN ∧ (∀ x ∈ ms, x ≠ 0) ∧ ms.length = (e + 1 - i).toNat + 1 := by
  refine ⟨AG :: msks (carB ds) (empB ds) AG i (e + 1 - i).toNat, rfl, fun x m => ?_, by rw [List.length_cons, msks_len]⟩
  rcases List.mem_cons.mp m with rfl | m
  · decide
  · exact (msks_ok (ce_apart h ap) _ AG 0 i good_full (by omega)).1 x m
theorem void_go {b : Int} {x0 : SV} : ∀ (ms : List Nat) (is : List Nat) (x1 x2 : SV), (∀ x ∈ ms, x ≠ 0) → ∃ y1 y2, forGo (gTupM 2 (gConsM (gSet 1) (gConsM (gSet 2) gNilM))) (sIf (tE (eOp vEq (eV 2) (eC (.int 0)))) (sRet (eOp vSub (eOp vAdd (eUn (fldOf 0 1) (eV 0)) (eV 1)) (eC (.int 1)))) sNil) (is.zipWith (fun i x => .tup [.int (i : Nat), x]) (ms.map dN)) [x0, x1, x2] = .ok none [x0, y1, y2]
  | [], is, x1, x2, _ => ⟨x1, x2, by cases is <;> rfl⟩
  | m :: ms, [], x1, x2, _ => ⟨x1, x2, rfl⟩
  | m :: ms, i :: is, x1, x2, h => by
    obtain ⟨y1, y2, e⟩ := void_go (b := b) (x0 := x0) ms is (.val (.int (i : Nat))) (.val (dN m)) fun x k => h x (List.mem_cons_of_mem _ k)
    refine ⟨y1, y2, ?_⟩
    have nz : ¬ (m : Int) = 0 := by have := h m List.mem_cons_self; omega
    have q : vEq (dN m) (.int 0) = some (.bl false) := by
      show vEq (.int (m : Int)) (.int 0) = _
      rw [v_eqI, decide_eq_false nz]
    rw [List.map_cons, List.zipWith_cons_cons, forGo]
    simp [q, e]
theorem first_void_ok {g b : D} {ms : List Nat} (h : ∀ x ∈ ms, x ≠ 0) : f_Track_first_void [.val (.obj 0 [g, b, .lst (ms.map dN)])] = .ok .non .no := by
  obtain ⟨y1, y2, e⟩ := void_go (b := 0) (x0 := .val (.obj 0 [g, b, .lst (ms.map dN)])) ms (List.range ms.length) .no .no h
  show endOf (b_Track_first_void [.val (.obj 0 [g, b, .lst (ms.map dN)]), .no, .no]) = _
  simp [b_Track_first_void, sFor, itEnum, enumD, e]
theorem is_possible_ok (h0 : 0 ≤ lo) (h1 : hi ≤ 2999) (h : ∀ d ∈ ds, IsLk lo hi d) (hl : ds.length ≤ 57) (ap : Apart ds) (hn : hi + 1 - lo ≤ 59) : f_is_possible [.val gapsD, .val (.tup ds)] = .ok (.bl true) .no := by
  have cd : ds.length ≤ cap := cap_big (by omega)
  show endOf (b_is_possible [.val gapsD, .val (.tup ds)]) = _
  cases ds with
  | nil => simp [b_is_possible]
  | cons d ds =>
    obtain ⟨bb, ebb⟩ : ∃ bb, bb = begI ds (fstI d) := ⟨_, rfl⟩
    obtain ⟨ee, eee⟩ : ∃ ee, ee = (ds.map lstI).foldl max (lstI d) := ⟨_, rfl⟩
    have hd := lk_fl (h d List.mem_cons_self)
    have ht : ∀ x ∈ ds, IsLk lo hi x := fun x m => h x (List.mem_cons_of_mem _ m)
    have l1 : lo ≤ bb := by rw [ebb]; exact le_begI ht hd.1
    have l2 : bb ≤ fstI d := by rw [ebb]; exact begI_le _
    have l3 : lstI d ≤ ee := by rw [eee]; exact le_fmax _ _
    have l4 : ee ≤ hi := by
      rw [eee]
      exact fmax_le _ _ hd.2.2 fun i m => by
        obtain ⟨x, mx, rfl⟩ := List.mem_map.mp m
        exact (lk_fl (ht x mx)).2.2
    have c1 := comp_all (vs := [1]) (g := gSet 1) (te := eB bInt (lCons (eOp vIx (eV 1) (eC (.int 1))) lNil)) (ρ := [.val (.tup (d :: ds)), .no]) (fun d => .int (fstI d)) (xs := d :: ds) fun x m => by
      refine ⟨[.val (.tup (d :: ds)), .val x], [.val (.tup (d :: ds)), .val x], by simp, ?_, by simp [wipeE]⟩
      rcases lk_cases (h x m) with ⟨a, rfl, _, _⟩ | ⟨a, b, rfl, h1, h2, h3⟩
      · simp [ixD, fstI]
      · simp [ixD, fstI]
    have c2 := comp_all (vs := [1]) (g := gSet 1) (te := eB bInt (lCons (eOp vIx (eV 1) (eUn vNeg (eC (.int 1)))) lNil)) (ρ := [.val (.tup (d :: ds)), .no]) (fun d => .int (lstI d)) (xs := d :: ds) fun x m => by
      refine ⟨[.val (.tup (d :: ds)), .val x], [.val (.tup (d :: ds)), .val x], by simp, ?_, by simp [wipeE]⟩
      rcases lk_cases (h x m) with ⟨a, rfl, _, _⟩ | ⟨a, b, rfl, h1, h2, h3⟩
      · simp [ixD, lstI]
      · simp [ixD, lstI]
    have f1 : f_first_looked [.val (.tup (d :: ds))] = .ok (.int bb) .no := by
      show endOf (b_first_looked [.val (.tup (d :: ds)), .no]) = _
      have mb := min_beg (ds := ds) (fstI d)
      rw [← ebb] at mb
      rw [List.map_cons] at c1
      simp only [List.length_cons] at cd
      simp [b_first_looked, lComp, cd, wipeE, c1, mb]
    have f2 : f_last_looked [.val (.tup (d :: ds))] = .ok (.int ee) .no := by
      show endOf (b_last_looked [.val (.tup (d :: ds)), .no]) = _
      have mb : bMax [.lst (.int (lstI d) :: ds.map fun d => .int (lstI d))] = some (.int ee) := by
        show (((asIs (ds.map fun d => .int (lstI d))).map (lstI d :: ·)).bind maxI).map D.int = _
        rw [asIs_map, eee]
        rfl
      rw [List.map_cons] at c2
      simp only [List.length_cons] at cd
      simp [b_last_looked, lComp, cd, wipeE, c2, mb]
    have t := track_init_ok h0 h1 h hl ap (b := bb) (e := ee) l1 (by omega) (by omega) (by omega)
    have lb := le_begI h l1
    obtain ⟨ms, em, nz, _⟩ := msk_ne ap h (i := begI (d :: ds) bb) (e := ee) (by omega)
    rw [em] at t
    have nl : ¬ ((ds.length : Int) + 1 = 0) := by omega
    simp [b_is_possible, f1, f2, t, nl, first_void_ok nz]
end
end Pl
/- P13 -/
/-! The plain law: ages. -/
namespace Pl
open PySem hiding Env
open L2 Tr G
theorem bits_lt {m b : Nat} (h : m.testBit b = true) : b < Builtin.Int.intBits (m : Int) := by
  unfold Builtin.Int.intBits
  have ne : m ≠ 0 := by rintro rfl; rw [Nat.zero_testBit] at h; cases h
  have : ((m : Int) == 0) = false := by
    rw [beq_eq_false_iff_ne]
    omega
  rw [this, Int.natAbs_natCast]
  show b < m.log2 + 1
  by_cases l : b < m.log2 + 1
  · exact l
  · exfalso
    have h2 : m < 2 ^ b := Nat.lt_of_lt_of_le (Nat.lt_log2_self) (Nat.pow_le_pow_right (by decide) (by omega))
    rw [Nat.testBit_lt_two_pow h2] at h
    cases h
theorem bits_le {m : Nat} (h : m < 2 ^ 60) : Builtin.Int.intBits (m : Int) ≤ 60 := by
  unfold Builtin.Int.intBits
  rw [Int.natAbs_natCast]
  split
  · omega
  · rename_i z
    have ne : m ≠ 0 := by rintro rfl; exact z rfl
    have := (Nat.log2_lt ne).mpr h
    omega
def ageF (m : Nat) (x : D) : Option D := match x with
  | .int k => if m.testBit k.toNat = true then some x else none
  | _ => none
def agesL (m : Nat) : List D := (rangeD 0 (Builtin.Int.intBits (m : Int))).filterMap (ageF m)
theorem mem_ages {m : Nat} {y : D} : y ∈ agesL m ↔ ∃ b : Nat, m.testBit b = true ∧ y = .int b := by
  unfold agesL rangeD
  rw [List.mem_filterMap]
  constructor
  · rintro ⟨x, hx, e⟩
    obtain ⟨k, _, rfl⟩ := List.mem_map.mp hx
    unfold ageF at e
    simp only at e
    have z : (0 + (k : Int)).toNat = k := by omega
    rw [z] at e
    cases q : m.testBit k with
    | true =>
      rw [q] at e
      cases e
      exact ⟨k, q, by rw [Int.zero_add]⟩
    | false => rw [q] at e; cases e
  · rintro ⟨b, h, rfl⟩
    refine ⟨.int b, List.mem_map.mpr ⟨b, List.mem_range.mpr (bits_lt h), by rw [Int.zero_add]⟩, ?_⟩
    unfold ageF
    simp [h]
theorem bitAt (m k : Nat) : ∃ x : Nat, vShr (.int (m : Int)) (.int (k : Int)) = some (.int (x : Int)) ∧ vAnd (.int (x : Int)) (.int 1) = some (.int (if m.testBit k = true then 1 else 0)) := by
  refine ⟨m / 2 ^ k, ?_, ?_⟩
  · show (if (0 : Int) ≤ k then some (D.int ((m : Int) / 2 ^ (k : Int).toNat)) else none) = _
    rw [if_pos (by omega), Int.toNat_natCast]
    congr 2
  · have := v_andN (m / 2 ^ k) 1
    rw [show ((1 : Nat) : Int) = 1 from rfl] at this
    rw [this, Nat.and_one_is_mod, Nat.testBit_eq_decide_div_mod_eq]
    congr 2
    rcases Nat.mod_two_eq_zero_or_one (m / 2 ^ k) with e | e <;> rw [e] <;> rfl
theorem ages_in_ok {m : Nat} (h : m < 2 ^ 60) : f_ages_in [.val (dN m)] = .ok (.tup (agesL m)) .no := by
  have bl := bits_le h
  have c := comp_map (vs := [1]) (g := gSet 1) (tt := tE (eOp vEq (eOp vAnd (eOp vShr (eV 0) (eV 1)) (eC (.int 1))) (eC (.int 1)))) (te := eV 1) (ρ := [.val (dN m), .no]) (ageF m) (xs := rangeD 0 (Builtin.Int.intBits (m : Int))) fun x mx => by
    unfold rangeD at mx
    obtain ⟨k, _, rfl⟩ := List.mem_map.mp mx
    obtain ⟨y, e1, e2⟩ := bitAt m k
    have z : (0 + (k : Int)) = k := by omega
    rw [z]
    have e0 : dN m = .int (m : Int) := rfl
    cases q : m.testBit k with
    | true =>
      rw [q] at e2
      refine ⟨[.val (dN m), .val (.int k)], true, [.val (dN m), .val (.int k)], by simp, ?_, (fun z => by cases z), fun _ => ⟨.int k, [.val (dN m), .val (.int k)], by simp, by simp [wipeE], by simp [ageF, q]⟩⟩
      simp only [s_tE, s_eOp, s_eV, s_eC, List.getElem?_cons_succ, List.getElem?_cons_zero, bnd_ok, e0, e1, optR_some, e2, if_true]
      rfl
    | false =>
      rw [q] at e2
      refine ⟨[.val (dN m), .val (.int k)], false, [.val (dN m), .val (.int k)], by simp, ?_, (fun _ => ⟨by simp [wipeE], by simp [ageF, q]⟩), fun z => by cases z⟩
      simp only [s_tE, s_eOp, s_eV, s_eC, List.getElem?_cons_succ, List.getElem?_cons_zero, bnd_ok, e0, e1, optR_some, e2, if_false, Bool.false_eq_true]
      rfl
  have mb : mBits (dN m) = some (.int (Builtin.Int.intBits (m : Int) : Nat)) := rfl
  have rl : (rangeD 0 (Builtin.Int.intBits (m : Int))).length ≤ cap := by
    unfold rangeD
    rw [List.length_map, List.length_range]
    exact cap_big bl
  have o := okB_of (i := (Builtin.Int.intBits (m : Int) : Nat)) (by omega) (by omega)
  show endOf (b_ages_in [.val (dN m), .no]) = _
  unfold agesL
  simp [b_ages_in, lComp, mb, itRange1, o, rl, wipeE, c]
section
variable {lo hi t : Int} {ds : List D}
theorem up_go {x0 : SV} : ∀ (ds : List D) (fs : List D) (x3 : SV), (∀ d ∈ ds, IsLk lo t d) → fs.length + ds.length ≤ cap → ∃ y3, forGo (gSet 3) (sIf (tE (eOp vLe (eOp vIx (eV 3) (eC (.int 1))) (eV 1))) (sExpr (eStepO 2 appL (eIf (tE (eOp vEq (eOp vIx (eV 3) (eC (.int 0))) (eC (.str "came")))) (eV 3) (eTup (lCons (eC (.str "none")) (lCons (eOp vIx (eV 3) (eC (.int 1))) (lCons (eB bMin (lCons (eOp vIx (eV 3) (eC (.int 2))) (lCons (eV 1) lNil))) lNil))))))) sNil) ds [x0, .val (.int t), .ol fs, x3] = .ok none [x0, .val (.int t), .ol (fs ++ ds), y3]
  | [], fs, x3, _, _ => ⟨x3, by rw [List.append_nil]; rfl⟩
  | d :: ds, fs, x3, h, hl => by
    rw [List.length_cons] at hl
    obtain ⟨y3, e⟩ := up_go (x0 := x0) ds (fs ++ [d]) (.val d) (fun x m => h x (List.mem_cons_of_mem _ m)) (by simp; omega)
    refine ⟨y3, ?_⟩
    have c1 : fs.length < cap := by omega
    rw [List.append_assoc] at e
    rw [forGo]
    rcases lk_cases (h d List.mem_cons_self) with ⟨a, rfl, g1, g2⟩ | ⟨a, b, rfl, g1, g2, g3⟩
    · simp [ixD, g2, olAt, eStepO, stepO, appL, c1]
      exact e
    · have k1 : a ≤ t := by omega
      have k2 : bMin [.int b, .int t] = some (.int b) := by
        show some (D.int (if t < b then t else b)) = _
        rw [if_neg (by omega)]
      simp [ixD, k1, k2, olAt, eStepO, stepO, appL, c1]
      exact e
theorem up_to_ok (h : ∀ d ∈ ds, IsLk lo t d) (hl : ds.length ≤ cap) : f_up_to [.val (.tup ds), .val (.int t)] = .ok (.tup ds) .no := by
  obtain ⟨y3, e⟩ := up_go (x0 := .val (.tup ds)) ds [] .no h (by simpa using hl)
  have c0 : (0 : Nat) ≤ cap := Nat.zero_le _
  show endOf (b_up_to [.val (.tup ds), .val (.int t), .no, .no]) = _
  simp [b_up_to, sNewL, sFor, c0, e, eFz]
theorem mask_at_ok (b : Int) {ms : List Nat} {x : Nat} (n : Nat) (hx : ms[n]? = some x) (hb : t + 1 - b = n) : f_Track_mask_at [.val (.obj 0 [gapsD, .int b, .lst (ms.map dN)]), .val (.int t)] = .ok (dN x) .no := by
  have m : bMax [.int 0, .int (t - b + 1)] = some (.int (n : Int)) := by
    show some (D.int (if t - b + 1 > 0 then t - b + 1 else 0)) = _
    congr 2
    split <;> omega
  have hn : n < ms.length := (List.getElem?_eq_some_iff.mp hx).1
  have i : ixD (ms.map dN).length (n : Int) = some n := by
    unfold ixD
    rw [List.length_map, if_pos (by omega), if_pos (by omega), Int.toNat_natCast]
  show endOf (b_Track_mask_at [.val (.obj 0 [gapsD, .int b, .lst (ms.map dN)]), .val (.int t)]) = _
  simp only [List.length_map] at i
  simp [b_Track_mask_at, m, i, hx]
theorem book_ages_ok (h0 : 0 ≤ lo) (h1 : t ≤ 2999) (lt : lo ≤ t) (h : ∀ d ∈ ds, IsLk lo t d) (hl : ds.length ≤ 57) (ap : Apart ds) (hn : t + 1 - lo ≤ 59) :
    ∃ m' j', Good m' j' ∧ j' ≤ 58 ∧ f_Book_ages [.val (.obj 1 [gapsD, .tup ds]), .val (.int t)] = .ok (.tup (agesL (stepN (carB ds t) (empB ds t) m'))) .no := by
  obtain ⟨b, eb⟩ : ∃ b, b = begI ds t := ⟨_, rfl⟩
  have l1 : b ≤ t := by rw [eb]; exact begI_le _
  have l2 : lo ≤ b := by rw [eb]; exact le_begI h lt
  have tr := track_init_ok h0 h1 h hl ap (b := t) (e := t) lt (Int.le_refl _) h1 hn
  rw [← eb] at tr
  obtain ⟨n, en⟩ : ∃ n, (t + 1 - b).toNat = n + 1 := ⟨(t - b).toNat, by omega⟩
  obtain ⟨_, k⟩ := msks_ok (ce_apart h ap) (n + 1) AG 0 b good_full (by omega)
  have ln := msks_len (C := carB ds) (E := empB ds) (n + 1) AG b
  obtain ⟨x, hx⟩ : ∃ x, (msks (carB ds) (empB ds) AG b (n + 1))[n]? = some x := by
    cases q : (msks (carB ds) (empB ds) AG b (n + 1))[n]? with
    | some x => exact ⟨x, rfl⟩
    | none => rw [List.getElem?_eq_none_iff, ln] at q; omega
  obtain ⟨m', j', g1, g2, g3⟩ := k x hx
  rw [show b + ((n + 1 : Nat) : Int) - 1 = t by omega] at g3
  have em : mskD ds b t = (AG :: msks (carB ds) (empB ds) AG b (n + 1)).map dN := by unfold mskD; rw [en]; rfl
  rw [em] at tr
  have ma := mask_at_ok (t := t) b (ms := AG :: msks (carB ds) (empB ds) AG b (n + 1)) (x := x) (n + 1) hx (by omega)
  have gx := (step_good g1 g2 (ce_apart h ap t)).1
  rw [← g3] at gx
  have ag := ages_in_ok gx.lt
  refine ⟨m', j', g1, g2, ?_⟩
  rw [← g3]
  have up := up_to_ok h (cap_big (by omega))
  have im : f_is_minute [.val (.int t)] = .ok (.bl true) .no := by
    rw [is_minute_ok, decide_eq_true]
    omega
  show endOf (b_Book_ages [.val (.obj 1 [gapsD, .tup ds]), .val (.int t), .no]) = _
  simp only [List.map_cons] at tr ma
  simp [b_Book_ages, im, up, tr, ma, ag]
end
end Pl
/- P14 -/
/-! The plain law: what is asked of what was seen. -/
namespace Pl
open PySem hiding Env
open L2 Tr G
abbrev seenD (T A B L : Str) (ds : List D) : D := .obj 2 [netD T A B L, .tup (ds.map (pr L))]
abbrev carsD (L : Str) (c : Bool) : D := .tup (if c = true then [.str L] else [])
theorem anyEq_int (i : Int) : ∀ ys : List D, (∀ y ∈ ys, ∃ b : Nat, y = .int b) → ∃ b, anyEq (.int i) ys = some b ∧ (b = true ↔ D.int i ∈ ys)
  | [], _ => ⟨false, rfl, by simp⟩
  | y :: ys, h => by
    obtain ⟨b, e, f⟩ := anyEq_int i ys fun z m => h z (List.mem_cons_of_mem _ m)
    obtain ⟨k, rfl⟩ := h y List.mem_cons_self
    refine ⟨decide ((k : Int) = i) || b, ?_, ?_⟩
    · show (anyEq (.int i) ys).map (decide ((k : Int) = i) || ·) = _
      rw [e]; rfl
    · rw [Bool.or_eq_true, f, List.mem_cons, decide_eq_true_iff]
      constructor
      · rintro (rfl | m)
        · exact .inl rfl
        · exact .inr m
      · rintro (e | m)
        · injection e with e
          exact .inl e.symm
        · exact .inr m
def posB : D → Bool
  | .int i => decide (0 < i)
  | _ => false
section
variable (T A B L : Str) {lo hi t : Int} {ds : List D}
theorem check_lines_ok (h0 : 0 ≤ lo) (h1 : hi ≤ 2999) (h : Srt lo hi ds) (hl : ds.length ≤ 57) (ap : Apart ds) (hn : hi + 1 - lo ≤ 59) : f_Seen_check_lines [.val (seenD T A B L ds)] = .ok .non .no := by
  have g := seen_getitem_ok T A B L (h.mono h0 h1) (by omega)
  have p := is_possible_ok h0 h1 h.lk hl ap hn
  show endOf (b_Seen_check_lines [.val (seenD T A B L ds), .no, .no]) = _
  simp [b_Seen_check_lines, sFor, lines_ok, forGo, g, book_gaps_ok, book_looks_ok, p]
theorem late_go {x0 x2 : SV} : ∀ (ds : List D) (x3 : SV), (∀ d ∈ ds, IsLk lo t d) → ∃ y3, forGo (gSet 3) (sIf (tE (eOp vGt (eOp vIx (eV 3) (eUn vNeg (eC (.int 1)))) (eV 1))) (fun _ => .bad) sNil) ds [x0, .val (.int t), x2, x3] = .ok none [x0, .val (.int t), x2, y3]
  | [], x3, _ => ⟨x3, rfl⟩
  | d :: ds, x3, h => by
    obtain ⟨y3, e⟩ := late_go (x0 := x0) (x2 := x2) ds (.val d) fun x m => h x (List.mem_cons_of_mem _ m)
    refine ⟨y3, ?_⟩
    rw [forGo]
    rcases lk_cases (h d List.mem_cons_self) with ⟨a, rfl, g1, g2⟩ | ⟨a, b, rfl, g1, g2, g3⟩
    · have : ¬ t < a := by omega
      simp [ixD, this, e]
    · have : ¬ t < b := by omega
      simp [ixD, this, e]
theorem check_late_ok (h0 : 0 ≤ lo) (h1 : t ≤ 2999) (h : Srt lo t ds) (hl : ds.length ≤ 57) (ap : Apart ds) (hn : t + 1 - lo ≤ 59) : f_check_late [.val (seenD T A B L ds), .val (.int t)] = .ok .non .no := by
  have g := seen_getitem_ok T A B L (h.mono h0 h1) (by omega)
  have c := check_lines_ok T A B L h0 h1 h hl ap hn
  obtain ⟨y3, e⟩ := late_go (x0 := .val (seenD T A B L ds)) (x2 := .val (.str L)) ds .no h.lk
  show endOf (b_check_late [.val (seenD T A B L ds), .val (.int t), .no, .no]) = _
  simp [b_check_late, c, sFor, seen_net_ok, lines_ok, forGo, g, book_looks_ok, e]
theorem check_cars_ok (c : Bool) : f_check_cars [.val (netD T A B L), .val (.str A), .val (carsD L c)] = .ok .non .no := by
  have r0 : f_do_rise [.val (.tup [])] = .ok (.bl true) .no := do_rise_ok (Nat.zero_le _) List.Pairwise.nil
  have r1 : f_do_rise [.val (.tup [.str L])] = .ok (.bl true) .no := do_rise_ok cap_1 (List.pairwise_singleton _ _)
  have a0 : bAll [.lst []] = some (.bl true) := rfl
  have a1 : bAll [.lst [.bl true]] = some (.bl true) := rfl
  cases c with
  | true =>
    show endOf (b_check_cars [.val (netD T A B L), .val (.str A), .val (.tup [.str L]), .no, .no]) = _
    simp [b_check_cars, leaving_ok, lComp, compGo, wipeE, r1, a1]
  | false =>
    show endOf (b_check_cars [.val (netD T A B L), .val (.str A), .val (.tup []), .no, .no]) = _
    simp [b_check_cars, leaving_ok, lComp, compGo, wipeE, r0, a0]
theorem can_be_ok (h0 : 0 ≤ lo) (h1 : t ≤ 2999) (lt : lo ≤ t) (h : Srt lo t ds) (hl : ds.length ≤ 57) (ap : Apart ds) (hn : t + 1 - lo ≤ 59) (c : Bool) (k1 : carB ds t = false) (k2 : c = true → empB ds t = false) :
    f_can_be [.val (seenD T A B L ds), .val (.str A), .val (.int t), .val (carsD L c)] = .ok (.bl true) .no := by
  have g := seen_getitem_ok T A B L (h.mono h0 h1) (by omega)
  obtain ⟨m', j', g1, g2, g3⟩ := book_ages_ok h0 h1 lt h.lk hl ap hn
  obtain ⟨gm, s1, s2⟩ := step_good g1 g2 (ce_apart h.lk ap t)
  obtain ⟨m, em⟩ : ∃ m, m = stepN (carB ds t) (empB ds t) m' := ⟨_, rfl⟩
  rw [← em] at g3 gm s1 s2
  have ai : ∀ y ∈ agesL m, ∃ b : Nat, y = .int b := fun y hy => by
    obtain ⟨b, _, e⟩ := mem_ages.mp hy
    exact ⟨b, e⟩
  cases c with
  | true =>
    obtain ⟨b, e, f⟩ := anyEq_int 0 (agesL m) ai
    have : b = true := f.mpr (mem_ages.mpr ⟨0, s2 k1 (k2 rfl), rfl⟩)
    subst this
    show endOf (b_can_be [.val (seenD T A B L ds), .val (.str A), .val (.int t), .val (.tup [.str L]), .no, .no, .no]) = _
    simp [b_can_be, sFor, seen_net_ok, leaving_ok, forGo, g, g3, e]
  | false =>
    have c := comp_all (vs := [6]) (g := gSet 6) (te := eOp vGt (eV 6) (eC (.int 0))) (ρ := [.val (seenD T A B L ds), .val (.str A), .val (.int t), .val (.tup []), .val (.str L), .val (.tup (agesL m)), .no]) (fun y => .bl (posB y)) (xs := agesL m) fun x hx => by
      obtain ⟨b, rfl⟩ := ai x hx
      exact ⟨[.val (seenD T A B L ds), .val (.str A), .val (.int t), .val (.tup []), .val (.str L), .val (.tup (agesL m)), .val (.int b)], [.val (seenD T A B L ds), .val (.str A), .val (.int t), .val (.tup []), .val (.str L), .val (.tup (agesL m)), .val (.int b)], by simp, by simp [posB], by simp [wipeE]⟩
    have e : bAny [.lst ((agesL m).map fun y => D.bl (posB y))] = some (.bl true) := by
      show (asBs ((agesL m).map fun y => D.bl (posB y))).map _ = _
      rw [asBs_map]
      have : ((agesL m).map posB).any id = true := by
        rw [List.any_eq_true]
        obtain ⟨b, b1, _, b3⟩ := s1 k1
        refine ⟨true, List.mem_map.mpr ⟨_, mem_ages.mpr ⟨b, b3, rfl⟩, ?_⟩, rfl⟩
        show decide ((0 : Int) < b) = true
        exact decide_eq_true (by omega)
      simp [this]
    have al : (agesL m).length ≤ cap := by
      unfold agesL
      refine Nat.le_trans (List.length_filterMap_le _ _) ?_
      unfold rangeD
      rw [List.length_map, List.length_range]
      exact cap_big (bits_le gm.lt)
    show endOf (b_can_be [.val (seenD T A B L ds), .val (.str A), .val (.int t), .val (.tup []), .no, .no, .no]) = _
    simp [b_can_be, sFor, seen_net_ok, leaving_ok, forGo, g, g3, lComp, al, wipeE, c, e]
theorem toPs_pairs : ∀ {xs : List D}, (∀ d ∈ xs, IsLk lo hi d) → ∃ ps, toPs (xs.map (pr L)) = some ps ∧ ∀ p ∈ ps, ∃ d q, d ∈ xs ∧ toP d = some q ∧ p = .tuple [.str L, q] ∧ q.depth ≤ 1
  | [], _ => ⟨[], rfl, fun _ m => (nomatch m)⟩
  | d :: xs, h => by
    obtain ⟨ps, e, f⟩ := toPs_pairs (xs := xs) fun x m => h x (List.mem_cons_of_mem _ m)
    obtain ⟨p, t1, t2⟩ : ∃ p, toP d = some p ∧ p.depth ≤ 1 := by
      cases h d List.mem_cons_self with
      | c a x y => exact ⟨_, rfl, by simp [PyData.depth, PyData.depthAll]⟩
      | n a b x y z => exact ⟨_, rfl, by simp [PyData.depth, PyData.depthAll]⟩
    refine ⟨.tuple [.str L, p] :: ps, by rw [List.map_cons, toPs, toP_pr t1, e]; rfl, fun q m => ?_⟩
    rcases List.mem_cons.mp m with rfl | m
    · exact ⟨d, p, List.mem_cons_self, t1, rfl, t2⟩
    · obtain ⟨d', q', m1, m2, m3⟩ := f q m
      exact ⟨d', q', List.mem_cons_of_mem _ m1, m2, m3⟩
/-- pairs in order are sorted as they are -/
theorem sorted_pairs (h : Srt lo hi ds) (hl : ds.length ≤ cap) : bSorted [.lst (ds.map (pr L))] = some (.lst (ds.map (pr L))) := by
  obtain ⟨ps, e1, e2⟩ := toPs_pairs L h.lk
  have al : allAlike ps = true := by
    unfold allAlike
    rw [List.all_eq_true]
    intro p hp
    rw [List.all_eq_true]
    intro q hq
    obtain ⟨d, p', hd, t1, rfl, _⟩ := e2 p hp
    obtain ⟨e, q', he, t2, rfl, _⟩ := e2 q hq
    obtain ⟨p2, q2, u1, u2, al, _⟩ := lk_two (h.lk d hd) (h.lk e he)
    rw [t1] at u1; rw [t2] at u2
    cases u1; cases u2
    simp [W.alike, W.alikeAll, al]
  have so : sortable ps = true := by
    unfold sortable
    rw [Bool.or_eq_true]
    left
    rw [List.all_eq_true]
    intro p hp
    obtain ⟨_, q, _, _, rfl, _⟩ := e2 p hp
    rfl
  have dp : ∀ p ∈ ps, p.depth ≤ 60 := fun p hp => by
    obtain ⟨_, q, _, _, rfl, h1⟩ := e2 p hp
    simp [PyData.depth, PyData.depthAll]
    omega
  have ms : (ds.map (pr L)).mergeSort leD = ds.map (pr L) := List.mergeSort_of_pairwise (h.pairs L)
  show (toPs (ds.map (pr L))).bind _ = _
  rw [e1]
  simp [al, so, hl, ms]
  exact dp
/-- looks put, all is well -/
theorem looked_of {ds' : List D} (h0 : 0 ≤ lo) (h1 : t ≤ 2999) (lt : lo ≤ t) (h : Srt lo t ds) (hl : ds.length ≤ 57) (ap : Apart ds) (hn : t + 1 - lo ≤ 59) (c : Bool) (k1 : carB ds t = false) (k2 : c = true → empB ds t = false)
    (pt : f_put_to [.val (.tup ds), .val (.int t), .val (.bl c)] = .ok (.tup ds') .no) (h' : Srt lo t ds') (hl' : ds'.length ≤ 60) :
    f_looked [.val (seenD T A B L ds), .val (.str A), .val (.int t), .val (carsD L c)] = .ok (seenD T A B L ds') .no := by
  have cc := check_cars_ok T A B L c
  have cb := can_be_ok T A B L h0 h1 lt h hl ap hn c k1 k2
  have si := seen_init_ok T A B L (h'.mono h0 h1) hl'
  have so := sorted_pairs L h' (cap_big hl')
  have la := looks_at_ok (ds := ds) L (cap_big (by omega))
  have c1 : ∀ cd : D, compGo [7] (gSet 7) (tE (eOp vNotIn (eOp vIx (eV 7) (eC (.int 0))) (eMeth 7 f_Net_leaving (eProp 2 f_Seen_net (eV 0)) (lCons (eV 1) lNil)))) (eV 7) (ds.map (pr L)) [.val (seenD T A B L ds), .val (.str A), .val (.int t), .val cd, .no, .no, .no, .no, .no] = .ok [] [.val (seenD T A B L ds), .val (.str A), .val (.int t), .val cd, .no, .no, .no, .no, .no] := fun cd => by
    rw [comp_map (fun _ => none) fun x m => ?_]
    · congr 1
      induction ds.map (pr L) with
      | nil => rfl
      | cons x xs ih => rw [List.filterMap_cons_none rfl, ih]
    · obtain ⟨d, _, rfl⟩ := List.mem_map.mp m
      exact ⟨[.val (seenD T A B L ds), .val (.str A), .val (.int t), .val cd, .no, .no, .no, .val (pr L d), .no], false, [.val (seenD T A B L ds), .val (.str A), .val (.int t), .val cd, .no, .no, .no, .val (pr L d), .no], by simp, by simp [ixD, seen_net_ok, leaving_ok], (fun _ => ⟨by simp [wipeE], rfl⟩), fun z => by cases z⟩
  have c2 : ∀ (cd : D), compGo [8] (gSet 8) tYesM (eTup (lCons (eV 5) (lCons (eV 8) lNil))) ds' [.val (seenD T A B L ds), .val (.str A), .val (.int t), .val cd, .ol [], .val (.str L), .val (.tup ds'), .no, .no] = .ok (ds'.map (pr L)) [.val (seenD T A B L ds), .val (.str A), .val (.int t), .val cd, .ol [], .val (.str L), .val (.tup ds'), .no, .no] := fun cd =>
    comp_all (pr L) fun x m => ⟨[.val (seenD T A B L ds), .val (.str A), .val (.int t), .val cd, .ol [], .val (.str L), .val (.tup ds'), .no, .val x], [.val (seenD T A B L ds), .val (.str A), .val (.int t), .val cd, .ol [], .val (.str L), .val (.tup ds'), .no, .val x], by simp, by simp, by simp [wipeE]⟩
  have n60 : ¬ (60 : Int) < ds'.length := by omega
  have cd1 : ds.length ≤ cap := cap_big (by omega)
  have cd2 : ds'.length ≤ cap := cap_big hl'
  cases c with
  | true => 
    have c1' := c1 (.tup [.str L])
    have c2' := c2 (.tup [.str L])
    have cc : f_check_cars [.val (netD T A B L), .val (.str A), .val (.tup [.str L])] = .ok .non .no := cc
    have cb : f_can_be [.val (seenD T A B L ds), .val (.str A), .val (.int t), .val (.tup [.str L])] = .ok (.bl true) .no := cb
    show endOf (b_looked [.val (seenD T A B L ds), .val (.str A), .val (.int t), .val (.tup [.str L]), .no, .no, .no, .no, .no]) = _
    simp [b_looked, sFor, seen_net_ok, seen_looks_ok, leaving_ok, cc, cb, sNewL, lComp, cd1, wipeE, c1', forGo, la, pt, n60, eExtO, olAt, stepO, cd2, c2', eFz, so, si]
  | false =>
    have c1' := c1 (.tup [])
    have c2' := c2 (.tup [])
    have cc : f_check_cars [.val (netD T A B L), .val (.str A), .val (.tup [])] = .ok .non .no := cc
    have cb : f_can_be [.val (seenD T A B L ds), .val (.str A), .val (.int t), .val (.tup [])] = .ok (.bl true) .no := cb
    show endOf (b_looked [.val (seenD T A B L ds), .val (.str A), .val (.int t), .val (.tup []), .no, .no, .no, .no, .no]) = _
    simp [b_looked, sFor, seen_net_ok, seen_looks_ok, leaving_ok, cc, cb, sNewL, lComp, cd1, wipeE, c1', forGo, la, pt, n60, eExtO, olAt, stepO, cd2, c2', eFz, so, si]
end
end Pl
/- P15 -/
/-! The plain law: the day. -/
namespace Pl
open PySem hiding Env
open L2 Tr G
def lineNames : List Str := ["red", "blue", "line", "stay", "walk", "ride", "came", "none", "b", "look"]
def stopNames : List Str := ["home", "park", "town", "stops", "way", "line", "to", "zzzzzzzz", "look", "day", "a"]
theorem line_facts : ∀ L ∈ lineNames, L.length ≤ 8 ∧ PyData.strOk L = true ∧ (L.cps.toList.all fun c => decide (c < 16 ^ 8)) = true := by decide +kernel
theorem stop_facts : ∀ L ∈ stopNames, L.length ≤ 8 := by decide +kernel
theorem cap_n {n : Nat} (h : n ≤ 1000) : n ≤ cap := by unfold cap; omega
theorem cap_l {n : Nat} (h : n < 1000) : n < cap := by unfold cap; omega
section
variable {T A B L : Str} {lo hi t : Int} {ds : List D}
theorem ne_cars (hL : L ∈ lineNames) (c : Bool) : vNe (carsD L c) (.tup []) = some (.bl c) := by
  have hf := (line_facts L hL).2.1
  show (eqD (carsD L c) (.tup [])).map _ = _
  have t2 : toP (.tup []) = some (.tuple []) := rfl
  have s2 : SeqAt.shaped (.tuple []) = true := by
    unfold SeqAt.shaped
    simp [PyData.canLay0, PyData.canLayAll0, PyData.depth, PyData.depthAll]
  cases c with
  | false =>
    show (eqD (.tup []) (.tup [])).map _ = _
    unfold eqD
    rw [t2]
    show (if (false && false) = true then _ else if SeqAt.shaped (.tuple []) && SeqAt.shaped (.tuple []) then some (PyData.eqv (.tuple []) (.tuple [])) else none : Option Bool).map _ = _
    rw [s2]
    simp [PyData.eqv, PyData.eqvAll]
  | true =>
    have t1 : toP (.tup [.str L]) = some (.tuple [.str L]) := rfl
    have s1 : SeqAt.shaped (.tuple [.str L]) = true := by
      unfold SeqAt.shaped
      simp [PyData.canLay0, PyData.canLayAll0, hf, PyData.depth, PyData.depthAll]
    show (eqD (.tup [.str L]) (.tup [])).map _ = _
    unfold eqD
    rw [t1, t2]
    show (if (false && false) = true then _ else if SeqAt.shaped (.tuple [.str L]) && SeqAt.shaped (.tuple []) then some (PyData.eqv (.tuple [.str L]) (.tuple [])) else none : Option Bool).map _ = _
    rw [s1, s2]
    simp [PyData.eqv, PyData.eqvAll]
theorem cars_text_ok (hL : L ∈ lineNames) (c : Bool) : ∃ x : Str, f_cars_text [.val (carsD L c)] = .ok (.str x) .no ∧ x.length ≤ 8 := by
  have ne := ne_cars hL c
  have ll := (line_facts L hL).1
  cases c with
  | true =>
    refine ⟨L, ?_, ll⟩
    show endOf (b_cars_text [.val (.tup [.str L])]) = _
    have ne : vNe (.tup [.str L]) (.tup []) = some (.bl true) := ne
    have j : mJoin (.str ",") (.tup [.str L]) = some (.str L) := by
      show (if ([L].map (·.length)).sum + 1 * (",":Str).length ≤ cap then some (D.str (Txt.join "," [L])) else none) = _
      rw [if_pos]
      · rfl
      · have : ([L].map (·.length)).sum + 1 * (",":Str).length = L.length + 0 + 1 := rfl
        rw [this]
        exact cap_n (by omega)
    simp [b_cars_text, ne, eM1, isStrD, j]
  | false =>
    refine ⟨"-", ?_, by decide⟩
    show endOf (b_cars_text [.val (.tup [])]) = _
    have ne : vNe (.tup []) (.tup []) = some (.bl false) := ne
    simp [b_cars_text, ne]
theorem str_min (h0 : 0 ≤ t) (h1 : t ≤ 2999) : ∃ x : Str, bStr [.int t] = some (.str x) ∧ x.length ≤ 4 := by
  refine ⟨toString t, ?_, PyProof.Rows.toString_length_le h0 (by decide) (by omega)⟩
  show (if t.natAbs.log2 < 1920 then some (D.str (toString t)) else none) = _
  rw [if_pos]
  by_cases z : t.natAbs = 0
  · rw [z]; decide
  · have := (Nat.log2_lt z).mpr (show t.natAbs < 2 ^ 12 by omega)
    omega
/-- a moment -/
abbrev momD (T A B L x : Str) (ds : List D) (t : Int) : D := .obj 3 [seenD T A B L ds, .str x, .int t, .str A]
theorem moment_init_ok (x k p n : D) : f_Moment_init [.oi 3 [], .val x, .val k, .val p, .val n] = .ok .non (.oi 3 [.val k, .val x, .val n, .val p]) := by
  show endOf (b_Moment_init [.oi 3 [], .val x, .val k, .val p, .val n]) = _
  simp [b_Moment_init, Tr.putF]
/-- a day -/
abbrev dayF (s0 : D) (ps : List D) : List FV := [.val s0, .val .non, .val (.tup []), .val (.tup ps)]
theorem join_ok {ys : List Str} (h : (ys.map (·.length)).sum + ys.length ≤ 900) : ∃ x, mJoin (.str " ") (.lst (ys.map .str)) = some (.str x) := by
  have e : asSs (ys.map .str) = some ys := by
    induction ys with
    | nil => rfl
    | cons y ys ih =>
      have := ih (by simp at h ⊢; omega)
      rw [List.map_cons, asSs, this]; rfl
  refine ⟨Txt.join " " ys, ?_⟩
  show (asSs (ys.map .str)).bind _ = _
  rw [e]
  show (if (ys.map (·.length)).sum + ys.length * (" " : Str).length ≤ cap then _ else _) = _
  rw [if_pos]
  have : (" " : Str).length = 1 := rfl
  rw [this]
  exact cap_n (by omega)
theorem day_init_ok {ds' : List D} (hA : A ∈ stopNames) (hL : L ∈ lineNames) (c : Bool) (h0 : 0 ≤ lo) (h1 : t ≤ 2999) (lt : lo ≤ t) (h : Srt lo t ds) (hl : ds.length ≤ 57) (ap : Apart ds) (hn : t + 1 - lo ≤ 59)
    (lk : f_looked [.val (seenD T A B L ds), .val (.str A), .val (.int t), .val (carsD L c)] = .ok (seenD T A B L ds') .no) :
    ∃ x, f_Day_init [.oi 4 [], .val (seenD T A B L ds), .val (.str A), .val (.int t), .val (carsD L c)] = .ok .non (.oi 4 (dayF (seenD T A B L ds) [momD T A B L x ds' t])) := by
  obtain ⟨x1, e1, l1⟩ := cars_text_ok hL c
  obtain ⟨x2, e2, l2⟩ := str_min (t := t) (by omega) h1
  have la := stop_facts A hA
  obtain ⟨x, ej⟩ := join_ok (ys := [("day" : Str), A, x2, x1]) (by
    have : (([("day" : Str), A, x2, x1] : List Str).map (·.length)).sum + ([("day" : Str), A, x2, x1] : List Str).length = 3 + (A.length + (x2.length + (x1.length + 0))) + 4 := rfl
    rw [this]; omega)
  refine ⟨x, ?_⟩
  have st := check_start_ok T A B L (.tup (ds.map (pr L))) (i := t) (by omega)
  have cl := check_late_ok T A B L h0 h1 h hl ap hn
  have ej : mJoin (.str " ") (.lst [.str "day", .str A, .str x2, .str x1]) = some (.str x) := ej
  revert lk e1
  generalize carsD L c = cd
  intro e1 lk
  show endOf (b_Day_init [.oi 4 [], .val (seenD T A B L ds), .val (.str A), .val (.int t), .val cd, .no, .no]) = _
  simp [b_Day_init, st, cl, lk, Tr.putF, e1, e2, eM1, isStrD, ej, moment_init_ok]
theorem last_ix (qs : List D) (d : D) (h : qs.length < 500) : vIx (.tup (qs ++ [d])) (.int (-1)) = some d := by
  show (ixD (qs ++ [d]).length (-1)).bind _ = _
  have : ixD (qs ++ [d]).length (-1) = some qs.length := by
    unfold ixD
    rw [if_neg (by omega), if_pos (by simp; omega)]
    congr 1
    simp
    omega
  rw [this]
  simp
section
variable {s0 : D} {qs : List D} {x : Str}
theorem day_moment_ok (d : D) (h : qs.length < 500) : f_Day_moment [.oi 4 (dayF s0 (qs ++ [d]))] = .ok d (.oi 4 (dayF s0 (qs ++ [d]))) := by
  have i := last_ix qs d h
  show endOf (b_Day_moment [.oi 4 (dayF s0 (qs ++ [d]))]) = _
  simp only [b_Day_moment, s_sRet, s_eOp, s_eFldO, s_eUn, s_eC, List.getElem?_cons_zero, List.getElem?_cons_succ, bnd_ok, if_true, v_neg, optR_some, i]
  rfl
theorem day_seen_ok (h : qs.length < 500) : f_Day_seen [.oi 4 (dayF s0 (qs ++ [momD T A B L x ds t]))] = .ok (seenD T A B L ds) (.oi 4 (dayF s0 (qs ++ [momD T A B L x ds t]))) := by
  have m := day_moment_ok (s0 := s0) (momD T A B L x ds t) h
  show endOf (b_Day_seen [.oi 4 (dayF s0 (qs ++ [momD T A B L x ds t]))]) = _
  simp [b_Day_seen, ePropO, m, ofPPo]
theorem day_minute_ok (h : qs.length < 500) : f_Day_minute [.oi 4 (dayF s0 (qs ++ [momD T A B L x ds t]))] = .ok (.int t) (.oi 4 (dayF s0 (qs ++ [momD T A B L x ds t]))) := by
  have m := day_moment_ok (s0 := s0) (momD T A B L x ds t) h
  show endOf (b_Day_minute [.oi 4 (dayF s0 (qs ++ [momD T A B L x ds t]))]) = _
  simp [b_Day_minute, ePropO, m, ofPPo]
theorem day_stop_ok (h : qs.length < 500) : f_Day_stop [.oi 4 (dayF s0 (qs ++ [momD T A B L x ds t]))] = .ok (.str A) (.oi 4 (dayF s0 (qs ++ [momD T A B L x ds t]))) := by
  have m := day_moment_ok (s0 := s0) (momD T A B L x ds t) h
  show endOf (b_Day_stop [.oi 4 (dayF s0 (qs ++ [momD T A B L x ds t]))]) = _
  simp [b_Day_stop, ePropO, m, ofPPo]
theorem day_stay_ok {ds' : List D} (hL : L ∈ lineNames) (c : Bool) (h : qs.length < 400) (h1 : t + 1 ≤ 2999)
    (lk : f_looked [.val (seenD T A B L ds), .val (.str A), .val (.int (t + 1)), .val (carsD L c)] = .ok (seenD T A B L ds') .no) :
    ∃ x', f_Day_stay [.oi 4 (dayF s0 (qs ++ [momD T A B L x ds t])), .val (carsD L c)] = .ok .non (.oi 4 (dayF s0 ((qs ++ [momD T A B L x ds t]) ++ [momD T A B L x' ds' (t + 1)]))) := by
  obtain ⟨x1, e1, l1⟩ := cars_text_ok hL c
  obtain ⟨x', ej⟩ := join_ok (ys := [("stay" : Str), x1]) (by
    have : (([("stay" : Str), x1] : List Str).map (·.length)).sum + ([("stay" : Str), x1] : List Str).length = 4 + (x1.length + 0) + 2 := rfl
    rw [this]; omega)
  refine ⟨x', ?_⟩
  have ej : mJoin (.str " ") (.lst [.str "stay", .str x1]) = some (.str x') := ej
  have q : qs.length < 500 := by omega
  have ds1 := day_seen_ok (T := T) (A := A) (B := B) (L := L) (s0 := s0) (x := x) (ds := ds) (t := t) q
  have dm1 := day_minute_ok (T := T) (A := A) (B := B) (L := L) (s0 := s0) (x := x) (ds := ds) (t := t) q
  have dp1 := day_stop_ok (T := T) (A := A) (B := B) (L := L) (s0 := s0) (x := x) (ds := ds) (t := t) q
  revert lk e1
  generalize carsD L c = cd
  intro e1 lk
  have n1 : ¬ (2999 : Int) < t + 1 := by omega
  obtain ⟨ps, eps⟩ : ∃ ps, ps = qs ++ [momD T A B L x ds t] := ⟨_, rfl⟩
  rw [← eps] at ds1 dm1 dp1 ⊢
  have pl : ps.length + 1 ≤ cap := by rw [eps]; simp; exact cap_n (by omega)
  have go : f_Day_go [.oi 4 (dayF s0 ps), .val (.lst [.str "stay"]), .val (.str A), .val (.int 1), .val cd] = .ok .non (.oi 4 (dayF s0 (ps ++ [momD T A B L x' ds' (t + 1)]))) := by
    show endOf (b_Day_go [.oi 4 (dayF s0 ps), .val (.lst [.str "stay"]), .val (.str A), .val (.int 1), .val cd, .no, .no, .no]) = _
    simp [b_Day_go, ePropO, ofPPo, ds1, dm1, n1, lk, e1, eM1, isStrD, ej, moment_init_ok, Tr.putF, pl]
  show endOf (b_Day_stay [.oi 4 (dayF s0 ps), .val cd]) = _
  simp [b_Day_stay, ePropO, ofPPo, dp1, eMethO, oiAt, callO, ofRFo, go]
end
end
end Pl
/- P16 -/
/-! The plain law: what is shown; a look. -/
namespace Pl
open PySem hiding Env
open L2 Tr G
theorem int_facts {a : Int} (h0 : 0 ≤ a) (h1 : a ≤ 2999) : (PyData.int a).showable = true ∧ (PyData.int a).leavesShort 8 = true ∧ (PyData.int a).weight ≤ 12 := by
  have l : a.natAbs.log2 < 12 := by
    by_cases z : a.natAbs = 0
    · rw [z]; decide
    · exact (Nat.log2_lt z).mpr (show a.natAbs < 2 ^ 12 by omega)
  refine ⟨?_, ?_, ?_⟩
  · simp only [PyData.showable, decide_eq_true_eq]; omega
  · simp only [PyData.leavesShort, decide_eq_true_eq, PyData.shown]
    have := PyProof.Rows.toString_length_le h0 (k := 4) (by decide) (by omega)
    exact decide_eq_true (Nat.le_trans this (show 4 ≤ 8 by decide))
  · simp only [PyData.weight]
    split <;> omega
theorem word_facts : (PyData.str "came").leavesShort 8 = true ∧ (PyData.str "none").leavesShort 8 = true ∧ (PyData.str "came").weight = 4 ∧ (PyData.str "none").weight = 4 := by
  refine ⟨?_, ?_, ?_, ?_⟩
  · simp only [PyData.leavesShort]; decide +kernel
  · simp only [PyData.leavesShort]; decide +kernel
  · simp only [PyData.weight]; rfl
  · simp only [PyData.weight]; rfl
section
variable {T A B L : Str} {lo hi t : Int} {ds : List D}
theorem lk_shown {d : D} (h : IsLk 0 2999 d) : ∃ p, toP d = some p ∧ p.showable = true ∧ p.leavesShort 8 = true ∧ p.weight ≤ 32 ∧ p.depth ≤ 1 := by
  obtain ⟨w1, w2, w3, w4⟩ := word_facts
  rcases lk_cases h with ⟨a, rfl, h0, h1⟩ | ⟨a, b, rfl, h0, h1, h2⟩
  · obtain ⟨f1, f2, f3⟩ := int_facts h0 h1
    refine ⟨.tuple [.str "came", .int a], rfl, ?_, ?_, ?_, ?_⟩
    · simp only [PyData.showable, PyData.showableAll, f1] at f1 ⊢
      simp [f1]
    · simp [PyData.leavesShort, PyData.leavesShortAll] at w1 f2 ⊢
      exact ⟨w1, f2⟩
    · rw [PyData.weight, PyData.weightAll, PyData.weightAll, PyData.weightAll, w3]
      omega
    · simp [PyData.depth, PyData.depthAll]
  · obtain ⟨f1, f2, f3⟩ := int_facts h0 (by omega)
    obtain ⟨g1, g2, g3⟩ := int_facts (a := b) (by omega) (by omega)
    refine ⟨.tuple [.str "none", .int a, .int b], rfl, ?_, ?_, ?_, ?_⟩
    · simp only [PyData.showable, PyData.showableAll] at f1 g1 ⊢
      simp [f1, g1]
    · simp [PyData.leavesShort, PyData.leavesShortAll] at w2 f2 g2 ⊢
      exact ⟨w2, f2, g2⟩
    · rw [PyData.weight, PyData.weightAll, PyData.weightAll, PyData.weightAll, PyData.weightAll, w4]
      omega
    · simp [PyData.depth, PyData.depthAll]
theorem shown_pairs (hL : L ∈ lineNames) : ∀ {xs : List D}, (∀ d ∈ xs, IsLk 0 2999 d) → ∃ ps, toPs (xs.map (pr L)) = some ps ∧ PyData.showableAll ps = true ∧ PyData.leavesShortAll 8 ps = true ∧ PyData.weightAll ps ≤ 60 * xs.length ∧ PyData.depthAll ps ≤ 2
  | [], _ => ⟨[], rfl, by simp only [PyData.showableAll], by simp only [PyData.leavesShortAll], by simp only [PyData.weightAll]; omega, by simp only [PyData.depthAll]; omega⟩
  | d :: xs, h => by
    obtain ⟨ps, e1, e2, e3, e4, e5⟩ := shown_pairs hL (xs := xs) fun x m => h x (List.mem_cons_of_mem _ m)
    obtain ⟨p, t1, t2, t3, t4, t5⟩ := lk_shown (h d List.mem_cons_self)
    obtain ⟨l1, _, l3⟩ := line_facts L hL
    refine ⟨.tuple [.str L, p] :: ps, by rw [List.map_cons, toPs, toP_pr t1, e1]; rfl, ?_, ?_, ?_, ?_⟩
    · simp [PyData.showable, PyData.showableAll, t2, e2]
    · simp only [PyData.leavesShort, PyData.leavesShortAll, t3, e3, l3, Bool.and_true]
    · have lw : (PyData.str L).weight ≤ 8 := by simp only [PyData.weight]; exact l1
      rw [PyData.weightAll, PyData.weight, PyData.weightAll, PyData.weightAll, PyData.weightAll, List.length_cons]
      omega
    · simp [PyData.depth, PyData.depthAll]
      omega
theorem repr_ok (hL : L ∈ lineNames) (h : ∀ d ∈ ds, IsLk 0 2999 d) (hl : ds.length ≤ 60) : ∃ z, bRepr [.tup (ds.map (pr L))] = some (.str z) := by
  obtain ⟨ps, e1, e2, e3, e4, e5⟩ := shown_pairs hL h
  have sl := PyData.shown_le 8 (by decide) (.tuple ps) (by simp only [PyData.leavesShort]; exact e3)
  have w : (PyData.tuple ps).weight ≤ 3600 := by simp only [PyData.weight]; omega
  refine ⟨(PyData.tuple ps).shown, ?_⟩
  show (toP (.tup (ds.map (pr L)))).bind _ = _
  have : toP (.tup (ds.map (pr L))) = some (.tuple ps) := by rw [toP, e1]; rfl
  rw [this]
  show (if (PyData.tuple ps).showable = true ∧ (PyData.tuple ps).depth ≤ 60 ∧ (PyData.tuple ps).shown.length ≤ cap then _ else _) = _
  rw [if_pos]
  refine ⟨by simp only [PyData.showable]; exact e2, by simp only [PyData.depth]; omega, ?_⟩
  unfold cap
  omega
theorem not_later (h : ∀ d ∈ ds, IsLk lo hi d) (ht : hi < t) : carB ds t = false ∧ empB ds t = false := by
  constructor
  · cases q : carB ds t with
    | false => rfl
    | true =>
      have m := (any_car h).mp q
      exact absurd m (new_c h ht)
  · cases q : empB ds t with
    | false => rfl
    | true =>
      obtain ⟨a, b, m, g1, g2⟩ := (any_holds h).mp q
      rcases lk_cases (h _ m) with ⟨_, e, _⟩ | ⟨_, _, e, _, _, _⟩
      · cases e
      · cases e; omega
/-- a step of the day -/
theorem step_ok (h : Srt lo hi ds) (ap : Apart ds) (hl : ds.length ≤ 50) (h0 : 0 ≤ lo) (ht : hi < t) (lt : lo ≤ t) (h1 : t ≤ 2999) (hn : t + 1 - lo ≤ 59) (c : Bool) :
    ∃ ds', f_looked [.val (seenD T A B L ds), .val (.str A), .val (.int t), .val (carsD L c)] = .ok (seenD T A B L ds') .no ∧ f_law_due [.val (.tup ds), .val (.int t), .val (.bl c)] = .ok (.tup ds') .no ∧ Srt lo t ds' ∧ Apart ds' ∧ ds'.length ≤ ds.length + 1 := by
  obtain ⟨n1, n2⟩ := not_later h.lk ht
  have hm := h.mono (Int.le_refl lo) (Int.le_of_lt ht)
  cases c with
  | true =>
    obtain ⟨p1, p2, p3, p4, p5⟩ := put_car h ap (by omega) ht lt
    exact ⟨_, looked_of T A B L h0 h1 lt hm (by omega) ap hn true n1 (fun _ => n2) p1 p3 (by omega), p2, p3, p4, by omega⟩
  | false =>
    obtain ⟨p1, p2, p3, p4, p5⟩ := put_none h ap (by omega) ht lt
    exact ⟨_, looked_of T A B L h0 h1 lt hm (by omega) ap hn false n1 (fun z => by cases z) p1 p3 (by omega), p2, p3, p4, by omega⟩
/-- none is told of t -/
theorem held_ok (h : Srt lo t ds) (ap : Apart ds) (hl : ds.length ≤ 50) (h0 : 0 ≤ lo) (lt : lo ≤ t) (h1 : t ≤ 2999) (hn : t + 1 - lo ≤ 59) (hh : ∃ d ∈ ds, holdsB t d = true) :
    f_looked [.val (seenD T A B L ds), .val (.str A), .val (.int t), .val (carsD L false)] = .ok (seenD T A B L ds) .no ∧ f_law_due [.val (.tup ds), .val (.int t), .val (.bl false)] = .ok (.tup ds) .no := by
  obtain ⟨p1, p2⟩ := put_held h.lk (cap_n (by omega)) hh
  have e : empB ds t = true := by
    unfold empB
    rw [List.any_eq_true]
    exact hh
  have k : carB ds t = false := by
    cases q : carB ds t with
    | false => rfl
    | true => exact absurd ⟨q, e⟩ (ce_apart h.lk ap t)
  exact ⟨looked_of T A B L h0 h1 lt h (by omega) ap hn false k (fun z => by cases z) p1 h (by omega), p2⟩
end
end Pl
/- P17 -/
/-! The plain law: draws. -/
namespace Pl
open PySem hiding Env
open L2 Tr G
def Pot (n : Int) (p : List D) : Prop := ∃ a b c : Int, p = [.int a, .int b, .int c] ∧ 0 ≤ c ∧ c ≤ n
theorem Pot.mono {n m : Int} {p : List D} (h : Pot n p) (l : n ≤ m) : Pot m p := by
  obtain ⟨a, b, c, e, h1, h2⟩ := h
  exact ⟨a, b, c, e, h1, by omega⟩
theorem small_of {i : Int} (h0 : 0 ≤ i) (h1 : i < 2 ^ 64) : Tr.small64 i = true := by
  unfold Tr.small64
  exact decide_eq_true (by omega)
theorem mul_l {a b : Int} (h : Tr.small64 a = true) : vMul (.int a) (.int b) = some (.int (a * b)) := by
  show (if Tr.small64 a || _ then _ else _) = _
  rw [h]; rfl
theorem mul_r {a b : Int} (h : Tr.small64 b = true) : vMul (.int a) (.int b) = some (.int (a * b)) := by
  show (if Tr.small64 a || (Tr.small64 b || _) then _ else _) = _
  rw [h]
  cases Tr.small64 a <;> rfl
theorem mod_ok {a b : Int} (h : 0 < b) : vMod (.int a) (.int b) = some (.int (a % b)) := by
  show (if 0 < b then _ else _) = _
  rw [if_pos h]
theorem div_ok {a b : Int} (h : 0 < b) (g : b < 10000) : vDiv (.int a) (.int b) = some (.int (a / b)) := by
  show (if 0 < b ∧ b.natAbs.log2 < 9000 then _ else _) = _
  have z : b.natAbs ≠ 0 := by omega
  have := (Nat.log2_lt z).mpr (show b.natAbs < 2 ^ 14 by omega)
  rw [if_pos ⟨h, by omega⟩]
theorem div_ok' {a b : Int} (h : 0 < b) (g : b < 1000000) : vDiv (.int a) (.int b) = some (.int (a / b)) := by
  show (if 0 < b ∧ b.natAbs.log2 < 9000 then _ else _) = _
  have z : b.natAbs ≠ 0 := by omega
  have := (Nat.log2_lt z).mpr (show b.natAbs < 2 ^ 20 by omega)
  rw [if_pos ⟨h, by omega⟩]
theorem take_ok {n many : Int} {p : List D} (h : Pot n p) (hn : n < 2 ^ 60) (m0 : 0 < many) (m1 : many < 10000) :
    ∃ k p', f_law_take [.ol p, .val (.int many)] = .ok (.int k) (.ol p') ∧ 0 ≤ k ∧ k < many ∧ Pot (n + 1) p' := by
  obtain ⟨a, b, c, rfl, c0, c1⟩ := h
  by_cases ha : 0 < a
  · refine ⟨a % many, [.int (a / many), .int b, .int c], ?_, Int.emod_nonneg _ (by omega), Int.emod_lt_of_pos _ m0, ⟨_, _, _, rfl, c0, by omega⟩⟩
    show endOf (b_law_take [.ol [.int a, .int b, .int c], .val (.int many), .no, .no, .no]) = _
    simp [b_law_take, eIxO, sSetO, olAt, ixN', ha, mod_ok m0, div_ok m0 m1]
  · obtain ⟨m, em⟩ : ∃ m : Int, m = (b + 90533 * (c + 1) * (c + 1) + 61) * 70241 % 2305843009213693921 := ⟨_, rfl⟩
    obtain ⟨m2, em2⟩ : ∃ m2 : Int, m2 = m * (m % 1000003 + 100183 * (c + 1)) % 2305843009213693907 := ⟨_, rfl⟩
    have mb : 0 ≤ m ∧ m < 2 ^ 64 := by
      rw [em]
      have h1 := Int.emod_nonneg ((b + 90533 * (c + 1) * (c + 1) + 61) * 70241) (b := 2305843009213693921) (by decide)
      have h2 := Int.emod_lt_of_pos ((b + 90533 * (c + 1) * (c + 1) + 61) * 70241) (b := 2305843009213693921) (by decide)
      omega
    refine ⟨(m2 / 113 + m2 / 999983) % many, [.int a, .int b, .int (c + 1)], ?_, Int.emod_nonneg _ (by omega), Int.emod_lt_of_pos _ m0, ⟨_, _, _, rfl, by omega, by omega⟩⟩
    have v1 : vMul (.int 90533) (.int (c + 1)) = some (.int (90533 * (c + 1))) := mul_l (by decide)
    have v2 : vMul (.int (90533 * (c + 1))) (.int (c + 1)) = some (.int (90533 * (c + 1) * (c + 1))) := mul_r (small_of (by omega) (by omega))
    have v3 : vMul (.int (b + 90533 * (c + 1) * (c + 1) + 61)) (.int 70241) = some (.int ((b + 90533 * (c + 1) * (c + 1) + 61) * 70241)) := mul_r (by decide)
    have v4 : vMod (.int ((b + 90533 * (c + 1) * (c + 1) + 61) * 70241)) (.int 2305843009213693921) = some (.int m) := by rw [mod_ok (by decide), em]
    have v5 : vMod (.int m) (.int 1000003) = some (.int (m % 1000003)) := mod_ok (by decide)
    have v6 : vMul (.int 100183) (.int (c + 1)) = some (.int (100183 * (c + 1))) := mul_l (by decide)
    have v7 : vMul (.int m) (.int (m % 1000003 + 100183 * (c + 1))) = some (.int (m * (m % 1000003 + 100183 * (c + 1)))) := mul_l (small_of mb.1 mb.2)
    have v8 : vMod (.int (m * (m % 1000003 + 100183 * (c + 1)))) (.int 2305843009213693907) = some (.int m2) := by rw [mod_ok (by decide), em2]
    have v9 : vDiv (.int m2) (.int 113) = some (.int (m2 / 113)) := div_ok' (by decide) (by decide)
    have v10 : vDiv (.int m2) (.int 999983) = some (.int (m2 / 999983)) := div_ok' (by decide) (by decide)
    show endOf (b_law_take [.ol [.int a, .int b, .int c], .val (.int many), .no, .no, .no]) = _
    simp [b_law_take, eIxO, sSetO, olAt, ixN', ha, v1, v2, v3, v4, v5, v6, v7, v8, v9, v10, mod_ok m0]
theorem getL (xs : List D) {k : Int} (h0 : 0 ≤ k) (h1 : k < xs.length) : vIx (.lst xs) (.int k) = some (xs[k.toNat]'(by omega)) := by
  show (ixD xs.length k).bind _ = _
  unfold ixD
  rw [if_pos h0, if_pos h1]
  show xs[k.toNat]? = _
  rw [List.getElem?_eq_getElem]
theorem of_ok {n : Int} {p xs : List D} (h : Pot n p) (hn : n < 2 ^ 60) (x0 : xs ≠ []) (x1 : xs.length < 1000) :
    ∃ y p', f_law_of [.ol p, .val (.lst xs)] = .ok y (.ol p') ∧ y ∈ xs ∧ Pot (n + 1) p' := by
  have l0 : 0 < xs.length := List.length_pos_iff.mpr x0
  obtain ⟨k, p', e, k0, k1, h'⟩ := take_ok h hn (many := xs.length) (by omega) (by omega)
  refine ⟨_, p', ?_, List.getElem_mem (l := xs) (n := k.toNat) (by omega), h'⟩
  show endOf (b_law_of [.ol p, .val (.lst xs)]) = _
  have i := getL xs k0 k1
  simp only [b_law_of, s_sRet, s_eOp, s_eV, List.getElem?_cons_zero, List.getElem?_cons_succ, bnd_ok]
  have c : eCallO f_law_take 0 (lCons (eB bLen (lCons (eV 1) lNil)) lNil) [.ol p, .val (.lst xs)] = .ok (.int k) [.ol p', .val (.lst xs)] := by
    simp [eCallO, ownAt, SV.isOwn, callO, e, ofRFo]
  rw [c]
  simp only [bnd_ok, i, optR_some]
  rfl
theorem perm_erase {α : Type} : ∀ (l : List α) (k : Nat) (h : k < l.length), (l[k] :: l.eraseIdx k).Perm l
  | x :: l, 0, h => List.Perm.refl _
  | x :: l, k + 1, h => by
    have ih := perm_erase l k (by simpa using h)
    show (l[k]'(by simpa using h) :: x :: l.eraseIdx k).Perm (x :: l)
    exact (List.Perm.swap _ _ _).trans (ih.cons x)
def someB : SM := sExpr (eStepO 4 appL (eStepO 3 popL (eCallO f_law_take 0 (lCons (eLenO 3) lNil))))
theorem some_go {x1 x2 : SV} : ∀ (rs : List D) (n : Int) (p left found : List D) (x5 : SV), Pot n p → n + rs.length < 2 ^ 60 → rs.length ≤ left.length → left.length < 1000 → found.length + rs.length < 1000 →
    ∃ p' left' found' y5, forGo (gSet 5) someB rs [.ol p, x1, x2, .ol left, .ol found, x5] = .ok none [.ol p', x1, x2, .ol left', .ol found', y5] ∧ Pot (n + rs.length) p' ∧ (found' ++ left').Perm (found ++ left) ∧ found'.length = found.length + rs.length
  | [], n, p, left, found, x5, h, _, _, _, _ => ⟨p, left, found, x5, rfl, h.mono (by simp), List.Perm.refl _, rfl⟩
  | r :: rs, n, p, left, found, x5, h, hn, hl, hc, hf => by
    rw [List.length_cons] at hn hl hf
    obtain ⟨k, p1, e, k0, k1, h1⟩ := take_ok h (by omega) (many := left.length) (by omega) (by omega)
    have kl : k.toNat < left.length := by omega
    have el := List.length_eraseIdx_of_lt kl
    obtain ⟨p', left', found', y5, e2, q1, q2, q3⟩ := some_go (x1 := x1) (x2 := x2) rs (n + 1) p1 (left.eraseIdx k.toNat) (found ++ [left[k.toNat]]) (.val r) h1 (by omega) (by omega) (by omega) (by simp; omega)
    refine ⟨p', left', found', y5, ?_, q1.mono (by rw [List.length_cons]; omega), ?_, ?_⟩
    · rw [forGo]
      have b : someB [.ol p, x1, x2, .ol left, .ol found, .val r] = .ok none [.ol p1, x1, x2, .ol (left.eraseIdx k.toNat), .ol (found ++ [left[k.toNat]]), .val r] := by
        have c : eCallO f_law_take 0 (lCons (eLenO 3) lNil) [.ol p, x1, x2, .ol left, .ol found, .val r] = .ok (.int k) [.ol p1, x1, x2, .ol left, .ol found, .val r] := by
          simp [eCallO, ownAt, SV.isOwn, callO, eLenO, olAt, e, ofRFo]
        have po : popL (.int k) left = some (left[k.toNat], left.eraseIdx k.toNat) := by
          show (if left.length ≤ cap then (ixN' left.length k).bind _ else none) = _
          unfold ixN'
          rw [if_pos (cap_n (by omega)), if_pos k0, if_pos k1]
          show (left[k.toNat]?).map _ = _
          rw [List.getElem?_eq_getElem kl]
          rfl
        have ap : ∀ y, appL y found = some (.non, found ++ [y]) := fun y => by
          show (if found.length < cap then _ else _) = _
          rw [if_pos (cap_l (by omega))]
        have s3 : eStepO 3 popL (eCallO f_law_take 0 (lCons (eLenO 3) lNil)) [.ol p, x1, x2, .ol left, .ol found, .val r] = .ok left[k.toNat] [.ol p1, x1, x2, .ol (left.eraseIdx k.toNat), .ol found, .val r] := by
          show (if (some left).isSome = true then bnd (eCallO f_law_take 0 (lCons (eLenO 3) lNil) [.ol p, x1, x2, .ol left, .ol found, .val r]) (fun x ρ => stepO 3 ρ (popL x)) else .bad) = _
          rw [if_pos (show (some left).isSome = true from rfl), c]
          show (match popL (.int k) left with
            | some (d, ds') => R.ok d (([SV.ol p1, x1, x2, SV.ol left, SV.ol found, SV.val r] : Env).set 3 (SV.ol ds'))
            | none => .bad) = _
          rw [po]
          rfl
        show bnd (eStepO 4 appL (eStepO 3 popL (eCallO f_law_take 0 (lCons (eLenO 3) lNil))) [.ol p, x1, x2, .ol left, .ol found, .val r]) _ = _
        have s4 : eStepO 4 appL (eStepO 3 popL (eCallO f_law_take 0 (lCons (eLenO 3) lNil))) [.ol p, x1, x2, .ol left, .ol found, .val r] = .ok .non [.ol p1, x1, x2, .ol (left.eraseIdx k.toNat), .ol (found ++ [left[k.toNat]]), .val r] := by
          show (if (some found).isSome = true then bnd (eStepO 3 popL (eCallO f_law_take 0 (lCons (eLenO 3) lNil)) [.ol p, x1, x2, .ol left, .ol found, .val r]) (fun x ρ => stepO 4 ρ (appL x)) else .bad) = _
          rw [if_pos (show (some found).isSome = true from rfl), s3]
          show (match appL left[k.toNat] found with
            | some (d, ds') => R.ok d (([SV.ol p1, x1, x2, SV.ol (left.eraseIdx k.toNat), SV.ol found, SV.val r] : Env).set 4 (SV.ol ds'))
            | none => .bad) = _
          rw [ap]
          rfl
        rw [s4]
        rfl
      show bnd (someB [.ol p, x1, x2, .ol left, .ol found, .val r]) _ = _
      rw [b]
      show forGo _ _ _ _ = _
      rw [e2]
    · refine q2.trans ?_
      rw [List.append_assoc]
      refine List.Perm.append_left _ ?_
      show (left[k.toNat] :: left.eraseIdx k.toNat).Perm left
      exact perm_erase left k.toNat kl
    · rw [q3, List.length_append, List.length_cons, List.length_cons, List.length_nil]
      omega
theorem some_ok {n : Int} {p pool : List D} {many : Nat} (h : Pot n p) (hn : n + many < 2 ^ 60) (hm : many ≤ pool.length) (hp : pool.length < 500) :
    ∃ p' left found, f_law_some [.ol p, .val (.lst pool), .val (.int many)] = .ok (.lst found) (.ol p') ∧ Pot (n + many) p' ∧ (found ++ left).Perm pool ∧ found.length = many := by
  have rl : (rangeD 0 many).length = many := by unfold rangeD; rw [List.length_map, List.length_range]
  obtain ⟨p', left, found, y5, e, q1, q2, q3⟩ := some_go (x1 := .val (.lst pool)) (x2 := .val (.int many)) (rangeD 0 many) n p pool [] .no h (by rw [rl]; omega) (by rw [rl]; omega) (by omega) (by rw [rl]; simp; omega)
  rw [rl] at q1 q3
  refine ⟨p', left, found, ?_, q1, q2, by simpa using q3⟩
  unfold someB at e
  have o := okB_of (i := (many : Int)) (by omega) (by omega)
  show endOf (b_law_some [.ol p, .val (.lst pool), .val (.int many), .no, .no, .no]) = _
  simp [b_law_some, sParL, lList, sFor, itRange1, o, e, eFz]
end Pl
/- P18 -/
/-! The plain law: names, nets. -/
namespace Pl
open PySem hiding Env
open L2 Tr G
/-- the draws of a cell -/
theorem v_ltI (i j : Int) : vLt (.int i) (.int j) = some (.bl (decide (i < j))) := by
  show (if (W.alike (.int i) (.int j) && decide ((PyData.int i).depth ≤ 60)) = true then some (W.dataLt (.int i) (.int j)) else none : Option Bool).map D.bl = _
  rw [if_pos (by rfl)]
  show some (D.bl (W.dataLt (.int i) (.int j))) = _
  rw [W.dataLt_int]
theorem b_absI (i : Int) : bAbs [.int i] = some (.int (if i < 0 then -i else i)) := rfl
theorem getI (ns : List Int) {p : Nat} (h : p < ns.length) : vIx (.lst (ns.map .int)) (.int (p : Int)) = some (.int ns[p]) := by
  rw [getL _ (by omega) (by simpa using h)]
  simp
theorem k_op {f : D → D → Option D} {a b : EM} {ρ ρ1 ρ2 : Env} {x y z : D} (h1 : a ρ = .ok x ρ1) (h2 : b ρ1 = .ok y ρ2) (h3 : f x y = some z) : eOp f a b ρ = .ok z ρ2 := by rw [s_eOp, h1, bnd_ok, h2, bnd_ok, h3, optR_some]
theorem k_c {d : D} {ρ : Env} : eC d ρ = .ok d ρ := rfl
theorem k_v {i : Nat} {ρ : Env} {d : D} (h : ρ[i]? = some (.val d)) : eV i ρ = .ok d ρ := by rw [s_eV, h]
theorem k_nil {ρ : Env} : lNil ρ = .ok [] ρ := rfl
theorem k_cons {a : EM} {l : LM} {ρ ρ1 ρ2 : Env} {x : D} {xs : List D} (h1 : a ρ = .ok x ρ1) (h2 : l ρ1 = .ok xs ρ2) : lCons a l ρ = .ok (x :: xs) ρ2 := by rw [s_lCons, h1, bnd_ok, h2, bnd_ok]
theorem k_bi {f : List D → Option D} {l : LM} {ρ ρ1 : Env} {xs : List D} {z : D} (h1 : l ρ = .ok xs ρ1) (h3 : f xs = some z) : eB f l ρ = .ok z ρ1 := by rw [s_eB, h1, bnd_ok, h3, optR_some]
theorem k_asg {a : EM} {g : GM} {ρ ρ1 ρ2 : Env} {x : D} (h1 : a ρ = .ok x ρ1) (h2 : g x ρ1 = some ρ2) : sAsg a g ρ = .ok none ρ2 := by rw [s_sAsg, h1, bnd_ok, h2]
theorem pot_ok (ns : List Int) {p : Nat} (hp : p < 4) : ∃ ds, f_law_pot [.val (.lst (ns.map .int)), .val (.int (p : Int))] = .ok ds ∧ Pot 0 ds := by
  obtain ⟨c, hc⟩ : ∃ c : Int, eIf (tE (eOp vLt (eV 1) (eB bLen (lCons (eV 0) lNil)))) (eOp vIx (eV 0) (eV 1)) (eOp vAdd (eOp vMul (eC (.int 31)) (eV 1)) (eC (.int 23))) [.val (.lst (ns.map .int)), .val (.int (p : Int)), .no, .no, .no] = .ok (.int c) [.val (.lst (ns.map .int)), .val (.int (p : Int)), .no, .no, .no] := by
    by_cases h : p < ns.length
    · refine ⟨ns[p], ?_⟩
      have i : (p : Int) < ns.length := by omega
      simp only [s_eIf, s_tE, s_eOp, s_eV, s_eB, s_lCons, s_lNil, List.getElem?_cons_zero, List.getElem?_cons_succ, bnd_ok, b_lenL, List.length_map, optR_some, v_ltI, i, decide_true, s_asB, if_true, getI ns h]
    · refine ⟨31 * p + 23, ?_⟩
      have i : ¬ (p : Int) < ns.length := by omega
      have m : vMul (.int 31) (.int (p : Int)) = some (.int (31 * p)) := mul_l (by decide)
      simp only [s_eIf, s_tE, s_eOp, s_eV, s_eC, s_eB, s_lCons, s_lNil, List.getElem?_cons_zero, List.getElem?_cons_succ, bnd_ok, b_lenL, List.length_map, optR_some, v_ltI, i, decide_false, s_asB, if_false, Bool.false_eq_true, m, v_add]
  have z0 : (0 : Int) ≤ p := by omega
  have z1 : (p : Int) < 4 := by omega
  generalize (p : Int) = z at hc z0 z1 ⊢
  obtain ⟨ab, eab⟩ : ∃ ab : Int, ab = if c < 0 then -c else c := ⟨_, rfl⟩
  have v0 : bAbs [.int c] = some (.int ab) := by rw [b_absI, eab]
  obtain ⟨X1, v1, X5, v2, x5⟩ : ∃ X1 : Int, vPow (.int 10) (.int 60) = some (.int X1) ∧ ∃ X5 : Int, vPowW (.int X1) (.int 5) = some (.int X5) ∧ 0 < X5 := by
    refine ⟨10 ^ 60, ?_, (10 ^ 60) ^ 5, ?_, by decide +kernel⟩
    · show (if (0 : Int) ≤ 60 ∧ (60 : Int) ≤ 1000000 ∧ (10 : Int).natAbs < 2 ^ 64 then some (D.int (10 ^ (60 : Int).toNat)) else none) = _
      rw [if_pos (by decide)]
      rfl
    · show (if (0 : Int) ≤ 5 ∧ (Builtin.Int.intBits (10 ^ 60) : Int) * 5 ≤ 2 ^ 27 then some (D.int ((10 ^ 60) ^ (5 : Int).toNat)) else none) = _
      rw [if_pos (by decide +kernel)]
      rfl
  have v3 : vMod (.int ab) (.int X5) = some (.int (ab % X5)) := mod_ok x5
  obtain ⟨X8, v4⟩ : ∃ X8 : Int, vPow (.int 10) (.int 18) = some (.int X8) := by
    refine ⟨10 ^ (18 : Int).toNat, ?_⟩
    show (if (0 : Int) ≤ 18 ∧ (18 : Int) ≤ 1000000 ∧ (10 : Int).natAbs < 2 ^ 64 then some (D.int (10 ^ (18 : Int).toNat)) else none) = _
    rw [if_pos (by decide)]
  obtain ⟨k, ek, kk⟩ : ∃ k : Int, bInt [.bl (decide (X8 ≤ ab))] = some (.int k) ∧ 0 ≤ k ∧ k ≤ 1 := by
    cases decide (X8 ≤ ab)
    · exact ⟨0, rfl, by decide⟩
    · exact ⟨1, rfl, by decide⟩
  have v5 : vMul (.int (ab % X5)) (.int k) = some (.int (ab % X5 * k)) := mul_r (small_of kk.1 (by omega))
  obtain ⟨M1, w1⟩ : ∃ x : Int, vMod (.int c) (.int 2305843009213693951) = some (.int x) := ⟨_, mod_ok (by decide)⟩
  obtain ⟨M2, w2⟩ : ∃ x : Int, vMul (.int M1) (.int 70117) = some (.int x) := ⟨_, mul_r (by decide)⟩
  obtain ⟨M3, w3⟩ : ∃ x : Int, vMul (.int 8219) (.int z) = some (.int x) := ⟨_, mul_l (by decide)⟩
  obtain ⟨M4, w4⟩ : ∃ x : Int, vMul (.int M3) (.int z) = some (.int x) := ⟨_, mul_r (small_of (by omega) (by omega))⟩
  have w5 : ∀ x : Int, vMod (.int x) (.int 2305843009213693907) = some (.int (x % 2305843009213693907)) := fun x => mod_ok (by decide)
  refine ⟨[.int (ab % X5 * k), .int ((M2 + M4 + 43) % 2305843009213693907), .int 0], ?_, ⟨_, _, _, rfl, Int.le_refl _, Int.le_refl _⟩⟩
  · have S1 : sAsg (eIf (tE (eOp vLt (eV 1) (eB bLen (lCons (eV 0) lNil)))) (eOp vIx (eV 0) (eV 1)) (eOp vAdd (eOp vMul (eC (.int 31)) (eV 1)) (eC (.int 23)))) (gSet 2) [.val (.lst (ns.map .int)), .val (.int z), .no, .no, .no] = .ok none [.val (.lst (ns.map .int)), .val (.int z), .val (.int c), .no, .no] := by
      rw [s_sAsg, hc]
      rfl
    have S2 : sAsg (eOp vMul (eOp vMod (eB bInt (lCons (eB bAbs (lCons (eV 2) lNil)) lNil)) (eOp vPowW (eOp vPow (eC (.int 10)) (eC (.int 60))) (eC (.int 5)))) (eB bInt (lCons (eOp vGe (eB bAbs (lCons (eV 2) lNil)) (eOp vPow (eC (.int 10)) (eC (.int 18)))) lNil))) (gSet 3) [.val (.lst (ns.map .int)), .val (.int z), .val (.int c), .no, .no] = .ok none [.val (.lst (ns.map .int)), .val (.int z), .val (.int c), .val (.int (ab % X5 * k)), .no] := by
      simp only [s_sAsg, bnd_ok, s_gSet, List.length_cons, List.length_nil, Nat.reduceAdd, Nat.reduceLT, if_true, List.set_cons_succ, List.set_cons_zero, s_eOp, s_eB, s_lCons, s_lNil, s_eV, s_eC, List.getElem?_cons_zero, List.getElem?_cons_succ, optR_some, v0, v1, v2, v3, v4, v5, v_ge, ek, b_intI]
    have S3 : sAsg (eOp vAdd (eOp vAdd (eOp vMul (eOp vMod (eB bInt (lCons (eV 2) lNil)) (eC (.int 2305843009213693951))) (eC (.int 70117))) (eOp vMul (eOp vMul (eC (.int 8219)) (eV 1)) (eV 1))) (eC (.int 43))) (gSet 4) [.val (.lst (ns.map .int)), .val (.int z), .val (.int c), .val (.int (ab % X5 * k)), .no] = .ok none [.val (.lst (ns.map .int)), .val (.int z), .val (.int c), .val (.int (ab % X5 * k)), .val (.int (M2 + M4 + 43))] := by
      refine k_asg (k_op (k_op (k_op (k_op (k_bi (k_cons (k_v rfl) k_nil) rfl) k_c w1) k_c w2) (k_op (k_op k_c (k_v rfl) w3) (k_v rfl) w4) (v_add _ _)) k_c (v_add _ _)) ?_
      rfl
    generalize ab % X5 * k = own at S2 S3 ⊢
    generalize M2 + M4 + 43 = base at S3 ⊢
    have S4 : sRetL (lCap (lCons (eV 3) (lCons (eOp vMod (eB bInt (lCons (eV 4) lNil)) (eC (.int 2305843009213693907))) (lCons (eC (.int 0)) lNil)))) [.val (.lst (ns.map .int)), .val (.int z), .val (.int c), .val (.int own), .val (.int base)] = .ok [.int own, .int (base % 2305843009213693907), .int 0] [.val (.lst (ns.map .int)), .val (.int z), .val (.int c), .val (.int own), .val (.int base)] := by
      have w := w5 base
      generalize base % 2305843009213693907 = b2 at w ⊢
      simp only [sRetL, s_lCap, bnd_ok, s_eOp, s_eB, s_lCons, s_lNil, s_eV, s_eC, List.getElem?_cons_zero, List.getElem?_cons_succ, optR_some, w, b_intI, List.length_cons, List.length_nil, Nat.reduceAdd, cap_3, if_true]
    have cn : ∀ (a : SM) (b : SMN) (ρ ρ' : Env), a ρ = .ok none ρ' → sConsN a b ρ = b ρ' := fun a b ρ ρ' e => by
      show bnd (a ρ) _ = _
      rw [e]
      rfl
    show endOfN (b_law_pot [.val (.lst (ns.map .int)), .val (.int z), .no, .no, .no]) = _
    unfold b_law_pot
    rw [cn _ _ _ _ S1, cn _ _ _ _ S2, cn _ _ _ _ S3, S4]
    rfl
theorem nodup_strs {xs : List Str} (h : xs.Nodup) : (xs.map D.str).Nodup := by
  rw [List.nodup_iff_pairwise_ne, List.pairwise_map]
  exact h.imp fun z e => z (by injection e)
def namesD (xs : List Str) : List D := xs.map .str
theorem stop_names_ok {n : Int} {p : List D} (h : Pot n p) (hn : n < 1000) : ∃ A B p', f_law_stop_names [.ol p, .val (.int 2)] = .ok (.lst [.str A, .str B]) (.ol p') ∧ A ∈ stopNames ∧ B ∈ stopNames ∧ A ≠ B ∧ Pot (n + 2) p' := by
  obtain ⟨p', left, found, e, h', pm, fl⟩ := some_ok (pool := namesD stopNames) (many := 2) h (by omega) (by decide) (by decide)
  have nd : (namesD stopNames).Nodup := by
    exact nodup_strs (by decide)
  have nf : found.Nodup := (pm.nodup_iff.mpr nd).sublist (List.sublist_append_left _ _)
  have mf : ∀ d ∈ found, ∃ A, d = .str A ∧ A ∈ stopNames := fun d m => by
    have : d ∈ namesD stopNames := pm.mem_iff.mp (List.mem_append_left _ m)
    obtain ⟨A, hA, rfl⟩ := List.mem_map.mp this
    exact ⟨A, rfl, hA⟩
  match found, fl, nf, mf, e with
  | [x, y], _, nf, mf, e =>
    obtain ⟨A, rfl, hA⟩ := mf x (by simp)
    obtain ⟨B, rfl, hB⟩ := mf y (by simp)
    refine ⟨A, B, p', ?_, hA, hB, ?_, h'⟩
    · show endOf (b_law_stop_names [.ol p, .val (.int 2), .no]) = _
      have e : f_law_some [.ol p, .val (.lst [.str "home", .str "park", .str "town", .str "stops", .str "way", .str "line", .str "to", .str "zzzzzzzz", .str "look", .str "day", .str "a"]), .val (.int 2)] = .ok (.lst [.str A, .str B]) (.ol p') := e
      simp [b_law_stop_names, eCallO, ownAt, SV.isOwn, callO, e, ofRFo]
    · rintro rfl
      simp at nf
theorem line_names_ok {n : Int} {p : List D} (h : Pot n p) (hn : n < 1000) : ∃ L p', f_law_line_names [.ol p, .val (.int 1)] = .ok (.lst [.str L]) (.ol p') ∧ L ∈ lineNames ∧ Pot (n + 1) p' := by
  obtain ⟨p', left, found, e, h', pm, fl⟩ := some_ok (pool := namesD lineNames) (many := 1) h (by omega) (by decide) (by decide)
  have mf : ∀ d ∈ found, ∃ A, d = .str A ∧ A ∈ lineNames := fun d m => by
    have : d ∈ namesD lineNames := pm.mem_iff.mp (List.mem_append_left _ m)
    obtain ⟨A, hA, rfl⟩ := List.mem_map.mp this
    exact ⟨A, rfl, hA⟩
  match found, fl, mf, e with
  | [x], _, mf, e =>
    obtain ⟨A, rfl, hA⟩ := mf x (by simp)
    refine ⟨A, p', ?_, hA, h'⟩
    show endOf (b_law_line_names [.ol p, .val (.int 1)]) = _
    have e : f_law_some [.ol p, .val (.lst [.str "red", .str "blue", .str "line", .str "stay", .str "walk", .str "ride", .str "came", .str "none", .str "b", .str "look"]), .val (.int 1)] = .ok (.lst [.str A]) (.ol p') := e
    simp [b_law_line_names, eCallO, ownAt, SV.isOwn, callO, e, ofRFo]
end Pl
/- Tx -/
/-! Texts joined and split. -/
namespace Tx
open PySem L2 Tr TL
theorem bl_tl : tl (" " : Str) = [32] := rfl
theorem nl_tl : tl ("\n" : Str) = [10] := rfl
theorem cm_tl : tl ("," : Str) = [44] := rfl
theorem mem_joinL {S : List Nat} {c : Nat} : ∀ {ps : List (List Nat)}, c ∈ joinL S ps → c ∈ S ∨ ∃ p ∈ ps, c ∈ p
  | [], h => by cases h
  | [p], h => .inr ⟨p, List.mem_singleton.mpr rfl, h⟩
  | p :: q :: r, h => by
    have h : c ∈ p ++ (S ++ joinL S (q :: r)) := h
    rw [List.mem_append, List.mem_append] at h
    rcases h with h | h | h
    · exact .inr ⟨p, List.mem_cons_self, h⟩
    · exact .inl h
    · rcases mem_joinL h with h | ⟨z, m, h⟩
      · exact .inl h
      · exact .inr ⟨z, List.mem_cons_of_mem _ m, h⟩
theorem len_joinL {S : List Nat} : ∀ ps : List (List Nat), (joinL S ps).length ≤ (ps.map (·.length)).sum + ps.length * S.length
  | [] => Nat.zero_le _
  | [p] => by
    show p.length ≤ _
    simp
  | p :: q :: r => by
    show (p ++ (S ++ joinL S (q :: r))).length ≤ _
    have ih := len_joinL (S := S) (q :: r)
    rw [List.length_append, List.length_append, List.map_cons, List.sum_cons, List.length_cons, Nat.add_mul]
    omega
theorem tl_joinT (y : Str) (ps : List Str) : tl (Txt.join y ps) = joinL (tl y) (ps.map tl) := by rw [join_eq, tl_join]
theorem free_join {y : Str} {c : Nat} {ps : List Str} (h0 : c ∉ tl y) (h : ∀ p ∈ ps, c ∉ tl p) : c ∉ tl (Txt.join y ps) := fun m => by
  rw [tl_joinT] at m
  rcases mem_joinL m with m | ⟨z, mz, m⟩
  · exact h0 m
  · obtain ⟨p, mp, rfl⟩ := List.mem_map.mp mz
    exact h p mp m
theorem len_joinT (y : Str) (ps : List Str) : (Txt.join y ps).length ≤ (ps.map (·.length)).sum + ps.length * y.length := by
  rw [len_tl, tl_joinT]
  have := len_joinL (S := tl y) (ps.map tl)
  rw [List.map_map, List.length_map] at this
  have e : ((fun x : List Nat => x.length) ∘ tl) = fun x : Str => x.length := by
    funext x
    exact (len_tl x).symm
  rw [e, ← len_tl] at this
  exact this
theorem asSs_map : ∀ ps : List Str, asSs (ps.map .str) = some ps
  | [] => rfl
  | p :: ps => by rw [List.map_cons, asSs, asSs_map ps]; rfl
theorem join_ok (y : Str) {ps : List Str} (h : (ps.map (·.length)).sum + ps.length * y.length ≤ cap) : mJoin (.str y) (.lst (ps.map .str)) = some (.str (Txt.join y ps)) ∧ mJoin (.str y) (.tup (ps.map .str)) = some (.str (Txt.join y ps)) := by
  constructor
  · show (asSs (ps.map .str)).bind _ = _
    rw [asSs_map]
    show (if _ then _ else none) = _
    rw [if_pos h]
  · show (asSs (ps.map .str)).bind _ = _
    rw [asSs_map]
    show (if _ then _ else none) = _
    rw [if_pos h]
theorem split_ok {y : Str} {s : Nat} (ey : tl y = [s]) (hs : s < 256) {ps : List Str} (ne : ps ≠ []) (h : ∀ p ∈ ps, s ∉ tl p) (hl : (ps.map (·.length)).sum + ps.length + 2 ≤ cap) : mSplit (.str (Txt.join y ps)) (.str y) = some (.lst (ps.map .str)) := by
  have l1 : y.length = 1 := by rw [len_tl, ey]; rfl
  have l2 := len_joinT y ps
  rw [l1, Nat.mul_one] at l2
  have hk : y.cps.all (· < 256) = true := by
    rw [← Array.all_toList]
    show (tl y).all _ = true
    rw [ey]
    simp [hs]
  show (if y.length ≠ 0 ∧ (Txt.join y ps).length + 2 ≤ cap then some (D.lst ((Txt.split (Txt.join y ps) y).map .str)) else none) = _
  rw [if_pos ⟨by omega, by omega⟩, split_join ey hk ne h]
theorem join_head (y : Str) (a : Str) (p : Str) (ps : List Str) : a ++ y ++ Txt.join y (p :: ps) = Txt.join y (a :: p :: ps) := by
  apply ext_tl
  rw [tl_append, tl_append, tl_joinT, tl_joinT]
  show tl a ++ tl y ++ joinL (tl y) (tl p :: ps.map tl) = tl a ++ (tl y ++ joinL (tl y) (tl p :: ps.map tl))
  rw [List.append_assoc]
end Tx
/- P19 -/
/-! The plain law: the net of the law, read from its text. -/
namespace Pl
open PySem hiding Env
open L2 Tr G TL
abbrev loreD (A B L : Str) : D := .dK [(.inr "stops", .lst [.str A, .str B]), (.inr "ways", .lst []), (.inr "lines", .lst [.tup [.str L, .str A, .int 1, .int 60, .tup [.tup [.str B, .int 5]]]])]
def wordOk (x : Str) : Bool := decide (x.length ≤ 8) && ((tl x).all fun c => decide (c ≠ 32) && decide (c ≠ 10))
structure Word (x : Str) : Prop where
  len : x.length ≤ 8
  bl : 32 ∉ tl x
  nl : 10 ∉ tl x
theorem word_of {x : Str} (h : wordOk x = true) : Word x := by
  unfold wordOk at h
  rw [Bool.and_eq_true, decide_eq_true_iff, List.all_eq_true] at h
  refine ⟨h.1, fun m => ?_, fun m => ?_⟩
  · have := h.2 _ m
    simp at this
  · have := h.2 _ m
    simp at this
theorem stop_words : (stopNames.all wordOk) = true := by decide +kernel
theorem line_words : (lineNames.all wordOk) = true := by decide +kernel
theorem stop_word {A : Str} (h : A ∈ stopNames) : Word A := word_of (List.all_eq_true.mp stop_words A h)
theorem line_word {A : Str} (h : A ∈ lineNames) : Word A := word_of (List.all_eq_true.mp line_words A h)
def isName (x : Str) : Bool := match f_is_name [.val (.str x)] with
  | .ok (.bl true) .no => true
  | _ => false
theorem isName_ok {x : Str} (h : isName x = true) : f_is_name [.val (.str x)] = .ok (.bl true) .no := by
  unfold isName at h
  split at h
  · assumption
  · cases h
theorem stop_strs : (stopNames.all PyData.strOk) = true := by decide +kernel
theorem stop_isn : (stopNames.all isName) = true := by decide +kernel
theorem line_isn : (lineNames.all isName) = true := by decide +kernel
theorem number_1 : f_number_in [.val (.str "1"), .val (.int 1), .val (.int 60)] = .ok (.int 1) .no := by kernel_rfl
theorem number_60 : f_number_in [.val (.str "60"), .val (.int 1), .val (.int 60)] = .ok (.int 60) .no := by kernel_rfl
theorem number_5 : f_number_in [.val (.str "5"), .val (.int 1), .val (.int 120)] = .ok (.int 5) .no := by kernel_rfl
theorem str_1 : bStr [.int 1] = some (.str "1") := by kernel_rfl
theorem str_60 : bStr [.int 60] = some (.str "60") := by kernel_rfl
theorem str_5 : bStr [.int 5] = some (.str "5") := by kernel_rfl
def s0W (A B : Str) : List Str := ["stops", A, B]
def s1W (A B L : Str) : List Str := ["line", L, A, "1", "60", "to", B, "5"]
def netTx (A B L : Str) : Str := Txt.join "\n" [Txt.join " " (s0W A B), Txt.join " " (s1W A B L)]
theorem mem2 {P : Str → Prop} {a b : Str} (ha : P a) (hb : P b) : ∀ p ∈ [a, b], P p := fun p m => by
  simp only [List.mem_cons, List.not_mem_nil, or_false] at m
  rcases m with rfl | rfl
  · exact ha
  · exact hb
section
variable {A B L : Str} (hA : A ∈ stopNames) (hB : B ∈ stopNames) (ne : A ≠ B) (hL : L ∈ lineNames)
include hA hB in
theorem s0_word : ∀ p ∈ s0W A B, Word p := fun p m => by
  simp only [s0W, List.mem_cons, List.not_mem_nil, or_false] at m
  rcases m with rfl | rfl | rfl
  · exact word_of (by decide +kernel)
  · exact stop_word hA
  · exact stop_word hB
include hA hB hL in
theorem s1_word : ∀ p ∈ s1W A B L, Word p := fun p m => by
  simp only [s1W, List.mem_cons, List.not_mem_nil, or_false] at m
  rcases m with rfl | rfl | rfl | rfl | rfl | rfl | rfl | rfl
  · exact word_of (by decide +kernel)
  · exact line_word hL
  · exact stop_word hA
  · exact word_of (by decide +kernel)
  · exact word_of (by decide +kernel)
  · exact word_of (by decide +kernel)
  · exact stop_word hB
  · exact word_of (by decide +kernel)
theorem sum_le : ∀ {ws : List Str}, (∀ p ∈ ws, Word p) → (ws.map (·.length)).sum ≤ 8 * ws.length
  | [], _ => Nat.zero_le _
  | w :: ws, h => by
    have h1 := (h w List.mem_cons_self).len
    have h2 := sum_le (ws := ws) fun p m => h p (List.mem_cons_of_mem _ m)
    rw [List.map_cons, List.sum_cons, List.length_cons]
    omega
theorem blank_len : (" " : Str).length = 1 := rfl
theorem feed_len : ("\n" : Str).length = 1 := rfl
theorem join_w {ws : List Str} (h : ∀ p ∈ ws, Word p) (hl : ws.length ≤ 20) : mJoin (.str " ") (.lst (ws.map .str)) = some (.str (Txt.join " " ws)) := by
  have := sum_le h
  exact (Tx.join_ok " " (by rw [blank_len]; exact cap_n (by omega))).1
theorem split_w {ws : List Str} (h : ∀ p ∈ ws, Word p) (ne : ws ≠ []) (hl : ws.length ≤ 20) : mSplit (.str (Txt.join " " ws)) (.str " ") = some (.lst (ws.map .str)) := by
  have := sum_le h
  exact Tx.split_ok Tx.bl_tl (by decide) ne (fun p m => (h p m).bl) (cap_n (by omega))
theorem line_len {ws : List Str} (h : ∀ p ∈ ws, Word p) : (Txt.join " " ws).length ≤ 9 * ws.length := by
  have h1 := sum_le h
  have h2 := Tx.len_joinT " " ws
  rw [blank_len] at h2
  omega
theorem line_nl {ws : List Str} (h : ∀ p ∈ ws, Word p) : 10 ∉ tl (Txt.join " " ws) := Tx.free_join (by rw [Tx.bl_tl]; decide) fun p m => (h p m).nl
include hA hB hL in
theorem net_text_ok : f_law_net_text [.val (loreD A B L)] = .ok (.str (netTx A B L)) .no := by
  have h0 := s0_word hA hB
  have h1 := s1_word hA hB hL
  have lt : f_law_line_text [.val (.tup [.str L, .str A, .int 1, .int 60, .tup [.tup [.str B, .int 5]]])] = .ok (.str (Txt.join " " (s1W A B L))) .no := by
    have j : mJoin (.str " ") (.lst [.str "line", .str L, .str A, .str "1", .str "60", .str "to", .str B, .str "5"]) = some (.str (Txt.join " " (s1W A B L))) := join_w h1 (by unfold s1W; simp)
    show endOf (b_law_line_text [.val (.tup [.str L, .str A, .int 1, .int 60, .tup [.tup [.str B, .int 5]]]), .no, .no, .no, .no, .no, .no, .no, .no]) = _
    simp [b_law_line_text, sNewL, sFor, forGo, str_1, str_60, str_5, eExtO, olAt, stepO, eM1, isStrD, eFz, j]
  have l0 := line_len h0
  have l1 := line_len h1
  have e0 : (s0W A B).length = 3 := rfl
  have e1 : (s1W A B L).length = 8 := rfl
  rw [e0] at l0
  rw [e1] at l1
  have j1 : mJoin (.str " ") (.lst [.str A, .str B]) = some (.str (Txt.join " " [A, B])) := join_w (ws := [A, B]) (mem2 (stop_word hA) (stop_word hB)) (by simp)
  have j2 : vAdd (.str "stops ") (.str (Txt.join " " [A, B])) = some (.str (Txt.join " " (s0W A B))) := by
    have l2 := line_len (ws := [A, B]) (mem2 (stop_word hA) (stop_word hB))
    have l3 : ("stops " : Str).length = 6 := by decide
    show (if ("stops " : Str).length + (Txt.join " " [A, B]).length ≤ cap then some (D.str ("stops " ++ Txt.join " " [A, B])) else none) = _
    rw [if_pos (by rw [l3]; exact cap_n (by simp at l2; omega))]
    congr 2
    exact Tx.join_head " " "stops" A [B]
  have j3 : mJoin (.str "\n") (.lst [.str (Txt.join " " (s0W A B)), .str (Txt.join " " (s1W A B L))]) = some (.str (netTx A B L)) := (Tx.join_ok "\n" (ps := [Txt.join " " (s0W A B), Txt.join " " (s1W A B L)]) (by
    have : (([Txt.join " " (s0W A B), Txt.join " " (s1W A B L)] : List Str).map (·.length)).sum = (Txt.join " " (s0W A B)).length + ((Txt.join " " (s1W A B L)).length + 0) := rfl
    rw [this, feed_len]
    exact cap_n (by simp; omega))).1
  have d1 : vDx (loreD A B L) (.str "stops") = some (.lst [.str A, .str B]) := by kernel_rfl
  have d2 : vDx (loreD A B L) (.str "ways") = some (.lst []) := by kernel_rfl
  have d3 : vDx (loreD A B L) (.str "lines") = some (.lst [.tup [.str L, .str A, .int 1, .int 60, .tup [.tup [.str B, .int 5]]]]) := by kernel_rfl
  have va : ∀ x y : D, vAdd (.lst [x]) (.lst [y]) = some (.lst [x, y]) := fun x y => by
    show (if 1 + 1 ≤ cap then some (D.lst ([x] ++ [y])) else none) = _
    rw [if_pos (cap_n (by omega))]
    rfl
  have c0 : (0 : Nat) ≤ cap := Nat.zero_le _
  revert d1 d2 d3
  generalize loreD A B L = lo
  intro d1 d2 d3
  show endOf (b_law_net_text [.val lo, .no, .no, .no, .no, .no]) = _
  simp [b_law_net_text, sNewL, d1, d2, d3, eM1, isStrD, j1, j2, eExtO, olAt, stepO, lComp, compGo, c0, wipeE, eFz, lt, va, j3]
include hA hB hL ne in
theorem net_init_ok : f_Net_init [.oi 7 [], .val (.str (netTx A B L))] = .ok .non (.oi 7 [.val (.str (netTx A B L)), .val (.tup [.str A, .str B]), .val (.dK []), .val (.dK [(.inr L, rowD A B)])]) := by
  have h0 := s0_word hA hB
  have h1 := s1_word hA hB hL
  have l0 := line_len h0
  have l1 := line_len h1
  have e0 : (s0W A B).length = 3 := rfl
  have e1 : (s1W A B L).length = 8 := rfl
  rw [e0] at l0
  rw [e1] at l1
  have sp : mSplit (.str (netTx A B L)) (.str "\n") = some (.lst [.str (Txt.join " " (s0W A B)), .str (Txt.join " " (s1W A B L))]) :=
    Tx.split_ok (ps := [Txt.join " " (s0W A B), Txt.join " " (s1W A B L)]) Tx.nl_tl (by decide) (by simp) (mem2 (line_nl h0) (line_nl h1)) (by
      have : (([Txt.join " " (s0W A B), Txt.join " " (s1W A B L)] : List Str).map (·.length)).sum = (Txt.join " " (s0W A B)).length + ((Txt.join " " (s1W A B L)).length + 0) := rfl
      rw [this]
      exact cap_n (by simp; omega))
  have sp0 : mSplit (.str (Txt.join " " (s0W A B))) (.str " ") = some (.lst [.str "stops", .str A, .str B]) := split_w h0 (by simp [s0W]) (by simp [s0W])
  have sp1 : mSplit (.str (Txt.join " " (s1W A B L))) (.str " ") = some (.lst [.str "line", .str L, .str A, .str "1", .str "60", .str "to", .str B, .str "5"]) := split_w h1 (by simp [s1W]) (by simp [s1W])
  have nA := isName_ok (List.all_eq_true.mp stop_isn A hA)
  have nB := isName_ok (List.all_eq_true.mp stop_isn B hB)
  have nL := isName_ok (List.all_eq_true.mp line_isn L hL)
  have ls2 : vLenSet (.lst [.str A, .str B]) = some (.int 2) := by
    show (if [Sum.inr A, (Sum.inr B : Key)].Nodup ∧ 2 < 60 then some (D.int 2) else none) = _
    rw [if_pos ⟨by simp [ne], by decide⟩]
  have ls1 : vLenSet (.lst [.str B]) = some (.int 1) := by
    show (if [(Sum.inr B : Key)].Nodup ∧ 1 < 60 then some (D.int 1) else none) = _
    rw [if_pos ⟨by simp, by decide⟩]
  have a2 : bAll [.lst [.bl true, .bl true]] = some (.bl true) := rfl
  have a1 : bAll [.lst [.bl true]] = some (.bl true) := rfl
  have a0 : bAll [.lst []] = some (.bl true) := rfl
  have si : f_stops_in [.val (.lst [.str "stops", .str A, .str B])] = .ok (.tup [.str A, .str B]) .no := by
    have sl : cutD [.str "stops", .str A, .str B] (some 1) none = [.str A, .str B] := cut1 _
    show endOf (b_stops_in [.val (.lst [.str "stops", .str A, .str B]), .no, .no]) = _
    simp [b_stops_in, sl, ixD, v_ltI, lComp, compGo, wipeE, nA, nB, a2, ls2]
  have ra : f_rides_in [.val (.tup [.str A, .str B]), .val (.str A), .val (.lst [.str B, .str "5"])] = .ok (.tup [.tup [.str B, .int 5]]) .no := by
    have p1 : vPick (.lst [.str B, .str "5"]) none (some 2) = some (.lst [.str B]) := by kernel_rfl
    have p2 : vPick (.lst [.str B, .str "5"]) (some 1) (some 2) = some (.lst [.str "5"]) := by kernel_rfl
    have ne0 : vEq (.lst [.str B, .str "5"]) (.lst []) = some (.bl false) := by
      have hf : PyData.strOk B = true := List.all_eq_true.mp stop_strs B hB
      have h5 : PyData.strOk "5" = true := by decide +kernel
      have t1 : toP (.lst [.str B, .str "5"]) = some (.list [.str B, .str "5"]) := rfl
      have t2 : toP (.lst []) = some (.list []) := rfl
      have s1 : SeqAt.shaped (.list [.str B, .str "5"]) = true := by
        unfold SeqAt.shaped
        simp [PyData.canLay0, PyData.canLayAll0, hf, h5, PyData.depth, PyData.depthAll]
      have s2 : SeqAt.shaped (.list []) = true := by
        unfold SeqAt.shaped
        simp [PyData.canLay0, PyData.canLayAll0, PyData.depth, PyData.depthAll]
      show (eqD (.lst [.str B, .str "5"]) (.lst [])).map _ = _
      unfold eqD
      rw [t1, t2]
      show (if (false && false) = true then _ else if SeqAt.shaped (.list [.str B, .str "5"]) && SeqAt.shaped (.list []) then some (PyData.eqv (.list [.str B, .str "5"]) (.list [])) else none : Option Bool).map _ = _
      rw [s1, s2]
      simp [PyData.eqv, PyData.eqvAll]
    have m2 : vMod (.int 2) (.int 2) = some (.int 0) := by kernel_rfl
    have iz : itZip1 [.lst [.str B], .lst [.int 5]] = some [.tup [.str B, .int 5]] := rfl
    have c5 : cutD [D.int 5] (some 1) none = [] := cut1 _
    have i0 : itZip [.lst [.int 5], .lst []] = some [] := rfl
    have nn : anyEq .non [.int 5] = some false := rfl
    have l1 : vLt (.int 1) (.int 1) = some (.bl false) := by rw [v_ltI]; rfl
    show endOf (b_rides_in [.val (.tup [.str A, .str B]), .val (.str A), .val (.lst [.str B, .str "5"]), .no, .no, .no, .no, .no, .no]) = _
    simp [b_rides_in, ne0, m2, sPar, eSliceK, p1, p2, lComp, compGo, wipeE, number_5, ne, ne.symm, a1, ls1, l1, nn, c5, i0, a0, iz]
  have tl : f_Draft_take_line [.oi 6 [.val (.tup [.str A, .str B]), .dK [], .dK []], .val (.lst [.str "line", .str L, .str A, .str "1", .str "60", .str "to", .str B, .str "5"])] = .ok (.bl true) (.oi 6 [.val (.tup [.str A, .str B]), .dK [], .dK [(.inr L, rowD A B)]]) := by
    have s1 : cutD [D.str "line", .str L, .str A, .str "1", .str "60", .str "to", .str B, .str "5"] (some 3) (some 5) = [.str "1", .str "60"] := by kernel_rfl
    have s2 : cutD [D.str "line", .str L, .str A, .str "1", .str "60", .str "to", .str B, .str "5"] (some 6) none = [.str B, .str "5"] := by kernel_rfl
    have gi : f_Gaps_init [.oi 5 [], .val (.int 1), .val (.int 60)] = .ok .non (.oi 5 [.val (.int 1), .val (.int 60)]) := by kernel_rfl
    have bl0 : bLen [.dK []] = some (.int 0) := rfl
    have in0 : vIn (.str L) (.dK []) = some (.bl false) := rfl
    have cp : (0 : Nat) < cap := by unfold cap; omega
    show endOf (b_Draft_take_line [.oi 6 [.val (.tup [.str A, .str B]), .dK [], .dK []], .val (.lst [.str "line", .str L, .str A, .str "1", .str "60", .str "to", .str B, .str "5"]), .no, .no, .no, .no, .no, .no]) = _
    simp [b_Draft_take_line, eBOD, dkOAt, flatR, isFlat, bl0, ixD, s1, s2, lComp, compGo, wipeE, number_1, number_60, nL, eOpOD, in0, ra, gi, sSetDK, Tr.keyOf, putO, cp, putD]
  have dt : f_Draft_take [.oi 6 [.val (.tup [.str A, .str B]), .dK [], .dK []], .val (.str (Txt.join " " (s1W A B L)))] = .ok (.bl true) (.oi 6 [.val (.tup [.str A, .str B]), .dK [], .dK [(.inr L, rowD A B)]]) := by
    show endOf (b_Draft_take [.oi 6 [.val (.tup [.str A, .str B]), .dK [], .dK []], .val (.str (Txt.join " " (s1W A B L))), .no]) = _
    have n1 : ¬ ("line" : Str) = "way" := by decide
    simp [b_Draft_take, eM1, isStrD, sp1, ixD, n1, eMethO, oiAt, callO, tl, ofRFo]
  have di : f_Draft_init [.oi 6 [], .val (.tup [.str A, .str B])] = .ok .non (.oi 6 [.val (.tup [.str A, .str B]), .dK [], .dK []]) := by
    show endOf (b_Draft_init [.oi 6 [], .val (.tup [.str A, .str B])]) = _
    simp [b_Draft_init, Tr.putF, sNewDK]
  have dr : f_draft_in [.val (.str (netTx A B L))] = .ok (.obj 6 [.tup [.str A, .str B], .dK [], .dK [(.inr L, rowD A B)]]) .no := by
    show endOf (b_draft_in [.val (.str (netTx A B L)), .no, .no, .no, .no, .no]) = _
    have en : itEnum [.lst [.str (Txt.join " " (s1W A B L))]] = some [.tup [.int 0, .str (Txt.join " " (s1W A B L))]] := rfl
    have c1 : cutD [D.str (Txt.join " " (s0W A B)), .str (Txt.join " " (s1W A B L))] (some 1) none = [.str (Txt.join " " (s1W A B L))] := cut1 _
    simp [b_draft_in, eM1, isStrD, sp, ixD, sp0, si, sNewI, di, ofMakeI, sFor, c1, en, forGo, eMethO, oiAt, callO, dt, ofRFo, eFz]
  show endOf (b_Net_init [.oi 7 [], .val (.str (netTx A B L)), .no]) = _
  simp [b_Net_init, dr, Tr.putF]
include hA hB hL ne in
theorem net_ok : ∃ T : Str, f_law_net_text [.val (loreD A B L)] = .ok (.str T) .no ∧ f_Net_init [.oi 7 [], .val (.str T)] = .ok .non (.oi 7 [.val (.str T), .val (.tup [.str A, .str B]), .val (.dK []), .val (.dK [(.inr L, rowD A B)])]) :=
  ⟨_, net_text_ok hA hB hL, net_init_ok hA hB ne hL⟩
end
end Pl
/- P20 -/
/-! The plain law: a round. -/
namespace Pl
open PySem hiding Env
open L2 Tr G
def poolL (m : Int) : List D := [dn (m - 3) (m - 1), dn (m - 1) (m - 1), dn (m - 2) m, dn (m - 6) (m - 4), dc (m - 7), dn (m - 5) (m - 2)]
theorem pool_lk {m : Int} : ∀ d ∈ poolL m, IsLk (m - 7) m d := by
  intro d h
  simp only [poolL, List.mem_cons, List.not_mem_nil, or_false] at h
  rcases h with rfl | rfl | rfl | rfl | rfl | rfl
  · exact .n _ _ (by omega) (by omega) (by omega)
  · exact .n _ _ (by omega) (by omega) (by omega)
  · exact .n _ _ (by omega) (by omega) (by omega)
  · exact .n _ _ (by omega) (by omega) (by omega)
  · exact .c _ (by omega) (by omega)
  · exact .n _ _ (by omega) (by omega) (by omega)
theorem pool_lk' {m : Int} : ∀ d ∈ poolL m, d ≠ dn (m - 2) m → IsLk (m - 7) (m - 1) d := by
  intro d h ne
  simp only [poolL, List.mem_cons, List.not_mem_nil, or_false] at h
  rcases h with rfl | rfl | rfl | rfl | rfl | rfl
  · exact .n _ _ (by omega) (by omega) (by omega)
  · exact .n _ _ (by omega) (by omega) (by omega)
  · exact absurd rfl ne
  · exact .n _ _ (by omega) (by omega) (by omega)
  · exact .c _ (by omega) (by omega)
  · exact .n _ _ (by omega) (by omega) (by omega)
theorem pool_nd (m : Int) : (poolL m).Nodup := by
  unfold poolL dn dc
  simp only [List.nodup_cons, List.mem_cons, List.not_mem_nil, or_false, not_or, not_false_eq_true, List.nodup_nil, and_true, D.tup.injEq, List.cons.injEq, D.int.injEq, D.str.injEq, reduceCtorEq, and_false, false_and, true_and]
  omega
theorem pool_apart (m : Int) : Apart (poolL m) := by
  intro a b c h1 h2
  simp only [poolL, dn, dc, List.mem_cons, List.not_mem_nil, or_false, D.tup.injEq, List.cons.injEq, D.int.injEq, D.str.injEq, reduceCtorEq, and_false, false_and, true_and, and_true, came_eq, none_eq, false_or, or_false] at h1 h2
  omega
section
variable (T A B L : Str)
theorem begin_ok {m : Int} {found left : List D} (m0 : 100 ≤ m) (m1 : m ≤ 2899) (pm : (found ++ left).Perm (poolL m)) (fl : found.length ≤ 5) (c : Bool) (hc : dn (m - 2) m ∈ found → c = false) :
    ∃ ds', f_looked [.val (seenD T A B L (found.mergeSort leD)), .val (.str A), .val (.int m), .val (carsD L c)] = .ok (seenD T A B L ds') .no ∧ f_law_due [.val (.tup (found.mergeSort leD)), .val (.int m), .val (.bl c)] = .ok (.tup ds') .no ∧ Srt (m - 7) m ds' ∧ Apart ds' ∧ ds'.length ≤ 6 := by
  have mf : ∀ d ∈ found, d ∈ poolL m := fun d h => pm.mem_iff.mp (List.mem_append_left _ h)
  have nd : found.Nodup := (pm.nodup_iff.mpr (pool_nd m)).sublist (List.sublist_append_left _ _)
  have pms : (found.mergeSort leD).Perm found := List.mergeSort_perm _ _
  have ap : Apart (found.mergeSort leD) := fun a b c h1 h2 => pool_apart m a b c (mf _ (pms.mem_iff.mp h1)) (mf _ (pms.mem_iff.mp h2))
  have ln : (found.mergeSort leD).length ≤ 5 := by rw [List.length_mergeSort]; exact fl
  by_cases h : dn (m - 2) m ∈ found
  · have := hc h
    subst this
    have s := srt_sort (lo := m - 7) (hi := m) (fun d k => pool_lk d (mf d k)) nd
    obtain ⟨e1, e2⟩ := held_ok (T := T) (A := A) (B := B) (L := L) s ap (by omega) (by omega) (by omega) (by omega) (by omega) ⟨_, pms.mem_iff.mpr h, by rw [holds_n]; simp; omega⟩
    exact ⟨_, e1, e2, s, ap, by omega⟩
  · have s := srt_sort (lo := m - 7) (hi := m - 1) (fun d k => pool_lk' d (mf d k) fun z => h (z ▸ k)) nd
    obtain ⟨ds', e1, e2, e3, e4, e5⟩ := step_ok (T := T) (A := A) (B := B) (L := L) s ap (by omega) (by omega) (t := m) (by omega) (by omega) (by omega) (by omega) c
    exact ⟨ds', e1, e2, e3, e4, by omega⟩
end
/-! the statements of a round -/
def r1 : SM := (sAsg (eTup (lCons (eCallO f_law_stop_names 0 (lCons (eC (.int 2)) lNil)) (lCons (eOp vIx (eCallO f_law_line_names 0 (lCons (eC (.int 1)) lNil)) (eC (.int 0))) (lCons (eOp vAdd (eC (.int 100)) (eCallO f_law_take 0 (lCons (eC (.int 2800)) lNil))) lNil)))) (gTupM 3 (gConsM (gLstM 2 (gConsM (gSet 1) (gConsM (gSet 2) gNilM))) (gConsM (gSet 3) (gConsM (gSet 4) gNilM)))))
def r2 : SM := (sAsg (eDisp [.inr "stops", .inr "ways", .inr "lines"] (lCons (eLst (lCons (eV 1) (lCons (eV 2) lNil))) (lCons (eLst lNil) (lCons (eLst (lCons (eTup (lCons (eV 3) (lCons (eV 1) (lCons (eC (.int 1)) (lCons (eC (.int 60)) (lCons (eTup (lCons (eTup (lCons (eV 2) (lCons (eC (.int 5)) lNil))) lNil)) lNil)))))) lNil)) lNil)))) (gSet 5))
def r3 : SM := (sNewL 6 (lCap (lCons (eTup (lCons (eC (.str "none")) (lCons (eOp vSub (eV 4) (eC (.int 3))) (lCons (eOp vSub (eV 4) (eC (.int 1))) lNil)))) (lCons (eTup (lCons (eC (.str "none")) (lCons (eOp vSub (eV 4) (eC (.int 1))) (lCons (eOp vSub (eV 4) (eC (.int 1))) lNil)))) (lCons (eTup (lCons (eC (.str "none")) (lCons (eOp vSub (eV 4) (eC (.int 2))) (lCons (eV 4) lNil)))) lNil)))))
def r4 : SM := (sExpr (eExtO 6 (lCap (lCons (eTup (lCons (eC (.str "none")) (lCons (eOp vSub (eV 4) (eC (.int 6))) (lCons (eOp vSub (eV 4) (eC (.int 4))) lNil)))) (lCons (eTup (lCons (eC (.str "came")) (lCons (eOp vSub (eV 4) (eC (.int 7))) lNil))) (lCons (eTup (lCons (eC (.str "none")) (lCons (eOp vSub (eV 4) (eC (.int 5))) (lCons (eOp vSub (eV 4) (eC (.int 2))) lNil)))) lNil))))))
def r5 : SM := (sAsg (eB bTuple (lCons (eB bSorted (lCons (eCallO f_law_some 0 (lCons (eFz 6) (lCons (eCallO f_law_take 0 (lCons (eC (.int 6)) lNil)) lNil))) lNil)) lNil)) (gSet 7))
def r6 : SM := (sAsg (eIf (tE (eOp vIn (eTup (lCons (eC (.str "none")) (lCons (eOp vSub (eV 4) (eC (.int 2))) (lCons (eV 4) lNil)))) (eV 7))) (eTup lNil) (eCallO f_law_of 0 (lCons (eLst (lCons (eTup lNil) (lCons (eTup (lCons (eV 3) lNil)) lNil))) lNil))) (gSet 8))
def r7 : SM := (sNewI 9 4 f_Day_init (lApp (lNum 3 (lCons (eMake 2 f_Seen_init (lCons (eMake 7 f_Net_init (lCons (eCall f_law_net_text (lCons (eV 5) lNil)) lNil)) (lCons (eB bTuple (lCons (eLstN (lComp (lItems (eV 7)) [12] (gSet 12) tYesM (eTup (lCons (eV 3) (lCons (eV 12) lNil))))) lNil)) lNil))) (lCons (eV 1) (lCons (eV 4) lNil)))) (lNum 1 (lCons (eV 8) lNil))))
def r8 : SM := (sAsg (eCall f_law_due (lCons (eV 7) (lCons (eV 4) (lCons (eOp vNe (eV 8) (eTup lNil)) lNil)))) (gSet 10))
def reprs : EM → EM → EM := fun a b => a
def rA : EM := (eB bRepr (lCons (eProp 2 f_Seen_looks (ePropO 4 f_Day_seen 9)) lNil))
def rB : EM := (eB bRepr (lCons (eB bTuple (lCons (eLstN (lComp (lItems (eV 10)) [12] (gSet 12) tYesM (eTup (lCons (eV 3) (lCons (eV 12) lNil))))) lNil)) lNil))
def b1 : SM := (sIf (tE (eOp vNe rA rB)) (sRet (eC (.bl false))) sNil)
def b2 : SM := (sAsg (eCallO f_law_of 0 (lCons (eLst (lCons (eTup lNil) (lCons (eTup lNil) (lCons (eTup (lCons (eV 3) lNil)) lNil)))) lNil)) (gSet 8))
def b3 : SM := (sExpr (eMethO 4 f_Day_stay 9 (lNum 1 (lCons (eV 8) lNil))))
def b4 : SM := (sAsg (eCall f_law_due (lCons (eV 10) (lCons (eOp vAdd (eOp vAdd (eV 4) (eV 11)) (eC (.int 1))) (lCons (eOp vNe (eV 8) (eTup lNil)) lNil)))) (gSet 10))
def bodyR : SM := sCons b1 (sCons b2 (sCons b3 b4))
def r9 : SM := (sFor (lIt itRange1 (lCons (eOp vAdd (eC (.int 1)) (eCallO f_law_take 0 (lCons (eC (.int 8)) lNil))) lNil)) (gSet 11) bodyR)
def r10 : SM := (sRet (eOp vEq rA rB))
theorem right_eq : b_law_right = sCons r1 (sCons r2 (sCons r3 (sCons r4 (sCons r5 (sCons r6 (sCons r7 (sCons r8 (sCons r9 r10)))))))) := rfl
theorem sCons_of {a b : SM} {ρ ρ' : Env} (e : a ρ = .ok none ρ') : sCons a b ρ = b ρ' := by rw [s_sCons, e]; rfl
theorem sCons_assoc (a b c : SM) (ρ : Env) : sCons a (sCons b c) ρ = sCons (sCons a b) c ρ := by
  rw [s_sCons, s_sCons, s_sCons, bnd_assoc]
  congr 1
  funext o ρ
  cases o <;> rfl
section
variable {T A B L : Str} {m t : Int} {ds : List D} {s0 : D} {qs : List D} {x : Str} {x5 x6 x7 x8 x11 x12 : SV} {p : List D}
abbrev envR (p : List D) (T A B L : Str) (m t : Int) (ds : List D) (s0 : D) (qs : List D) (x : Str) (x5 x6 x7 x8 x11 x12 : SV) : Env := [.ol p, .val (.str A), .val (.str B), .val (.str L), .val (.int m), x5, x6, x7, x8, .oi 4 (dayF s0 (qs ++ [momD T A B L x ds t])), .val (.tup ds), x11, x12]
theorem rA_ok (hL : L ∈ lineNames) (h : ∀ d ∈ ds, IsLk 0 2999 d) (hl : ds.length ≤ 60) (hq : qs.length < 500) : ∃ z, rA (envR p T A B L m t ds s0 qs x x5 x6 x7 x8 x11 x12) = .ok (.str z) (envR p T A B L m t ds s0 qs x x5 x6 x7 x8 x11 x12) ∧ rB (envR p T A B L m t ds s0 qs x x5 x6 x7 x8 x11 .no) = .ok (.str z) (envR p T A B L m t ds s0 qs x x5 x6 x7 x8 x11 .no) := by
  obtain ⟨z, e⟩ := repr_ok hL h hl
  have d1 := day_seen_ok (T := T) (A := A) (B := B) (L := L) (s0 := s0) (x := x) (ds := ds) (t := t) hq
  refine ⟨z, ?_, ?_⟩
  · unfold envR
    revert d1
    generalize qs ++ [momD T A B L x ds t] = ps
    intro d1
    simp [rA, ePropO, ofPPo, d1, seen_looks_ok, e]
  · unfold envR
    generalize qs ++ [momD T A B L x ds t] = ps
    have c := comp_all (vs := [12]) (g := gSet 12) (te := eTup (lCons (eV 3) (lCons (eV 12) lNil))) (ρ := [.ol p, .val (.str A), .val (.str B), .val (.str L), .val (.int m), x5, x6, x7, x8, .oi 4 (dayF s0 ps), .val (.tup ds), x11, .no]) (pr L) (xs := ds) fun y my => ⟨[.ol p, .val (.str A), .val (.str B), .val (.str L), .val (.int m), x5, x6, x7, x8, .oi 4 (dayF s0 ps), .val (.tup ds), x11, .val y], [.ol p, .val (.str A), .val (.str B), .val (.str L), .val (.int m), x5, x6, x7, x8, .oi 4 (dayF s0 ps), .val (.tup ds), x11, .val y], by simp, by simp, by simp [wipeE]⟩
    simp [rB, lComp, cap_n (show ds.length ≤ 1000 by omega), wipeE, c, e]
theorem b1_ok (hL : L ∈ lineNames) (h : ∀ d ∈ ds, IsLk 0 2999 d) (hl : ds.length ≤ 60) (hq : qs.length < 500) : b1 (envR p T A B L m t ds s0 qs x x5 x6 x7 x8 x11 .no) = .ok none (envR p T A B L m t ds s0 qs x x5 x6 x7 x8 x11 .no) := by
  obtain ⟨z, e1, e2⟩ := rA_ok (p := p) (T := T) (A := A) (B := B) (m := m) (t := t) (s0 := s0) (x := x) (x5 := x5) (x6 := x6) (x7 := x7) (x8 := x8) (x11 := x11) (x12 := .no) hL h hl hq
  simp only [b1, s_sIf, s_tE, s_eOp, e1, e2, bnd_ok, v_neS, optR_some, s_asB, decide_true, Bool.not_true, if_false, Bool.false_eq_true, s_sNil]
theorem r10_ok (hL : L ∈ lineNames) (h : ∀ d ∈ ds, IsLk 0 2999 d) (hl : ds.length ≤ 60) (hq : qs.length < 500) : r10 (envR p T A B L m t ds s0 qs x x5 x6 x7 x8 x11 .no) = .ok (some (.bl true)) (envR p T A B L m t ds s0 qs x x5 x6 x7 x8 x11 .no) := by
  obtain ⟨z, e1, e2⟩ := rA_ok (p := p) (T := T) (A := A) (B := B) (m := m) (t := t) (s0 := s0) (x := x) (x5 := x5) (x6 := x6) (x7 := x7) (x8 := x8) (x11 := x11) (x12 := .no) hL h hl hq
  simp only [r10, s_sRet, s_eOp, e1, e2, bnd_ok, v_eqS, optR_some, decide_true]
theorem b2_ok {n : Int} (hp : Pot n p) (hn : n < 1000) (d9 d10 : SV) : ∃ c p', b2 [.ol p, .val (.str A), .val (.str B), .val (.str L), .val (.int m), x5, x6, x7, x8, d9, d10, x11, x12] = .ok none [.ol p', .val (.str A), .val (.str B), .val (.str L), .val (.int m), x5, x6, x7, .val (carsD L c), d9, d10, x11, x12] ∧ Pot (n + 1) p' := by
  obtain ⟨y, p', e, my, hp'⟩ := of_ok (xs := [.tup [], .tup [], .tup [.str L]]) hp (by omega) (by simp) (by simp)
  have : ∃ c, y = carsD L c := by
    simp only [List.mem_cons, List.not_mem_nil, or_false] at my
    rcases my with rfl | rfl | rfl
    · exact ⟨false, rfl⟩
    · exact ⟨false, rfl⟩
    · exact ⟨true, rfl⟩
  obtain ⟨c, rfl⟩ := this
  refine ⟨c, p', ?_, hp'⟩
  simp [b2, eCallO, ownAt, SV.isOwn, callO, ofRFo, e]
theorem b34_ok (hL : L ∈ lineNames) {lo : Int} (h : Srt lo t ds) (ap : Apart ds) (hl : ds.length ≤ 50) (h0 : 0 ≤ lo) (lt : lo ≤ t) (h1 : t + 1 ≤ 2999) (hn : t + 2 - lo ≤ 59) (hq : qs.length < 400) (c : Bool) {i : Int} (hi : m + i = t) :
    ∃ x' ds', sCons b3 b4 (envR p T A B L m t ds s0 qs x x5 x6 x7 (.val (carsD L c)) (.val (.int i)) x12) = .ok none (envR p T A B L m (t + 1) ds' s0 (qs ++ [momD T A B L x ds t]) x' x5 x6 x7 (.val (carsD L c)) (.val (.int i)) x12) ∧ Srt lo (t + 1) ds' ∧ Apart ds' ∧ ds'.length ≤ ds.length + 1 := by
  obtain ⟨ds', e1, e2, e3, e4, e5⟩ := step_ok (T := T) (A := A) (B := B) (L := L) h ap hl h0 (t := t + 1) (by omega) (by omega) (by omega) (by omega) c
  obtain ⟨x', es⟩ := day_stay_ok (qs := qs) (s0 := s0) (x := x) hL c hq h1 e1
  have nc := ne_cars hL c
  refine ⟨x', ds', ?_, e3, e4, e5⟩
  revert es e1 nc
  unfold envR
  generalize carsD L c = cd
  generalize (qs ++ [momD T A B L x ds t]) ++ [momD T A B L x' ds' (t + 1)] = ps'
  generalize qs ++ [momD T A B L x ds t] = ps
  intro e1 es nc
  have s3 : b3 [.ol p, .val (.str A), .val (.str B), .val (.str L), .val (.int m), x5, x6, x7, .val cd, .oi 4 (dayF s0 ps), .val (.tup ds), .val (.int i), x12] = .ok none [.ol p, .val (.str A), .val (.str B), .val (.str L), .val (.int m), x5, x6, x7, .val cd, .oi 4 (dayF s0 ps'), .val (.tup ds), .val (.int i), x12] := by
    simp [b3, eMethO, oiAt, lNum, callO, ofRFo, es]
  rw [s_sCons, s3]
  show b4 _ = _
  have ti : m + i + 1 = t + 1 := by omega
  simp [b4, nc, ti, e2]
theorem turns_ok (hL : L ∈ lineNames) {lo : Int} (h0 : 0 ≤ lo) : ∀ (n : Nat) (i t : Int) (ds : List D) (qs : List D) (x : Str) (p : List D) (x8 x11 : SV) (k : Int), Pot k p → k + n < 900 → Srt lo t ds → Apart ds → ds.length + n ≤ 50 → qs.length + n < 300 → lo ≤ t → t + n ≤ 2999 → t + n + 1 - lo ≤ 59 → m + i = t →
    ∃ t' ds' qs' x' p' y8 y11, forGo (gSet 11) bodyR (rangeD i n) (envR p T A B L m t ds s0 qs x x5 x6 x7 x8 x11 .no) = .ok none (envR p' T A B L m t' ds' s0 qs' x' x5 x6 x7 y8 y11 .no) ∧ Pot (k + n) p' ∧ (∀ d ∈ ds', IsLk 0 2999 d) ∧ ds'.length ≤ 50 ∧ qs'.length < 400
  | 0, i, t, ds, qs, x, p, x8, x11, k, hp, hk, h, ap, hl, hq, lt, h1, hn, hi => ⟨t, ds, qs, x, p, x8, x11, rfl, hp.mono (by omega), fun d m => (h.lk d m).mono h0 (by omega), by omega, by omega⟩
  | n + 1, i, t, ds, qs, x, p, x8, x11, k, hp, hk, h, ap, hl, hq, lt, h1, hn, hi => by
    have s1 := b1_ok (p := p) (T := T) (A := A) (B := B) (m := m) (t := t) (s0 := s0) (x := x) (x5 := x5) (x6 := x6) (x7 := x7) (x8 := x8) (x11 := .val (.int i)) (qs := qs) hL (fun d m => (h.lk d m).mono h0 (by omega)) (by omega) (by omega)
    obtain ⟨c, p1, s2, hp1⟩ := b2_ok (A := A) (B := B) (L := L) (m := m) (x5 := x5) (x6 := x6) (x7 := x7) (x8 := x8) (x11 := .val (.int i)) (x12 := .no) hp (by omega) (.oi 4 (dayF s0 (qs ++ [momD T A B L x ds t]))) (.val (.tup ds))
    obtain ⟨x1, ds1, s3, e3, e4, e5⟩ := b34_ok (p := p1) (T := T) (A := A) (B := B) (m := m) (s0 := s0) (x := x) (x5 := x5) (x6 := x6) (x7 := x7) (x12 := .no) (qs := qs) hL h ap (by omega) h0 lt (by omega) (by omega) (by omega) c hi
    obtain ⟨t', ds', qs', x', p', y8, y11, e6, e7, e8, e9, e10⟩ := turns_ok hL h0 n (i + 1) (t + 1) ds1 (qs ++ [momD T A B L x ds t]) x1 p1 (.val (carsD L c)) (.val (.int i)) (k + 1) hp1 (by omega) e3 e4 (by omega) (by simp; omega) (by omega) (by omega) (by omega) (by omega)
    refine ⟨t', ds', qs', x', p', y8, y11, ?_, e7.mono (by omega), e8, e9, e10⟩
    rw [rangeD_succ, forGo]
    show bnd (bnd (b1 (envR p T A B L m t ds s0 qs x x5 x6 x7 x8 (.val (.int i)) .no)) _) _ = _
    rw [s1]
    show bnd (bnd (b2 (envR p T A B L m t ds s0 qs x x5 x6 x7 x8 (.val (.int i)) .no)) _) _ = _
    rw [s2]
    show bnd (sCons b3 b4 (envR p1 T A B L m t ds s0 qs x x5 x6 x7 (.val (carsD L c)) (.val (.int i)) .no)) _ = _
    rw [s3]
    show forGo _ _ _ _ = _
    rw [e6]
end
end Pl
/- P21 -/
/-! The plain law: a round, whole; the law. -/
namespace Pl
open PySem hiding Env
open L2 Tr G
theorem r1_ok {n : Int} {p : List D} (hp : Pot n p) (hn : n < 900) : ∃ (A B L : Str) (m : Int) (p' : List D), r1 [.ol p, .no, .no, .no, .no, .no, .no, .no, .no, .no, .no, .no, .no] = .ok none [.ol p', .val (.str A), .val (.str B), .val (.str L), .val (.int m), .no, .no, .no, .no, .no, .no, .no, .no] ∧ A ∈ stopNames ∧ B ∈ stopNames ∧ A ≠ B ∧ L ∈ lineNames ∧ 100 ≤ m ∧ m ≤ 2899 ∧ Pot (n + 4) p' := by
  obtain ⟨A, B, p1, e1, hA, hB, ne, hp1⟩ := stop_names_ok hp (by omega)
  obtain ⟨L, p2, e2, hL, hp2⟩ := line_names_ok hp1 (by omega)
  obtain ⟨k, p3, e3, k0, k1, hp3⟩ := take_ok hp2 (by omega) (many := 2800) (by omega) (by omega)
  refine ⟨A, B, L, 100 + k, p3, ?_, hA, hB, ne, hL, by omega, by omega, hp3.mono (by omega)⟩
  simp [r1, eCallO, ownAt, SV.isOwn, callO, ofRFo, e1, e2, e3, ixD]
theorem r2_ok (p : List D) (A B L : Str) (m : SV) : r2 [.ol p, .val (.str A), .val (.str B), .val (.str L), m, .no, .no, .no, .no, .no, .no, .no, .no] = .ok none [.ol p, .val (.str A), .val (.str B), .val (.str L), m, .val (loreD A B L), .no, .no, .no, .no, .no, .no, .no] := by
  have c0 : (0 : Nat) ≤ cap := Nat.zero_le _
  have e : mergeD [] ([(.inr "stops" : Key), .inr "ways", .inr "lines"].zip [.lst [.str A, .str B], .lst [], .lst [.tup [.str L, .str A, .int 1, .int 60, .tup [.tup [.str B, .int 5]]]]]) = [(.inr "stops", .lst [.str A, .str B]), (.inr "ways", .lst []), (.inr "lines", .lst [.tup [.str L, .str A, .int 1, .int 60, .tup [.tup [.str B, .int 5]]]])] := by
    have n1 : ¬ ("stops" : Str) = "ways" := by decide
    have n2 : ¬ ("stops" : Str) = "lines" := by decide
    have n3 : ¬ ("ways" : Str) = "lines" := by decide
    simp [mergeD, putD, n1, n2, n3]
  simp only [List.zip_cons_cons, List.zip_nil_right] at e
  simp [r2, eDisp, c0, e]
theorem r34_ok (p : List D) (A B L : Str) (m : Int) (x5 : SV) : r3 [.ol p, .val (.str A), .val (.str B), .val (.str L), .val (.int m), x5, .no, .no, .no, .no, .no, .no, .no] = .ok none [.ol p, .val (.str A), .val (.str B), .val (.str L), .val (.int m), x5, .ol ((poolL m).take 3), .no, .no, .no, .no, .no, .no] ∧
    r4 [.ol p, .val (.str A), .val (.str B), .val (.str L), .val (.int m), x5, .ol ((poolL m).take 3), .no, .no, .no, .no, .no, .no] = .ok none [.ol p, .val (.str A), .val (.str B), .val (.str L), .val (.int m), x5, .ol (poolL m), .no, .no, .no, .no, .no, .no] := by
  constructor
  · simp [r3, sNewL, poolL]
  · simp [r4, eExtO, olAt, stepO, poolL]
theorem r5_ok {n : Int} {p : List D} (hp : Pot n p) (hn : n < 900) (A B L : Str) {m : Int} (x5 : SV) : ∃ (found left p' : List D), r5 [.ol p, .val (.str A), .val (.str B), .val (.str L), .val (.int m), x5, .ol (poolL m), .no, .no, .no, .no, .no, .no] = .ok none [.ol p', .val (.str A), .val (.str B), .val (.str L), .val (.int m), x5, .val (.lst (poolL m)), .val (.tup (found.mergeSort leD)), .no, .no, .no, .no, .no] ∧ (found ++ left).Perm (poolL m) ∧ found.length ≤ 5 ∧ Pot (n + 6) p' := by
  obtain ⟨k, p1, e1, k0, k1, hp1⟩ := take_ok hp (by omega) (many := 6) (by omega) (by omega)
  obtain ⟨kn, rfl⟩ : ∃ kn : Nat, k = (kn : Int) := ⟨k.toNat, by omega⟩
  obtain ⟨p2, left, found, e2, hp2, pm, fl⟩ := some_ok (pool := poolL m) (many := kn) hp1 (by omega) (by show kn ≤ 6; omega) (by show 6 < 500; decide)
  have so := (sorted_ok (lo := m - 7) (hi := m) (xs := found) (fun d h => pool_lk d (pm.mem_iff.mp (List.mem_append_left _ h))) (cap_n (by omega))).1
  refine ⟨found, left, p2, ?_, pm, by omega, hp2.mono (by omega)⟩
  simp [r5, eCallO, ownAt, SV.isOwn, callO, eFz, e1, e2, ofRFo, so]
theorem r6_ok {n : Int} {p : List D} (hp : Pot n p) (hn : n < 900) (A B : Str) {L : Str} {m : Int} {ds : List D} (x5 x6 : SV) (h : ∀ d ∈ ds, IsLk (m - 7) m d) : ∃ (c : Bool) (p' : List D), r6 [.ol p, .val (.str A), .val (.str B), .val (.str L), .val (.int m), x5, x6, .val (.tup ds), .no, .no, .no, .no, .no] = .ok none [.ol p', .val (.str A), .val (.str B), .val (.str L), .val (.int m), x5, x6, .val (.tup ds), .val (carsD L c), .no, .no, .no, .no] ∧ (dn (m - 2) m ∈ ds → c = false) ∧ Pot (n + 1) p' := by
  obtain ⟨b, b1, b2⟩ := anyEq_lk (lo := m - 7) (hi := m) (IsLk.n (m - 2) m (by omega) (by omega) (by omega)) h
  have vi : vIn (dn (m - 2) m) (.tup ds) = some (.bl b) := by rw [vInT, b1]; rfl
  have c0 : (0 : Nat) ≤ cap := Nat.zero_le _
  by_cases q : dn (m - 2) m ∈ ds
  · refine ⟨false, p, ?_, fun _ => rfl, hp.mono (by omega)⟩
    rw [b2.mpr q] at vi
    simp only [r6, s_sAsg, s_eIf, s_tE, s_eOp, s_eTup, s_lCons, s_lNil, s_eC, s_eV, List.getElem?_cons_zero, List.getElem?_cons_succ, bnd_ok, v_sub, optR_some, List.length_cons, List.length_nil, Nat.reduceAdd, cap_3, if_true, vi, s_asB, c0, s_gSet, Nat.reduceLT]
    rfl
  · obtain ⟨y, p', e, my, hp'⟩ := of_ok (xs := [.tup [], .tup [.str L]]) hp (by omega) (by simp) (by simp)
    have : ∃ c, y = carsD L c := by
      simp only [List.mem_cons, List.not_mem_nil, or_false] at my
      rcases my with rfl | rfl
      · exact ⟨false, rfl⟩
      · exact ⟨true, rfl⟩
    obtain ⟨c, rfl⟩ := this
    refine ⟨c, p', ?_, fun z => absurd z q, hp'⟩
    have bf : b = false := by
      cases b with
      | false => rfl
      | true => exact absurd (b2.mp rfl) q
    rw [bf] at vi
    have ec : eCallO f_law_of 0 (lCons (eLst (lCons (eTup lNil) (lCons (eTup (lCons (eV 3) lNil)) lNil))) lNil) [.ol p, .val (.str A), .val (.str B), .val (.str L), .val (.int m), x5, x6, .val (.tup ds), .no, .no, .no, .no, .no] = .ok (carsD L c) [.ol p', .val (.str A), .val (.str B), .val (.str L), .val (.int m), x5, x6, .val (.tup ds), .no, .no, .no, .no, .no] := by
      simp [eCallO, ownAt, SV.isOwn, callO, ofRFo, e]
    simp only [r6, s_sAsg, s_eIf, s_tE, s_eOp, s_eTup, s_lCons, s_lNil, s_eC, s_eV, List.getElem?_cons_zero, List.getElem?_cons_succ, bnd_ok, v_sub, optR_some, List.length_cons, List.length_nil, Nat.reduceAdd, cap_3, if_true, vi, s_asB, if_false, Bool.false_eq_true, ec, s_gSet, Nat.reduceLT]
    rfl
theorem r78_ok (p : List D) {A B L : Str} {m : Int} {ds ds' : List D} (x6 : SV) (hA : A ∈ stopNames) (hB : B ∈ stopNames) (ne : A ≠ B) (hL : L ∈ lineNames) (m0 : 100 ≤ m) (m1 : m ≤ 2899) (h : Srt (m - 7) m ds) (hl : ds.length ≤ 50) (ap : Apart ds) (c : Bool)
    (lk : ∀ T, f_looked [.val (seenD T A B L ds), .val (.str A), .val (.int m), .val (carsD L c)] = .ok (seenD T A B L ds') .no) (du : f_law_due [.val (.tup ds), .val (.int m), .val (.bl c)] = .ok (.tup ds') .no) :
    ∃ (T x : Str), sCons r7 r8 [.ol p, .val (.str A), .val (.str B), .val (.str L), .val (.int m), .val (loreD A B L), x6, .val (.tup ds), .val (carsD L c), .no, .no, .no, .no] = .ok none (envR p T A B L m m ds' (seenD T A B L ds) [] x (.val (loreD A B L)) x6 (.val (.tup ds)) (.val (carsD L c)) .no .no) := by
  obtain ⟨T, n1, n2⟩ := net_ok hA hB ne hL
  obtain ⟨x, dy⟩ := day_init_ok (T := T) (B := B) hA hL c (lo := m - 7) (t := m) (by omega) (by omega) (by omega) h (by omega) ap (by omega) (lk T)
  have si := seen_init_ok T A B L (h.mono (show 0 ≤ m - 7 by omega) (show m ≤ 2999 by omega)) (by omega)
  have nc := ne_cars hL c
  refine ⟨T, x, ?_⟩
  revert dy nc
  unfold envR
  generalize carsD L c = cd
  intro dy nc
  have cm := comp_all (vs := [12]) (g := gSet 12) (te := eTup (lCons (eV 3) (lCons (eV 12) lNil))) (ρ := [.ol p, .val (.str A), .val (.str B), .val (.str L), .val (.int m), .val (loreD A B L), x6, .val (.tup ds), .val cd, .no, .no, .no, .no]) (pr L) (xs := ds) fun y my => ⟨[.ol p, .val (.str A), .val (.str B), .val (.str L), .val (.int m), .val (loreD A B L), x6, .val (.tup ds), .val cd, .no, .no, .no, .val y], [.ol p, .val (.str A), .val (.str B), .val (.str L), .val (.int m), .val (loreD A B L), x6, .val (.tup ds), .val cd, .no, .no, .no, .val y], by simp, by simp, by simp [wipeE]⟩
  have s7 : r7 [.ol p, .val (.str A), .val (.str B), .val (.str L), .val (.int m), .val (loreD A B L), x6, .val (.tup ds), .val cd, .no, .no, .no, .no] = .ok none [.ol p, .val (.str A), .val (.str B), .val (.str L), .val (.int m), .val (loreD A B L), x6, .val (.tup ds), .val cd, .oi 4 (dayF (seenD T A B L ds) ([] ++ [momD T A B L x ds' m])), .no, .no, .no] := by
    simp [r7, sNewI, lApp, lNum, n1, n2, lComp, cap_n (show ds.length ≤ 1000 by omega), wipeE, cm, si, dy, ofMakeI]
  rw [sCons_of s7]
  simp [r8, nc, du]
theorem right_ok {n : Int} {p : List D} (hp : Pot n p) (hn : n < 800) : ∃ p', f_law_right [.ol p] = .ok (.bl true) (.ol p') ∧ Pot (n + 20) p' := by
  obtain ⟨A, B, L, m, p1, s1, hA, hB, ne, hL, m0, m1, hp1⟩ := r1_ok hp (by omega)
  have s2 := r2_ok p1 A B L (.val (.int m))
  obtain ⟨s3, s4⟩ := r34_ok p1 A B L m (.val (loreD A B L))
  obtain ⟨found, left, p2, s5, pm, fl, hp2⟩ := r5_ok hp1 (by omega) A B L (m := m) (.val (loreD A B L))
  have mf : ∀ d ∈ found, d ∈ poolL m := fun d h => pm.mem_iff.mp (List.mem_append_left _ h)
  have nd : found.Nodup := (pm.nodup_iff.mpr (pool_nd m)).sublist (List.sublist_append_left _ _)
  have pms : (found.mergeSort leD).Perm found := List.mergeSort_perm _ _
  have hs := srt_sort (lo := m - 7) (hi := m) (fun d k => pool_lk d (mf d k)) nd
  have ap : Apart (found.mergeSort leD) := fun a b c h1 h2 => pool_apart m a b c (mf _ (pms.mem_iff.mp h1)) (mf _ (pms.mem_iff.mp h2))
  have ln : (found.mergeSort leD).length ≤ 5 := by rw [List.length_mergeSort]; exact fl
  obtain ⟨c, p3, s6, hc, hp3⟩ := r6_ok hp2 (by omega) A B (L := L) (.val (loreD A B L)) (.val (.lst (poolL m))) hs.lk
  have bg := fun T => begin_ok T A B L m0 m1 pm fl c fun z => hc (pms.mem_iff.mpr z)
  obtain ⟨ds', _, du, g3, g4, g5⟩ := bg ""
  have lk : ∀ T, f_looked [.val (seenD T A B L (found.mergeSort leD)), .val (.str A), .val (.int m), .val (carsD L c)] = .ok (seenD T A B L ds') .no := fun T => by
    obtain ⟨ds2, l2, du2, _⟩ := bg T
    have : ds2 = ds' := by
      have e := du2.symm.trans du
      injection e with e
      injection e
    rw [← this]
    exact l2
  obtain ⟨T, x, s78⟩ := r78_ok p3 (.val (.lst (poolL m))) hA hB ne hL m0 m1 hs (by omega) ap c lk du
  obtain ⟨k, p4, e4, k0, k1, hp4⟩ := take_ok hp3 (by omega) (many := 8) (by omega) (by omega)
  obtain ⟨t', ds2, qs', x', p5, y8, y11, e5, hp5, h6, h7, h8⟩ := turns_ok (p := p4) (T := T) (A := A) (B := B) (m := m) (s0 := seenD T A B L (found.mergeSort leD)) (x5 := .val (loreD A B L)) (x6 := .val (.lst (poolL m))) (x7 := .val (.tup (found.mergeSort leD))) hL (lo := m - 7) (by omega) (1 + k).toNat 0 m ds' [] x (.val (carsD L c)) .no _ hp4 (by omega) g3 g4 (by omega) (by simp; omega) (by omega) (by omega) (by omega) (by omega)
  have s10 := r10_ok (p := p5) (T := T) (A := A) (B := B) (m := m) (t := t') (s0 := seenD T A B L (found.mergeSort leD)) (x := x') (x5 := .val (loreD A B L)) (x6 := .val (.lst (poolL m))) (x7 := .val (.tup (found.mergeSort leD))) (x8 := y8) (x11 := y11) (qs := qs') hL h6 (by omega) (by omega)
  have s9 : r9 (envR p3 T A B L m m ds' (seenD T A B L (found.mergeSort leD)) [] x (.val (loreD A B L)) (.val (.lst (poolL m))) (.val (.tup (found.mergeSort leD))) (.val (carsD L c)) .no .no) = .ok none (envR p5 T A B L m t' ds2 (seenD T A B L (found.mergeSort leD)) qs' x' (.val (loreD A B L)) (.val (.lst (poolL m))) (.val (.tup (found.mergeSort leD))) y8 y11 .no) := by
    have ob := okB_of (i := 1 + k) (by omega) (by omega)
    revert e5
    unfold envR
    generalize carsD L c = cd
    generalize qs' ++ [momD T A B L x' ds2 t'] = ps'
    generalize [] ++ [momD T A B L x ds' m] = ps
    generalize found.mergeSort leD = fo
    intro e5
    simp [r9, sFor, eCallO, ownAt, SV.isOwn, callO, ofRFo, e4, itRange1, ob, e5]
  refine ⟨p5, ?_, hp5.mono (by omega)⟩
  show endOf (b_law_right [.ol p, .no, .no, .no, .no, .no, .no, .no, .no, .no, .no, .no, .no]) = _
  rw [right_eq]
  rw [sCons_of s1, sCons_of s2, sCons_of s3, sCons_of s4, sCons_of s5, sCons_of s6, sCons_assoc, sCons_of s78, sCons_of s9, s10]
  rfl
def placeB : SM := (sCons (sNewL 2 (lCallN f_law_pot (lCons (eV 0) (lCons (eV 1) lNil)))) (sIf (tNotM (tE (eB bAll (lCons (eLstN (lComp (lIt itRange1 (lCons (eC (.int 3)) lNil)) [3] (gSet 3) tYesM (eCallO f_law_right 2 lNil))) lNil)))) (sRet (eC (.bl false))) sNil))
theorem place_ok (ns : List Int) {q : Nat} (hq : q < 4) (x2 : SV) : ∃ y2, placeB [.val (.lst (ns.map .int)), .val (.int (q : Int)), x2, .no] = .ok none [.val (.lst (ns.map .int)), .val (.int (q : Int)), y2, .no] := by
  obtain ⟨p, ep, hp⟩ := pot_ok ns hq
  obtain ⟨p1, e1, hp1⟩ := right_ok hp (by omega)
  obtain ⟨p2, e2, hp2⟩ := right_ok hp1 (by omega)
  obtain ⟨p3, e3, hp3⟩ := right_ok hp2 (by omega)
  refine ⟨.ol p3, ?_⟩
  have r3 : itRange1 [.int 3] = some [.int 0, .int 1, .int 2] := by
    show (if okB 3 = true then some (rangeD 0 3) else none) = _
    rw [if_pos (by decide)]
    rfl
  have al : bAll [.lst [.bl true, .bl true, .bl true]] = some (.bl true) := rfl
  simp [placeB, sNewL, lCallN, ep, lComp, r3, wipeE, compGo, eCallO, ownAt, SV.isOwn, callO, ofRFo, e1, e2, e3, al]
theorem places_ok (ns : List Int) : ∀ (n q : Nat) (x1 x2 : SV), q + n ≤ 4 → ∃ y1 y2, forGo (gSet 1) placeB (rangeD (q : Int) n) [.val (.lst (ns.map .int)), x1, x2, .no] = .ok none [.val (.lst (ns.map .int)), y1, y2, .no]
  | 0, q, x1, x2, _ => ⟨x1, x2, rfl⟩
  | n + 1, q, x1, x2, h => by
    obtain ⟨z2, e⟩ := place_ok ns (q := q) (by omega) x2
    obtain ⟨y1, y2, e2⟩ := places_ok ns n (q + 1) (.val (.int (q : Int))) z2 (by omega)
    refine ⟨y1, y2, ?_⟩
    rw [rangeD_succ, forGo]
    show bnd (placeB [.val (.lst (ns.map .int)), .val (.int (q : Int)), x2, .no]) _ = _
    rw [e]
    show forGo _ _ _ _ = _
    exact e2
theorem law_ok (ns : List Int) (h : ns.length ≤ 63) : ∃ out, f_law [.val (.lst (ns.map .int))] = .ok (.bl true) out := by
  obtain ⟨k, ek⟩ : ∃ k : Nat, k = max 1 (min 4 ns.length) := ⟨_, rfl⟩
  have kb : k ≤ 4 := by omega
  obtain ⟨y1, y2, e⟩ := places_ok ns k 0 .no .no (by omega)
  have m1 : bMin [.int 4, .int (ns.length : Int)] = some (.int ((min 4 ns.length : Nat) : Int)) := by
    show some (D.int _) = _
    congr 2
    split <;> omega
  have m2 : bMax [.int 1, .int ((min 4 ns.length : Nat) : Int)] = some (.int (k : Int)) := by
    show some (D.int _) = _
    congr 2
    split <;> omega
  have rl : itRangeL [.int (k : Int)] = some (rangeD 0 k) := by
    show (if _ then some (rangeD 0 (k : Int).toNat) else none) = _
    rw [if_pos ⟨okB_of (by omega) (by omega), by rw [Int.toNat_natCast]; exact cap_n (by omega)⟩, Int.toNat_natCast]
  have ce : f_law_cells [.val (.lst (ns.map .int)), .val (.int 4)] = .ok (.lst (rangeD 0 k)) .no := by
    show endOf (b_law_cells [.val (.lst (ns.map .int)), .val (.int 4)]) = _
    simp only [b_law_cells, s_sRet, s_eLstN, s_lIt, s_lCons, s_lNil, s_eB, s_eC, s_eV, List.getElem?_cons_zero, List.getElem?_cons_succ, bnd_ok, b_lenL, List.length_map, optR_some, m1, m2, rl]
    rfl
  have e : forGo (gSet 1) placeB (rangeD 0 k) [.val (.lst (ns.map .int)), .no, .no, .no] = .ok none [.val (.lst (ns.map .int)), y1, y2, .no] := e
  refine ⟨.no, ?_⟩
  show endOf (b_law [.val (.lst (ns.map .int)), .no, .no, .no]) = _
  unfold placeB at e
  simp [b_law, sFor, ce, e]
end Pl
/- G5_k52 -/
section
set_option maxHeartbeats 0
namespace G
open PySem L2 Tr
/-- the plain law -/
theorem plain (ns : List Int) (h : ns.length ≤ 63) : ∃ out, f_law [.val (.lst (ns.map .int))] = .ok (.bl true) out := Pl.law_ok ns h
theorem relDs_ints (W : Wd) (A : Addr → Prop) (H : Hp) : ∀ ns : List Int, RelDs W A H (ns.map .int) (ns.map V.int)
  | [] => relDs_nil
  | n :: ns => relDs_cons relD_int (relDs_ints W A H ns)
theorem sp_law (W : Wd) {H : Hp} {a : Addr} {ns : List Int} (hl : ns.length ≤ 63) (hS : Rd H a (.lst (ns.map V.int))) : spF W f_law [.ref a] H (fun v _ => v = .bl true) fun _ _ _ => False := by
  obtain ⟨out, e⟩ := plain ns hl
  have hr : RelD W (own (fun _ => False) []) H (.lst (ns.map .int)) (.ref a) := by
    unfold RelD
    exact ⟨a, _, rfl, (fun z => by rcases z with z | z; exact z; cases z), hS, relDs_ints W _ H ns⟩
  refine ⟨fun _ => False, [], [.val (.lst (ns.map .int))], sl_vals (relDs_cons hr relDs_nil), List.nodup_nil, fun _ z => z.elim, fun _ m => (nomatch m), ?_⟩
  rw [e]
  intro v H' F' _ _ _ _ rd
  exact relD_bl_inv rd
end G
open PySem PySem.W PySem.Calls PyProof.Rows
theorem PySem.Challenge.cw_lastcame_k52_what_is_put_to_seen_holds : PySem.Challenge.rw_lastcame_k52_what_is_put_to_seen.Holds := by
  w_on; o_law
  refine HandSHeadRun.head_any (r := G.R) (q := view G.R.prog [116]) (H := G.hk) (ob := G.ob) (M := 16000) (loose := G.names) (d := HandSHeadRun.topDef G.R.prog 116) (kwd := []) G.ob_eq
    (by kernel_rfl) (fun s => by kernel_rfl) G.run (by kernel_rfl) (by kernel_rfl) (by kernel_rfl) (by rfl) (by first | assumption | decide +kernel) (by decide +kernel) ⟨rfl, rfl, rfl, rfl, rfl, by decide +kernel⟩ ?hw ?hc
  case hw => w_witness2
  case hc =>
    refine Tr.walk_ofG (l := PySem.Challenge.rw_lastcame_k52_what_is_put_to_seen) (n := 63) (k := G.lawK) (x := "_law_script") rfl (by decide) (by kernel_rfl) ⟨rfl, by decide, by decide⟩ ?F
    intro w mg fa h Y NS hmg0
    obtain ⟨K, KX, c⟩ := Y
    obtain ⟨fd, F⟩ := Tr.SaysZ.def_ c 77 (d := G.z_law) rfl
    have hmg : mg ("law" : PySem.Str) = some (.ref fa) := by
      have e : (HandSHeadRun.topDef (OpenLaw.row PySem.Challenge.rw_lastcame_k52_what_is_put_to_seen).prog 116).name = ("law" : PySem.Str) := by kernel_rfl
      rw [← e]
      exact hmg0
    have hga : fa = He.ga K "law" := by
      have e := hmg.symm.trans (He.glo_ok KX NS (c.fact 161))
      cases e
      rfl
    subst hga
    have b := L2.FunD.bindsA (ps := ["_law_script"]) F fun _ _ _ _ _ _ us hl => match us, hl with | [_], _ => rfl
    refine ⟨K, fd, Tr.spF (G.wd K) G.f_law, KX, Tr.noLst_ok (c.fact 162), fun s u => b s [u] rfl, fun H a ns hl _ hS => G.sp_law _ hl hS, fun base _ nb => G.okB_law (G.txt_of KX NS c) F⟩
end
