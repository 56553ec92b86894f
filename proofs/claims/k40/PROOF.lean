import PyProof.Rows.All
import Wide.All
import OpenK.AllK
import Wide.FinOn
import PySem.PyData
import HandS.ForMost
import HandS.Zip
import HandS.TupAny
import HandS.TupMul
import HandS.IsInst
import KE.KDictCopyH
import KE.DataEq
import HandS.Conv
import KE.GoesMore
import HandS.Defaults
import KE.GoesZip
import KE.GoesEnum
import KE.KDictZip
import KE.KDictKeyed
import HandS.DictComp
import HandS.Ends
import HandS.Head0
import HandS.Head1
import HandS.Head2
import HandS.HeadEnd
import HandS.HeadHook1
import HandS.HeadHook2
import HandS.List
import KE.SortData
import HandS.TupSets
import KE.KeyNested
import KE.DataMinMax
import PySem.Challenge.RW_asksinturn_k40_whole_points_that_all_fit
set_option Elab.async false
set_option linter.all false
set_option maxRecDepth 100000
set_option maxHeartbeats 0
set_option autoImplicit false
/-! DSem: a plain semantics of the part of Python that the program uses: data D, a store of mutable things, the monad M, and one combinator a construct. No model in sight. -/
namespace DL
open PySem

/-- data; h n is the n-th mutable thing of the store -/
inductive D where
  | non
  | bl (b : Bool)
  | int (i : Int)
  | str (x : Str)
  | tup (ds : List D)
  | lst (ds : List D)
  | h (n : Nat)
instance : Inhabited D := ⟨.non⟩

inductive MO where
  | dead
  | scr (ns : List Int)
  | lst (ds : List D)
  | dic (lk : Bool) (kvs : List (List Int × D))
  | dco (ks : List (Option Int))

abbrev Store := List MO
def M (α : Type) := Store → Option (α × Store)
def M.fail {α : Type} : M α := fun _ => none
instance : Monad M where
  pure a := fun μ => some (a, μ)
  bind x f := fun μ => match x μ with
    | some (a, μ') => f a μ'
    | none => none
instance : LawfulMonad M := LawfulMonad.mk' _
  (id_map := fun x => by funext μ; show (match x μ with | some (a, μ') => some (id a, μ') | none => none) = x μ; cases x μ <;> rfl)
  (pure_bind := fun _ _ => rfl)
  (bind_assoc := fun x f g => by funext μ; show (match (match x μ with | some (a, μ') => f a μ' | none => none) with | some (b, μ') => g b μ' | none => none) = (match x μ with | some (a, μ') => (match f a μ' with | some (b, μ'') => g b μ'' | none => none) | none => none); cases x μ <;> rfl)
theorem bind_def {α β : Type} (x : M α) (f : α → M β) (μ : Store) : (x >>= f) μ = match x μ with | some (a, μ') => f a μ' | none => none := rfl
theorem pure_def {α : Type} (a : α) (μ : Store) : (pure a : M α) μ = some (a, μ) := rfl
theorem bind_some {α β : Type} {x : M α} {f : α → M β} {μ μ2 : Store} {b : β} (h : (x >>= f) μ = some (b, μ2)) : ∃ a μ1, x μ = some (a, μ1) ∧ f a μ1 = some (b, μ2) := by
  rw [bind_def] at h
  cases e : x μ with
  | none => rw [e] at h; cases h
  | some p => rw [e] at h; exact ⟨p.1, p.2, rfl, h⟩
@[simp] theorem fail_bind {α β : Type} (f : α → M β) : (M.fail >>= f) = M.fail := rfl

/-- what is wanted of a run -/
def wp {α : Type} (m : M α) (Q : α → Store → Prop) (μ : Store) : Prop := ∃ a μ', m μ = some (a, μ') ∧ Q a μ'
theorem wp_pure {α : Type} {a : α} {Q : α → Store → Prop} {μ : Store} (h : Q a μ) : wp (pure a) Q μ := ⟨a, μ, rfl, h⟩
theorem wp_bind {α β : Type} {x : M α} {f : α → M β} {Q : β → Store → Prop} {μ : Store} (h : wp x (fun a μ' => wp (f a) Q μ') μ) : wp (x >>= f) Q μ := by
  obtain ⟨a, μ1, e, b, μ2, e2, q⟩ := h
  exact ⟨b, μ2, by rw [bind_def, e]; exact e2, q⟩
theorem wp_mono {α : Type} {x : M α} {Q R : α → Store → Prop} {μ : Store} (h : wp x Q μ) (hq : ∀ a μ', Q a μ' → R a μ') : wp x R μ := by
  obtain ⟨a, μ', e, q⟩ := h
  exact ⟨a, μ', e, hq a μ' q⟩
theorem wp_eq {α : Type} {x y : M α} {Q : α → Store → Prop} {μ : Store} (e : x = y) (h : wp y Q μ) : wp x Q μ := by rw [e]; exact h

/-! ### equality of data as Python has it -/
mutual
def eqb : D → D → Bool
  | .non, .non => true
  | .bl a, .bl b => a == b
  | .bl a, .int j => (if a then (1 : Int) else 0) == j
  | .int i, .bl b => i == (if b then (1 : Int) else 0)
  | .int i, .int j => i == j
  | .str x, .str y => x == y
  | .lst xs, .lst ys => eqbL xs ys
  | .tup xs, .tup ys => eqbL xs ys
  | _, _ => false
def eqbL : List D → List D → Bool
  | [], [] => true
  | x :: xs, y :: ys => eqb x y && eqbL xs ys
  | _, _ => false
end
/- no handle within, nested at most n deep -/
mutual
def flt : Nat → D → Bool
  | n, .tup ds => match n with
    | 0 => false
    | m + 1 => fltL m ds
  | n, .lst ds => match n with
    | 0 => false
    | m + 1 => fltL m ds
  | _, .h _ => false
  | _, _ => true
def fltL : Nat → List D → Bool
  | _, [] => true
  | n, d :: ds => flt n d && fltL n ds
end
/- the very same datum -/
mutual
def same : D → D → Bool
  | .non, .non => true
  | .bl a, .bl b => a == b
  | .int i, .int j => i == j
  | .str x, .str y => decide (x = y)
  | .lst xs, .lst ys => sameL xs ys
  | .tup xs, .tup ys => sameL xs ys
  | .h m, .h n => m == n
  | _, _ => false
def sameL : List D → List D → Bool
  | [], [] => true
  | x :: xs, y :: ys => same x y && sameL xs ys
  | _, _ => false
end
mutual
theorem same_eq : ∀ {a b : D}, same a b = true → a = b
  | .non, b, h => by cases b <;> simp_all [same]
  | .bl a, b, h => by cases b <;> simp_all [same]
  | .int i, b, h => by cases b <;> simp_all [same]
  | .str x, b, h => by cases b <;> simp_all [same]
  | .h m, b, h => by cases b <;> simp_all [same]
  | .lst xs, b, h => by
    cases b with
    | lst ys => rw [same] at h; rw [sameL_eq h]
    | _ => simp [same] at h
  | .tup xs, b, h => by
    cases b with
    | tup ys => rw [same] at h; rw [sameL_eq h]
    | _ => simp [same] at h
theorem sameL_eq : ∀ {xs ys : List D}, sameL xs ys = true → xs = ys
  | [], ys, h => by cases ys <;> simp_all [sameL]
  | x :: xs, ys, h => by
    cases ys with
    | nil => simp [sameL] at h
    | cons y ys =>
      rw [sameL, Bool.and_eq_true] at h
      rw [same_eq h.1, sameL_eq h.2]
end
mutual
theorem same_refl : ∀ a : D, same a a = true
  | .non => rfl
  | .bl a => by simp [same]
  | .int i => by simp [same]
  | .str x => by simp [same]
  | .h m => by simp [same]
  | .lst xs => by rw [same]; exact sameL_refl xs
  | .tup xs => by rw [same]; exact sameL_refl xs
theorem sameL_refl : ∀ xs : List D, sameL xs xs = true
  | [] => rfl
  | x :: xs => by rw [sameL, same_refl x, sameL_refl xs]; rfl
end

def lim : Nat := 1000000

/-! ### operations on data -/
def addD : D → D → M D
  | .int i, .int j => pure (.int (i + j))
  | .tup a, .tup b => if a.length + b.length ≤ lim then pure (.tup (a ++ b)) else M.fail
  | .lst a, .lst b => if a.length + b.length ≤ lim then pure (.lst (a ++ b)) else M.fail
  | _, _ => M.fail
def subD : D → D → M D
  | .int i, .int j => pure (.int (i - j))
  | _, _ => M.fail
def smallI (i : Int) : Bool := decide (-(2 ^ 64) < i ∧ i < 2 ^ 64)
def repL (k : Nat) (a : List D) : List D := (List.replicate k a).flatten
def mulD : D → D → M D
  | .int i, .int j => if smallI i || smallI j then pure (.int (i * j)) else M.fail
  | .tup a, .int k => if a ≠ [] ∧ a.length ≤ 1000 ∧ -1000 ≤ k ∧ k ≤ 1000 then pure (.tup (repL k.toNat a)) else M.fail
  | .lst a, .int k => if a.length ≤ 1000 ∧ -1000 ≤ k ∧ k ≤ 1000 then pure (.lst (repL k.toNat a)) else M.fail
  | _, _ => M.fail
def divD : D → D → M D
  | .int i, .int j => if 0 < j ∧ j < 1073741824 then pure (.int (i / j)) else M.fail
  | _, _ => M.fail
def modD : D → D → M D
  | .int i, .int j => if 0 < j then pure (.int (i % j)) else M.fail
  | _, _ => M.fail
def negD : D → M D
  | .int i => pure (.int (-i))
  | _ => M.fail
def eqD (x y : D) : M D := if flt 60 x && flt 60 y then pure (.bl (eqb x y)) else M.fail
def neD (x y : D) : M D := if flt 60 x && flt 60 y then pure (.bl (!eqb x y)) else M.fail
def lexLt : List Int → List Int → Bool
  | _, [] => false
  | [], _ :: _ => true
  | x :: xs, y :: ys => if x = y then lexLt xs ys else decide (x < y)
def toInts : List D → Option (List Int)
  | [] => some []
  | .int i :: ds => (toInts ds).map (i :: ·)
  | _ :: _ => none
def ltD : D → D → M D
  | .int i, .int j => pure (.bl (decide (i < j)))
  | .tup a, .tup b => match toInts a, toInts b with
    | some ns, some ms => pure (.bl (lexLt ns ms))
    | _, _ => M.fail
  | _, _ => M.fail
def leD : D → D → M D
  | .int i, .int j => pure (.bl (decide (i ≤ j)))
  | _, _ => M.fail
def gtD : D → D → M D
  | .int i, .int j => pure (.bl (decide (j < i)))
  | _, _ => M.fail
def geD : D → D → M D
  | .int i, .int j => pure (.bl (decide (j ≤ i)))
  | _, _ => M.fail
def getH (n : Nat) : M MO := fun μ => match μ[n]? with
  | some o => some (o, μ)
  | none => none
def setH (n : Nat) (o : MO) : M Unit := fun μ => if n < μ.length then some ((), μ.set n o) else none
def newH (o : MO) : M D := fun μ => some (.h μ.length, μ ++ [o])
/-- the items of a list or a tuple -/
def itemsD : D → M (List D)
  | .tup ds => pure ds
  | .lst ds => pure ds
  | .h n => do
    match ← getH n with
    | .lst ds => pure ds
    | .scr ns => pure (ns.map .int)
    | _ => M.fail
  | _ => M.fail
def inD (neg : Bool) (x y : D) : M D := do
  match y with
  | .h n => match ← getH n with
    | .dco ks => match x with
      | .int i => pure (.bl (neg != ks.contains (some i)))
      | .non => pure (.bl (neg != ks.contains none))
      | _ => M.fail
    | .lst ds => if flt 60 x && fltL 60 ds then pure (.bl (neg != ds.any fun z => eqb z x)) else M.fail
    | _ => M.fail
  | .tup ds => if flt 60 x && fltL 60 ds then pure (.bl (neg != ds.any fun z => eqb z x)) else M.fail
  | .lst ds => if flt 60 x && fltL 60 ds then pure (.bl (neg != ds.any fun z => eqb z x)) else M.fail
  | _ => M.fail
def isNonB : D → Bool
  | .non => true
  | _ => false
def isN (neg : Bool) (d : D) : M D := pure (.bl (neg != isNonB d))
def ixN (n : Nat) (i : Int) : Option Nat := if 0 ≤ i then (if i < n then some i.toNat else none) else if -(n : Int) ≤ i then some (i + n).toNat else none
def atI (xs : List D) (i : Int) : M D := match ixN xs.length i with
  | some j => match xs[j]? with
    | some d => pure d
    | none => M.fail
  | none => M.fail
def findK (k : List Int) : List (List Int × D) → Option D
  | [] => none
  | (j, d) :: r => if j = k then some d else findK k r
def idxD : D → D → M D
  | .tup xs, .int i => atI xs i
  | .lst xs, .int i => atI xs i
  | .h n, .int i => do
    match ← getH n with
    | .lst xs => atI xs i
    | _ => M.fail
  | _, _ => M.fail
/-- d[k] of a dict whose keys are tuples of ints -/
def getD : D → D → M D
  | .h n, .tup ks => do
    match ← getH n with
    | .dic _ kvs => match toInts ks with
      | some k => match findK k kvs with
        | some d => pure d
        | none => M.fail
      | none => M.fail
    | _ => M.fail
  | _, _ => M.fail
/-- a bound of a slice -/
def sIx (n d : Nat) : Option Int → Nat
  | none => d
  | some v => if v < 0 then (v + n).toNat else min v.toNat n
def cut (xs : List D) (lo hi : Option Int) : List D := (xs.drop (sIx xs.length 0 lo)).take (sIx xs.length xs.length hi - sIx xs.length 0 lo)
def sliceD (lo hi : Option Int) : D → M D
  | .tup xs => pure (.tup (cut xs lo hi))
  | .lst xs => pure (.lst (cut xs lo hi))
  | .h n => do
    match ← getH n with
    | .scr ns => pure (.lst (cut (ns.map .int) lo hi))
    | _ => M.fail
  | _ => M.fail
def lenD (d : D) : M D := do
  let ds ← itemsD d
  pure (.int ds.length)
def toBl : D → M Bool
  | .bl b => pure b
  | _ => M.fail
def toBls : List D → Option (List Bool)
  | [] => some []
  | .bl i :: ds => (toBls ds).map (i :: ·)
  | _ :: _ => none
def allD : D → M D
  | .lst ds => match toBls ds with
    | some bs => pure (.bl (bs.all id))
    | none => M.fail
  | _ => M.fail
def anyD : D → M D
  | .lst ds => match toBls ds with
    | some bs => pure (.bl (bs.any id))
    | none => M.fail
  | _ => M.fail
def sumD : D → M D
  | .lst ds => match toInts ds with
    | some ns => pure (.int ns.sum)
    | none => M.fail
  | _ => M.fail
def maxL (i : Int) (ns : List Int) : Int := ns.foldl (fun a b => if b > a then b else a) i
def minL (i : Int) (ns : List Int) : Int := ns.foldl (fun a b => if b < a then b else a) i
def maxD : D → M D
  | .lst ds => match toInts ds with
    | some (n :: ns) => pure (.int (maxL n ns))
    | _ => M.fail
  | _ => M.fail
def minD : D → M D
  | .lst ds => match toInts ds with
    | some (n :: ns) => pure (.int (minL n ns))
    | _ => M.fail
  | _ => M.fail
def max2D : D → D → M D
  | .int i, .int j => pure (.int (if j > i then j else i))
  | _, _ => M.fail
def tupleD (d : D) : M D := do
  let ds ← itemsD d
  pure (.tup ds)
def listD (d : D) : M D := do
  let ds ← itemsD d
  pure (.lst ds)
def intD : D → M D
  | .int i => pure (.int i)
  | _ => M.fail
def isTup : D → M D
  | .tup _ => pure (.bl true)
  | .h _ => M.fail
  | _ => pure (.bl false)
def isLst : D → M D
  | .lst _ => pure (.bl true)
  | .h _ => M.fail
  | _ => pure (.bl false)
def isInt : D → M D
  | .int _ => pure (.bl true)
  | .bl _ => pure (.bl true)
  | .h _ => M.fail
  | _ => pure (.bl false)
def isBl : D → M D
  | .bl _ => pure (.bl true)
  | .h _ => M.fail
  | _ => pure (.bl false)
def isStr : D → M D
  | .str _ => pure (.bl true)
  | .h _ => M.fail
  | _ => pure (.bl false)

/-! ### expressions: from the slots to a datum -/
abbrev Env := List (Option D)
abbrev E := Env → M D
abbrev T := Env → M Bool
def eVar (i : Nat) : E := fun Γ => match Γ[i]? with
  | some (some d) => pure d
  | _ => M.fail
def eC (d : D) : E := fun _ => pure d
def eOp2 (f : D → D → M D) (a b : E) : E := fun Γ => do
  let x ← a Γ
  let y ← b Γ
  f x y
def eOp1 (f : D → M D) (a : E) : E := fun Γ => do
  let x ← a Γ
  f x
/-- a < b < c -/
def eChain (f g : D → D → M D) (a b c : E) : E := fun Γ => do
  let x ← a Γ
  let y ← b Γ
  let r ← toBl (← f x y)
  if r then do
    let z ← c Γ
    let q ← toBl (← g y z)
    pure (.bl q)
  else pure (.bl false)
def eAnd (a b : E) : E := fun Γ => do
  let r ← toBl (← a Γ)
  if r then b Γ else pure (.bl false)
def eOr (a b : E) : E := fun Γ => do
  let r ← toBl (← a Γ)
  if r then pure (.bl true) else b Γ
def eNot (a : E) : E := fun Γ => do
  let r ← toBl (← a Γ)
  pure (.bl (!r))
def eIf (t : T) (a b : E) : E := fun Γ => do
  let r ← t Γ
  if r then a Γ else b Γ
def tVal (a : E) : T := fun Γ => do toBl (← a Γ)
def tAnd (a b : T) : T := fun Γ => do
  let r ← a Γ
  if r then b Γ else pure false
def tOr (a b : T) : T := fun Γ => do
  let r ← a Γ
  if r then pure true else b Γ
def tNot (a : T) : T := fun Γ => do
  let r ← a Γ
  pure (!r)
def eList : List E → Env → M (List D)
  | [], _ => pure []
  | e :: es, Γ => do
    let x ← e Γ
    let xs ← eList es Γ
    pure (x :: xs)
def eTup (es : List E) : E := fun Γ => do
  let ds ← eList es Γ
  if ds.length ≤ lim then pure (.tup ds) else M.fail
def eLst (es : List E) : E := fun Γ => do
  let ds ← eList es Γ
  if ds.length ≤ lim then pure (.lst ds) else M.fail
/-- a bound of a slice, if it is written -/
def eBound : Option E → Env → M (Option Int)
  | none, _ => pure none
  | some e, Γ => do
    match ← e Γ with
    | .int i => pure (some i)
    | _ => M.fail
def eSlice (a : E) (lo hi : Option E) : E := fun Γ => do
  let x ← a Γ
  let l ← eBound lo Γ
  let u ← eBound hi Γ
  sliceD l u x
/-- a call of a def -/
def eCall (f : List D → M D) (es : List E) : E := fun Γ => do f (← eList es Γ)
/-- a list of one's own is given away: it is never changed again -/
def frzD : D → M D
  | .h n => getH n >>= fun o => match o with
    | .lst ds => setH n .dead >>= fun _ => pure (.lst ds)
    | _ => M.fail
  | _ => M.fail
def eFrz (i : Nat) : E := fun Γ => eVar i Γ >>= frzD

/-! ### what is walked -/
/-- a handle that must not change while it is walked: none, a list, a dict -/
inductive Gd where
  | no
  | l (n : Nat)
  | k (n : Nat)
/-- the items, and the handle that they stand at, if they may change -/
abbrev W := Env → M (List D × Gd)
def gOk (g : Gd) (its : List D) : M Unit := match g with
  | .no => pure ()
  | .l n => getH n >>= fun o => match o with
    | .lst ds => if sameL ds its then pure () else M.fail
    | .scr ns => if sameL (ns.map .int) its then pure () else M.fail
    | _ => M.fail
  | .k n => getH n >>= fun o => match o with
    | .dic true kvs => if sameL (kvs.map fun p => .tup (p.1.map .int)) its then pure () else M.fail
    | _ => M.fail
def wSeq (e : E) : W := fun Γ => do
  let d ← e Γ
  let ds ← itemsD d
  pure (ds, match d with | .h n => .l n | _ => .no)
def toI : D → M Int
  | .int i => pure i
  | _ => M.fail
def rangeL (lo hi : Int) : List D := (List.range (hi - lo).toNat).map fun (k : Nat) => .int (lo + (k : Int))
def rangeD : D → M D
  | .int j => if -1000000 ≤ j ∧ j ≤ 1000000 then pure (.lst (rangeL 0 j)) else M.fail
  | _ => M.fail
def rangeT : D → M D
  | .int j => if -1000000 ≤ j ∧ j ≤ 1000000 then pure (.tup (rangeL 0 j)) else M.fail
  | _ => M.fail
def wRange (lo hi : E) : W := fun Γ => do
  let i ← toI (← lo Γ)
  let j ← toI (← hi Γ)
  if -1000000 ≤ i ∧ i ≤ 0 + 1000000 ∧ -1000000 ≤ j ∧ j ≤ 1000000 ∧ (j - i).toNat ≤ lim then pure (rangeL i j, .no) else M.fail
def wRange1 (hi : E) : W := fun Γ => do
  let j ← toI (← hi Γ)
  if -1000000 ≤ j ∧ j ≤ 1000000 then pure (rangeL 0 j, .no) else M.fail
/-- the items of data that does not change -/
def fixD : D → M (List D)
  | .tup ds => pure ds
  | .lst ds => pure ds
  | _ => M.fail
def wEnum (e : E) : W := fun Γ => do
  let ds ← fixD (← e Γ)
  pure (ds.mapIdx fun i d => .tup [.int i, d], .no)
def zipD : D → D → M (List D)
  | .tup xs, .tup ys => pure ((xs.zip ys).map fun p => .tup [p.1, p.2])
  | .lst xs, .lst ys => pure ((xs.zip ys).map fun p => .tup [p.1, p.2])
  | _, _ => M.fail
def wZip (a b : E) : W := fun Γ => do
  let x ← a Γ
  let y ← b Γ
  let zs ← zipD x y
  pure (zs, .no)
/-- the keys of a dict that is walked -/
def wKeys (e : E) : W := fun Γ => do
  match ← e Γ with
  | .h n => match ← getH n with
    | .dic true kvs => pure (kvs.map fun p => .tup (p.1.map .int), .k n)
    | _ => M.fail
  | _ => M.fail

/-! ### targets -/
abbrev G := D → Env → Option Env
def gVar (i : Nat) : G := fun d Γ => some (Γ.set i (some d))
mutual
inductive Tg where
  | v (i : Nat)
  | t (ts : Tgs)
inductive Tgs where
  | nil
  | cons (t : Tg) (ts : Tgs)
end
mutual
def Tg.put : Tg → D → Env → Option Env
  | .v i, d, Γ => some (Γ.set i (some d))
  | .t ts, .tup ds, Γ => Tgs.put ts ds Γ
  | .t _, _, _ => none
def Tgs.put : Tgs → List D → Env → Option Env
  | .nil, [], Γ => some Γ
  | .cons t ts, d :: ds, Γ => (t.put d Γ).bind (Tgs.put ts ds)
  | _, _, _ => none
end
def liftO {α : Type} : Option α → M α
  | some a => pure a
  | none => M.fail

/-! ### comprehensions -/
def wipe (Γ : Env) : List Nat → Env
  | [] => Γ
  | v :: vs => (wipe Γ vs).set v none
def compL (g : Gd) (its : List D) (f : D → M (Option D)) : List D → M (List D)
  | [] => do
    gOk g its
    pure []
  | x :: xs => do
    gOk g its
    let y ← f x
    let ys ← compL g its f xs
    pure (match y with | some v => v :: ys | none => ys)
def compX (g : Gd) (its : List D) (f : D → M (List D)) : List D → M (List D)
  | [] => do
    gOk g its
    pure []
  | x :: xs => do
    gOk g its
    let ys ← f x
    let zs ← compX g its f xs
    pure (ys ++ zs)
/-- one item of a comprehension -/
def oneC (vs : List Nat) (tg : Tg) (c : Option T) (e : E) (Γ : Env) (x : D) : M (Option D) := liftO (tg.put x (wipe Γ vs)) >>= fun Γ' => match c with
  | none => e Γ' >>= fun y => pure (some y)
  | some t => t Γ' >>= fun b => if b then e Γ' >>= fun y => pure (some y) else pure none
def rowC (vs vs1 : List Nat) (tg : Tg) (w2 : W) (tg2 : Tg) (e : E) (Γ : Env) (x : D) : M (List D) := liftO (tg.put x (wipe Γ vs)) >>= fun Γ' => w2 Γ' >>= fun q => compL q.2 q.1 (oneC vs1 tg2 none e Γ') q.1
def eComp (vs : List Nat) (w : W) (tg : Tg) (c : Option T) (e : E) : E := fun Γ => w Γ >>= fun p => compL p.2 p.1 (oneC vs tg c e Γ) p.1 >>= fun ys => pure (.lst ys)
/-- two fors: the inner source is walked anew at each item of the outer one -/
def eComp2 (vs vs1 : List Nat) (w : W) (tg : Tg) (w2 : W) (tg2 : Tg) (e : E) : E := fun Γ => w Γ >>= fun p => compX p.2 p.1 (rowC vs vs1 tg w2 tg2 e Γ) p.1 >>= fun ys => if ys.length ≤ lim then pure (.lst ys) else M.fail

/-! ### statements -/
inductive Flow where
  | next | brk | cont | ret (d : D)
abbrev S := Env → M (Env × Flow)
def sNop : S := fun Γ => pure (Γ, .next)
def seqK (b : S) (r : Env × Flow) : M (Env × Flow) := match r.2 with
  | .next => b r.1
  | f => pure (r.1, f)
def sSeq (a b : S) : S := fun Γ => a Γ >>= seqK b
def sAsg (tg : Tg) (e : E) : S := fun Γ => do
  let d ← e Γ
  let Γ' ← liftO (tg.put d Γ)
  pure (Γ', .next)
/-- a list of the def's own that will change -/
def eNewL (es : List E) : E := fun Γ => do
  let ds ← eList es Γ
  if ds.length ≤ lim then newH (.lst ds) else M.fail
def eNewList (e : E) : E := fun Γ => do
  let x ← e Γ
  let ds ← itemsD x
  newH (.lst ds)
def sExpr (e : E) : S := fun Γ => do
  let _ ← e Γ
  pure (Γ, .next)
def isLH (d : D) : M Nat := match d with
  | .h n => getH n >>= fun o => match o with
    | .lst _ => pure n
    | _ => M.fail
  | _ => M.fail
def pushH (n : Nat) (zs : List D) : M D := getH n >>= fun o => match o with
  | .lst ds => if ds.length + zs.length ≤ lim then setH n (.lst (ds ++ zs)) >>= fun _ => pure D.non else M.fail
  | _ => M.fail
def eAppend (a e : E) : E := fun Γ => a Γ >>= fun x => isLH x >>= fun n => e Γ >>= fun d => pushH n [d]
def eExtend (a e : E) : E := fun Γ => a Γ >>= fun x => isLH x >>= fun n => e Γ >>= fun d => match d with
  | .lst zs => pushH n zs
  | _ => M.fail
/-- a[i] = e -/
def setD (x k d : D) : M Unit := match x, k with
  | .h n, .int i => getH n >>= fun o => match o with
    | .lst ds => match ixN ds.length i with
      | some j => setH n (.lst (ds.set j d))
      | none => M.fail
    | _ => M.fail
  | _, _ => M.fail
def sSet (a i e : E) : S := fun Γ => e Γ >>= fun d => a Γ >>= fun x => i Γ >>= fun k => setD x k d >>= fun _ => pure (Γ, .next)
def sAug (i : Nat) (f : D → D → M D) (e : E) : S := fun Γ => do
  let x ← eVar i Γ
  let y ← e Γ
  let z ← f x y
  pure (Γ.set i (some z), .next)
def sIf (t : T) (a b : S) : S := fun Γ => do
  let r ← t Γ
  if r then a Γ else b Γ
def sRet (e : E) : S := fun Γ => do
  let d ← e Γ
  pure (Γ, .ret d)
def sBrk : S := fun Γ => pure (Γ, .brk)
def sCont : S := fun Γ => pure (Γ, .cont)
/-- behind a turn: the next one, or the end -/
def turnK (next : S) (r : Env × Flow) : M (Env × Flow) := match r.2 with
  | .next => next r.1
  | .cont => next r.1
  | .brk => pure (r.1, .next)
  | .ret d => pure (r.1, .ret d)
def forL (g : Gd) (its : List D) (tg : Tg) (body : S) : List D → S
  | [], Γ => gOk g its >>= fun _ => pure (Γ, .next)
  | x :: xs, Γ => gOk g its >>= fun _ => liftO (tg.put x Γ) >>= fun Γ1 => body Γ1 >>= turnK (forL g its tg body xs)
def sFor (tg : Tg) (w : W) (body : S) : S := fun Γ => w Γ >>= fun p => forL p.2 p.1 tg body p.1 Γ
/-- a walk over a dict: it is locked meanwhile -/
def lockH (n : Nat) (lk : Bool) : M Unit := do
  match ← getH n with
  | .dic b kvs => if b = lk then M.fail else setH n (.dic lk kvs)
  | _ => M.fail
def sLock (i : Nat) (s : S) : S := fun Γ => do
  match ← eVar i Γ with
  | .h n => do
    lockH n true
    let r ← s Γ
    lockH n false
    pure r
  | _ => M.fail
def whileL (t : T) (body : S) : Nat → S
  | 0, _ => M.fail
  | k + 1, Γ => t Γ >>= fun b => if b then body Γ >>= turnK (whileL t body k) else pure (Γ, .next)
def sWhile (k : Nat) (t : T) (body : S) : S := whileL t body k

def retK (r : Env × Flow) : M D := match r.2 with
  | .ret d => pure d
  | .next => pure .non
  | _ => M.fail
/-- a def: np its parameters, ns all its slots -/
def fn (np ns : Nat) (body : S) (ds : List D) : M D := if ds.length = np then body (ds.map some ++ List.replicate (ns - np) none) >>= retK else M.fail
/-- dict(zip(a, b)): the keys are tuples of ints, each once -/
def keysOf : List D → Option (List (List Int))
  | [] => some []
  | .tup ds :: r => match toInts ds, keysOf r with
    | some k, some ks => some (k :: ks)
    | _, _ => none
  | _ :: _ => none
def dicZip : D → D → M D
  | .lst xs, .tup ys => match keysOf (xs.take ys.length) with
    | some ks => if ks.Nodup then newH (.dic false (ks.zip ys)) else M.fail
    | none => M.fail
  | _, _ => M.fail
/-- {k: v for ..}: the keys are ints or None, the values are not kept -/
def putKs (ks : List (Option Int)) (k : Option Int) : List (Option Int) := if ks.contains k then ks else ks ++ [k]
def keyD : D → M (Option Int)
  | .int i => pure (some i)
  | .non => pure none
  | _ => M.fail
def oneK (vs : List Nat) (tg : Tg) (k v : E) (Γ : Env) (x : D) : M (Option Int) := liftO (tg.put x (wipe Γ vs)) >>= fun Γ' => k Γ' >>= fun y => v Γ' >>= fun _ => keyD y
def compK (g : Gd) (its : List D) (f : D → M (Option Int)) : List D → List (Option Int) → M (List (Option Int))
  | [], acc => gOk g its >>= fun _ => pure acc
  | x :: xs, acc => gOk g its >>= fun _ => f x >>= fun k => compK g its f xs (putKs acc k)
def eDcomp (vs : List Nat) (w : W) (tg : Tg) (k v : E) : E := fun Γ => w Γ >>= fun p => compK p.2 p.1 (oneK vs tg k v Γ) p.1 [] >>= fun ks => newH (.dco ks)
/-- a slot's list of one's own is given away -/
def sFrz (i : Nat) : S := fun Γ => eVar i Γ >>= fun d => frzD d >>= fun d' => pure (Γ.set i (some d'), Flow.next)
end DL
/-! DRep: how data stand in the abstract heap; what a run of the plain semantics says of the layer's readings -/
namespace DL
open PySem PySem.Spec PyProof.Rows L2

/-! ### data in the heap: B holds what never changes again, β tells where the mutable things stand -/
mutual
def Is (B : Hp) (β : List Addr) : V → D → Prop
  | v, .non => v = .non
  | v, .bl b => v = .bl b
  | v, .int i => v = .int i
  | v, .str x => v = .str x
  | v, .tup ds => ∃ a vs, v = .ref a ∧ B a = some (.tup vs) ∧ ds.length ≤ lim ∧ IsL B β vs ds
  | v, .lst ds => ∃ a vs, v = .ref a ∧ B a = some (.lst vs) ∧ ds.length ≤ lim ∧ IsL B β vs ds
  | v, .h n => ∃ a, v = .ref a ∧ β[n]? = some a
def IsL (B : Hp) (β : List Addr) : List V → List D → Prop
  | vs, [] => vs = []
  | vs, d :: ds => ∃ v r, vs = v :: r ∧ Is B β v d ∧ IsL B β r ds
end
section
variable {B B' H H' : Hp} {β β' : List Addr}
theorem isL_nil : IsL B β [] [] := by rw [IsL]
theorem isL_cons {v : V} {vs : List V} {d : D} {ds : List D} (h : Is B β v d) (hr : IsL B β vs ds) : IsL B β (v :: vs) (d :: ds) := by rw [IsL]; exact ⟨v, vs, rfl, h, hr⟩
theorem isL_nil_iff {vs : List V} : IsL B β vs [] ↔ vs = [] := by rw [IsL]
theorem isL_cons_iff {v : V} {vs : List V} {d : D} {ds : List D} : IsL B β (v :: vs) (d :: ds) ↔ Is B β v d ∧ IsL B β vs ds := by
  rw [IsL]
  constructor
  · rintro ⟨_, _, e, h, r⟩; cases e; exact ⟨h, r⟩
  · rintro ⟨h, r⟩; exact ⟨_, _, rfl, h, r⟩
theorem isL_len : ∀ {ds : List D} {vs : List V}, IsL B β vs ds → vs.length = ds.length
  | [], vs, h => by rw [isL_nil_iff.mp h]; rfl
  | d :: ds, vs, h => by
    rw [IsL] at h
    obtain ⟨v, r, rfl, _, h⟩ := h
    rw [List.length_cons, List.length_cons, isL_len h]
theorem isL_get : ∀ {ds : List D} {vs : List V} {i : Nat} {d : D}, IsL B β vs ds → ds[i]? = some d → ∃ v, vs[i]? = some v ∧ Is B β v d
  | [], _, _, _, _, e => by simp at e
  | d :: ds, vs, i, x, h, e => by
    rw [IsL] at h
    obtain ⟨v, r, rfl, h1, h⟩ := h
    cases i with
    | zero => simp at e; subst e; exact ⟨v, rfl, h1⟩
    | succ i =>
      obtain ⟨u, e2, h2⟩ := isL_get (i := i) h (by simpa using e)
      exact ⟨u, by simpa using e2, h2⟩
theorem isL_getV {ds : List D} {vs : List V} {i : Nat} {v : V} (h : IsL B β vs ds) (e : vs[i]? = some v) : ∃ d, ds[i]? = some d ∧ Is B β v d := by
  obtain ⟨hi, _⟩ := List.getElem?_eq_some_iff.mp e
  have hd : i < ds.length := by rw [← isL_len h]; exact hi
  obtain ⟨u, e2, h2⟩ := isL_get h (List.getElem?_eq_getElem hd)
  rw [e] at e2; cases e2
  exact ⟨_, List.getElem?_eq_getElem hd, h2⟩
theorem isL_append : ∀ {ds es : List D} {vs us : List V}, IsL B β vs ds → IsL B β us es → IsL B β (vs ++ us) (ds ++ es)
  | [], _, _, _, h, h2 => by rw [isL_nil_iff.mp h]; exact h2
  | d :: ds, es, vs, us, h, h2 => by
    rw [IsL] at h
    obtain ⟨v, r, rfl, h1, h⟩ := h
    exact isL_cons h1 (isL_append h h2)
theorem isL_take : ∀ {ds : List D} {vs : List V} (n : Nat), IsL B β vs ds → IsL B β (vs.take n) (ds.take n)
  | _, _, 0, _ => by simp [isL_nil]
  | [], vs, n + 1, h => by rw [isL_nil_iff.mp h]; simp [isL_nil]
  | d :: ds, vs, n + 1, h => by
    rw [IsL] at h
    obtain ⟨v, r, rfl, h1, h⟩ := h
    exact isL_cons h1 (isL_take n h)
theorem isL_drop : ∀ {ds : List D} {vs : List V} (n : Nat), IsL B β vs ds → IsL B β (vs.drop n) (ds.drop n)
  | _, _, 0, h => h
  | [], vs, n + 1, h => by rw [isL_nil_iff.mp h]; simp [isL_nil]
  | d :: ds, vs, n + 1, h => by
    rw [IsL] at h
    obtain ⟨v, r, rfl, h1, h⟩ := h
    exact isL_drop n h
theorem isL_set : ∀ {ds : List D} {vs : List V} (n : Nat) {v : V} {d : D}, IsL B β vs ds → Is B β v d → IsL B β (vs.set n v) (ds.set n d)
  | [], vs, n, _, _, h, _ => by rw [isL_nil_iff.mp h]; exact isL_nil
  | d :: ds, vs, n, u, e, h, hu => by
    rw [IsL] at h
    obtain ⟨v, r, rfl, h1, h⟩ := h
    cases n with
    | zero => exact isL_cons hu h
    | succ n => exact isL_cons h1 (isL_set n h hu)
theorem isL_flat {k : Nat} {ds : List D} {vs : List V} (h : IsL B β vs ds) : IsL B β (List.replicate k vs).flatten (repL k ds) := by
  unfold repL
  induction k with
  | zero => exact isL_nil
  | succ k ih => rw [List.replicate_succ, List.replicate_succ, List.flatten_cons, List.flatten_cons]; exact isL_append h ih
theorem isL_one {v : V} {d : D} (h : Is B β v d) : IsL B β [v] [d] := isL_cons h isL_nil
theorem is_int {v : V} {i : Int} : Is B β v (.int i) ↔ v = .int i := by rw [Is]
theorem is_bl {v : V} {b : Bool} : Is B β v (.bl b) ↔ v = .bl b := by rw [Is]
theorem is_non {v : V} : Is B β v .non ↔ v = .non := by rw [Is]
theorem is_str {v : V} {x : Str} : Is B β v (.str x) ↔ v = .str x := by rw [Is]
theorem is_tup {v : V} {ds : List D} : Is B β v (.tup ds) ↔ ∃ a vs, v = .ref a ∧ B a = some (.tup vs) ∧ ds.length ≤ lim ∧ IsL B β vs ds := by rw [Is]
theorem is_lst {v : V} {ds : List D} : Is B β v (.lst ds) ↔ ∃ a vs, v = .ref a ∧ B a = some (.lst vs) ∧ ds.length ≤ lim ∧ IsL B β vs ds := by rw [Is]
theorem is_h {v : V} {n : Nat} : Is B β v (.h n) ↔ ∃ a, v = .ref a ∧ β[n]? = some a := by rw [Is]
theorem isL_ints : ∀ {ds : List D} {vs : List V} {ns : List Int}, IsL B β vs ds → toInts ds = some ns → vs = ns.map V.int
  | [], vs, ns, h, e => by
    rw [toInts] at e; cases e
    rw [isL_nil_iff.mp h]; rfl
  | d :: ds, vs, ns, h, e => by
    rw [IsL] at h
    obtain ⟨v, r, rfl, h1, h⟩ := h
    cases d with
    | int i =>
      rw [toInts, Option.map_eq_some_iff] at e
      obtain ⟨ms, e1, rfl⟩ := e
      rw [is_int.mp h1, isL_ints h e1]; rfl
    | _ => simp [toInts] at e
theorem isL_of_ints : ∀ (ns : List Int), IsL B β (ns.map V.int) (ns.map D.int)
  | [] => isL_nil
  | n :: ns => isL_cons (is_int.mpr rfl) (isL_of_ints ns)
theorem isL_bls : ∀ {ds : List D} {vs : List V} {bs : List Bool}, IsL B β vs ds → toBls ds = some bs → vs = bs.map V.bl
  | [], vs, ns, h, e => by
    rw [toBls] at e; cases e
    rw [isL_nil_iff.mp h]; rfl
  | d :: ds, vs, ns, h, e => by
    rw [IsL] at h
    obtain ⟨v, r, rfl, h1, h⟩ := h
    cases d with
    | bl i =>
      rw [toBls, Option.map_eq_some_iff] at e
      obtain ⟨ms, e1, rfl⟩ := e
      rw [is_bl.mp h1, isL_bls h e1]; rfl
    | _ => simp [toBls] at e

theorem pre_get {α : Type} {l l' : List α} (h : l <+: l') {n : Nat} {a : α} (e : l[n]? = some a) : l'[n]? = some a := by
  obtain ⟨r, rfl⟩ := h
  rw [List.getElem?_append_left (List.getElem?_eq_some_iff.mp e).1]
  exact e
mutual
theorem Is.mono (s : Same B B') (p : β <+: β') : ∀ {d : D} {v : V}, Is B β v d → Is B' β' v d
  | .non, _, h => is_non.mpr (is_non.mp h)
  | .bl _, _, h => is_bl.mpr (is_bl.mp h)
  | .int _, _, h => is_int.mpr (is_int.mp h)
  | .str _, _, h => is_str.mpr (is_str.mp h)
  | .tup ds, _, h => by
    obtain ⟨a, vs, e, h1, h2, h3⟩ := is_tup.mp h
    exact is_tup.mpr ⟨a, vs, e, s a _ h1, h2, IsL.mono s p h3⟩
  | .lst ds, _, h => by
    obtain ⟨a, vs, e, h1, h2, h3⟩ := is_lst.mp h
    exact is_lst.mpr ⟨a, vs, e, s a _ h1, h2, IsL.mono s p h3⟩
  | .h n, _, h => by
    obtain ⟨a, e, h1⟩ := is_h.mp h
    exact is_h.mpr ⟨a, e, pre_get p h1⟩
theorem IsL.mono (s : Same B B') (p : β <+: β') : ∀ {ds : List D} {vs : List V}, IsL B β vs ds → IsL B' β' vs ds
  | [], _, h => by rw [isL_nil_iff.mp h]; exact isL_nil
  | d :: ds, vs, h => by
    rw [IsL] at h
    obtain ⟨v, r, rfl, h1, h⟩ := h
    exact isL_cons (Is.mono s p h1) (IsL.mono s p h)
end

/-- no tuple -/
def NT (o : HO) : Prop := ∀ vs, o ≠ .tup vs
theorem nt_lst {vs : List V} : NT (.lst vs) := fun _ h => nomatch h
theorem nt_frz {od : Obj} {u : HO} : NT (.frz od u) := fun _ h => nomatch h
theorem nt_dT {kvs : List (List Key × V)} : NT (.dT kvs) := fun _ h => nomatch h
theorem nt_ext {φ : Heap → Prop} : NT (.ext φ) := fun _ h => nomatch h
/-- from one state to a later one: what never changes is kept, the handles too; what is neither of the two stands as it was -/
structure Ext (B : Hp) (β : List Addr) (H : Hp) (B' : Hp) (β' : List Addr) (H' : Hp) : Prop where
  same : Same B B'
  pre : β <+: β'
  fr : ∀ b o, H b = some o → NT o → b ∉ β → H' b = some o ∧ B' b = B b ∧ b ∉ β'
theorem Ext.refl : Ext B β H B β H := ⟨Same.refl _, List.prefix_refl _, fun _ _ h _ n => ⟨h, rfl, n⟩⟩
theorem Ext.trans {B2 H2 : Hp} {β2 : List Addr} (a : Ext B β H B' β' H') (b : Ext B' β' H' B2 β2 H2) : Ext B β H B2 β2 H2 := ⟨a.same.trans b.same, a.pre.trans b.pre, fun c o h nt n => by
  obtain ⟨h1, h2, h3⟩ := a.fr c o h nt n
  obtain ⟨k1, k2, k3⟩ := b.fr c o h1 nt h3
  exact ⟨k1, k2.trans h2, k3⟩⟩
theorem Is.ext {d : D} {v : V} (h : Is B β v d) (e : Ext B β H B' β' H') : Is B' β' v d := Is.mono e.same e.pre h
theorem IsL.ext {d : List D} {v : List V} (h : IsL B β v d) (e : Ext B β H B' β' H') : IsL B' β' v d := IsL.mono e.same e.pre h

/-- the keys and values of a dict -/
def KvIs (B : Hp) (β : List Addr) (kvs : List (List Key × V)) (ps : List (List Int × D)) : Prop :=
  kvs.map (·.1) = ps.map (fun p => p.1.map Sum.inl) ∧ IsL B β (kvs.map (·.2)) (ps.map (·.2)) ∧ ∀ p ∈ ps, p.1.length ≤ lim
/-- keys that are ints or None -/
def lfO : Option Int → Leaf
  | none => .none
  | some i => .num i
/-- a dict whose keys are ints or None, whatever its values -/
def dcoH (a : Addr) (ks : List (Option Int)) : HO := .ext fun h => (a == sysModules) = false ∧ ks.length ≤ sizeLine ∧ ∃ (P : Program) (w : World) (vs : List (Leaf × Value)), h.DictOf (leafKind P w) a vs ∧ vs.map (·.1) = ks.map lfO
/-- a mutable thing at a -/
def MoIs (K : PySem.W.Frag) (B H : Hp) (β : List Addr) (a : Addr) : MO → Prop
  | .dead => ∃ o, H a = some o
  | .scr ns => B a = none ∧ (∃ o, H a = some o ∧ NT o) ∧ ns.length ≤ lim ∧ SqL K H a (ns.map V.int)
  | .lst ds => B a = none ∧ ds.length ≤ lim ∧ ∃ vs, H a = some (.lst vs) ∧ IsL B β vs ds
  | .dic true kvs => kvs.length ≤ lim ∧ ∃ kvs' od, KvIs B β kvs' kvs ∧ B a = some (.frz od (.dT kvs')) ∧ H a = some (.frz od (.dT kvs'))
  | .dic false kvs => B a = none ∧ kvs.length ≤ lim ∧ ∃ kvs', KvIs B β kvs' kvs ∧ H a = some (.dT kvs')
  | .dco ks => B a = none ∧ H a = some (dcoH a ks)
structure Rep (K : PySem.W.Frag) (B H : Hp) (β : List Addr) (μ : Store) : Prop where
  len : β.length = μ.length
  nd : β.Nodup
  sub : Same B H
  obj : ∀ (n : Nat) (a : Addr) (o : MO), β[n]? = some a → μ[n]? = some o → MoIs K B H β a o
variable {K : PySem.W.Frag} {μ : Store}
theorem MoIs.there {a : Addr} {o : MO} (h : MoIs K B H β a o) : ∃ u, H a = some u := by
  cases o with
  | dead => exact h
  | scr ns => obtain ⟨_, ⟨o, h, _⟩, _⟩ := h; exact ⟨o, h⟩
  | lst ds => obtain ⟨_, _, vs, h, _⟩ := h; exact ⟨_, h⟩
  | dic lk kvs =>
    cases lk with
    | true => obtain ⟨_, _, _, _, _, h⟩ := h; exact ⟨_, h⟩
    | false => obtain ⟨_, _, _, _, h⟩ := h; exact ⟨_, h⟩
  | dco ks => exact ⟨_, h.2⟩
theorem Rep.there (r : Rep K B H β μ) {n : Nat} {a : Addr} (e : β[n]? = some a) : ∃ o u, μ[n]? = some o ∧ H a = some u := by
  have hn : n < μ.length := by rw [← r.len]; exact (List.getElem?_eq_some_iff.mp e).1
  obtain ⟨u, hu⟩ := (r.obj n a _ e (List.getElem?_eq_getElem hn)).there
  exact ⟨_, u, List.getElem?_eq_getElem hn, hu⟩
theorem Rep.at (r : Rep K B H β μ) {n : Nat} {o : MO} (e : μ[n]? = some o) : ∃ a, β[n]? = some a ∧ MoIs K B H β a o := by
  have hn : n < β.length := by rw [r.len]; exact (List.getElem?_eq_some_iff.mp e).1
  exact ⟨_, List.getElem?_eq_getElem hn, r.obj n _ o (List.getElem?_eq_getElem hn) e⟩
theorem Same.free' {p : Addr} (s : Same B H) (h : H p = none) : B p = none := Same.free s h
theorem same_upd {p : Addr} {o : HO} (h : H p = none) : Same H (upd H p o) := fun b x e => by
  rw [upd_ne (ne_of_none e h)]
  exact e
theorem same_upd2 {p : Addr} {o : HO} (s : Same B H) : Same (upd B p o) (upd H p o) := fun b x e => by
  by_cases hb : b = p
  · subst hb; rw [upd_same] at e ⊢; exact e
  · rw [upd_ne hb] at e ⊢; exact s b x e
theorem MoIs.mono {a : Addr} {o : MO} (h : MoIs K B H β a o) (s : Same B B') (p : β <+: β') (hb : B a = none → B' a = none) (hs : Same H H') : MoIs K B' H' β' a o := by
  cases o with
  | dead => obtain ⟨u, h⟩ := h; exact ⟨u, hs _ _ h⟩
  | scr ns => obtain ⟨h1, ⟨u, h2, nt⟩, h3, h4⟩ := h; exact ⟨hb h1, ⟨u, hs _ _ h2, nt⟩, h3, Same.seq hs h4⟩
  | lst ds => obtain ⟨h1, h2, vs, h3, h4⟩ := h; exact ⟨hb h1, h2, vs, hs _ _ h3, h4.mono s p⟩
  | dic lk kvs =>
    cases lk with
    | true =>
      obtain ⟨h1, kvs', od, ⟨h3, h4, h9⟩, h5, h6⟩ := h
      exact ⟨h1, kvs', od, ⟨h3, h4.mono s p, h9⟩, s _ _ h5, hs _ _ h6⟩
    | false =>
      obtain ⟨h1, h2, kvs', ⟨h3, h4, h9⟩, h5⟩ := h
      exact ⟨hb h1, h2, kvs', ⟨h3, h4.mono s p, h9⟩, hs _ _ h5⟩
  | dco ks => exact ⟨hb h.1, hs _ _ h.2⟩
/-- a thing that never changes is laid -/
theorem Rep.new (r : Rep K B H β μ) {p : Addr} {o : HO} (hp : H p = none) : Rep K (upd B p o) (upd H p o) β μ :=
  ⟨r.len, r.nd, same_upd2 r.sub, fun n a m e1 e2 => by
    obtain ⟨u, hu⟩ := (r.obj n a m e1 e2).there
    exact (r.obj n a m e1 e2).mono (same_upd (Same.free r.sub hp)) (List.prefix_refl _) (fun h => by rw [upd_ne (ne_of_none hu hp)]; exact h) (same_upd hp)⟩
theorem Rep.newExt (r : Rep K B H β μ) {p : Addr} {o : HO} (hp : H p = none) : Ext B β H (upd B p o) β (upd H p o) := ⟨same_upd (Same.free r.sub hp), List.prefix_refl _, fun b u h _ n => by
  have hb : b ≠ p := ne_of_none h hp
  rw [upd_ne hb, upd_ne hb]
  exact ⟨h, rfl, n⟩⟩
/-- a thing that the store does not know is laid -/
theorem Rep.junk (r : Rep K B H β μ) {p : Addr} {o : HO} (hp : H p = none) : Rep K B (upd H p o) β μ :=
  ⟨r.len, r.nd, r.sub.trans (same_upd hp), fun n a m e1 e2 => (r.obj n a m e1 e2).mono (Same.refl _) (List.prefix_refl _) (fun h => h) (same_upd hp)⟩
theorem Rep.notin (r : Rep K B H β μ) {p : Addr} (hp : H p = none) : p ∉ β := fun hm => by
  obtain ⟨n, hn, e⟩ := List.mem_iff_getElem.mp hm
  obtain ⟨o, u, _, hu⟩ := r.there (n := n) (a := p) (by rw [List.getElem?_eq_getElem hn, e])
  rw [hp] at hu; cases hu
/-- a mutable thing is made -/
theorem Rep.alloc (r : Rep K B H β μ) {p : Addr} {u : HO} {o : MO} (hp : H p = none) (ho : MoIs K B (upd H p u) (β ++ [p]) p o) : Rep K B (upd H p u) (β ++ [p]) (μ ++ [o]) := by
  refine ⟨by simp [r.len], ?_, r.sub.trans (same_upd hp), fun n a m e1 e2 => ?_⟩
  · rw [List.nodup_append]
    refine ⟨r.nd, by simp, fun a ha b hb => ?_⟩
    have : b = p := by simpa using hb
    subst this
    exact fun e => r.notin hp (e ▸ ha)
  · by_cases hn : n < β.length
    · rw [List.getElem?_append_left hn] at e1
      rw [List.getElem?_append_left (by rw [← r.len]; exact hn)] at e2
      exact (r.obj n a m e1 e2).mono (Same.refl _) (List.prefix_append _ _) (fun h => h) (same_upd hp)
    · have hl : n = β.length := by
        have := (List.getElem?_eq_some_iff.mp e1).1
        simp at this; omega
      subst hl
      have ea : a = p := by simpa using e1.symm
      have em : m = o := by rw [r.len] at e2; simpa using e2.symm
      rw [ea, em]
      exact ho
theorem nd_get {α : Type} {l : List α} (hN : l.Nodup) {i j : Nat} {x : α} (a : l[i]? = some x) (b : l[j]? = some x) : i = j := by
  obtain ⟨h1, e1⟩ := List.getElem?_eq_some_iff.mp a
  obtain ⟨h2, e2⟩ := List.getElem?_eq_some_iff.mp b
  exact (List.getElem_inj hN).mp (e1.trans e2.symm)
/-- a mutable thing is changed -/
theorem Rep.set (r : Rep K B H β μ) {n : Nat} {a : Addr} {u : HO} {o : MO} (e : β[n]? = some a) (hb : B a = none) (ho : MoIs K B (upd H a u) β a o) : Rep K B (upd H a u) β (μ.set n o) := by
  refine ⟨by simp [r.len], r.nd, fun b x q => ?_, fun m c k e1 e2 => ?_⟩
  · have : b ≠ a := fun z => by rw [z, hb] at q; cases q
    rw [upd_ne this]
    exact r.sub b x q
  · by_cases hm : m = n
    · subst hm
      rw [e] at e1; cases e1
      have hl : m < μ.length := by rw [← r.len]; exact (List.getElem?_eq_some_iff.mp e).1
      rw [List.getElem?_set_self hl] at e2; cases e2
      exact ho
    · rw [List.getElem?_set_ne (Ne.symm hm)] at e2
      have hca : c ≠ a := fun z => hm (nd_get r.nd (z ▸ e1) e)
      have h := r.obj m c k e1 e2
      have at' : ∀ x, H c = some x → (upd H a u) c = some x := fun x q => by rw [upd_ne hca]; exact q
      cases k with
      | dead => obtain ⟨x, h⟩ := h; exact ⟨x, at' _ h⟩
      | scr ns =>
        obtain ⟨h1, ⟨x, h2, nt⟩, h3, h4⟩ := h
        refine ⟨h1, ⟨x, at' _ h2, nt⟩, h3, ?_⟩
        rcases h4 with (h4 | ⟨o4, h4⟩) | h4
        · exact .inl (.inl (at' _ h4))
        · exact .inl (.inr ⟨o4, at' _ h4⟩)
        · exact .inr h4
      | lst ds => obtain ⟨h1, h2, vs, h3, h4⟩ := h; exact ⟨h1, h2, vs, at' _ h3, h4⟩
      | dic lk kvs =>
        cases lk with
        | true =>
          obtain ⟨h1, kvs', od, h3, h5, h6⟩ := h
          exact ⟨h1, kvs', od, h3, h5, at' _ h6⟩
        | false =>
          obtain ⟨h1, h2, kvs', h3, h5⟩ := h
          exact ⟨h1, h2, kvs', h3, at' _ h5⟩
      | dco ks => exact ⟨h.1, at' _ h.2⟩
theorem Rep.setExt (r : Rep K B H β μ) {n : Nat} {a : Addr} {u : HO} (e : β[n]? = some a) : Ext B β H B β (upd H a u) := ⟨Same.refl _, List.prefix_refl _, fun b o h _ hb => by
  have : b ≠ a := fun z => hb (z ▸ List.mem_of_getElem? e)
  rw [upd_ne this]
  exact ⟨h, rfl, hb⟩⟩
theorem Rep.freezeExt (r : Rep K B H β μ) {n : Nat} {a : Addr} {u : HO} (e : β[n]? = some a) (hb : B a = none) : Ext B β H (upd B a u) β H := ⟨same_upd hb, List.prefix_refl _, fun b o h _ hn => by
  have : b ≠ a := fun z => hn (z ▸ List.mem_of_getElem? e)
  rw [upd_ne this]
  exact ⟨h, rfl, hn⟩⟩
theorem Rep.allocExt (r : Rep K B H β μ) {p : Addr} {u : HO} (hp : H p = none) : Ext B β H B (β ++ [p]) (upd H p u) := ⟨Same.refl _, List.prefix_append _ _, fun b o h _ hn => by
  have hb : b ≠ p := ne_of_none h hp
  rw [upd_ne hb]
  exact ⟨h, rfl, by simp [hn, hb]⟩⟩
/-- a list of one's own is given away -/
theorem Rep.freeze (r : Rep K B H β μ) {n : Nat} {a : Addr} {vs : List V} (e : β[n]? = some a) (hb : B a = none) (h : H a = some (.lst vs)) : Rep K (upd B a (.lst vs)) H β (μ.set n .dead) := by
  refine ⟨by simp [r.len], r.nd, fun b x q => ?_, fun m c k e1 e2 => ?_⟩
  · by_cases hba : b = a
    · subst hba; rw [upd_same] at q; cases q; exact h
    · rw [upd_ne hba] at q; exact r.sub b x q
  · by_cases hm : m = n
    · subst hm
      rw [e] at e1; cases e1
      have hl : m < μ.length := by rw [← r.len]; exact (List.getElem?_eq_some_iff.mp e).1
      rw [List.getElem?_set_self hl] at e2; cases e2
      exact ⟨_, h⟩
    · rw [List.getElem?_set_ne (Ne.symm hm)] at e2
      have hca : c ≠ a := fun z => hm (nd_get r.nd (z ▸ e1) e)
      exact (r.obj m c k e1 e2).mono (same_upd hb) (List.prefix_refl _) (fun q => by rw [upd_ne hca]; exact q) (Same.refl _)
theorem MoIs.nt {a : Addr} {o : MO} (h : MoIs K B H β a o) : (o = .dead) ∨ (∃ u, H a = some u ∧ NT u) := by
  cases o with
  | dead => exact .inl rfl
  | scr ns => exact .inr h.2.1
  | lst ds => obtain ⟨_, _, vs, h, _⟩ := h; exact .inr ⟨_, h, nt_lst⟩
  | dic lk kvs =>
    cases lk with
    | true => obtain ⟨_, _, _, _, _, h⟩ := h; exact .inr ⟨_, h, nt_frz⟩
    | false => obtain ⟨_, _, _, _, h⟩ := h; exact .inr ⟨_, h, nt_dT⟩
  | dco ks => exact .inr ⟨_, h.2, nt_ext⟩
/-- a tuple that stands somewhere is taken in -/
theorem Rep.adoptT (r : Rep K B H β μ) {p : Addr} {vs : List V} (hu : H p = some (.tup vs)) : Rep K (upd B p (.tup vs)) H β μ ∧ Ext B β H (upd B p (.tup vs)) β H := by
  have sm : Same B (upd B p (.tup vs)) := fun b x q => by
    by_cases hb : b = p
    · subst hb
      have := r.sub _ _ q
      rw [hu] at this
      cases this
      exact upd_same
    · rw [upd_ne hb]; exact q
  refine ⟨⟨r.len, r.nd, fun b x q => ?_, fun n c k e1 e2 => ?_⟩, sm, List.prefix_refl _, fun b o h nt n => ?_⟩
  · by_cases hb : b = p
    · subst hb; rw [upd_same] at q; cases q; exact hu
    · rw [upd_ne hb] at q; exact r.sub b x q
  · have h := r.obj n c k e1 e2
    rcases h.nt with rfl | ⟨u, h1, h2⟩
    · exact h
    · have hc : c ≠ p := fun z => by subst z; rw [hu] at h1; cases h1; exact h2 vs rfl
      exact h.mono sm (List.prefix_refl _) (fun q => by rw [upd_ne hc]; exact q) (Same.refl _)
  · have hb : b ≠ p := fun z => by subst z; rw [hu] at h; cases h; exact nt vs rfl
    exact ⟨h, upd_ne hb, n⟩
end

/-! ### the slots -/
structure EnvOk (B : Hp) (β : List Addr) (σ : L2.St) (Γ : Env) : Prop where
  len : σ.length = Γ.length
  get : ∀ (i : Nat) (d : D), Γ[i]? = some (some d) → ∃ v, σ[i]? = some (some v) ∧ Is B β v d
section
variable {B B' : Hp} {β β' : List Addr} {σ : L2.St} {Γ : Env}
theorem EnvOk.ext {H H' : Hp} (h : EnvOk B β σ Γ) (e : Ext B β H B' β' H') : EnvOk B' β' σ Γ := ⟨h.len, fun i d q => by
  obtain ⟨v, h1, h2⟩ := h.get i d q
  exact ⟨v, h1, h2.ext e⟩⟩
theorem EnvOk.set (h : EnvOk B β σ Γ) (i : Nat) {v : V} {d : D} (hv : Is B β v d) : EnvOk B β (σ.set i (some v)) (Γ.set i (some d)) := ⟨by simp [h.len], fun j e q => by
  by_cases hj : i = j
  · subst hj
    by_cases hi : i < Γ.length
    · rw [List.getElem?_set_self hi] at q
      cases q
      exact ⟨v, by rw [List.getElem?_set_self (by rw [h.len]; exact hi)], hv⟩
    · rw [List.getElem?_eq_none (by simp; omega)] at q; cases q
  · rw [List.getElem?_set_ne hj] at q ⊢
    exact h.get j e q⟩
theorem EnvOk.set0 (h : EnvOk B β σ Γ) (i : Nat) (x : Option V) : EnvOk B β (σ.set i x) (Γ.set i none) := ⟨by simp [h.len], fun j e q => by
  by_cases hj : i = j
  · subst hj
    by_cases hi : i < Γ.length
    · rw [List.getElem?_set_self hi] at q
      cases q
    · rw [List.getElem?_eq_none (by simp; omega)] at q; cases q
  · rw [List.getElem?_set_ne hj] at q ⊢
    exact h.get j e q⟩
theorem EnvOk.wiped (h : EnvOk B β σ Γ) : ∀ vs : List Nat, EnvOk B β (L2.wipe σ vs) (DL.wipe Γ vs)
  | [] => h
  | v :: vs => by
    unfold L2.wipe DL.wipe
    exact (EnvOk.wiped h vs).set0 v none
end
end DL
/-! DLf: dicts whose keys are ints or None -/
namespace DL
open PySem PySem.Spec PyProof.Rows L2
theorem lf_pairs {P P' : Program} {w w' : World} : ∀ {es : List DictEntry} {vs : List (Leaf × Value)}, Pairs (leafKind P w) es vs → Pairs (leafKind P' w') es vs
  | _, _, .nil => .nil
  | _, _, .cons h1 h2 h3 => .cons h1 h2 (lf_pairs h3)
theorem lf_hash {w w' : World} (k : Option Int) : (lfO k).key.hash w = (lfO k).key.hash w' := by cases k <;> rfl
theorem lf_keys {P P' : Program} {w w' : World} : ∀ {es : List DictEntry} {vs : List (Leaf × Value)} {ks : List (Option Int)}, Pairs (leafKind P w) es vs → vs.map (·.1) = ks.map lfO → (∀ e ∈ es, ∃ k, (leafKind P w).is k e.key = true ∧ e.hash = (leafKind P w).hash k) → ∀ e ∈ es, ∃ k, (leafKind P' w').is k e.key = true ∧ e.hash = (leafKind P' w').hash k
  | _, _, _, .nil, _, _ => fun e he => nomatch he
  | _, _, [], .cons h1 h2 h3, e, _ => nomatch e
  | _, _, k :: ks, .cons (e := e0) (kv := kv) h1 h2 h3, e, h => by
    rw [List.map_cons, List.map_cons] at e
    injection e with e1 e2
    intro x hx
    rcases List.mem_cons.mp hx with rfl | hx
    · obtain ⟨k', a1, a2⟩ := h x List.mem_cons_self
      have e3 : k' = kv.1 := (leafKind P w).inj _ _ _ a1 h1
      rw [e3, e1] at a2
      exact ⟨lfO k, by rw [← e1]; exact h1, by rw [a2]; exact lf_hash k⟩
    · exact lf_keys h3 e2 (fun y hy => h y (List.mem_cons_of_mem _ hy)) x hx
theorem lf_dict {P P' : Program} {w w' : World} {h : Heap} {a : Addr} {vs : List (Leaf × Value)} {ks : List (Option Int)} (x : h.DictOf (leafKind P w) a vs) (e : vs.map (·.1) = ks.map lfO) : h.DictOf (leafKind P' w') a vs := by
  obtain ⟨o, es, ep, h1, h2, h3, h4, h5, h6⟩ := x
  exact ⟨o, es, ep, h1, h2, h3, fun y hy => lf_keys h5 e (fun z hz => h4 z (by simpa using hz)) y (by simpa using hy), lf_pairs h5, h6⟩
theorem lfO_inj {a b : Option Int} (h : lfO a = lfO b) : a = b := by
  cases a <;> cases b <;> simp_all [lfO]
theorem lf_val (k : Option Int) : ∀ {vs : List (Leaf × Value)} {ks : List (Option Int)}, vs.map (·.1) = ks.map lfO → (valueAt vs (lfO k)).isSome = ks.contains k
  | [], [], _ => rfl
  | [], _ :: _, h => nomatch h
  | _ :: _, [], h => nomatch h
  | v :: vs, j :: ks, h => by
    rw [List.map_cons, List.map_cons] at h
    injection h with h1 h2
    have ih := lf_val k h2
    rw [List.contains_cons]
    by_cases e : j = k
    · subst e
      simp [valueAt, List.find?_cons, h1]
    · have e1 : ¬ v.1 = lfO k := fun z => e (lfO_inj (h1.symm.trans z))
      have e2 : ¬ k = j := fun z => e z.symm
      have e3 : (k == j) = false := by simpa using e2
      rw [e3, Bool.false_or, ← ih]
      simp [valueAt, List.find?_cons, e1]
/-- the datum of a key -/
def kVO : Option Int → V
  | none => .non
  | some i => .int i
theorem kVO_is {P : Program} {w : World} {k : Option Int} {u : Value} (r : RelV (kVO k) u) : (leafKind P w).is (lfO k) u = true := by
  cases k with
  | none =>
    obtain rfl : u = Value.none := r
    rfl
  | some i =>
    obtain ⟨t, rfl⟩ := r
    exact decide_eq_true rfl
theorem dco_rd {P : Program} {w : World} {H : Hp} {h : Heap} {a : Addr} {ks : List (Option Int)} (ok : HOk P w H h) (e : H a = some (dcoH a ks)) : ks.length ≤ sizeLine ∧ (a == sysModules) = false ∧ ∃ vs, h.DictOf (leafKind P w) a vs ∧ vs.map (·.1) = ks.map lfO := by
  obtain ⟨⟨h1, h2, P0, w0, vs, h3, h4⟩, _⟩ := ok a _ e
  exact ⟨h2, h1, vs, lf_dict h3 h4, h4⟩
theorem dco_ok {P : Program} {w : World} {H : Hp} {h : Heap} {a : Addr} {ks : List (Option Int)} {vs : List (Leaf × Value)} (hd : (a == sysModules) = false) (hl : ks.length ≤ sizeLine) (x : h.DictOf (leafKind P w) a vs) (e : vs.map (·.1) = ks.map lfO) : ObjOk P w H h a (dcoH a ks) := by
  refine ⟨⟨hd, hl, P, w, vs, x, e⟩, ?_, fun h1 h2 z k => ?_⟩
  · obtain ⟨o, _, _, ho, _⟩ := x
    exact ⟨o, ho⟩
  · obtain ⟨z1, z2, P0, w0, vs0, ⟨o, es, ep, ho, r⟩, z4⟩ := z
    exact ⟨z1, z2, P0, w0, vs0, ⟨o, es, ep, k o ho, r⟩, z4⟩
def rInC (neg : Bool) : R2 := fun x y H Q => ∃ a ks k, y = .ref a ∧ H a = some (dcoH a ks) ∧ x = kVO k ∧ Q (.bl (neg != ks.contains k)) H
theorem op_inC {X : Cx} : OpR X (compareOp .In) (rInC false) := by
  intro pins s σ H x y v u Q I rx ry h
  obtain ⟨a, ks, k, rfl, e, rfl, q⟩ := h
  obtain rfl : u = Value.ref a := ry
  obtain ⟨_, hd, vs, dd, ek⟩ := dco_rd I.hok e
  refine wpAny_in_of (kVO_is rx) hd dd.mapOf ?_
  rw [lf_val k ek]
  refine ⟨.bl _, H, I.tok _, rfl, ?_⟩
  simpa using q
theorem op_ninC {X : Cx} : OpR X (compareOp .NotIn) (rInC true) := by
  intro pins s σ H x y v u Q I rx ry h
  obtain ⟨a, ks, k, rfl, e, rfl, q⟩ := h
  obtain rfl : u = Value.ref a := ry
  obtain ⟨_, hd, vs, dd, ek⟩ := dco_rd I.hok e
  refine wpAny_notIn_of (kVO_is rx) hd dd.mapOf ?_
  rw [lf_val k ek]
  refine ⟨.bl _, H, I.tok _, rfl, ?_⟩
  simpa using q
end DL
/-! DExp: the layer's expressions do what the plain semantics says -/
namespace DL
open PySem PySem.Spec PyProof.Rows L2

/-! ### runs -/
/-- m, run from μ, ends, and Q holds of whatever stands for its answer -/
def Run {α γ : Type} (J : Hp → List Addr → γ → α → Prop) (K : PySem.W.Frag) (B H : Hp) (β : List Addr) (μ : Store) (m : M α) (Q : γ → Hp → Prop) : Prop :=
  ∃ a μ', m μ = some (a, μ') ∧ ∀ B' β' H' c, Ext B β H B' β' H' → Rep K B' H' β' μ' → J B' β' c a → Q c H'
def JB : Hp → List Addr → Bool → Bool → Prop := fun _ _ c b => c = b
def JO : Hp → List Addr → Option Int → Option Int → Prop := fun _ _ c b => c = b
abbrev RunD := Run Is
abbrev RunL := Run IsL
abbrev RunB := Run JB
section
variable {K : PySem.W.Frag} {B H : Hp} {β : List Addr} {μ : Store}
theorem Run.bind {α α' γ γ' : Type} {J : Hp → List Addr → γ → α → Prop} {J' : Hp → List Addr → γ' → α' → Prop} {m : M α} {f : α → M α'} {Q : γ' → Hp → Prop} {R : γ → Hp → Prop} (h : Run J' K B H β μ (m >>= f) Q)
    (k : ∀ B1 β1 μ1 H1 c a, Ext B β H B1 β1 H1 → Rep K B1 H1 β1 μ1 → J B1 β1 c a → Run J' K B1 H1 β1 μ1 (f a) Q → R c H1) : Run J K B H β μ m R := by
  obtain ⟨a, μ', e, q⟩ := h
  obtain ⟨a1, μ1, e1, e2⟩ := bind_some e
  exact ⟨a1, μ1, e1, fun B1 β1 H1 c x r j => k B1 β1 μ1 H1 c a1 x r j ⟨a, μ', e2, fun B' β' H' c' x' r' j' => q B' β' H' c' (x.trans x') r' j'⟩⟩
theorem Run.pure {α γ : Type} {J : Hp → List Addr → γ → α → Prop} {a : α} {Q : γ → Hp → Prop} (h : Run J K B H β μ (pure a) Q) {B' H' : Hp} {β' : List Addr} {c : γ} (x : Ext B β H B' β' H') (r : Rep K B' H' β' μ) (j : J B' β' c a) : Q c H' := by
  obtain ⟨a', μ', e, q⟩ := h
  rw [pure_def] at e
  cases e
  exact q B' β' H' c x r j
theorem Run.here {α γ : Type} {J : Hp → List Addr → γ → α → Prop} {a : α} {Q : γ → Hp → Prop} (h : Run J K B H β μ (Pure.pure a) Q) {c : γ} (r : Rep K B H β μ) (j : J B β c a) : Q c H := h.pure Ext.refl r j
theorem Run.fail {α γ : Type} {J : Hp → List Addr → γ → α → Prop} {Q : γ → Hp → Prop} (h : Run J K B H β μ M.fail Q) : False := by
  obtain ⟨a, μ', e, q⟩ := h
  cases e
theorem Run.ite {α γ : Type} {J : Hp → List Addr → γ → α → Prop} {Q : γ → Hp → Prop} {c : Prop} [Decidable c] {m : M α} (h : Run J K B H β μ (if c then m else M.fail) Q) : c ∧ Run J K B H β μ m Q := by
  by_cases hc : c
  · rw [if_pos hc] at h; exact ⟨hc, h⟩
  · rw [if_neg hc] at h; exact h.fail.elim
theorem Run.toBl {α γ : Type} {J : Hp → List Addr → γ → α → Prop} {Q : γ → Hp → Prop} {d : D} {f : Bool → M α} (h : Run J K B H β μ (toBl d >>= f) Q) : ∃ b, d = .bl b ∧ Run J K B H β μ (f b) Q := by
  cases d with
  | bl b => exact ⟨b, rfl, h⟩
  | _ => exact h.fail.elim
theorem Run.get {α γ : Type} {J : Hp → List Addr → γ → α → Prop} {Q : γ → Hp → Prop} {n : Nat} {f : MO → M α} (h : Run J K B H β μ (getH n >>= f) Q) : ∃ o, μ[n]? = some o ∧ Run J K B H β μ (f o) Q := by
  obtain ⟨a, μ', e, q⟩ := h
  obtain ⟨o, μ1, e1, e2⟩ := bind_some e
  unfold getH at e1
  cases ho : μ[n]? with
  | none => rw [ho] at e1; cases e1
  | some o' =>
    rw [ho] at e1; cases e1
    exact ⟨_, rfl, a, μ', e2, q⟩
/-- a new thing that never changes -/
theorem Run.new {d : D} {Q : VK} (h : RunD K B H β μ (Pure.pure d) Q) {p : Addr} {o : HO} (hp : H p = none) (r : Rep K B H β μ) (j : Is (upd B p o) β (.ref p) d) : Q (.ref p) (upd H p o) := h.pure (r.newExt hp) (r.new hp) j
end

/-! ### the readings -/
def tD (K : PySem.W.Frag) (f : E) : TE := fun σ H Q => ∃ B β μ Γ, Rep K B H β μ ∧ EnvOk B β σ Γ ∧ RunD K B H β μ (f Γ) Q
def tT (K : PySem.W.Frag) (f : T) : TT := fun σ H Q => ∃ B β μ Γ, Rep K B H β μ ∧ EnvOk B β σ Γ ∧ RunB K B H β μ (f Γ) Q
def tL (K : PySem.W.Frag) (f : Env → M (List D)) : TA := fun σ H Q => ∃ B β μ Γ, Rep K B H β μ ∧ EnvOk B β σ Γ ∧ RunL K B H β μ (f Γ) Q
def tO (K : PySem.W.Frag) (f : Env → M (Option Int)) : TO := fun σ H Q => ∃ B β μ Γ, Rep K B H β μ ∧ EnvOk B β σ Γ ∧ Run JO K B H β μ (f Γ) Q
abbrev DE (X : Cx) (e : Expr) (f : E) : Prop := PE X e (tD X.K f)
abbrev DT (X : Cx) (e : Expr) (f : T) : Prop := PT X e (tT X.K f)
abbrev DW (X : Cx) (e : Expr) (f : T) : Prop := PW X e (tT X.K f)
abbrev DA (X : Cx) (es : List Expr) (f : Env → M (List D)) : Prop := PA X es (tL X.K f)
abbrev DO (X : Cx) (e : Option Expr) (f : Env → M (Option Int)) : Prop := PO X e (tO X.K f)
theorem pe_weak {X : Cx} {e : Expr} {t t' : TE} (h : PE X e t) (w : ∀ σ H Q, t' σ H Q → t σ H Q) : PE X e t' := ⟨fun pins s σ H Q I q => h.run pins s σ H Q I (w σ H Q q)⟩
theorem pt_weak {X : Cx} {e : Expr} {t t' : TT} (h : PT X e t) (w : ∀ σ H Q, t' σ H Q → t σ H Q) : PT X e t' := ⟨fun pins s σ H Q I q => h.run pins s σ H Q I (w σ H Q q)⟩
theorem pw_weak {X : Cx} {e : Expr} {t t' : TT} (h : PW X e t) (w : ∀ σ H Q, t' σ H Q → t σ H Q) : PW X e t' := ⟨fun wh pins s σ H Q I q => h.run wh pins s σ H Q I (w σ H Q q)⟩
theorem pa_weak {X : Cx} {e : List Expr} {t t' : TA} (h : PA X e t) (w : ∀ σ H Q, t' σ H Q → t σ H Q) : PA X e t' := ⟨fun pos pins s σ H Q I q => h.run pos pins s σ H Q I (w σ H Q q)⟩

section
variable {X : Cx} {K : PySem.W.Frag} {a b c e : Expr} {es : List Expr} {fa fb fc fe : E} {fs : Env → M (List D)} {pos : Pos} {f g : D → D → M D} {op : Operator} {r : R2}

/-- from a bind to its first part -/
theorem tD_bind {σ : L2.St} {H : Hp} {Q : VK} {k : Env → D → M D} (h : tD K (fun Γ => fa Γ >>= k Γ) σ H Q) {R : VK}
    (w : ∀ B β μ Γ H1 v d, Rep K B H1 β μ → EnvOk B β σ Γ → Is B β v d → RunD K B H1 β μ (k Γ d) Q → R v H1) : tD K fa σ H R := by
  obtain ⟨B, β, μ, Γ, rp, en, rn⟩ := h
  exact ⟨B, β, μ, Γ, rp, en, rn.bind fun B1 β1 μ1 H1 v d x r1 j rn1 => w B1 β1 μ1 Γ H1 v d r1 (en.ext x) j rn1⟩

/-! ### names, constants -/
theorem de_var (i : Nat) {x : Str} {p : Pos} (hN : X.N[i]? = some x := by rfl) (hv : Vis X.env.scope x := by first | exact Or.inl rfl | exact Or.inr (Or.inl rfl) | exact Or.inr (Or.inr rfl)) (hd : (x == ("__debug__" : Str)) = false := by decide)
    (hcd : (x == ("__classdict__" : Str)) = false := by decide) : DE X (.Name x p) (eVar i) := by
  refine pe_weak (pe_var hN hv hd hcd) fun σ H Q h => ?_
  obtain ⟨B, β, μ, Γ, rp, en, rn⟩ := h
  unfold eVar at rn
  cases hg : Γ[i]? with
  | none => rw [hg] at rn; exact rn.fail.elim
  | some o =>
    cases o with
    | none => rw [hg] at rn; exact rn.fail.elim
    | some d =>
      rw [hg] at rn
      obtain ⟨v, h1, h2⟩ := en.get i d hg
      exact ⟨v, h1, rn.here rp h2⟩
theorem de_int {i : Int} {j : Nat} {p : Pos} : DE X (.Constant (.int i) j p) (eC (.int i)) := pe_weak pe_int fun σ H Q h => by
  obtain ⟨B, β, μ, Γ, rp, en, rn⟩ := h
  exact rn.here rp (is_int.mpr rfl)
theorem de_bl {i : Bool} {j : Nat} {p : Pos} : DE X (.Constant (.bool i) j p) (eC (.bl i)) := pe_weak pe_bl fun σ H Q h => by
  obtain ⟨B, β, μ, Γ, rp, en, rn⟩ := h
  exact rn.here rp (is_bl.mpr rfl)
theorem de_non {j : Nat} {p : Pos} : DE X (.Constant .none j p) (eC .non) := pe_weak pe_non fun σ H Q h => by
  obtain ⟨B, β, μ, Γ, rp, en, rn⟩ := h
  exact rn.here rp (is_non.mpr rfl)
theorem de_str {x : Str} {j : Nat} {p : Pos} : DE X (.Constant (.str x) j p) (eC (.str x)) := pe_weak pe_str fun σ H Q h => by
  obtain ⟨B, β, μ, Γ, rp, en, rn⟩ := h
  exact rn.here rp (is_str.mpr rfl)
/-- a module's int -/
theorem de_globI {x : Str} {i : Int} {t : Tok} {p : Pos} (hg : Gl X x) (hm : X.mg x = some (.int i t)) (hd : (x == ("__debug__" : Str)) = false := by decide) : DE X (.Name x p) (eC (.int i)) :=
  pe_weak (pe_glob hg hm (v := .int i) ⟨t, rfl⟩ hd) fun σ H Q h => by
    obtain ⟨B, β, μ, Γ, rp, en, rn⟩ := h
    exact rn.here rp (is_int.mpr rfl)

/-! ### two-place operations -/
/-- f says of data what r says of values -/
def Op2 (K : PySem.W.Frag) (r : R2) (f : D → D → M D) : Prop := ∀ B H β μ x y d e Q, Rep K B H β μ → Is B β x d → Is B β y e → RunD K B H β μ (f d e) Q → r x y H Q
theorem tOp_of (ho : Op2 K r f) {σ : L2.St} {H : Hp} {Q : VK} (h : tD K (eOp2 f fa fb) σ H Q) : tOp r (tD K fa) (tD K fb) σ H Q :=
  tD_bind h fun B β μ Γ H1 v d rp en j rn => ⟨B, β, μ, Γ, rp, en, rn.bind fun B1 β1 μ1 H2 u e x r1 j1 rn1 => ho B1 H2 β1 μ1 v u d e Q r1 (j.ext x) j1 rn1⟩
theorem de_op (hr : OpR X (binaryOp op) r) (ho : Op2 X.K r f) (ha : DE X a fa) (hb : DE X b fb) : DE X (.BinOp a op b pos) (eOp2 f fa fb) := pe_weak (pe_op hr ha hb) fun σ H Q h => tOp_of ho h
theorem de_cmp {op : CmpOp} (hr : OpR X (compareOp op) r) (ho : Op2 X.K r f) (ha : DE X a fa) (hb : DE X b fb) (hm : behindInMarks op b = false) : DE X (.Compare a [op] [b] pos) (eOp2 f fa fb) := pe_weak (pe_cmpR hr ha hb hm) fun σ H Q h => tOp_of ho h
theorem dt_cmp {op : CmpOp} (hr : OpR X (compareOp op) r) (ho : Op2 X.K r f) (ha : DE X a fa) (hb : DE X b fb) (hm : behindInMarks op b = false) : DT X (.Compare a [op] [b] pos) (tVal (eOp2 f fa fb)) :=
  pt_weak (pt_cmpR hr ha hb hm) fun σ H Q h => by
    obtain ⟨B, β, μ, Γ, rp, en, rn⟩ := h
    refine tOp_of ho ⟨B, β, μ, Γ, rp, en, rn.bind fun B1 β1 μ1 H1 v d x r1 j rn1 => ?_⟩
    cases d with
    | bl k => exact ⟨k, is_bl.mp j, rn1.here r1 rfl⟩
    | _ => exact rn1.fail.elim

theorem lim_le {n : Nat} (h : n ≤ lim) : n ≤ sizeLine := Nat.le_trans h (by decide)
theorem lim_lt {n : Nat} (h : n ≤ lim) : n < sizeLine := Nat.lt_of_le_of_lt h (by decide)
/-- tuple: the address, the values -/
theorem is_tup' {B H : Hp} {β : List Addr} {μ : Store} {x : V} {ds : List D} (rp : Rep K B H β μ) (h : Is B β x (.tup ds)) : ∃ a vs, x = .ref a ∧ H a = some (.tup vs) ∧ B a = some (.tup vs) ∧ vs.length ≤ lim ∧ vs.length = ds.length ∧ IsL B β vs ds := by
  obtain ⟨a, vs, e, h1, h2, h3⟩ := is_tup.mp h
  exact ⟨a, vs, e, rp.sub _ _ h1, h1, by rw [isL_len h3]; exact h2, isL_len h3, h3⟩
theorem is_lst' {B H : Hp} {β : List Addr} {μ : Store} {x : V} {ds : List D} (rp : Rep K B H β μ) (h : Is B β x (.lst ds)) : ∃ a vs, x = .ref a ∧ H a = some (.lst vs) ∧ B a = some (.lst vs) ∧ vs.length ≤ lim ∧ vs.length = ds.length ∧ IsL B β vs ds := by
  obtain ⟨a, vs, e, h1, h2, h3⟩ := is_lst.mp h
  exact ⟨a, vs, e, rp.sub _ _ h1, h1, by rw [isL_len h3]; exact h2, isL_len h3, h3⟩
theorem is_newT {B : Hp} {β : List Addr} {p : Addr} {vs : List V} {ds : List D} (hb : B p = none) (h : IsL B β vs ds) (hl : ds.length ≤ lim) : Is (upd B p (.tup vs)) β (.ref p) (.tup ds) :=
  is_tup.mpr ⟨p, vs, rfl, upd_same, hl, h.mono (same_upd hb) (List.prefix_refl _)⟩
theorem is_newL {B : Hp} {β : List Addr} {p : Addr} {vs : List V} {ds : List D} (hb : B p = none) (h : IsL B β vs ds) (hl : ds.length ≤ lim) : Is (upd B p (.lst vs)) β (.ref p) (.lst ds) :=
  is_lst.mpr ⟨p, vs, rfl, upd_same, hl, h.mono (same_upd hb) (List.prefix_refl _)⟩

def rAddD (K : PySem.W.Frag) : R2 := fun x y H Q => rI0 (fun i j => .int (i + j)) x y H Q ∨ (rCatA K x y H Q ∨ rCat x y H Q)
theorem op_addD : OpR X (binaryOp .Add) (rAddD X.K) := op_add.or (op_catA.or op_cat)
theorem o_add : Op2 K (rAddD K) addD := by
  intro B H β μ x y d e Q rp hx hy rn
  cases d with
  | int i =>
    cases e with
    | int j => exact .inl ⟨i, j, is_int.mp hx, is_int.mp hy, rn.here rp (is_int.mpr rfl)⟩
    | _ => exact rn.fail.elim
  | tup ds =>
    cases e with
    | tup es =>
      obtain ⟨hl, rn⟩ := Run.ite rn
      obtain ⟨a, vs, rfl, ha, ba, _, la, ia⟩ := is_tup' rp hx
      obtain ⟨b, us, rfl, hb, bb, _, lb, ib⟩ := is_tup' rp hy
      refine .inr (.inl ⟨a, b, vs, us, rfl, rfl, SqT.of ha, SqT.of hb, by rw [la, lb]; exact lim_le hl, fun e => ?_, fun _ e => ?_, fun _ _ p hp => ?_⟩)
      · subst e
        have : ds = [] := List.eq_nil_of_length_eq_zero (by rw [← la]; rfl)
        subst this
        exact rn.here rp hy
      · subst e
        have : es = [] := List.eq_nil_of_length_eq_zero (by rw [← lb]; rfl)
        subst this
        rw [List.append_nil] at rn
        exact rn.here rp hx
      · exact rn.new hp rp (is_newT (Same.free rp.sub hp) (isL_append ia ib) (by rw [List.length_append]; exact hl))
    | _ => exact rn.fail.elim
  | lst ds =>
    cases e with
    | lst es =>
      obtain ⟨hl, rn⟩ := Run.ite rn
      obtain ⟨a, vs, rfl, ha, ba, _, la, ia⟩ := is_lst' rp hx
      obtain ⟨b, us, rfl, hb, bb, _, lb, ib⟩ := is_lst' rp hy
      refine .inr (.inr ⟨a, b, vs, us, rfl, rfl, ha, hb, by rw [la, lb]; exact lim_le hl, fun p hp => ?_⟩)
      exact rn.new hp rp (is_newL (Same.free rp.sub hp) (isL_append ia ib) (by rw [List.length_append]; exact hl))
    | _ => exact rn.fail.elim
  | _ => cases e <;> exact rn.fail.elim
theorem o_sub : Op2 K (rI0 fun i j => .int (i - j)) subD := by
  intro B H β μ x y d e Q rp hx hy rn
  cases d with
  | int i =>
    cases e with
    | int j => exact ⟨i, j, is_int.mp hx, is_int.mp hy, rn.here rp (is_int.mpr rfl)⟩
    | _ => exact rn.fail.elim
  | _ => cases e <;> exact rn.fail.elim
theorem o_div : Op2 K (rI CDiv fun i j => .int (i / j)) divD := by
  intro B H β μ x y d e Q rp hx hy rn
  cases d with
  | int i =>
    cases e with
    | int j =>
      obtain ⟨hl, rn⟩ := Run.ite rn
      exact ⟨i, j, is_int.mp hx, is_int.mp hy, hl, rn.here rp (is_int.mpr rfl)⟩
    | _ => exact rn.fail.elim
  | _ => cases e <;> exact rn.fail.elim
theorem o_mod : Op2 K (rI (fun _ j => 0 < j) fun i j => .int (i % j)) modD := by
  intro B H β μ x y d e Q rp hx hy rn
  cases d with
  | int i =>
    cases e with
    | int j =>
      obtain ⟨hl, rn⟩ := Run.ite rn
      exact ⟨i, j, is_int.mp hx, is_int.mp hy, hl, rn.here rp (is_int.mpr rfl)⟩
    | _ => exact rn.fail.elim
  | _ => cases e <;> exact rn.fail.elim
theorem de_add (ha : DE X a fa) (hb : DE X b fb) : DE X (.BinOp a .Add b pos) (eOp2 addD fa fb) := de_op op_addD o_add ha hb
theorem de_sub (ha : DE X a fa) (hb : DE X b fb) : DE X (.BinOp a .Sub b pos) (eOp2 subD fa fb) := de_op op_sub o_sub ha hb
theorem de_div (ha : DE X a fa) (hb : DE X b fb) : DE X (.BinOp a .FloorDiv b pos) (eOp2 divD fa fb) := de_op op_fdiv o_div ha hb
theorem de_mod (ha : DE X a fa) (hb : DE X b fb) : DE X (.BinOp a .Mod b pos) (eOp2 modD fa fb) := de_op op_mod o_mod ha hb
theorem de_neg (ha : DE X a fa) : DE X (.UnaryOp .USub a pos) (eOp1 negD fa) := pe_weak (pe_un un_neg ha) fun σ H Q h => tD_bind h fun B β μ Γ H1 v d rp en j rn => by
  cases d with
  | int i => exact ⟨i, is_int.mp j, rn.here rp (is_int.mpr rfl)⟩
  | _ => exact rn.fail.elim
/-- -1 and the like, written -/
theorem de_lt0 (ha : DE X a fa) (hb : DE X b fb) : True := trivial

/-! ### comparisons -/
def toP : D → PyData
  | .non => .none
  | .bl b => .bool b
  | .int i => .int i
  | .str x => .str x
  | .tup ds => .tuple (ds.map toP)
  | .lst ds => .list (ds.map toP)
  | .h _ => .none
mutual
theorem eqv_toP : ∀ (n : Nat) (a b : D), flt n a = true → flt n b = true → PyData.eqv (toP a) (toP b) = eqb a b
  | n, a, b, ha, hb => by
    cases a <;> cases b <;> first
      | (simp only [toP, PyData.eqv, eqb]; done)
      | (simp only [flt] at ha hb; done)
      | (simp only [flt, Bool.false_eq_true] at ha; done)
      | (simp only [flt, Bool.false_eq_true] at hb; done)
      | skip
    all_goals (cases n with
      | zero => simp only [flt, Bool.false_eq_true] at ha
      | succ m =>
        rw [flt] at ha hb
        rw [toP, toP, eqb, PyData.eqv]
        exact eqv_toPL m _ _ ha hb)
theorem eqv_toPL : ∀ (n : Nat) (a b : List D), fltL n a = true → fltL n b = true → PyData.eqvAll (a.map toP) (b.map toP) = eqbL a b
  | n, [], [], _, _ => by simp only [List.map_nil, PyData.eqvAll, eqbL]
  | n, [], _ :: _, _, _ => by simp only [List.map_nil, List.map_cons, PyData.eqvAll, eqbL]
  | n, _ :: _, [], _, _ => by simp only [List.map_nil, List.map_cons, PyData.eqvAll, eqbL]
  | n, x :: xs, y :: ys, ha, hb => by
    rw [fltL, Bool.and_eq_true] at ha hb
    rw [List.map_cons, List.map_cons, PyData.eqvAll, eqbL, eqv_toP n x y ha.1 hb.1, eqv_toPL n xs ys ha.2 hb.2]
end
end
end DL
/-! DOps: comparisons, tests, subscripts, displays, built-ins -/
namespace DL
open PySem PySem.Spec PyProof.Rows L2

/-! ### equality at any depth -/
mutual
theorem flt_plain : ∀ (n : Nat) (d : D), flt n d = true → (toP d).plain = true ∧ (toP d).depth ≤ n
  | n, d, h => by
    cases d <;> first
      | (exact ⟨by simp only [toP, PyData.plain], by simp only [toP, PyData.depth]; exact Nat.zero_le _⟩)
      | (simp only [flt, Bool.false_eq_true] at h; done)
      | skip
    all_goals (cases n with
      | zero => simp only [flt, Bool.false_eq_true] at h
      | succ m =>
        rw [flt] at h
        have q := flt_plainL m _ h
        exact ⟨by rw [toP, PyData.plain]; exact q.1, by rw [toP, PyData.depth]; exact Nat.succ_le_succ q.2⟩)
theorem flt_plainL : ∀ (n : Nat) (ds : List D), fltL n ds = true → PyData.plainAll (ds.map toP) = true ∧ PyData.depthAll (ds.map toP) ≤ n
  | n, [], _ => by simp [PyData.plainAll, PyData.depthAll]
  | n, x :: xs, h => by
    rw [fltL, Bool.and_eq_true] at h
    have q := flt_plain n x h.1
    have q2 := flt_plainL n xs h.2
    rw [List.map_cons]
    exact ⟨by rw [PyData.plainAll, q.1, q2.1]; rfl, by rw [PyData.depthAll]; exact Nat.max_le.mpr ⟨q.2, q2.2⟩⟩
end
mutual
theorem is_dp {K : PySem.W.Frag} {B H : Hp} {β : List Addr} (s : Same B H) : ∀ (n : Nat) (d : D) (v : V), Is B β v d → flt n d = true → Dp K H v (toP d)
  | n, .non, v, h, _ => by rw [is_non.mp h, toP]; exact .non
  | n, .bl b, v, h, _ => by rw [is_bl.mp h, toP]; exact .bl b
  | n, .int b, v, h, _ => by rw [is_int.mp h, toP]; exact .int b
  | n, .str b, v, h, _ => by rw [is_str.mp h, toP]; exact .str b
  | n, .tup ds, v, h, f => by
    cases n with
    | zero => simp only [flt, Bool.false_eq_true] at f
    | succ m =>
      rw [flt] at f
      obtain ⟨a, vs, rfl, h1, _, h3⟩ := is_tup.mp h
      rw [toP]
      exact .tup (SqT.of (s _ _ h1)) (is_dpL s m ds vs h3 f)
  | n, .lst ds, v, h, f => by
    cases n with
    | zero => simp only [flt, Bool.false_eq_true] at f
    | succ m =>
      rw [flt] at f
      obtain ⟨a, vs, rfl, h1, _, h3⟩ := is_lst.mp h
      rw [toP]
      exact .lst (SqL.of (s _ _ h1)) (is_dpL s m ds vs h3 f)
  | n, .h k, v, h, f => by simp only [flt, Bool.false_eq_true] at f
theorem is_dpL {K : PySem.W.Frag} {B H : Hp} {β : List Addr} (s : Same B H) : ∀ (n : Nat) (ds : List D) (vs : List V), IsL B β vs ds → fltL n ds = true → DpAll K H vs (ds.map toP)
  | n, [], vs, h, _ => by rw [isL_nil_iff.mp h]; exact .nil
  | n, d :: ds, vs, h, f => by
    rw [fltL, Bool.and_eq_true] at f
    rw [IsL] at h
    obtain ⟨v, r, rfl, h1, h⟩ := h
    exact .cons (is_dp s n d v h1 f.1) (is_dpL s n ds r h f.2)
end
section
variable {X : Cx}
def rEqP (K : PySem.W.Frag) : R2 := fun x y H Q => ∃ d e, Dp K H x d ∧ Dp K H y e ∧ d.plain = true ∧ e.plain = true ∧ d.depth ≤ 60 ∧ Q (.bl (PyData.eqv d e)) H
def rNeP (K : PySem.W.Frag) : R2 := fun x y H Q => ∃ d e, Dp K H x d ∧ Dp K H y e ∧ d.plain = true ∧ e.plain = true ∧ d.depth ≤ 60 ∧ Q (.bl (!PyData.eqv d e)) H
theorem op_eqP (hu : X.A.units + 64 < cLine) : OpR X (compareOp .Eq) (rEqP X.K) := by
  intro pins s σ H x y v u Q I rx ry h
  obtain ⟨d, e, hd, he, sd, se, z, q⟩ := h
  obtain ⟨as, r1⟩ := Dp.reads I d x v hd rx
  obtain ⟨bs, r2⟩ := Dp.reads I e y u he ry
  exact SeqAt.eq_plain r1 r2 sd se (by have : min d.depth e.depth ≤ 60 := Nat.le_trans (Nat.min_le_left _ _) z; omega) ⟨.bl _, H, I, rfl, q⟩
theorem op_neP (hu : X.A.units + 64 < cLine) : OpR X (compareOp .NotEq) (rNeP X.K) := by
  intro pins s σ H x y v u Q I rx ry h
  obtain ⟨d, e, hd, he, sd, se, z, q⟩ := h
  obtain ⟨as, r1⟩ := Dp.reads I d x v hd rx
  obtain ⟨bs, r2⟩ := Dp.reads I e y u he ry
  exact SeqAt.ne_plain r1 r2 sd se (by have : min d.depth e.depth ≤ 60 := Nat.le_trans (Nat.min_le_left _ _) z; omega) ⟨.bl _, H, I, rfl, q⟩
def rInP (K : PySem.W.Frag) (neg : Bool) : R2 := fun x y H Q => ∃ d ds, Dp K H x d ∧ (Dp K H y (.list ds) ∨ Dp K H y (.tuple ds)) ∧ d.plain = true ∧ PyData.plainAll ds = true ∧ d.depth ≤ 60 ∧ Q (.bl (neg != ds.any fun z => PyData.eqv z d)) H
theorem op_inP (hu : X.A.units + 64 < cLine) : OpR X (compareOp .In) (rInP X.K false) := by
  intro pins s σ H x y v u Q I rx ry h
  obtain ⟨d, ds, hd, he, sd, se, z, q⟩ := h
  obtain ⟨as, r1⟩ := Dp.reads I d x v hd rx
  have hm : X.A.units + 1 + min (PyData.depthAll ds) d.depth < cLine := by have : min (PyData.depthAll ds) d.depth ≤ 60 := Nat.le_trans (Nat.min_le_right _ _) z; omega
  have q' : Q (.bl (ds.any fun z => PyData.eqv z d)) H := by simpa using q
  rcases he with he | he
  · obtain ⟨bs, r2⟩ := Dp.reads I _ y u he ry
    exact SeqAt.in_list_data r2 r1 se sd hm ⟨.bl _, H, I, rfl, q'⟩
  · obtain ⟨bs, r2⟩ := Dp.reads I _ y u he ry
    exact SeqAt.in_tuple_data r2 r1 se sd hm ⟨.bl _, H, I, rfl, q'⟩
theorem op_ninP (hu : X.A.units + 64 < cLine) : OpR X (compareOp .NotIn) (rInP X.K true) := by
  intro pins s σ H x y v u Q I rx ry h
  obtain ⟨d, ds, hd, he, sd, se, z, q⟩ := h
  obtain ⟨as, r1⟩ := Dp.reads I d x v hd rx
  have hm : X.A.units + 1 + min (PyData.depthAll ds) d.depth < cLine := by have : min (PyData.depthAll ds) d.depth ≤ 60 := Nat.le_trans (Nat.min_le_right _ _) z; omega
  have q' : Q (.bl (!ds.any fun z => PyData.eqv z d)) H := by simpa using q
  rcases he with he | he
  · obtain ⟨bs, r2⟩ := Dp.reads I _ y u he ry
    exact SeqAt.notIn_list_data r2 r1 se sd hm ⟨.bl _, H, I, rfl, q'⟩
  · obtain ⟨bs, r2⟩ := Dp.reads I _ y u he ry
    exact SeqAt.notIn_tuple_data r2 r1 se sd hm ⟨.bl _, H, I, rfl, q'⟩
end
section
variable {X : Cx} {K : PySem.W.Frag} {a b c e : Expr} {es : List Expr} {fa fb fc fe : E} {fs : Env → M (List D)} {pos : Pos} {f g : D → D → M D} {op : Operator} {r : R2}
theorem o_eq : Op2 K (rEqP K) eqD := by
  intro B H β μ x y d e Q rp hx hy rn
  obtain ⟨hl, rn⟩ := Run.ite rn
  rw [Bool.and_eq_true] at hl
  refine ⟨toP d, toP e, is_dp rp.sub 60 d x hx hl.1, is_dp rp.sub 60 e y hy hl.2, (flt_plain 60 d hl.1).1, (flt_plain 60 e hl.2).1, (flt_plain 60 d hl.1).2, ?_⟩
  rw [eqv_toP 60 d e hl.1 hl.2]
  exact rn.here rp (is_bl.mpr rfl)
theorem o_ne : Op2 K (rNeP K) neD := by
  intro B H β μ x y d e Q rp hx hy rn
  obtain ⟨hl, rn⟩ := Run.ite rn
  rw [Bool.and_eq_true] at hl
  refine ⟨toP d, toP e, is_dp rp.sub 60 d x hx hl.1, is_dp rp.sub 60 e y hy hl.2, (flt_plain 60 d hl.1).1, (flt_plain 60 e hl.2).1, (flt_plain 60 d hl.1).2, ?_⟩
  rw [eqv_toP 60 d e hl.1 hl.2]
  exact rn.here rp (is_bl.mpr rfl)
theorem any_toP {x : D} (hx : flt 60 x = true) : ∀ (ds : List D), fltL 60 ds = true → ((ds.map toP).any fun z => PyData.eqv z (toP x)) = ds.any fun z => eqb z x
  | [], _ => rfl
  | d :: ds, h => by
    rw [fltL, Bool.and_eq_true] at h
    rw [List.map_cons, List.any_cons, List.any_cons, any_toP hx ds h.2, eqv_toP 60 d x h.1 hx]
theorem flt_lift : ∀ (m : Nat) (ds : List D), fltL m ds = true → flt (m + 1) (.tup ds) = true ∧ flt (m + 1) (.lst ds) = true := fun m ds h => ⟨by rw [flt]; exact h, by rw [flt]; exact h⟩
def rInD (K : PySem.W.Frag) (neg : Bool) : R2 := fun x y H Q => rInP K neg x y H Q ∨ rInC neg x y H Q
theorem op_inD (hu : X.A.units + 64 < cLine) : OpR X (compareOp .In) (rInD X.K false) := (op_inP hu).or op_inC
theorem op_ninD (hu : X.A.units + 64 < cLine) : OpR X (compareOp .NotIn) (rInD X.K true) := (op_ninP hu).or op_ninC
theorem o_in (neg : Bool) : Op2 K (rInD K neg) (inD neg) := by
  intro B H β μ x y d e Q rp hx hy rn
  cases e with
  | tup ds =>
    obtain ⟨hl, rn⟩ := Run.ite rn
    rw [Bool.and_eq_true] at hl
    refine .inl ⟨toP d, ds.map toP, is_dp rp.sub 60 d x hx hl.1, .inr ?_, (flt_plain 60 d hl.1).1, (flt_plainL 60 ds hl.2).1, (flt_plain 60 d hl.1).2, ?_⟩
    · have := is_dp (K := K) rp.sub 61 (.tup ds) y hy (flt_lift 60 ds hl.2).1
      rw [toP] at this; exact this
    · rw [any_toP hl.1 ds hl.2]
      exact rn.here rp (is_bl.mpr rfl)
  | lst ds =>
    obtain ⟨hl, rn⟩ := Run.ite rn
    rw [Bool.and_eq_true] at hl
    refine .inl ⟨toP d, ds.map toP, is_dp rp.sub 60 d x hx hl.1, .inl ?_, (flt_plain 60 d hl.1).1, (flt_plainL 60 ds hl.2).1, (flt_plain 60 d hl.1).2, ?_⟩
    · have := is_dp (K := K) rp.sub 61 (.lst ds) y hy (flt_lift 60 ds hl.2).2
      rw [toP] at this; exact this
    · rw [any_toP hl.1 ds hl.2]
      exact rn.here rp (is_bl.mpr rfl)
  | h n =>
    obtain ⟨o, ho, rn⟩ := Run.get rn
    obtain ⟨aa, ha⟩ := is_h.mp hy
    obtain ⟨a2, h2, h3⟩ := rp.at ho
    rw [ha.2] at h2; cases h2
    cases o with
    | lst ds =>
      obtain ⟨hl, rn⟩ := Run.ite rn
      rw [Bool.and_eq_true] at hl
      obtain ⟨_, _, vs, h5, h6⟩ := h3
      refine .inl ⟨toP d, ds.map toP, is_dp rp.sub 60 d x hx hl.1, .inl ?_, (flt_plain 60 d hl.1).1, (flt_plainL 60 ds hl.2).1, (flt_plain 60 d hl.1).2, ?_⟩
      · rw [ha.1]
        exact .lst (SqL.of h5) (is_dpL rp.sub 60 ds vs h6 hl.2)
      · rw [any_toP hl.1 ds hl.2]
        exact rn.here rp (is_bl.mpr rfl)
    | dco ks =>
      obtain ⟨_, h5⟩ := h3
      cases d with
      | int i => exact .inr ⟨aa, ks, some i, ha.1, h5, is_int.mp hx, rn.here rp (is_bl.mpr rfl)⟩
      | non => exact .inr ⟨aa, ks, none, ha.1, h5, is_non.mp hx, rn.here rp (is_bl.mpr rfl)⟩
      | _ => exact rn.fail.elim
    | _ => exact rn.fail.elim
  | _ => exact rn.fail.elim
theorem de_eq (hu : X.A.units + 64 < cLine) (ha : DE X a fa) (hb : DE X b fb) : DE X (.Compare a [.Eq] [b] pos) (eOp2 eqD fa fb) := de_cmp (op_eqP hu) o_eq ha hb (nomark _)
theorem dt_eq (hu : X.A.units + 64 < cLine) (ha : DE X a fa) (hb : DE X b fb) : DT X (.Compare a [.Eq] [b] pos) (tVal (eOp2 eqD fa fb)) := dt_cmp (op_eqP hu) o_eq ha hb (nomark _)
theorem de_ne (hu : X.A.units + 64 < cLine) (ha : DE X a fa) (hb : DE X b fb) : DE X (.Compare a [.NotEq] [b] pos) (eOp2 neD fa fb) := de_cmp (op_neP hu) o_ne ha hb (nomark _)
theorem dt_ne (hu : X.A.units + 64 < cLine) (ha : DE X a fa) (hb : DE X b fb) : DT X (.Compare a [.NotEq] [b] pos) (tVal (eOp2 neD fa fb)) := dt_cmp (op_neP hu) o_ne ha hb (nomark _)
theorem de_in (hu : X.A.units + 64 < cLine) (ha : DE X a fa) (hb : DE X b fb) (hm : behindInMarks .In b = false := by rfl) : DE X (.Compare a [.In] [b] pos) (eOp2 (inD false) fa fb) := de_cmp (op_inD hu) (o_in false) ha hb hm
theorem dt_in (hu : X.A.units + 64 < cLine) (ha : DE X a fa) (hb : DE X b fb) (hm : behindInMarks .In b = false := by rfl) : DT X (.Compare a [.In] [b] pos) (tVal (eOp2 (inD false) fa fb)) := dt_cmp (op_inD hu) (o_in false) ha hb hm
theorem de_nin (hu : X.A.units + 64 < cLine) (ha : DE X a fa) (hb : DE X b fb) (hm : behindInMarks .NotIn b = false := by rfl) : DE X (.Compare a [.NotIn] [b] pos) (eOp2 (inD true) fa fb) := de_cmp (op_ninD hu) (o_in true) ha hb hm
theorem dt_nin (hu : X.A.units + 64 < cLine) (ha : DE X a fa) (hb : DE X b fb) (hm : behindInMarks .NotIn b = false := by rfl) : DT X (.Compare a [.NotIn] [b] pos) (tVal (eOp2 (inD true) fa fb)) := dt_cmp (op_ninD hu) (o_in true) ha hb hm
/-! ### order -/
theorem lexLt_eq : ∀ xs ys : List Int, lexLt xs ys = HT.lexLt xs ys
  | [], [] => rfl
  | [], _ :: _ => rfl
  | _ :: _, [] => rfl
  | x :: xs, y :: ys => by rw [lexLt, HT.lexLt, lexLt_eq xs ys]
def rLtD (K : PySem.W.Frag) : R2 := fun x y H Q => rI0 (fun i j => .bl (decide (i < j))) x y H Q ∨ rLtT K x y H Q
theorem o_lt : Op2 K (rLtD K) ltD := by
  intro B H β μ x y d e Q rp hx hy rn
  cases d with
  | int i =>
    cases e with
    | int j => exact .inl ⟨i, j, is_int.mp hx, is_int.mp hy, rn.here rp (is_bl.mpr rfl)⟩
    | _ => exact rn.fail.elim
  | tup ds =>
    cases e with
    | tup es =>
      dsimp only [ltD] at rn
      cases e1 : toInts ds with
      | none => rw [e1] at rn; exact rn.fail.elim
      | some ns =>
        cases e2 : toInts es with
        | none => rw [e1, e2] at rn; exact rn.fail.elim
        | some ms =>
          rw [e1, e2] at rn
          obtain ⟨a, vs, rfl, ha, ba, _, la, ia⟩ := is_tup' rp hx
          obtain ⟨b, us, rfl, hb, bb, _, lb, ib⟩ := is_tup' rp hy
          refine .inr ⟨a, b, ns, ms, rfl, rfl, ?_, ?_, ?_⟩
          · rw [← isL_ints ia e1]; exact SqT.of ha
          · rw [← isL_ints ib e2]; exact SqT.of hb
          · rw [← lexLt_eq]; exact rn.here rp (is_bl.mpr rfl)
    | _ => exact rn.fail.elim
  | _ => cases e <;> exact rn.fail.elim
theorem o_cmpI {p : Int → Int → Bool} {f : D → D → M D} (h1 : ∀ i j, f (.int i) (.int j) = pure (.bl (p i j))) (h2 : ∀ d e, (∀ i j, ¬ (d = .int i ∧ e = .int j)) → f d e = M.fail) : Op2 K (rI0 fun i j => .bl (p i j)) f := by
  intro B H β μ x y d e Q rp hx hy rn
  by_cases h : ∃ i j, d = .int i ∧ e = .int j
  · obtain ⟨i, j, rfl, rfl⟩ := h
    rw [h1] at rn
    exact ⟨i, j, is_int.mp hx, is_int.mp hy, rn.here rp (is_bl.mpr rfl)⟩
  · rw [h2 d e fun i j z => h ⟨i, j, z⟩] at rn
    exact rn.fail.elim
theorem o_le : Op2 K (rI0 fun i j => .bl (decide (i ≤ j))) leD := o_cmpI (fun _ _ => rfl) fun d e h => by cases d <;> cases e <;> first | rfl | exact absurd ⟨rfl, rfl⟩ (h _ _)
theorem o_gt : Op2 K (rI0 fun i j => .bl (decide (j < i))) gtD := o_cmpI (fun _ _ => rfl) fun d e h => by cases d <;> cases e <;> first | rfl | exact absurd ⟨rfl, rfl⟩ (h _ _)
theorem o_ge : Op2 K (rI0 fun i j => .bl (decide (j ≤ i))) geD := o_cmpI (fun _ _ => rfl) fun d e h => by cases d <;> cases e <;> first | rfl | exact absurd ⟨rfl, rfl⟩ (h _ _)
theorem hu0 {X : Cx} (hu : X.A.units + 64 < cLine) : X.A.units < cLine := by omega
theorem de_lt (hu : X.A.units + 64 < cLine) (ha : DE X a fa) (hb : DE X b fb) : DE X (.Compare a [.Lt] [b] pos) (eOp2 ltD fa fb) := de_cmp (op_lt.or (op_ltT (hu0 hu))) o_lt ha hb (nomark _)
theorem dt_lt (hu : X.A.units + 64 < cLine) (ha : DE X a fa) (hb : DE X b fb) : DT X (.Compare a [.Lt] [b] pos) (tVal (eOp2 ltD fa fb)) := dt_cmp (op_lt.or (op_ltT (hu0 hu))) o_lt ha hb (nomark _)
theorem de_le (ha : DE X a fa) (hb : DE X b fb) : DE X (.Compare a [.LtE] [b] pos) (eOp2 leD fa fb) := de_cmp op_le o_le ha hb (nomark _)
theorem dt_le (ha : DE X a fa) (hb : DE X b fb) : DT X (.Compare a [.LtE] [b] pos) (tVal (eOp2 leD fa fb)) := dt_cmp op_le o_le ha hb (nomark _)
theorem de_gt (ha : DE X a fa) (hb : DE X b fb) : DE X (.Compare a [.Gt] [b] pos) (eOp2 gtD fa fb) := de_cmp op_gt o_gt ha hb (nomark _)
theorem dt_gt (ha : DE X a fa) (hb : DE X b fb) : DT X (.Compare a [.Gt] [b] pos) (tVal (eOp2 gtD fa fb)) := dt_cmp op_gt o_gt ha hb (nomark _)
theorem de_ge (ha : DE X a fa) (hb : DE X b fb) : DE X (.Compare a [.GtE] [b] pos) (eOp2 geD fa fb) := de_cmp op_ge o_ge ha hb (nomark _)
theorem dt_ge (ha : DE X a fa) (hb : DE X b fb) : DT X (.Compare a [.GtE] [b] pos) (tVal (eOp2 geD fa fb)) := dt_cmp op_ge o_ge ha hb (nomark _)
/-! ### is None -/
theorem is_non_dec {B : Hp} {β : List Addr} {v : V} {d : D} (h : Is B β v d) : decide (v = .non) = isNonB d := by
  cases d with
  | non => rw [is_non.mp h]; rfl
  | bl b => rw [is_bl.mp h]; rfl
  | int b => rw [is_int.mp h]; rfl
  | str b => rw [is_str.mp h]; rfl
  | tup ds => obtain ⟨a, vs, rfl, _⟩ := is_tup.mp h; rfl
  | lst ds => obtain ⟨a, vs, rfl, _⟩ := is_lst.mp h; rfl
  | h n => obtain ⟨a, rfl, _⟩ := is_h.mp h; rfl
theorem de_isN {j : Nat} {p : Pos} (ha : DE X a fa) : DE X (.Compare a [.Is] [.Constant .none j p] pos) (eOp1 (isN false) fa) := pe_weak (pe_cmp (pc_isN ha)) fun σ H Q h => tD_bind h fun B β μ Γ H1 v d rp en jj rn => by
  rw [is_non_dec jj]
  exact rn.here rp (is_bl.mpr (by simp))
theorem de_notN {j : Nat} {p : Pos} (ha : DE X a fa) : DE X (.Compare a [.IsNot] [.Constant .none j p] pos) (eOp1 (isN true) fa) := pe_weak (pe_cmp (pc_notN ha)) fun σ H Q h => tD_bind h fun B β μ Γ H1 v d rp en jj rn => by
  rw [is_non_dec jj]
  exact rn.here rp (is_bl.mpr (by simp))
theorem tB_of {t : TE} {f : E} {σ : L2.St} {H : Hp} {Q : Bool → Hp → Prop} (w : ∀ σ H Q, tD K f σ H Q → t σ H Q) (h : tT K (tVal f) σ H Q) : tB t σ H Q := by
  obtain ⟨B, β, μ, Γ, rp, en, rn⟩ := h
  refine w σ H _ ⟨B, β, μ, Γ, rp, en, rn.bind fun B1 β1 μ1 H1 v d x r1 j rn1 => ?_⟩
  cases d with
  | bl k => exact ⟨k, is_bl.mp j, rn1.here r1 rfl⟩
  | _ => exact rn1.fail.elim
theorem dt_isN {j : Nat} {p : Pos} (ha : DE X a fa) : DT X (.Compare a [.Is] [.Constant .none j p] pos) (tVal (eOp1 (isN false) fa)) := pt_weak (pt_cmp (pc_isN ha)) fun σ H Q h => tB_of (fun σ H Q h => tD_bind h fun B β μ Γ H1 v d rp en jj rn => by
  rw [is_non_dec jj]
  exact rn.here rp (is_bl.mpr (by simp))) h
theorem dt_notN {j : Nat} {p : Pos} (ha : DE X a fa) : DT X (.Compare a [.IsNot] [.Constant .none j p] pos) (tVal (eOp1 (isN true) fa)) := pt_weak (pt_cmp (pc_notN ha)) fun σ H Q h => tB_of (fun σ H Q h => tD_bind h fun B β μ Γ H1 v d rp en jj rn => by
  rw [is_non_dec jj]
  exact rn.here rp (is_bl.mpr (by simp))) h
/-- a value that is True or False, as a test -/
theorem dt_val (ha : DE X a fa) (he : ∀ whole, isTrue a X.env whole = (do let v ← whole; standAt a.pos; holding [v] (truthy v)) := by intro _; rfl) : DT X a (tVal fa) := pt_weak (pt_val ha he) fun σ H Q h => tB_of (fun _ _ _ h => h) h
/-! ### chains, and, or, not -/
theorem de_chain {op op' : CmpOp} {r r' : R2} (ho : OpR X (compareOp op) r) (ho' : OpR X (compareOp op') r') (hf : Op2 X.K r f) (hg : Op2 X.K r' g) (ha : DE X a fa) (hb : DE X b fb) (hc : DE X c fc)
    (hm : lastMarks [op, op'] [b, c] = false := by with_unfolding_all rfl) : DE X (.Compare a [op, op'] [b, c] pos) (eChain f g fa fb fc) := pe_weak (pe_chain ho ho' ha hb hc hm) fun σ H Q h =>
  tD_bind h fun B β μ Γ H1 v d rp en j rn => ⟨B, β, μ, Γ, rp, en, rn.bind fun B1 β1 μ1 H2 u d2 x r1 j1 rn1 =>
    hf B1 H2 β1 μ1 v u d d2 _ r1 (j.ext x) j1 (rn1.bind fun B2 β2 μ2 H3 z d3 x2 r2 j2 rn2 => by
      obtain ⟨k, e0, rn3⟩ := Run.toBl rn2
      subst e0
      refine ⟨k, is_bl.mp j2, ?_⟩
      cases k with
      | false =>
        rw [if_neg Bool.false_ne_true]
        exact rn3.here r2 (is_bl.mpr rfl)
      | true =>
        rw [if_pos rfl]
        have rn2 : RunD X.K B2 H3 β2 μ2 (fc Γ >>= fun z => g d2 z >>= fun w => toBl w >>= fun q => pure (D.bl q)) Q := rn3
        refine ⟨B2, β2, μ2, Γ, r2, (en.ext x).ext x2, rn2.bind fun B3 β3 μ3 H4 w d4 x3 r3 j3 rn3 => ?_⟩
        refine hg B3 H4 β3 μ3 u w d2 d4 Q r3 ((j1.ext x2).ext x3) j3 ?_
        obtain ⟨d5, μ5, e5, q5⟩ := rn3
        obtain ⟨d6, μ6, e6, e7⟩ := bind_some e5
        obtain ⟨b7, μ7, e8, e9⟩ := bind_some e7
        cases d6 with
        | bl k =>
          cases e8
          cases e9
          exact ⟨_, _, e6, q5⟩
        | _ => cases e8)⟩
theorem de_le_le (ha : DE X a fa) (hb : DE X b fb) (hc : DE X c fc) (hm : lastMarks [.LtE, .LtE] [b, c] = false := by with_unfolding_all rfl) : DE X (.Compare a [.LtE, .LtE] [b, c] pos) (eChain leD leD fa fb fc) := de_chain op_le op_le o_le o_le ha hb hc hm
variable {es' : List Expr}
theorem de_one {op : BoolOp} (ha : DE X a fa) : DE X (.BoolOp op [a] pos) fa := pe_one ha
theorem de_and (ha : DE X a fa) (hb : DE X (.BoolOp .And (b :: es) pos) fb) : DE X (.BoolOp .And (a :: b :: es) pos) (eAnd fa fb) := pe_weak (pe_and ha hb) fun σ H Q h => tD_bind h fun B β μ Γ H1 v d rp en j rn => by
  obtain ⟨k, e0, rn0⟩ := Run.toBl rn
  clear rn
  subst e0
  have rn := rn0
  refine ⟨k, is_bl.mp j, ?_⟩
  cases k with
  | true =>
    rw [if_pos rfl] at rn ⊢
    exact ⟨B, β, μ, Γ, rp, en, rn⟩
  | false =>
    rw [if_neg Bool.false_ne_true] at rn ⊢
    exact rn.here rp (is_bl.mpr rfl)
theorem de_or (ha : DE X a fa) (hb : DE X (.BoolOp .Or (b :: es) pos) fb) : DE X (.BoolOp .Or (a :: b :: es) pos) (eOr fa fb) := pe_weak (pe_or ha hb) fun σ H Q h => tD_bind h fun B β μ Γ H1 v d rp en j rn => by
  obtain ⟨k, e0, rn0⟩ := Run.toBl rn
  clear rn
  subst e0
  have rn := rn0
  refine ⟨k, is_bl.mp j, ?_⟩
  cases k with
  | false =>
    rw [if_neg Bool.false_ne_true] at rn ⊢
    exact ⟨B, β, μ, Γ, rp, en, rn⟩
  | true =>
    rw [if_pos rfl] at rn ⊢
    exact rn.here rp (is_bl.mpr rfl)
theorem de_not (ha : DE X a fa) : DE X (.UnaryOp .Not a pos) (eNot fa) := pe_weak (pe_not ha) fun σ H Q h => tD_bind h fun B β μ Γ H1 v d rp en j rn => by
  obtain ⟨k, e0, rn0⟩ := Run.toBl rn
  clear rn
  subst e0
  have rn := rn0
  exact ⟨k, is_bl.mp j, rn.here rp (is_bl.mpr rfl)⟩
theorem tT_bind {K : PySem.W.Frag} {ft : T} {σ : L2.St} {H : Hp} {γ α : Type} {J : Hp → List Addr → γ → α → Prop} {Q : γ → Hp → Prop} {k : Env → Bool → M α} {R : Bool → Hp → Prop} {B : Hp} {β : List Addr} {μ : Store} {Γ : Env} (rp : Rep K B H β μ) (en : EnvOk B β σ Γ) (rn : Run J K B H β μ (ft Γ >>= k Γ) Q)
    (w : ∀ B β μ H1 d, Rep K B H1 β μ → EnvOk B β σ Γ → Run J K B H1 β μ (k Γ d) Q → R d H1) : tT K ft σ H R :=
  ⟨B, β, μ, Γ, rp, en, rn.bind fun B1 β1 μ1 H1 v d x r1 j rn1 => by
    have j' : v = d := j
    subst j'
    exact w B1 β1 μ1 H1 v r1 (en.ext x) rn1⟩
theorem de_if {ft : T} (ht : DT X c ft) (ha : DE X a fa) (hb : DE X b fb) : DE X (.IfExp c a b pos) (eIf ft fa fb) := pe_weak (pe_ifExp ht ha hb) fun σ H Q h => by
  obtain ⟨B, β, μ, Γ, rp, en, rn⟩ := h
  refine tT_bind (J := Is) (k := fun Γ r => if r = true then fa Γ else fb Γ) rp en rn fun B β μ H1 k rp en rn => ?_
  cases k with
  | true =>
    rw [if_pos rfl] at rn ⊢
    exact ⟨B, β, μ, Γ, rp, en, rn⟩
  | false =>
    rw [if_neg Bool.false_ne_true] at rn ⊢
    exact ⟨B, β, μ, Γ, rp, en, rn⟩
variable {fta ftb : T}
theorem dt_w (h : DW X a fta) : DT X a fta := h.pt
theorem dw_and1 (ha : DT X a fta) : DW X (.BoolOp .And [a] pos) fta := pw_and1 ha
theorem dw_or1 (ha : DT X a fta) : DW X (.BoolOp .Or [a] pos) fta := pw_or1 ha
theorem dw_and (ha : DT X a fta) (hb : DW X (.BoolOp .And (b :: es) pos) ftb) : DW X (.BoolOp .And (a :: b :: es) pos) (tAnd fta ftb) := pw_weak (pw_and ha hb) fun σ H Q h => by
  obtain ⟨B, β, μ, Γ, rp, en, rn⟩ := h
  refine tT_bind (J := JB) (k := fun Γ r => if r = true then ftb Γ else pure false) rp en rn fun B β μ H1 k rp en rn => ?_
  cases k with
  | true =>
    rw [if_pos rfl] at rn ⊢
    exact ⟨B, β, μ, Γ, rp, en, rn⟩
  | false =>
    rw [if_neg Bool.false_ne_true] at rn ⊢
    exact rn.here rp rfl
theorem dw_or (ha : DT X a fta) (hb : DW X (.BoolOp .Or (b :: es) pos) ftb) : DW X (.BoolOp .Or (a :: b :: es) pos) (tOr fta ftb) := pw_weak (pw_or ha hb) fun σ H Q h => by
  obtain ⟨B, β, μ, Γ, rp, en, rn⟩ := h
  refine tT_bind (J := JB) (k := fun Γ r => if r = true then pure true else ftb Γ) rp en rn fun B β μ H1 k rp en rn => ?_
  cases k with
  | false =>
    rw [if_neg Bool.false_ne_true] at rn ⊢
    exact ⟨B, β, μ, Γ, rp, en, rn⟩
  | true =>
    rw [if_pos rfl] at rn ⊢
    exact rn.here rp rfl
theorem dt_not (ha : DT X a fta) : DT X (.UnaryOp .Not a pos) (tNot fta) := pt_weak (pt_not ha) fun σ H Q h => by
  obtain ⟨B, β, μ, Γ, rp, en, rn⟩ := h
  exact tT_bind (J := JB) (k := fun Γ r => pure (!r)) rp en rn fun B β μ H1 k rp en rn => rn.here rp rfl
theorem de_m1 {i : Int} {j : Nat} {p : Pos} : DE X (.UnaryOp .USub (.Constant (.int i) j p) pos) (eC (.int (-i))) := pe_weak (pe_un un_neg pe_int) fun σ H Q h => by
  obtain ⟨B, β, μ, Γ, rp, en, rn⟩ := h
  exact ⟨i, rfl, rn.here rp (is_int.mpr rfl)⟩
end
end DL
/-! DBlt: argument lists, displays, subscripts, slices, built-ins, methods -/
namespace DL
open PySem PySem.Spec PyProof.Rows L2
section
variable {X : Cx} {K : PySem.W.Frag} {a b c e : Expr} {es : List Expr} {fa fb fc fe : E} {fs : List E} {pos : Pos} {f g : D → D → M D} {op : Operator} {r : R2}
/-! ### argument lists, displays -/
theorem da_nil : DA X [] (eList []) := pa_weak pa_nil fun σ H Q h => by
  obtain ⟨B, β, μ, Γ, rp, en, rn⟩ := h
  exact rn.here rp isL_nil
theorem da_cons (ha : DE X a fa) (hr : DA X es (eList fs)) (hs : starEach (a :: es) X.env = (false, eval a X.env) :: starEach es X.env := by rfl) : DA X (a :: es) (eList (fa :: fs)) := pa_weak (pa_cons ha hr hs) fun σ H Q h => by
  obtain ⟨B, β, μ, Γ, rp, en, rn⟩ := h
  exact ⟨B, β, μ, Γ, rp, en, rn.bind fun B1 β1 μ1 H1 v d x r1 j rn1 => ⟨B1, β1, μ1, Γ, r1, en.ext x, rn1.bind fun B2 β2 μ2 H2 vs ds x2 r2 j2 rn2 => rn2.here r2 (isL_cons (j.ext x2) j2)⟩⟩
theorem de_tup {x1 : Nat} (h : DA X es (eList fs)) : DE X (.Tuple es x1 pos) (eTup fs) := pe_weak (pe_tup h) fun σ H Q h => by
  obtain ⟨B, β, μ, Γ, rp, en, rn⟩ := h
  exact ⟨B, β, μ, Γ, rp, en, rn.bind fun B1 β1 μ1 H1 vs ds x r1 j rn1 => by
    obtain ⟨hl, rn1⟩ := Run.ite rn1
    exact ⟨lim_le (by rw [isL_len j]; exact hl), fun p hp => rn1.new hp r1 (is_newT (Same.free r1.sub hp) j hl)⟩⟩
theorem de_lst (h : DA X es (eList fs)) : DE X (.List es pos) (eLst fs) := pe_weak (pe_lst h) fun σ H Q h => by
  obtain ⟨B, β, μ, Γ, rp, en, rn⟩ := h
  exact ⟨B, β, μ, Γ, rp, en, rn.bind fun B1 β1 μ1 H1 vs ds x r1 j rn1 => by
    obtain ⟨hl, rn1⟩ := Run.ite rn1
    exact ⟨lim_le (by rw [isL_len j]; exact hl), fun p hp => rn1.new hp r1 (is_newL (Same.free r1.sub hp) j hl)⟩⟩
/-! ### subscripts -/
theorem ixN_eq (n : Nat) (i : Int) : L2.ixN n i = ixN n i := rfl
theorem run_at {B H : Hp} {β : List Addr} {μ : Store} {vs : List V} {ds : List D} {i : Int} {Q : VK} (rp : Rep K B H β μ) (j : IsL B β vs ds) (rn : RunD K B H β μ (atI ds i) Q) : ∃ v, L2.atI vs i = some v ∧ Q v H := by
  unfold atI at rn
  cases e1 : ixN ds.length i with
  | none => rw [e1] at rn; exact rn.fail.elim
  | some k =>
    rw [e1] at rn
    dsimp only at rn
    cases e2 : ds[k]? with
    | none => rw [e2] at rn; exact rn.fail.elim
    | some d =>
      rw [e2] at rn
      obtain ⟨v, h1, h2⟩ := isL_get j e2
      exact ⟨v, by unfold L2.atI; rw [isL_len j, ixN_eq, e1]; exact h1, rn.here rp h2⟩
/-- a list of one's own, the script: to be read -/
theorem mo_read {B H : Hp} {β : List Addr} {μ : Store} {v : V} {n : Nat} {o : MO} (rp : Rep K B H β μ) (hx : Is B β v (.h n)) (ho : μ[n]? = some o) : ∃ a, v = .ref a ∧ β[n]? = some a ∧ MoIs K B H β a o := by
  obtain ⟨a, rfl, ha⟩ := is_h.mp hx
  obtain ⟨a2, h2, h3⟩ := rp.at ho
  rw [ha] at h2; cases h2
  exact ⟨a, rfl, ha, h3⟩
theorem o_idx : Op2 K (rIx K) idxD := by
  intro B H β μ x y d e Q rp hx hy rn
  cases d with
  | tup ds =>
    cases e with
    | int i =>
      obtain ⟨p, vs, rfl, h1, _, _, _, h4⟩ := is_tup' rp hx
      obtain ⟨v, e1, q⟩ := run_at rp h4 rn
      exact .inr (.inl ⟨p, vs, i, v, rfl, is_int.mp hy, SqT.of h1, e1, q⟩)
    | _ => exact rn.fail.elim
  | lst ds =>
    cases e with
    | int i =>
      obtain ⟨p, vs, rfl, h1, _, _, _, h4⟩ := is_lst' rp hx
      obtain ⟨v, e1, q⟩ := run_at rp h4 rn
      exact .inl ⟨p, vs, i, v, rfl, is_int.mp hy, SqL.of h1, e1, q⟩
    | _ => exact rn.fail.elim
  | h n =>
    cases e with
    | int i =>
      obtain ⟨o, ho, rn⟩ := Run.get rn
      obtain ⟨p, rfl, hp, hm⟩ := mo_read rp hx ho
      cases o with
      | lst ds =>
        obtain ⟨_, _, vs, h5, h6⟩ := hm
        obtain ⟨v, e1, q⟩ := run_at rp h6 rn
        exact .inl ⟨p, vs, i, v, rfl, is_int.mp hy, SqL.of h5, e1, q⟩
      | _ => exact rn.fail.elim
    | _ => exact rn.fail.elim
  | _ => cases e <;> exact rn.fail.elim
theorem de_idx (ha : DE X a fa) (hb : DE X b fb) (hs : PlainIx b := by intro _ _; rfl) : DE X (.Subscript a b pos) (eOp2 idxD fa fb) := pe_weak (pe_ix ix_seq ha hb hs) fun σ H Q h => tOp_of o_idx h
/-! ### slices -/
theorem sIx_eq (n d : Nat) (o : Option Int) : HT.sIx n d o = sIx n d o := by cases o <;> rfl
theorem isL_cut {B : Hp} {β : List Addr} {vs : List V} {ds : List D} (lo hi : Option Int) (j : IsL B β vs ds) : IsL B β (cutV vs lo hi) (cut ds lo hi) := by
  unfold cutV cut
  rw [isL_len j, sIx_eq, sIx_eq]
  exact isL_take _ (isL_drop _ j)
theorem cut_len (ds : List D) (lo hi : Option Int) : (cut ds lo hi).length ≤ ds.length := by
  unfold cut
  rw [List.length_take, List.length_drop]
  omega
theorem do_none : DO X none (eBound none) := ⟨fun pins s σ H Q I h => by
  obtain ⟨B, β, μ, Γ, rp, en, rn⟩ := h
  exact po_none.run pins s σ H Q I (rn.here rp rfl)⟩
theorem do_some (ha : DE X a fa) : DO X (some a) (eBound (some fa)) := ⟨fun pins s σ H Q I h => by
  obtain ⟨B, β, μ, Γ, rp, en, rn⟩ := h
  refine (po_some ha).run pins s σ H Q I ⟨B, β, μ, Γ, rp, en, rn.bind fun B1 β1 μ1 H1 v d x r1 j rn1 => ?_⟩
  cases d with
  | int i => exact ⟨i, is_int.mp j, rn1.here r1 rfl⟩
  | _ => exact rn1.fail.elim⟩
def rSlD (K : PySem.W.Frag) : V → Option Int → Option Int → Hp → VK → Prop := fun x lo hi H Q => rSlA K x lo hi H Q ∨ rSlL K x lo hi H Q
theorem o_slice {B H : Hp} {β : List Addr} {μ : Store} {x : V} {d : D} {lo hi : Option Int} {Q : VK} (rp : Rep K B H β μ) (hx : Is B β x d) (rn : RunD K B H β μ (sliceD lo hi d) Q) : rSlD K x lo hi H Q := by
  cases d with
  | tup ds =>
    obtain ⟨p, vs, rfl, h1, h2, h3, h3', h4⟩ := is_tup' rp hx
    refine .inl ⟨p, vs, rfl, SqT.of h1, fun w => ?_, fun _ q hq => rn.new hq rp (is_newT (Same.free rp.sub hq) (isL_cut lo hi h4) (Nat.le_trans (cut_len ds lo hi) (by rw [← h3']; exact h3)))⟩
    have e : cut ds lo hi = ds := by
      rw [sIx_eq, sIx_eq, h3'] at w
      unfold cut
      rw [w.1, w.2, List.drop_zero, Nat.sub_zero, List.take_length]
    have rn : RunD K B H β μ (pure (.tup (cut ds lo hi))) Q := rn
    rw [e] at rn
    exact rn.here rp hx
  | lst ds =>
    obtain ⟨p, vs, rfl, h1, h2, h3, h3', h4⟩ := is_lst' rp hx
    exact .inr ⟨p, vs, rfl, SqL.of h1, fun q hq => rn.new hq rp (is_newL (Same.free rp.sub hq) (isL_cut lo hi h4) (Nat.le_trans (cut_len ds lo hi) (by rw [← h3']; exact h3)))⟩
  | h n =>
    obtain ⟨o, ho, rn⟩ := Run.get rn
    obtain ⟨p, rfl, hp, hm⟩ := mo_read rp hx ho
    cases o with
    | scr ns =>
      obtain ⟨_, _, hl, h5⟩ := hm
      exact .inr ⟨p, _, rfl, h5, fun q hq => rn.new hq rp (is_newL (Same.free rp.sub hq) (isL_cut lo hi (isL_of_ints ns)) (Nat.le_trans (cut_len _ lo hi) (by rw [List.length_map]; exact hl)))⟩
    | _ => exact rn.fail.elim
  | _ => exact rn.fail.elim
theorem de_slice {lo hi : Option Expr} {fl fh : Option E} {p2 : Pos} (ha : DE X a fa) (hl : DO X lo (eBound fl)) (hh : DO X hi (eBound fh)) : DE X (.Subscript a (.Slice lo hi none p2) pos) (eSlice fa fl fh) :=
  pe_weak (pe_slice (sl_tupA.or sl_list) ha hl hh) fun σ H Q h => tD_bind h fun B β μ Γ H1 v d rp en j rn =>
    ⟨B, β, μ, Γ, rp, en, rn.bind fun B1 β1 μ1 H2 l l' x1 r1 j1 rn1 => ⟨B1, β1, μ1, Γ, r1, en.ext x1, rn1.bind fun B2 β2 μ2 H3 u u' x2 r2 j2 rn2 => by
      have e1 : l = l' := j1
      have e2 : u = u' := j2
      subst e1 e2
      exact o_slice r2 ((j.ext x1).ext x2) rn2⟩⟩
/-! ### * -/
theorem tuple_mul01 (l : Addr) (items : Array Value) (n : Nat) (dd : Option Addr) (sl : Array (Option Value)) (x : Int) (u : Tok) (c0 : (decide (x < -(2 ^ 63)) || decide (x ≥ 2 ^ 63)) = false) (c1 : (items.isEmpty || x == 1) = true) :
    Meets (Builtin.«tuple.__mul__» ⟨[.ref l, .int x u], []⟩) (fun _ R s => s.heap.get? l = some { cls := .type "tuple", dict := dd, data := .seq items n, slots := sl } ∧ R (.ok (.ret (Value.ref l))) s) :=
  .of_wp fun prog w A R s h => by
    obtain ⟨hp, g, d, tk, os⟩ := s
    obtain ⟨hl, h⟩ := h
    have f1 := AutoSeq1.idx_int
    wp_walk using AutoSeq1.wpAny_loadPart' hl
    repeat (first
      | (refine wpAny_ite_false (decide_eq_false (by rw [c0]; exact Bool.false_ne_true)) ?_; wp_walk using AutoSeq1.wpAny_loadPart' hl)
      | (refine wpAny_ite_true (decide_eq_true c1) ?_; wp_walk using AutoSeq1.wpAny_loadPart' hl))
    exact ⟨_, rfl, h⟩
theorem tuple_mul00 (l : Addr) (items : Array Value) (n : Nat) (dd : Option Addr) (sl : Array (Option Value)) (x : Int) (u : Tok) (c0 : (decide (x < -(2 ^ 63)) || decide (x ≥ 2 ^ 63)) = false) (c1 : (items.isEmpty || x == 1) = false) (c2 : (decide (x ≤ 0) || items.isEmpty) = true) :
    Meets (Builtin.«tuple.__mul__» ⟨[.ref l, .int x u], []⟩) (fun _ R s => s.heap.get? l = some { cls := .type "tuple", dict := dd, data := .seq items n, slots := sl } ∧
      R (.ok (.ret (Value.ref s.heap.objs.size))) { s with heap := s.heap.push { cls := Value.type "tuple", data := Data.seq #[] } }) :=
  .of_wp fun prog w A R s h => by
    obtain ⟨hp, g, d, tk, os⟩ := s
    obtain ⟨hl, h⟩ := h
    have f1 := AutoSeq1.idx_int
    wp_walk using AutoSeq1.wpAny_loadPart' hl
    repeat (first
      | (refine wpAny_ite_false (decide_eq_false (by rw [c0]; exact Bool.false_ne_true)) ?_; wp_walk using AutoSeq1.wpAny_loadPart' hl)
      | (refine wpAny_ite_false (decide_eq_false (by rw [c1]; exact Bool.false_ne_true)) ?_; wp_walk using AutoSeq1.wpAny_loadPart' hl)
      | (refine wpAny_ite_true (decide_eq_true c2) ?_; wp_walk using AutoSeq1.wpAny_loadPart' hl))
    exact ⟨_, rfl, h⟩
def rRepA (K : PySem.W.Frag) : R2 := fun x y H Q => ∃ l k xs, x = .ref l ∧ y = .int k ∧ SqT K H l xs ∧ xs ≠ [] ∧ -1000 ≤ k ∧ k ≤ 1000 ∧ xs.length ≤ 1000 ∧ (k = 1 → Q (.ref l) H) ∧ (k ≠ 1 → ∀ p, H p = none → Q (.ref p) (upd H p (.tup (List.replicate k.toNat xs).flatten)))
theorem op_repA : OpR X (binaryOp .Mult) (rRepA X.K) := by
  intro pins s σ H x y v u Q I rx ry h
  obtain ⟨l, k, xs, rfl, rfl, hT, hne, h1, h2, hz, q1, q2⟩ := h
  by_cases hk : 2 ≤ k
  · exact op_repT pins s σ H _ _ v u Q I rx ry ⟨l, k, xs, rfl, rfl, hT, hne, hk, h2, hz, q2 (by omega)⟩
  · cases rx
    obtain ⟨t, rfl⟩ := ry
    obtain ⟨its, r, ⟨⟨cls, dd, data, sl⟩, ho, hc, n, hd⟩, hs⟩ := I.tuple hT
    simp only at hc hd
    subst hc hd
    have hle : its.length = xs.length := r.length.symm
    have hn : its ≠ [] := fun e => hne (by
      rw [e] at hle
      exact List.eq_nil_of_length_eq_zero hle.symm)
    have hi : its.toArray.isEmpty = false := by
      cases its with
      | nil => exact absurd rfl hn
      | cons a b => rfl
    have c0 : (decide (k < -(2 ^ 63)) || decide (k ≥ 2 ^ 63)) = false := by
      rw [decide_eq_false (by omega), decide_eq_false (by omega)] <;> rfl
    by_cases h1k : k = 1
    · have c1 : (its.toArray.isEmpty || k == 1) = true := by rw [hi, h1k]; rfl
      exact wpAny_binaryOp_repeat_ref (T := "tuple") (U := "int") (by decide) ⟨_, ho, rfl⟩ (fun s' => typeIs_int s' k t) noFill_tuple_mul F.fills_int_mul F.slot_int_rmul repeat_tuple F.slot_int_index.lookup
        (call_meets F.slot_int_rmul (typeIs_int s k t) F.entry_int_rmul (F.args_int_rmul_2 _ _) (int_rmul_tuple k t l its.toArray n dd sl)
          ⟨ho, rfl, ⟨_, ho, rfl⟩, call_meets F.slot_tuple_mul ⟨_, ho, rfl⟩ F.entry_tuple_mul (F.args_tuple_mul_2 _ _) (tuple_mul01 l its.toArray n dd sl k t c0 c1) ⟨ho, .ref l, H, I, rfl, q1 h1k⟩⟩)
    · have c1 : (its.toArray.isEmpty || k == 1) = false := by
        rw [hi, Bool.false_or]
        exact beq_eq_false_iff_ne.mpr h1k
      have c2 : (decide (k ≤ 0) || its.toArray.isEmpty) = true := by
        rw [decide_eq_true (by omega)]; rfl
      have e0 : (List.replicate k.toNat xs).flatten = [] := by
        have : k.toNat = 0 := by omega
        rw [this]; rfl
      refine wpAny_binaryOp_repeat_ref (T := "tuple") (U := "int") (by decide) ⟨_, ho, rfl⟩ (fun s' => typeIs_int s' k t) noFill_tuple_mul F.fills_int_mul F.slot_int_rmul repeat_tuple F.slot_int_index.lookup
        (call_meets F.slot_int_rmul (typeIs_int s k t) F.entry_int_rmul (F.args_int_rmul_2 _ _) (int_rmul_tuple k t l its.toArray n dd sl)
          ⟨ho, rfl, ⟨_, ho, rfl⟩, call_meets F.slot_tuple_mul ⟨_, ho, rfl⟩ F.entry_tuple_mul (F.args_tuple_mul_2 _ _) (tuple_mul00 l its.toArray n dd sl k t c0 c1 c2) ⟨ho, ?_⟩⟩)
      have q := q2 h1k s.heap.objs.size (I.hok.fresh (Nat.le_refl _))
      rw [e0] at q
      exact ⟨.ref s.heap.objs.size, _, I.laid (t' := s.toks) (o := .tup []) (fun b ob q => Heap.get?_push_of_some _ q) (Nat.le_refl _) ⟨Nat.zero_le _, [], .nil, IsTup.new _ _⟩, rfl, q⟩
theorem repL_len (k : Nat) (ds : List D) : (repL k ds).length = k * ds.length := by
  unfold repL
  induction k with
  | zero => simp
  | succ k ih => rw [List.replicate_succ, List.flatten_cons, List.length_append, ih, Nat.succ_mul, Nat.add_comm]
theorem smallI_iff {i : Int} : smallI i = true ↔ (-(2 ^ 64) < i ∧ i < 2 ^ 64) := by unfold smallI; exact decide_eq_true_iff
def rMulD (K : PySem.W.Frag) : R2 := fun x y H Q => rI CMul (fun i j => .int (i * j)) x y H Q ∨ (rRepA K x y H Q ∨ rRep x y H Q)
theorem o_mul : Op2 K (rMulD K) mulD := by
  intro B H β μ x y d e Q rp hx hy rn
  cases d with
  | int i =>
    cases e with
    | int j =>
      obtain ⟨hl, rn⟩ := Run.ite rn
      rw [Bool.or_eq_true, smallI_iff, smallI_iff] at hl
      exact .inl ⟨i, j, is_int.mp hx, is_int.mp hy, hl, rn.here rp (is_int.mpr rfl)⟩
    | _ => exact rn.fail.elim
  | tup ds =>
    cases e with
    | int k =>
      obtain ⟨⟨h1, h2, h3, h4⟩, rn⟩ := Run.ite rn
      obtain ⟨a, vs, rfl, ha, ba, _, la, ia⟩ := is_tup' rp hx
      refine .inr (.inl ⟨a, k, vs, rfl, is_int.mp hy, SqT.of ha, fun z => h1 (List.eq_nil_of_length_eq_zero (by rw [← la, z]; rfl)), h3, h4, by rw [la]; exact h2, fun z => ?_, fun _ p hp => ?_⟩)
      · subst z
        have e1 : repL (1 : Int).toNat ds = ds := by
          show repL 1 ds = ds
          unfold repL
          simp
        rw [e1] at rn
        exact rn.here rp hx
      · refine rn.new hp rp (is_newT (Same.free rp.sub hp) (isL_flat ia) ?_)
        rw [repL_len]
        have : k.toNat * ds.length ≤ 1000 * 1000 := Nat.mul_le_mul (by omega) h2
        exact Nat.le_trans this (by decide)
    | _ => exact rn.fail.elim
  | lst ds =>
    cases e with
    | int k =>
      obtain ⟨⟨h2, h3, h4⟩, rn⟩ := Run.ite rn
      obtain ⟨a, vs, rfl, ha, ba, _, la, ia⟩ := is_lst' rp hx
      have hb : ds.length * k.toNat ≤ 1000 * 1000 := Nat.mul_le_mul h2 (by omega)
      refine .inr (.inr ⟨a, k, vs, rfl, is_int.mp hy, ha, by omega, by omega, ?_, fun p hp => ?_⟩)
      · rw [la]
        exact Nat.le_trans hb (by decide)
      · refine rn.new hp rp (is_newL (Same.free rp.sub hp) (isL_flat ia) ?_)
        rw [repL_len, Nat.mul_comm]
        exact Nat.le_trans hb (by decide)
    | _ => exact rn.fail.elim
  | _ => cases e <;> exact rn.fail.elim
theorem de_mul (ha : DE X a fa) (hb : DE X b fb) : DE X (.BinOp a .Mult b pos) (eOp2 mulD fa fb) := de_op (op_mul.or (op_repA.or op_rep)) o_mul ha hb
/-! ### built-ins of one argument -/
def Call1 (K : PySem.W.Frag) (r : List V → Hp → VK → Prop) (g : D → M D) : Prop := ∀ B H β μ v d Q, Rep K B H β μ → Is B β v d → RunD K B H β μ (g d) Q → r [v] H Q
def Call2 (K : PySem.W.Frag) (r : List V → Hp → VK → Prop) (g : D → D → M D) : Prop := ∀ B H β μ v u d e Q, Rep K B H β μ → Is B β v d → Is B β u e → RunD K B H β μ (g d e) Q → r [v, u] H Q
variable {x : Str} {p : Pos} {id : String} {rc : List V → Hp → VK → Prop} {g1 : D → M D} {g2 : D → D → M D}
theorem t_call1 (hg : Call1 K rc g1) {σ : L2.St} {H : Hp} {Q : VK} (h : tD K (eOp1 g1 fa) σ H Q) : tCB rc (tCons (tD K fa) tNil) σ H Q :=
  tD_bind h fun B β μ Γ H1 v d rp en j rn => hg B H1 β μ v d Q rp j rn
theorem t_call2 (hg : Call2 K rc g2) {σ : L2.St} {H : Hp} {Q : VK} (h : tD K (eOp2 g2 fa fb) σ H Q) : tCB rc (tCons (tD K fa) (tCons (tD K fb) tNil)) σ H Q :=
  tD_bind h fun B β μ Γ H1 v d rp en j rn => ⟨B, β, μ, Γ, rp, en, rn.bind fun B1 β1 μ1 H2 u e x r1 j1 rn1 => hg B1 H2 β1 μ1 v u d e Q r1 (j.ext x) j1 rn1⟩
theorem de_callB1 (hc : CallR X (.builtin id) rc) (hg : Call1 X.K rc g1) (hgl : Gl X x) (hm : X.mg x = none) (hv : bootBuiltins x = some (.builtin id)) (ha : DE X a fa) (hn : x ≠ "__name__" := by decide) (hdb : (x == ("__debug__" : Str)) = false := by decide)
    (he : starEach [a] X.env = (false, eval a X.env) :: starEach [] X.env := by rfl) (hpl : (backTo pos (starEach [] X.env)).any (·.1) = false := by rfl) : DE X (.Call (.Name x p) [a] [] pos) (eOp1 g1 fa) :=
  pe_weak (pe_callB hc hgl hm hv (pa_cons ha pa_nil he) hn hdb he hpl) fun σ H Q h => t_call1 hg h
theorem de_callT1 (hc : CallR X (.type id) rc) (hg : Call1 X.K rc g1) (hgl : Gl X x) (hm : X.mg x = none) (hv : bootBuiltins x = some (.type id)) (ha : DE X a fa) (hn : x ≠ "__name__" := by decide) (hdb : (x == ("__debug__" : Str)) = false := by decide)
    (he : starEach [a] X.env = (false, eval a X.env) :: starEach [] X.env := by rfl) (hpl : (backTo pos (starEach [] X.env)).any (·.1) = false := by rfl) : DE X (.Call (.Name x p) [a] [] pos) (eOp1 g1 fa) :=
  pe_weak (pe_callTy hc hgl hm hv (pa_cons ha pa_nil he) hn hdb he hpl) fun σ H Q h => t_call1 hg h
theorem de_callB2 (hc : CallR X (.builtin id) rc) (hg : Call2 X.K rc g2) (hgl : Gl X x) (hm : X.mg x = none) (hv : bootBuiltins x = some (.builtin id)) (ha : DE X a fa) (hb : DE X b fb) (hn : x ≠ "__name__" := by decide) (hdb : (x == ("__debug__" : Str)) = false := by decide)
    (he : starEach [a, b] X.env = (false, eval a X.env) :: starEach [b] X.env := by rfl) (he2 : starEach [b] X.env = (false, eval b X.env) :: starEach [] X.env := by rfl) (hpl : (backTo pos (starEach [b] X.env)).any (·.1) = false := by rfl) : DE X (.Call (.Name x p) [a, b] [] pos) (eOp2 g2 fa fb) :=
  pe_weak (pe_callB hc hgl hm hv (pa_cons ha (pa_cons hb pa_nil he2) he) hn hdb he hpl) fun σ H Q h => t_call2 hg h
theorem itemsD_h (n : Nat) : itemsD (.h n) = getH n >>= fun o => (match o with | .lst ds => pure ds | .scr ns => pure (ns.map .int) | _ => M.fail) := rfl
/-- what is read as a list or a tuple -/
theorem items_read {B H : Hp} {β : List Addr} {μ : Store} {v : V} {d : D} {α γ : Type} {J : Hp → List Addr → γ → α → Prop} {Q : γ → Hp → Prop} {k : List D → M α} (rp : Rep K B H β μ) (hx : Is B β v d) (rn : Run J K B H β μ (itemsD d >>= k) Q) :
    ∃ a vs ds, v = .ref a ∧ (SqL K H a vs ∨ (SqT K H a vs ∧ d = .tup ds)) ∧ IsL B β vs ds ∧ ds.length ≤ lim ∧ Run J K B H β μ (k ds) Q := by
  cases d with
  | tup ds =>
    obtain ⟨a, vs, rfl, ha, ba, l1, la, ia⟩ := is_tup' rp hx
    exact ⟨a, vs, ds, rfl, .inr ⟨SqT.of ha, rfl⟩, ia, by rw [← la]; exact l1, rn⟩
  | lst ds =>
    obtain ⟨a, vs, rfl, ha, ba, l1, la, ia⟩ := is_lst' rp hx
    exact ⟨a, vs, ds, rfl, .inl (SqL.of ha), ia, by rw [← la]; exact l1, rn⟩
  | h n =>
    rw [itemsD_h, bind_assoc] at rn
    obtain ⟨o, ho, rn⟩ := Run.get rn
    obtain ⟨a, rfl, ha, hm⟩ := mo_read rp hx ho
    cases o with
    | lst ds =>
      obtain ⟨_, hl, vs, h5, h6⟩ := hm
      exact ⟨a, vs, ds, rfl, .inl (SqL.of h5), h6, hl, rn⟩
    | scr ns =>
      obtain ⟨_, _, hl, h5⟩ := hm
      exact ⟨a, _, ns.map D.int, rfl, .inl h5, isL_of_ints ns, by rw [List.length_map]; exact hl, rn⟩
    | _ => exact rn.fail.elim
  | _ => exact rn.fail.elim
theorem c_len : Call1 K (fun xs H Q => ∃ p ys, xs = [.ref p] ∧ (SqL K H p ys ∨ SqT K H p ys) ∧ Q (.int ys.length) H) lenD := by
  intro B H β μ v d Q rp hx rn
  obtain ⟨a, vs, ds, rfl, h, ia, hl, rn⟩ := items_read rp hx rn
  exact ⟨a, vs, rfl, h.imp (fun z => z) (fun z => z.1), by rw [isL_len ia]; exact rn.here rp (is_int.mpr rfl)⟩
theorem c_list : Call1 K (fun xs H Q => ∃ p ys, xs = [.ref p] ∧ (SqL K H p ys ∨ SqT K H p ys) ∧ ∀ l, H l = none → Q (.ref l) (upd H l (.lst ys))) listD := by
  intro B H β μ v d Q rp hx rn
  obtain ⟨a, vs, ds, rfl, h, ia, hl, rn⟩ := items_read rp hx rn
  exact ⟨a, vs, rfl, h.imp (fun z => z) (fun z => z.1), fun l h => rn.new h rp (is_newL (Same.free rp.sub h) ia hl)⟩
theorem c_tuple : Call1 K (fun xs H Q => ∃ p ys, xs = [.ref p] ∧ ((SqL K H p ys ∧ ∀ l, H l = none → Q (.ref l) (upd H l (.tup ys))) ∨ (SqT K H p ys ∧ Q (.ref p) H))) tupleD := by
  intro B H β μ v d Q rp hx rn
  obtain ⟨a, vs, ds, rfl, h, ia, hl, rn⟩ := items_read rp hx rn
  rcases h with h | ⟨h, e⟩
  · exact ⟨a, vs, rfl, .inl ⟨h, fun l h => rn.new h rp (is_newT (Same.free rp.sub h) ia hl)⟩⟩
  · rw [← e] at rn
    exact ⟨a, vs, rfl, .inr ⟨h, rn.here rp hx⟩⟩
theorem c_int : Call1 K (fun xs H Q => (∃ i, xs = [.int i] ∧ Q (.int i) H) ∨ ∃ k, xs = [.bl k] ∧ Q (.int (if k then 1 else 0)) H) intD := by
  intro B H β μ v d Q rp hx rn
  cases d with
  | int i => exact .inl ⟨i, by rw [is_int.mp hx], rn.here rp (is_int.mpr rfl)⟩
  | _ => exact rn.fail.elim
theorem toBls_run {d : D} {B H : Hp} {β : List Addr} {μ : Store} {v : V} {Q : VK} {h : List Bool → Bool} {gg : D → M D} (hg : ∀ ds, gg (.lst ds) = match toBls ds with | some bs => pure (.bl (h bs)) | none => M.fail) (hf : ∀ d, (∀ ds, d ≠ .lst ds) → gg d = M.fail) (rp : Rep K B H β μ) (hx : Is B β v d) (rn : RunD K B H β μ (gg d) Q) :
    ∃ (a : Addr) (bs : List Bool), [v] = [V.ref a] ∧ SqL K H a (bs.map V.bl) ∧ Q (.bl (h bs)) H := by
  by_cases hd : ∃ ds, d = .lst ds
  · obtain ⟨ds, rfl⟩ := hd
    rw [hg] at rn
    cases e : toBls ds with
    | none => rw [e] at rn; exact rn.fail.elim
    | some bs =>
      rw [e] at rn
      obtain ⟨a, vs, rfl, ha, ba, l1, la, ia⟩ := is_lst' rp hx
      exact ⟨a, bs, rfl, by rw [← isL_bls ia e]; exact SqL.of ha, rn.here rp (is_bl.mpr rfl)⟩
  · rw [hf d fun ds z => hd ⟨ds, z⟩] at rn
    exact rn.fail.elim
theorem c_all : Call1 K (rAll K) allD := fun B H β μ v d Q rp hx rn => toBls_run (h := fun bs => bs.all id) (fun _ => rfl) (fun d h => by cases d <;> first | rfl | exact absurd rfl (h _)) rp hx rn
theorem c_any : Call1 K (rAny K) anyD := fun B H β μ v d Q rp hx rn => toBls_run (h := fun bs => bs.any id) (fun _ => rfl) (fun d h => by cases d <;> first | rfl | exact absurd rfl (h _)) rp hx rn
theorem c_sum : Call1 K (rSum K) sumD := by
  intro B H β μ v d Q rp hx rn
  cases d with
  | lst ds =>
    dsimp only [sumD] at rn
    cases e : toInts ds with
    | none => rw [e] at rn; exact rn.fail.elim
    | some ns =>
      rw [e] at rn
      obtain ⟨a, vs, rfl, ha, ba, l1, la, ia⟩ := is_lst' rp hx
      exact ⟨a, ns, rfl, by rw [← isL_ints ia e]; exact SqL.of ha, rn.here rp (is_int.mpr rfl)⟩
  | _ => exact rn.fail.elim
theorem maxL_spec : ∀ (ns : List Int) (i : Int), (maxL i ns ∈ i :: ns) ∧ ∀ y ∈ i :: ns, y ≤ maxL i ns
  | [], i => by simp [maxL]
  | n :: ns, i => by
    have e : maxL i (n :: ns) = maxL (if n > i then n else i) ns := rfl
    have hm : (i ≤ (if n > i then n else i)) ∧ (n ≤ (if n > i then n else i)) ∧ ((if n > i then n else i) = n ∨ (if n > i then n else i) = i) := by split <;> omega
    rw [e]
    generalize (if n > i then n else i) = m at hm
    obtain ⟨h1, h2⟩ := maxL_spec ns m
    refine ⟨?_, fun y hy => ?_⟩
    · rcases List.mem_cons.mp h1 with h | h
      · rw [h]
        rcases hm.2.2 with z | z
        · rw [z]; simp
        · rw [z]; simp
      · exact List.mem_cons_of_mem _ (List.mem_cons_of_mem _ h)
    · have h0 := h2 _ List.mem_cons_self
      rcases List.mem_cons.mp hy with h | h
      · subst h; omega
      · rcases List.mem_cons.mp h with h | h
        · subst h; omega
        · exact h2 y (List.mem_cons_of_mem _ h)
theorem minL_spec : ∀ (ns : List Int) (i : Int), (minL i ns ∈ i :: ns) ∧ ∀ y ∈ i :: ns, minL i ns ≤ y
  | [], i => by simp [minL]
  | n :: ns, i => by
    have e : minL i (n :: ns) = minL (if n < i then n else i) ns := rfl
    have hm : ((if n < i then n else i) ≤ i) ∧ ((if n < i then n else i) ≤ n) ∧ ((if n < i then n else i) = n ∨ (if n < i then n else i) = i) := by split <;> omega
    rw [e]
    generalize (if n < i then n else i) = m at hm
    obtain ⟨h1, h2⟩ := minL_spec ns m
    refine ⟨?_, fun y hy => ?_⟩
    · rcases List.mem_cons.mp h1 with h | h
      · rw [h]
        rcases hm.2.2 with z | z
        · rw [z]; simp
        · rw [z]; simp
      · exact List.mem_cons_of_mem _ (List.mem_cons_of_mem _ h)
    · have h0 := h2 _ List.mem_cons_self
      rcases List.mem_cons.mp hy with h | h
      · subst h; omega
      · rcases List.mem_cons.mp h with h | h
        · subst h; omega
        · exact h2 y (List.mem_cons_of_mem _ h)
theorem c_max : Call1 K (rMax K) maxD := by
  intro B H β μ v d Q rp hx rn
  cases d with
  | lst ds =>
    dsimp only [maxD] at rn
    cases e : toInts ds with
    | none => rw [e] at rn; exact rn.fail.elim
    | some ns =>
      rw [e] at rn
      cases ns with
      | nil => exact rn.fail.elim
      | cons n ns =>
        obtain ⟨a, vs, rfl, ha, ba, l1, la, ia⟩ := is_lst' rp hx
        refine ⟨a, n :: ns, rfl, by rw [← isL_ints ia e]; exact SqL.of ha, by simp, fun m h1 h2 => ?_⟩
        obtain ⟨g1, g2⟩ := maxL_spec ns n
        have : m = maxL n ns := Int.le_antisymm (g2 m h1) (h2 _ g1)
        rw [this]
        exact rn.here rp (is_int.mpr rfl)
  | _ => exact rn.fail.elim
theorem c_min : Call1 K (rMin K) minD := by
  intro B H β μ v d Q rp hx rn
  cases d with
  | lst ds =>
    dsimp only [minD] at rn
    cases e : toInts ds with
    | none => rw [e] at rn; exact rn.fail.elim
    | some ns =>
      rw [e] at rn
      cases ns with
      | nil => exact rn.fail.elim
      | cons n ns =>
        obtain ⟨a, vs, rfl, ha, ba, l1, la, ia⟩ := is_lst' rp hx
        refine ⟨a, n :: ns, rfl, by rw [← isL_ints ia e]; exact SqL.of ha, by simp, fun m h1 h2 => ?_⟩
        obtain ⟨g1, g2⟩ := minL_spec ns n
        have : m = minL n ns := Int.le_antisymm (h2 _ g1) (g2 m h1)
        rw [this]
        exact rn.here rp (is_int.mpr rfl)
  | _ => exact rn.fail.elim
theorem c_max2 : Call2 K (fun xs H Q => ∃ i j, xs = [.int i, .int j] ∧ Q (.int (if j > i then j else i)) H) max2D := by
  intro B H β μ v u d e Q rp hx hy rn
  cases d with
  | int i =>
    cases e with
    | int j => exact ⟨i, j, by rw [is_int.mp hx, is_int.mp hy], rn.here rp (is_int.mpr rfl)⟩
    | _ => exact rn.fail.elim
  | _ => cases e <;> exact rn.fail.elim
theorem de_len (hg : Gl X "len") (hm : X.mg "len" = none) (ha : DE X a fa) (he : starEach [a] X.env = (false, eval a X.env) :: starEach [] X.env := by rfl) : DE X (.Call (.Name "len" p) [a] [] pos) (eOp1 lenD fa) := de_callB1 call_len_seq c_len hg hm boot_len ha (he := he)
theorem de_list (hg : Gl X "list") (hm : X.mg "list" = none) (ha : DE X a fa) (he : starEach [a] X.env = (false, eval a X.env) :: starEach [] X.env := by rfl) : DE X (.Call (.Name "list" p) [a] [] pos) (eOp1 listD fa) := de_callT1 call_list_of c_list hg hm (by decide +kernel) ha (he := he)
theorem de_tuple (hg : Gl X "tuple") (hm : X.mg "tuple" = none) (ha : DE X a fa) (he : starEach [a] X.env = (false, eval a X.env) :: starEach [] X.env := by rfl) : DE X (.Call (.Name "tuple" p) [a] [] pos) (eOp1 tupleD fa) := de_callT1 call_tuple_of c_tuple hg hm (by decide +kernel) ha (he := he)
theorem de_toint (hg : Gl X "int") (hm : X.mg "int" = none) (ha : DE X a fa) (he : starEach [a] X.env = (false, eval a X.env) :: starEach [] X.env := by rfl) : DE X (.Call (.Name "int" p) [a] [] pos) (eOp1 intD fa) := de_callT1 call_int1 c_int hg hm (by decide +kernel) ha (he := he)
theorem de_all (hc : X.calm = true) (hg : Gl X "all") (hm : X.mg "all" = none) (ha : DE X a fa) (he : starEach [a] X.env = (false, eval a X.env) :: starEach [] X.env := by rfl) : DE X (.Call (.Name "all" p) [a] [] pos) (eOp1 allD fa) := de_callB1 (cr_all hc) c_all hg hm (by decide +kernel) ha (he := he)
theorem de_any (hc : X.calm = true) (hg : Gl X "any") (hm : X.mg "any" = none) (ha : DE X a fa) (he : starEach [a] X.env = (false, eval a X.env) :: starEach [] X.env := by rfl) : DE X (.Call (.Name "any" p) [a] [] pos) (eOp1 anyD fa) := de_callB1 (cr_any hc) c_any hg hm (by decide +kernel) ha (he := he)
theorem de_sum (hc : X.calm = true) (hg : Gl X "sum") (hm : X.mg "sum" = none) (ha : DE X a fa) (he : starEach [a] X.env = (false, eval a X.env) :: starEach [] X.env := by rfl) : DE X (.Call (.Name "sum" p) [a] [] pos) (eOp1 sumD fa) := de_callB1 (cr_sum hc) c_sum hg hm (by decide +kernel) ha (he := he)
theorem de_max (hc : X.calm = true) (hg : Gl X "max") (hm : X.mg "max" = none) (ha : DE X a fa) (he : starEach [a] X.env = (false, eval a X.env) :: starEach [] X.env := by rfl) : DE X (.Call (.Name "max" p) [a] [] pos) (eOp1 maxD fa) := de_callB1 (cr_max hc) c_max hg hm (by decide +kernel) ha (he := he)
theorem de_min (hc : X.calm = true) (hg : Gl X "min") (hm : X.mg "min" = none) (ha : DE X a fa) (he : starEach [a] X.env = (false, eval a X.env) :: starEach [] X.env := by rfl) : DE X (.Call (.Name "min" p) [a] [] pos) (eOp1 minD fa) := de_callB1 (cr_min hc) c_min hg hm (by decide +kernel) ha (he := he)
theorem de_max2 (hc : X.calm = true) (hg : Gl X "max") (hm : X.mg "max" = none) (ha : DE X a fa) (hb : DE X b fb) (he : starEach [a, b] X.env = (false, eval a X.env) :: starEach [b] X.env := by rfl) (he2 : starEach [b] X.env = (false, eval b X.env) :: starEach [] X.env := by rfl) (hpl : (backTo pos (starEach [b] X.env)).any (·.1) = false := by rfl) :
    DE X (.Call (.Name "max" p) [a, b] [] pos) (eOp2 max2D fa fb) := de_callB2 (call_max2 hc) c_max2 hg hm (by decide +kernel) ha hb (he := he) (he2 := he2) (hpl := hpl)
end
end DL
/-! DMth: isinstance, list(range(..)), methods; what is walked -/
namespace DL
open PySem PySem.Spec PyProof.Rows L2
section
variable {X : Cx} {K : PySem.W.Frag} {a b c e o : Expr} {es : List Expr} {fa fb fc fe fo : E} {fs : List E} {pos p p2 : Pos} {f g : D → D → M D}
/-! ### isinstance -/
def tyName : D → String
  | .non => "NoneType"
  | .bl _ => "bool"
  | .int _ => "int"
  | .str _ => "str"
  | .tup _ => "tuple"
  | .lst _ => "list"
  | .h _ => ""
theorem is_ty {B H : Hp} {β : List Addr} {μ : Store} {v : V} {d : D} (rp : Rep K B H β μ) (hx : Is B β v d) (hh : ∀ n, d ≠ .h n) : TyX K H v (.type (tyName d)) := by
  cases d with
  | non => rw [is_non.mp hx]; exact .base .non
  | bl b => rw [is_bl.mp hx]; exact .base (.bl b)
  | int b => rw [is_int.mp hx]; exact .base (.int b)
  | str b => rw [is_str.mp hx]; exact .base (.str b)
  | tup ds => obtain ⟨a, vs, rfl, ha, _⟩ := is_tup' rp hx; exact .base (.tup ha)
  | lst ds => obtain ⟨a, vs, rfl, ha, _⟩ := is_lst' rp hx; exact .base (.lst ha)
  | h n => exact absurd rfl (hh n)
theorem de_isi {T : String} {x : Str} {g : D → M D} (hc : ∀ d, (∃ n, d = .h n ∧ g d = M.fail) ∨ ((∀ n, d ≠ .h n) ∧ ∃ b, kitB (tyName d) T = some b ∧ g d = pure (.bl b))) (hgi : Gl X "isinstance") (hmi : X.mg "isinstance" = none) (hg : Gl X x) (hm : X.mg x = none) (hv : bootBuiltins x = some (.type T)) (ha : DE X a fa)
    (hn : x ≠ "__name__" := by decide) (hd : (x == ("__debug__" : Str)) = false := by decide)
    (he : starEach [a, .Name x p2] X.env = (false, eval a X.env) :: starEach [.Name x p2] X.env := by rfl) (he2 : starEach [.Name x p2] X.env = (false, eval (.Name x p2) X.env) :: starEach [] X.env := by rfl) (hpl : (backTo pos (starEach [.Name x p2] X.env)).any (·.1) = false := by rfl) :
    DE X (.Call (.Name "isinstance" p) [a, .Name x p2] [] pos) (eOp1 g fa) :=
  pe_weak (pe_callB call_isi hgi hmi (by decide +kernel) (pa_cons ha (pa_cons (pe_bltn (v := .ty T) hg hm hv rfl hn hd) pa_nil he2) he) (he := he) (hpl := hpl)) fun σ H Q h => tD_bind h fun B β μ Γ H1 v d rp en j rn => by
    rcases hc d with ⟨n, _, e⟩ | ⟨hh, b, e1, e2⟩
    · rw [e] at rn; exact rn.fail.elim
    · rw [e2] at rn
      exact ⟨v, .ty T, .type (tyName d), .type T, b, rfl, .ty T, is_ty rp j hh, kit_ty e1, rn.here rp (is_bl.mpr rfl)⟩
theorem isi_tup : ∀ d, (∃ n, d = .h n ∧ isTup d = M.fail) ∨ ((∀ n, d ≠ .h n) ∧ ∃ b, kitB (tyName d) "tuple" = some b ∧ isTup d = pure (.bl b)) := fun d => by
  cases d <;> first | exact .inl ⟨_, rfl, rfl⟩ | exact .inr ⟨fun _ => D.noConfusion, _, by simp only [tyName]; decide +kernel, rfl⟩
theorem isi_lst : ∀ d, (∃ n, d = .h n ∧ isLst d = M.fail) ∨ ((∀ n, d ≠ .h n) ∧ ∃ b, kitB (tyName d) "list" = some b ∧ isLst d = pure (.bl b)) := fun d => by
  cases d <;> first | exact .inl ⟨_, rfl, rfl⟩ | exact .inr ⟨fun _ => D.noConfusion, _, by simp only [tyName]; decide +kernel, rfl⟩
theorem isi_int : ∀ d, (∃ n, d = .h n ∧ isInt d = M.fail) ∨ ((∀ n, d ≠ .h n) ∧ ∃ b, kitB (tyName d) "int" = some b ∧ isInt d = pure (.bl b)) := fun d => by
  cases d <;> first | exact .inl ⟨_, rfl, rfl⟩ | exact .inr ⟨fun _ => D.noConfusion, _, by simp only [tyName]; decide +kernel, rfl⟩
theorem isi_bl : ∀ d, (∃ n, d = .h n ∧ isBl d = M.fail) ∨ ((∀ n, d ≠ .h n) ∧ ∃ b, kitB (tyName d) "bool" = some b ∧ isBl d = pure (.bl b)) := fun d => by
  cases d <;> first | exact .inl ⟨_, rfl, rfl⟩ | exact .inr ⟨fun _ => D.noConfusion, _, by simp only [tyName]; decide +kernel, rfl⟩
theorem isi_str : ∀ d, (∃ n, d = .h n ∧ isStr d = M.fail) ∨ ((∀ n, d ≠ .h n) ∧ ∃ b, kitB (tyName d) "str" = some b ∧ isStr d = pure (.bl b)) := fun d => by
  cases d <;> first | exact .inl ⟨_, rfl, rfl⟩ | exact .inr ⟨fun _ => D.noConfusion, _, by simp only [tyName]; decide +kernel, rfl⟩
/-! ### list(range(n)), tuple(range(n)) -/
theorem rgV_is {B : Hp} {β : List Addr} (i j : Int) : IsL B β (rgV i j) (rangeL i j) := by
  have e1 : rgV i j = ((List.range (j - i).toNat).map fun (k : Nat) => i + (k : Int)).map V.int := by unfold rgV; rw [List.map_map]; rfl
  have e2 : rangeL i j = ((List.range (j - i).toNat).map fun (k : Nat) => i + (k : Int)).map D.int := by unfold rangeL; rw [List.map_map]; rfl
  rw [e1, e2]
  exact isL_of_ints _
theorem rangeL_len (i j : Int) : (rangeL i j).length = (j - i).toNat := by unfold rangeL; rw [List.length_map, List.length_range]
theorem de_listRange (hc : X.calm = true) (hg : Gl X "list") (hm : X.mg "list" = none) (hg2 : Gl X "range") (hm2 : X.mg "range" = none) (ha : DE X a fa) (na : starEach [a] X.env = (false, eval a X.env) :: starEach [] X.env := by rfl)
    (nb : starEach [.Call (.Name "range" p2) [a] [] p] X.env = (false, eval (.Call (.Name "range" p2) [a] [] p) X.env) :: starEach [] X.env := by rfl) {p3 : Pos} : DE X (.Call (.Name "list" p3) [.Call (.Name "range" p2) [a] [] p] [] pos) (eOp1 rangeD fa) :=
  pe_weak (pe_listRg hc hg hm (prg_1 hg2 hm2 ha na) nb) fun σ H Q h => tD_bind h fun B β μ Γ H1 v d rp en j rn => by
    cases d with
    | int n =>
      obtain ⟨hl, rn⟩ := Run.ite rn
      exact ⟨n, is_int.mp j, ⟨by omega, by omega, by omega, by omega, by omega⟩, fun q hq => rn.new hq rp (is_newL (Same.free rp.sub hq) (rgV_is 0 n) (by rw [rangeL_len]; unfold lim; omega))⟩
    | _ => exact rn.fail.elim
theorem de_tupRange (hc : X.calm = true) (hg : Gl X "tuple") (hm : X.mg "tuple" = none) (hg2 : Gl X "range") (hm2 : X.mg "range" = none) (ha : DE X a fa) (na : starEach [a] X.env = (false, eval a X.env) :: starEach [] X.env := by rfl)
    (nb : starEach [.Call (.Name "range" p2) [a] [] p] X.env = (false, eval (.Call (.Name "range" p2) [a] [] p) X.env) :: starEach [] X.env := by rfl) {p3 : Pos} : DE X (.Call (.Name "tuple" p3) [.Call (.Name "range" p2) [a] [] p] [] pos) (eOp1 rangeT fa) :=
  pe_weak (pe_tupRg hc hg hm (prg_1 hg2 hm2 ha na) nb) fun σ H Q h => tD_bind h fun B β μ Γ H1 v d rp en j rn => by
    cases d with
    | int n =>
      obtain ⟨hl, rn⟩ := Run.ite rn
      exact ⟨n, is_int.mp j, ⟨by omega, by omega, by omega, by omega, by omega⟩, fun q hq => rn.new hq rp (is_newT (Same.free rp.sub hq) (rgV_is 0 n) (by rw [rangeL_len]; unfold lim; omega))⟩
    | _ => exact rn.fail.elim
/-! ### mutable lists -/
theorem Run.set {α γ : Type} {J : Hp → List Addr → γ → α → Prop} {B H : Hp} {β : List Addr} {μ : Store} {Q : γ → Hp → Prop} {n : Nat} {o : MO} {f : Unit → M α} (h : Run J K B H β μ (setH n o >>= f) Q) : n < μ.length ∧ ∃ a μ', f () (μ.set n o) = some (a, μ') ∧ ∀ B' β' H' c, Ext B β H B' β' H' → Rep K B' H' β' μ' → J B' β' c a → Q c H' := by
  obtain ⟨a, μ', e, q⟩ := h
  obtain ⟨u, μ1, e1, e2⟩ := bind_some e
  unfold setH at e1
  by_cases hn : n < μ.length
  · rw [if_pos hn] at e1; cases e1
    exact ⟨hn, a, μ', e2, q⟩
  · rw [if_neg hn] at e1; cases e1
theorem Run.isLH {α γ : Type} {J : Hp → List Addr → γ → α → Prop} {B H : Hp} {β : List Addr} {μ : Store} {Q : γ → Hp → Prop} {v : V} {d : D} {f : Nat → M α} (rp : Rep K B H β μ) (j : Is B β v d) (h : Run J K B H β μ (isLH d >>= f) Q) :
    ∃ n aa, d = .h n ∧ v = .ref aa ∧ β[n]? = some aa ∧ tyV K "list" (.ref aa) H ∧ Run J K B H β μ (f n) Q := by
  cases d with
  | h n =>
    unfold DL.isLH at h
    rw [bind_assoc] at h
    obtain ⟨o, ho, h⟩ := Run.get h
    obtain ⟨aa, rfl, hb, hm⟩ := mo_read rp j ho
    cases o with
    | lst ds => obtain ⟨_, _, vs, h5, _⟩ := hm; exact ⟨n, aa, rfl, rfl, hb, .inl ⟨rfl, _, SqL.of h5⟩, h⟩
    | _ => exact h.fail.elim
  | _ => exact h.fail.elim
theorem Run.push {B H : Hp} {β : List Addr} {μ : Store} {Q : VK} {n : Nat} {aa : Addr} {zs : List D} {us : List V} (rp : Rep K B H β μ) (hb : β[n]? = some aa) (jz : IsL B β us zs) (h : RunD K B H β μ (pushH n zs) Q) :
    ∃ vs : List V, H aa = some (.lst vs) ∧ vs.length + us.length ≤ lim ∧ Q .non (upd H aa (.lst (vs ++ us))) := by
  unfold pushH at h
  obtain ⟨o, ho, h⟩ := Run.get h
  have hm := rp.obj n aa o hb ho
  cases o with
  | lst ds =>
    obtain ⟨hl, h⟩ := Run.ite h
    obtain ⟨hB, hl2, vs, h5, h6⟩ := hm
    obtain ⟨_, h⟩ := Run.set h
    refine ⟨vs, h5, by rw [isL_len h6, isL_len jz]; exact hl, ?_⟩
    exact Run.pure h (rp.setExt hb) (rp.set hb hB ⟨hB, by rw [List.length_append]; exact hl, vs ++ us, upd_same, isL_append h6 jz⟩) (is_non.mpr rfl)
  | _ => exact h.fail.elim
theorem de_append {apos : Pos} (ho : DE X o fo) (ha : DE X a fa) (hbase : attributeBase o "append" X.env (eval o X.env) = eval o X.env := by rfl)
    (hfew : ((backTo pos (starEach [a] X.env)).all (fun x => !x.1) && (backToKw pos (keywordEach [] X.env)).all (fun x => x.1.isSome)
      && decide (([a] : List Expr).length + ([] : List Keyword).length + (if ([] : List Keyword).isEmpty then 0 else 1) < 30)) = true := by rfl)
    (hline : (apos.endLine == pos.line) = true := by rfl) (hs : starEach [a] X.env = (false, eval a X.env) :: starEach [] X.env := by rfl) (hplain : (backTo pos (starEach [] X.env)).any (·.1) = false := by rfl) :
    DE X (.Call (.Attribute o "append" apos) [a] [] pos) (eAppend fo fa) :=
  pe_weak (pe_bm PySem.F.plainAttrs_list PySem.F.slot_list_append PySem.F.type_list_append mt_append ho (pa_cons ha pa_nil hs) hbase hfew hline hs hplain) fun σ H Q h => tD_bind h fun B β μ Γ H1 v d rp en j rn => by
    obtain ⟨n, aa, e1, e2, hb, ty, rn⟩ := Run.isLH rp j rn
    refine ⟨by rw [e2]; exact ty, B, β, μ, Γ, rp, en, rn.bind fun B1 β1 μ1 H2 u d2 x r1 j1 rn1 => ?_⟩
    obtain ⟨vs, h5, hl, q⟩ := Run.push r1 (pre_get x.pre hb) (isL_one j1) rn1
    exact ⟨aa, vs, u, e2, rfl, h5, lim_lt (by simp at hl; omega), q⟩
theorem de_extend {apos : Pos} (ho : DE X o fo) (ha : DE X a fa) (hbase : attributeBase o "extend" X.env (eval o X.env) = eval o X.env := by rfl)
    (hfew : ((backTo pos (starEach [a] X.env)).all (fun x => !x.1) && (backToKw pos (keywordEach [] X.env)).all (fun x => x.1.isSome)
      && decide (([a] : List Expr).length + ([] : List Keyword).length + (if ([] : List Keyword).isEmpty then 0 else 1) < 30)) = true := by rfl)
    (hline : (apos.endLine == pos.line) = true := by rfl) (hs : starEach [a] X.env = (false, eval a X.env) :: starEach [] X.env := by rfl) (hplain : (backTo pos (starEach [] X.env)).any (·.1) = false := by rfl) :
    DE X (.Call (.Attribute o "extend" apos) [a] [] pos) (eExtend fo fa) :=
  pe_weak (pe_bm PySem.F.plainAttrs_list PySem.F.slot_list_extend PySem.F.type_list_extend mt_extend ho (pa_cons ha pa_nil hs) hbase hfew hline hs hplain) fun σ H Q h => tD_bind h fun B β μ Γ H1 v d rp en j rn => by
    obtain ⟨n, aa, e1, e2, hb, ty, rn⟩ := Run.isLH rp j rn
    refine ⟨by rw [e2]; exact ty, B, β, μ, Γ, rp, en, rn.bind fun B1 β1 μ1 H2 u d2 x r1 j1 rn1 => ?_⟩
    cases d2 with
    | lst zs =>
      obtain ⟨b, us, rfl, hb2, _, _, _, iz⟩ := is_lst' r1 j1
      obtain ⟨vs, h5, hl, q⟩ := Run.push r1 (pre_get x.pre hb) iz rn1
      exact ⟨aa, b, vs, us, e2, rfl, h5, hb2, lim_le hl, q⟩
    | _ => exact rn1.fail.elim
end
end DL
/-! DWlk: targets, what is walked, comprehensions -/
namespace DL
open PySem PySem.Spec PyProof.Rows L2
/-! ### targets -/
mutual
def Tg.slots : Tg → List Nat
  | .v i => [i]
  | .t ts => Tgs.slots ts
def Tgs.slots : Tgs → List Nat
  | .nil => []
  | .cons t ts => t.slots ++ ts.slots
end
def Tgs.len : Tgs → Nat
  | .nil => 0
  | .cons _ ts => ts.len + 1
theorem wipe_get (σ : L2.St) : ∀ (js : List Nat) (k : Nat), (L2.wipe σ js)[k]? = if k ∈ js then (if k < σ.length then some none else none) else σ[k]?
  | [], k => by simp [L2.wipe]
  | j :: js, k => by
    unfold L2.wipe
    by_cases hj : j = k
    · subst hj
      rw [List.getElem?_set, if_pos rfl, if_pos List.mem_cons_self, L2.wipe_length]
    · rw [List.getElem?_set_ne hj, wipe_get σ js k]
      have : (k ∈ j :: js) ↔ k ∈ js := by simp [Ne.symm hj]
      simp only [this]
theorem wipe_set {σ : L2.St} {i : Nat} {x : Option V} {js : List Nat} (h : i ∈ js) : L2.wipe (σ.set i x) js = L2.wipe σ js := by
  apply List.ext_getElem?
  intro k
  rw [wipe_get, wipe_get, List.length_set]
  by_cases hk : k ∈ js
  · rw [if_pos hk, if_pos hk]
  · rw [if_neg hk, if_neg hk, List.getElem?_set_ne (fun e => hk (by rw [← e]; exact h))]
def Kept (sl : List Nat) (σ σ' : L2.St) : Prop := ∀ js, (∀ i ∈ sl, i ∈ js) → L2.wipe σ' js = L2.wipe σ js
def tG (tg : Tg) : TG := fun v σ H Q => ∃ B β Γ d Γ', Is B β v d ∧ EnvOk B β σ Γ ∧ Same B H ∧ tg.put d Γ = some Γ' ∧ ∀ σ', EnvOk B β σ' Γ' → Kept tg.slots σ σ' → Q σ' H
def tGs (ts : Tgs) : TGs := fun vs σ H Q => ∃ B β Γ ds Γ', IsL B β vs ds ∧ EnvOk B β σ Γ ∧ Same B H ∧ ts.put ds Γ = some Γ' ∧ ∀ σ', EnvOk B β σ' Γ' → Kept ts.slots σ σ' → Q σ' H
abbrev DG (X : Cx) (e : Expr) (tg : Tg) : Prop := PG X e (tG tg)
abbrev DGs (X : Cx) (es : List Expr) (ts : Tgs) : Prop := PGs X es (tGs ts)
theorem pg_weak {X : Cx} {e : Expr} {t t' : TG} (h : PG X e t) (w : ∀ v σ H Q, t' v σ H Q → t v σ H Q) : PG X e t' := ⟨fun pins s σ H v u Q I r q => h.run pins s σ H v u Q I r (w v σ H Q q)⟩
theorem pgs_weak {X : Cx} {e : List Expr} {t t' : TGs} (h : PGs X e t) (w : ∀ v σ H Q, t' v σ H Q → t v σ H Q) : PGs X e t' := ⟨fun pins s σ H v u Q I r q => h.run pins s σ H v u Q I r (w v σ H Q q)⟩
section
variable {X : Cx} {K : PySem.W.Frag} {a b c e o : Expr} {es : List Expr} {fa fb fc fe fo : E} {fs : List E} {pos p p2 : Pos}
theorem dg_name {i : Nat} {x : Str} {pos : Pos} (hN : X.N.Nodup) (hi : X.N[i]? = some x := by rfl) (hx : Loc X.env.scope x := by first | exact Or.inl rfl | exact Or.inr rfl) (hf : X.fn x = true ∨ X.env.scope.names.lookup x = some .local := by first | exact .inl rfl | exact .inr rfl) : DG X (.Name x pos) (.v i) :=
  pg_weak (pg_name hN hi hx hf) fun v σ H Q h => by
    obtain ⟨B, β, Γ, d, Γ', hv, en, _, hp, q⟩ := h
    have hp : some (Γ.set i (some d)) = some Γ' := hp
    cases hp
    exact q _ (en.set i hv) fun js hjs => wipe_set (hjs i (by simp [Tg.slots]))
theorem dgs_nil : DGs X [] .nil := pgs_weak pgs_nil fun vs σ H Q h => by
  obtain ⟨B, β, Γ, ds, Γ', hv, en, _, hp, q⟩ := h
  cases ds with
  | nil =>
    have hp : some Γ = some Γ' := hp
    cases hp
    exact ⟨isL_nil_iff.mp hv, q σ en fun _ _ => rfl⟩
  | cons d ds => cases hp
theorem dgs_cons {t : Tg} {ts : Tgs} (h1 : DG X e t) (h2 : DGs X es ts) (hs : (assignEach (e :: es) X.env).map (·.2) = assign e X.env :: (assignEach es X.env).map (·.2) := by rfl) : DGs X (e :: es) (.cons t ts) := pgs_weak (pgs_cons h1 h2 hs) fun vs σ H Q h => by
  obtain ⟨B, β, Γ, ds, Γ', hv, en, sm, hp, q⟩ := h
  cases ds with
  | nil => cases hp
  | cons d ds =>
    rw [IsL] at hv
    obtain ⟨v, r, rfl, hv1, hv2⟩ := hv
    have hp : (t.put d Γ).bind (ts.put ds) = some Γ' := hp
    cases e1 : t.put d Γ with
    | none => rw [e1] at hp; cases hp
    | some Γ1 =>
      rw [e1] at hp
      exact ⟨v, r, rfl, B, β, Γ, d, Γ1, hv1, en, sm, e1, fun σ1 en1 k1 => ⟨B, β, Γ1, ds, Γ', hv2, en1, sm, hp, fun σ2 en2 k2 => q σ2 en2 fun js hjs =>
        (k2 js fun i hi => hjs i (by simp [Tgs.slots, hi])).trans (k1 js fun i hi => hjs i (by simp [Tgs.slots, hi]))⟩⟩
theorem put_len : ∀ {ts : Tgs} {ds : List D} {Γ Γ' : Env}, ts.put ds Γ = some Γ' → ds.length = ts.len
  | .nil, [], _, _, _ => rfl
  | .nil, _ :: _, _, _, h => by simp [Tgs.put] at h
  | .cons _ _, [], _, _, h => by simp [Tgs.put] at h
  | .cons t ts, d :: ds, Γ, Γ', h => by
    have h : (t.put d Γ).bind (ts.put ds) = some Γ' := h
    cases e1 : t.put d Γ with
    | none => rw [e1] at h; cases h
    | some Γ1 =>
      rw [e1] at h
      rw [List.length_cons, Tgs.len, put_len (ts := ts) h]
theorem dg_tup {k : Nat} {ts : Tgs} (hc : X.calm = true) (h : DGs X es ts) (hn : (assignEach es X.env).length = ts.len := by rfl) (hst : (assignEach es X.env).findIdx? (·.1) = none := by rfl) : DG X (.Tuple es k pos) (.t ts) :=
  pg_weak (pg_tup hc h hn hst) fun v σ H Q h => by
    obtain ⟨B, β, Γ, d, Γ', hv, en, sm, hp, q⟩ := h
    cases d with
    | tup ds =>
      have hp : ts.put ds Γ = some Γ' := hp
      obtain ⟨a, vs, rfl, h1, _, h3⟩ := is_tup.mp hv
      exact ⟨a, vs, rfl, SqT.of (sm _ _ h1), by rw [isL_len h3]; exact put_len hp, B, β, Γ, ds, Γ', h3, en, sm, hp, q⟩
    | _ => simp [Tg.put] at hp
/-! ### what is walked -/
def GOk (g : Gd) (its : List D) (μ : Store) : Prop := gOk g its μ = some ((), μ)
structure ItIs (K : PySem.W.Frag) (B : Hp) (β : List Addr) (J : It) (its : List D) (g : Gd) : Prop where
  len : its.length ≤ lim
  run : ∀ (B1 : Hp) (β1 : List Addr) (μ1 : Store) (H1 : Hp), Same B B1 → β <+: β1 → Rep K B1 H1 β1 μ1 → GOk g its μ1 →
    (∀ i, i < its.length → J.go i H1) ∧ (∀ i, its.length ≤ i → J.stop i H1) ∧
    ∀ (i : Nat) (v : V) (H' : Hp), i < its.length → J.yld i H1 v H' → ∃ B' d, Ext B1 β1 H1 B' β1 H' ∧ Rep K B' H' β1 μ1 ∧ its[i]? = some d ∧ Is B' β1 v d
def JI (K : PySem.W.Frag) : Hp → List Addr → It → List D × Gd → Prop := fun B β J p => ItIs K B β J p.1 p.2
def tI (K : PySem.W.Frag) (w : W) : TI := fun σ H R => ∃ B β μ Γ, Rep K B H β μ ∧ EnvOk B β σ Γ ∧ Run (JI K) K B H β μ (w Γ) R
abbrev DI (X : Cx) (tg iter : Expr) (w : W) : Prop := PI X tg iter (tI X.K w)
theorem pi_weak {tg : Expr} {t t' : TI} (h : PI X tg e t) (w : ∀ σ H Q, t' σ H Q → t σ H Q) : PI X tg e t' := ⟨fun pins s σ H Q I q => h.run pins s σ H Q I (w σ H Q q)⟩
/-- from a bind to its first part, what is wanted being of any kind -/
theorem tD_of {α γ : Type} {J : Hp → List Addr → γ → α → Prop} {B H : Hp} {β : List Addr} {μ : Store} {Γ : Env} {σ : L2.St} {Q : γ → Hp → Prop} {k : D → M α} (rp : Rep K B H β μ) (en : EnvOk B β σ Γ) (rn : Run J K B H β μ (fa Γ >>= k) Q) {R : VK}
    (w : ∀ B β μ H1 v d, Rep K B H1 β μ → EnvOk B β σ Γ → Is B β v d → Run J K B H1 β μ (k d) Q → R v H1) : tD K fa σ H R :=
  ⟨B, β, μ, Γ, rp, en, rn.bind fun B1 β1 μ1 H1 v d x r1 j rn1 => w B1 β1 μ1 H1 v d r1 (en.ext x) j rn1⟩
/-- a list or a tuple -/
def iSeq (K : PySem.W.Frag) (tl : TE) : TI := fun σ H R => tl σ H fun x H1 => ∃ a, x = .ref a ∧ (((∃ xs, SqL K H1 a xs) ∧ R (Itl K a) H1) ∨ ((∃ xs, SqT K H1 a xs) ∧ R (Itt K a) H1))
theorem pi_seq {tg : Expr} {l : Expr} {tl : TE} (hl : PE X l tl) : PI X tg l (iSeq X.K tl) := by
  refine ⟨fun pins s σ H R I h => ?_⟩
  refine thn (hl.run pins s σ H _ I h) fun v s1 ⟨x, H1, I1, r1, q1⟩ => ?_
  obtain ⟨a, e, ⟨⟨xs, hq⟩, q⟩ | ⟨⟨xs, hq⟩, q⟩⟩ := q1
  · subst e
    cases r1
    obtain ⟨its, rv, p, hz⟩ := I1.list hq
    refine wpAny_pyIter_list p.isList ?_
    refine ⟨s1.heap.objs.size, [s1.heap.objs.size], _, _, H1, rfl, I1.kept (t' := s1.toks) fun b o e => Heap.get?_push_of_some _ e, turn_list a _, ⟨_, Heap.get?_push_size _ rfl, rfl, rfl⟩, fun b hb => ?_, q⟩
    have e : b = s1.heap.objs.size := by simpa using hb
    subst e
    exact I1.fpOk (Nat.le_refl _) (I1.hok.fresh (Nat.le_refl _))
  · subst e
    cases r1
    obtain ⟨its, rv, p, hz⟩ := I1.tuple hq
    refine wpAny_pyIter_tuple (show s1.heap.IsTuple a its.toArray from p) ?_
    refine ⟨s1.heap.objs.size, [s1.heap.objs.size], _, _, H1, rfl, I1.kept (t' := s1.toks) fun b o e => Heap.get?_push_of_some _ e, turn_tuple a _, ⟨_, Heap.get?_push_size _ rfl, rfl, rfl⟩, fun b hb => ?_, q⟩
    have e : b = s1.heap.objs.size := by simpa using hb
    subst e
    exact I1.fpOk (Nat.le_refl _) (I1.hok.fresh (Nat.le_refl _))
theorem itl_is {B : Hp} {β : List Addr} {a : Addr} {its : List D} {g : Gd} (hl : its.length ≤ lim) (h : ∀ (B1 : Hp) (β1 : List Addr) (μ1 : Store) (H1 : Hp), Same B B1 → β <+: β1 → Rep K B1 H1 β1 μ1 → GOk g its μ1 → ∃ vs, SqL K H1 a vs ∧ IsL B1 β1 vs its) : ItIs K B β (Itl K a) its g :=
  ⟨hl, fun B1 β1 μ1 H1 sm pr rp go => by
    obtain ⟨vs, hs, il⟩ := h B1 β1 μ1 H1 sm pr rp go
    have e := isL_len il
    refine ⟨fun i hi => ⟨vs, vs[i]'(by omega), hs, List.getElem?_eq_getElem _⟩, fun i hi => ⟨vs, hs, by omega⟩, fun i v H' hi y => ?_⟩
    obtain ⟨e1, y⟩ := y
    subst e1
    have hv := y vs hs
    obtain ⟨d, hd, j⟩ := isL_getV il hv
    exact ⟨B1, d, Ext.refl, rp, hd, j⟩⟩
theorem itt_is {B : Hp} {β : List Addr} {a : Addr} {its : List D} {g : Gd} (hl : its.length ≤ lim) (h : ∀ (B1 : Hp) (β1 : List Addr) (μ1 : Store) (H1 : Hp), Same B B1 → β <+: β1 → Rep K B1 H1 β1 μ1 → GOk g its μ1 → ∃ vs, SqT K H1 a vs ∧ IsL B1 β1 vs its) : ItIs K B β (Itt K a) its g :=
  ⟨hl, fun B1 β1 μ1 H1 sm pr rp go => by
    obtain ⟨vs, hs, il⟩ := h B1 β1 μ1 H1 sm pr rp go
    have e := isL_len il
    refine ⟨fun i hi => ⟨vs, vs[i]'(by omega), hs, List.getElem?_eq_getElem _⟩, fun i hi => ⟨vs, hs, by omega⟩, fun i v H' hi y => ?_⟩
    obtain ⟨e1, y⟩ := y
    subst e1
    have hv := y vs hs
    obtain ⟨d, hd, j⟩ := isL_getV il hv
    exact ⟨B1, d, Ext.refl, rp, hd, j⟩⟩
theorem gok_l {n : Nat} {its : List D} {μ : Store} (h : GOk (.l n) its μ) : (μ[n]? = some (.lst its)) ∨ (∃ ns, μ[n]? = some (.scr ns) ∧ ns.map D.int = its) := by
  unfold GOk gOk at h
  obtain ⟨o, μ1, e1, e2⟩ := bind_some h
  unfold getH at e1
  cases ho : μ[n]? with
  | none => rw [ho] at e1; cases e1
  | some o' =>
    rw [ho] at e1; cases e1
    cases o with
    | lst ds =>
      dsimp only at e2
      by_cases hc : sameL ds its = true
      · rw [sameL_eq hc]; exact .inl rfl
      · rw [if_neg hc] at e2; cases e2
    | scr ns =>
      dsimp only at e2
      by_cases hc : sameL (ns.map D.int) its = true
      · exact .inr ⟨ns, rfl, sameL_eq hc⟩
      · rw [if_neg hc] at e2; cases e2
    | _ => cases e2
theorem gok_k {n : Nat} {its : List D} {μ : Store} (h : GOk (.k n) its μ) : ∃ kvs, μ[n]? = some (.dic true kvs) ∧ (kvs.map fun p => D.tup (p.1.map D.int)) = its := by
  unfold GOk gOk at h
  obtain ⟨o, μ1, e1, e2⟩ := bind_some h
  unfold getH at e1
  cases ho : μ[n]? with
  | none => rw [ho] at e1; cases e1
  | some o' =>
    rw [ho] at e1; cases e1
    cases o with
    | dic lk kvs =>
      cases lk with
      | false => cases e2
      | true =>
        dsimp only at e2
        by_cases hc : sameL (kvs.map fun p => D.tup (p.1.map D.int)) its = true
        · exact ⟨kvs, rfl, sameL_eq hc⟩
        · rw [if_neg hc] at e2; cases e2
    | _ => cases e2
theorem di_seq {tg : Expr} (ha : DE X a fa) : DI X tg a (wSeq fa) := pi_weak (pi_seq ha) fun σ H Q h => by
  obtain ⟨B, β, μ, Γ, rp, en, rn⟩ := h
  refine tD_of rp en rn fun B β μ H1 v d rp en j rn => ?_
  cases d with
  | tup ds =>
    obtain ⟨aa, vs, rfl, h1, h2, h3, h3', h4⟩ := is_tup' rp j
    have hl : ds.length ≤ lim := by rw [← h3']; exact h3
    exact ⟨aa, rfl, .inr ⟨⟨vs, SqT.of h1⟩, rn.here rp (itt_is (g := .no) hl fun B1 β1 μ1 H1 sm pr rp1 go => ⟨vs, SqT.of (rp1.sub _ _ (sm _ _ h2)), h4.mono sm pr⟩)⟩⟩
  | lst ds =>
    obtain ⟨aa, vs, rfl, h1, h2, h3, h3', h4⟩ := is_lst' rp j
    have hl : ds.length ≤ lim := by rw [← h3']; exact h3
    exact ⟨aa, rfl, .inl ⟨⟨vs, SqL.of h1⟩, rn.here rp (itl_is (g := .no) hl fun B1 β1 μ1 H1 sm pr rp1 go => ⟨vs, SqL.of (rp1.sub _ _ (sm _ _ h2)), h4.mono sm pr⟩)⟩⟩
  | h n =>
    have rn : Run (JI X.K) X.K B H1 β μ (itemsD (.h n) >>= fun ds => pure (ds, Gd.l n)) Q := rn
    rw [itemsD_h, bind_assoc] at rn
    obtain ⟨o, ho, rn⟩ := Run.get rn
    obtain ⟨aa, rfl, hb, hm⟩ := mo_read rp j ho
    have fin : ∀ its : List D, its.length ≤ lim → ItIs X.K B β (Itl X.K aa) its (.l n) := fun its hl => itl_is hl fun B1 β1 μ1 H2 sm pr rp1 go => by
      rcases gok_l go with g | ⟨ns, g, e⟩
      · obtain ⟨_, _, vs2, k1, k2⟩ := rp1.obj n aa _ (pre_get pr hb) g
        exact ⟨vs2, SqL.of k1, k2⟩
      · obtain ⟨_, _, _, k1⟩ := rp1.obj n aa _ (pre_get pr hb) g
        exact ⟨_, k1, by rw [← e]; exact isL_of_ints ns⟩
    cases o with
    | lst ds =>
      obtain ⟨hB, hl, vs, h5, h6⟩ := hm
      exact ⟨aa, rfl, .inl ⟨⟨vs, SqL.of h5⟩, rn.here rp (fin ds hl)⟩⟩
    | scr ns =>
      obtain ⟨hB, _, hl, h5⟩ := hm
      exact ⟨aa, rfl, .inl ⟨⟨_, h5⟩, rn.here rp (fin _ (by rw [List.length_map]; exact hl))⟩⟩
    | _ => exact rn.fail.elim
  | _ => exact rn.fail.elim
theorem rangeL_get (i j : Int) (k : Nat) (hk : k < (j - i).toNat) : (rangeL i j)[k]? = some (.int (i + (k : Int))) := by
  unfold rangeL
  rw [List.getElem?_map, List.getElem?_range hk]
  rfl
theorem itr_is {B : Hp} {β : List Addr} {i j : Int} (hl : (j - i).toNat ≤ lim) : ItIs K B β (Itr i (j - i).toNat) (rangeL i j) .no := by
  refine ⟨by rw [rangeL_len]; exact hl, fun B1 β1 μ1 H1 sm pr rp go => ⟨fun k hk => by rw [rangeL_len] at hk; exact hk, fun k hk => by rw [rangeL_len] at hk; exact hk, fun k v H' hk y => ?_⟩⟩
  rw [rangeL_len] at hk
  obtain ⟨e1, e2⟩ := y
  subst e1 e2
  exact ⟨B1, _, Ext.refl, rp, rangeL_get i j k hk, is_int.mpr rfl⟩
theorem di_range1 {tg : Expr} (hg : Gl X "range") (hm : X.mg "range" = none) (ha : DE X a fa) (he : starEach [a] X.env = (false, eval a X.env) :: starEach [] X.env := by rfl) (hs : starEach [a] X.env = [(false, eval a X.env)] := by rfl) :
    DI X tg (.Call (.Name "range" p) [a] [] pos) (wRange1 fa) := pi_weak (pi_range1 hg hm (pa_cons ha pa_nil he) hs) fun σ H Q h => by
  obtain ⟨B, β, μ, Γ, rp, en, rn⟩ := h
  refine tD_of rp en rn fun B β μ H1 v d rp en j rn => ?_
  cases d with
  | int n =>
    obtain ⟨hl, rn⟩ := Run.ite rn
    have q := rn.here rp (itr_is (K := X.K) (B := B) (β := β) (i := 0) (j := n) (by unfold lim; omega))
    rw [Int.sub_zero] at q
    exact ⟨n, by rw [is_int.mp j], by omega, by omega, q⟩
  | _ => exact rn.fail.elim
theorem di_range2 {tg : Expr} (hg : Gl X "range") (hm : X.mg "range" = none) (ha : DE X a fa) (hb : DE X b fb) (he : starEach [a, b] X.env = (false, eval a X.env) :: starEach [b] X.env := by rfl) (he2 : starEach [b] X.env = (false, eval b X.env) :: starEach [] X.env := by rfl)
    (hs : starEach [a, b] X.env = [(false, eval a X.env), (false, eval b X.env)] := by rfl) (hs2 : starEach [b] X.env = [(false, eval b X.env)] := by rfl) :
    DI X tg (.Call (.Name "range" p) [a, b] [] pos) (wRange fa fb) := pi_weak (pi_range2 hg hm (pa_cons ha (pa_cons hb pa_nil he2) he) hs hs2) fun σ H Q h => by
  obtain ⟨B, β, μ, Γ, rp, en, rn⟩ := h
  refine tD_of rp en rn fun B β μ H1 v d rp en j rn => ?_
  cases d with
  | int m =>
    refine tD_of rp en rn fun B1 β1 μ1 H2 u e rp1 en1 j1 rn1 => ?_
    cases e with
    | int n =>
      obtain ⟨hl, rn1⟩ := Run.ite rn1
      have q := rn1.here rp1 (itr_is (K := X.K) (B := B1) (β := β1) (i := m) (j := n) hl.2.2.2.2)
      exact ⟨m, n, by rw [is_int.mp j, is_int.mp j1], ⟨by omega, by omega, by omega, by omega⟩, q⟩
    | _ => exact rn1.fail.elim
  | _ => exact rn.fail.elim
theorem run_fix {α γ : Type} {J : Hp → List Addr → γ → α → Prop} {B H : Hp} {β : List Addr} {μ : Store} {v : V} {d : D} {Q : γ → Hp → Prop} {k : List D → M α} (rp : Rep K B H β μ) (hx : Is B β v d) (rn : Run J K B H β μ (fixD d >>= k) Q) :
    ∃ a vs ds, v = .ref a ∧ ((B a = some (.lst vs) ∧ d = .lst ds) ∨ (B a = some (.tup vs) ∧ d = .tup ds)) ∧ IsL B β vs ds ∧ ds.length ≤ lim ∧ Run J K B H β μ (k ds) Q := by
  cases d with
  | tup ds =>
    obtain ⟨a, vs, rfl, ha, ba, l1, la, ia⟩ := is_tup' rp hx
    exact ⟨a, vs, ds, rfl, .inr ⟨ba, rfl⟩, ia, by rw [← la]; exact l1, rn⟩
  | lst ds =>
    obtain ⟨a, vs, rfl, ha, ba, l1, la, ia⟩ := is_lst' rp hx
    exact ⟨a, vs, ds, rfl, .inl ⟨ba, rfl⟩, ia, by rw [← la]; exact l1, rn⟩
  | _ => exact rn.fail.elim
end
end DL
/-! DCmp: enumerate, zip, a dict's keys; comprehensions -/
namespace DL
open PySem PySem.Spec PyProof.Rows L2
open Sem (wp)
open AutoSeq1 (wpAny_loadPart')
/-! ### enumerate(tuple) -/
theorem meets_enumerate_newT (l : Addr) (items : Array Value) (n : Nat) (dct : Option Addr) (sl : Array (Option Value)) :
    Meets (Builtin.«enumerate.__new__» ⟨[.type "enumerate", .ref l], []⟩) (fun _ R s => s.heap.get? l = some { cls := .type "tuple", dict := dct, data := .seq items n, slots := sl } ∧
      R (.ok (.ret (.ref (s.heap.push { cls := .type "tuple_iterator", data := .fields #[.ref l, .int 0 0] }).objs.size)))
        { s with heap := (s.heap.push { cls := .type "tuple_iterator", data := .fields #[.ref l, .int 0 0] }).push { cls := .type "enumerate", data := .fields #[.none, .bool false, .ref s.heap.objs.size, rawInt 0, .none, .none] } }) :=
  .of_wp fun prog w A R s h => by
    obtain ⟨hp, g, d, tk, os⟩ := s; obtain ⟨hl, h⟩ := h
    have hsub := sub_enumerate
    have hL : Heap.IsTuple (Shared.heap ⟨hp, g, d, tk, os⟩) l items := ⟨_, hl, rfl, n, rfl⟩
    wp_walk using wpAny_loadPart' hl
    refine wpAny_stack_any fun st => wpAny_pure ?_
    split
    · rename_i c _ _ _ _ _
      cases (c == Value.type "enumerate")
      · wp_walk using wpAny_loadPart' hl, wpAny_pyIter_tuple hL
        exact ⟨_, rfl, h⟩
      · wp_walk using wpAny_loadPart' hl, wpAny_pyIter_tuple hL
        exact ⟨_, rfl, h⟩
    · wp_walk using wpAny_loadPart' hl, wpAny_pyIter_tuple hL
      exact ⟨_, rfl, h⟩
section
variable {prog : Program} {w : World} {A : Around} {E : Value → Shared → Prop} {s : Shared}
theorem call_enumerate_tuple {l : Addr} {items : Array Value} {Q : Value → Shared → Prop} (hL : s.heap.IsTuple l items)
    (h : ∀ h', IsEnum h' (s.heap.objs.size + 1) s.heap.objs.size 0 .none → h'.IsTupleIter s.heap.objs.size l 0 → h'.objs.size = s.heap.objs.size + 2 →
      (∀ b o, s.heap.get? b = some o → h'.get? b = some o) → Q (.ref (s.heap.objs.size + 1)) { s with heap := h' }) :
    wpAny (model prog w) A (call (.type "enumerate") [.ref l]) Q E s := by
  obtain ⟨⟨c, dct, dt, sl⟩, hl, hc, n, hd⟩ := hL
  replace hc : c = .type "tuple" := hc
  replace hd : dt = .seq items n := hd
  subst hc hd
  refine callType_new F.called_enumerate (by decide) (F.typeCall_enumerate_1 _) (F.newCall_enumerate_1 _) (fun obj => F.args_object_init_2 obj _) F.entry_enumerate_new
    (meets_enumerate_newT l items n dct sl) ⟨hl, ?_⟩
  have hz : (s.heap.push { cls := .type "tuple_iterator", data := .fields #[.ref l, .int 0 0] }).objs.size = s.heap.objs.size + 1 := Heap.size_push ..
  show _ ∧ _
  rw [hz]
  have he : IsEnum ((s.heap.push { cls := .type "tuple_iterator", data := .fields #[.ref l, .int 0 0] }).push
      { cls := .type "enumerate", data := .fields #[.none, .bool false, .ref s.heap.objs.size, rawInt 0, .none, .none] }) (s.heap.objs.size + 1) s.heap.objs.size 0 .none := by
    have := Heap.get?_push_size (s.heap.push { cls := .type "tuple_iterator", data := .fields #[.ref l, .int 0 0] })
      (o := { cls := .type "enumerate", data := .fields #[.none, .bool false, .ref s.heap.objs.size, rawInt 0, .none, .none] }) rfl
    rw [hz] at this; exact this
  refine ⟨⟨_, he, rfl⟩, h _ he ⟨_, Heap.get?_push_of_some _ (Heap.get?_push_size _ rfl), rfl, rfl⟩ (by rw [Heap.size_push, hz]) fun b o x => Heap.get?_push_of_some _ (Heap.get?_push_of_some _ x)⟩
end
def IteT (K : PySem.W.Frag) (a : Addr) : It :=
  ⟨fun i H => ∃ (xs : List V) (x : V), SqT K H a xs ∧ xs[i]? = some x, fun i H v H' => ∃ T x, v = .ref T ∧ H T = none ∧ H' = upd H T (.tup [.int (i : Nat), x]) ∧ ∀ xs, SqT K H a xs → xs[i]? = some x, fun i H => ∃ xs : List V, SqT K H a xs ∧ xs.length ≤ i⟩
/-- the i-th turn of enumerate over a tuple; l apart from both records -/
theorem turn_enumT {P : Program} {w : World} {K : PySem.W.Frag} {elts : List Expr} {kk : Nat} {tpos : Pos} (a e it : Addr) (hae : a ≠ it) (hai : a ≠ e) :
    Turn P w K (.Tuple elts kk tpos) (IteT K a) [e, it] e (fun i h => (∃ old, IsEnum h e it ((i : Nat) : Int) old) ∧ h.IsTupleIter it a i ∧ e ≠ it) where
  mem := by simp
  obj := fun i h st b hb => by
    obtain ⟨⟨old, he⟩, ⟨o, ho, hc, hd⟩, _⟩ := st
    have e' : b = e ∨ b = it := by simpa using hb
    rcases e' with z | z
    · rw [z]; exact ⟨_, he, fun v q => nomatch q⟩
    · rw [z]; exact ⟨o, ho, fun v q => by rw [hd] at q; cases q⟩
  keep := fun i h h' st k => let ⟨⟨old, he⟩, hi, hne⟩ := st; ⟨⟨old, k e (by simp) _ he⟩, hi.at fun o q => k it (by simp) o q, hne⟩
  item := by
    intro X hP hw hK hc i pins s σ H E I hf st hg
    subst hP hw hK
    obtain ⟨⟨old, he⟩, hit, hne⟩ := st
    obtain ⟨xs, x, hq, hx⟩ := hg
    obtain ⟨its, rv, p, hz⟩ := I.tuple hq
    obtain ⟨u, hu, ru⟩ := rv.get hx
    have hel : e < s.heap.objs.size := Heap.lt_size he
    have hil : it < s.heap.objs.size := by obtain ⟨_, q, _⟩ := hit; exact Heap.lt_size q
    have D := Draws.tuple (prog := X.prog) (w := X.w) (A := X.A.in1) (I.ok.hd hc) it a hae its.toArray
    have hlt : i < its.toArray.size := by
      rw [List.size_toArray]
      exact (List.getElem?_eq_some_iff.mp hu).1
    refine wpAny_pyNext_enum_itemD D he ⟨hit, show s.heap.IsTuple a its.toArray from p⟩ hlt hne (by simp [hne, Ne.symm hai]) fun x' h' tk hx' ho hst' hT hsz hk => ?_
    have ex : x' = u := by
      have h1 : its.toArray[i]? = some x' := hx'
      have h2 : its.toArray[i]? = some u := by simpa using hu
      rw [h1] at h2; exact Option.some.inj h2
    subst ex
    refine ⟨_, rfl, wpAny_letOwnedTupleGo_enum (s := { s with heap := h', toks := tk + 1 }) ho fun h'' he' sb => ?_⟩
    have hT2 : h''.get? s.heap.objs.size = some { cls := .type "tuple", data := .seq #[.int i tk, x'] } := (sb.2 _ (Nat.ne_of_gt hel)).trans hT
    have new : ObjOk X.prog X.w (upd H s.heap.objs.size (.tup [.int (i : Nat), x])) h'' s.heap.objs.size (.tup [.int (i : Nat), x]) :=
      ⟨by show 2 ≤ sizeLine; decide, [.int i tk, x'], .cons ⟨_, rfl⟩ (.cons ru .nil), ⟨_, hT2, rfl, _, rfl⟩⟩
    have I1 : Inv X pins σ (upd H s.heap.objs.size (.tup [.int (i : Nat), x])) { s with heap := h'', toks := tk + 1 } :=
      I.turnedNew (ch := [e, it]) (fun b ob hb q => (sb.2 b (fun z => hb (by simp [z]))).trans (hk b ob (fun z => hb (by simp [z])) (fun z => hb (by simp [z])) q)) hf (Nat.le_refl _) new
    refine ⟨.ref s.heap.objs.size, _, I1, rfl, ⟨_, x, rfl, I.hok.fresh (Nat.le_refl _), rfl, fun ys hy => by rw [I.tuple_inj hy hq]; exact hx⟩, ⟨⟨x', ?_⟩, hst'.1.at fun o q => (sb.2 it (Ne.symm hne)).trans q, hne⟩, fun b hb => ?_⟩
    · have e1 : ((i + 1 : Nat) : Int) = (i : Int) + 1 := by omega
      rw [e1]; exact he'
    · have hb' : b < s.heap.objs.size := by
        have e' : b = e ∨ b = it := by simpa using hb
        rcases e' with z | z
        · rw [z]; exact hel
        · rw [z]; exact hil
      rw [upd_ne (Nat.ne_of_lt hb')]
      exact (hf b hb).1
  done := by
    intro X hP hw hK hc i pins s σ H E I hf st hg
    subst hP hw hK
    obtain ⟨⟨old, he⟩, hit, hne⟩ := st
    obtain ⟨xs, hq, hx⟩ := hg
    obtain ⟨its, rv, p, hz⟩ := I.tuple hq
    obtain ⟨f0, f1, f2, f3, f4, f5⟩ := hf it (by simp)
    have hl := rv.length
    refine wpAny_pyNext_enum_endD (D := ⟨fun _ _ st => let ⟨o, ho, _⟩ := st.1; ⟨o, ho⟩, fun _ _ _ st hk => ⟨st.1.at fun o e => hk it (by simp) o e, st.2.at fun o e => hk a (by simp) o e⟩, fun j s' Q' E' hj => absurd hj (Nat.not_lt_zero _), fun s' Q' E' st' hE => wpAny_nextOf_tuple_end (i := i) (I.ok.hd hc) st'.1 st'.2 (by simp; omega) hE⟩) (n := 0) (P := fun _ _ => True) (fp := [it, a]) (St := fun _ h => h.IsTupleIter it a i ∧ h.IsTuple a its.toArray) he ⟨hit, show s.heap.IsTuple a its.toArray from p⟩ fun h' eb => ⟨rfl, I.turned (t' := s.toks) (fun b o hb q => eb b o hb q) f0 f1 f3 f4 f5⟩
  self := fun A i s Q E st h => let ⟨⟨_, he⟩, _⟩ := st; wpAny_pyIter_enum he h
def iEnumA (K : PySem.W.Frag) (ta : TA) : TI := fun σ H R => ta σ H fun vs H1 => ∃ a xs, vs = [.ref a] ∧ ((SqL K H1 a xs ∧ R (Ite K a) H1) ∨ (SqT K H1 a xs ∧ R (IteT K a) H1))
theorem pi_enumA {X : Cx} {e : Expr} {ta : TA} {p pos tpos : Pos} {elts : List Expr} {kk : Nat} (hg : Gl X "enumerate") (hm : X.mg "enumerate" = none) (ha : PA X [e] ta) (hs : starEach [e] X.env = [(false, eval e X.env)] := by rfl) :
    PI X (.Tuple elts kk tpos) (.Call (.Name "enumerate" p) [e] [] pos) (iEnumA X.K ta) := by
  refine ⟨fun pins s σ H R I h => ?_⟩
  refine Call_ (ld_blt I hg hm boot_enumerate (PyProof.Rows.callWith_type1 (thn (ha.run pos pins s σ H _ I h) fun us s1 ⟨vs, H1, I1, r1, q1⟩ => ?_) hs rfl))
  obtain ⟨a, xs, ex, q⟩ := q1
  subst ex
  cases r1 with
  | cons r rr =>
    cases rr
    cases r
    have fresh2 : ∀ b ∈ [s1.heap.objs.size + 1, s1.heap.objs.size], FpOk X pins H1 b := fun b hb => by
      have e' : b = s1.heap.objs.size + 1 ∨ b = s1.heap.objs.size := by simpa using hb
      have hle : s1.heap.objs.size ≤ b := by
        rcases e' with z | z
        · rw [z]; exact Nat.le_add_right _ _
        · rw [z]; exact Nat.le_refl _
      exact I1.fpOk hle (I1.hok.fresh hle)
    rcases q with ⟨hq, q⟩ | ⟨hq, q⟩
    · obtain ⟨its, rv, p', hz⟩ := I1.list hq
      refine call_enumerate_list p'.isList fun h' he hit hsz hk => wpAny_pyIter_enum he ?_
      have I2 : Inv X pins σ H1 { s1 with heap := h' } := I1.kept (t' := s1.toks) hk
      exact ⟨s1.heap.objs.size + 1, [s1.heap.objs.size + 1, s1.heap.objs.size], _, _, H1, rfl, I2, turn_enum a (s1.heap.objs.size + 1) s1.heap.objs.size, ⟨⟨.none, he⟩, hit, Nat.succ_ne_self _⟩, fresh2, q⟩
    · obtain ⟨its, rv, p', hz⟩ := I1.tuple hq
      have hal : a < s1.heap.objs.size := p'.lt
      refine call_enumerate_tuple (show s1.heap.IsTuple a its.toArray from p') fun h' he hit hsz hk => wpAny_pyIter_enum he ?_
      have I2 : Inv X pins σ H1 { s1 with heap := h' } := I1.kept (t' := s1.toks) hk
      exact ⟨s1.heap.objs.size + 1, [s1.heap.objs.size + 1, s1.heap.objs.size], _, _, H1, rfl, I2, turn_enumT a (s1.heap.objs.size + 1) s1.heap.objs.size (Nat.ne_of_lt hal) (Nat.ne_of_lt (Nat.lt_succ_of_lt hal)), ⟨⟨.none, he⟩, hit, Nat.succ_ne_self _⟩, fresh2, q⟩
section
variable {X : Cx} {K : PySem.W.Frag} {a b c e o : Expr} {es : List Expr} {fa fb fc fe fo : E} {fs : List E} {pos p p2 tpos : Pos} {elts : List Expr} {kk : Nat}
theorem rep_pair {B H : Hp} {β : List Addr} {μ : Store} {T : Addr} {x y : V} {d e : D} (rp : Rep K B H β μ) (hT : H T = none) (jx : Is B β x d) (jy : Is B β y e) :
    Ext B β H (upd B T (.tup [x, y])) β (upd H T (.tup [x, y])) ∧ Rep K (upd B T (.tup [x, y])) (upd H T (.tup [x, y])) β μ ∧ Is (upd B T (.tup [x, y])) β (.ref T) (.tup [d, e]) :=
  ⟨rp.newExt hT, rp.new hT, is_newT (Same.free rp.sub hT) (isL_cons jx (isL_one jy)) (by show 2 ≤ lim; decide)⟩
theorem enum_len (ds : List D) : (ds.mapIdx fun i d => D.tup [.int (i : Nat), d]).length = ds.length := by simp
theorem di_enum (hg : Gl X "enumerate") (hm : X.mg "enumerate" = none) (ha : DE X a fa) (he : starEach [a] X.env = (false, eval a X.env) :: starEach [] X.env := by rfl) (hs : starEach [a] X.env = [(false, eval a X.env)] := by rfl) :
    DI X (.Tuple elts kk tpos) (.Call (.Name "enumerate" p) [a] [] pos) (wEnum fa) := pi_weak (pi_enumA hg hm (pa_cons ha pa_nil he) hs) fun σ H Q h => by
  obtain ⟨B, β, μ, Γ, rp, en, rn⟩ := h
  refine tD_of rp en rn fun B β μ H1 v d rp en j rn => ?_
  obtain ⟨aa, vs, ds, rfl, hk, il, hl, rn⟩ := run_fix rp j rn
  have lv := isL_len il
  rcases hk with ⟨hB, _⟩ | ⟨hB, _⟩
  · refine ⟨aa, vs, rfl, .inl ⟨SqL.of (rp.sub _ _ hB), rn.here rp ⟨by rw [enum_len]; exact hl, fun B1 β1 μ1 H2 sm pr rp1 go => ?_⟩⟩⟩
    have hs2 : SqL X.K H2 aa vs := SqL.of (rp1.sub _ _ (sm _ _ hB))
    rw [enum_len]
    refine ⟨fun i hi => ⟨vs, vs[i]'(by omega), hs2, List.getElem?_eq_getElem _⟩, fun i hi => ⟨vs, hs2, by omega⟩, fun i v H' hi y => ?_⟩
    obtain ⟨T, x, rfl, hT, rfl, y⟩ := y
    have hx := y vs hs2
    obtain ⟨d, hd, jd⟩ := isL_getV (il.mono sm pr) hx
    obtain ⟨k1, k2, k3⟩ := rep_pair rp1 hT (is_int.mpr (rfl : V.int (i : Nat) = V.int (i : Nat))) jd
    exact ⟨_, _, k1, k2, by rw [List.getElem?_mapIdx, hd]; rfl, k3⟩
  · refine ⟨aa, vs, rfl, .inr ⟨SqT.of (rp.sub _ _ hB), rn.here rp ⟨by rw [enum_len]; exact hl, fun B1 β1 μ1 H2 sm pr rp1 go => ?_⟩⟩⟩
    have hs2 : SqT X.K H2 aa vs := SqT.of (rp1.sub _ _ (sm _ _ hB))
    rw [enum_len]
    refine ⟨fun i hi => ⟨vs, vs[i]'(by omega), hs2, List.getElem?_eq_getElem _⟩, fun i hi => ⟨vs, hs2, by omega⟩, fun i v H' hi y => ?_⟩
    obtain ⟨T, x, rfl, hT, rfl, y⟩ := y
    have hx := y vs hs2
    obtain ⟨d, hd, jd⟩ := isL_getV (il.mono sm pr) hx
    obtain ⟨k1, k2, k3⟩ := rep_pair rp1 hT (is_int.mpr (rfl : V.int (i : Nat) = V.int (i : Nat))) jd
    exact ⟨_, _, k1, k2, by rw [List.getElem?_mapIdx, hd]; rfl, k3⟩
theorem zip_get {ds es : List D} {i : Nat} {d e : D} (h1 : ds[i]? = some d) (h2 : es[i]? = some e) : ((ds.zip es).map fun p => D.tup [p.1, p.2])[i]? = some (.tup [d, e]) := by
  rw [List.getElem?_map, show (ds.zip es)[i]? = some (d, e) from List.getElem?_zip_eq_some.mpr ⟨h1, h2⟩]
  rfl
theorem zip_len (ds es : List D) : ((ds.zip es).map fun p => D.tup [p.1, p.2]).length = min ds.length es.length := by rw [List.length_map, List.length_zip]
theorem itz_is {B : Hp} {β : List Addr} {a b : Addr} {vs us : List V} {ds es : List D} (hl : ds.length ≤ lim) (h1 : B a = some (.lst vs)) (h2 : B b = some (.lst us)) (i1 : IsL B β vs ds) (i2 : IsL B β us es) : ItIs K B β (Itz K a b) ((ds.zip es).map fun p => D.tup [p.1, p.2]) .no := by
  refine ⟨by rw [zip_len]; exact Nat.le_trans (Nat.min_le_left _ _) hl, fun B1 β1 μ1 H1 sm pr rp go => ?_⟩
  have hs1 : SqL K H1 a vs := SqL.of (rp.sub _ _ (sm _ _ h1))
  have hs2 : SqL K H1 b us := SqL.of (rp.sub _ _ (sm _ _ h2))
  have l1 := isL_len i1
  have l2 := isL_len i2
  rw [zip_len]
  refine ⟨fun i hi => ⟨vs, us, vs[i]'(by omega), us[i]'(by omega), hs1, hs2, List.getElem?_eq_getElem _, List.getElem?_eq_getElem _⟩, fun i hi => ⟨vs, us, hs1, hs2, by omega⟩, fun i v H' hi y => ?_⟩
  obtain ⟨T, x, y, rfl, hT, rfl, y1, y2⟩ := y
  obtain ⟨d, hd, jd⟩ := isL_getV (i1.mono sm pr) (y1 vs hs1)
  obtain ⟨e, he, je⟩ := isL_getV (i2.mono sm pr) (y2 us hs2)
  obtain ⟨k1, k2, k3⟩ := rep_pair rp hT jd je
  exact ⟨_, _, k1, k2, zip_get hd he, k3⟩
theorem itzT_is {B : Hp} {β : List Addr} {a b : Addr} {vs us : List V} {ds es : List D} (hl : ds.length ≤ lim) (h1 : B a = some (.tup vs)) (h2 : B b = some (.tup us)) (i1 : IsL B β vs ds) (i2 : IsL B β us es) : ItIs K B β (RZ.ItzT K a b) ((ds.zip es).map fun p => D.tup [p.1, p.2]) .no := by
  refine ⟨by rw [zip_len]; exact Nat.le_trans (Nat.min_le_left _ _) hl, fun B1 β1 μ1 H1 sm pr rp go => ?_⟩
  have hs1 : SqT K H1 a vs := SqT.of (rp.sub _ _ (sm _ _ h1))
  have hs2 : SqT K H1 b us := SqT.of (rp.sub _ _ (sm _ _ h2))
  have l1 := isL_len i1
  have l2 := isL_len i2
  rw [zip_len]
  refine ⟨fun i hi => ⟨vs, us, vs[i]'(by omega), us[i]'(by omega), hs1, hs2, List.getElem?_eq_getElem _, List.getElem?_eq_getElem _⟩, fun i hi => ⟨vs, us, hs1, hs2, by omega⟩, fun i v H' hi y => ?_⟩
  obtain ⟨T, x, y, rfl, hT, rfl, y1, y2⟩ := y
  obtain ⟨d, hd, jd⟩ := isL_getV (i1.mono sm pr) (y1 vs hs1)
  obtain ⟨e, he, je⟩ := isL_getV (i2.mono sm pr) (y2 us hs2)
  obtain ⟨k1, k2, k3⟩ := rep_pair rp hT jd je
  exact ⟨_, _, k1, k2, zip_get hd he, k3⟩
theorem di_zip (hg : Gl X "zip") (hm : X.mg "zip" = none) (ha : DE X a fa) (hb : DE X b fb) (he : starEach [a, b] X.env = (false, eval a X.env) :: starEach [b] X.env := by rfl) (he2 : starEach [b] X.env = (false, eval b X.env) :: starEach [] X.env := by rfl) (hpl : (backTo pos (starEach [b] X.env)).any (·.1) = false := by rfl) :
    DI X (.Tuple elts kk tpos) (.Call (.Name "zip" p) [a, b] [] pos) (wZip fa fb) := pi_weak (RZ.pi_zipA hg hm (pa_cons ha (pa_cons hb pa_nil he2) he) he hpl) fun σ H Q h => by
  obtain ⟨B0, β0, μ0, Γ, rp0, en0, rn0⟩ := h
  refine tD_of rp0 en0 rn0 fun B β μ H1 v d rp en j0 rn => ⟨B, β, μ, Γ, rp, en, rn.bind fun B1 β1 μ1 H2 u e x rp1 j1 rn1 => ?_⟩
  have j := j0.ext x
  cases d with
  | tup ds =>
    cases e with
    | tup es =>
      obtain ⟨a1, vs, rfl, h1, h2, h3, h3', h4⟩ := is_tup' rp1 j
      obtain ⟨b1, us, rfl, k1, k2, k3, k3', k4⟩ := is_tup' rp1 j1
      exact ⟨a1, b1, vs, us, rfl, .inr ⟨SqT.of h1, SqT.of k1, Run.here (a := ((ds.zip es).map fun p => D.tup [p.1, p.2], Gd.no)) rn1 rp1 (itzT_is (by rw [← h3']; exact h3) h2 k2 h4 k4)⟩⟩
    | _ => exact rn1.fail.elim
  | lst ds =>
    cases e with
    | lst es =>
      obtain ⟨a1, vs, rfl, h1, h2, h3, h3', h4⟩ := is_lst' rp1 j
      obtain ⟨b1, us, rfl, k1, k2, k3, k3', k4⟩ := is_lst' rp1 j1
      exact ⟨a1, b1, vs, us, rfl, .inl ⟨SqL.of h1, SqL.of k1, Run.here (a := ((ds.zip es).map fun p => D.tup [p.1, p.2], Gd.no)) rn1 rp1 (itz_is (by rw [← h3']; exact h3) h2 k2 h4 k4)⟩⟩
    | _ => exact rn1.fail.elim
  | _ => cases e <;> exact rn1.fail.elim
end
end DL
/-! DStm: comprehensions, statements, loops, defs -/
namespace DL
open PySem PySem.Spec PyProof.Rows L2
section
variable {K : PySem.W.Frag} {B B' H H' : Hp} {β β' : List Addr} {μ : Store}
/-- something that the state does not know is changed -/
theorem Rep.poke (r : Rep K B H β μ) {p : Addr} {u : HO} (hb : B p = none) (hp : p ∉ β) : Rep K B (upd H p u) β μ :=
  ⟨r.len, r.nd, fun b x q => by
    have : b ≠ p := fun z => by rw [z, hb] at q; cases q
    rw [upd_ne this]
    exact r.sub b x q, fun n c k e1 e2 => by
    have hca : c ≠ p := fun z => hp (z ▸ List.mem_of_getElem? e1)
    have h := r.obj n c k e1 e2
    have at' : ∀ x, H c = some x → (upd H p u) c = some x := fun x q => by rw [upd_ne hca]; exact q
    cases k with
    | dead => obtain ⟨x, h⟩ := h; exact ⟨x, at' _ h⟩
    | scr ns =>
      obtain ⟨h1, ⟨x, h2, nt⟩, h3, h4⟩ := h
      refine ⟨h1, ⟨x, at' _ h2, nt⟩, h3, ?_⟩
      rcases h4 with (h4 | ⟨o4, h4⟩) | h4
      · exact .inl (.inl (at' _ h4))
      · exact .inl (.inr ⟨o4, at' _ h4⟩)
      · exact .inr h4
    | lst ds => obtain ⟨h1, h2, vs, h3, h4⟩ := h; exact ⟨h1, h2, vs, at' _ h3, h4⟩
    | dic lk kvs =>
      cases lk with
      | true =>
        obtain ⟨h1, kvs', od, h3, h5, h6⟩ := h
        exact ⟨h1, kvs', od, h3, h5, at' _ h6⟩
      | false =>
        obtain ⟨h1, h2, kvs', h3, h5⟩ := h
        exact ⟨h1, h2, kvs', h3, at' _ h5⟩
    | dco ks => exact ⟨h.1, at' _ h.2⟩⟩
theorem Ext.poke (x : Ext B β H B' β' H') {p : Addr} {u : HO} (hp : H p = none) : Ext B β H B' β' (upd H' p u) := ⟨x.same, x.pre, fun b o h nt n => by
  have hb : b ≠ p := ne_of_none h hp
  obtain ⟨h1, h2, h3⟩ := x.fr b o h nt n
  exact ⟨by rw [upd_ne hb]; exact h1, h2, h3⟩⟩
/-- something that stands outside is taken in, never to be changed -/
theorem Rep.adopt (r : Rep K B H β μ) {p : Addr} {u : HO} (hu : H p = some u) (hb : B p = none) (hp : p ∉ β) : Rep K (upd B p u) H β μ :=
  ⟨r.len, r.nd, fun b x q => by
    by_cases hbp : b = p
    · subst hbp; rw [upd_same] at q; cases q; exact hu
    · rw [upd_ne hbp] at q; exact r.sub b x q, fun n c k e1 e2 => by
    have hca : c ≠ p := fun z => hp (z ▸ List.mem_of_getElem? e1)
    exact (r.obj n c k e1 e2).mono (DL.same_upd hb) (List.prefix_refl _) (fun q => by rw [upd_ne hca]; exact q) (Same.refl _)⟩
theorem Ext.adopt (x : Ext B β H B' β' H') {p : Addr} {u : HO} (hp : H p = none) (hb : B' p = none) : Ext B β H (upd B' p u) β' H' := ⟨x.same.trans (DL.same_upd hb), x.pre, fun b o h nt n => by
  have hbp : b ≠ p := ne_of_none h hp
  obtain ⟨h1, h2, h3⟩ := x.fr b o h nt n
  exact ⟨h1, by rw [upd_ne hbp]; exact h2, h3⟩⟩
end
theorem wipe_idem (σ : L2.St) (js : List Nat) : L2.wipe (L2.wipe σ js) js = L2.wipe σ js := by
  apply List.ext_getElem?
  intro k
  rw [wipe_get, wipe_get, L2.wipe_length]
  by_cases hk : k ∈ js
  · rw [if_pos hk, if_pos hk]
  · rw [if_neg hk, if_neg hk]
def tTs (K : PySem.W.Frag) (c : Option T) : TT := match c with
  | none => tYes
  | some t => tT K t
theorem gok_of {g : Gd} {its : List D} {μ μ1 : Store} {u : Unit} (h : gOk g its μ = some (u, μ1)) : μ1 = μ ∧ GOk g its μ := by
  have : μ1 = μ := by
    cases g with
    | no => cases h; rfl
    | l n =>
      unfold gOk at h
      obtain ⟨o, μ2, e1, e2⟩ := bind_some h
      unfold getH at e1
      cases ho : μ[n]? with
      | none => rw [ho] at e1; cases e1
      | some o' =>
        rw [ho] at e1; cases e1
        cases o with
        | lst ds =>
          dsimp only at e2
          split at e2
          · cases e2; rfl
          · cases e2
        | scr ns =>
          dsimp only at e2
          split at e2
          · cases e2; rfl
          · cases e2
        | _ => cases e2
    | k n =>
      unfold gOk at h
      obtain ⟨o, μ2, e1, e2⟩ := bind_some h
      unfold getH at e1
      cases ho : μ[n]? with
      | none => rw [ho] at e1; cases e1
      | some o' =>
        rw [ho] at e1; cases e1
        cases o with
        | dic lk kvs =>
          cases lk with
          | false => cases e2
          | true =>
            dsimp only at e2
            split at e2
            · cases e2; rfl
            · cases e2
        | _ => cases e2
  subst this
  exact ⟨rfl, h⟩
section
variable {X : Cx} {K : PySem.W.Frag} {a b c e o elt iter tgE : Expr} {es ifs : List Expr} {fa fb fc fe fo : E} {fs : List E} {pos p p2 tpos : Pos}
theorem t_comp {vs : List Nat} {w : W} {tg : Tg} {c : Option T} (hsl : ∀ i ∈ tg.slots, i ∈ vs) {σ : L2.St} {H : Hp} {Q : VK} (h : tD K (eComp vs w tg c fe) σ H Q) : tLc (tI K w) (tG tg) (tTs K c) (tD K fe) vs σ H Q := by
  obtain ⟨B, β, μ, Γ, rp, en, rn⟩ := h
  refine ⟨B, β, μ, Γ, rp, en, rn.bind fun B1 β1 μ1 H1 J pr x rp1 jI rn1 => fun L hL => ?_⟩
  obtain ⟨its, g⟩ := pr
  have jI : ItIs K B1 β1 J its g := jI
  obtain ⟨d, μ2, e0, q⟩ := rn1
  obtain ⟨zs, μz, e1, e2⟩ := bind_some e0
  cases e2
  have en1 := en.ext x
  let Wp : Nat → Hp → Prop := fun i H' => ∃ B' β' μ' us ys, Ext B1 β1 H1 B' β' H' ∧ Rep K B' H' β' μ' ∧ H' L = some (.lst us) ∧ L ∉ β' ∧ B' L = none ∧ IsL B' β' us ys ∧ ys.length ≤ i ∧ ∃ rest, compL g its (oneC vs tg c fe Γ) (its.drop i) μ' = some (rest, μ2) ∧ ys ++ rest = zs
  refine ⟨fun i m H' => m = its.length - i ∧ i ≤ its.length ∧ Wp i H', ⟨its.length, rfl, Nat.zero_le _, B1, β1, μ1, [], [], Ext.refl.poke hL, rp1.junk hL, upd_same, rp1.notin hL, Same.free rp1.sub hL, isL_nil, Nat.le_refl _, zs, e1, rfl⟩, ?_⟩
  rintro i m H2 ⟨rfl, hi, B2, β2, μ3, us, ys, x2, rp2, hL2, nD, bD, il, ly, rest, er, ez⟩
  have same2 : Same B1 B2 := x2.same
  by_cases hlt : i < its.length
  · have ed : its.drop i = its[i] :: its.drop (i + 1) := List.drop_eq_getElem_cons hlt
    rw [ed] at er
    obtain ⟨u0, μ4, g1, er1⟩ := bind_some er
    clear er
    obtain ⟨e4, go⟩ := gok_of g1
    subst e4
    obtain ⟨yo, μ5, f1, er2⟩ := bind_some er1
    obtain ⟨rest', μ6, r1, er3⟩ := bind_some er2
    clear er1 er2
    cases er3
    obtain ⟨hgo, _, hyld⟩ := jI.run B2 β2 μ4 H2 same2 x2.pre rp2 go
    refine .inr ⟨hgo i hlt, Wp (i + 1), fun H' w' => ⟨its.length - (i + 1), by omega, rfl, hlt, w'⟩, fun v H3 y => ?_⟩
    obtain ⟨B3, d, x3, rp3, hd, jv⟩ := hyld i v H3 hlt y
    have ed2 : d = its[i] := by rw [List.getElem?_eq_getElem hlt] at hd; exact (Option.some.inj hd).symm
    subst ed2
    have hLx : H3 L = some (.lst us) ∧ B3 L = B2 L ∧ L ∉ β2 := x3.fr L _ hL2 nt_lst nD
    unfold oneC at f1
    obtain ⟨Γ', μ7, p1, f2⟩ := bind_some f1
    clear f1
    have f1 := f2
    clear f2
    cases hput : tg.put its[i] (wipe Γ vs) with
    | none => rw [hput] at p1; cases p1
    | some Γ2 =>
      rw [hput] at p1
      cases p1
      have enw : EnvOk B3 β2 (L2.wipe σ vs) (wipe Γ vs) := ((en1.ext x2).ext x3).wiped vs
      refine ⟨B3, β2, wipe Γ vs, its[i], Γ', jv, enw, rp3.sub, hput, fun σ2 en2 kept => ⟨(kept vs hsl).trans (wipe_idem σ vs), ?_⟩⟩
      -- the element, then the new item
      have elem : ∀ (B4 : Hp) (β4 : List Addr) (μ8 : Store) (H4 : Hp) (yv : D), Ext B3 β2 H3 B4 β4 H4 → Rep K B4 H4 β4 μ8 → EnvOk B4 β4 σ2 Γ' → fe Γ' μ8 = some (yv, μ5) → yo = some yv →
          tD K fe σ2 H4 fun y H5 => ∃ acc, H5 L = some (.lst acc) ∧ acc.length < sizeLine ∧ Wp (i + 1) (upd H5 L (.lst (acc ++ [y]))) := fun B4 β4 μ8 H4 yv x4 rp4 en4 ev eyo => by
        refine ⟨B4, β4, μ8, Γ', rp4, en4, yv, μ5, ev, fun B5 β5 H5 y x5 rp5 jy => ?_⟩
        obtain ⟨w1, w2, w3⟩ := (x4.trans x5).fr L _ hLx.1 nt_lst hLx.2.2
        have bD5 : B5 L = none := by rw [w2, hLx.2.1]; exact bD
        have x05 := (x2.trans (x3.trans (x4.trans x5)))
        have il5 : IsL B5 β5 us ys := il.ext (x3.trans (x4.trans x5))
        subst eyo
        refine ⟨us, w1, ?_, B5, β5, μ5, us ++ [y], ys ++ [yv], x05.poke hL, rp5.poke bD5 w3, upd_same, w3, bD5, isL_append il5 (isL_one jy), by rw [List.length_append]; exact Nat.succ_le_succ ly, rest', r1, by rw [← ez, List.append_assoc]; rfl⟩
        rw [isL_len il]
        have := jI.len
        exact lim_lt (by omega)
      cases c with
      | none =>
        obtain ⟨yv, μ8, ev, f2⟩ := bind_some f1
        clear f1
        cases f2
        exact elem B3 β2 _ H3 yv Ext.refl rp3 en2 ev rfl
      | some t =>
        obtain ⟨bv, μ8, tv, f2⟩ := bind_some f1
        clear f1
        have f1 := f2
        clear f2
        refine ⟨B3, β2, _, Γ', rp3, en2, bv, μ8, tv, fun B4 β4 H4 bb x4 rp4 jb => ?_⟩
        have jb : bb = bv := jb
        subst jb
        cases bb with
        | true =>
          dsimp only
          rw [if_pos rfl] at f1 ⊢
          obtain ⟨yv, μ9, ev, f2⟩ := bind_some f1
          clear f1
          cases f2
          exact elem B4 β4 _ H4 yv x4 rp4 (en2.ext x4) ev rfl
        | false =>
          dsimp only
          rw [if_neg Bool.false_ne_true] at f1 ⊢
          cases f1
          obtain ⟨k1, k2, k3⟩ := x4.fr L _ hLx.1 nt_lst hLx.2.2
          exact ⟨B4, β4, _, us, ys, x2.trans (x3.trans x4), rp4, k1, k3, by rw [k2, hLx.2.1]; exact bD, il.ext (x3.trans x4), Nat.le_succ_of_le ly, rest', r1, ez⟩
  · have ei : i = its.length := by omega
    subst ei
    rw [List.drop_length] at er
    obtain ⟨u0, μ4, g1, er1⟩ := bind_some er
    clear er
    obtain ⟨e4, go⟩ := gok_of g1
    subst e4
    cases er1
    obtain ⟨_, hst, _⟩ := jI.run B2 β2 _ H2 same2 x2.pre rp2 go
    refine .inl ⟨hst _ (Nat.le_refl _), ?_⟩
    rw [List.append_nil] at ez
    subst ez
    exact q (upd B2 L (.lst us)) β2 H2 (.ref L) (x2.adopt hL bD) (rp2.adopt hL2 bD nD) (is_newL bD il (Nat.le_trans ly jI.len))
theorem de_comp {scope : Scope} {own : List (Str × Nat)} {w : W} {tg : Tg} {c : Option T} (hc : X.calm = true) (hN : X.N.Nodup) (hi : DI X tgE iter w) (ok : BlkOk X.N X.env.scope scope own)
    (hg : ∀ (s : Shared) (H : Hp) (C : Addr) (cl : List (Str × Addr)) (fp : List Addr), DG (X.blk s H scope (compEnvC scope cl C X.env) fp) tgE tg) (ht : ∀ (s : Shared) (H : Hp) (C : Addr) (cl : List (Str × Addr)) (fp : List Addr), PTs (X.blk s H scope (compEnvC scope cl C X.env) fp) ifs (tTs X.K c))
    (he : ∀ (s : Shared) (H : Hp) (C : Addr) (cl : List (Str × Addr)) (fp : List Addr), DE (X.blk s H scope (compEnvC scope cl C X.env) fp) elt fe) (hsl : ∀ i ∈ tg.slots, i ∈ own.map (·.2)) (hs : ∀ x, foldedSetIterable iter X.env x = pure x := by intro _; rfl) :
    DE X (.ListComp elt [⟨tgE, iter, ifs, 0⟩] scope pos) (eComp (own.map (·.2)) w tg c fe) := pe_weak (pe_lc hc hN hi ok hg ht he hs) fun σ H Q h => t_comp hsl h
theorem t_comp2 {vs vs1 : List Nat} {w w2 : W} {tg tg2 : Tg} (hsl : ∀ i ∈ tg.slots, i ∈ vs) (hsl2 : ∀ i ∈ tg2.slots, i ∈ vs1) {σ : L2.St} {H : Hp} {Q : VK} (h : tD K (eComp2 vs vs1 w tg w2 tg2 fe) σ H Q) :
    tLc2 (tI K w) (tG tg) tYes (tI K w2) (tG tg2) tYes (tD K fe) vs vs1 σ H Q := by
  obtain ⟨B, β, μ, Γ, rp, en, rn⟩ := h
  refine ⟨B, β, μ, Γ, rp, en, rn.bind fun B1 β1 μ1 H1 J pr x rp1 jI rn1 => fun L hL => ?_⟩
  obtain ⟨its, g⟩ := pr
  have jI : ItIs K B1 β1 J its g := jI
  obtain ⟨d, μ2, e0, q⟩ := rn1
  obtain ⟨zs, μz, e1, e2⟩ := bind_some e0
  have hz : zs.length ≤ lim := by
    by_cases hz : zs.length ≤ lim
    · exact hz
    · rw [if_neg hz] at e2; cases e2
  rw [if_pos hz] at e2
  cases e2
  have en1 := en.ext x
  let Wp : Nat → Hp → Prop := fun i H' => ∃ B' β' μ' us ys, Ext B1 β1 H1 B' β' H' ∧ Rep K B' H' β' μ' ∧ H' L = some (.lst us) ∧ L ∉ β' ∧ B' L = none ∧ IsL B' β' us ys ∧ ∃ rest, compX g its (rowC vs vs1 tg w2 tg2 fe Γ) (its.drop i) μ' = some (rest, μ2) ∧ ys ++ rest = zs
  refine ⟨fun i m H' => m = its.length - i ∧ i ≤ its.length ∧ Wp i H', ⟨its.length, rfl, Nat.zero_le _, B1, β1, μ1, [], [], Ext.refl.poke hL, rp1.junk hL, upd_same, rp1.notin hL, Same.free rp1.sub hL, isL_nil, zs, e1, rfl⟩, ?_⟩
  rintro i m H2 ⟨rfl, hi, B2, β2, μ3, us, ys, x2, rp2, hL2, nD, bD, il, rest, er, ez⟩
  by_cases hlt : i < its.length
  · have ed : its.drop i = its[i] :: its.drop (i + 1) := List.drop_eq_getElem_cons hlt
    rw [ed] at er
    obtain ⟨u0, μ4, g1, er1⟩ := bind_some er
    clear er
    obtain ⟨e4, go⟩ := gok_of g1
    subst e4
    obtain ⟨yr, μr, f1, er2⟩ := bind_some er1
    obtain ⟨rest', μ6, r1, er3⟩ := bind_some er2
    clear er1 er2
    cases er3
    obtain ⟨hgo, _, hyld⟩ := jI.run B2 β2 μ4 H2 x2.same x2.pre rp2 go
    refine .inr ⟨hgo i hlt, Wp (i + 1), fun H' w' => ⟨its.length - (i + 1), by omega, rfl, hlt, w'⟩, fun v H3 y => ?_⟩
    obtain ⟨B3, d, x3, rp3, hd, jv⟩ := hyld i v H3 hlt y
    have ed2 : d = its[i] := by rw [List.getElem?_eq_getElem hlt] at hd; exact (Option.some.inj hd).symm
    subst ed2
    have hLx : H3 L = some (.lst us) ∧ B3 L = B2 L ∧ L ∉ β2 := x3.fr L _ hL2 nt_lst nD
    unfold rowC at f1
    obtain ⟨Γ', μ7, p1, f2⟩ := bind_some f1
    clear f1
    cases hput : tg.put its[i] (wipe Γ vs) with
    | none => rw [hput] at p1; cases p1
    | some Γ2 =>
      rw [hput] at p1
      cases p1
      have enw : EnvOk B3 β2 (L2.wipe σ vs) (wipe Γ vs) := ((en1.ext x2).ext x3).wiped vs
      refine ⟨B3, β2, wipe Γ vs, its[i], Γ', jv, enw, rp3.sub, hput, fun σ2 en2 kept => ⟨(kept vs hsl).trans (wipe_idem σ vs), ?_⟩⟩
      simp only [tYes, ↓reduceIte]
      obtain ⟨q2, μ8, wv, cv⟩ := bind_some f2
      obtain ⟨its2, g2⟩ := q2
      refine ⟨B3, β2, _, Γ', rp3, en2, (its2, g2), μ8, wv, fun B4 β4 H4 J1 x4 rp4 jI4 => ?_⟩
      have jI4 : ItIs K B4 β4 J1 its2 g2 := jI4
      have hL4 : H4 L = some (.lst us) ∧ B4 L = B3 L ∧ L ∉ β4 := x4.fr L _ hLx.1 nt_lst hLx.2.2
      let Wq : Nat → Hp → Prop := fun j H' => ∃ B' β' μ' us ys, Ext B1 β1 H1 B' β' H' ∧ (Same B4 B' ∧ β4 <+: β') ∧ Rep K B' H' β' μ' ∧ H' L = some (.lst us) ∧ L ∉ β' ∧ B' L = none ∧ IsL B' β' us ys ∧ ∃ rest1, compL g2 its2 (oneC vs1 tg2 none fe Γ') (its2.drop j) μ' = some (rest1, μr) ∧ ys ++ (rest1 ++ rest') = zs
      refine ⟨fun j k H' => k = its2.length - j ∧ j ≤ its2.length ∧ Wq j H', ⟨its2.length, rfl, Nat.zero_le _, B4, β4, μ8, us, ys, x2.trans (x3.trans x4), ⟨Same.refl _, List.prefix_refl _⟩, rp4, hL4.1, hL4.2.2, by rw [hL4.2.1, hLx.2.1]; exact bD, il.ext (x3.trans x4), yr, cv, ez⟩, ?_⟩
      rintro j k H5 ⟨rfl, hj, B5, β5, μ9, us5, ys5, x5, ⟨sm5, pr5⟩, rp5, hL5, nD5, bD5, il5, rest1, er5, ez5⟩
      by_cases hlt2 : j < its2.length
      · have ed3 : its2.drop j = its2[j] :: its2.drop (j + 1) := List.drop_eq_getElem_cons hlt2
        rw [ed3] at er5
        obtain ⟨u1, μ10, g3, er6⟩ := bind_some er5
        clear er5
        obtain ⟨e6, go2⟩ := gok_of g3
        subst e6
        obtain ⟨yo, μ11, f3, er7⟩ := bind_some er6
        obtain ⟨rest2, μ12, r2, er8⟩ := bind_some er7
        clear er6 er7
        cases er8
        obtain ⟨hgo2, _, hyld2⟩ := jI4.run B5 β5 μ10 H5 sm5 pr5 rp5 go2
        refine .inr ⟨hgo2 j hlt2, Wq (j + 1), fun H' w' => ⟨its2.length - (j + 1), by omega, rfl, hlt2, w'⟩, fun v2 H6 y2 => ?_⟩
        obtain ⟨B6, d2, x6, rp6, hd2, jv2⟩ := hyld2 j v2 H6 hlt2 y2
        have ed4 : d2 = its2[j] := by rw [List.getElem?_eq_getElem hlt2] at hd2; exact (Option.some.inj hd2).symm
        subst ed4
        have hL6 : H6 L = some (.lst us5) ∧ B6 L = B5 L ∧ L ∉ β5 := x6.fr L _ hL5 nt_lst nD5
        unfold oneC at f3
        obtain ⟨Γ3, μ13, p3, f4⟩ := bind_some f3
        clear f3
        cases hput2 : tg2.put its2[j] (wipe Γ' vs1) with
        | none => rw [hput2] at p3; cases p3
        | some Γ4 =>
          rw [hput2] at p3
          cases p3
          have en6 : EnvOk B6 β5 σ2 Γ' := ⟨en2.len, fun i' d' h' => by
            obtain ⟨v', h1, h2⟩ := en2.get i' d' h'
            exact ⟨v', h1, Is.mono (x4.same.trans (sm5.trans x6.same)) (x4.pre.trans pr5) h2⟩⟩
          refine ⟨B6, β5, wipe Γ' vs1, its2[j], Γ3, jv2, en6.wiped vs1, rp6.sub, hput2, fun σ3 en3 kept2 => ⟨(kept2 vs1 hsl2).trans (wipe_idem σ2 vs1), ?_⟩⟩
          obtain ⟨yv, μ14, ev, f5⟩ := bind_some f4
          cases f5
          refine ⟨B6, β5, _, Γ3, rp6, en3, yv, _, ev, fun B7 β7 H7 y x7 rp7 jy => ?_⟩
          obtain ⟨w1, w2, w3⟩ := x7.fr L _ hL6.1 nt_lst hL6.2.2
          have bD7 : B7 L = none := by rw [w2, hL6.2.1]; exact bD5
          have il7 : IsL B7 β7 us5 ys5 := il5.ext (x6.trans x7)
          have ly : ys5.length < lim + 1 := by
            have := congrArg List.length ez5
            rw [List.length_append] at this
            omega
          refine ⟨us5, w1, by rw [isL_len il5]; exact lim_lt (by omega), B7, β7, _, us5 ++ [y], ys5 ++ [yv], (x5.trans (x6.trans x7)).poke hL, ⟨sm5.trans (x6.same.trans x7.same), pr5.trans x7.pre⟩, rp7.poke bD7 w3, upd_same, w3, bD7, isL_append il7 (isL_one jy), rest2, r2, ?_⟩
          rw [← ez5, List.append_assoc]
          rfl
      · have ej : j = its2.length := by omega
        subst ej
        rw [List.drop_length] at er5
        obtain ⟨u1, μ10, g3, er6⟩ := bind_some er5
        clear er5
        obtain ⟨e6, go2⟩ := gok_of g3
        subst e6
        cases er6
        obtain ⟨_, hst2, _⟩ := jI4.run B5 β5 _ H5 sm5 pr5 rp5 go2
        exact .inl ⟨hst2 _ (Nat.le_refl _), B5, β5, _, us5, ys5, x5, rp5, hL5, nD5, bD5, il5, rest', r1, ez5⟩
  · have ei : i = its.length := by omega
    subst ei
    rw [List.drop_length] at er
    obtain ⟨u0, μ4, g1, er1⟩ := bind_some er
    clear er
    obtain ⟨e4, go⟩ := gok_of g1
    subst e4
    cases er1
    obtain ⟨_, hst, _⟩ := jI.run B2 β2 _ H2 x2.same x2.pre rp2 go
    refine .inl ⟨hst _ (Nat.le_refl _), ?_⟩
    rw [List.append_nil] at ez
    subst ez
    exact q (upd B2 L (.lst us)) β2 H2 (.ref L) (x2.adopt hL bD) (rp2.adopt hL2 bD nD) (is_newL bD il hz)
theorem de_comp2 {iter1 tgE1 : Expr} {scope : Scope} {own : List (Str × Nat)} {vs1 : List Nat} {w w2 : W} {tg tg2 : Tg} (hc : X.calm = true) (hN : X.N.Nodup) (hi : DI X tgE iter w) (ok : BlkOk X.N X.env.scope scope own) (hv : ∀ i ∈ vs1, i ∈ own.map (·.2))
    (hg : ∀ (s : Shared) (H : Hp) (C : Addr) (cl : List (Str × Addr)) (fp : List Addr), DG (X.blk s H scope (compEnvC scope cl C X.env) fp) tgE tg)
    (hi1 : ∀ (s : Shared) (H : Hp) (C : Addr) (cl : List (Str × Addr)) (fp : List Addr), DI (X.blk s H scope (compEnvC scope cl C X.env) fp) tgE1 iter1 w2)
    (hg1 : ∀ (s : Shared) (H : Hp) (C : Addr) (cl : List (Str × Addr)) (fp : List Addr), DG (X.blk s H scope (compEnvC scope cl C X.env) fp) tgE1 tg2)
    (he : ∀ (s : Shared) (H : Hp) (C : Addr) (cl : List (Str × Addr)) (fp : List Addr), DE (X.blk s H scope (compEnvC scope cl C X.env) fp) elt fe) (hsl : ∀ i ∈ tg.slots, i ∈ own.map (·.2)) (hsl2 : ∀ i ∈ tg2.slots, i ∈ vs1) (hs : ∀ x, foldedSetIterable iter X.env x = pure x := by intro _; rfl) (hs1 : ∀ env x, foldedSetIterable iter1 env x = pure x := by intro _ _; rfl) :
    DE X (.ListComp elt [⟨tgE, iter, [], 0⟩, ⟨tgE1, iter1, [], 0⟩] scope pos) (eComp2 (own.map (·.2)) vs1 w tg w2 tg2 fe) :=
  pe_weak (pe_lc2 hc hN hi ok hv hg (fun _ _ _ _ _ => pts_nil) hi1 hg1 (fun _ _ _ _ _ => pts_nil) he hs hs1) fun σ H Q h => t_comp2 hsl hsl2 h
end
end DL
/-! DFn: statements, loops, defs and their calls -/
namespace DL
open PySem PySem.Spec PyProof.Rows L2
inductive FV where
  | next | brk | cont | ret (v : V)
def FlIs (B : Hp) (β : List Addr) : FV → Flow → Prop
  | .next, .next => True
  | .brk, .brk => True
  | .cont, .cont => True
  | .ret v, .ret d => Is B β v d
  | _, _ => False
def JS (B : Hp) (β : List Addr) (c : L2.St × FV) (r : Env × Flow) : Prop := EnvOk B β c.1 r.1 ∧ FlIs B β c.2 r.2
def QS (D : Ends) (c : L2.St × FV) (H : Hp) : Prop := match c.2 with
  | .next => D.nx c.1 H
  | .brk => D.bk c.1 H
  | .cont => D.ct c.1 H
  | .ret v => D.rt v H
def tS (K : PySem.W.Frag) (f : S) : TS := fun Ed σ H => ∃ B β μ Γ, Rep K B H β μ ∧ EnvOk B β σ Γ ∧ Run JS K B H β μ (f Γ) (QS Ed)
abbrev DS (X : Cx) (st : Stmt) (f : S) : Prop := PS X st (tS X.K f)
abbrev DSs (X : Cx) (st : List Stmt) (f : S) : Prop := PSs X st (tS X.K f)
theorem ps_weak {X : Cx} {st : Stmt} {t t' : TS} (h : PS X st t) (w : ∀ Ed σ H, t' Ed σ H → t Ed σ H) : PS X st t' := ⟨fun pins s σ H D I q => h.run pins s σ H D I (w D σ H q)⟩
theorem pss_weak {X : Cx} {st : List Stmt} {t t' : TS} (h : PSs X st t) (w : ∀ Ed σ H, t' Ed σ H → t Ed σ H) : PSs X st t' := ⟨fun pins s σ H D I q => h.run pins s σ H D I (w D σ H q)⟩
section
variable {X : Cx} {K : PySem.W.Frag} {a b c e o elt iter tgE : Expr} {es ifs : List Expr} {fa fb fc fe fo : E} {fs : List E} {pos p p2 tpos : Pos} {st : Stmt} {sts body : List Stmt} {f g : S}
theorem dss_nil : DSs X [] sNop := pss_weak pss_nil fun Ed σ H h => by
  obtain ⟨B, β, μ, Γ, rp, en, rn⟩ := h
  exact Run.here (c := (σ, FV.next)) rn rp ⟨en, trivial⟩
theorem ds_pass : DS X (.Pass pos) sNop := ps_weak ps_pass fun Ed σ H h => by
  obtain ⟨B, β, μ, Γ, rp, en, rn⟩ := h
  exact Run.here (c := (σ, FV.next)) rn rp ⟨en, trivial⟩
theorem ds_brk : DS X (.Break pos) sBrk := ps_weak ps_break fun Ed σ H h => by
  obtain ⟨B, β, μ, Γ, rp, en, rn⟩ := h
  exact Run.here (c := (σ, FV.brk)) rn rp ⟨en, trivial⟩
theorem ds_cont : DS X (.Continue pos) sCont := ps_weak ps_continue fun Ed σ H h => by
  obtain ⟨B, β, μ, Γ, rp, en, rn⟩ := h
  exact Run.here (c := (σ, FV.cont)) rn rp ⟨en, trivial⟩
theorem t_seq {Ed : Ends} {σ : L2.St} {H : Hp} (h : tS K (sSeq f g) Ed σ H) : tS K f { Ed with nx := tS K g Ed } σ H := by
  obtain ⟨B, β, μ, Γ, rp, en, rn⟩ := h
  refine ⟨B, β, μ, Γ, rp, en, rn.bind fun B1 β1 μ1 H1 c r x rp1 j rn1 => ?_⟩
  obtain ⟨σ1, fv⟩ := c
  obtain ⟨Γ1, fl⟩ := r
  obtain ⟨j1, j2⟩ := j
  cases fl with
  | next =>
    cases fv with
    | next => exact ⟨B1, β1, μ1, Γ1, rp1, j1, rn1⟩
    | _ => exact j2.elim
  | brk =>
    cases fv with
    | brk => exact Run.here (c := (σ1, FV.brk)) rn1 rp1 ⟨j1, trivial⟩
    | _ => exact j2.elim
  | cont =>
    cases fv with
    | cont => exact Run.here (c := (σ1, FV.cont)) rn1 rp1 ⟨j1, trivial⟩
    | _ => exact j2.elim
  | ret d =>
    cases fv with
    | ret v => exact Run.here (c := (σ1, FV.ret v)) rn1 rp1 ⟨j1, j2⟩
    | _ => exact j2.elim
theorem dss_cons (h1 : DS X st f) (h2 : DSs X sts g) : DSs X (st :: sts) (sSeq f g) := pss_weak (pss_cons h1 h2) fun Ed σ H h => t_seq h
theorem dss_one (h1 : DS X st f) : DSs X [st] f := pss_one h1
theorem ds_ret (ha : DE X a fa) : DS X (.Return (some a) pos) (sRet fa) := ps_weak (ps_ret ha) fun Ed σ H h => by
  obtain ⟨B, β, μ, Γ, rp, en, rn⟩ := h
  refine tD_of rp en rn fun B1 β1 μ1 H1 v d rp1 en1 j rn1 => ?_
  exact Run.here (c := (σ, FV.ret v)) rn1 rp1 ⟨en1, j⟩
theorem ds_expr (ha : DE X a fa) (hs : swapsWith a none pos.line X.env = pure false := by rfl) : DS X (.Expr a pos) (sExpr fa) := ps_weak (ps_expr ha hs) fun Ed σ H h => by
  obtain ⟨B, β, μ, Γ, rp, en, rn⟩ := h
  refine tD_of rp en rn fun B1 β1 μ1 H1 v d rp1 en1 j rn1 => ?_
  exact Run.here (c := (σ, FV.next)) rn1 rp1 ⟨en1, trivial⟩
theorem t_asg {tg : Tg} {Ed : Ends} {σ : L2.St} {H : Hp} (h : tS K (sAsg tg fa) Ed σ H) : tAsg (tD K fa) (tG tg) Ed σ H := by
  obtain ⟨B, β, μ, Γ, rp, en, rn⟩ := h
  refine tD_of rp en rn fun B1 β1 μ1 H1 v d rp1 en1 j rn1 => ?_
  cases hp : tg.put d Γ with
  | none => rw [hp] at rn1; exact rn1.fail.elim
  | some Γ' =>
    rw [hp] at rn1
    have rn1 : Run JS K B1 H1 β1 μ1 (pure (Γ', Flow.next)) (QS Ed) := rn1
    exact ⟨B1, β1, Γ, d, Γ', j, en1, rp1.sub, hp, fun σ' en' _ => Run.here (c := (σ', FV.next)) rn1 rp1 ⟨en', trivial⟩⟩
theorem ds_asg {tg : Tg} (ha : DE X a fa) (hg : DG X tgE tg) (hs : swapsWithSole [tgE] a pos.line X.env = pure false := by rfl) (hw : swappedStores [tgE] a X.env = pure none := by rfl) (h1 : (assignEach [tgE] X.env).map (·.2) = [assign tgE X.env] := by rfl) :
    DS X (.Assign [tgE] a pos) (sAsg tg fa) := ps_weak (ps_asg ha hg hs hw h1) fun Ed σ H h => t_asg h
theorem t_name {i : Nat} {te : TE} (w : ∀ σ H Q, tD K fa σ H Q → te σ H Q) {Ed : Ends} {σ : L2.St} {H : Hp} (h : tS K (sAsg (.v i) fa) Ed σ H) : tAsg te (gName i) Ed σ H := by
  obtain ⟨B, β, μ, Γ, rp, en, rn⟩ := h
  refine w σ H _ (tD_of rp en rn fun B1 β1 μ1 H1 v d rp1 en1 j rn1 => ?_)
  exact Run.here (a := (Γ.set i (some d), Flow.next)) (c := (σ.set i (some v), FV.next)) rn1 rp1 ⟨en1.set i j, trivial⟩
theorem ds_set {i : Nat} {x : Str} {p' : Pos} (hN : X.N.Nodup) (ha : DE X a fa) (hi : X.N[i]? = some x := by rfl) (hx : Loc X.env.scope x := by first | exact Or.inl rfl | exact Or.inr rfl) (hs : swapsWith a (some (.Name x p')) pos.line X.env = pure false := by rfl) (hf : X.fn x = true ∨ X.env.scope.names.lookup x = some .local := by first | exact .inl rfl | exact .inr rfl) :
    DS X (.Assign [.Name x p'] a pos) (sAsg (.v i) fa) := ps_weak (ps_set hN hi hx ha hs hf) fun Ed σ H h => t_name (fun _ _ _ z => z) h
theorem ds_setComp {i : Nat} {y : Str} {py spos : Pos} {scope : Scope} {own : List (Str × Nat)} {w : W} {tg : Tg} {c : Option T} (hc : X.calm = true) (hN : X.N.Nodup) (hy : X.N[i]? = some y) (hyl : X.env.scope.names.lookup y = some .local) (hsw : swapsWith (.ListComp elt [⟨tgE, iter, ifs, 0⟩] scope pos) (some (.Name y py)) spos.line X.env = pure true)
    (hi : DI X tgE iter w) (ok : BlkOk X.N X.env.scope scope own)
    (hg : ∀ (s : Shared) (H : Hp) (C : Addr) (cl : List (Str × Addr)) (fp : List Addr), DG (X.blk s H scope (compEnvC scope cl C X.env) fp) tgE tg) (ht : ∀ (s : Shared) (H : Hp) (C : Addr) (cl : List (Str × Addr)) (fp : List Addr), PTs (X.blk s H scope (compEnvC scope cl C X.env) fp) ifs (tTs X.K c))
    (he : ∀ (s : Shared) (H : Hp) (C : Addr) (cl : List (Str × Addr)) (fp : List Addr), DE (X.blk s H scope (compEnvC scope cl C X.env) fp) elt fe) (hsl : ∀ i ∈ tg.slots, i ∈ own.map (·.2)) (hs : ∀ x, foldedSetIterable iter X.env x = pure x := by intro _; rfl) :
    DS X (.Assign [.Name y py] (.ListComp elt [⟨tgE, iter, ifs, 0⟩] scope pos) spos) (sAsg (.v i) (eComp (own.map (·.2)) w tg c fe)) := ps_weak (ps_setLc hc hN hy hyl hsw hi ok hg ht he hs) fun Ed σ H h => t_name (fun _ _ _ z => t_comp hsl z) h
theorem ds_setComp2 {i : Nat} {y : Str} {py spos : Pos} {iter1 tgE1 : Expr} {scope : Scope} {own : List (Str × Nat)} {vs1 : List Nat} {w w2 : W} {tg tg2 : Tg} (hc : X.calm = true) (hN : X.N.Nodup) (hy : X.N[i]? = some y) (hyl : X.env.scope.names.lookup y = some .local) (hsw : swapsWith (.ListComp elt [⟨tgE, iter, [], 0⟩, ⟨tgE1, iter1, [], 0⟩] scope pos) (some (.Name y py)) spos.line X.env = pure true)
    (hi : DI X tgE iter w) (ok : BlkOk X.N X.env.scope scope own) (hv : ∀ i ∈ vs1, i ∈ own.map (·.2))
    (hg : ∀ (s : Shared) (H : Hp) (C : Addr) (cl : List (Str × Addr)) (fp : List Addr), DG (X.blk s H scope (compEnvC scope cl C X.env) fp) tgE tg)
    (hi1 : ∀ (s : Shared) (H : Hp) (C : Addr) (cl : List (Str × Addr)) (fp : List Addr), DI (X.blk s H scope (compEnvC scope cl C X.env) fp) tgE1 iter1 w2)
    (hg1 : ∀ (s : Shared) (H : Hp) (C : Addr) (cl : List (Str × Addr)) (fp : List Addr), DG (X.blk s H scope (compEnvC scope cl C X.env) fp) tgE1 tg2)
    (he : ∀ (s : Shared) (H : Hp) (C : Addr) (cl : List (Str × Addr)) (fp : List Addr), DE (X.blk s H scope (compEnvC scope cl C X.env) fp) elt fe) (hsl : ∀ i ∈ tg.slots, i ∈ own.map (·.2)) (hsl2 : ∀ i ∈ tg2.slots, i ∈ vs1) (hs : ∀ x, foldedSetIterable iter X.env x = pure x := by intro _; rfl) (hs1 : ∀ env x, foldedSetIterable iter1 env x = pure x := by intro _ _; rfl) :
    DS X (.Assign [.Name y py] (.ListComp elt [⟨tgE, iter, [], 0⟩, ⟨tgE1, iter1, [], 0⟩] scope pos) spos) (sAsg (.v i) (eComp2 (own.map (·.2)) vs1 w tg w2 tg2 fe)) :=
  ps_weak (ps_setLc2 hc hN hy hyl hsw hi ok hv hg (fun _ _ _ _ _ => pts_nil) hi1 hg1 (fun _ _ _ _ _ => pts_nil) he hs hs1) fun Ed σ H h => t_name (fun _ _ _ z => t_comp2 hsl hsl2 z) h
/-- a, b = x, y with plain local names -/
theorem ds_par {i j : Nat} {x y : Str} {px py pt : Pos} {kt k2 : Nat} {pt2 : Pos} (hc : X.calm = true) (hN : X.N.Nodup) (ha : DE X a fa) (hb : DE X b fb) (hij : i ≠ j) (hw : swappedStores [.Tuple [.Name x px, .Name y py] kt pt] (.Tuple [a, b] k2 pt2) X.env = pure (some [x, y]))
    (hi : X.N[i]? = some x := by rfl) (hj : X.N[j]? = some y := by rfl) (hx : X.env.scope.names.lookup x = some .local := by rfl) (hy : X.env.scope.names.lookup y = some .local := by rfl)
    (he : starEach [a, b] X.env = (false, eval a X.env) :: starEach [b] X.env := by rfl) (he2 : starEach [b] X.env = (false, eval b X.env) :: starEach [] X.env := by rfl)
    (hs : swapsWithSole [.Tuple [.Name x px, .Name y py] kt pt] (.Tuple [a, b] k2 pt2) pos.line X.env = pure false := by rfl) :
    DS X (.Assign [.Tuple [.Name x px, .Name y py] kt pt] (.Tuple [a, b] k2 pt2) pos) (sAsg (.t (.cons (.v i) (.cons (.v j) .nil))) (eTup [fa, fb])) := ps_weak (ps_par hc hN hi hj hij hx hy (pa_cons ha (pa_cons hb pa_nil he2) he) hw hs) fun Ed σ H h => by
  obtain ⟨B, β, μ, Γ, rp, en, rn⟩ := h
  have rn : Run JS X.K B H β μ (fa Γ >>= fun x => fb Γ >>= fun y => pure ((Γ.set i (some x)).set j (some y), Flow.next)) (QS Ed) := by
    have e : (sAsg (.t (.cons (.v i) (.cons (.v j) .nil))) (eTup [fa, fb]) Γ) = (fa Γ >>= fun x => fb Γ >>= fun y => pure ((Γ.set i (some x)).set j (some y), Flow.next)) := by
      simp only [sAsg, eTup, eList, bind_assoc, pure_bind]
      congr 1
    rw [← e]
    exact rn
  refine tD_of rp en rn fun B1 β1 μ1 H1 v d rp1 en1 j1 rn1 => ⟨B1, β1, μ1, Γ, rp1, en1, rn1.bind fun B2 β2 μ2 H2 u d2 x rp2 j2 rn2 => ?_⟩
  exact ⟨v, u, rfl, Run.here (c := ((σ.set i (some v)).set j (some u), FV.next)) rn2 rp2 ⟨((en1.ext x).set i (j1.ext x)).set j j2, trivial⟩⟩
theorem t_if {ft : T} {Ed : Ends} {σ : L2.St} {H : Hp} (h : tS K (sIf ft f g) Ed σ H) : tIfS (tT K ft) (tS K f) (tS K g) Ed σ H := by
  obtain ⟨B, β, μ, Γ, rp, en, rn⟩ := h
  refine tT_bind (J := JS) (k := fun Γ r => if r = true then f Γ else g Γ) rp en rn fun B1 β1 μ1 H1 k rp1 en1 rn1 => ?_
  cases k with
  | true =>
    rw [if_pos rfl] at rn1 ⊢
    exact ⟨B1, β1, μ1, Γ, rp1, en1, rn1⟩
  | false =>
    rw [if_neg Bool.false_ne_true] at rn1 ⊢
    exact ⟨B1, β1, μ1, Γ, rp1, en1, rn1⟩
theorem ds_if {ft : T} {sa sb : List Stmt} (ht : DT X c ft) (ha : DSs X sa f) (hb : DSs X sb g) : DS X (.If c sa sb pos) (sIf ft f g) := ps_weak (ps_if ht ha hb) fun Ed σ H h => t_if h
theorem t_for {w : W} {tg : Tg} {Ed : Ends} {σ : L2.St} {H : Hp} (h : tS K (sFor tg w f) Ed σ H) : tFor (tI K w) (tG tg) (tS K f) Ed σ H := by
  obtain ⟨B, β, μ, Γ, rp, en, rn⟩ := h
  refine ⟨B, β, μ, Γ, rp, en, rn.bind fun B1 β1 μ1 H1 J pr x rp1 jI rn1 => ?_⟩
  obtain ⟨its, g⟩ := pr
  have jI : ItIs K B1 β1 J its g := jI
  let Wp : Nat → L2.St → Hp → Prop := fun i σ' H' => ∃ B' β' μ' Γ', (Same B1 B' ∧ β1 <+: β') ∧ Rep K B' H' β' μ' ∧ EnvOk B' β' σ' Γ' ∧ Run JS K B' H' β' μ' (forL g its tg f (its.drop i) Γ') (QS Ed)
  refine ⟨fun i m σ' H' => m = its.length - i ∧ i ≤ its.length ∧ Wp i σ' H', ⟨its.length, rfl, Nat.zero_le _, B1, β1, μ1, Γ, ⟨Same.refl _, List.prefix_refl _⟩, rp1, en.ext x, rn1⟩, ?_⟩
  rintro i m σ2 H2 ⟨rfl, hi, B2, β2, μ2, Γ2, ⟨sm, pr⟩, rp2, en2, rn2⟩
  by_cases hlt : i < its.length
  · have ed : its.drop i = its[i] :: its.drop (i + 1) := List.drop_eq_getElem_cons hlt
    rw [ed] at rn2
    obtain ⟨r0, μ0, e0, q0⟩ := rn2
    obtain ⟨u0, μ4, g1, e1⟩ := bind_some e0
    clear e0
    obtain ⟨e4, go⟩ := gok_of g1
    subst e4
    obtain ⟨Γ3, μ5, p1, e2⟩ := bind_some e1
    clear e1
    cases hput : tg.put its[i] Γ2 with
    | none => rw [hput] at p1; cases p1
    | some Γ4 =>
      rw [hput] at p1
      cases p1
      obtain ⟨hgo, _, hyld⟩ := jI.run B2 β2 _ H2 sm pr rp2 go
      refine .inr ⟨hgo i hlt, Wp (i + 1), fun σ' H' w' => ⟨its.length - (i + 1), by omega, rfl, hlt, w'⟩, fun v H3 y => ?_⟩
      obtain ⟨B3, d, x3, rp3, hd, jv⟩ := hyld i v H3 hlt y
      have ed2 : d = its[i] := by rw [List.getElem?_eq_getElem hlt] at hd; exact (Option.some.inj hd).symm
      subst ed2
      refine ⟨B3, β2, Γ2, its[i], _, jv, en2.ext x3, rp3.sub, hput, fun σ3 en3 _ => ?_⟩
      have rn3 : Run JS K B3 H3 β2 _ (f _ >>= turnK (forL g its tg f (its.drop (i + 1)))) (QS Ed) := ⟨r0, μ0, e2, fun B' β' H' c' x' => q0 B' β' H' c' (x3.trans x')⟩
      refine ⟨B3, β2, _, _, rp3, en3, rn3.bind fun B4 β4 μ6 H4 c r x4 rp4 j rn4 => ?_⟩
      obtain ⟨σ4, fv⟩ := c
      obtain ⟨Γ5, fl⟩ := r
      obtain ⟨j1, j2⟩ := j
      have sm4 : Same B1 B4 ∧ β1 <+: β4 := ⟨sm.trans (x3.same.trans x4.same), pr.trans x4.pre⟩
      cases fl with
      | next =>
        cases fv with
        | next => exact ⟨B4, β4, μ6, Γ5, sm4, rp4, j1, rn4⟩
        | _ => exact j2.elim
      | cont =>
        cases fv with
        | cont => exact ⟨B4, β4, μ6, Γ5, sm4, rp4, j1, rn4⟩
        | _ => exact j2.elim
      | brk =>
        cases fv with
        | brk => exact Run.here (c := (σ4, FV.next)) rn4 rp4 ⟨j1, trivial⟩
        | _ => exact j2.elim
      | ret d =>
        cases fv with
        | ret v => exact Run.here (c := (σ4, FV.ret v)) rn4 rp4 ⟨j1, j2⟩
        | _ => exact j2.elim
  · have ei : i = its.length := by omega
    subst ei
    rw [List.drop_length] at rn2
    obtain ⟨r0, μ0, e0, q0⟩ := rn2
    obtain ⟨u0, μ4, g1, e1⟩ := bind_some e0
    clear e0
    obtain ⟨e4, go⟩ := gok_of g1
    subst e4
    cases e1
    obtain ⟨_, hst, _⟩ := jI.run B2 β2 _ H2 sm pr rp2 go
    exact .inl ⟨hst _ (Nat.le_refl _), q0 B2 β2 H2 (σ2, FV.next) Ext.refl rp2 ⟨en2, trivial⟩⟩
theorem ds_for {w : W} {tg : Tg} (hp : PassesOwn (model X.prog X.w) X.A X.env X.xe) (hc : X.calm = true) (hi : DI X tgE iter w) (hg : DG X tgE tg) (hb : DSs X body f) (hs : ∀ x, foldedSetIterable iter X.env x = pure x := by intro _; rfl) : DS X (.For tgE iter body [] pos) (sFor tg w f) :=
  ps_weak (ps_for hp hc hi hg hb hs) fun Ed σ H h => t_for h
theorem t_while {ft : T} {k : Nat} {Ed : Ends} {σ : L2.St} {H : Hp} (h : tS K (sWhile k ft f) Ed σ H) : tWhile (tT K ft) (tS K f) Ed σ H := by
  refine ⟨fun m σ' H' => tS K (whileL ft f m) Ed σ' H', ⟨k, h⟩, fun m σ2 H2 h2 => ?_⟩
  obtain ⟨B, β, μ, Γ, rp, en, rn⟩ := h2
  cases m with
  | zero => exact (Run.fail rn).elim
  | succ m =>
    refine tT_bind (J := JS) (k := fun Γ b => if b = true then f Γ >>= turnK (whileL ft f m) else pure (Γ, Flow.next)) rp en rn fun B1 β1 μ1 H1 b rp1 en1 rn1 => ?_
    cases b with
    | false =>
      rw [if_neg Bool.false_ne_true] at rn1 ⊢
      exact Run.here (c := (σ2, FV.next)) rn1 rp1 ⟨en1, trivial⟩
    | true =>
      rw [if_pos rfl] at rn1 ⊢
      refine ⟨tS K (whileL ft f m) Ed, fun σ' H' w' => ⟨m, Nat.lt_succ_self _, w'⟩, B1, β1, μ1, Γ, rp1, en1, rn1.bind fun B4 β4 μ6 H4 c r x4 rp4 j rn4 => ?_⟩
      obtain ⟨σ4, fv⟩ := c
      obtain ⟨Γ5, fl⟩ := r
      obtain ⟨j1, j2⟩ := j
      cases fl with
      | next =>
        cases fv with
        | next => exact ⟨B4, β4, μ6, Γ5, rp4, j1, rn4⟩
        | _ => exact j2.elim
      | cont =>
        cases fv with
        | cont => exact ⟨B4, β4, μ6, Γ5, rp4, j1, rn4⟩
        | _ => exact j2.elim
      | brk =>
        cases fv with
        | brk => exact Run.here (c := (σ4, FV.next)) rn4 rp4 ⟨j1, trivial⟩
        | _ => exact j2.elim
      | ret d =>
        cases fv with
        | ret v => exact Run.here (c := (σ4, FV.ret v)) rn4 rp4 ⟨j1, j2⟩
        | _ => exact j2.elim
theorem ds_while {ft : T} (k : Nat) (hp : PassesOwn (model X.prog X.w) X.A X.env X.xe) (ht : DT X c ft) (hb : DSs X body f) : DS X (.While c body [] pos) (sWhile k ft f) := ps_weak (ps_while hp ht hb) fun Ed σ H h => t_while h
theorem ds_aug {i : Nat} {x : Str} {op : Operator} {r : R2} {fd : D → D → M D} {p' : Pos} (hN : X.N.Nodup) (ho : OpR X (inplaceOp op) r) (hf : Op2 X.K r fd) (ha : DE X a fa) (hi : X.N[i]? = some x := by rfl) (hx : Loc X.env.scope x := by first | exact Or.inl rfl | exact Or.inr rfl) (hfn : X.fn x = true ∨ X.env.scope.names.lookup x = some .local := by first | exact .inl rfl | exact .inr rfl) :
    DS X (.AugAssign (.Name x p') op a pos) (sAug i fd fa) := ps_weak (ps_aug hN hi hx ha (fun pins s σ H v u xv yv Q I r1 r2 h => ho pins s σ H v u xv yv Q I r1 r2 h) hfn) fun Ed σ H h => by
  obtain ⟨B, β, μ, Γ, rp, en, rn⟩ := h
  have rn : Run JS X.K B H β μ (eVar i Γ >>= fun x => fa Γ >>= fun y => fd x y >>= fun z => pure (Γ.set i (some z), Flow.next)) (QS Ed) := rn
  unfold eVar at rn
  cases hg : Γ[i]? with
  | none => rw [hg] at rn; exact (Run.fail rn).elim
  | some o =>
    cases o with
    | none => rw [hg] at rn; exact (Run.fail rn).elim
    | some d =>
      rw [hg] at rn
      have rn : Run JS X.K B H β μ (fa Γ >>= fun y => fd d y >>= fun z => pure (Γ.set i (some z), Flow.next)) (QS Ed) := rn
      obtain ⟨v, h1, h2⟩ := en.get i d hg
      refine ⟨v, h1, B, β, μ, Γ, rp, en, rn.bind fun B1 β1 μ1 H1 u e x1 rp1 j1 rn1 => ?_⟩
      refine hf B1 H1 β1 μ1 v u d e _ rp1 (h2.ext x1) j1 (rn1.bind fun B2 β2 μ2 H2 z z' x2 rp2 j2 rn2 => ?_)
      exact Run.here (c := (σ.set i (some z), FV.next)) rn2 rp2 ⟨((en.ext x1).ext x2).set i j2, trivial⟩
theorem run_unit {α γ : Type} {J : Hp → List Addr → γ → α → Prop} {B H : Hp} {β : List Addr} {μ : Store} {Q : γ → Hp → Prop} {n : Nat} {o : MO} {m : M α} (h : Run J K B H β μ (setH n o >>= fun _ => m) Q) : ∃ a μ', m (μ.set n o) = some (a, μ') ∧ ∀ B' β' H' c, Ext B β H B' β' H' → Rep K B' H' β' μ' → J B' β' c a → Q c H' := (Run.set h).2
theorem ds_setItem {i : Expr} {fi : E} {tp : Pos} (ha : DE X a fa) (hi : DE X i fi) (he : DE X e fe)
    (hsub : ∀ v, assign (.Subscript a i tp) X.env v = (do
      let ov ← holding [v] (eval a X.env)
      let iv ← holding [v, ov] (eval i X.env)
      standAt tp
      holding [v, ov, iv] (setItem ov iv v)
      release [v, ov, iv] []) := by intro _; rfl)
    (hs : swapsWithSole [.Subscript a i tp] e pos.line X.env = pure false := by rfl) (hw : swappedStores [.Subscript a i tp] e X.env = pure none := by rfl) (h1 : (assignEach [.Subscript a i tp] X.env).map (·.2) = [assign (.Subscript a i tp) X.env] := by rfl) :
    DS X (.Assign [.Subscript a i tp] e pos) (sSet fa fi fe) := ps_weak (ps_asg he (pg_sub ha hi set_list hsub) hs hw h1) fun Ed σ H h => by
  obtain ⟨B, β, μ, Γ, rp, en, rn⟩ := h
  refine tD_of rp en rn fun B1 β1 μ1 H1 v d rp1 en1 j1 rn1 => ⟨B1, β1, μ1, Γ, rp1, en1, rn1.bind fun B2 β2 μ2 H2 o od x2 rp2 j2 rn2 => ⟨B2, β2, μ2, Γ, rp2, en1.ext x2, rn2.bind fun B3 β3 μ3 H3 k kd x3 rp3 j3 rn3 => ?_⟩⟩
  cases od with
  | h n =>
    cases kd with
    | int k' =>
      unfold setD at rn3
      dsimp only at rn3
      rw [bind_assoc] at rn3
      obtain ⟨oo, ho, rn3⟩ := Run.get rn3
      obtain ⟨aa, rfl, hb, hm⟩ := mo_read rp3 (j2.ext x3) ho
      cases oo with
      | lst ds =>
        dsimp only at rn3
        cases hix : ixN ds.length k' with
        | none => rw [hix] at rn3; exact (Run.fail rn3).elim
        | some j =>
          rw [hix] at rn3
          obtain ⟨hB, hl, vs, h5, h6⟩ := hm
          have rn4 := run_unit rn3
          refine ⟨aa, vs, k', j, rfl, is_int.mp j3, h5, by rw [isL_len h6]; exact hix, ?_⟩
          have jv : Is B3 β3 v d := (j1.ext x2).ext x3
          exact Run.pure (c := (σ, FV.next)) rn4 (rp3.setExt hb) (rp3.set hb hB ⟨hB, by rw [List.length_set]; exact hl, vs.set j v, upd_same, isL_set j h6 jv⟩) ⟨(en1.ext x2).ext x3, trivial⟩
      | _ => exact (Run.fail rn3).elim
    | _ => exact (Run.fail rn3).elim
  | _ => cases kd <;> exact (Run.fail rn3).elim
/-! ### lists of one's own: made, given away -/
theorem Run.newH {B H : Hp} {β : List Addr} {μ : Store} {Q : VK} {ds : List D} {vs : List V} (h : RunD K B H β μ (newH (.lst ds)) Q) (rp : Rep K B H β μ) (il : IsL B β vs ds) (hl : ds.length ≤ lim) {q : Addr} (hq : H q = none) : Q (.ref q) (upd H q (.lst vs)) := by
  obtain ⟨d, μ', e, k⟩ := h
  cases e
  refine k B (β ++ [q]) _ _ (rp.allocExt hq) (rp.alloc hq ⟨Same.free rp.sub hq, hl, vs, upd_same, il.mono (Same.refl _) (List.prefix_append _ _)⟩) (is_h.mpr ⟨q, rfl, ?_⟩)
  rw [← rp.len]
  simp
theorem de_newL (h : DA X es (eList fs)) : DE X (.List es pos) (eNewL fs) := pe_weak (pe_lst h) fun σ H Q h => by
  obtain ⟨B, β, μ, Γ, rp, en, rn⟩ := h
  exact ⟨B, β, μ, Γ, rp, en, rn.bind fun B1 β1 μ1 H1 vs ds x r1 j rn1 => by
    obtain ⟨hl, rn1⟩ := Run.ite rn1
    exact ⟨lim_le (by rw [isL_len j]; exact hl), fun p hp => rn1.newH r1 j hl hp⟩⟩
theorem de_newList (hg : Gl X "list") (hm : X.mg "list" = none) (ha : DE X a fa) (he : starEach [a] X.env = (false, eval a X.env) :: starEach [] X.env := by rfl) (hpl : (backTo pos (starEach [] X.env)).any (·.1) = false := by rfl) : DE X (.Call (.Name "list" p) [a] [] pos) (eNewList fa) :=
  pe_weak (pe_callTy call_list_of hg hm (by decide +kernel) (pa_cons ha pa_nil he) (he := he) (hpl := hpl)) fun σ H Q h => tD_bind h fun B β μ Γ H1 v d rp en j rn => by
    obtain ⟨aa, vs, ds, rfl, hk, il, hl, rn⟩ := items_read rp j rn
    exact ⟨aa, vs, rfl, hk.imp (fun z => z) (fun z => z.1), fun q hq => rn.newH rp il hl hq⟩
theorem de_frz (i : Nat) {x : Str} {p : Pos} (hN : X.N[i]? = some x := by rfl) (hv : Vis X.env.scope x := by first | exact Or.inl rfl | exact Or.inr (Or.inl rfl) | exact Or.inr (Or.inr rfl)) (hd : (x == ("__debug__" : Str)) = false := by decide)
    (hcd : (x == ("__classdict__" : Str)) = false := by decide) : DE X (.Name x p) (eFrz i) := pe_weak (de_var i hN hv hd hcd) fun σ H Q h => tD_bind h fun B β μ Γ H1 v d rp en j rn => by
  cases d with
  | h n =>
    obtain ⟨o, ho, rn⟩ := Run.get rn
    obtain ⟨aa, rfl, hb, hm⟩ := mo_read rp j ho
    cases o with
    | lst ds =>
      obtain ⟨hB, hl, vs, h5, h6⟩ := hm
      have rn2 := run_unit rn
      exact Run.pure rn2 (rp.freezeExt hb hB) (rp.freeze hb hB h5) (is_newL hB h6 hl)
    | _ => exact (Run.fail rn).elim
  | _ => exact (Run.fail rn).elim
/-! ### defs -/
/-- a def that does f -/
def spD (K : PySem.W.Frag) (n : Nat) (f : List D → M D) : Sp := fun vs H Q _ => vs.length = n ∧ ∃ B β μ ds, Rep K B H β μ ∧ IsL B β vs ds ∧ RunD K B H β μ (f ds) Q
theorem de_call {k : Nat} {f : Addr} {fd : FuncData} {ps : List Str} {n : Nat} {g : List D → M D} {x : Str} (F : FnOk X.prog X.w X.K X.mg X.base CX0 k f fd ps (spD X.K n g)) (hr : Room k X.A) (hg : Gl X x) (hm : X.mg x = some (.ref f)) (hk : PySem.W.keepIn X.K (.ref f) = true) (hb : Binds X.K fd ps []) (hn : (a :: es).length = n)
    (ha : DA X (a :: es) (eList fs)) (hdb : (x == ("__debug__" : Str)) = false := by decide) (he : starEach (a :: es) X.env = (false, eval a X.env) :: starEach es X.env := by rfl) (hpl : (backTo pos (starEach es X.env)).any (·.1) = false := by rfl) (hf : fs.length = n := by rfl) :
    DE X (.Call (.Name x p) (a :: es) [] pos) (eCall g fs) := pe_weak (pe_call F hr hg hm hk hb .nil pass0 ha hdb he hpl) fun σ H Q h => by
  obtain ⟨B, β, μ, Γ, rp, en, rn⟩ := h
  have hlen : ∀ (fs : List E) (μ μ' : Store) (ds : List D), eList fs Γ μ = some (ds, μ') → ds.length = fs.length := by
    intro fs
    induction fs with
    | nil => intro μ μ' ds h; cases h; rfl
    | cons f r ih =>
      intro μ μ' ds h
      obtain ⟨d, μ1, _, h⟩ := bind_some h
      obtain ⟨ds2, μ2, h2, h⟩ := bind_some h
      cases h
      rw [List.length_cons, List.length_cons, ih _ _ _ h2]
  obtain ⟨d0, μ0, e0, q0⟩ := rn
  obtain ⟨ds, μ1, e1, e2⟩ := bind_some e0
  refine ⟨B, β, μ, Γ, rp, en, ds, μ1, e1, fun B1 β1 H1 vs x r1 j => ?_⟩
  show spD X.K n g (vs ++ []) H1 Q E0
  rw [List.append_nil]
  exact ⟨by rw [isL_len j, hlen fs μ μ1 ds e1, hf], B1, β1, μ1, ds, r1, j, d0, μ0, e2, fun B' β' H' c' x' => q0 B' β' H' c' (x.trans x')⟩
theorem env_start {B : Hp} {β : List Addr} {N : List Str} {vs : List V} {ds : List D} {np ns : Nat} (hl : ds.length = np) (hns : N.length = ns) (h : IsL B β vs ds) : EnvOk B β (L2.start N vs) (ds.map some ++ List.replicate (ns - np) none) := by
  refine ⟨?_, fun i d e => ?_⟩
  · unfold L2.start
    simp only [List.length_append, List.length_map, List.length_replicate, isL_len h, hl, hns]
  · have hi : i < ds.length := by
      by_cases hi : i < ds.length
      · exact hi
      · rw [List.getElem?_append_right (by simpa using hi), List.getElem?_replicate] at e
        split at e <;> cases e
    rw [List.getElem?_append_left (by simpa using hi), List.getElem?_map] at e
    cases e2 : ds[i]? with
    | none => rw [e2] at e; cases e
    | some d' =>
      rw [e2] at e; cases e
      obtain ⟨v, h1, h2⟩ := isL_get h e2
      refine ⟨v, ?_, h2⟩
      unfold L2.start
      rw [List.getElem?_append_left (by simpa using (List.getElem?_eq_some_iff.mp h1).1), List.getElem?_map, h1]
      rfl
end
section
variable {P : Program} {w : World} {K : PySem.W.Frag} {mg : Str → Option Value} {base : Heap} {x qual : Str} {params : Arguments} {body : List Stmt} {scope : Scope} {f : Addr} {fd : FuncData}
/-- THE RULE for a def: its body does fb, so it does fn np ns fb -/
theorem def_ok {N ps : List Str} {k np ns : Nat} {fb : S} (F : FunD K x qual params body scope [] [] f fd) (S' : FnScope N ps scope) (hps : ps.length = np) (hns : N.length = ns)
    (hbody : ∀ (cdv : Value) (A : Around) (outer : List PySem.Env) (s : Shared) (H : Hp) (Em : XK), Room k (A.deeper (envOfC qual scope s.heap.objs.size f cdv)) → DSs (cxOf CX0 P w K mg base N qual scope f cdv A outer s H Em).nox body fb) :
    FnOk P w K mg base CX0 (k + 1) f fd ps (spD K np (fn np ns fb)) := by
  refine F.ok S' (fun vs H Q E h => by rw [hps]; exact h.1) (fun cdv A outer s H vs Q E hr h => ⟨tS K fb, PSs.nox (hbody cdv A outer s H E hr), ?_⟩)
  obtain ⟨hl, B, β, μ, ds, rp, il, rn⟩ := h
  unfold fn at rn
  obtain ⟨hd, rn⟩ := Run.ite rn
  refine ⟨B, β, μ, _, rp, env_start hd hns il, rn.bind fun B1 β1 μ1 H1 c r x rp1 j rn1 => ?_⟩
  obtain ⟨σ4, fv⟩ := c
  obtain ⟨Γ5, fl⟩ := r
  obtain ⟨j1, j2⟩ := j
  cases fl with
  | next =>
    cases fv with
    | next => exact Run.here (a := D.non) rn1 rp1 (is_non.mpr rfl)
    | _ => exact j2.elim
  | ret d =>
    cases fv with
    | ret v => exact Run.here (a := d) rn1 rp1 j2
    | _ => exact j2.elim
  | _ => exact (Run.fail rn1).elim
/-- a def that keeps no promise at all (a recursion's last depth) -/
theorem def_none {k np : Nat} {ps : List Str} : FnOk P w K mg base CX0 k f fd ps (spD K np fun _ => M.fail) := by
  have no : ∀ vs H Q E, ¬ spD K np (fun _ => M.fail) vs H Q E := fun vs H Q E h => by
    obtain ⟨_, _, _, _, _, _, _, rn⟩ := h
    exact Run.fail rn
  exact ⟨fun vs H Q E h => absurd h (no vs H Q E), fun A outer s H args us vs Q E _ _ _ _ h => absurd h (no vs H Q E)⟩
end
end DL
/-! DDz: dict(zip(a, b)), a a list, b a tuple (KE.KDictZip has it for two lists; here over iterators of any kind) -/
namespace PySem
open PySem.W (KdxIt kdx_alive)
section
variable {prog : Program} {w : World} {A : Around} {E : Value → Shared → Prop} {s : Shared} {z TI TO T i1 i2 : Addr} {fp1 fp2 : List Addr} {n1 n2 i : Nat} {P1 P2 : Nat → Value → Prop} {St1 St2 : Nat → Heap → Prop} {f : Bool} {oT : Obj}
theorem dz_item_held {Q : Value → Shared → Prop} (S : ZipSep2 z TI TO i1 i2 fp1 fp2) (D1 : Draws prog w A i1 fp1 n1 P1 St1) (D2 : Draws prog w A i2 fp2 n2 P2 St2)
    (hz : IsZipHeld s.heap z TI TO T f) (hT : s.heap.get? T = some oT) (hTI : IsTupOf2 s.heap TI (.ref i1) (.ref i2)) (st1 : St1 i s.heap) (st2 : St2 i s.heap) (hlt1 : i < n1) (hlt2 : i < n2)
    (hQ : ∀ x1 x2 h' tk, P1 i x1 → P2 i x2 → IsZipHeld h' z TI TO T true → St1 (i + 1) h' → St2 (i + 1) h' → IsTupOf2 h' s.heap.objs.size x1 x2 → h'.objs.size = s.heap.objs.size + 1 →
      (∀ c o, c ≠ z → c ≠ i1 → c ≠ i2 → s.heap.get? c = some o → h'.get? c = some o) → Q (.ref s.heap.objs.size) { s with heap := h', toks := tk }) :
    wpAny (model prog w) A (Builtin.«zip.__next__» ⟨[.ref z], []⟩) (fun fin s' => ∃ v, fin = .done (.ret v) ∧ Q v s') E s := by
  obtain ⟨hp, g, d, tk0, os⟩ := s
  show wpAny _ _ (field (.ref z) 2 >>= _) _ _ _
  refine wpAny_bind (wpAny_field hz rfl (x := .bool false) rfl ?_)
  show wpAny _ _ (field (.ref z) 3 >>= _) _ _ _
  refine wpAny_bind (wpAny_field hz rfl (x := .ref TI) rfl ?_)
  refine wpAny_bind (wpAny_seqItems hTI rfl ?_)
  show wpAny _ _ (Builtin.SmallTypes.ownedTupleIsFree (.ref z) >>= _) _ _ _
  refine wpAny_bind (wpAny_tupleHeld_zip hz hT fun h₁ hz₁ hs₁ => ?_)
  replace hs₁ : Heap.SameBut z hp h₁ := hs₁
  simp only [Bool.false_eq_true, if_false]
  refine wpAny_bind ?_
  rw [← Array.forIn_toList]
  simp only [List.forIn_cons, List.forIn_nil]
  refine wpAny_bind (wpAny_bind (wpAny_holding ?_))
  show wpAny _ _ (Builtin.SmallTypes.nextOf (.ref i1) >>= _) _ _ ⟨h₁, g, d, tk0, os⟩
  refine wpAny_bind (D1.item i _ _ _ hlt1 (D1.over st1 hs₁ S.zf1) fun x1 p1 tk1 hx1 sn1 hp1 => wpAny_pure ?_)
  replace hp1 : Heap.SameBut i1 h₁ p1 := hp1
  refine wpAny_pure ?_
  refine wpAny_bind (wpAny_bind (wpAny_holding ?_))
  show wpAny _ _ (Builtin.SmallTypes.nextOf (.ref i2) >>= _) _ _ ⟨p1, g, d, tk1, os⟩
  refine wpAny_bind (D2.item i _ _ _ hlt2 (D2.over (D2.over st2 hs₁ S.zf2) hp1 S.sep1_2) fun x2 p2 tk2 hx2 sn2 hp2 => wpAny_pure ?_)
  replace hp2 : Heap.SameBut i2 p1 p2 := hp2
  refine wpAny_pure (wpAny_pure ?_)
  show wpAny _ _ (newTuple [x1, x2] >>= _) _ _ ⟨p2, g, d, tk2, os⟩
  refine wpAny_bind (wpAny_newTuple ?_)
  have hsz : p2.objs.size = hp.objs.size := by rw [hp2.1, hp1.1, hs₁.1]
  have hz₃ : IsZipHeld p2 z TI TO T true := hp2.extBut _ _ S.zi2 (hp1.extBut _ _ S.zi1 hz₁)
  have hk : ∀ c o, c ≠ z → c ≠ i1 → c ≠ i2 → hp.get? c = some o → p2.get? c = some o := fun c o c1 c2 c3 e => hp2.extBut _ _ c3 (hp1.extBut _ _ c2 (hs₁.extBut _ _ c1 e))
  have sn1' : St1 (i + 1) p2 := D1.over sn1 hp2 S.sep2_1
  refine wpAny_pure ⟨_, rfl, ?_⟩
  show Q (.ref p2.objs.size) _
  have hpp : IsTupOf2 (p2.push { cls := .type "tuple", data := .seq #[x1, x2] }) p2.objs.size x1 x2 := Heap.get?_push_size _ rfl
  have hz4 : (p2.push { cls := .type "tuple", data := .seq #[x1, x2] }).objs.size = p2.objs.size + 1 := Heap.size_push ..
  rw [hsz] at hpp hz4 ⊢
  exact hQ x1 x2 _ tk2 hx1 hx2 (Heap.get?_push_of_some _ hz₃) (D1.frame _ _ _ sn1' fun b _ o e => Heap.get?_push_of_some _ e) (D2.frame _ _ _ sn2 fun b _ o e => Heap.get?_push_of_some _ e) hpp hz4 fun c o c1 c2 c3 e => Heap.get?_push_of_some _ (hk c o c1 c2 c3 e)
theorem dz_end_held {Q : Fin → Shared → Prop} (S : ZipSep2 z TI TO i1 i2 fp1 fp2) (D1 : Draws prog w A i1 fp1 n1 P1 St1) (D2 : Draws prog w A i2 fp2 n2 P2 St2)
    (hz : IsZipHeld s.heap z TI TO T f) (hT : s.heap.get? T = some oT) (hTI : IsTupOf2 s.heap TI (.ref i1) (.ref i2)) (st1 : St1 i s.heap) (st2 : St2 i s.heap) (hle1 : i ≤ n1) (hle2 : i ≤ n2) (hend : i = n1 ∨ i = n2)
    (hE : ∀ h' tk e, (∀ c o, c ≠ z → c ≠ i1 → c ≠ i2 → s.heap.get? c = some o → h'.get? c = some o) → (∃ o, h'.get? e = some o ∧ o.cls = .type "StopIteration") → E (.ref e) { s with heap := h', toks := tk }) :
    wpAny (model prog w) A (Builtin.«zip.__next__» ⟨[.ref z], []⟩) Q E s := by
  obtain ⟨hp, g, d, tk0, os⟩ := s
  show wpAny _ _ (field (.ref z) 2 >>= _) _ _ _
  refine wpAny_bind (wpAny_field hz rfl (x := .bool false) rfl ?_)
  show wpAny _ _ (field (.ref z) 3 >>= _) _ _ _
  refine wpAny_bind (wpAny_field hz rfl (x := .ref TI) rfl ?_)
  refine wpAny_bind (wpAny_seqItems hTI rfl ?_)
  show wpAny _ _ (Builtin.SmallTypes.ownedTupleIsFree (.ref z) >>= _) _ _ _
  refine wpAny_bind (wpAny_tupleHeld_zip hz hT fun h₁ hz₁ hs₁ => ?_)
  replace hs₁ : Heap.SameBut z hp h₁ := hs₁
  simp only [Bool.false_eq_true, if_false]
  refine wpAny_bind ?_
  rw [← Array.forIn_toList]
  simp only [List.forIn_cons, List.forIn_nil]
  refine wpAny_bind (wpAny_bind (wpAny_holding ?_))
  show wpAny _ _ (Builtin.SmallTypes.nextOf (.ref i1) >>= _) _ _ ⟨h₁, g, d, tk0, os⟩
  by_cases hlt1 : i < n1
  · refine wpAny_bind (D1.item i _ _ _ hlt1 (D1.over st1 hs₁ S.zf1) fun x1 p1 tk1 hx1 sn1 hp1 => wpAny_pure ?_)
    replace hp1 : Heap.SameBut i1 h₁ p1 := hp1
    have hi2 : i = n2 := by omega
    refine wpAny_pure ?_
    refine wpAny_bind (wpAny_bind (wpAny_holding ?_))
    show wpAny _ _ (Builtin.SmallTypes.nextOf (.ref i2) >>= _) _ _ ⟨p1, g, d, tk1, os⟩
    refine wpAny_bind (D2.done ⟨p1, g, d, tk1, os⟩ _ _ (by rw [← hi2]; exact (D2.over (D2.over st2 hs₁ S.zf2) hp1 S.sep1_2)) fun q e hq he => ?_)
    replace hq : Heap.ExtBut i2 p1 q := hq
    exact hE q tk1 e (fun c o c1 c2 c3 x => hq _ _ c3 (hp1.extBut _ _ c2 (hs₁.extBut _ _ c1 x))) he
  · have hi1 : i = n1 := by omega
    refine wpAny_bind (D1.done ⟨h₁, g, d, tk0, os⟩ _ _ (by rw [← hi1]; exact (D1.over st1 hs₁ S.zf1)) fun q e hq he => ?_)
    replace hq : Heap.ExtBut i1 h₁ q := hq
    exact hE q tk0 e (fun c o c1 c2 _ x => hq _ _ c2 (hs₁.extBut _ _ c1 x)) he
theorem dz_next_item {Q : Option Value → Shared → Prop} (S : ZipSep2 z TI TO i1 i2 fp1 fp2) (D1 : Draws prog w A.in1 i1 fp1 n1 P1 St1) (D2 : Draws prog w A.in1 i2 fp2 n2 P2 St2)
    (hz : IsZipHeld s.heap z TI TO T f) (hT : s.heap.get? T = some oT) (hTI : IsTupOf2 s.heap TI (.ref i1) (.ref i2)) (st1 : St1 i s.heap) (st2 : St2 i s.heap) (hlt1 : i < n1) (hlt2 : i < n2)
    (hQ : ∀ x1 x2 h' tk, P1 i x1 → P2 i x2 → IsZipHeld h' z TI TO T true → St1 (i + 1) h' → St2 (i + 1) h' → IsTupOf2 h' s.heap.objs.size x1 x2 → h'.objs.size = s.heap.objs.size + 1 →
      (∀ c o, c ≠ z → c ≠ i1 → c ≠ i2 → s.heap.get? c = some o → h'.get? c = some o) → Q (some (.ref s.heap.objs.size)) { s with heap := h', toks := tk }) :
    wpAny (model prog w) A (pyNext (.ref z)) Q E s := by
  have hTy : s.TypeIs (.ref z) "zip" := ⟨_, hz, rfl⟩
  unfold pyNext
  exact wpAny_bind (wpAny_attempt (wpAny_callSpecial?_slot (name := Str.ofString "__next__") hTy F.slot_zip_next
    (wpAny_call_entry F.slot_zip_next hTy F.entry_zip_next
      (dz_item_held S D1 D2 hz hT hTI st1 st2 hlt1 hlt2 fun x1 x2 h' tk y1 y2 b1 d1 d2 b5 b6 b7 => wpAny_pure (hQ x1 x2 h' tk y1 y2 b1 d1 d2 b5 b6 b7)) (F.args_zip_next_1 _))))
theorem dz_next_end {Q : Option Value → Shared → Prop} (S : ZipSep2 z TI TO i1 i2 fp1 fp2) (D1 : Draws prog w A.in1 i1 fp1 n1 P1 St1) (D2 : Draws prog w A.in1 i2 fp2 n2 P2 St2)
    (hz : IsZipHeld s.heap z TI TO T f) (hT : s.heap.get? T = some oT) (hTI : IsTupOf2 s.heap TI (.ref i1) (.ref i2)) (st1 : St1 i s.heap) (st2 : St2 i s.heap) (hle1 : i ≤ n1) (hle2 : i ≤ n2) (hend : i = n1 ∨ i = n2)
    (hQ : ∀ h' tk, (∀ c o, c ≠ z → c ≠ i1 → c ≠ i2 → s.heap.get? c = some o → h'.get? c = some o) → Q none { s with heap := h', toks := tk }) : wpAny (model prog w) A (pyNext (.ref z)) Q E s := by
  have hTy : s.TypeIs (.ref z) "zip" := ⟨_, hz, rfl⟩
  unfold pyNext
  refine wpAny_bind (wpAny_attempt (wpAny_callSpecial?_slot (name := Str.ofString "__next__") hTy F.slot_zip_next
    (wpAny_call_entry F.slot_zip_next hTy F.entry_zip_next (dz_end_held S D1 D2 hz hT hTI st1 st2 hle1 hle2 hend fun h' tk e hk he => ?_) (F.args_zip_next_1 _))))
  obtain ⟨o, ho, hc⟩ := he
  refine wpAny_bind (wpAny_isInstance (T := "StopIteration") (b := true) ⟨o, ho, hc⟩ isSubtype_stop ?_)
  exact wpAny_pure (hQ _ _ hk)
end
section
variable {prog : Program} {w : World}
theorem PairArg.zipLT {N l1 l2 : Addr} (d1 : l1 < N) (d2 : l2 < N) (xs ys : Array Value) :
    PairArg prog w "zip" (N + 4) [N + 4, N + 2, N + 3, N, N + 1, l1, l2] [N + 4, N + 3, N, N + 1] (min xs.size ys.size) (fun i k v => xs[i]? = some k ∧ ys[i]? = some v)
      (fun h => IsZip h (N + 4) (N + 2) (N + 3) .none ∧ IsTupOf2 h (N + 2) (.ref N) (.ref (N + 1)) ∧ (∃ a b, IsTupOf2 h (N + 3) a b) ∧ (h.IsListIter N l1 0 ∧ h.IsList l1 xs) ∧ h.IsTupleIter (N + 1) l2 0 ∧ h.IsTuple l2 ys) where
  type := fun s ok => ⟨_, ok.1, rfl⟩
  notDict := by decide
  keep := fun h h' ok hk => by
    obtain ⟨hz, hTI, ⟨a, b, hTO⟩, ⟨h1, hl1⟩, h2, hl2⟩ := ok
    exact ⟨hk _ _ hz, hk _ _ hTI, ⟨a, b, hk _ _ hTO⟩, ⟨h1.at fun o e => hk _ o e, hl1.at fun o e => hk _ o e⟩, h2.at fun o e => hk _ o e, hl2.at fun o e => hk _ o e⟩
  there := fun h ok b hb => by
    obtain ⟨hz, hTI, ⟨a, c, hTO⟩, ⟨⟨o1, h1, _⟩, ⟨o3, hl1, _⟩⟩, ⟨o2, h2, _⟩, ⟨o4, hl2, _⟩⟩ := ok
    simp only [List.mem_cons, List.not_mem_nil, or_false] at hb
    rcases hb with rfl | rfl | rfl | rfl | rfl | rfl | rfl
    all_goals first | exact ⟨_, hz⟩ | exact ⟨_, hTI⟩ | exact ⟨_, hTO⟩ | exact ⟨_, h1⟩ | exact ⟨_, h2⟩ | exact ⟨_, hl1⟩ | exact ⟨_, hl2⟩
  sub := fun b hb => by simp at hb ⊢; rcases hb with rfl | rfl | rfl | rfl <;> simp
  noKeys := fun A s Q E hA ok h => getAttrOr_miss_zip ok.1 rfl rfl rfl zip_no_keys (by decide +kernel) hA h
  iter := fun A s d Q E hA ok hd hdf h => by
    obtain ⟨hz, hTI, ⟨a, b, hTO⟩, h1, h2⟩ := ok
    simp only [List.mem_cons, List.not_mem_nil, or_false, not_or] at hdf
    obtain ⟨dz, dTI, dTO, di1, di2, dl1, dl2⟩ := hdf
    have S : ZipSep2 (N + 4) (N + 2) (N + 3) N (N + 1) [N, l1] [N + 1, l2] := zip_sep2 (fun b hb => by rw [List.mem_singleton.mp hb]; exact d1) (fun b hb => by rw [List.mem_singleton.mp hb]; exact d2)
    have D1 : Draws prog w A.in1 N [N, l1] xs.size (fun i v => xs[i]? = some v) (fun i h => h.IsListIter N l1 i ∧ h.IsList l1 xs) := Draws.list (A := A.in1) (show A.in1.handled = none from hA) N l1 (Nat.ne_of_lt d1) xs
    have D2 : Draws prog w A.in1 (N + 1) [N + 1, l2] ys.size (fun i v => ys[i]? = some v) (fun i h => h.IsTupleIter (N + 1) l2 i ∧ h.IsTuple l2 ys) := Draws.tuple (A := A.in1) (show A.in1.handled = none from hA) (N + 1) l2 (Nat.ne_of_lt (Nat.lt_succ_of_lt d2)) ys
    refine wpAny_pyIter_zip hz (h (N + 4) [N + 4, N + 3, N, N + 1] (fun i h => IsTupOf2 h (N + 2) (.ref N) (.ref (N + 1)) ∧ (h.IsListIter N l1 i ∧ h.IsList l1 xs) ∧ (h.IsTupleIter (N + 1) l2 i ∧ h.IsTuple l2 ys) ∧
      ((IsZip h (N + 4) (N + 2) (N + 3) .none ∧ ∃ a b, IsTupOf2 h (N + 3) a b) ∨ ∃ T f oT, IsZipHeld h (N + 4) (N + 2) (N + 3) T f ∧ h.get? T = some oT ∧ T ≠ N + 4 ∧ T ≠ N ∧ T ≠ N + 1 ∧ T ≠ d)) s.heap s.toks ?_
      ⟨hTI, h1, h2, .inl ⟨hz, a, b, hTO⟩⟩ (fun _ _ e => e) fun b hb => .inl hb)
    exact {
      off := fun hm => by
        simp only [List.mem_cons, List.not_mem_nil, or_false] at hm
        rcases hm with e | e | e | e
        · exact dz e
        · exact dTO e
        · exact di1 e
        · exact di2 e
      frame := fun i h₁ h₂ st hk => by
        obtain ⟨hTI, h1, h2, hz⟩ := st
        refine ⟨hk _ _ (Ne.symm dTI) hTI, ⟨h1.1.at fun o e => hk _ o (Ne.symm di1) e, h1.2.at fun o e => hk _ o (Ne.symm dl1) e⟩, ⟨h2.1.at fun o e => hk _ o (Ne.symm di2) e, h2.2.at fun o e => hk _ o (Ne.symm dl2) e⟩, ?_⟩
        rcases hz with ⟨hz, a, b, hTO⟩ | ⟨T, f, oT, hz, hT, r1, r2, r3, r4⟩
        · exact .inl ⟨hk _ _ (Ne.symm dz) hz, a, b, hk _ _ (Ne.symm dTO) hTO⟩
        · exact .inr ⟨T, f, oT, hk _ _ (Ne.symm dz) hz, hk _ _ r4 hT, r1, r2, r3, r4⟩
      item := fun i s₁ Q₁ E₁ hi st hds hQ => by
        obtain ⟨hTI, h1, h2, hz⟩ := st
        have hix : i < xs.size := Nat.lt_of_lt_of_le hi (Nat.min_le_left ..)
        have hiy : i < ys.size := Nat.lt_of_lt_of_le hi (Nat.min_le_right ..)
        have lt : ∀ {c o}, s₁.heap.get? c = some o → s₁.heap.objs.size ≠ c := fun e => Nat.ne_of_gt (Heap.lt_size e)
        have n1 : s₁.heap.objs.size ≠ N := let ⟨_, e, _⟩ := h1.1; lt e
        have n2 : s₁.heap.objs.size ≠ N + 1 := let ⟨_, e, _⟩ := h2.1; lt e
        rcases hz with ⟨hz, a, b, hTO⟩ | ⟨T, f, oT, hz, hT, r1, r2, r3, r4⟩
        · refine wpAny_pyNext_zipD2_item S D1 D2 hz hTI hTO h1 h2 hix hiy fun x1 x2 h' tk y1 y2 a1 a2 a3 a4 a5 a6 hk => ?_
          exact hQ s₁.heap.objs.size _ _ h' tk ⟨y1, y2⟩ (.inl ⟨_, a5, rfl, _, rfl⟩)
            ⟨hk _ _ S.TIz S.TITO S.TIi1 S.TIi2 hTI, a3, a4, .inr ⟨s₁.heap.objs.size, false, _, a1, a5, lt hz, n1, n2, Nat.ne_of_gt hds⟩⟩
            fun c o hc e => hk c o (fun x => hc (by simp [x])) (fun x => hc (by simp [x])) (fun x => hc (by simp [x])) (fun x => hc (by simp [x])) e
        · refine dz_next_item S D1 D2 hz hT hTI h1 h2 hix hiy fun x1 x2 h' tk y1 y2 a1 a3 a4 a5 a6 hk => ?_
          exact hQ s₁.heap.objs.size _ _ h' tk ⟨y1, y2⟩ (.inl ⟨_, a5, rfl, _, rfl⟩)
            ⟨hk _ _ S.TIz S.TIi1 S.TIi2 hTI, a3, a4, .inr ⟨T, true, oT, a1, hk _ _ r1 r2 r3 hT, r1, r2, r3, r4⟩⟩
            fun c o hc e => hk c o (fun x => hc (by simp [x])) (fun x => hc (by simp [x])) (fun x => hc (by simp [x])) e
      done := fun s₁ Q₁ E₁ st hQ => by
        obtain ⟨hTI, h1, h2, hz⟩ := st
        have hend : min xs.size ys.size = xs.size ∨ min xs.size ys.size = ys.size := by omega
        rcases hz with ⟨hz, a, b, hTO⟩ | ⟨T, f, oT, hz, hT, r1, r2, r3, r4⟩
        · exact wpAny_pyNext_zipD2_end S D1 D2 hz hTI hTO h1 h2 (Nat.min_le_left ..) (Nat.min_le_right ..) hend fun h' tk hk => hQ h' tk fun c o hc e => hk c o (fun x => hc (by simp [x])) (fun x => hc (by simp [x])) (fun x => hc (by simp [x])) (fun x => hc (by simp [x])) e
        · exact dz_next_end S D1 D2 hz hT hTI h1 h2 (Nat.min_le_left ..) (Nat.min_le_right ..) hend fun h' tk hk => hQ h' tk fun c o hc e => hk c o (fun x => hc (by simp [x])) (fun x => hc (by simp [x])) (fun x => hc (by simp [x])) e }
end
end PySem
/-! DDic: dicts with tuple keys: made, read, walked -/
namespace DL
open PySem PySem.Spec PyProof.Rows L2
/-- key, its tuple, value -/
abbrev Ent := List Key × Addr × V
theorem dz_pairs {H : Hp} : ∀ (es : List Ent) (xs ys : List V) (its1 its2 : List Value), Vals xs its1 → Vals ys its2 → es.length = min xs.length ys.length →
    (∀ (i : Nat) (e : Ent), es[i]? = some e → xs[i]? = some (.ref e.2.1) ∧ ys[i]? = some e.2.2 ∧ H e.2.1 = some (.tup (e.1.map kV))) →
    ∃ ps : List (List Key × Addr × Value), KT H (es.map fun e => (e.1, e.2.2)) ps ∧ ps.length = es.length ∧ ps.map (·.1) = es.map (·.1) ∧ (∀ x ∈ ps, H x.2.1 = some (.tup (x.1.map kV))) ∧
      ∀ (i : Nat) (k v : Value), its1[i]? = some k → its2[i]? = some v → ∃ kk b, ps[i]? = some (kk, b, v) ∧ k = .ref b
  | [], xs, ys, its1, its2, r1, r2, hl, _ => by
    refine ⟨[], .nil, rfl, rfl, (fun x hx => nomatch hx), fun i k v h1 h2 => ?_⟩
    have l1 := r1.length
    have l2 := r2.length
    have a1 := (List.getElem?_eq_some_iff.mp h1).1
    have a2 := (List.getElem?_eq_some_iff.mp h2).1
    simp at hl
    omega
  | e :: es, [], ys, its1, its2, r1, r2, hl, _ => by simp at hl
  | e :: es, x :: xs, [], its1, its2, r1, r2, hl, _ => by simp at hl
  | e :: es, x :: xs, y :: ys, _, _, .cons (b := b1) q1 r1, .cons (b := b2) q2 r2, hl, hh => by
    obtain ⟨ps, g1, g2, g3, g4, g5⟩ := dz_pairs es xs ys _ _ r1 r2 (by simp at hl; omega) fun i e' he => hh (i + 1) e' he
    obtain ⟨h1, h2, h3⟩ := hh 0 e rfl
    have h1 : x = .ref e.2.1 := by simpa using h1
    have h2 : y = e.2.2 := by simpa using h2
    subst h1
    subst h2
    refine ⟨(e.1, e.2.1, b2) :: ps, .cons ⟨rfl, h3, q2⟩ g1, by rw [List.length_cons, List.length_cons, g2], by rw [List.map_cons, List.map_cons, g3], fun x hx => ?_, fun i k v k1 k2 => ?_⟩
    · rcases List.mem_cons.mp hx with rfl | hx
      · exact h3
      · exact g4 x hx
    · cases i with
      | zero =>
        have k1 : b1 = k := by simpa using k1
        have k2 : b2 = v := by simpa using k2
        subst k1 k2
        exact ⟨e.1, e.2.1, rfl, q1⟩
      | succ i => exact g5 i k v k1 k2
/-- dict(zip(a, b)) -/
def tDz (K : PySem.W.Frag) (ta : TA) : TE := fun σ H Q => ta σ H fun vs H1 => ∃ (a b : Addr) (xs ys : List V) (es : List Ent), vs = [.ref a, .ref b] ∧ SqL K H1 a xs ∧ SqT K H1 b ys ∧ es.length = min xs.length ys.length ∧
  (∀ (i : Nat) (e : Ent), es[i]? = some e → xs[i]? = some (.ref e.2.1) ∧ ys[i]? = some e.2.2 ∧ H1 e.2.1 = some (.tup (e.1.map kV))) ∧ (es.map (·.1)).Nodup ∧ ∀ p, H1 p = none → Q (.ref p) (upd H1 p (.dT (es.map fun e => (e.1, e.2.2))))
theorem pe_dictZip {X : Cx} {e e2 : Expr} {ta : TA} {p p2 pos pos2 : Pos} (hcalm : X.calm = true) (hu : X.A.units + 64 < cLine) (hg : Gl X "dict") (hm : X.mg "dict" = none) (hg2 : Gl X "zip") (hm2 : X.mg "zip" = none) (ha : PA X [e, e2] ta)
    (he : starEach [.Call (.Name "zip" p2) [e, e2] [] pos2] X.env = (false, eval (.Call (.Name "zip" p2) [e, e2] [] pos2) X.env) :: starEach [] X.env := by rfl)
    (hpl0 : (backTo pos (starEach [] X.env)).any (·.1) = false := by rfl)
    (hs : starEach [e, e2] X.env = (false, eval e X.env) :: starEach [e2] X.env := by rfl) (hpl : (backTo pos2 (starEach [e2] X.env)).any (·.1) = false := by rfl) :
    PE X (.Call (.Name "dict" p) [.Call (.Name "zip" p2) [e, e2] [] pos2] [] pos) (tDz X.K ta) := by
  refine ⟨fun pins s σ H Q I h => ?_⟩
  refine wpAny_Call_Name_kw (ld_blt I hg hm PyProof.Rows.boot_dict (PyProof.Rows.callWith_type1 ?_ he hpl0) (by decide) (by decide))
  rw [he]
  show wpAny _ _ (spliced ((false, eval (.Call (.Name "zip" p2) [e, e2] [] pos2) X.env) :: backTo pos (starEach [] X.env))) _ _ s
  refine Calls.spliced_cons ?_
  refine wpAny_Call_Name_kw (ld_blt I hg2 hm2 PyProof.Rows.boot_zip (PyProof.Rows.callWith_type1 (thn (ha.run pos2 pins s σ H _ I h) fun us s1 ⟨vs, H1, I1, r1, q1⟩ => ?_) hs hpl) (by decide) (by decide))
  obtain ⟨a, b, xs, ys, es, ex, hqx, hqy, hl, hh, hn, q⟩ := q1
  subst ex
  cases r1 with
  | cons r rr =>
    cases rr with
    | cons r' rr =>
      cases rr
      cases r
      cases r'
      obtain ⟨its, rv, p1, hz1⟩ := I1.list hqx
      obtain ⟨its2, rv2, p2', hz2⟩ := I1.tuple hqy
      have la : a < s1.heap.objs.size := p1.lt
      have lb : b < s1.heap.objs.size := p2'.lt
      refine zip_begins2 (begins_list a its.toArray) (begins_tuple b its2.toArray) p1.isList (show s1.heap.IsTuple b its2.toArray from p2') fun h' hz hTI hTO h1 h2 hsz hk => ?_
      refine Calls.spliced_nil ?_
      obtain ⟨ps, g1, g2, g3, g4, g5⟩ := dz_pairs es xs ys its its2 rv rv2 hl hh
      have l1 := rv.length
      have l2 := rv2.length
      have hnp : (ps.map (·.1)).Nodup := by rw [g3]; exact hn
      have hle : s1.heap.objs.size ≤ h'.objs.size := by rw [hsz]; exact Nat.le_add_right _ _
      have hwr : ∀ c ∈ [s1.heap.objs.size + 4, s1.heap.objs.size + 3, s1.heap.objs.size, s1.heap.objs.size + 1], s1.heap.objs.size ≤ c := fun c hc => by
        simp only [List.mem_cons, List.not_mem_nil, or_false] at hc
        rcases hc with rfl | rfl | rfl | rfl
        · exact Nat.le_add_right _ _
        · exact Nat.le_add_right _ _
        · exact Nat.le_refl _
        · exact Nat.le_add_right _ _
      refine call_dict_pairsH (s := { s1 with heap := h' }) (knd := tupleKind (L2.mixKind X.prog X.w)) (ps := ps) (PairArg.zipLT la lb its.toArray its2.toArray) (I1.ok.hd hcalm) ?_ ⟨hz, hTI, ⟨_, _, hTO⟩, ⟨⟨_, h1, rfl, rfl⟩, p1.isList.at fun o e => hk _ o e⟩, ⟨_, h2, rfl, rfl⟩, (show s1.heap.IsTuple b its2.toArray from p2').at fun o e => hk _ o e⟩ ?_ ?_ ?_ fun h'' tk hd' hkk => ?_
      · refine tupleKind_room_in1 (A := X.A.in1) ?_
        show X.A.units + 1 + 1 < cLine
        omega
      · refine ⟨by rw [g2, hl]; simp [l1, l2], fun i key v hr => ?_⟩
        exact g5 i key v (by simpa using hr.1) (by simpa using hr.2)
      · intro h2' hst x hx
        have hkey := key_of I1.hok (g4 x hx)
        have hlt : x.2.1 < s1.heap.objs.size := I1.hok.lt (g4 x hx)
        refine tupleKind_stays.stays (h := s1.heap) (fun c o vs n e1 e2 => ?_) hkey
        have hc : c < s1.heap.objs.size := Heap.lt_size e1
        exact hst c o (Nat.ne_of_lt (Nat.lt_of_lt_of_le hc hle)) (fun hm' => Nat.lt_irrefl _ (Nat.lt_of_lt_of_le hc (hwr c hm'))) (hk c o e1)
      · have : its.toArray.size ≤ sizeLine := by simp only [List.size_toArray]; omega
        exact Nat.le_trans (Nat.min_le_left _ _) this
      · rw [storedAllH_nil_of_nodup ps hnp] at hd'
        have hp : H1 h'.objs.size = none := I1.hok.fresh hle
        have hbig : (h'.objs.size == sysModules) = false := beq_eq_false_iff_ne.mpr (Nat.ne_of_gt (Nat.lt_of_lt_of_le I1.big hle))
        refine ⟨.ref h'.objs.size, _, I1.laid (t' := tk) (h' := h'') (fun c o e => hkk c o (fun hm' => Nat.lt_irrefl _ (Nat.lt_of_lt_of_le (Heap.lt_size e) (hwr c hm'))) (hk c o e)) hle ?_, rfl, q _ hp⟩
        obtain ⟨o, es', ep, ho, hc, hdat, hes, _, hnd⟩ := hd'
        refine ⟨?_, hbig, ps, L2.Paired.mapP g1 fun x y hxy => ⟨hxy.1, ?_, hxy.2.2⟩, o, es', ep, ho, hc, hdat, hes, hnd⟩
        · rw [List.length_map, hl]
          exact Nat.le_trans (Nat.min_le_left _ _) (by omega)
        · rw [upd_ne (ne_of_none hxy.2.1 hp)]
          exact hxy.2.1
/-! ### dict(zip(..)) as data -/
section
variable {X : Cx} {K : PySem.W.Frag} {a b c e o elt iter tgE : Expr} {es ifs : List Expr} {fa fb fc fe fo : E} {fs : List E} {pos pos2 p p2 tpos : Pos} {st : Stmt} {f g : S}
theorem map_kV (k : List Int) : (k.map Sum.inl : List Key).map kV = k.map V.int := by
  rw [List.map_map]
  rfl
theorem toInts_len : ∀ {ds : List D} {ns : List Int}, toInts ds = some ns → ns.length = ds.length
  | [], ns, h => by rw [toInts] at h; cases h; rfl
  | .int i :: ds, ns, h => by
    rw [toInts, Option.map_eq_some_iff] at h
    obtain ⟨ms, e1, rfl⟩ := h
    rw [List.length_cons, List.length_cons, toInts_len e1]
  | .non :: _, _, h => by simp [toInts] at h
  | .bl _ :: _, _, h => by simp [toInts] at h
  | .str _ :: _, _, h => by simp [toInts] at h
  | .tup _ :: _, _, h => by simp [toInts] at h
  | .lst _ :: _, _, h => by simp [toInts] at h
  | .h _ :: _, _, h => by simp [toInts] at h
theorem toInts_eq : ∀ {ds : List D} {ns : List Int}, toInts ds = some ns → ds = ns.map D.int
  | [], ns, h => by rw [toInts] at h; cases h; rfl
  | .int i :: ds, ns, h => by
    rw [toInts, Option.map_eq_some_iff] at h
    obtain ⟨ms, e1, rfl⟩ := h
    rw [List.map_cons, toInts_eq e1]
  | .non :: _, _, h => by simp [toInts] at h
  | .bl _ :: _, _, h => by simp [toInts] at h
  | .str _ :: _, _, h => by simp [toInts] at h
  | .tup _ :: _, _, h => by simp [toInts] at h
  | .lst _ :: _, _, h => by simp [toInts] at h
  | .h _ :: _, _, h => by simp [toInts] at h
theorem dz_es {B : Hp} {β : List Addr} : ∀ (xs ys : List D) (vs us : List V) (ks : List (List Int)), IsL B β vs xs → IsL B β us ys → keysOf (xs.take ys.length) = some ks →
    ∃ es : List Ent, es.length = min vs.length us.length ∧ (∀ (i : Nat) (e : Ent), es[i]? = some e → vs[i]? = some (.ref e.2.1) ∧ us[i]? = some e.2.2 ∧ B e.2.1 = some (.tup (e.1.map kV))) ∧
      es.map (·.1) = ks.map (fun k => k.map Sum.inl) ∧ KvIs B β (es.map fun e => (e.1, e.2.2)) (ks.zip ys)
  | xs, [], vs, us, ks, h1, h2, h => by
    rw [List.length_nil, List.take_zero, keysOf] at h
    cases h
    rw [isL_nil_iff.mp h2]
    exact ⟨[], by simp, (fun i e he => by simp at he), rfl, rfl, (by simp [isL_nil]), (fun p hp => by simp at hp)⟩
  | [], y :: ys, vs, us, ks, h1, h2, h => by
    rw [List.take_nil, keysOf] at h
    cases h
    rw [isL_nil_iff.mp h1]
    exact ⟨[], by simp, (fun i e he => by simp at he), rfl, rfl, (by simp [isL_nil]), (fun p hp => by simp at hp)⟩
  | x :: xs, y :: ys, vs, us, ks, h1, h2, h => by
    rw [IsL] at h1 h2
    obtain ⟨v, r, rfl, hv, hr⟩ := h1
    obtain ⟨u, r2, rfl, hu, hr2⟩ := h2
    rw [List.length_cons, List.take_succ_cons] at h
    cases x with
    | tup ds =>
      rw [keysOf] at h
      cases e1 : toInts ds with
      | none => rw [e1] at h; simp at h
      | some k =>
        cases e2 : keysOf (xs.take ys.length) with
        | none => rw [e1, e2] at h; simp at h
        | some kr =>
          rw [e1, e2] at h
          cases h
          obtain ⟨es, g1, g2, g3, g4, g5, g6⟩ := dz_es xs ys r r2 kr hr hr2 e2
          obtain ⟨q, ws, rfl, hB, hl, hi⟩ := is_tup.mp hv
          refine ⟨(k.map Sum.inl, q, u) :: es, by rw [List.length_cons, List.length_cons, List.length_cons, g1]; omega, fun i e he => ?_, by rw [List.map_cons, List.map_cons, g3], ?_, ?_, ?_⟩
          · cases i with
            | zero =>
              have he : (k.map Sum.inl, q, u) = e := by simpa using he
              subst he
              exact ⟨rfl, rfl, by rw [hB, isL_ints hi e1, map_kV]⟩
            | succ i => exact g2 i e (by simpa using he)
          · simpa using g4
          · simpa using isL_cons hu (by simpa using g5)
          · intro p hp
            rw [List.zip_cons_cons] at hp
            rcases List.mem_cons.mp hp with rfl | hp
            · exact (toInts_len e1).symm ▸ hl
            · exact g6 p hp
    | _ => simp [keysOf] at h
theorem kv_len {B : Hp} {β : List Addr} {kvs : List (List Key × V)} {ps : List (List Int × D)} (h : KvIs B β kvs ps) : kvs.length = ps.length := by
  have := congrArg List.length h.1
  simpa using this
theorem inl_inj : ∀ {a b : List Int}, (a.map Sum.inl : List Key) = b.map Sum.inl → a = b
  | [], [], _ => rfl
  | [], _ :: _, h => nomatch h
  | _ :: _, [], h => nomatch h
  | x :: xs, y :: ys, h => by
    rw [List.map_cons, List.map_cons] at h
    injection h with h1 h2
    injection h1 with h1
    rw [h1, inl_inj h2]
theorem nd_inl {ks : List (List Int)} (h : ks.Nodup) : (ks.map fun k => (k.map Sum.inl : List Key)).Nodup := by
  rw [List.nodup_iff_pairwise_ne] at h ⊢
  rw [List.pairwise_map]
  exact h.imp fun hab z => hab (inl_inj z)
theorem de_dictZip (hcalm : X.calm = true) (hu : X.A.units + 64 < cLine) (hg : Gl X "dict") (hm : X.mg "dict" = none) (hg2 : Gl X "zip") (hm2 : X.mg "zip" = none) (ha : DE X a fa) (hb : DE X b fb)
    (he0 : starEach [.Call (.Name "zip" p2) [a, b] [] pos2] X.env = (false, eval (.Call (.Name "zip" p2) [a, b] [] pos2) X.env) :: starEach [] X.env := by rfl)
    (hpl0 : (backTo pos (starEach [] X.env)).any (·.1) = false := by rfl)
    (he : starEach [a, b] X.env = (false, eval a X.env) :: starEach [b] X.env := by rfl) (he2 : starEach [b] X.env = (false, eval b X.env) :: starEach [] X.env := by rfl) (hpl : (backTo pos2 (starEach [b] X.env)).any (·.1) = false := by rfl) :
    DE X (.Call (.Name "dict" p) [.Call (.Name "zip" p2) [a, b] [] pos2] [] pos) (eOp2 dicZip fa fb) := pe_weak (pe_dictZip hcalm hu hg hm hg2 hm2 (pa_cons ha (pa_cons hb pa_nil he2) he) he0 hpl0 he hpl) fun σ H Q h => by
  obtain ⟨B0, β0, μ0, Γ, rp0, en0, rn0⟩ := h
  refine tD_of rp0 en0 rn0 fun B β μ H1 v d rp en j0 rn => ⟨B, β, μ, Γ, rp, en, rn.bind fun B1 β1 μ1 H2 u e x rp1 j1 rn1 => ?_⟩
  have j := j0.ext x
  cases d with
  | lst xs =>
    cases e with
    | tup ys =>
      obtain ⟨a1, vs, rfl, h1, h2, h3, h3', h4⟩ := is_lst' rp1 j
      obtain ⟨b1, us, rfl, k1, k2, k3, k3', k4⟩ := is_tup' rp1 j1
      unfold dicZip at rn1
      dsimp only at rn1
      cases hk : keysOf (xs.take ys.length) with
      | none => rw [hk] at rn1; exact rn1.fail.elim
      | some ks =>
        rw [hk] at rn1
        obtain ⟨hnd, rn1⟩ := Run.ite rn1
        obtain ⟨es, g1, g2, g3, g4⟩ := dz_es xs ys vs us ks h4 k4 hk
        have gl := kv_len g4
        refine ⟨a1, b1, vs, us, es, rfl, SqL.of h1, SqT.of k1, g1, fun i e he => ⟨(g2 i e he).1, (g2 i e he).2.1, rp1.sub _ _ (g2 i e he).2.2⟩, by rw [g3]; exact nd_inl hnd, fun q hq => ?_⟩
        obtain ⟨d, μ', e, k⟩ := rn1
        cases e
        have hl : (ks.zip ys).length ≤ lim := by
          rw [← gl, List.length_map, g1]
          exact Nat.le_trans (Nat.min_le_left _ _) h3
        refine k B1 (β1 ++ [q]) _ _ (rp1.allocExt hq) (rp1.alloc hq ⟨Same.free rp1.sub hq, hl, _, ⟨g4.1, g4.2.1.mono (Same.refl _) (List.prefix_append _ _), g4.2.2⟩, upd_same⟩) (is_h.mpr ⟨q, rfl, ?_⟩)
        rw [← rp1.len]
        simp
    | _ => exact rn1.fail.elim
  | _ => cases e <;> exact rn1.fail.elim
/-! ### d[k] -/
theorem kv_find {B : Hp} {β : List Addr} : ∀ {kvs : List (List Key × V)} {ps : List (List Int × D)} {k : List Int} {d : D}, KvIs B β kvs ps → findK k ps = some d → ∃ v, valV kvs (k.map Sum.inl) = some v ∧ Is B β v d
  | _, [], _, _, _, h => by simp [findK] at h
  | [], _ :: _, _, _, h, _ => by have := h.1; simp at this
  | (j, v) :: kvs, (j', d') :: ps, k, d, ⟨h1, h2, h3⟩, h => by
    rw [List.map_cons, List.map_cons] at h1 h2
    injection h1 with e1 e2
    have e1 : j = j'.map Sum.inl := e1
    obtain ⟨i1, i2⟩ := isL_cons_iff.mp h2
    rw [findK] at h
    by_cases hj : j' = k
    · rw [if_pos hj] at h
      cases h
      exact ⟨v, valV_pos (by rw [e1, hj]), i1⟩
    · rw [if_neg hj] at h
      obtain ⟨v', g1, g2⟩ := kv_find (kvs := kvs) ⟨e2, i2, fun p hp => h3 p (List.mem_cons_of_mem _ hp)⟩ h
      refine ⟨v', ?_, g2⟩
      rw [valV_neg, g1]
      intro z
      have z : j = k.map Sum.inl := z
      rw [e1] at z
      exact hj (inl_inj z)
theorem de_getD (hu : X.A.units + 64 < cLine) (ha : DE X a fa) (hb : DE X b fb) (hs : NoSl b := by intro _ _; rfl) : DE X (.Subscript a b pos) (eOp2 getD fa fb) := pe_weak (pe_dget (by omega) ha hb hs) fun σ H Q h => by
  obtain ⟨B0, β0, μ0, Γ, rp0, en0, rn0⟩ := h
  refine tD_of rp0 en0 rn0 fun B β μ H1 v d rp en j0 rn => ⟨B, β, μ, Γ, rp, en, rn.bind fun B1 β1 μ1 H2 u e x rp1 j1 rn1 => ?_⟩
  have j := j0.ext x
  cases d with
  | h n =>
    cases e with
    | tup ds =>
      obtain ⟨oo, ho, rn1⟩ := Run.get rn1
      obtain ⟨aa, rfl, hb, hm⟩ := mo_read rp1 j ho
      obtain ⟨b1, us, rfl, k1, k2, k3, k3', k4⟩ := is_tup' rp1 j1
      cases oo with
      | dic lk kvs =>
        dsimp only at rn1
        cases hk : toInts ds with
        | none => rw [hk] at rn1; exact rn1.fail.elim
        | some k =>
          rw [hk] at rn1
          dsimp only at rn1
          cases hf : findK k kvs with
          | none => rw [hf] at rn1; exact rn1.fail.elim
          | some d =>
            rw [hf] at rn1
            have hk1 : H2 b1 = some (.tup ((k.map Sum.inl).map kV)) := by rw [k1, isL_ints k4 hk, map_kV]
            cases lk with
            | true =>
              obtain ⟨_, kvs', od, hkv, _, h6⟩ := hm
              obtain ⟨v, g1, g2⟩ := kv_find hkv hf
              exact ⟨aa, v, rfl, .inr ⟨kvs', _, b1, .inr ⟨od, h6⟩, rfl, hk1, g1.symm⟩, rn1.here rp1 g2⟩
            | false =>
              obtain ⟨_, _, kvs', hkv, h6⟩ := hm
              obtain ⟨v, g1, g2⟩ := kv_find hkv hf
              exact ⟨aa, v, rfl, .inr ⟨kvs', _, b1, .inl h6, rfl, hk1, g1.symm⟩, rn1.here rp1 g2⟩
      | _ => exact rn1.fail.elim
    | _ => exact rn1.fail.elim
  | _ => cases e <;> exact rn1.fail.elim
/-! ### the keys, the dict locked -/
theorem di_keys {tg : Expr} (ha : DE X a fa) : DI X tg a (wKeys fa) := pi_weak (pi_keys ha) fun σ H Q h => by
  obtain ⟨B, β, μ, Γ, rp, en, rn⟩ := h
  refine tD_of rp en rn fun B β μ H1 v d rp en j rn => ?_
  cases d with
  | h n =>
    dsimp only at rn
    obtain ⟨oo, ho, rn⟩ := Run.get rn
    obtain ⟨aa, rfl, hb, hm⟩ := mo_read rp j ho
    cases oo with
    | dic lk kvs =>
      cases lk with
      | false => exact rn.fail.elim
      | true =>
        obtain ⟨hl, kvs', od, hkv, h5, h6⟩ := hm
        have el := kv_len hkv
        refine ⟨aa, od, rfl, .inr ⟨kvs', h6, rn.here rp ⟨by rw [List.length_map]; exact hl, fun B1 β1 μ1 H2 sm pr rp1 go => ?_⟩⟩⟩
        have h7 : H2 aa = some (.frz od (.dT kvs')) := rp1.sub _ _ (sm _ _ h5)
        rw [List.length_map]
        refine ⟨fun i hi => ⟨h7, by omega⟩, fun i hi => ⟨h7, by omega⟩, fun i v H' hi y => ?_⟩
        obtain ⟨rfl, k, v', q, e1, rfl, e2⟩ := y
        obtain ⟨r1, r2⟩ := rp1.adoptT e2
        have hk : ∃ d, kvs[i]? = some d ∧ k = d.1.map Sum.inl := by
          have := congrArg (fun l => l[i]?) hkv.1
          simp only [List.getElem?_map, e1] at this
          cases hd : kvs[i]? with
          | none => rw [hd] at this; simp at this
          | some d => rw [hd] at this; exact ⟨d, rfl, by simpa using this⟩
        obtain ⟨d, hd, rfl⟩ := hk
        refine ⟨_, .tup (d.1.map D.int), r2, r1, by rw [List.getElem?_map, hd]; rfl, is_tup.mpr ⟨q, _, rfl, upd_same, ?_, ?_⟩⟩
        · rw [List.length_map]
          exact hkv.2.2 d (List.mem_of_getElem? hd)
        · rw [map_kV]
          exact isL_of_ints _
    | _ => exact rn.fail.elim
  | _ => exact rn.fail.elim
def del (B : Hp) (p : Addr) : Hp := fun b => if b = p then none else B b
theorem del_ne {B : Hp} {p b : Addr} (h : b ≠ p) : del B p b = B b := if_neg h
mutual
theorem Is.del {B : Hp} {β : List Addr} {p : Addr} {od : Obj} {w : HO} (hp : B p = some (.frz od w)) : ∀ {d : D} {v : V}, Is B β v d → Is (del B p) β v d
  | .non, _, h => is_non.mpr (is_non.mp h)
  | .bl _, _, h => is_bl.mpr (is_bl.mp h)
  | .int _, _, h => is_int.mpr (is_int.mp h)
  | .str _, _, h => is_str.mpr (is_str.mp h)
  | .tup ds, _, h => by
    obtain ⟨a, vs, e, h1, h2, h3⟩ := is_tup.mp h
    exact is_tup.mpr ⟨a, vs, e, by rw [del_ne (fun z => by subst z; rw [hp] at h1; cases h1)]; exact h1, h2, IsL.del hp h3⟩
  | .lst ds, _, h => by
    obtain ⟨a, vs, e, h1, h2, h3⟩ := is_lst.mp h
    exact is_lst.mpr ⟨a, vs, e, by rw [del_ne (fun z => by subst z; rw [hp] at h1; cases h1)]; exact h1, h2, IsL.del hp h3⟩
  | .h n, _, h => is_h.mpr (is_h.mp h)
theorem IsL.del {B : Hp} {β : List Addr} {p : Addr} {od : Obj} {w : HO} (hp : B p = some (.frz od w)) : ∀ {ds : List D} {vs : List V}, IsL B β vs ds → IsL (del B p) β vs ds
  | [], _, h => by rw [isL_nil_iff.mp h]; exact isL_nil
  | d :: ds, vs, h => by
    rw [IsL] at h
    obtain ⟨v, r, rfl, h1, h⟩ := h
    exact isL_cons (Is.del hp h1) (IsL.del hp h)
end
theorem Rep.lock {B H : Hp} {β : List Addr} {μ : Store} (r : Rep K B H β μ) {n : Nat} {d : Addr} {kvs : List (List Int × D)} {kvs' : List (List Key × V)} (e : β[n]? = some d) (hb : B d = none) (hl : kvs.length ≤ lim) (hkv : KvIs B β kvs' kvs) (od : Obj) :
    Rep K (upd B d (.frz od (.dT kvs'))) (upd H d (.frz od (.dT kvs'))) β (μ.set n (.dic true kvs)) := by
  have sm : Same B (upd B d (.frz od (.dT kvs'))) := DL.same_upd hb
  refine ⟨by simp [r.len], r.nd, same_upd2 r.sub, fun m c k e1 e2 => ?_⟩
  by_cases hm : m = n
  · subst hm
    rw [e] at e1; cases e1
    have hl' : m < μ.length := by rw [← r.len]; exact (List.getElem?_eq_some_iff.mp e).1
    rw [List.getElem?_set_self hl'] at e2; cases e2
    exact ⟨hl, kvs', od, ⟨hkv.1, hkv.2.1.mono sm (List.prefix_refl _), hkv.2.2⟩, upd_same, upd_same⟩
  · rw [List.getElem?_set_ne (Ne.symm hm)] at e2
    have hc : c ≠ d := fun z => hm (nd_get r.nd (z ▸ e1) e)
    have h := r.obj m c k e1 e2
    have at' : ∀ x, H c = some x → (upd H d (.frz od (.dT kvs'))) c = some x := fun x q => by rw [upd_ne hc]; exact q
    have bt' : ∀ x, B c = x → (upd B d (.frz od (.dT kvs'))) c = x := fun x q => by rw [upd_ne hc]; exact q
    cases k with
    | dead => obtain ⟨x, h⟩ := h; exact ⟨x, at' _ h⟩
    | scr ns =>
      obtain ⟨h1, ⟨x, h2, nt⟩, h3, h4⟩ := h
      refine ⟨bt' _ h1, ⟨x, at' _ h2, nt⟩, h3, ?_⟩
      rcases h4 with (h4 | ⟨o4, h4⟩) | h4
      · exact .inl (.inl (at' _ h4))
      · exact .inl (.inr ⟨o4, at' _ h4⟩)
      · exact .inr h4
    | lst ds => obtain ⟨h1, h2, vs, h3, h4⟩ := h; exact ⟨bt' _ h1, h2, vs, at' _ h3, h4.mono sm (List.prefix_refl _)⟩
    | dic lk kv =>
      cases lk with
      | true =>
        obtain ⟨h1, kv', od', ⟨h3, h4, h9⟩, h5, h6⟩ := h
        exact ⟨h1, kv', od', ⟨h3, h4.mono sm (List.prefix_refl _), h9⟩, bt' _ h5, at' _ h6⟩
      | false =>
        obtain ⟨h1, h2, kv', ⟨h3, h4, h9⟩, h5⟩ := h
        exact ⟨bt' _ h1, h2, kv', ⟨h3, h4.mono sm (List.prefix_refl _), h9⟩, at' _ h5⟩
    | dco ks => exact ⟨bt' _ h.1, at' _ h.2⟩
theorem Rep.unlock {B H : Hp} {β : List Addr} {μ : Store} (r : Rep K B H β μ) {n : Nat} {d : Addr} {kvs : List (List Int × D)} {kvs' : List (List Key × V)} {od : Obj} (e : β[n]? = some d) (hb : B d = some (.frz od (.dT kvs'))) (hl : kvs.length ≤ lim) (hkv : KvIs B β kvs' kvs) :
    Rep K (del B d) (upd H d (.dT kvs')) β (μ.set n (.dic false kvs)) := by
  refine ⟨by simp [r.len], r.nd, fun b x q => ?_, fun m c k e1 e2 => ?_⟩
  · by_cases hbd : b = d
    · subst hbd
      unfold DL.del at q
      rw [if_pos rfl] at q; cases q
    · rw [upd_ne hbd]
      rw [del_ne hbd] at q
      exact r.sub _ _ q
  by_cases hm : m = n
  · subst hm
    rw [e] at e1; cases e1
    have hl' : m < μ.length := by rw [← r.len]; exact (List.getElem?_eq_some_iff.mp e).1
    rw [List.getElem?_set_self hl'] at e2; cases e2
    exact ⟨if_pos rfl, hl, kvs', ⟨hkv.1, hkv.2.1.del hb, hkv.2.2⟩, upd_same⟩
  · rw [List.getElem?_set_ne (Ne.symm hm)] at e2
    have hc : c ≠ d := fun z => hm (nd_get r.nd (z ▸ e1) e)
    have h := r.obj m c k e1 e2
    have at' : ∀ x, H c = some x → (upd H d (.dT kvs')) c = some x := fun x q => by rw [upd_ne hc]; exact q
    have bt' : ∀ x, B c = x → (del B d) c = x := fun x q => by rw [del_ne hc]; exact q
    cases k with
    | dead => obtain ⟨x, h⟩ := h; exact ⟨x, at' _ h⟩
    | scr ns =>
      obtain ⟨h1, ⟨x, h2, nt⟩, h3, h4⟩ := h
      refine ⟨bt' _ h1, ⟨x, at' _ h2, nt⟩, h3, ?_⟩
      rcases h4 with (h4 | ⟨o4, h4⟩) | h4
      · exact .inl (.inl (at' _ h4))
      · exact .inl (.inr ⟨o4, at' _ h4⟩)
      · exact .inr h4
    | lst ds => obtain ⟨h1, h2, vs, h3, h4⟩ := h; exact ⟨bt' _ h1, h2, vs, at' _ h3, h4.del hb⟩
    | dic lk kv =>
      cases lk with
      | true =>
        obtain ⟨h1, kv', od', ⟨h3, h4, h9⟩, h5, h6⟩ := h
        exact ⟨h1, kv', od', ⟨h3, h4.del hb, h9⟩, bt' _ h5, at' _ h6⟩
      | false =>
        obtain ⟨h1, h2, kv', ⟨h3, h4, h9⟩, h5⟩ := h
        exact ⟨bt' _ h1, h2, kv', ⟨h3, h4.del hb, h9⟩, at' _ h5⟩
    | dco ks => exact ⟨bt' _ h.1, at' _ h.2⟩
theorem lockH_some {n : Nat} {lk : Bool} {μ μ' : Store} {x : Unit} (h : lockH n lk μ = some (x, μ')) : ∃ kvs, μ[n]? = some (.dic (!lk) kvs) ∧ μ' = μ.set n (.dic lk kvs) := by
  unfold lockH at h
  obtain ⟨o, μ1, e1, e2⟩ := bind_some h
  unfold getH at e1
  cases ho : μ[n]? with
  | none => rw [ho] at e1; cases e1
  | some o' =>
    rw [ho] at e1; cases e1
    cases o with
    | dic b kvs =>
      dsimp only at e2
      by_cases hb : b = lk
      · rw [if_pos hb] at e2; cases e2
      · rw [if_neg hb] at e2
        unfold setH at e2
        split at e2
        · cases e2
          refine ⟨kvs, ?_, rfl⟩
          cases b <;> cases lk <;> simp_all
        · cases e2
    | _ => cases e2
theorem ds_lock {i : Nat} (h : DS X st f) : DS X st (sLock i f) := ps_weak (ps_lock h) fun Ed σ H h => by
  obtain ⟨B, β, μ, Γ, rp, en, r, μ3, e0, q⟩ := h
  obtain ⟨dv, μ1, e1, e2⟩ := bind_some e0
  clear e0
  unfold eVar at e1
  cases hg : Γ[i]? with
  | none => rw [hg] at e1; cases e1
  | some ov =>
    cases ov with
    | none => rw [hg] at e1; cases e1
    | some dd =>
      rw [hg] at e1
      cases e1
      obtain ⟨v, hv1, hv2⟩ := en.get i _ hg
      cases dv with
      | h n =>
        obtain ⟨u1, μ4, e3, e4⟩ := bind_some e2
        obtain ⟨r1, μ5, e5, e6⟩ := bind_some e4
        obtain ⟨u2, μ6, e7, e8⟩ := bind_some e6
        clear e2 e4 e6
        cases e8
        obtain ⟨kvs, ho, rfl⟩ := lockH_some e3
        obtain ⟨kvs2, ho2, rfl⟩ := lockH_some e7
        obtain ⟨d, rfl, hd, hm⟩ := mo_read rp hv2 ho
        obtain ⟨hb, hl, kvs', hkv, hH⟩ := hm
        refine ⟨d, _, hH, True.intro, fun od => ⟨_, β, _, Γ, rp.lock hd hb hl hkv od, ⟨en.len, fun j x hx => ?_⟩, r, μ5, e5, fun B' β' H' c x rp' j => ?_⟩⟩
        · obtain ⟨w1, w2, w3⟩ := en.get j x hx
          exact ⟨w1, w2, w3.mono (DL.same_upd hb) (List.prefix_refl _)⟩
        · have hd' : β'[n]? = some d := pre_get x.pre hd
          have hB' : B' d = some (.frz od (.dT kvs')) := x.same _ _ upd_same
          obtain ⟨hl2, kvs2', od2, hkv2, hB2, hH2⟩ := rp'.obj n d _ hd' ho2
          rw [hB'] at hB2
          cases hB2
          have ext : Ext B β H (del B' d) β' (upd H' d (.dT kvs')) := by
            refine ⟨fun b o z => ?_, x.pre, fun b o z nt nb => ?_⟩
            · have hbd : b ≠ d := fun y => by rw [y, hb] at z; cases z
              rw [del_ne hbd]
              exact x.same _ _ (by rw [upd_ne hbd]; exact z)
            · have hbd : b ≠ d := fun y => nb (y ▸ List.mem_of_getElem? hd)
              obtain ⟨z1, z2, z3⟩ := x.fr b o (by rw [upd_ne hbd]; exact z) nt nb
              rw [upd_ne hbd] at z2
              rw [upd_ne hbd, del_ne hbd]
              exact ⟨z1, z2, z3⟩
          have fin := q (del B' d) β' (upd H' d (.dT kvs')) c ext (rp'.unlock hd' hB' hl2 hkv2) ⟨⟨j.1.len, fun k y hy => by
            obtain ⟨w1, w2, w3⟩ := j.1.get k y hy
            exact ⟨w1, w2, w3.del hB'⟩⟩, by
            obtain ⟨_, j2⟩ := j
            obtain ⟨c1, c2⟩ := c
            obtain ⟨r1, r2⟩ := r
            cases c2 <;> cases r2 <;> first
              | exact j2
              | exact Is.del hB' j2⟩
          obtain ⟨c1, c2⟩ := c
          cases c2 <;> exact ⟨hH2, fin⟩
      | _ => cases e2
end
end DL
/-! DDco: {k: v for ..} with keys that are ints or None -/
namespace DL
open PySem PySem.Spec PyProof.Rows L2
theorem dco_empty {P : Program} {w : World} {H : Hp} (h : Heap) (hb : sysModules < h.objs.size) : ObjOk P w H (h.push { cls := .type "dict", data := .dict #[] }) h.objs.size (dcoH h.objs.size []) :=
  dco_ok (beq_eq_false_iff_ne.mpr (Nat.ne_of_gt hb)) (Nat.zero_le _) (Heap.DictOf.new h) rfl
theorem putKs_len (ks : List (Option Int)) (k : Option Int) : (putKs ks k).length ≤ ks.length + 1 := by
  unfold putKs
  split
  · omega
  · rw [List.length_append]; exact Nat.le_refl _
theorem lf_stored (k : Option Int) (r : Value) {vs : List (Leaf × Value)} {ks : List (Option Int)} (h : vs.map (·.1) = ks.map lfO) : (stored vs (lfO k) r).map (·.1) = (putKs ks k).map lfO := by
  have hv := lf_val k h
  have ha : (vs.any fun kv => decide (kv.1 = lfO k)) = ks.contains k := by
    rw [← hv]
    clear hv h
    induction vs with
    | nil => rfl
    | cons v vs ih =>
      rw [List.any_cons, ih]
      by_cases e : v.1 = lfO k
      · simp [valueAt, List.find?_cons, e]
      · simp [valueAt, List.find?_cons, e]
  unfold stored putKs
  rw [ha]
  by_cases hc : ks.contains k = true
  · rw [if_pos hc, if_pos hc, ← h, List.map_map]
    refine List.map_congr_left fun x _ => ?_
    by_cases e : x.1 = lfO k <;> simp [e]
  · rw [if_neg hc, if_neg hc, List.map_append, List.map_append, h]
    rfl
theorem dco_dictSet {X : Cx} {pins : List (Addr × Obj)} {σ : L2.St} {H : Hp} {s : Shared} {E : Value → Shared → Prop} {D : Addr} {ks : List (Option Int)} {k : Option Int} {v : V} {u r : Value} {Q : Unit → Shared → Prop} (I : Inv X pins σ H s) (hD : H D = some (dcoH D ks)) (hz : ks.length < sizeLine)
    (ry : RelV (kVO k) u) (rv : RelV v r) (h : ∀ s', Inv X pins σ (upd H D (dcoH D (putKs ks k))) s' → Q () s') : wpAny (model X.prog X.w) X.A (dictSet D u r) Q E s := by
  obtain ⟨z, hd, vs, dd, ek⟩ := dco_rd I.hok hD
  have el : vs.length = ks.length := by simpa using congrArg List.length ek
  have hzv : vs.length ≤ sizeLine := by rw [el]; exact z
  have hl : (putKs ks k).length ≤ sizeLine := by have := putKs_len ks k; omega
  refine wpAny_dictSet_pairs (hsz := hzv) (kVO_is ry) dd fun h' dd' hs => h _ ?_
  have he : ∃ q, h'.get? D = some q := let ⟨q, _, _, hq, _⟩ := dd'; ⟨q, hq⟩
  exact d_write I (by rw [hD]; exact True.intro) hs he (dco_ok hd hl dd' (lf_stored k r ek))
section
variable {X : Cx}
/-- {k: v for target in iter if ..}, keys ints or None: D the new dict (turned from HandS.DictComp's, whose keys are ints and texts) -/
def tDl (wi : TI) (g : TG) (tt : TT) (tk tv : TE) (vs : List Nat) : TE := fun σ H Q => wi σ H fun J H1 => ∀ D, H1 D = none → ∃ W : Nat → Nat → Hp → Prop, (∃ m, W 0 m (upd H1 D (dcoH D []))) ∧ ∀ i m H, W i m H →
  (J.stop i H ∧ Q (.ref D) H) ∨ (J.go i H ∧ ∃ Nx : Hp → Prop, (∀ H', Nx H' → ∃ m', m' < m ∧ W (i + 1) m' H') ∧ ∀ x H', J.yld i H x H' → g x (L2.wipe σ vs) H' fun σ2 H2 => L2.wipe σ2 vs = L2.wipe σ vs ∧ tt σ2 H2 fun b H3 =>
    if b = true then tk σ2 H3 fun y H4 => tv σ2 H4 fun z H5 => ∃ ks k, y = kVO k ∧ H5 D = some (dcoH D ks) ∧ ks.length < sizeLine ∧ Nx (upd H5 D (dcoH D (putKs ks k))) else Nx H3)
theorem dl_core {pins : List (Addr × Obj)} {s : Shared} {σ : L2.St} {H : Hp} {Q : VK} {kx vx tg iter : Expr} {ifs : List Expr} {scope : Scope} {own : List (Str × Nat)} {pos pos' : Pos} {wi : TI} {g : TG} {tt : TT} {tk tv : TE} {use : Option (Value → Sem Unit)} {Qf : Value → Shared → Prop}
    (hc : X.calm = true) (hN : X.N.Nodup) (I : Inv X pins σ H s) (hi : PI X tg iter wi) (ok : BlkOk X.N X.env.scope scope own)
    (hg : ∀ (s : Shared) (H : Hp) (C : Addr) (cl : List (Str × Addr)) (fp : List Addr), PG (X.blk s H scope (compEnvC scope cl C X.env) fp) tg g) (ht : ∀ (s : Shared) (H : Hp) (C : Addr) (cl : List (Str × Addr)) (fp : List Addr), PTs (X.blk s H scope (compEnvC scope cl C X.env) fp) ifs tt)
    (hk : ∀ (s : Shared) (H : Hp) (C : Addr) (cl : List (Str × Addr)) (fp : List Addr), PE (X.blk s H scope (compEnvC scope cl C X.env) fp) kx tk)
    (he : ∀ (s : Shared) (H : Hp) (C : Addr) (cl : List (Str × Addr)) (fp : List Addr), PE (X.blk s H scope (compEnvC scope cl C X.env) fp) vx tv) (hs : ∀ x, foldedSetIterable iter X.env x = pure x)
    (h : tDl wi g tt tk tv (own.map (·.2)) σ H Q)
    (hRR : ∀ D C s' m H', Inv X pins σ H' s' → Q (.ref D) H' → s'.heap.Ns C m → FpOk X pins H' C → compPost (model X.prog X.w) X.A X.xe use Qf (.ref D) C (.ok .next) s') :
    wpAny (model X.prog X.w) X.A (comprehension (.DictComp kx vx [⟨tg, iter, ifs, 0⟩] scope pos) scope X.env pos' newDict false (eval iter X.env) use) Qf X.xe s := by
  have hfree : ∀ y ∈ scope.names, y.2 = .free → ∃ c, X.env.cells.lookup y.1 = some c := fun y hy e => by
    rcases ok.free y hy e with k | k
    · exact I.ok.has _ (.inl k)
    · exact I.ok.has _ (.inr k)
  refine wpAny_comprehension_free (use := use) rfl hs (closure_ok hfree) ok.kind (fun y hy e => by rw [ok.uniq y hy, e])
    (thn (hi.run pins s σ H _ I h) fun xv s1 hx => thn hx fun itv s2 h2 => ?_)
  obtain ⟨it, fp, tn, J, H2, e, I2, T, st2, f2, q⟩ := h2
  subst e
  refine wpAny_newObj_type (newEnv_comp ?_)
  generalize hD : s2.heap.objs.size = D
  have hDn : H2 D = none := I2.hok.fresh (Nat.le_of_eq hD)
  obtain ⟨W, ⟨m0, w0⟩, turn⟩ := q D hDn
  -- the new list
  generalize hs3 : ({ s2 with heap := s2.heap.push { cls := .type "dict", data := .dict #[] } } : Shared) = s3
  have I3 : Inv X pins σ (upd H2 D (dcoH D [])) s3 := by
    rw [← hs3]
    refine I2.laid (t' := s2.toks) (fun b o e => Heap.get?_push_of_some _ e) (Nat.le_of_eq hD) ?_
    rw [← hD]
    exact dco_empty s2.heap I2.big
  have h3 : s3.heap = s2.heap.push { cls := .type "dict", data := .dict #[] } := by rw [← hs3]
  have sz : ∀ b ∈ fp, b < s2.heap.objs.size := fun b hb => by
    obtain ⟨o, e, _⟩ := T.obj _ _ st2 b hb
    exact Heap.lt_size e
  have f3 : ∀ b ∈ fp, FpOk X pins (upd H2 D (dcoH D [])) b ∧ b < s3.heap.objs.size := fun b hb => by
    have hlt := sz b hb
    refine ⟨⟨?_, (f2 b hb).2⟩, by rw [h3, Heap.size_push]; exact Nat.lt_succ_of_lt hlt⟩
    rw [upd_ne (by rw [← hD]; exact Nat.ne_of_lt hlt)]
    exact (f2 b hb).1
  have st3 : tn 0 s3.heap := T.keep _ _ _ st2 fun b _ o e => by rw [h3]; exact Heap.get?_push_of_some _ e
  have I4 := block_start I3 ok hN f3
  have pg := hg s3 (upd H2 D (dcoH D [])) s3.heap.objs.size (cellsFrom (s3.heap.objs.size + 1) scope.names (cloFrom X.env.cells scope.names [])) fp
  have pt := ht s3 (upd H2 D (dcoH D [])) s3.heap.objs.size (cellsFrom (s3.heap.objs.size + 1) scope.names (cloFrom X.env.cells scope.names [])) fp
  have pk := hk s3 (upd H2 D (dcoH D [])) s3.heap.objs.size (cellsFrom (s3.heap.objs.size + 1) scope.names (cloFrom X.env.cells scope.names [])) fp
  have pe := he s3 (upd H2 D (dcoH D [])) s3.heap.objs.size (cellsFrom (s3.heap.objs.size + 1) scope.names (cloFrom X.env.cells scope.names [])) fp
  show codeAny _ _ (.compStart (.DictComp kx vx [⟨tg, iter, ifs, 0⟩] scope pos) 0 (.ref it) (.ref D) (compEnvC scope (cellsFrom (s3.heap.objs.size + 1) scope.names (cloFrom X.env.cells scope.names [])) s3.heap.objs.size X.env)) (compPost (model X.prog X.w) X.A X.xe use Qf (.ref D) s3.heap.objs.size) { s3 with heap := pushCells (s3.heap.push { cls := .type "dict", data := .dict #[] }) scope.names }
  have nfp : ∀ b ∈ fp, (upd H2 D (dcoH D [])) b = none := fun b hb => (f3 b hb).1.1
  generalize hce : compEnvC scope (cellsFrom (s3.heap.objs.size + 1) scope.names (cloFrom X.env.cells scope.names [])) s3.heap.objs.size X.env = ce at I4 pg pt pk pe ⊢
  have cL : ce.locals = s3.heap.objs.size := by subst hce; rfl
  generalize hH3 : upd H2 D (dcoH D []) = H3 at I3 I4 pg pt pk pe w0 nfp f3
  generalize hs4 : ({ s3 with heap := pushCells (s3.heap.push { cls := .type "dict", data := .dict #[] }) scope.names } : Shared) = s4 at I4 ⊢
  have st4 : tn 0 s4.heap := T.keep _ _ _ st3 fun b _ o e => by rw [← hs4]; exact pushCells_keeps _ _ _ _ (Heap.get?_push_of_some _ e)
  have stat : ∀ {σ' : L2.St} {H' : Hp} {s' : Shared}, Inv (X.blk s3 H3 scope ce fp) [] σ' H' s' → (∀ b ∈ fp, H' b = none) → ∀ b ∈ fp, FpOk (X.blk s3 H3 scope ce fp) [] H' b := fun {σ' H' s'} I' hn b hb =>
    ⟨hn b hb, (I'.ok.exf b hb).1, I'.ok.exfs b hb, .inl hb, fun x c e => (I'.ok.exf b hb).2 x c e, fun p hp => absurd (show p ∈ ([] : List (Addr × Obj)) ++ [] from hp) (by simp)⟩
  have loop : codeAny (model X.prog X.w) X.A (.compLoop (.DictComp kx vx [⟨tg, iter, ifs, 0⟩] scope pos) 0 (.ref it) (.ref D) ce) (compPost (model X.prog X.w) X.A X.xe use Qf (.ref D) s3.heap.objs.size) s4 := by
    refine compLoop_anyD (fun n s' => ∃ i H', Inv (X.blk s3 H3 scope ce fp) [] (L2.wipe σ (own.map (·.2))) H' s' ∧ tn i s'.heap ∧ (∀ b ∈ fp, H' b = none) ∧ W i n H') ?_ m0 ⟨0, H3, I4, st4, nfp, w0⟩
    rintro n s5 ⟨i, H5, I5, st5, n5, w5⟩
    rcases turn i n H5 w5 with ⟨stop, qq⟩ | ⟨go, Nx, hNx, step⟩
    · have td := T.done (X.blk s3 H3 scope ce fp) rfl rfl rfl hc i [] s5 _ H5 (fun _ _ => False) I5 (stat I5 n5) st5 stop
      refine thnF td fun r s6 ⟨hr, I6⟩ => ?_
      subst hr
      -- back in the def's context
      have I7 : Inv X pins σ H5 s6 := I3.call' (ch := fp) I6.os I6.base I6.hok I6.bare fun b hb => ⟨(f3 b hb).1.2.2.2.1, (f3 b hb).1.2.1, (f3 b hb).1.2.2.2.2.1, (f3 b hb).1.2.2.2.2.2⟩
      have nC : H5 s3.heap.objs.size = none := by
        have z : H5 ce.locals = none := I6.free
        rw [cL] at z
        exact z
      obtain ⟨m, hn, _⟩ := I6.loc
      have hn : s6.heap.Ns ce.locals m := hn
      rw [cL] at hn
      exact hRR D s3.heap.objs.size s6 m H5 I7 qq hn (I3.fpOk (Nat.le_refl _) nC)
    · have ti := T.item (X.blk s3 H3 scope ce fp) rfl rfl rfl hc i [] s5 _ H5 (fun _ _ => False) I5 (stat I5 n5) st5 go
      refine thnF ti fun r s6 ⟨u, hr, h6⟩ => ?_
      subst hr
      refine thnF h6 fun _ s7 ⟨x, H7, I7, r7, y7, st7, n7⟩ => ?_
      have I7' := I7.pinned (stat I7 n7) (T.obj _ _ st7)
      refine thnF (pg.run _ s7 _ H7 x u _ I7' r7 (step x H7 y7)) fun _ s8 ⟨σ8, H8, I8, hw8, q8⟩ => ?_
      refine thnF (pt.run _ s8 σ8 H8 _ I8 q8) fun b s9 ⟨H9, I9, q9⟩ => ?_
      -- the turn's end
      have fin : ∀ {s' : Shared} {H' : Hp}, Inv (X.blk s3 H3 scope ce fp) ([] ++ pinsAt fp s7.heap) σ8 H' s' → Nx H' → ∃ m, m < n ∧ ∃ i H', Inv (X.blk s3 H3 scope ce fp) [] (L2.wipe σ (own.map (·.2))) H' s' ∧ tn i s'.heap ∧ (∀ b ∈ fp, H' b = none) ∧ W i m H' := fun {s' H'} I' nx => by
        obtain ⟨m', hm, w'⟩ := hNx H' nx
        have pin' : ∀ b ∈ fp, ∀ o, s7.heap.get? b = some o → s'.heap.get? b = some o ∧ H' b = none := fun b hb o e =>
          let z := I'.pin (b, o) (List.mem_append_right _ (List.mem_append_right _ (mem_pinsAt hb e)))
          ⟨z.1, z.2.1⟩
        have hl : (L2.wipe σ (own.map (·.2))).length = σ8.length := by rw [← hw8, wipe_length]
        refine ⟨m', hm, i + 1, H', (I'.unpinned (pins := [])).weak hl (fun j v e => ?_), T.keep _ _ _ st7 fun b hb o e => (pin' b hb o e).1, fun b hb => ?_, w'⟩
        · rw [← hw8] at e
          exact (wipe_some e).1
        · obtain ⟨o, e, _⟩ := T.obj _ _ st7 b hb
          exact (pin' b hb o e).2
      cases b with
      | false =>
        simp only [Bool.false_eq_true, if_false] at q9 ⊢
        exact fin I9 q9
      | true =>
        simp only [if_true] at q9 ⊢
        refine thnF (pk.run _ s9 σ8 H9 _ I9 q9) fun z s10 ⟨yk, H10, I10, r10, q10⟩ => ?_
        refine thnF (pe.run _ s10 σ8 H10 _ I10 q10) fun z2 s11 ⟨yv, H11, I11, r11, kvs, k, ek, hD11, hz11, nx⟩ => ?_
        subst ek
        exact dco_dictSet (X := X.blk s3 H3 scope ce fp) I11 hD11 hz11 r10 r11 fun s12 I12 => fin I12 nx
  exact codeAny_compStart_dict loop (T.self X.A 0 _ _ _ st4 loop)
/-- as a value -/
theorem pe_dl {kx vx tg iter : Expr} {ifs : List Expr} {scope : Scope} {own : List (Str × Nat)} {pos : Pos} {wi : TI} {g : TG} {tt : TT} {tk tv : TE} (hc : X.calm = true) (hN : X.N.Nodup) (hi : PI X tg iter wi) (ok : BlkOk X.N X.env.scope scope own)
    (hg : ∀ (s : Shared) (H : Hp) (C : Addr) (cl : List (Str × Addr)) (fp : List Addr), PG (X.blk s H scope (compEnvC scope cl C X.env) fp) tg g) (ht : ∀ (s : Shared) (H : Hp) (C : Addr) (cl : List (Str × Addr)) (fp : List Addr), PTs (X.blk s H scope (compEnvC scope cl C X.env) fp) ifs tt)
    (hk : ∀ (s : Shared) (H : Hp) (C : Addr) (cl : List (Str × Addr)) (fp : List Addr), PE (X.blk s H scope (compEnvC scope cl C X.env) fp) kx tk)
    (he : ∀ (s : Shared) (H : Hp) (C : Addr) (cl : List (Str × Addr)) (fp : List Addr), PE (X.blk s H scope (compEnvC scope cl C X.env) fp) vx tv) (hs : ∀ x, foldedSetIterable iter X.env x = pure x := by intro _; rfl) :
    PE X (.DictComp kx vx [⟨tg, iter, ifs, 0⟩] scope pos) (tDl wi g tt tk tv (own.map (·.2))) := by
  refine ⟨fun pins s σ H Q I h => ?_⟩
  rw [arm_eval_DictComp]
  refine dl_core hc hN I hi ok hg ht hk he hs h fun D C s' m H' I' q hn f => ⟨m, hn, fun h'' sb => ?_⟩
  obtain ⟨f0, f1, f2, f3, f4, f5⟩ := f
  exact ⟨.ref D, H', I'.turned (t' := s'.toks) (fun b o hb e => (sb.2 b hb).trans e) f0 f1 f3 f4 f5, rfl, q⟩
end
section
variable {X : Cx} {K : PySem.W.Frag} {a b c e o elt iter tgE kx vx : Expr} {es ifs : List Expr} {fa fb fc fe fo fk fv : E} {fs : List E} {pos p p2 tpos : Pos}
theorem Rep.adoptH {B H : Hp} {β : List Addr} {μ : Store} {o : MO} (r : Rep K B H β μ) {p : Addr} (hp : p ∉ β) (ho : MoIs K B H (β ++ [p]) p o) : Rep K B H (β ++ [p]) (μ ++ [o]) := by
  refine ⟨by simp [r.len], ?_, r.sub, fun n a m e1 e2 => ?_⟩
  · rw [List.nodup_append]
    refine ⟨r.nd, by simp, fun a ha b hb => ?_⟩
    have : b = p := by simpa using hb
    subst this
    exact fun e => hp (e ▸ ha)
  · by_cases hn : n < β.length
    · rw [List.getElem?_append_left hn] at e1
      rw [List.getElem?_append_left (by rw [← r.len]; exact hn)] at e2
      exact (r.obj n a m e1 e2).mono (Same.refl _) (List.prefix_append _ _) (fun h => h) (Same.refl _)
    · have hl : n = β.length := by
        have := (List.getElem?_eq_some_iff.mp e1).1
        simp at this; omega
      subst hl
      have ea : a = p := by simpa using e1.symm
      have em : m = o := by rw [r.len] at e2; simpa using e2.symm
      rw [ea, em]
      exact ho
theorem t_dcomp {vs : List Nat} {w : W} {tg : Tg} (hsl : ∀ i ∈ tg.slots, i ∈ vs) {σ : L2.St} {H : Hp} {Q : VK} (h : tD K (eDcomp vs w tg fk fv) σ H Q) : tDl (tI K w) (tG tg) tYes (tD K fk) (tD K fv) vs σ H Q := by
  obtain ⟨B, β, μ, Γ, rp, en, rn⟩ := h
  refine ⟨B, β, μ, Γ, rp, en, rn.bind fun B1 β1 μ1 H1 J pr x rp1 jI rn1 => fun L hL => ?_⟩
  obtain ⟨its, g⟩ := pr
  have jI : ItIs K B1 β1 J its g := jI
  obtain ⟨d, μ2, e0, q⟩ := rn1
  obtain ⟨zs, μz, e1, e2⟩ := bind_some e0
  cases e2
  have en1 := en.ext x
  let Wp : Nat → Hp → Prop := fun i H' => ∃ B' β' μ' ks, Ext B1 β1 H1 B' β' H' ∧ Rep K B' H' β' μ' ∧ H' L = some (dcoH L ks) ∧ L ∉ β' ∧ B' L = none ∧ ks.length ≤ i ∧ compK g its (oneK vs tg fk fv Γ) (its.drop i) ks μ' = some (zs, μz)
  refine ⟨fun i m H' => m = its.length - i ∧ i ≤ its.length ∧ Wp i H', ⟨its.length, rfl, Nat.zero_le _, B1, β1, μ1, [], Ext.refl.poke hL, rp1.junk hL, upd_same, rp1.notin hL, Same.free rp1.sub hL, Nat.le_refl _, e1⟩, ?_⟩
  rintro i m H2 ⟨rfl, hi, B2, β2, μ3, ks, x2, rp2, hL2, nD, bD, ly, er⟩
  by_cases hlt : i < its.length
  · have ed : its.drop i = its[i] :: its.drop (i + 1) := List.drop_eq_getElem_cons hlt
    rw [ed] at er
    obtain ⟨u0, μ4, g1, er1⟩ := bind_some er
    clear er
    obtain ⟨e4, go⟩ := gok_of g1
    subst e4
    obtain ⟨k, μ5, f1, er2⟩ := bind_some er1
    clear er1
    obtain ⟨hgo, _, hyld⟩ := jI.run B2 β2 μ4 H2 x2.same x2.pre rp2 go
    refine .inr ⟨hgo i hlt, Wp (i + 1), fun H' w' => ⟨its.length - (i + 1), by omega, rfl, hlt, w'⟩, fun v H3 y => ?_⟩
    obtain ⟨B3, d, x3, rp3, hd, jv⟩ := hyld i v H3 hlt y
    have ed2 : d = its[i] := by rw [List.getElem?_eq_getElem hlt] at hd; exact (Option.some.inj hd).symm
    subst ed2
    have hLx : H3 L = some (dcoH L ks) ∧ B3 L = B2 L ∧ L ∉ β2 := x3.fr L _ hL2 nt_ext nD
    unfold oneK at f1
    obtain ⟨Γ', μ7, p1, f2⟩ := bind_some f1
    clear f1
    obtain ⟨ky, μ8, k1, f3⟩ := bind_some f2
    obtain ⟨kv, μ9, v1, f4⟩ := bind_some f3
    clear f2 f3
    cases hput : tg.put its[i] (wipe Γ vs) with
    | none => rw [hput] at p1; cases p1
    | some Γ2 =>
      rw [hput] at p1
      cases p1
      have enw : EnvOk B3 β2 (L2.wipe σ vs) (wipe Γ vs) := ((en1.ext x2).ext x3).wiped vs
      refine ⟨B3, β2, wipe Γ vs, its[i], Γ', jv, enw, rp3.sub, hput, fun σ2 en2 kept => ⟨(kept vs hsl).trans (wipe_idem σ vs), ?_⟩⟩
      simp only [tYes, ↓reduceIte]
      refine ⟨B3, β2, _, Γ', rp3, en2, ky, μ8, k1, fun B4 β4 H4 yv x4 rp4 j4 => ⟨B4, β4, μ8, Γ', rp4, en2.ext x4, kv, μ9, v1, fun B5 β5 H5 zv x5 rp5 j5 => ?_⟩⟩
      obtain ⟨w1, w2, w3⟩ := (x4.trans x5).fr L _ hLx.1 nt_ext hLx.2.2
      have bD5 : B5 L = none := by rw [w2, hLx.2.1]; exact bD
      have fin : yv = kVO k ∧ μ5 = μ9 := by
        cases ky with
        | int i => cases f4; exact ⟨is_int.mp j4, rfl⟩
        | non => cases f4; exact ⟨is_non.mp j4, rfl⟩
        | _ => cases f4
      obtain ⟨ey, e9⟩ := fin
      subst e9
      refine ⟨ks, k, ey, w1, ?_, B5, β5, _, putKs ks k, (x2.trans (x3.trans (x4.trans x5))).poke hL, rp5.poke bD5 w3, upd_same, w3, bD5, Nat.le_trans (putKs_len ks k) (by omega), er2⟩
      have := jI.len
      exact lim_lt (by omega)
  · have ei : i = its.length := by omega
    subst ei
    rw [List.drop_length] at er
    obtain ⟨u0, μ4, g1, er1⟩ := bind_some er
    clear er
    obtain ⟨e4, go⟩ := gok_of g1
    subst e4
    cases er1
    obtain ⟨_, hst, _⟩ := jI.run B2 β2 _ H2 x2.same x2.pre rp2 go
    refine .inl ⟨hst _ (Nat.le_refl _), ?_⟩
    refine q B2 (β2 ++ [L]) H2 (.ref L) ⟨x2.same, x2.pre.trans (List.prefix_append _ _), fun b o h nt n => ?_⟩ (rp2.adoptH nD ⟨bD, hL2⟩) (is_h.mpr ⟨L, rfl, by rw [← rp2.len]; simp⟩)
    obtain ⟨h1, h2, h3⟩ := x2.fr b o h nt n
    exact ⟨h1, h2, by simp [h3, ne_of_none h hL]⟩
theorem de_dcomp {scope : Scope} {own : List (Str × Nat)} {w : W} {tg : Tg} (hc : X.calm = true) (hN : X.N.Nodup) (hi : DI X tgE iter w) (ok : BlkOk X.N X.env.scope scope own)
    (hg : ∀ (s : Shared) (H : Hp) (C : Addr) (cl : List (Str × Addr)) (fp : List Addr), DG (X.blk s H scope (compEnvC scope cl C X.env) fp) tgE tg)
    (hk : ∀ (s : Shared) (H : Hp) (C : Addr) (cl : List (Str × Addr)) (fp : List Addr), DE (X.blk s H scope (compEnvC scope cl C X.env) fp) kx fk)
    (he : ∀ (s : Shared) (H : Hp) (C : Addr) (cl : List (Str × Addr)) (fp : List Addr), DE (X.blk s H scope (compEnvC scope cl C X.env) fp) vx fv) (hsl : ∀ i ∈ tg.slots, i ∈ own.map (·.2)) (hs : ∀ x, foldedSetIterable iter X.env x = pure x := by intro _; rfl) :
    DE X (.DictComp kx vx [⟨tgE, iter, [], 0⟩] scope pos) (eDcomp (own.map (·.2)) w tg fk fv) := pe_weak (pe_dl hc hN hi ok hg (fun _ _ _ _ _ => pts_nil) hk he hs) fun σ H Q h => t_dcomp hsl h
end
end DL
/-! DEnd: the module's facts without its lists; the law's promise; ghosts -/
namespace DL
open PySem PySem.Spec PyProof.Rows L2
def isLs (o : Obj) : Bool := (match o.cls with | .type "list" => true | _ => false) && (match o.data with | .seq _ _ => true | _ => false)
/-- the fragment without the module's own lists -/
def noList (K : PySem.W.Frag) : PySem.W.Frag := K.filter fun p => match K.lookup p.1 with | some o => !isLs o | none => true
theorem lookup_filter {α : Type} (q : Addr → Bool) (a : Addr) : ∀ K : List (Addr × α), (K.filter fun p => q p.1).lookup a = if q a = true then K.lookup a else none
  | [] => by simp
  | (b, o) :: K => by
    have ih := lookup_filter q a K
    by_cases hq : q b = true
    · rw [List.filter_cons, if_pos hq]
      by_cases hb : a = b
      · subst hb
        simp [List.lookup, hq]
      · have hb' : (a == b) = false := by simpa using hb
        rw [List.lookup_cons, hb', List.lookup_cons, hb']
        exact ih
    · rw [List.filter_cons, if_neg hq]
      by_cases hb : a = b
      · subst hb
        rw [ih, if_neg hq, if_neg hq]
      · have hb' : (a == b) = false := by simpa using hb
        rw [ih, List.lookup_cons, hb']
theorem noList_eq (K : PySem.W.Frag) (a : Addr) : (noList K).lookup a = if (match K.lookup a with | some o => !isLs o | none => true) = true then K.lookup a else none :=
  lookup_filter (fun a => match K.lookup a with | some o => !isLs o | none => true) a K
theorem noList_keep {K : PySem.W.Frag} {a : Addr} {o : Obj} (h : K.lookup a = some o) (ho : isLs o = false) : (noList K).lookup a = some o := by
  rw [noList_eq, h]
  simp [ho]
theorem noList_of {K : PySem.W.Frag} {a : Addr} {o : Obj} (h : (noList K).lookup a = some o) : K.lookup a = some o ∧ isLs o = false := by
  rw [noList_eq] at h
  cases hk : K.lookup a with
  | none => rw [hk] at h; simp at h
  | some o' =>
    rw [hk] at h
    dsimp only at h
    split at h
    · cases h
      rename_i hh
      exact ⟨rfl, by simpa using hh⟩
    · cases h
theorem noList_in {K : PySem.W.Frag} {h : Heap} (X : K.In h) : (noList K).In h := fun a o e => X a o (noList_of e).1
theorem funD_less {K : PySem.W.Frag} {x qual : Str} {params : Arguments} {body : List Stmt} {scope : Scope} {f : Addr} {fd : FuncData} (F : FunD K x qual params body scope [] [] f fd) : FunD (noList K) x qual params body scope [] [] f fd := by
  obtain ⟨oc, od, dV, kV, doc, pm, an, cdv, ct, osl, e1, e2, e3, e4, e5⟩ := F.ex
  have k2 := noList_keep e2 (by unfold isLs; simp)
  refine ⟨⟨oc, od, dV, kV, doc, pm, an, cdv, ct, osl, e1, k2, ?_, ?_, .inl rfl⟩, ?_⟩
  · unfold PySem.W.codeIn at e3 ⊢
    cases cdv with
    | ref c =>
      dsimp only at e3 ⊢
      cases hc : K.lookup c with
      | none => rw [hc] at e3; cases e3
      | some o =>
        rw [hc] at e3
        obtain ⟨c1, c2, c3, c4⟩ := o
        cases c3 with
        | fields vs =>
          rw [noList_keep hc (by unfold isLs; simp)]
          exact e3
        | _ => cases e3
    | _ => cases e3
  · rcases e4 with e4 | ⟨e4, _⟩
    · exact .inl e4
    · exact absurd rfl e4
  · unfold PySem.W.keepIn
    dsimp only
    rw [k2]
theorem law_sp {K : PySem.W.Frag} {py : List D → M D} (h : ∀ ns : List Int, ns.length ≤ 63 → wp (py [.h 0]) (fun d _ => d = .bl true) [.scr ns]) (H : Hp) (a : Addr) (ns : List Int) (hl : ns.length ≤ 63) (hO : Only H) (hS : SqL (noList K) H a (ns.map V.int)) (E : XK) :
    spD (noList K) 1 py [.ref a] H (fun v _ => v = .bl true) E := by
  have hH : ∃ o, H a = some (.frz o (.lst (ns.map V.int))) := by
    rcases hS with (hS | ⟨o, hS⟩) | ⟨o, its, n, h1, h2, h3, h4, _⟩
    · rcases hO a with z | ⟨o, xs, z⟩
      · rw [z] at hS; cases hS
      · rw [z] at hS; cases hS
    · exact ⟨o, hS⟩
    · obtain ⟨_, h5⟩ := noList_of h1
      unfold isLs at h5
      rw [h2, h4] at h5
      cases h5
  obtain ⟨o, hH⟩ := hH
  obtain ⟨d, μ', e, rfl⟩ := h ns hl
  refine ⟨rfl, fun _ => none, [a], [.scr ns], [.h 0], ⟨rfl, by simp, (fun b o h => nomatch h), fun n b m e1 e2 => ?_⟩, isL_cons (is_h.mpr ⟨a, rfl, rfl⟩) isL_nil, .bl true, μ', e, fun B' β' H' c x r j => is_bl.mp j⟩
  cases n with
  | succ n => simp at e1
  | zero =>
    have e1 : a = b := by simpa using e1
    have e2 : MO.scr ns = m := by simpa using e2
    subst e1 e2
    exact ⟨rfl, ⟨_, hH, nt_frz⟩, Nat.le_trans hl (by decide), hS⟩
/-! ### what is never reached; ghosts -/
section
variable {X : Cx} {e : Expr} {st : Stmt} {f : S}
theorem ds_never : DS X st (fun _ => M.fail) := ⟨fun pins s σ H D I h => by
  obtain ⟨B, β, μ, Γ, rp, en, rn⟩ := h
  exact (Run.fail rn).elim⟩
theorem de_never : DE X e (fun _ => M.fail) := ⟨fun pins s σ H Q I h => by
  obtain ⟨B, β, μ, Γ, rp, en, rn⟩ := h
  exact (Run.fail rn).elim⟩
theorem ds_ghost {i : Nat} (h : DS X st f) : DS X st (sSeq (sFrz i) f) := ps_weak h fun Ed σ H h => by
  obtain ⟨B, β, μ, Γ, rp, en, r, μ3, e0, q⟩ := h
  obtain ⟨⟨Γ1, fl⟩, μ1, e1, e2⟩ := bind_some e0
  clear e0
  unfold sFrz at e1
  obtain ⟨dv, μ4, e3, e4⟩ := bind_some e1
  obtain ⟨d2, μ5, e5, e6⟩ := bind_some e4
  clear e1 e4
  cases e6
  have e2 : f (Γ.set i (some d2)) μ1 = some (r, μ3) := e2
  unfold eVar at e3
  cases hg : Γ[i]? with
  | none => rw [hg] at e3; cases e3
  | some ov =>
    cases ov with
    | none => rw [hg] at e3; cases e3
    | some dd =>
      rw [hg] at e3
      cases e3
      obtain ⟨v, hv1, hv2⟩ := en.get i _ hg
      cases dv with
      | h n =>
        unfold frzD at e5
        obtain ⟨o, μ6, e7, e8⟩ := bind_some e5
        unfold getH at e7
        cases ho : μ[n]? with
        | none => rw [ho] at e7; cases e7
        | some o' =>
          rw [ho] at e7
          cases e7
          obtain ⟨d, rfl, hd, hm⟩ := mo_read rp hv2 ho
          cases o with
          | lst ds =>
            obtain ⟨u, μ7, e9, e10⟩ := bind_some e8
            unfold setH at e9
            split at e9
            · cases e9
              cases e10
              obtain ⟨hB, hl, vs, h5, h6⟩ := hm
              have ext := rp.freezeExt (u := .lst vs) hd hB
              have hs : EnvOk (upd B d (.lst vs)) β σ (Γ.set i (some (.lst ds))) := ⟨by rw [List.length_set]; exact en.len, fun j x hx => by
                by_cases hj : i = j
                · subst hj
                  have hi : i < Γ.length := (List.getElem?_eq_some_iff.mp hg).1
                  rw [List.getElem?_set_self hi] at hx
                  cases hx
                  exact ⟨_, hv1, is_newL hB h6 hl⟩
                · rw [List.getElem?_set_ne hj] at hx
                  exact (en.ext ext).get j x hx⟩
              exact ⟨_, β, _, _, rp.freeze hd hB h5, hs, r, μ3, e2, fun B' β' H' c x => q B' β' H' c (ext.trans x)⟩
            · cases e9
          | _ => cases e8
      | _ => cases e5
end
end DL
/-! DSm2: more of the plain semantics -/
namespace DL
open PySem
/-! ### sorted(list of pairs (state, number)) -/
def leP (p q : List Int × Int) : Bool := decide (p.1 < q.1 ∨ (p.1 = q.1 ∧ p.2 ≤ q.2))
def toPairs : List D → Option (List (List Int × Int))
  | [] => some []
  | .tup [.tup ds, .int a] :: r => match toInts ds, toPairs r with
    | some s, some ps => some ((s, a) :: ps)
    | _, _ => none
  | _ :: _ => none
def encPr (p : List Int × Int) : D := .tup [.tup (p.1.map .int), .int p.2]
def sortedD : D → M D
  | .lst ds => match toPairs ds with
    | some ps => pure (.lst ((ps.mergeSort leP).map encPr))
    | none => M.fail
  | _ => M.fail
end DL
/-! DSrt: sorted(list of pairs (state, number)) -/
namespace DL
open PySem PySem.Spec PyProof.Rows L2
abbrev Pr := List Int × Int
def encP (p : Pr) : PyData := .tuple [.tuple (p.1.map .int), .int p.2]
theorem eqv_ints : ∀ a b : List Int, PyData.eqvAll (a.map .int) (b.map .int) = (a == b)
  | [], [] => by simp [PyData.eqvAll]
  | [], y :: ys => by simp [PyData.eqvAll]
  | x :: xs, [] => by simp [PyData.eqvAll]
  | x :: xs, y :: ys => by
    rw [List.map_cons, List.map_cons, PyData.eqvAll, eqv_ints xs ys]
    by_cases h : x = y <;> simp [PyData.eqv, h]
theorem dataLe_pr : PySem.W.dataLe false encP = leP := by
  funext p q
  show (!PySem.W.dataLt (encP q) (encP p)) = leP p q
  unfold encP leP
  rw [PySem.W.dataLt_pair (by rw [PySem.W.alike]; exact PySem.W.alike_ints _ _) (by simp [PySem.W.alike]), PySem.W.dataLt_tuple, PySem.W.dataLt_int]
  have e1 : PyData.eqv (.tuple (q.1.map PyData.int)) (.tuple (p.1.map PyData.int)) = (q.1 == p.1) := by rw [PyData.eqv, eqv_ints]
  have e2 := PySem.W.dataLt_ints q.1 p.1
  unfold PySem.W.rowLt at e2
  rw [e1, e2]
  by_cases h : q.1 = p.1
  · rw [h]
    have hi : ¬ p.1 < p.1 := List.lt_irrefl p.1
    rw [if_pos (beq_self_eq_true _)]
    by_cases h2 : q.2 = p.2
    · simp [PyData.eqv, h2, hi]
    · simp [PyData.eqv, h2, hi]
      rw [Bool.eq_iff_iff]
      simp
      try omega
  · have h3 : (q.1 == p.1) = false := by simpa using h
    have h4 : ¬ p.1 = q.1 := fun e => h e.symm
    rw [h3, if_neg Bool.false_ne_true]
    rw [Bool.eq_iff_iff]
    simp [h4]
    rw [List.le_iff_lt_or_eq]
    simp [h4]
/-- sorted(l), l a list of such pairs: bs, its values with what they are -/
def rSortPr (K : PySem.W.Frag) : List V → Hp → VK → Prop := fun vs H Q => ∃ (a : Addr) (bs : List (V × Pr)), vs = [.ref a] ∧ SqL K H a (bs.map (·.1)) ∧ (∀ b ∈ bs, Dp K H b.1 (encP b.2)) ∧ ∀ p, H p = none → Q (.ref p) (upd H p (.lst ((bs.mergeSort fun x y => leP x.2 y.2).map (·.1))))
theorem each_of {R : V → Pr → Value → Prop} : ∀ {bs : List (V × Pr)} {its : List Value}, Vals (bs.map (·.1)) its → PySem.W.EachIs (fun (u : Value) (b : V × Pr) => RelV b.1 u) its bs
  | [], _, .nil => .nil
  | b :: bs, _, .cons r h => .cons r (each_of (R := R) h)
theorem vals_of_each : ∀ {bs : List (V × Pr)} {out : List Value}, PySem.W.EachIs (fun (u : Value) (b : V × Pr) => RelV b.1 u) out bs → Vals (bs.map (·.1)) out
  | _, _, .nil => .nil
  | _, _, .cons r h => .cons r (vals_of_each h)
theorem each_reads {X : Cx} {pins : List (Addr × Obj)} {σ : L2.St} {H : Hp} {s : Shared} (I : Inv X pins σ H s) : ∀ {bs : List (V × Pr)} {its : List Value}, (∀ b ∈ bs, Dp X.K H b.1 (encP b.2)) → Vals (bs.map (·.1)) its → PySem.W.EachIs (fun (u : Value) (b : V × Pr) => ∃ as, Reads s.heap u (encP b.2) as) its bs
  | [], _, _, .nil => .nil
  | b :: bs, _, h, .cons r hr => .cons (Dp.reads I _ _ _ (h b List.mem_cons_self) r) (each_reads I (fun c hc => h c (List.mem_cons_of_mem _ hc)) hr)
theorem call_sortPr {X : Cx} (hu : X.A.units + 64 < cLine) : CallR X (.builtin "sorted") (rSortPr X.K) := by
  intro pins s σ H xs us Q I r q
  obtain ⟨a, bs, rfl, hq, hd, q⟩ := q
  obtain ⟨u, rfl, rx⟩ := vals1 r
  obtain rfl : u = Value.ref a := rx
  obtain ⟨its, rv, pl, hz⟩ := I.list hq
  rw [List.length_map] at hz
  refine PySem.W.sorted_data (enc := fun b : V × Pr => encP b.2) pl.isList (each_of (R := fun _ _ _ => True) rv) (each_reads I hd rv) ?_ ?_ hz ?_ fun out hl he => ?_
  · intro d hd d' hd'
    obtain ⟨b, _, rfl⟩ := List.mem_map.mp hd
    obtain ⟨b', _, rfl⟩ := List.mem_map.mp hd'
    unfold encP
    simp [PySem.W.alike, PySem.W.alikeAll, PySem.W.alike_ints]
  · exact .inl fun d hd => by
      obtain ⟨b, _, rfl⟩ := List.mem_map.mp hd
      exact ⟨_, _, rfl⟩
  · intro b hb
    have : (encP b.2).depth ≤ 2 := by
      unfold encP
      simp [PyData.depth, PyData.depthAll, PySem.W.depth_ints]
    omega
  · have hle : PySem.W.dataLe false (fun b : V × Pr => encP b.2) = fun x y => leP x.2 y.2 := by
      funext x y
      have := congrFun (congrFun dataLe_pr x.2) y.2
      exact this
    rw [hle] at he
    obtain ⟨ep, he'⟩ := PyProof.Rows.sortedAll_at s.heap its out.toArray
    have hlen : ((bs.mergeSort fun x y => leP x.2 y.2).map (·.1)).length ≤ sizeLine := by
      rw [List.length_map, List.length_mergeSort]; exact hz
    exact ⟨.ref _, upd H (s.heap.objs.size + 1) (.lst ((bs.mergeSort fun x y => leP x.2 y.2).map (·.1))), I.laid (t' := s.toks) (fun _ _ => PyProof.Rows.sortedAll_old) (Nat.le_succ _) ⟨hlen, out, ep, vals_of_each he, he'⟩, rfl, q _ (I.hok.fresh (Nat.le_succ _))⟩
section
variable {X : Cx} {K : PySem.W.Frag} {a : Expr} {fa : E} {p pos : Pos}
theorem toP_encPr (x : Pr) : toP (encPr x) = encP x := by
  unfold encPr encP
  simp [toP]
theorem flt_encPr (x : Pr) : flt 60 (encPr x) = true := by
  have : ∀ s : List Int, fltL 58 (s.map D.int) = true := by
    intro s
    induction s with
    | nil => rfl
    | cons y s ih => rw [List.map_cons, fltL, ih]; rfl
  unfold encPr
  simp [flt, fltL, this]
theorem toPairs_eq : ∀ {ds : List D} {ps : List Pr}, toPairs ds = some ps → ds = ps.map encPr
  | [], ps, h => by rw [toPairs] at h; cases h; rfl
  | d :: ds, ps, h => by
    unfold toPairs at h
    split at h
    · rename_i e; cases e
    · rename_i r xs i e
      cases e
      split at h
      · rename_i s qs h1 h2
        cases h
        rw [List.map_cons, ← toPairs_eq h2, toInts_eq h1]
        rfl
      · cases h
    · cases h
theorem c_sortPr : Call1 K (rSortPr K) sortedD := by
  intro B H β μ v d Q rp hv rn
  cases d with
  | lst ds =>
    obtain ⟨aa, vs, rfl, h1, h2, h3, h3', h4⟩ := is_lst' rp hv
    unfold sortedD at rn
    dsimp only at rn
    cases hp : toPairs ds with
    | none => rw [hp] at rn; exact rn.fail.elim
    | some ps =>
      rw [hp] at rn
      have hds := toPairs_eq hp
      subst hds
      rw [List.length_map] at h3'
      have z1 : (vs.zip ps).map (·.1) = vs := List.map_fst_zip (by omega)
      have z2 : (vs.zip ps).map (·.2) = ps := List.map_snd_zip (by omega)
      have each : ∀ b ∈ vs.zip ps, Is B β b.1 (encPr b.2) := by
        intro b hb
        obtain ⟨i, hi⟩ := List.mem_iff_getElem?.mp hb
        obtain ⟨e1, e2⟩ := List.getElem?_zip_eq_some.mp hi
        obtain ⟨d, e3, e4⟩ := isL_getV h4 e1
        rw [List.getElem?_map, e2] at e3
        cases e3
        exact e4
      refine ⟨aa, vs.zip ps, rfl, by rw [z1]; exact SqL.of h1, fun b hb => ?_, fun q hq => ?_⟩
      · rw [← toP_encPr]
        exact is_dp rp.sub 60 _ _ (each b hb) (flt_encPr b.2)
      · have hm : (((vs.zip ps).mergeSort fun x y => leP x.2 y.2).map (·.2)) = ps.mergeSort leP := by
          rw [List.map_mergeSort (r := fun (x y : V × Pr) => leP x.2 y.2) (s := leP) (f := fun (x : V × Pr) => x.2) (fun _ _ _ _ => rfl), z2]
        have il : IsL B β (((vs.zip ps).mergeSort fun x y => leP x.2 y.2).map (·.1)) ((ps.mergeSort leP).map encPr) := by
          rw [← hm]
          have : ∀ l : List (V × Pr), (∀ b ∈ l, Is B β b.1 (encPr b.2)) → IsL B β (l.map (·.1)) ((l.map (·.2)).map encPr) := by
            intro l
            induction l with
            | nil => intro _; exact isL_nil
            | cons b l ih => intro h; exact isL_cons (h b List.mem_cons_self) (ih fun c hc => h c (List.mem_cons_of_mem _ hc))
          exact this _ fun b hb => each b (List.mem_mergeSort.mp hb)
        refine rn.new hq rp (is_newL (Same.free rp.sub hq) il ?_)
        rw [List.length_map, List.length_mergeSort]
        omega
  | _ => exact rn.fail.elim
theorem de_sorted (hu : X.A.units + 64 < cLine) (hg : Gl X "sorted") (hm : X.mg "sorted" = none) (ha : DE X a fa) (he : starEach [a] X.env = (false, eval a X.env) :: starEach [] X.env := by rfl) : DE X (.Call (.Name "sorted" p) [a] [] pos) (eOp1 sortedD fa) := de_callB1 (call_sortPr hu) c_sortPr hg hm (by decide +kernel) ha (he := he)
end
end DL
/-! DSm3: more of the plain semantics: sorted(set(list of pairs)) -/
namespace DL
open PySem
/-- each pair once -/
def dd : List (List Int × Int) → List (List Int × Int)
  | [] => []
  | p :: l => if p ∈ l then dd l else p :: dd l
theorem mem_dd {x : List Int × Int} : ∀ {l : List (List Int × Int)}, x ∈ dd l ↔ x ∈ l
  | [] => Iff.rfl
  | p :: l => by
    have ih := mem_dd (x := x) (l := l)
    unfold dd
    split
    · rw [ih]
      constructor
      · exact List.mem_cons_of_mem _
      · intro h
        rcases List.mem_cons.mp h with e | e
        · rw [e]; assumption
        · exact e
    · rw [List.mem_cons, List.mem_cons, ih]
theorem nodup_dd : ∀ l : List (List Int × Int), (dd l).Nodup
  | [] => .nil
  | p :: l => by
    unfold dd
    split
    · exact nodup_dd l
    · rename_i h
      exact List.nodup_cons.mpr ⟨fun k => h (mem_dd.mp k), nodup_dd l⟩
def setSortD : D → M D
  | .lst ds => match toPairs ds with
    | some ps => if ps.length < 64 then pure (.lst (((dd ps).mergeSort leP).map encPr)) else M.fail
    | none => M.fail
  | .tup ds => match toPairs ds with
    | some ps => if ps.length < 64 then pure (.lst (((dd ps).mergeSort leP).map encPr)) else M.fail
    | none => M.fail
  | _ => M.fail
/-! ### min(list of states) -/
def minS (k : List Int) (ks : List (List Int)) : List Int := ks.foldl (fun a y => if y < a then y else a) k
theorem minS_mem : ∀ (ks : List (List Int)) (k : List Int), minS k ks ∈ k :: ks
  | [], k => List.mem_cons_self
  | y :: ks, k => by
    have e : minS k (y :: ks) = minS (if y < k then y else k) ks := rfl
    rw [e]
    have h := minS_mem ks (if y < k then y else k)
    rcases List.mem_cons.mp h with h | h
    · rw [h]
      split
      · exact List.mem_cons_of_mem _ List.mem_cons_self
      · exact List.mem_cons_self
    · exact List.mem_cons_of_mem _ (List.mem_cons_of_mem _ h)
def minTD : D → M D
  | .lst ds => match keysOf ds with
    | some (k :: ks) => pure (.tup ((minS k ks).map .int))
    | _ => M.fail
  | _ => M.fail
end DL
/-! DSm4: more of the plain semantics: min of two -/
namespace DL
open PySem
def min2D : D → D → M D
  | .int i, .int j => pure (.int (if j < i then j else i))
  | _, _ => M.fail
end DL
/-! DSet: set(list of pairs (state, number)), fewer than 64 -/
namespace DL
open PySem PySem.Spec PyProof.Rows L2
/-- the pair as a key of a set -/
def kP (p : Pr) : NestedKey := .tup [.tup (p.1.map .num), .num p.2]
def deN : NestedKey → Int
  | .num i => i
  | _ => 0
def deK : NestedKey → Pr
  | .tup [.tup ks, .num i] => (ks.map deN, i)
  | _ => ([], 0)
theorem deK_kP (p : Pr) : deK (kP p) = p := by
  obtain ⟨s, i⟩ := p
  simp [kP, deK, Function.comp_def, deN]
theorem kP_inj {p q : Pr} (h : kP p = kP q) : p = q := by rw [← deK_kP p, h, deK_kP]
theorem depth_nums : ∀ s : List Int, NestedKey.depthAll (s.map .num) = 0
  | [] => rfl
  | _ :: s => by rw [List.map_cons, NestedKey.depthAll, depth_nums s]; rfl
theorem depth_kP (p : Pr) : (kP p).depth = 2 := by
  simp [kP, NestedKey.depth, NestedKey.depthAll, depth_nums]
section
variable {P : Program} {w : World} {s : Shared}
/-- a value that the set may look at: it tells of no class, and its hash is its value's -/
def Mild (P : Program) (w : World) (n : Nat) (s : Shared) (v : Value) : Prop := ∀ (A : Around) (E : Value → Shared → Prop),
  (∀ Q : Bool → Shared → Prop, Q false s → wpAny (model P w) A (ofAClassStatement n v) Q E s) ∧ (∀ Q : Bool → Shared → Prop, Q true s → wpAny (model P w) A (hashByValue n v) Q E s)
theorem mild_num {i : Int} {v : Value} (h : NestedIs s.heap (.num i) v) (n : Nat) : Mild P w n s v := fun A E => by
  cases h <;> exact ⟨fun Q q => by cases n <;> exact wpAny_pure q, fun Q q => by cases n <;> exact wpAny_pure q⟩
/-- a walk over values that each answer b ends without an answer -/
theorem mild_loop {M : Model} {A : Around} {E : Value → Shared → Prop} {g : Value → Sem Bool} {b : Bool} {G : Bool → Sem (ForInStep (Option Bool × Unit))} (hG : G b = pure (.yield (none, ()))) {Q : Option Bool × Unit → Shared → Prop} (q : Q (none, ()) s) : ∀ {vs : List Value}, (∀ v ∈ vs, ∀ Q : Bool → Shared → Prop, Q b s → wpAny M A (g v) Q E s) →
    wpAny M A (forIn vs ((none, ()) : Option Bool × Unit) fun v _ => g v >>= G) Q E s
  | [], _ => wpAny_pure q
  | v :: vs, hv => by
    rw [List.forIn_cons]
    refine wpAny_bind (wpAny_bind (hv v List.mem_cons_self _ ?_))
    rw [hG]
    exact wpAny_pure (mild_loop hG q fun u hu => hv u (List.mem_cons_of_mem _ hu))
theorem mild_tup {a : Addr} {o : Obj} {vs : Array Value} {m n : Nat} (ho : s.heap.get? a = some o) (hc : o.cls = .type "tuple") (hd : o.data = .seq vs m) (hv : ∀ v ∈ vs.toList, Mild P w n s v) : Mild P w (n + 1) s (.ref a) := fun A E => by
  have hT : s.TypeIs (.ref a) "tuple" := ⟨o, ho, hc⟩
  constructor
  · intro Q q
    unfold ofAClassStatement
    refine wpAny_bind (wpAny_typeOf hT ?_)
    have e : ("tuple" == "tuple") = true := rfl
    dsimp only
    rw [if_pos e]
    refine wpAny_bind (wpAny_pure ?_)
    rw [if_neg (by decide)]
    refine wpAny_bind (wpAny_seqItems ho hd (wpAny_bind ?_))
    rw [← Array.forIn_toList]
    exact mild_loop (b := false) rfl (wpAny_pure q) fun v h => (hv v h A E).1
  · intro Q q
    unfold hashByValue
    refine wpAny_bind (wpAny_specialOf hT F.slot_tuple_hash.lookup (wpAny_bind (wpAny_seqItems ho hd (wpAny_bind ?_))))
    show wpAny _ _ (forIn vs _ _) _ _ s
    rw [← Array.forIn_toList]
    exact mild_loop (b := true) rfl (wpAny_pure q) fun v h => (hv v h A E).2
theorem all_two {h : Heap} {k l : NestedKey} {vs : List Value} (x : NestedAll h [k, l] vs) : ∀ v ∈ vs, NestedIs h k v ∨ NestedIs h l v := fun v hv => by
  cases x with
  | cons x1 x2 =>
    cases x2 with
    | cons x2 x3 =>
      cases x3
      rcases List.mem_cons.mp hv with e | hv
      · exact .inl (e ▸ x1)
      · exact .inr (List.mem_singleton.mp hv ▸ x2)
theorem all_nums {h : Heap} : ∀ {l : List Int} {vs : List Value}, NestedAll h (l.map .num) vs → ∀ v ∈ vs, ∃ i, NestedIs h (.num i) v
  | [], _, x, v, hv => by cases x; cases hv
  | i :: l, _, x, v, hv => by
    cases x with
    | cons x1 x2 =>
      rcases List.mem_cons.mp hv with e | hv
      · exact ⟨i, e ▸ x1⟩
      · exact all_nums x2 v hv
theorem mild_key {p : Pr} {v : Value} (x : NestedIs s.heap (kP p) v) : Mild P w 8 s v := by
  cases x with
  | tup h1 h2 h3 h4 =>
    refine mild_tup h1 h2 h3 fun u hu => ?_
    rcases all_two h4 u hu with y | y
    · cases y with
      | tup k1 k2 k3 k4 =>
        refine mild_tup k1 k2 k3 fun z hz => ?_
        obtain ⟨i, hi⟩ := all_nums k4 z hz
        exact mild_num hi _
    · exact mild_num y _
theorem key_ref {h : Heap} {p : Pr} {v : Value} (x : NestedIs h (kP p) v) : ∃ a, v = .ref a := by
  cases x with
  | tup => exact ⟨_, rfl⟩
/-- looking among such pairs cannot be seen -/
theorem unseen {A : Around} {E : Value → Shared → Prop} {p : Pr} {v : Value} (x : NestedIs s.heap (kP p) v) {Q : Bool → Shared → Prop} (q : Q false s) : ∀ {ys : List Value}, (∀ y ∈ ys, ∃ r : Pr, NestedIs s.heap (kP r) y) → wpAny (model P w) A (searchCouldBeSeen v ys) Q E s := by
  intro ys hy
  unfold searchCouldBeSeen
  refine wpAny_bind (wpAny_forIn_list _ (fun rest b z => b = (none, ()) ∧ z = s ∧ ∀ y ∈ rest, ∃ r : Pr, NestedIs s.heap (kP r) y) _ ?_ ?_ _ _ ⟨rfl, rfl, hy⟩)
  · rintro y rest b z ⟨hb, hz, hr⟩
    subst hb hz
    obtain ⟨r, hyr⟩ := hr y List.mem_cons_self
    have hr' : ∀ y ∈ rest, ∃ r : Pr, NestedIs z.heap (kP r) y := fun u hu => hr u (List.mem_cons_of_mem _ hu)
    dsimp only
    obtain ⟨c, rfl⟩ := key_ref x
    obtain ⟨d, rfl⟩ := key_ref hyr
    dsimp only
    generalize (c == d || carriedByValue (.ref c) && carriedByValue (.ref d)) = same
    cases same with
    | true => exact wpAny_pure ⟨rfl, rfl, hr'⟩
    | false =>
      rw [if_neg (by decide)]
      refine wpAny_bind (quiet_key _ _ 8 z x (by rw [depth_kP]; decide) A E _ ?_)
      rw [if_neg (by decide)]
      refine wpAny_bind (quiet_key _ _ 8 z hyr (by rw [depth_kP]; decide) A E _ ?_)
      rw [if_neg (by decide)]
      refine wpAny_bind ((mild_key x A E).1 _ ?_)
      rw [if_neg (by decide)]
      refine wpAny_bind ((mild_key hyr A E).1 _ ?_)
      rw [if_neg (by decide)]
      exact wpAny_pure ⟨rfl, rfl, hr'⟩
  · rintro b z ⟨hb, hz, _⟩
    subst hb hz
    exact wpAny_pure q
/-! ### the set: its rows, their slots -/
abbrev hP (w : World) (p : Pr) : Int := (kP p).hash w
abbrev Rw := List (Addr × Pr)
def slotsOf (w : World) (L : Rw) : List (Int × Value) := L.map fun r => (hP w r.2, Value.ref r.1)
structure PSet (w : World) (h : Heap) (a : Addr) (L : Rw) (es : Array (Int × Value)) (ep : Nat) (t : SetTable) : Prop where
  obj : ∃ o, h.get? a = some o ∧ o.ExactSet ∧ o.data = .set es ep t
  ent : es.toList = slotsOf w L
  tab : TabOk t (L.map fun r => hP w r.2)
  key : ∀ r ∈ L, NestedIs h (kP r.2) (.ref r.1)
  one : (L.map (·.2)).Nodup
  pl : t.plain = true
  ld : w.params.followText "set-order" = true ∨ t.led = true
  room : L.length * 5 < t.mask * 3
  few : L.length < 64
variable {a : Addr} {L : Rw} {es : Array (Int × Value)} {ep : Nat} {t : SetTable}
theorem PSet.many {h : Heap} (S : PSet w h a L es ep t) : es.size = L.length := by
  rw [← Array.length_toList, S.ent, slotsOf, List.length_map]
theorem PSet.place {h : Heap} (S : PSet w h a L es ep t) : t.place.size = L.length := by
  rw [S.tab.sz, List.length_map]
theorem PSet.fits {h : Heap} (S : PSet w h a L es ep t) : t.fits es.size = true := by
  have h1 := S.place
  have h2 := S.many
  have h3 := S.room
  unfold SetTable.fits SetTable.fill
  rw [S.tab.dm, h1, h2]
  simp
  omega
theorem PSet.at {h : Heap} (S : PSet w h a L es ep t) {i : Nat} {r : Addr × Pr} (e : L[i]? = some r) : es[i]? = some (hP w r.2, Value.ref r.1) := by
  rw [← Array.getElem?_toList, S.ent, slotsOf, List.getElem?_map, e, Option.map_some]
theorem PSet.hashAt {h : Heap} (S : PSet w h a L es ep t) {i : Nat} {r : Addr × Pr} (e : L[i]? = some r) : (es[i]?.map (·.1)).getD 0 = hP w r.2 := by
  rw [S.at e, Option.map_some, Option.getD_some]
theorem PSet.firm {h : Heap} (S : PSet w h a L es ep t) : ¬ t.gaveWay = true := by
  unfold SetTable.gaveWay
  rw [mask_odd S.tab.mok]
  decide
/-! ### looking for a place -/
abbrev stepAt (m : Nat) (H : Int) (c : Nat) : SetTable.Probe := nth m (runAt m (SetTable.bits H % (m + 1)) (SetTable.bits H)) c
theorem step_on (m : Nat) (H : Int) (c q : Nat) : nth m (stepAt m H c) q = stepAt m H (c + q) := (nth_add m c _ q).symm
theorem still_none (m : Nat) : ∀ (n : Nat) (p : SetTable.Probe), p.dummy = none → (nth m p n).dummy = none
  | 0, _, h => h
  | n + 1, p, h => still_none m n (adv m p) (by unfold adv; split <;> exact h)
/-- from the c-th step on no row is left behind -/
def Ahead (t : SetTable) (H : Int) (K : Nat) (L : Rw) (k : Pr) (c : Nat) : Prop := ∀ (i : Nat) (r : Addr × Pr), L[i]? = some r → r.2 = k → ∃ c', c ≤ c' ∧ c' < K ∧ t.place.toList[i]? = some (way t.mask H c')
theorem seek {A : Around} {E : Value → Shared → Prop} (S : PSet w s.heap a L es ep t) {x : Addr} {k : Pr} (hx : NestedIs s.heap (kP k) (.ref x)) (hu : A.units + 8 < cLine) {H : Int} (hH : hP w k = H) {K : Nat}
    (hK : way t.mask H K ∉ t.place.toList) (hB : ∀ c, c < K → way t.mask H c ∈ t.place.toList) (hF : K < 10 * SetTable.turns t.mask) {Q : SetFound → Shared → Prop} (hin : k ∈ L.map (·.2) → Q (.there none) s) (hout : k ∉ L.map (·.2) → Q (.free (way t.mask H K) false) s) :
    ∀ (f c : Nat) (st : Option SetTable.Probe), st.getD (t.probeStart H) = stepAt t.mask H c → c ≤ K → K - c < f → Ahead t H K L k c → wpAny (model P w) A (setSearchFrom a (.ref x) H true f st) Q E s
  | 0, c, st, _, _, hf, _ => absurd hf (Nat.not_lt_zero _)
  | f + 1, c, st, hst, hc, hf, ah => by
    obtain ⟨o, ho, _, hd⟩ := S.obj
    have spec := go_spec t S.tab.ris S.tab.dm (fun i => (es[i]?.map (·.1)).getD 0) H (10 * SetTable.turns t.mask) (K - c) (stepAt t.mask H c) (still_none _ _ _ rfl) (by omega)
      (fun q hq => by rw [step_on]; exact hB _ (by omega)) (by rw [step_on, Nat.add_sub_cancel' hc]; exact hK)
    simp only [step_on] at spec
    rw [← hst] at spec
    rw [setSearchFrom_succ]
    refine wpAny_bind (wpAny_setState_of ho hd S.fits ?_)
    dsimp only
    refine wp_if_neg S.firm ?_
    rcases spec with ⟨q, i, hq, hi, hh, hno, hgo⟩ | ⟨hno, hgo⟩
    · have hp : t.probe (fun i => (es[i]?.map (·.1)).getD 0) H (st.getD (t.probeStart H)) = some (.candidate (way t.mask H (c + q)) i (stepAt t.mask H (c + (q + 1)))) := hgo
      rw [hp]
      dsimp only
      have hil : i < L.length := by
        have h1 := (List.getElem?_eq_some_iff.mp hi).1
        rw [Array.length_toList, S.place] at h1
        exact h1
      obtain ⟨r, hr⟩ : ∃ r, L[i]? = some r := ⟨_, List.getElem?_eq_getElem hil⟩
      have hrm := List.mem_of_getElem? hr
      have rest : wpAny (model P w) A (searchRest a (.ref x) H true f es t (way t.mask H (c + q)) i (stepAt t.mask H (c + (q + 1)))) Q E s := by
        unfold searchRest
        rw [S.at hr]
        dsimp only
        refine wpAny_bind (wpAny_holding ((nestedKind P w).eqBool hu ⟨S.key r hrm, by rw [depth_kP]; decide⟩ ⟨hx, by rw [depth_kP]; decide⟩ ?_))
        refine wpAny_bind (wpAny_setState_of ho hd S.fits ?_)
        dsimp only
        by_cases hk : r.2 = k
        · have e : decide (kP r.2 = kP k) = true := by rw [hk]; exact decide_eq_true rfl
          rw [e]
          exact wp_if_pos rfl (wpAny_pure (hin (List.mem_map.mpr ⟨r, hrm, hk⟩)))
        · have e : decide (kP r.2 = kP k) = false := decide_eq_false fun z => hk (kP_inj z)
          rw [e]
          refine wp_if_neg (by decide) ?_
          rw [sameMem]
          dsimp only
          have hsl : t.slot (way t.mask H (c + q)) = .live i := slot_live S.tab.ris hi
          rw [if_pos rfl, hsl]
          dsimp only
          rw [S.at hr]
          dsimp only
          refine wpAny_bind (wpAny_isSame_ref_self (wpAny_bind (wpAny_pure ?_)))
          rw [if_pos rfl]
          dsimp only
          refine wp_if_neg (by decide) ?_
          refine seek S hx hu hH hK hB hF hin hout f (c + (q + 1)) _ rfl (by omega) (by omega) fun j r' h1 h2 => ?_
          obtain ⟨c', k1, k2, k3⟩ := ah j r' h1 h2
          refine ⟨c', ?_, k2, k3⟩
          apply Classical.byContradiction
          intro hlt
          by_cases heq : c' = c + q
          · subst heq
            have := slot_live S.tab.ris k3
            rw [hsl] at this
            injection this with this
            subst this
            rw [hr] at h1
            cases h1
            exact hk h2
          · refine hno (c' - c) j (by omega) (by rw [show c + (c' - c) = c' by omega]; exact k3) ?_
            rw [S.hashAt h1, h2, hH]
      by_cases hl : t.led = true
      · refine wp_if_neg (by rw [hl]; decide) rest
      · refine wp_if_pos (by rw [Bool.not_eq_true] at hl; rw [hl]; rfl) (wpAny_bind (unseen hx (wp_if_neg (by decide) rest) fun y hy => ?_))
        obtain ⟨e, he, rfl⟩ := List.mem_map.mp hy
        rw [Array.mem_toList_iff, Array.mem_filter] at he
        have hes := Array.mem_toList_iff.mpr he.1
        rw [S.ent] at hes
        obtain ⟨r', hr', rfl⟩ := List.mem_map.mp hes
        exact ⟨r'.2, S.key r' hr'⟩
    · rw [Nat.add_sub_cancel' hc] at hgo
      have hp : t.probe (fun i => (es[i]?.map (·.1)).getD 0) H (st.getD (t.probeStart H)) = some (.empty (way t.mask H K) none) := hgo
      rw [hp]
      dsimp only
      refine wpAny_pure (hout fun hm => ?_)
      obtain ⟨r, hr, hk⟩ := List.mem_map.mp hm
      obtain ⟨i, hi⟩ := List.mem_iff_getElem?.mp hr
      obtain ⟨c', k1, k2, k3⟩ := ah i r hi hk
      refine hno (c' - c) i (by omega) (by rw [show c + (c' - c) = c' by omega]; exact k3) ?_
      rw [S.hashAt hi, hk, hH]
theorem seek_any {A : Around} {E : Value → Shared → Prop} (S : PSet w s.heap a L es ep t) {x : Addr} {k : Pr} (hx : NestedIs s.heap (kP k) (.ref x)) (hu : A.units + 8 < cLine) {H : Int} (hH : hP w k = H) {Q : SetFound → Shared → Prop} (hin : k ∈ L.map (·.2) → Q (.there none) s)
    (hout : ∀ K, k ∉ L.map (·.2) → way t.mask H K ∉ t.place.toList → (∀ c, c < K → way t.mask H c ∈ t.place.toList) → Q (.free (way t.mask H K) false) s) : wpAny (model P w) A (setSearch a (.ref x) H true) Q E s := by
  have h7 := S.room
  obtain ⟨K, k1, k2, k3⟩ := S.tab.first (by rw [List.length_map]; omega) H
  have hK : K < 100000 := by
    rcases S.tab.mok with e | e | e <;> rw [e] at k1 <;> exact Nat.lt_of_lt_of_le k1 (by decide)
  unfold setSearch
  refine seek S hx hu hH k2 k3 k1 hin (fun hn => hout K hn k2 k3) 100000 0 none rfl (Nat.zero_le _) (by omega) fun i r hi hr => ?_
  have hs : (L.map fun r => hP w r.2)[i]? = some H := by rw [List.getElem?_map, hi, Option.map_some, hr, hH]
  have hl : i < t.place.toList.length := by
    rw [Array.length_toList, S.place]
    exact (List.getElem?_eq_some_iff.mp hi).1
  obtain ⟨c, c1, c2⟩ := S.tab.before k2 hs (List.getElem?_eq_getElem hl)
  exact ⟨c, Nat.zero_le _, c1, by rw [List.getElem?_eq_getElem hl, c2]⟩
/-- a key stays where only the set changes -/
theorem key_but {h h' : Heap} {k : NestedKey} {v : Value} {o : Obj} (x : NestedIs h k v) (ho : h.get? a = some o) (hd : o.data = .set es ep t) (hs : Heap.SameBut a h h') : NestedIs h' k v :=
  NestedIs.at (fun b u vs m e1 e2 => by
    by_cases hb : b = a
    · subst hb
      rw [ho] at e1
      cases e1
      rw [hd] at e2
      cases e2
    · exact (hs.2 b hb).trans e1) k v x
/-- rows taken in another order -/
theorem order_rows' (L : Rw) {es : Array (Int × Value)} (he : es.toList = slotsOf w L) : ∀ l : List Nat, (∀ i ∈ l, i < L.length) → ∃ L2 : Rw, l.filterMap (fun i => es[i]?) = slotsOf w L2 ∧ L2 = l.filterMap (fun i => L[i]?) ∧ (L2.map fun r => hP w r.2) = l.map fun i => (es.map (·.1)).getD i 0
  | [], _ => ⟨[], rfl, rfl, rfl⟩
  | i :: l, h => by
    have hi := h i List.mem_cons_self
    obtain ⟨L2, q1, q2, q3⟩ := order_rows' L he l fun j hj => h j (List.mem_cons_of_mem _ hj)
    have e0 : es[i]? = some (hP w L[i].2, Value.ref L[i].1) := by
      rw [← Array.getElem?_toList, he, slotsOf, List.getElem?_map, List.getElem?_eq_getElem hi, Option.map_some]
    have e1 : (es.map (·.1)).getD i 0 = hP w L[i].2 := by
      rw [Array.getD_eq_getD_getElem?, Array.getElem?_map, e0, Option.map_some, Option.getD_some]
    refine ⟨L[i] :: L2, ?_, ?_, ?_⟩
    · rw [List.filterMap_cons_some e0, q1, slotsOf, slotsOf, List.map_cons]
    · rw [List.filterMap_cons_some (List.getElem?_eq_getElem hi), q2]
    · rw [List.map_cons, List.map_cons, q3, e1]
theorem all_rows (L : Rw) : (List.range L.length).filterMap (fun i => L[i]?) = L := by
  apply List.ext_getElem?
  intro i
  have : ∀ n, n ≤ L.length → (List.range n).filterMap (fun i => L[i]?) = L.take n := by
    intro n
    induction n with
    | zero => intro _; rfl
    | succ n ih =>
      intro hn
      have hlt : n < L.length := hn
      rw [List.range_succ, List.filterMap_append, ih (Nat.le_of_lt hlt), List.take_add_one, List.getElem?_eq_getElem hlt, List.filterMap_cons_some (List.getElem?_eq_getElem hlt)]
      rfl
  rw [this _ (Nat.le_refl _), List.take_length]
/-- the table laid anew -/
theorem relay_one {A : Around} {E : Value → Shared → Prop} {o : Obj} (ho : s.heap.get? a = some o) (hex : o.ExactSet) (hd : o.data = .set es ep t) (he : es.toList = slotsOf w L) (hp : t.place.size = L.length) (hm : L.length ≤ t.mask) (hdm : t.dummies = #[]) (hk : ∀ r ∈ L, NestedIs s.heap (kP r.2) (.ref r.1))
    (one : (L.map (·.2)).Nodup) (pl : t.plain = true) (ld : w.params.followText "set-order" = true ∨ t.led = true) (few : L.length < 64) {wanted M : Nat} (hw : SetTable.sizeAbove wanted - 1 = M) (hM : MaskOk M) (hw2 : SetTable.sizeAbove wanted ≤ 128) (hroom : L.length * 5 < M * 3) {Q : Unit → Shared → Prop}
    (hQ : ∀ h' L' es' ep' t', Heap.SameBut a s.heap h' → PSet w h' a L' es' ep' t' → L'.Perm L → Q () { s with heap := h' }) : wpAny (model P w) A (setRelay a wanted) Q E s := by
  have hes : es.size = L.length := by rw [← Array.length_toList, he, slotsOf, List.length_map]
  have hfits : t.fits es.size = true := by
    unfold SetTable.fits SetTable.fill
    rw [hdm, hp, hes]
    simp
    omega
  obtain ⟨t', order, e, pm, T, em, el, epl, _⟩ := relaid_ok t (hs := es.map (·.1)) (wanted := wanted) hw hM (by rw [Array.size_map, hes]; omega)
  rw [Array.size_map, hes] at pm
  obtain ⟨L2, q1, q2, q3⟩ := order_rows' L he order.toList fun i hi => List.mem_range.mp (pm.mem_iff.mp hi)
  have pL : L2.Perm L := by
    have := pm.filterMap fun i => L[i]?
    rw [all_rows, ← q2] at this
    exact this
  have hl2 : (order.filterMap fun i => es[i]?).toList = slotsOf w L2 := by rw [Array.toList_filterMap]; exact q1
  have hs2 : (order.filterMap fun i => es[i]?).size = es.size := by rw [← Array.length_toList, hl2, slotsOf, List.length_map, pL.length_eq, hes]
  rw [setRelay_eq]
  refine wpAny_bind (wpAny_setState_of ho hd hfits ?_)
  dsimp only
  refine wp_if_neg (by rw [sizeLine_eq]; omega) ?_
  rw [e]
  dsimp only
  refine wpAny_bind (wp_if_neg (by rw [hs2]; simp) (wpAny_pure ?_))
  dsimp only
  refine wpAny_storeSet_of ho hd ?_ (by rw [hs2, hes, sizeLine_eq]; omega)
  have sb : Heap.SameBut a s.heap (s.heap.update a (Obj.putSet (order.filterMap fun i => es[i]?) t')) := Heap.SameBut.update ..
  exact hQ _ L2 _ (ep + 1) t' sb ⟨⟨_, store_at ho hd, ⟨hex.1, hex.2.1, hex.2.2⟩, rfl⟩, hl2, by rw [q3]; exact T, fun r hr => key_but (hk r (pL.mem_iff.mp hr)) ho hd sb, (pL.map (·.2)).nodup_iff.mpr one, by rw [epl]; exact pl, by rw [el]; exact ld, by rw [pL.length_eq, em]; exact hroom, by rw [pL.length_eq]; exact few⟩ pL
theorem put_one {A : Around} {E : Value → Shared → Prop} (S : PSet w s.heap a L es ep t) {x : Addr} {k : Pr} (hx : NestedIs s.heap (kP k) (.ref x)) (hu : A.units + 8 < cLine) (hf : L.length + 1 < 64) {Q : Bool → Shared → Prop}
    (hQ : ∀ b h' L' es' ep' t', Heap.SameBut a s.heap h' → PSet w h' a L' es' ep' t' → (k ∈ L.map (·.2) ∧ L' = L ∨ k ∉ L.map (·.2) ∧ L'.Perm ((x, k) :: L)) → Q b { s with heap := h' }) :
    wpAny (model P w) A (setAddHashed a (.ref x) (hP w k)) Q E s := by
  obtain ⟨o, ho, hex, hd⟩ := S.obj
  have h7 := S.room
  obtain ⟨H, hH⟩ : ∃ H, hP w k = H := ⟨_, rfl⟩
  rw [hH]
  unfold setAddHashed
  refine wpAny_holding ?_
  rw [show (100000 : Nat) = 99999 + 1 from rfl, setAddHashedIn_succ]
  refine wpAny_bind (wpAny_setState_of ho hd S.fits ?_)
  dsimp only
  refine wp_if_neg (by simp [byScan, Value.scannable]) ?_
  refine wpAny_bind (seek_any S hx hu hH (fun hm => ?_) fun K hm k1 k2 => ?_)
  · exact wpAny_pure (hQ false s.heap L es ep t (Heap.SameBut.refl a s.heap) S (.inl ⟨hm, rfl⟩))
  · dsimp only
    refine wpAny_bind (wpAny_setState_of ho hd S.fits ?_)
    dsimp only
    obtain ⟨q1, q2, q3, q4, q5, q6, q7, q8, q9⟩ := S.tab.put k1 k2
    rw [List.length_map] at q2 q9
    refine wp_if_pos (by rw [q6]; exact S.pl) (wpAny_bind ((mild_key hx A E).2 _ ?_))
    simp only [↓reduceIte, Bool.not_false, Bool.true_and]
    rw [q1]
    obtain ⟨t1, ht1⟩ : ∃ t1, (t.put (way t.mask H K)).1 = t1 := ⟨_, rfl⟩
    rw [ht1] at q3 q4 q5 q6 q9 ⊢
    obtain ⟨p, hp⟩ : ∃ p, SetTable.below t.place (way t.mask H K) = p := ⟨_, rfl⟩
    rw [hp] at q2 q3 ⊢
    have pm : (L.take p ++ (x, k) :: L.drop p).Perm ((x, k) :: L) := put_perm L p (x, k)
    have hent : (SetTable.insertAt es p (H, Value.ref x)).toList = slotsOf w (L.take p ++ (x, k) :: L.drop p) := by
      rw [SetTable.toList_insertAt, S.ent]
      unfold slotsOf
      rw [List.map_append, List.map_cons, List.map_take, List.map_drop, hH]
    have hsz : (SetTable.insertAt es p (H, Value.ref x)).size = L.length + 1 := by
      rw [← Array.length_toList, hent, slotsOf, List.length_map, pm.length_eq, List.length_cons]
    have one1 : ((L.take p ++ (x, k) :: L.drop p).map (·.2)).Nodup := by
      refine (pm.map (·.2)).nodup_iff.mpr ?_
      rw [List.map_cons]
      exact List.nodup_cons.mpr ⟨hm, S.one⟩
    have hlen1 : (L.take p ++ (x, k) :: L.drop p).length = L.length + 1 := by rw [pm.length_eq, List.length_cons]
    have tab1 : TabOk t1 ((L.take p ++ (x, k) :: L.drop p).map fun r => hP w r.2) := by
      rw [List.map_append, List.map_cons, List.map_take, List.map_drop, hH]
      exact q3
    have pl1 : t1.plain = true := by rw [q6]; exact S.pl
    have ld1 : w.params.followText "set-order" = true ∨ t1.led = true := by rw [q5]; exact S.ld
    refine wpAny_bind (wpAny_storeSet_of ho hd ?_ (by rw [hsz, sizeLine_eq]; omega))
    have sb : Heap.SameBut a s.heap (s.heap.update a (Obj.putSet (SetTable.insertAt es p (H, Value.ref x)) t1)) := Heap.SameBut.update ..
    have key1 : ∀ r ∈ (L.take p ++ (x, k) :: L.drop p), NestedIs (s.heap.update a (Obj.putSet (SetTable.insertAt es p (H, Value.ref x)) t1)) (kP r.2) (.ref r.1) := fun r hr => by
      rcases List.mem_cons.mp (pm.mem_iff.mp hr) with e | hr
      · rw [e]; exact key_but hx ho hd sb
      · exact key_but (S.key r hr) ho hd sb
    by_cases full : t1.tooFull = true
    · refine wp_if_pos full (wpAny_bind ?_)
      have hfull : (L.length + 1) * 5 ≥ t.mask * 3 := by
        have h := full
        unfold SetTable.tooFull at h
        rw [decide_eq_true_eq, q9, q4] at h
        exact h
      have two : (t.mask = 7 ∧ L.length = 4) ∨ (t.mask = 31 ∧ L.length = 18) := by
        rcases S.tab.mok with e | e | e
        · exact .inl ⟨e, by omega⟩
        · exact .inr ⟨e, by omega⟩
        · omega
      have go : ∀ M, SetTable.sizeAbove (SetTable.grown (es.size + 1)) - 1 = M → MaskOk M → SetTable.sizeAbove (SetTable.grown (es.size + 1)) ≤ 128 → (L.length + 1) * 5 < M * 3 → wpAny (model P w) A (setRelay a (SetTable.grown (es.size + 1))) (fun _ z => wpAny (model P w) A (pure true) Q E z) E { s with heap := s.heap.update a (Obj.putSet (SetTable.insertAt es p (H, Value.ref x)) t1) } := fun M h1 h2 h3 h4 => by
        refine relay_one (s := { s with heap := s.heap.update a (Obj.putSet (SetTable.insertAt es p (H, Value.ref x)) t1) }) (store_at ho hd) ⟨hex.1, hex.2.1, hex.2.2⟩ rfl hent (by have := tab1.sz; rw [List.length_map] at this; exact this) (by rw [hlen1, q4]; omega) q3.dm key1 one1 pl1 ld1 (by rw [hlen1]; exact hf) h1 h2 h3 (by rw [hlen1]; exact h4) fun h' L' es' ep' t' sb2 S2 pm2 => ?_
        exact wpAny_pure (hQ true h' L' es' ep' t' (sb.trans sb2) S2 (.inr ⟨hm, pm2.trans pm⟩))
      have hes := S.many
      rcases two with ⟨_, e⟩ | ⟨_, e⟩
      · exact go 31 (by rw [hes, e, size_20]) (.inr (.inl rfl)) (by rw [hes, e, size_20]; decide) (by omega)
      · exact go 127 (by rw [hes, e, size_76]) (.inr (.inr rfl)) (by rw [hes, e, size_76]; decide) (by omega)
    · refine wp_if_neg full (wpAny_pure ?_)
      refine hQ true _ (L.take p ++ (x, k) :: L.drop p) (SetTable.insertAt es p (H, Value.ref x)) (ep + 1) t1 sb ⟨⟨_, store_at ho hd, ⟨hex.1, hex.2.1, hex.2.2⟩, rfl⟩, hent, tab1, key1, one1, pl1, ld1, ?_, by rw [hlen1]; exact hf⟩ (.inr ⟨hm, pm⟩)
      have h := full
      unfold SetTable.tooFull at h
      rw [decide_eq_true_eq, q9] at h
      rw [hlen1]
      omega
/-! ### all put in -/
/-- what the set has got from the first i of ks -/
structure Taken (ks : Rw) (i : Nat) (L : Rw) : Prop where
  src : ∀ r ∈ L, r ∈ ks.take i
  all : ∀ r ∈ ks.take i, r.2 ∈ L.map (·.2)
  len : L.length ≤ i
theorem Taken.next {ks L L' : Rw} {i : Nat} {r : Addr × Pr} (g : Taken ks i L) (h : ks[i]? = some r) (c : r.2 ∈ L.map (·.2) ∧ L' = L ∨ r.2 ∉ L.map (·.2) ∧ L'.Perm (r :: L)) : Taken ks (i + 1) L' := by
  have et : ks.take (i + 1) = ks.take i ++ [r] := by rw [List.take_add_one, h]; rfl
  rcases c with ⟨c, rfl⟩ | ⟨_, pm⟩
  · refine ⟨fun q hq => ?_, fun q hq => ?_, Nat.le_succ_of_le g.len⟩
    · rw [et]; exact List.mem_append_left _ (g.src q hq)
    · rw [et] at hq
      rcases List.mem_append.mp hq with z | z
      · exact g.all q z
      · rw [List.mem_singleton.mp z]; exact c
  · refine ⟨fun q hq => ?_, fun q hq => ?_, by rw [pm.length_eq]; exact Nat.succ_le_succ g.len⟩
    · rw [et]
      rcases List.mem_cons.mp (pm.mem_iff.mp hq) with e | z
      · exact List.mem_append_right _ (List.mem_singleton.mpr e)
      · exact List.mem_append_left _ (g.src q z)
    · rw [(pm.map (·.2)).mem_iff, List.map_cons]
      rw [et] at hq
      rcases List.mem_append.mp hq with z | z
      · exact List.mem_cons_of_mem _ (g.all q z)
      · rw [List.mem_singleton.mp z]; exact List.mem_cons_self
/-- what stood still stands -/
def Stands (h h' : Heap) : Prop := ∀ b o, h.get? b = some o → h'.get? b = some o
theorem Stands.key {h h' : Heap} (K : Stands h h') {k : NestedKey} {v : Value} (x : NestedIs h k v) : NestedIs h' k v := NestedIs.at (fun b o _ _ e _ => K b o e) k v x
theorem PSet.still {h h' : Heap} (S : PSet w h a L es ep t) (ha : ∀ o, h.get? a = some o → h'.get? a = some o) (hk : ∀ r ∈ L, NestedIs h' (kP r.2) (.ref r.1)) : PSet w h' a L es ep t := by
  obtain ⟨o, ho, z⟩ := S.obj
  exact ⟨⟨o, ha o ho, z⟩, S.ent, S.tab, hk, S.one, S.pl, S.ld, S.room, S.few⟩
theorem loop_pairs {A : Around} {I : Addr} {fp wr : List Addr} {G : Array GenState → Array GenState → Prop} {n : Nat} {Pv : Nat → Value → Prop} {St : Nat → Shared → Prop} {R : Result → Shared → Prop}
    (W : WalksS P w A.in1 I fp wr G n Pv St) {b : Addr} (hb : b ∉ fp) {ks : Rw} (hn : ks.length = n) (h4 : n < 64) (hv : ∀ i v, Pv i v → ∃ r, ks[i]? = some r ∧ v = .ref r.1) {h0 : Heap} (hk : ∀ r ∈ ks, NestedIs h0 (kP r.2) (.ref r.1)) (h0b : h0.get? b = none)
    (h0w : ∀ c ∈ wr, h0.get? c = none) (hu : A.in1.units + 8 < cLine) : ∀ (d i : Nat) (s : Shared), i + d = n → St i s → Stands h0 s.heap → (∃ L es ep t, PSet w s.heap b L es ep t ∧ Taken ks i L) →
    (∀ s' L es ep t, Moved (b :: wr) G s s' → PSet w s'.heap b L es ep t → Taken ks n L → Stands h0 s'.heap → R (.ok (.ret .none)) s') → codeAny (model P w) A (.builtin "set.update.loop" ⟨[.ref b, .ref I], []⟩) R s := by
  have hbw : b ∉ wr := fun h => hb (W.sub _ h)
  have more : ∀ c ∈ wr, c ∈ b :: wr := fun c h => List.mem_cons_of_mem _ h
  have keep : ∀ {s s' : Shared}, Moved wr G s s' → Stands h0 s.heap → Stands h0 s'.heap := fun m k c o e => m.heap c o (fun z => by rw [h0w c z] at e; cases e) (k c o e)
  have stay : ∀ {i : Nat} {s s' : Shared} {L es ep t}, Moved wr G s s' → Stands h0 s.heap → PSet w s.heap b L es ep t → Taken ks i L → PSet w s'.heap b L es ep t := fun m k S T =>
    S.still (fun o e => m.heap b o hbw e) fun r hr => (keep m k).key (hk r (List.mem_of_mem_take (T.src r hr)))
  intro d
  induction d with
  | zero =>
    intro i s hi hst hkp ⟨L, es, ep, t, S, T⟩ hR
    obtain rfl : i = n := hi
    refine codeAny_builtin F.entry_set_update_loop ?_
    rw [Around.under_plainId F.plain_set_update_loop _]
    exact wpAny_bind (W.done s _ _ hst fun s' m => wpAny_pure (hR s' L es ep t (m.mono more) (stay m hkp S T) T (keep m hkp)))
  | succ d ih =>
    intro i s hi hst hkp ⟨L, es, ep, t, S, T⟩ hR
    have hil : i < n := by omega
    refine codeAny_builtin F.entry_set_update_loop ?_
    rw [Around.under_plainId F.plain_set_update_loop _]
    refine wpAny_bind (W.item i s _ _ hil hst fun v s1 hp hst1 m => ?_)
    obtain ⟨r, hr, rfl⟩ := hv i v hp
    have k1 := keep m hkp
    have S1 := stay m hkp S T
    have x1 := k1.key (hk r (List.mem_of_getElem? hr))
    show wpAny _ A.in1 (holding [Value.ref r.1] (setAdd b (.ref r.1)) >>= _) _ _ s1
    refine wpAny_bind (wpAny_holding ?_)
    unfold setAdd
    refine wpAny_holding (wpAny_bind (pyHash_key (kP r.2) _ A.in1 s1 _ x1 (by rw [depth_kP]; omega) ?_))
    refine put_one (s := { s1 with toks := s1.toks + (kP r.2).draws }) S1 x1 hu (by have := T.len; omega) fun y h' L' es' ep' t' sb S' c => ?_
    have k2 : Stands h0 h' := fun c o e => (sb.2 c (fun z => by rw [z, h0b] at e; cases e)).trans (k1 c o e)
    refine wpAny_pure ⟨plainId_quiet F.plain_set_update_loop _, ih (i + 1) _ (by omega) (W.frame _ s1 _ _ hst1 (Nat.le_add_right _ _) fun c hc o e => ?_) k2 ⟨L', es', ep', t', S', T.next hr c⟩ fun s2 L2 es2 ep2 t2 m2 S2 T2 k3 => ?_⟩
    · exact (sb.2 c fun z => hb (z ▸ hc)).trans e
    · refine hR s2 L2 es2 ep2 t2 (Moved.trans W.gtrans ((m.mono more).then_heap (Nat.le_add_right _ _) fun c o hc e => ?_) m2) S2 T2 k3
      exact (sb.2 c fun z => hc (by rw [z]; exact List.mem_cons_self)).trans e
/-! ### set(list) -/
abbrev bareSet (w : World) : Obj := { cls := .type "set", dict := none, data := .set #[] 0 (.fresh 0 0 (!w.params.followText "set-order")) }
theorem bare_ok {h : Heap} (e : h.get? a = some (bareSet w)) : PSet w h a [] #[] 0 (.fresh 0 0 (!w.params.followText "set-order")) where
  obj := ⟨_, e, ⟨rfl, rfl, rfl⟩, rfl⟩
  ent := rfl
  tab := ⟨.nil, rfl, rfl, .inl rfl, fun _ z => (by cases z), fun i H j z => (by simp at z)⟩
  key := fun _ z => by cases z
  one := .nil
  pl := rfl
  ld := by
    show _ ∨ (!w.params.followText "set-order") = true
    cases w.params.followText "set-order" <;> simp
  room := by
    show 0 * 5 < 7 * 3
    decide
  few := by
    show 0 < 64
    decide
theorem set_pairs {A : Around} {E : Value → Shared → Prop} {l : Addr} {items : Array Value} (ks : Rw) {Q : Value → Shared → Prop} (hh : A.handled = none) (hl : s.heap.IsList l items ∨ s.heap.IsTuple l items) (hit : items.toList = ks.map fun r => Value.ref r.1)
    (hk : ∀ r ∈ ks, NestedIs s.heap (kP r.2) (.ref r.1)) (h4 : ks.length < 64) (hu : A.units + 16 < cLine)
    (h : ∀ (h' : Heap) (tk : Nat) L es ep t, PSet w h' s.heap.objs.size L es ep t → Taken ks ks.length L → Stands s.heap h' → Q (.ref s.heap.objs.size) { s with heap := h', toks := tk }) :
    wpAny (model P w) A (call (.type "set") [.ref l]) Q E s := by
  have hn : ks.length = items.size := by rw [← Array.length_toList, hit, List.length_map]
  have hv : ∀ (i : Nat) (v : Value), items[i]? = some v → ∃ r, ks[i]? = some r ∧ v = .ref r.1 := fun i v e => by
    rw [← Array.getElem?_toList, hit, List.getElem?_map, Option.map_eq_some_iff] at e
    obtain ⟨r, e1, e2⟩ := e
    exact ⟨r, e1, e2.symm⟩
  obtain ⟨c, tl, hmro⟩ := F.called_set.mro
  have f1 := F.called_set.made
  have f2 := F.called_set.sub
  refine wpAny_call (codeAny_of_tree ?_)
  show wpAny _ _ (callAny (.type "set") _) _ _ _
  refine wpAny_pure ⟨Code.quiet_builtin _ (by decide +kernel), codeAny_builtin F.entry_type_call ?_⟩
  rw [Around.under_plain (weight_type_call_type "set" [.ref l] []) rfl]
  have f3 := F.called_set.notType
  have f4 := F.called_set.canCreate
  have f5 := F.typeCall_set_1 (.ref l)
  repeat any_goals first | assumption | wp_step
  refine codeAny_mono (code_set_led1 (.ref l) (E := E) (Q₁ := fun v z => v = .ref s.heap.objs.size ∧ z = { s with heap := s.heap.push (bareSet w) }) ⟨rfl, rfl⟩) fun r z hr => ?_
  cases r with
  | error e => exact hr
  | ok fl =>
    cases fl with
    | ret v =>
      obtain ⟨rfl, rfl⟩ := hr
      have g0 : (s.heap.push (bareSet w)).get? s.heap.objs.size = some (bareSet w) := Heap.get?_push_size _ rfl
      have hT : Shared.TypeIs { s with heap := s.heap.push (bareSet w) } (.ref s.heap.objs.size) "set" := ⟨_, g0, rfl⟩
      have f6 := F.called_set.init.lookup
      have f7 := F.called_set.init.bind (.ref s.heap.objs.size)
      repeat any_goals first | assumption | wp_step
      refine codeAny_mono (codeAny_call_builtin (R := wants (fun v z => v = .none ∧ ∃ h' tk L es ep t, z = { s with heap := h', toks := tk } ∧ PSet w h' s.heap.objs.size L es ep t ∧ Taken ks ks.length L ∧ Stands s.heap h') E) F.called_set.init.plain F.entry_set_init (check_set_init_1 hT ?_)) fun r2 z2 hr2 => ?_
      · rcases hl with hl | hl
        · obtain ⟨⟨lc, ldi, lda, lsl⟩, hol, rfl, ln, rfl⟩ := hl
          have f8 := F.sub_list_set
          have f9 := F.sub_list_frozenset
          have f10 : (Value.type "list" == Value.type "dict") = false := by decide
          have g1 : (s.heap.push (bareSet w)).get? l = some { cls := .type "list", dict := ldi, data := .seq items ln, slots := lsl } := Heap.get?_push_of_some _ hol
          have g2 : (s.heap.push (bareSet w)).IsList l items := ⟨_, g1, rfl, ln, rfl⟩
          have lt1 : l < s.heap.objs.size := Heap.lt_size hol
          have sz1 : (s.heap.push (bareSet w)).objs.size = s.heap.objs.size + 1 := Heap.size_push ..
          have ne1 : l ≠ (s.heap.push (bareSet w)).objs.size := by rw [sz1]; exact Nat.ne_of_lt (Nat.lt_succ_of_lt lt1)
          have free : ∀ c, s.heap.objs.size ≤ c → s.heap.get? c = none := fun c hc => by
            cases e : s.heap.get? c with
            | none => rfl
            | some o => exact absurd (Heap.lt_size e) (Nat.not_lt.mpr hc)
          unfold Builtin.«set.__init__» noKeywords Builtin.Frozenset.updateFrom
          generalize hW : pyIter = walk
          wp_walk
          subst hW
          refine wpAny_pyIter_list g2 (wpAny_bind (wpAny_runValue ?_))
          have hh3 : A.in1.in1.in1.handled = none := by simp [hh]
          refine loop_pairs ((Walks.list hh3 _ l ne1 items).toS) (b := s.heap.objs.size) (by rw [sz1]; simp only [List.mem_cons, List.not_mem_nil, or_false, not_or]; exact ⟨Nat.ne_of_lt (Nat.lt_succ_self _), Nat.ne_of_gt lt1⟩) hn (by omega) hv hk (free _ (Nat.le_refl _)) (fun c hc => free c (by rw [List.mem_singleton.mp hc, sz1]; exact Nat.le_succ _)) ?_ items.size 0 _ (Nat.zero_add _)
            ⟨⟨_, Heap.get?_push_size _ rfl, rfl, rfl⟩, g2.push _⟩ (fun c o e => Heap.get?_push_of_some _ (Heap.get?_push_of_some _ e)) ⟨[], #[], 0, _, bare_ok (Heap.get?_push_of_some _ g0), ⟨fun _ z => (by cases z), fun _ z => (by simp at z), Nat.le_refl _⟩⟩ ?_
          · simp only [Around.in1_units]
            omega
          · rintro ⟨zh, zg, zd, zt, zo⟩ L es ep t m S' T' K'
            obtain rfl : zg = s.gens := m.gens
            obtain rfl : zd = s.drawn := m.drawn
            obtain rfl : zo = s.os := m.os
            rw [← hn] at T'
            exact wpAny_pure (wpAny_pure ⟨rfl, zh, zt, L, es, ep, t, rfl, S', T', K'⟩)
        · obtain ⟨⟨lc, ldi, lda, lsl⟩, hol, rfl, ln, rfl⟩ := hl
          have f8 := F.sub_tuple_set
          have f9 := F.sub_tuple_frozenset
          have f10 : (Value.type "tuple" == Value.type "dict") = false := by decide
          have g1 : (s.heap.push (bareSet w)).get? l = some { cls := .type "tuple", dict := ldi, data := .seq items ln, slots := lsl } := Heap.get?_push_of_some _ hol
          have g2 : (s.heap.push (bareSet w)).IsTuple l items := ⟨_, g1, rfl, ln, rfl⟩
          have lt1 : l < s.heap.objs.size := Heap.lt_size hol
          have sz1 : (s.heap.push (bareSet w)).objs.size = s.heap.objs.size + 1 := Heap.size_push ..
          have ne1 : l ≠ (s.heap.push (bareSet w)).objs.size := by rw [sz1]; exact Nat.ne_of_lt (Nat.lt_succ_of_lt lt1)
          have free : ∀ c, s.heap.objs.size ≤ c → s.heap.get? c = none := fun c hc => by
            cases e : s.heap.get? c with
            | none => rfl
            | some o => exact absurd (Heap.lt_size e) (Nat.not_lt.mpr hc)
          unfold Builtin.«set.__init__» noKeywords Builtin.Frozenset.updateFrom
          generalize hW : pyIter = walk
          wp_walk
          subst hW
          refine wpAny_pyIter_tuple g2 (wpAny_bind (wpAny_runValue ?_))
          have hh3 : A.in1.in1.in1.handled = none := by simp [hh]
          refine loop_pairs ((Walks.tuple hh3 _ l ne1 items).toS) (b := s.heap.objs.size) (by rw [sz1]; simp only [List.mem_cons, List.not_mem_nil, or_false, not_or]; exact ⟨Nat.ne_of_lt (Nat.lt_succ_self _), Nat.ne_of_gt lt1⟩) hn (by omega) hv hk (free _ (Nat.le_refl _)) (fun c hc => free c (by rw [List.mem_singleton.mp hc, sz1]; exact Nat.le_succ _)) ?_ items.size 0 _ (Nat.zero_add _)
            ⟨⟨_, Heap.get?_push_size _ rfl, rfl, rfl⟩, g2.push _⟩ (fun c o e => Heap.get?_push_of_some _ (Heap.get?_push_of_some _ e)) ⟨[], #[], 0, _, bare_ok (Heap.get?_push_of_some _ g0), ⟨fun _ z => (by cases z), fun _ z => (by simp at z), Nat.le_refl _⟩⟩ ?_
          · simp only [Around.in1_units]
            omega
          · rintro ⟨zh, zg, zd, zt, zo⟩ L es ep t m S' T' K'
            obtain rfl : zg = s.gens := m.gens
            obtain rfl : zd = s.drawn := m.drawn
            obtain rfl : zo = s.os := m.os
            rw [← hn] at T'
            exact wpAny_pure (wpAny_pure ⟨rfl, zh, zt, L, es, ep, t, rfl, S', T', K'⟩)
      · cases r2 with
        | error e => exact hr2
        | ok f2 =>
          cases f2 with
          | ret v =>
            obtain ⟨rfl, h', tk, L, es, ep, t, rfl, g1, g2, g3⟩ := hr2
            repeat any_goals first | assumption | wp_step
            exact h h' tk L es ep t g1 g2 g3
          | _ => exact hr2.elim
    | _ => exact hr.elim
end
end DL
/-! DSt2: sorted(set(..)) of such pairs -/
namespace DL
open PySem PySem.Spec PyProof.Rows L2
theorem reads_nums {h : Heap} : ∀ {l : List Int} {vs : List Value} {as : List Addr}, ReadsAll h vs (l.map PyData.int) as → as = [] ∧ NestedAll h (l.map .num) vs
  | [], _, _, x => by
    cases x
    exact ⟨rfl, .nil⟩
  | i :: l, _, _, x => by
    cases x with
    | cons x1 x2 =>
      cases x1
      obtain ⟨rfl, y⟩ := reads_nums x2
      exact ⟨rfl, .cons (.int _ _) y⟩
theorem reads_pair {h : Heap} {p : Pr} {v : Value} {as : List Addr} (x : Reads h v (encP p) as) : as = [] ∧ NestedIs h (kP p) v := by
  unfold encP at x
  cases x with
  | tuple h1 h2 h3 h4 =>
    generalize hw : Array.toList _ = ws at h4
    cases h4 with
    | cons y1 y2 =>
      cases y2 with
      | cons y2 y3 =>
        cases y3
        cases y2
        cases y1 with
        | tuple k1 k2 k3 k4 =>
          obtain ⟨rfl, z⟩ := reads_nums k4
          refine ⟨rfl, .tup h1 h2 h3 ?_⟩
          rw [hw]
          exact .cons (.tup k1 k2 k3 z) (.cons (.int _ _) .nil)
theorem perm_back {α β : Type} {f : α → β} {vs us : List β} (p : vs.Perm us) : ∀ L : List α, us = L.map f → ∃ L1 : List α, L1.Perm L ∧ vs = L1.map f := by
  induction p with
  | nil =>
    intro L e
    exact ⟨[], by rw [List.map_eq_nil_iff.mp e.symm], rfl⟩
  | cons x _ ih =>
    intro L e
    cases L with
    | nil => cases e
    | cons r L =>
      rw [List.map_cons, List.cons.injEq] at e
      obtain ⟨L1, p1, e1⟩ := ih L e.2
      exact ⟨r :: L1, p1.cons r, by rw [List.map_cons, e1, e.1]⟩
  | swap x y l =>
    intro L e
    match L, e with
    | r :: q :: L, e =>
      simp only [List.map_cons, List.cons.injEq] at e
      exact ⟨q :: r :: L, .swap .., by simp [e]⟩
  | trans _ _ ih1 ih2 =>
    intro L e
    obtain ⟨L1, p1, e1⟩ := ih2 L e
    obtain ⟨L2, p2, e2⟩ := ih1 L1 e1
    exact ⟨L2, p2.trans p1, e2⟩
section
variable {P : Program} {w : World} {s : Shared} {a : Addr} {L : Rw} {es : Array (Int × Value)} {ep : Nat} {t : SetTable}
theorem each_map {R : Value → Addr × Pr → Prop} : ∀ {L : Rw}, (∀ r ∈ L, R (.ref r.1) r) → PySem.W.EachIs R (L.map fun r => Value.ref r.1) L
  | [], _ => .nil
  | r :: L, h => .cons (h r List.mem_cons_self) (each_map fun q hq => h q (List.mem_cons_of_mem _ hq))
theorem each_ref {out : List Value} {L : Rw} (h : PySem.W.EachIs (fun v (r : Addr × Pr) => v = Value.ref r.1) out L) : out = L.map fun r => Value.ref r.1 := by
  induction h with
  | nil => rfl
  | cons e _ ih => rw [List.map_cons, e, ih]
theorem sorted_pset {A : Around} {E : Value → Shared → Prop} (S : PSet w s.heap a L es ep t) (hh : A.handled = none) (hu : A.units + 16 < cLine) (hr : ∀ r ∈ L, Reads s.heap (.ref r.1) (encP r.2) []) {Q : Value → Shared → Prop}
    (hQ : ∀ s' p c (L1 : Rw), Stands s.heap s'.heap → s'.gens = s.gens → s'.os = s.os → s.heap.objs.size ≤ p → L1.Perm L → s'.heap.get? p = some (seqObj "list" ((L1.mergeSort fun x y => leP x.2 y.2).map fun r => Value.ref r.1).toArray c) → Q (.ref p) s') :
    wpAny (model P w) A (call (.builtin "sorted") [.ref a]) Q E s := by
  obtain ⟨o, ho, hex, hd⟩ := S.obj
  have h4 := S.few
  have hm := S.many
  refine Calls.call_function_entry kind_sorted plain_sorted entry_sorted (args_sorted1 _) ?_
  unfold Builtin.«sorted»
  refine wpAny_bind (m := checkCount "sorted" 1 1 _) (wpAny_pure ?_)
  refine wpAny_bind (collect_set (A := A.in1) hh ⟨o, ho, hex.1, hd⟩ S.fits (by unfold scanBound; omega) S.tab.ris S.ld fun s1 vs k1 hz g1 o1 pm => ?_)
  have he : es.toList.map (·.2) = L.map fun r => Value.ref r.1 := by
    rw [S.ent, slotsOf, List.map_map]
    rfl
  obtain ⟨L1, p1, rfl⟩ := perm_back pm L he
  have hl1 : L1.length < 64 := by rw [p1.length_eq]; exact h4
  refine wpAny_bind (wpAny_newList ?_ (by rw [List.length_map, sizeLine_eq]; omega))
  have g2 : (s1.heap.push (seqObj "list" (L1.map fun r => Value.ref r.1).toArray 0)).get? s1.heap.objs.size = some (seqObj "list" (L1.map fun r => Value.ref r.1).toArray 0) := Heap.get?_push_size _ rfl
  have rd : ∀ r ∈ L1, Reads (s1.heap.push (seqObj "list" (L1.map fun r => Value.ref r.1).toArray 0)) (.ref r.1) (encP r.2) [] := fun r hr1 =>
    PyProof.Rows.Reads.keeps (fun b u e => Heap.get?_push_of_some _ (k1 b u e)) (hr r (p1.mem_iff.mp hr1))
  refine wpAny_bind (wpAny_holding (PySem.W.list_sort_data (enc := fun r : Addr × Pr => encP r.2) (s := { s1 with heap := s1.heap.push (seqObj "list" (L1.map fun r => Value.ref r.1).toArray 0) }) g2 (R := fun v r => v = .ref r.1) (each_map fun _ _ => rfl) (each_map fun r h => ⟨[], rd r h, by simp⟩) ?_ ?_ ?_ ?_ fun out hl eo => ?_))
  · intro d hd d' hd'
    obtain ⟨b, _, rfl⟩ := List.mem_map.mp hd
    obtain ⟨b', _, rfl⟩ := List.mem_map.mp hd'
    unfold encP
    simp [PySem.W.alike, PySem.W.alikeAll, PySem.W.alike_ints]
  · exact .inl fun d hd => by
      obtain ⟨b, _, rfl⟩ := List.mem_map.mp hd
      exact ⟨_, _, rfl⟩
  · rw [sizeLine_eq]; omega
  · intro b hb
    have : (encP b.2).depth ≤ 2 := by
      unfold encP
      simp [PyData.depth, PyData.depthAll, PySem.W.depth_ints]
    simp only [Around.in1_units]
    omega
  · have hle : PySem.W.dataLe false (fun b : Addr × Pr => encP b.2) = fun x y => leP x.2 y.2 := by
      funext x y
      exact congrFun (congrFun dataLe_pr x.2) y.2
    rw [hle] at eo
    have ho2 := each_ref eo
    subst ho2
    obtain ⟨c, hc⟩ := sortedHeap_at (vs := L1.map fun r => Value.ref r.1) (out := ((L1.mergeSort fun x y => leP x.2 y.2).map fun r => Value.ref r.1).toArray) g2
    refine wpAny_pure ⟨_, rfl, hQ _ s1.heap.objs.size c L1 (fun b u e => ?_) g1 o1 hz p1 hc⟩
    have q := k1 b u e
    have hlt := Heap.lt_size q
    show (sortedHeap _ _ _ _).get? b = some u
    rw [sortedHeap_old (Nat.ne_of_lt hlt) (by rw [size_push']; exact Nat.lt_succ_of_lt hlt)]
    exact Heap.get?_push_of_some _ q
end
end DL
/-! PL: plain lemmas: how the semantics runs -/
namespace DL
open PySem
theorem pure_bind' {α β : Type} (a : α) (f : α → M β) : (pure a >>= f) = f a := pure_bind a f
theorem bind_assoc' {α β γ : Type} (x : M α) (f : α → M β) (g : β → M γ) : (x >>= f >>= g) = (x >>= fun a => f a >>= g) := bind_assoc x f g
theorem gOk_no (its : List D) : gOk .no its = pure () := rfl
section
variable {α : Type} {its : List D} {enc : α → D}
theorem compL_filt {f : D → M (Option D)} {p : α → Bool} {h : α → D} : ∀ {xs : List α}, (∀ a ∈ xs, f (enc a) = pure (if p a then some (h a) else none)) → compL .no its f (xs.map enc) = pure ((xs.filter p).map h)
  | [], _ => rfl
  | x :: xs, hh => by
    rw [List.map_cons, compL, gOk_no, pure_bind, hh x List.mem_cons_self, pure_bind, compL_filt (fun a ha => hh a (List.mem_cons_of_mem _ ha)), pure_bind]
    by_cases hp : p x = true
    · rw [List.filter_cons_of_pos hp]; simp [hp]
    · rw [List.filter_cons_of_neg hp]; simp [hp]
theorem compL_map {f : D → M (Option D)} {h : α → D} : ∀ {xs : List α}, (∀ a ∈ xs, f (enc a) = pure (some (h a))) → compL .no its f (xs.map enc) = pure (xs.map h)
  | [], _ => rfl
  | x :: xs, hh => by
    rw [List.map_cons, compL, gOk_no, pure_bind, hh x List.mem_cons_self, pure_bind, compL_map (fun a ha => hh a (List.mem_cons_of_mem _ ha)), pure_bind]
    rfl
theorem compX_no {f : D → M (List D)} {h : α → List D} : ∀ {xs : List α}, (∀ a ∈ xs, f (enc a) = pure (h a)) → compX .no its f (xs.map enc) = pure (xs.flatMap h)
  | [], _ => rfl
  | x :: xs, hh => by
    rw [List.map_cons, compX, gOk_no, pure_bind, hh x List.mem_cons_self, pure_bind, compX_no (fun a ha => hh a (List.mem_cons_of_mem _ ha)), pure_bind]
    rfl
end
/-! ### data -/
def dS (s : List Int) : D := .tup (s.map D.int)
def rg (lo hi : Int) : List Int := (List.range (hi - lo).toNat).map fun (k : Nat) => lo + (k : Int)
theorem rangeL_eq (lo hi : Int) : rangeL lo hi = (rg lo hi).map D.int := by
  unfold rangeL rg
  rw [List.map_map]
  rfl
theorem zip_dS (a b : List Int) : ((a.map D.int).zip (b.map D.int)).map (fun p => D.tup [p.1, p.2]) = (a.zip b).map fun p => D.tup [.int p.1, .int p.2] := by
  rw [List.zip_map, List.map_map]
  rfl
theorem toBls_map {α : Type} (f : α → Bool) : ∀ xs : List α, toBls (xs.map fun a => D.bl (f a)) = some (xs.map f)
  | [] => rfl
  | x :: xs => by rw [List.map_cons, toBls, toBls_map f xs]; rfl
theorem toInts_map : ∀ xs : List Int, toInts (xs.map D.int) = some xs
  | [] => rfl
  | x :: xs => by rw [List.map_cons, toInts, toInts_map xs]; rfl
/-! ### equality of states -/
theorem eqbL_int : ∀ a b : List Int, eqbL (a.map D.int) (b.map D.int) = (a == b)
  | [], [] => by simp [eqbL]
  | [], y :: ys => by simp [eqbL]
  | x :: xs, [] => by simp [eqbL]
  | x :: xs, y :: ys => by
    rw [List.map_cons, List.map_cons, eqbL, eqbL_int xs ys]
    by_cases h : x = y <;> simp [eqb, h]
theorem eqb_dS (a b : List Int) : eqb (dS a) (dS b) = (a == b) := by unfold dS; rw [eqb, eqbL_int]
theorem fltL_int : ∀ (n : Nat) (a : List Int), fltL n (a.map D.int) = true
  | n, [] => by simp [fltL]
  | n, x :: xs => by rw [List.map_cons, fltL, fltL_int n xs]; simp [flt]
theorem flt_dS (n : Nat) (a : List Int) : flt (n + 1) (dS a) = true := by unfold dS; rw [flt, fltL_int]
/-! ### the combinators run -/
section
variable {Γ : Env} {a b c : E} {t u : T} {f g : S}
@[simp] theorem r_fn (np ns : Nat) (f : S) (ds : List D) : fn np ns f ds = if ds.length = np then f (ds.map some ++ List.replicate (ns - np) none) >>= retK else M.fail := rfl
@[simp] theorem r_var (i : Nat) : eVar i Γ = match Γ[i]? with | some (some d) => pure d | _ => M.fail := rfl
@[simp] theorem r_c (d : D) : eC d Γ = pure d := rfl
@[simp] theorem r_op1 (o : D → M D) : eOp1 o a Γ = a Γ >>= fun x => o x := rfl
@[simp] theorem r_op2 (o : D → D → M D) : eOp2 o a b Γ = a Γ >>= fun x => b Γ >>= fun y => o x y := rfl
@[simp] theorem r_and : eAnd a b Γ = a Γ >>= fun x => toBl x >>= fun r => if r = true then b Γ else pure (.bl false) := rfl
@[simp] theorem r_or : eOr a b Γ = a Γ >>= fun x => toBl x >>= fun r => if r = true then pure (.bl true) else b Γ := rfl
@[simp] theorem r_not : eNot a Γ = a Γ >>= fun x => toBl x >>= fun r => pure (.bl (!r)) := rfl
@[simp] theorem r_if : eIf t a b Γ = t Γ >>= fun r => if r = true then a Γ else b Γ := rfl
@[simp] theorem r_tval : tVal a Γ = a Γ >>= fun x => toBl x := rfl
@[simp] theorem r_tand : tAnd t u Γ = t Γ >>= fun r => if r = true then u Γ else pure false := rfl
@[simp] theorem r_tor : tOr t u Γ = t Γ >>= fun r => if r = true then pure true else u Γ := rfl
@[simp] theorem r_tnot : tNot t Γ = t Γ >>= fun r => pure (!r) := rfl
@[simp] theorem r_list0 : eList [] Γ = pure [] := rfl
@[simp] theorem r_list1 (es : List E) : eList (a :: es) Γ = a Γ >>= fun x => eList es Γ >>= fun xs => pure (x :: xs) := rfl
@[simp] theorem r_tup (es : List E) : eTup es Γ = eList es Γ >>= fun ds => if ds.length ≤ lim then pure (.tup ds) else M.fail := rfl
@[simp] theorem r_lst (es : List E) : eLst es Γ = eList es Γ >>= fun ds => if ds.length ≤ lim then pure (.lst ds) else M.fail := rfl
@[simp] theorem r_call (f : List D → M D) (es : List E) : eCall f es Γ = eList es Γ >>= fun ds => f ds := rfl
@[simp] theorem r_seq : sSeq f g Γ = f Γ >>= seqK g := rfl
@[simp] theorem r_seqn (Γ' : Env) : seqK g (Γ', .next) = g Γ' := rfl
@[simp] theorem r_seqr (Γ' : Env) (d : D) : seqK g (Γ', .ret d) = pure (Γ', .ret d) := rfl
@[simp] theorem r_asg (tg : Tg) : sAsg tg a Γ = a Γ >>= fun d => liftO (tg.put d Γ) >>= fun Γ' => pure (Γ', .next) := rfl
@[simp] theorem r_sif : sIf t f g Γ = t Γ >>= fun r => if r = true then f Γ else g Γ := rfl
@[simp] theorem r_ret : sRet a Γ = a Γ >>= fun d => pure (Γ, .ret d) := rfl
@[simp] theorem r_expr : sExpr a Γ = a Γ >>= fun _ => pure (Γ, .next) := rfl
@[simp] theorem r_nop : sNop Γ = pure (Γ, .next) := rfl
@[simp] theorem r_retr (d : D) : retK (Γ, .ret d) = pure d := rfl
@[simp] theorem r_retn : retK (Γ, .next) = pure .non := rfl
@[simp] theorem r_toBl (b : Bool) : toBl (.bl b) = pure b := rfl
@[simp] theorem r_toI (i : Int) : toI (.int i) = pure i := rfl
@[simp] theorem r_lift {α : Type} (x : α) : liftO (some x) = pure x := rfl
@[simp] theorem r_putv (i : Nat) (d : D) : Tg.put (.v i) d Γ = some (Γ.set i (some d)) := rfl
@[simp] theorem r_putt (ts : Tgs) (ds : List D) : Tg.put (.t ts) (.tup ds) Γ = ts.put ds Γ := rfl
@[simp] theorem r_put0 : Tgs.put .nil [] Γ = some Γ := rfl
@[simp] theorem r_put1 (t : Tg) (ts : Tgs) (d : D) (ds : List D) : Tgs.put (.cons t ts) (d :: ds) Γ = (t.put d Γ).bind (ts.put ds) := rfl
@[simp] theorem r_wipe0 : wipe Γ [] = Γ := rfl
@[simp] theorem r_wipe1 (v : Nat) (vs : List Nat) : wipe Γ (v :: vs) = (wipe Γ vs).set v none := rfl
@[simp] theorem r_wseq : wSeq a Γ = a Γ >>= fun d => itemsD d >>= fun ds => pure (ds, match d with | .h n => .l n | _ => .no) := rfl
@[simp] theorem r_wrange1 : wRange1 a Γ = a Γ >>= fun x => toI x >>= fun j => if -1000000 ≤ j ∧ j ≤ 1000000 then pure (rangeL 0 j, .no) else M.fail := rfl
@[simp] theorem r_wrange : wRange a b Γ = a Γ >>= fun x => toI x >>= fun i => b Γ >>= fun y => toI y >>= fun j => if -1000000 ≤ i ∧ i ≤ 0 + 1000000 ∧ -1000000 ≤ j ∧ j ≤ 1000000 ∧ (j - i).toNat ≤ lim then pure (rangeL i j, .no) else M.fail := rfl
@[simp] theorem r_wenum : wEnum a Γ = a Γ >>= fun x => fixD x >>= fun ds => pure (ds.mapIdx fun i d => .tup [.int i, d], .no) := rfl
@[simp] theorem r_wzip : wZip a b Γ = a Γ >>= fun x => b Γ >>= fun y => zipD x y >>= fun zs => pure (zs, .no) := rfl
@[simp] theorem r_comp (vs : List Nat) (w : W) (tg : Tg) (c : Option T) (e : E) : eComp vs w tg c e Γ = w Γ >>= fun p => compL p.2 p.1 (oneC vs tg c e Γ) p.1 >>= fun ys => pure (.lst ys) := rfl
@[simp] theorem r_comp2 (vs vs1 : List Nat) (w : W) (tg : Tg) (w2 : W) (tg2 : Tg) (e : E) : eComp2 vs vs1 w tg w2 tg2 e Γ = w Γ >>= fun p => compX p.2 p.1 (rowC vs vs1 tg w2 tg2 e Γ) p.1 >>= fun ys => if ys.length ≤ lim then pure (.lst ys) else M.fail := rfl
@[simp] theorem r_for (tg : Tg) (w : W) : sFor tg w f Γ = w Γ >>= fun p => forL p.2 p.1 tg f p.1 Γ := rfl
@[simp] theorem r_itl (ds : List D) : itemsD (.lst ds) = pure ds := rfl
@[simp] theorem r_itt (ds : List D) : itemsD (.tup ds) = pure ds := rfl
@[simp] theorem r_fxl (ds : List D) : fixD (.lst ds) = pure ds := rfl
@[simp] theorem r_fxt (ds : List D) : fixD (.tup ds) = pure ds := rfl
@[simp] theorem r_len (d : D) : lenD d = itemsD d >>= fun ds => pure (.int ds.length) := rfl
@[simp] theorem r_tuple (d : D) : tupleD d = itemsD d >>= fun ds => pure (.tup ds) := rfl
@[simp] theorem r_listD (d : D) : listD d = itemsD d >>= fun ds => pure (.lst ds) := rfl
@[simp] theorem r_isN (neg : Bool) (d : D) : isN neg d = pure (.bl (neg != isNonB d)) := rfl
@[simp] theorem r_non1 : isNonB .non = true := rfl
@[simp] theorem r_non2 (i : Int) : isNonB (.int i) = false := rfl
@[simp] theorem r_non3 (ds : List D) : isNonB (.tup ds) = false := rfl
@[simp] theorem r_eqi (i j : Int) : eqD (.int i) (.int j) = pure (.bl (i == j)) := by simp [eqD, flt, eqb]
@[simp] theorem r_nei (i j : Int) : neD (.int i) (.int j) = pure (.bl (i != j)) := by simp [neD, flt, eqb, bne]
@[simp] theorem r_add (i j : Int) : addD (.int i) (.int j) = pure (.int (i + j)) := rfl
@[simp] theorem r_sub (i j : Int) : subD (.int i) (.int j) = pure (.int (i - j)) := rfl
@[simp] theorem r_le (i j : Int) : leD (.int i) (.int j) = pure (.bl (decide (i ≤ j))) := rfl
@[simp] theorem r_lt (i j : Int) : ltD (.int i) (.int j) = pure (.bl (decide (i < j))) := rfl
@[simp] theorem r_ge (i j : Int) : geD (.int i) (.int j) = pure (.bl (decide (j ≤ i))) := rfl
@[simp] theorem r_gt (i j : Int) : gtD (.int i) (.int j) = pure (.bl (decide (j < i))) := rfl
@[simp] theorem r_cat (a b : List D) : addD (.tup a) (.tup b) = if a.length + b.length ≤ lim then pure (.tup (a ++ b)) else M.fail := rfl
@[simp] theorem r_catl (a b : List D) : addD (.lst a) (.lst b) = if a.length + b.length ≤ lim then pure (.lst (a ++ b)) else M.fail := rfl
@[simp] theorem r_inD (neg : Bool) (x : D) (ds : List D) : inD neg x (.tup ds) = if flt 60 x && fltL 60 ds then pure (.bl (neg != ds.any fun z => eqb z x)) else M.fail := rfl
@[simp] theorem r_inL (neg : Bool) (x : D) (ds : List D) : inD neg x (.lst ds) = if flt 60 x && fltL 60 ds then pure (.bl (neg != ds.any fun z => eqb z x)) else M.fail := rfl
@[simp] theorem r_flti (n : Nat) (i : Int) : flt n (.int i) = true := by cases n <;> rfl
@[simp] theorem r_fltn (n : Nat) : flt n .non = true := by cases n <;> rfl
@[simp] theorem r_flt0 (n : Nat) : fltL n [] = true := by cases n <;> rfl
@[simp] theorem r_flt1 (n : Nat) (d : D) (ds : List D) : fltL n (d :: ds) = (flt n d && fltL n ds) := by cases n <;> rfl
@[simp] theorem r_eqbi (i j : Int) : eqb (.int i) (.int j) = (i == j) := by rw [eqb]
@[simp] theorem lim1 : (1 ≤ lim) = True := by unfold lim; simp
@[simp] theorem lim2 : (2 ≤ lim) = True := by unfold lim; simp
@[simp] theorem lim3 : (3 ≤ lim) = True := by unfold lim; simp
@[simp] theorem lim4 : (4 ≤ lim) = True := by unfold lim; simp
@[simp] theorem lim5 : (5 ≤ lim) = True := by unfold lim; simp
@[simp] theorem lim6 : (6 ≤ lim) = True := by unfold lim; simp
@[simp] theorem lim7 : (7 ≤ lim) = True := by unfold lim; simp
theorem le_lim {n : Nat} (h : n ≤ 1000000) : n ≤ lim := h
@[simp] theorem r_zipt (a b : List D) : zipD (.tup a) (.tup b) = pure ((a.zip b).map fun p => .tup [p.1, p.2]) := rfl
@[simp] theorem r_zipl (a b : List D) : zipD (.lst a) (.lst b) = pure ((a.zip b).map fun p => .tup [p.1, p.2]) := rfl
end
/-! ### loops -/
section
variable {α : Type} {its : List D} {enc : α → D} {tg : Tg} {body : S}
theorem forL_pure (Rel : List α → Env → Prop) : ∀ (xs done : List α) (Γ : Env), (∀ d a rest Γ, done ++ xs = d ++ a :: rest → Rel d Γ → ∃ Γ1 Γ2, tg.put (enc a) Γ = some Γ1 ∧ body Γ1 = pure (Γ2, .next) ∧ Rel (d ++ [a]) Γ2) → Rel done Γ →
    ∃ Γ', forL .no its tg body (xs.map enc) Γ = pure (Γ', .next) ∧ Rel (done ++ xs) Γ'
  | [], done, Γ, _, h0 => ⟨Γ, rfl, by rw [List.append_nil]; exact h0⟩
  | x :: xs, done, Γ, h, h0 => by
    obtain ⟨Γ1, Γ2, e1, e2, e3⟩ := h done x xs Γ rfl h0
    obtain ⟨Γ', e4, e5⟩ := forL_pure Rel xs (done ++ [x]) Γ2 (fun d a rest Γ e => h d a rest Γ (by rw [← e]; simp)) e3
    refine ⟨Γ', ?_, by simpa using e5⟩
    rw [List.map_cons, forL, gOk_no, pure_bind, e1, r_lift, pure_bind, e2, pure_bind]
    exact e4
theorem forL_find (Rel : Env → Prop) (p : α → Option D) : ∀ (xs : List α) (Γ : Env), (∀ a ∈ xs, ∀ Γ, Rel Γ → ∃ Γ1 Γ2, tg.put (enc a) Γ = some Γ1 ∧ Rel Γ2 ∧ body Γ1 = pure (Γ2, match p a with | some d => .ret d | none => .next)) → Rel Γ →
    ∃ Γ', Rel Γ' ∧ forL .no its tg body (xs.map enc) Γ = pure (Γ', match xs.findSome? p with | some d => .ret d | none => .next)
  | [], Γ, _, h0 => ⟨Γ, h0, rfl⟩
  | x :: xs, Γ, h, h0 => by
    obtain ⟨Γ1, Γ2, e1, e2, e3⟩ := h x List.mem_cons_self Γ h0
    rw [List.map_cons, forL, gOk_no, pure_bind, e1, r_lift, pure_bind, e3, pure_bind, List.findSome?_cons]
    cases hp : p x with
    | some d => exact ⟨Γ2, e2, rfl⟩
    | none => exact forL_find Rel p xs Γ2 (fun a ha => h a (List.mem_cons_of_mem _ ha)) e2
end
/-! ### what lays new things alone -/
def Grow {α : Type} (m : M α) (r : α) : Prop := ∀ μ, ∃ μ', m μ = some (r, μ ++ μ')
theorem Grow.pure {α : Type} (r : α) : Grow (Pure.pure r : M α) r := fun μ => ⟨[], by rw [pure_def, List.append_nil]⟩
theorem Grow.of {α : Type} {m : M α} {r : α} (h : m = Pure.pure r) : Grow m r := by rw [h]; exact .pure r
theorem Grow.bind {α β : Type} {m : M α} {f : α → M β} {r : α} {t : β} (h : Grow m r) (k : Grow (f r) t) : Grow (m >>= f) t := fun μ => by
  obtain ⟨μ1, e1⟩ := h μ
  obtain ⟨μ2, e2⟩ := k (μ ++ μ1)
  exact ⟨μ1 ++ μ2, by rw [bind_def, e1]; simpa using e2⟩
theorem Grow.eq {α : Type} {m m' : M α} {r : α} (e : m = m') (h : Grow m' r) : Grow m r := by rw [e]; exact h
/-- others stand: what was laid before, but for one handle -/
def Ot (n : Nat) (μ μ' : Store) : Prop := μ.length ≤ μ'.length ∧ ∀ i, i ≠ n → i < μ.length → μ'[i]? = μ[i]?
theorem Ot.refl (n : Nat) (μ : Store) : Ot n μ μ := ⟨Nat.le_refl _, fun _ _ _ => rfl⟩
theorem Ot.trans {n : Nat} {μ1 μ2 μ3 : Store} (a : Ot n μ1 μ2) (b : Ot n μ2 μ3) : Ot n μ1 μ3 := ⟨Nat.le_trans a.1 b.1, fun i hi hl => (b.2 i hi (Nat.lt_of_lt_of_le hl a.1)).trans (a.2 i hi hl)⟩
theorem Ot.app (n : Nat) (μ μ' : Store) : Ot n μ (μ ++ μ') := ⟨by simp, fun i _ hl => List.getElem?_append_left hl⟩
theorem get_app {μ μ' : Store} {i : Nat} {o : MO} (h : μ[i]? = some o) : (μ ++ μ')[i]? = some o := by rw [List.getElem?_append_left (List.getElem?_eq_some_iff.mp h).1]; exact h
theorem cut_to {α : Type} (f : α → D) (xs : List α) (k : Nat) : cut (xs.map f) none (some (k : Int)) = (xs.take k).map f := by
  have h : ¬ ((k : Int) < 0) := by omega
  simp only [cut, sIx, if_neg h, List.drop_zero, Nat.sub_zero, Int.toNat_natCast, List.length_map]
  rw [← List.map_take]
  congr 1
  rcases Nat.le_total k xs.length with h1 | h1
  · rw [Nat.min_eq_left h1]
  · rw [Nat.min_eq_right h1, List.take_length, List.take_of_length_le h1]
theorem cut_from {α : Type} (f : α → D) (xs : List α) (k : Nat) : cut (xs.map f) (some (k : Int)) none = (xs.drop k).map f := by
  have h : ¬ ((k : Int) < 0) := by omega
  simp only [cut, sIx, if_neg h, Int.toNat_natCast, List.length_map]
  rw [← List.map_drop, ← List.map_take]
  congr 1
  rcases Nat.le_total k xs.length with h1 | h1
  · rw [Nat.min_eq_left h1, List.take_of_length_le (by rw [List.length_drop]; exact Nat.le_refl _)]
  · rw [Nat.min_eq_right h1, List.drop_length, List.drop_eq_nil_of_le h1]; simp
theorem cut_from1 {α : Type} (f : α → D) (xs : List α) (k : Nat) : cut (xs.map f) (some ((k : Int) + 1)) none = (xs.drop (k + 1)).map f := cut_from f xs (k + 1)
theorem enum_dS (s : List Int) : (s.map D.int).mapIdx (fun i d => D.tup [.int (i : Nat), d]) = s.zipIdx.map fun p => D.tup [.int (p.2 : Nat), .int p.1] := by
  apply List.ext_getElem?
  intro i
  simp [List.getElem?_mapIdx]
  cases s[i]? <;> simp
theorem fl0 {α : Type} (q : α → Bool) (l : List α) : (((l.filter q).length : Int) == 0) = l.all fun x => !q x := by
  rw [Bool.eq_iff_iff, List.all_eq_true, beq_iff_eq]
  have : ((l.filter q).length : Int) = 0 ↔ l.filter q = [] := by
    rw [← List.length_eq_zero_iff]; omega
  rw [this, List.filter_eq_nil_iff]
  constructor
  · intro h x hx
    have := h x hx
    simpa using this
  · intro h x hx
    have := h x hx
    simpa using this
/-! ### at a store -/
theorem run_bind {α β : Type} {m : M α} {f : α → M β} {μ μ1 : Store} {a : α} (h : m μ = some (a, μ1)) : (m >>= f) μ = f a μ1 := by rw [bind_def, h]
theorem run_pure {α : Type} {m : M α} {a : α} (h : m = pure a) (μ : Store) : m μ = some (a, μ) := by rw [h]; rfl
section
variable {α : Type} {its : List D} {enc : α → D} {tg : Tg} {body : S} {g : Gd} {μ : Store}
theorem compL_at {f : D → M (Option D)} {p : α → Bool} {h : α → D} (hg : gOk g its μ = some ((), μ)) : ∀ {xs : List α}, (∀ a ∈ xs, f (enc a) μ = some (if p a then some (h a) else none, μ)) → compL g its f (xs.map enc) μ = some ((xs.filter p).map h, μ)
  | [], _ => by rw [List.map_nil, compL, run_bind hg]; rfl
  | x :: xs, hh => by
    rw [List.map_cons, compL, run_bind hg, run_bind (hh x List.mem_cons_self), run_bind (compL_at hg (fun a ha => hh a (List.mem_cons_of_mem _ ha)))]
    by_cases hp : p x = true
    · rw [List.filter_cons_of_pos hp]; simp [hp]; rfl
    · rw [List.filter_cons_of_neg hp]; simp [hp]; rfl
theorem compK_no {f : D → M (Option Int)} {h : α → Option Int} : ∀ {xs : List α} {acc : List (Option Int)}, (∀ a ∈ xs, f (enc a) = pure (h a)) → ∃ ks, compK .no its f (xs.map enc) acc = pure ks ∧ ∀ k, ks.contains k = (acc.contains k || xs.any fun a => h a == k)
  | [], acc, _ => ⟨acc, rfl, fun k => by simp⟩
  | x :: xs, acc, hh => by
    obtain ⟨ks, e1, e2⟩ := compK_no (xs := xs) (acc := putKs acc (h x)) fun a ha => hh a (List.mem_cons_of_mem _ ha)
    refine ⟨ks, ?_, fun k => ?_⟩
    · rw [List.map_cons, compK, gOk_no, pure_bind, hh x List.mem_cons_self, pure_bind, e1]
    · rw [e2, List.any_cons]
      have : (putKs acc (h x)).contains k = (acc.contains k || (h x == k)) := by
        unfold putKs
        by_cases hc : acc.contains (h x) = true
        · rw [if_pos hc]
          by_cases hk : h x = k
          · subst hk; simp at hc; simp [hc]
          · have : (h x == k) = false := by simpa using hk
            rw [this, Bool.or_false]
        · rw [if_neg hc, Bool.eq_iff_iff]
          simp only [List.contains_iff_mem, Bool.or_eq_true, beq_iff_eq, List.mem_append, List.mem_singleton]
          constructor
          · rintro (h | h)
            · exact .inl h
            · exact .inr h.symm
          · rintro (h | h)
            · exact .inl h
            · exact .inr h.symm
      rw [this, Bool.or_assoc]
theorem forL_wp (Rel : List α → Env → Store → Prop) (hg : ∀ d Γ μ, Rel d Γ μ → gOk g its μ = some ((), μ)) : ∀ (xs done : List α) (Γ : Env) (μ : Store), (∀ d a rest Γ μ, done ++ xs = d ++ a :: rest → Rel d Γ μ → ∃ Γ1 Γ2 μ2, tg.put (enc a) Γ = some Γ1 ∧ body Γ1 μ = some ((Γ2, .next), μ2) ∧ Rel (d ++ [a]) Γ2 μ2) → Rel done Γ μ →
    ∃ Γ' μ', forL g its tg body (xs.map enc) Γ μ = some ((Γ', .next), μ') ∧ Rel (done ++ xs) Γ' μ'
  | [], done, Γ, μ, _, h0 => ⟨Γ, μ, by rw [List.map_nil, forL, run_bind (hg _ _ _ h0)]; rfl, by rw [List.append_nil]; exact h0⟩
  | x :: xs, done, Γ, μ, h, h0 => by
    obtain ⟨Γ1, Γ2, μ2, e1, e2, e3⟩ := h done x xs Γ μ rfl h0
    obtain ⟨Γ', μ', e4, e5⟩ := forL_wp Rel hg xs (done ++ [x]) Γ2 μ2 (fun d a rest Γ μ e => h d a rest Γ μ (by rw [← e]; simp)) e3
    refine ⟨Γ', μ', ?_, by simpa using e5⟩
    rw [List.map_cons, forL, run_bind (hg _ _ _ h0), e1, r_lift, pure_bind, run_bind e2]
    exact e4
end
theorem getH_at {n : Nat} {o : MO} {μ : Store} (h : μ[n]? = some o) : getH n μ = some (o, μ) := by unfold getH; rw [h]
theorem setH_at {n : Nat} {o o' : MO} {μ : Store} (h : μ[n]? = some o) : setH n o' μ = some ((), μ.set n o') := by unfold setH; rw [if_pos (List.getElem?_eq_some_iff.mp h).1]
theorem push_at {n : Nat} {ds zs : List D} {μ : Store} (h : μ[n]? = some (.lst ds)) (hl : ds.length + zs.length ≤ lim) : pushH n zs μ = some (.non, μ.set n (.lst (ds ++ zs))) := by
  unfold pushH
  rw [run_bind (getH_at h)]
  dsimp only
  rw [if_pos hl, run_bind (setH_at h)]
  rfl
theorem append_at {a e : E} {Γ : Env} {n : Nat} {d : D} {ds : List D} {μ μ1 : Store} (ha : a Γ μ = some (.h n, μ)) (h0 : μ[n]? = some (.lst ds)) (he : e Γ μ = some (d, μ1)) (h : μ1[n]? = some (.lst ds)) (hl : ds.length + 1 ≤ lim) : eAppend a e Γ μ = some (.non, μ1.set n (.lst (ds ++ [d]))) := by
  unfold eAppend
  have hx : isLH (.h n) μ = some (n, μ) := by
    unfold isLH
    dsimp only
    rw [run_bind (getH_at h0)]
    rfl
  rw [run_bind ha, run_bind hx, run_bind he, push_at (zs := [d]) h hl]
theorem findK_map {f : List Int → D} {k : List Int} : ∀ {xs : List (List Int)}, k ∈ xs → findK k (xs.map fun s => (s, f s)) = some (f k)
  | [], h => by simp at h
  | x :: xs, h => by
    rw [List.map_cons, findK]
    by_cases hx : x = k
    · rw [if_pos hx, hx]
    · rw [if_neg hx]
      exact findK_map ((List.mem_cons.mp h).resolve_left fun e => hx e.symm)
theorem getD_at {n : Nat} {lk : Bool} {kvs : List (List Int × D)} {k : List Int} {d : D} {μ : Store} (h : μ[n]? = some (.dic lk kvs)) (hk : findK k kvs = some d) : getD (.h n) (dS k) μ = some (d, μ) := by
  unfold getD dS
  dsimp only
  rw [run_bind (getH_at h)]
  dsimp only
  rw [toInts_map]
  dsimp only
  rw [hk]
  rfl
theorem keysOf_dS : ∀ xs : List (List Int), keysOf (xs.map dS) = some xs
  | [] => rfl
  | x :: xs => by rw [List.map_cons, dS, keysOf, toInts_map, keysOf_dS xs]
/-! ### states -/
def rows (lo : Int) (sizes : List Int) : List (List Int) := sizes.foldl (fun rs n => rs.flatMap fun r => (rg lo n).map fun x => r ++ [x]) [[]]
theorem rg_len (lo hi : Int) : (rg lo hi).length = (hi - lo).toNat := by simp [rg]
theorem mem_rg {lo hi x : Int} : x ∈ rg lo hi ↔ lo ≤ x ∧ x < hi := by
  unfold rg
  rw [List.mem_map]
  constructor
  · rintro ⟨k, hk, rfl⟩
    rw [List.mem_range] at hk
    omega
  · intro h
    exact ⟨(x - lo).toNat, by rw [List.mem_range]; omega, by omega⟩
theorem rg_nd (lo hi : Int) : (rg lo hi).Nodup := by
  unfold rg
  rw [List.nodup_iff_pairwise_ne, List.pairwise_map]
  exact (List.nodup_iff_pairwise_ne.mp List.nodup_range).imp fun h e => h (by omega)
theorem rows_snoc (lo : Int) (d : List Int) (n : Int) : rows lo (d ++ [n]) = (rows lo d).flatMap fun r => (rg lo n).map fun x => r ++ [x] := by
  unfold rows
  rw [List.foldl_append]
  rfl
theorem flat_len {α β : Type} (c : Nat) (f : α → List β) : ∀ l : List α, (∀ a ∈ l, (f a).length ≤ c) → (l.flatMap f).length ≤ c * l.length
  | [], _ => by simp
  | x :: xs, h => by
    have h1 := h x List.mem_cons_self
    have h2 := flat_len c f xs fun a ha => h a (List.mem_cons_of_mem _ ha)
    rw [List.flatMap_cons, List.length_append, List.length_cons, Nat.mul_succ]
    omega
theorem snoc_rec {P : List Int → Prop} (h0 : P []) (hs : ∀ d n, P d → P (d ++ [n])) : ∀ (m : Nat) (d : List Int), d.length = m → P d
  | 0, d, hd => by rw [List.length_eq_zero_iff.mp hd]; exact h0
  | m + 1, d, hd => by
    rcases List.eq_nil_or_concat d with e | ⟨d', n, e⟩
    · subst e; simp at hd
    · subst e
      rw [List.concat_eq_append] at hd ⊢
      exact hs d' n (snoc_rec h0 hs m d' (by simpa using hd))
theorem snoc_ind {P : List Int → Prop} (h0 : P []) (hs : ∀ d n, P d → P (d ++ [n])) (d : List Int) : P d := snoc_rec h0 hs d.length d rfl
theorem mem_rows {lo : Int} (sizes : List Int) : ∀ s, s ∈ rows lo sizes ↔ s.length = sizes.length ∧ ∀ (i : Nat) (n x : Int), sizes[i]? = some n → s[i]? = some x → lo ≤ x ∧ x < n := by
  refine snoc_ind (P := fun sizes => ∀ s, s ∈ rows lo sizes ↔ s.length = sizes.length ∧ ∀ (i : Nat) (n x : Int), sizes[i]? = some n → s[i]? = some x → lo ≤ x ∧ x < n) ?_ ?_ sizes
  · intro s
    simp [rows]
  · intro d n ih s
    rw [rows_snoc, List.mem_flatMap]
    constructor
    · rintro ⟨r, hr, hs⟩
      obtain ⟨x, hx, rfl⟩ := List.mem_map.mp hs
      obtain ⟨h1, h2⟩ := (ih r).mp hr
      refine ⟨by simp [h1], fun i m y e1 e2 => ?_⟩
      by_cases hi : i < d.length
      · rw [List.getElem?_append_left hi] at e1
        rw [List.getElem?_append_left (by omega)] at e2
        exact h2 i m y e1 e2
      · have hi2 : i = d.length := by
          have := (List.getElem?_eq_some_iff.mp e1).1
          simp at this; omega
        subst hi2
        have e1 : n = m := by simpa using e1
        have e2 : x = y := by rw [← h1] at e2; simpa using e2
        subst e1 e2
        exact mem_rg.mp hx
    · rintro ⟨h1, h2⟩
      rcases List.eq_nil_or_concat s with e | ⟨r, x, e⟩
      · subst e; simp at h1
      · rw [List.concat_eq_append] at e
        subst e
        have hl : r.length = d.length := by simpa using h1
        refine ⟨r, (ih r).mpr ⟨hl, fun i m y e1 e2 => ?_⟩, List.mem_map.mpr ⟨x, mem_rg.mpr ?_, rfl⟩⟩
        · exact h2 i m y (by rw [List.getElem?_append_left (List.getElem?_eq_some_iff.mp e1).1]; exact e1) (by rw [List.getElem?_append_left (List.getElem?_eq_some_iff.mp e2).1]; exact e2)
        · exact h2 d.length n x (by simp) (by rw [← hl]; simp)
theorem snoc_inj {a b : List Int} {x y : Int} (h : a ++ [x] = b ++ [y]) : a = b ∧ x = y := by
  have := List.append_inj' h rfl
  exact ⟨this.1, by simpa using this.2⟩
theorem rows_nd {lo : Int} (sizes : List Int) : (rows lo sizes).Nodup := by
  refine snoc_ind (P := fun sizes => (rows lo sizes).Nodup) (by simp [rows]) (fun d n ih => ?_) sizes
  rw [rows_snoc]
  have gen : ∀ l : List (List Int), l.Nodup → (l.flatMap fun r => (rg lo n).map fun x => r ++ [x]).Nodup := by
    intro l
    induction l with
    | nil => simp
    | cons r l ihl =>
      intro h
      rw [List.nodup_cons] at h
      rw [List.flatMap_cons, List.nodup_append]
      refine ⟨?_, ihl h.2, fun a ha b hb e => ?_⟩
      · rw [List.nodup_iff_pairwise_ne, List.pairwise_map]
        exact (List.nodup_iff_pairwise_ne.mp (rg_nd lo n)).imp fun hne e => hne (snoc_inj e).2
      · obtain ⟨x, _, rfl⟩ := List.mem_map.mp ha
        obtain ⟨r', hr', hb⟩ := List.mem_flatMap.mp hb
        obtain ⟨y, _, rfl⟩ := List.mem_map.mp hb
        exact h.1 ((snoc_inj e).1 ▸ hr')
  exact gen _ ih
def SzOk (sizes : List Int) : Prop := sizes.length ≤ 4 ∧ ∀ n ∈ sizes, 1 ≤ n ∧ n ≤ 3
theorem rows_len {lo : Int} (hlo : -1 ≤ lo) : ∀ (m : Nat) (d : List Int), d.length = m → (∀ n ∈ d, n ≤ 3) → (rows lo d).length ≤ 4 ^ m ∧ ∀ r ∈ rows lo d, r.length = m
  | 0, d, hd, _ => by
    rw [List.length_eq_zero_iff.mp hd]
    simp [rows]
  | m + 1, d, hd, h => by
    rcases List.eq_nil_or_concat d with e | ⟨d', n, e⟩
    · subst e; simp at hd
    · subst e
      rw [List.concat_eq_append] at hd h ⊢
      obtain ⟨h1, h2⟩ := rows_len hlo m d' (by simpa using hd) fun x hx => h x (by simp [hx])
      have hn : n ≤ 3 := h n (by simp)
      rw [rows_snoc]
      constructor
      · have := flat_len 4 (fun r => (rg lo n).map fun x => r ++ [x]) (rows lo d') fun r hr => by rw [List.length_map, rg_len]; omega
        rw [Nat.pow_succ]
        omega
      · intro r hr
        obtain ⟨q, hq, hr⟩ := List.mem_flatMap.mp hr
        obtain ⟨x, hx, rfl⟩ := List.mem_map.mp hr
        rw [List.length_append, h2 q hq]
        rfl
theorem SzOk.rows {lo : Int} (hlo : -1 ≤ lo) {sizes : List Int} (h : SzOk sizes) : (DL.rows lo sizes).length ≤ 256 ∧ ∀ r ∈ DL.rows lo sizes, r.length = sizes.length := by
  obtain ⟨h1, h2⟩ := rows_len hlo sizes.length sizes rfl fun n hn => (h.2 n hn).2
  exact ⟨Nat.le_trans h1 (Nat.pow_le_pow_right (by decide) h.1), h2⟩
theorem flat_dS (lo n : Int) (rs : List (List Int)) : (rs.flatMap fun r => (rg lo n).map fun x => dS (r ++ [x])) = (rs.flatMap fun r => (rg lo n).map fun x => r ++ [x]).map dS := by
  rw [List.map_flatMap]
  simp only [List.map_map]
  rfl
theorem atI_nat {xs : List D} {k : Nat} {d : D} (h : xs[k]? = some d) : atI xs (k : Int) = pure d := by
  have hk := (List.getElem?_eq_some_iff.mp h).1
  unfold atI ixN
  rw [if_pos (by omega), if_pos (by omega), Int.toNat_natCast]
  dsimp only
  rw [h]
theorem idx_tup {xs : List D} {k : Nat} {d : D} (h : xs[k]? = some d) : idxD (.tup xs) (.int (k : Int)) = pure d := atI_nat h
theorem idx_lst {xs : List D} {k : Nat} {d : D} (h : xs[k]? = some d) : idxD (.lst xs) (.int (k : Int)) = pure d := atI_nat h
@[simp] theorem idx_t0 (d : D) (xs : List D) : idxD (.tup (d :: xs)) (.int 0) = pure d := idx_tup (k := 0) rfl
@[simp] theorem idx_t1 (c d : D) (xs : List D) : idxD (.tup (c :: d :: xs)) (.int 1) = pure d := idx_tup (k := 1) rfl
@[simp] theorem idx_l0 (d : D) (xs : List D) : idxD (.lst (d :: xs)) (.int 0) = pure d := idx_lst (k := 0) rfl
section
variable {μ : Store} {a a' b b' : MO} {l : Store}
@[simp] theorem st1 : (μ ++ a :: l)[μ.length]? = some a := by rw [List.getElem?_append_right (Nat.le_refl _)]; simp
@[simp] theorem st2 : (μ ++ a :: b :: l)[μ.length + 1]? = some b := by rw [List.getElem?_append_right (by omega)]; simp
@[simp] theorem set1 : (μ ++ a :: l).set μ.length a' = μ ++ a' :: l := by rw [List.set_append_right _ _ (Nat.le_refl _)]; simp
@[simp] theorem set2 : (μ ++ a :: b :: l).set (μ.length + 1) b' = μ ++ a :: b' :: l := by rw [List.set_append_right _ _ (by omega)]; simp
end
theorem lock_at {n : Nat} {lk : Bool} {kvs : List (List Int × D)} {μ : Store} (h : μ[n]? = some (.dic (!lk) kvs)) : lockH n lk μ = some ((), μ.set n (.dic lk kvs)) := by
  unfold lockH
  rw [run_bind (getH_at h)]
  dsimp only
  rw [if_neg (by cases lk <;> simp), setH_at h]
theorem gok_keys {n : Nat} {kvs : List (List Int × D)} {μ : Store} (h : μ[n]? = some (.dic true kvs)) : gOk (.k n) (kvs.map fun p => .tup (p.1.map .int)) μ = some ((), μ) := by
  unfold gOk
  dsimp only
  rw [run_bind (getH_at h)]
  dsimp only
  rw [if_pos (sameL_refl _)]
  rfl
/-- a walk over a dict -/
theorem lock_for {Γ Γ' : Env} {i n : Nat} {tg : Tg} {body : S} {kvs : List (List Int × D)} {μ μ' : Store} {xs : List (List Int)} (hv : Γ[i]? = some (some (.h n))) (hk : μ[n]? = some (.dic false kvs)) (hx : kvs.map (·.1) = xs)
    (hr : forL (.k n) (xs.map dS) tg body (xs.map dS) Γ (μ.set n (.dic true kvs)) = some ((Γ', .next), μ')) (hk' : μ'[n]? = some (.dic true kvs)) :
    sLock i (sFor tg (wKeys (eVar i)) body) Γ μ = some ((Γ', .next), μ'.set n (.dic false kvs)) := by
  have e : eVar i Γ = pure (.h n) := by rw [r_var, hv]
  have hl := (List.getElem?_eq_some_iff.mp hk).1
  have its : (kvs.map fun p => D.tup (p.1.map .int)) = xs.map dS := by rw [← hx, List.map_map]; rfl
  unfold sLock
  rw [run_bind (β := Env × Flow) (run_pure e μ)]
  dsimp only
  rw [run_bind (β := Env × Flow) (lock_at (lk := true) hk), r_for]
  have hw : wKeys (eVar i) Γ (μ.set n (.dic true kvs)) = some ((xs.map dS, .k n), μ.set n (.dic true kvs)) := by
    unfold wKeys
    rw [run_bind (β := List D × Gd) (run_pure e _)]
    dsimp only
    rw [run_bind (β := List D × Gd) (getH_at (List.getElem?_set_self hl)), ← its]
    rfl
  have hf : (wKeys (eVar i) Γ >>= fun p => forL p.2 p.1 tg body p.1 Γ) (μ.set n (.dic true kvs)) = some ((Γ', .next), μ') := by
    rw [run_bind hw]
    exact hr
  rw [run_bind hf, run_bind (lock_at (lk := false) hk')]
  rfl
theorem dicZip_at {xs : List (List Int)} (f : List Int → D) (hn : xs.Nodup) (μ : Store) : dicZip (.lst (xs.map dS)) (.tup (xs.map f)) μ = some (.h μ.length, μ ++ [.dic false (xs.map fun s => (s, f s))]) := by
  unfold dicZip
  dsimp only
  have e : (xs.map dS).take (xs.map f).length = xs.map dS := by rw [List.length_map, ← List.length_map (f := dS), List.take_length]
  rw [e, keysOf_dS]
  dsimp only
  rw [if_pos hn]
  unfold newH
  have : xs.zip (xs.map f) = xs.map fun s => (s, f s) := by
    clear hn e
    induction xs with
    | nil => rfl
    | cons x xs ih => simpa using ih
  rw [this]
theorem map_def {α β : Type} (f : α → β) (m : M α) (μ : Store) : (f <$> m) μ = match m μ with | some (a, μ') => some (f a, μ') | none => none := rfl
theorem rangeN' (n : Nat) : rangeL 0 (n : Int) = (List.range n).map fun (k : Nat) => D.int (k : Int) := by
  unfold rangeL
  simp
end DL
/-! PM: order of states and pairs; sorting -/
namespace DL
open PySem
theorem lex_app : ∀ {a b c d : List Int}, a < b → a.length = b.length → a ++ c < b ++ d
  | [], [], _, _, h, _ => absurd h (List.lt_irrefl _)
  | [], _ :: _, _, _, _, hl => by simp at hl
  | _ :: _, [], _, _, _, hl => by simp at hl
  | x :: a, y :: b, c, d, h, hl => by
    rw [List.cons_append, List.cons_append, List.cons_lt_cons_iff]
    rw [List.cons_lt_cons_iff] at h
    rcases h with h | ⟨h1, h2⟩
    · exact .inl h
    · exact .inr ⟨h1, lex_app h2 (by simpa using hl)⟩
theorem lex_snoc : ∀ {a : List Int} {x y : Int}, x < y → a ++ [x] < a ++ [y]
  | [], x, y, h => by
    rw [List.nil_append, List.nil_append, List.cons_lt_cons_iff]
    exact .inl h
  | z :: a, x, y, h => by
    rw [List.cons_append, List.cons_append, List.cons_lt_cons_iff]
    exact .inr ⟨rfl, lex_snoc h⟩
theorem rg_sorted (lo hi : Int) : (rg lo hi).Pairwise (· < ·) := by
  unfold rg
  rw [List.pairwise_map]
  exact List.pairwise_lt_range.imp fun h => by omega
theorem rows_sorted {lo : Int} (sizes : List Int) : (rows lo sizes).Pairwise (· < ·) := by
  refine snoc_ind (P := fun sizes => (rows lo sizes).Pairwise (· < ·)) (by simp [rows]) (fun d n ih => ?_) sizes
  rw [rows_snoc]
  have gen : ∀ l : List (List Int), (∀ r ∈ l, r.length = d.length) → l.Pairwise (· < ·) → (l.flatMap fun r => (rg lo n).map fun x => r ++ [x]).Pairwise (· < ·) := by
    intro l
    induction l with
    | nil => intro _ _; exact .nil
    | cons r l ihl =>
      intro hl h
      rw [List.pairwise_cons] at h
      rw [List.flatMap_cons, List.pairwise_append]
      refine ⟨?_, ihl (fun r hr => hl r (List.mem_cons_of_mem _ hr)) h.2, fun a ha b hb => ?_⟩
      · rw [List.pairwise_map]
        exact (rg_sorted lo n).imp fun hxy => lex_snoc hxy
      · obtain ⟨x, _, rfl⟩ := List.mem_map.mp ha
        obtain ⟨r', hr', hb⟩ := List.mem_flatMap.mp hb
        obtain ⟨y, _, rfl⟩ := List.mem_map.mp hb
        exact lex_app (h.1 r' hr') (by rw [hl r List.mem_cons_self, hl r' (List.mem_cons_of_mem _ hr')])
  exact gen _ (fun r hr => ((mem_rows d r).mp hr).1) ih
/-! ### pairs -/
def ltP (p q : List Int × Int) : Prop := p.1 < q.1 ∨ (p.1 = q.1 ∧ p.2 < q.2)
theorem ltP_irr (p : List Int × Int) : ¬ ltP p p := by
  rintro (h | ⟨_, h⟩)
  · exact List.lt_irrefl _ h
  · omega
theorem ltP_asymm {p q : List Int × Int} (h : ltP p q) (k : ltP q p) : False := by
  rcases h with h | ⟨h1, h2⟩
  · rcases k with k | ⟨k1, k2⟩
    · exact List.lt_irrefl _ (List.lt_trans h k)
    · rw [k1] at h; exact List.lt_irrefl _ h
  · rcases k with k | ⟨k1, k2⟩
    · rw [h1] at k; exact List.lt_irrefl _ k
    · omega
theorem strict_unique {α : Type} {lt : α → α → Prop} (irr : ∀ a, ¬ lt a a) (asy : ∀ a b, lt a b → lt b a → False) : ∀ {l m : List α}, l.Pairwise lt → m.Pairwise lt → (∀ x, x ∈ l ↔ x ∈ m) → l = m
  | [], [], _, _, _ => rfl
  | [], b :: m, _, _, h => by have := (h b).mpr List.mem_cons_self; cases this
  | a :: l, [], _, _, h => by have := (h a).mp List.mem_cons_self; cases this
  | a :: l, b :: m, hl, hm, h => by
    rw [List.pairwise_cons] at hl hm
    have hab : a = b := by
      rcases List.mem_cons.mp ((h a).mp List.mem_cons_self) with e | e
      · exact e
      · rcases List.mem_cons.mp ((h b).mpr List.mem_cons_self) with e' | e'
        · exact e'.symm
        · exact (asy a b (hl.1 b e') (hm.1 a e)).elim
    subst hab
    rw [strict_unique irr asy hl.2 hm.2 fun x => ?_]
    constructor
    · intro hx
      rcases List.mem_cons.mp ((h x).mp (List.mem_cons_of_mem _ hx)) with e | e
      · subst e; exact (irr _ (hl.1 _ hx)).elim
      · exact e
    · intro hx
      rcases List.mem_cons.mp ((h x).mpr (List.mem_cons_of_mem _ hx)) with e | e
      · subst e; exact (irr _ (hm.1 _ hx)).elim
      · exact e
theorem leP_iff {p q : List Int × Int} : leP p q = true ↔ (p.1 < q.1 ∨ (p.1 = q.1 ∧ p.2 ≤ q.2)) := by
  unfold leP
  rw [decide_eq_true_eq]
theorem leP_trans (a b c : List Int × Int) (h : leP a b = true) (k : leP b c = true) : leP a c = true := by
  rw [leP_iff] at h k ⊢
  rcases h with h | ⟨h1, h2⟩
  · rcases k with k | ⟨k1, k2⟩
    · exact .inl (List.lt_trans h k)
    · exact .inl (k1 ▸ h)
  · rcases k with k | ⟨k1, k2⟩
    · exact .inl (h1 ▸ k)
    · exact .inr ⟨h1.trans k1, by omega⟩
theorem lt_tri (a b : List Int) : a < b ∨ a = b ∨ b < a := by
  by_cases h : a < b
  · exact .inl h
  · have h' : b ≤ a := h
    rcases List.le_iff_lt_or_eq.mp h' with h | h
    · exact .inr (.inr h)
    · exact .inr (.inl h.symm)
theorem leP_total (a b : List Int × Int) : (leP a b || leP b a) = true := by
  rw [Bool.or_eq_true, leP_iff, leP_iff]
  rcases lt_tri a.1 b.1 with h | h | h
  · exact .inl (.inl h)
  · by_cases h2 : a.2 ≤ b.2
    · exact .inl (.inr ⟨h, h2⟩)
    · exact .inr (.inr ⟨h.symm, by omega⟩)
  · exact .inr (.inl h)
theorem sort_strict {l : List (List Int × Int)} (hn : l.Nodup) : (l.mergeSort leP).Pairwise ltP := by
  have h1 := List.pairwise_mergeSort leP_trans leP_total l
  have h2 : (l.mergeSort leP).Nodup := (List.mergeSort_perm l leP).nodup_iff.mpr hn
  rw [List.nodup_iff_pairwise_ne] at h2
  refine (List.Pairwise.and h1 h2).imp fun {a b} hh => ?_
  obtain ⟨h, hne⟩ := hh
  rcases leP_iff.mp h with h | ⟨h1, h2⟩
  · exact .inl h
  · refine .inr ⟨h1, ?_⟩
    have : a.2 ≠ b.2 := fun e => hne (Prod.ext h1 e)
    omega
/-- sorted, by members alone -/
theorem sort_eq {l m : List (List Int × Int)} (hn : l.Nodup) (hm : m.Pairwise ltP) (h : ∀ x, x ∈ l ↔ x ∈ m) : l.mergeSort leP = m :=
  strict_unique ltP_irr (fun _ _ => ltP_asymm) (sort_strict hn) hm fun x => by rw [List.mem_mergeSort]; exact h x
end DL
/-! DSt3: the expression sorted(set(..)) -/
namespace DL
open PySem PySem.Spec PyProof.Rows L2
section
variable {X : Cx}
def tSS (K : PySem.W.Frag) (ta : TE) : TE := fun σ H Q => ta σ H fun x H1 => ∃ (l : Addr) (ks : Rw), x = V.ref l ∧ (SqL K H1 l (ks.map fun r => V.ref r.1) ∨ SqT K H1 l (ks.map fun r => V.ref r.1)) ∧ (∀ r ∈ ks, Dp K H1 (V.ref r.1) (encP r.2)) ∧ ks.length < 64 ∧
  ∀ (L' : Rw) (p : Addr), (∀ r ∈ L', r ∈ ks) → L'.map (·.2) = (dd (ks.map (·.2))).mergeSort leP → H1 p = none → Q (.ref p) (upd H1 p (.lst (L'.map fun r => V.ref r.1)))
theorem vals_refs : ∀ {ks : Rw} {us : List Value}, Vals (ks.map fun r => V.ref r.1) us → us = ks.map fun r => Value.ref r.1
  | [], _, .nil => rfl
  | r :: ks, _, .cons e h => by
    cases e
    rw [vals_refs h]
    rfl
theorem refs_vals : ∀ ks : Rw, Vals (ks.map fun r => V.ref r.1) (ks.map fun r => Value.ref r.1)
  | [] => .nil
  | r :: ks => .cons rfl (refs_vals ks)
theorem pe_setSort {a : Expr} {ta : TE} {p p2 q pos : Pos} (hc : X.calm = true) (hu : X.A.units + 64 < cLine) (hg : Gl X "sorted") (hm : X.mg "sorted" = none) (hg2 : Gl X "set") (hm2 : X.mg "set" = none) (ha : PE X a ta)
    (na : starEach [a] X.env = (false, eval a X.env) :: starEach [] X.env := by rfl) : PE X (.Call (.Name "sorted" p) [.Call (.Name "set" p2) [a] [] q] [] pos) (tSS X.K ta) := by
  refine ⟨fun pins s σ H Q I h => ?_⟩
  refine Call_ (ld_blt (u := .builtin "sorted") I hg hm (by decide +kernel) (PyProof.Rows.callWith_builtin1 (PyProof.Rows.args_cons ?_ rfl) rfl rfl))
  refine Call_ (ld_blt I hg2 hm2 PyProof.Rows.boot_set (PyProof.Rows.callWith_type1 (PyProof.Rows.args_cons (thn (ha.run pins s σ H _ I h) fun v s1 hx => PyProof.Rows.args_nil ?_) na) na rfl))
  obtain ⟨x, H1, I1, r1, q1⟩ := hx
  obtain ⟨l, ks, rfl, hq, hd, h4, q1⟩ := q1
  cases r1
  obtain ⟨its, rv, pl⟩ : ∃ its, Vals (ks.map fun r => V.ref r.1) its ∧ (s1.heap.IsList l its.toArray ∨ s1.heap.IsTuple l its.toArray) := by
    rcases hq with hq | hq
    · obtain ⟨its, rv, pl, hz⟩ := I1.list hq
      exact ⟨its, rv, .inl pl.isList⟩
    · obtain ⟨its, rv, pl, hz⟩ := I1.tuple hq
      exact ⟨its, rv, .inr pl⟩
  have rd : ∀ r ∈ ks, Reads s1.heap (.ref r.1) (encP r.2) [] ∧ NestedIs s1.heap (kP r.2) (.ref r.1) := fun r hr => by
    obtain ⟨as, e⟩ := Dp.reads I1 _ _ (.ref r.1) (hd r hr) rfl
    obtain ⟨rfl, z⟩ := reads_pair e
    exact ⟨e, z⟩
  refine set_pairs (P := X.prog) (w := X.w) ks (I1.ok.hd hc) pl (by simpa using vals_refs rv) (fun r hr => (rd r hr).2) h4 (by omega) fun h' tk L es ep t S T K => ?_
  refine PyProof.Rows.args_nil ?_
  have sub : ∀ r ∈ L, r ∈ ks := fun r hr => List.mem_of_mem_take (T.src r hr)
  refine sorted_pset (s := { s1 with heap := h', toks := tk }) S (I1.ok.hd hc) (by omega) (fun r hr => PyProof.Rows.Reads.keeps K (rd r (sub r hr)).1) fun s2 p c L1 K2 g2 o2 hp pm hl => ?_
  have K3 : Stands s1.heap s2.heap := fun b o e => K2 b o (K b o e)
  have hsz : s1.heap.objs.size ≤ p := by
    obtain ⟨o, ho, _⟩ := S.obj
    exact Nat.le_trans (Nat.le_of_lt (Heap.lt_size ho)) hp
  have hn : H1 p = none := I1.hok.fresh hsz
  obtain ⟨L', hL'⟩ : ∃ L', (L1.mergeSort fun x y => leP x.2 y.2) = L' := ⟨_, rfl⟩
  rw [hL'] at hl
  have mem : ∀ r, r ∈ L' ↔ r ∈ L := fun r => by rw [← hL', List.mem_mergeSort, pm.mem_iff]
  have hk : L'.map (·.2) = (dd (ks.map (·.2))).mergeSort leP := by
    rw [← hL', List.map_mergeSort (r := fun x y : Addr × Pr => leP x.2 y.2) (s := leP) (f := fun x : Addr × Pr => x.2) (fun _ _ _ _ => rfl)]
    refine sort_eq ((pm.map (·.2)).nodup_iff.mpr S.one) (sort_strict (nodup_dd _)) fun x => ?_
    rw [List.mem_mergeSort, mem_dd, (pm.map (·.2)).mem_iff]
    constructor
    · intro hx
      obtain ⟨r, hr, e⟩ := List.mem_map.mp hx
      exact List.mem_map.mpr ⟨r, sub r hr, e⟩
    · intro hx
      obtain ⟨r, hr, rfl⟩ := List.mem_map.mp hx
      exact T.all r (by rw [List.take_length]; exact hr)
  have hlen : (L'.map fun r => V.ref r.1).length ≤ sizeLine := by
    have := S.few
    rw [List.length_map, ← hL', List.length_mergeSort, pm.length_eq, sizeLine_eq]
    omega
  have ok2 : HOk X.prog X.w (upd H1 p (.lst (L'.map fun r => V.ref r.1))) s2.heap := I1.hok.laid K3 hsz ⟨hlen, L'.map (fun r => Value.ref r.1), c, refs_vals L', by simpa using hl⟩
  have J : Inv X pins σ (upd H1 p (.lst (L'.map fun r => V.ref r.1))) s2 := I1.call' (ch := []) o2 (Un.laid K3 hsz hn) ok2 (by rw [g2]; exact I1.bare) (fun _ z => nomatch z)
  exact ⟨.ref p, _, J, rfl, q1 L' p (fun r hr => sub r ((mem r).mp hr)) hk hn⟩
theorem toPairs_map {ds : List D} {ps : List Pr} (h : toPairs ds = some ps) : ds = ps.map encPr := toPairs_eq h
theorem de_setSort {a : Expr} {fa : E} {p p2 q pos : Pos} (hc : X.calm = true) (hu : X.A.units + 64 < cLine) (hg : Gl X "sorted") (hm : X.mg "sorted" = none) (hg2 : Gl X "set") (hm2 : X.mg "set" = none) (ha : DE X a fa)
    (na : starEach [a] X.env = (false, eval a X.env) :: starEach [] X.env := by rfl) : DE X (.Call (.Name "sorted" p) [.Call (.Name "set" p2) [a] [] q] [] pos) (eOp1 setSortD fa) :=
  pe_weak (pe_setSort hc hu hg hm hg2 hm2 ha na) fun σ H Q h => tD_bind h fun B β μ Γ H1 v d rp en j rn => by
    cases d with
    | lst ds =>
      obtain ⟨aa, vs, rfl, h1, h2, h3, h3', h4⟩ := is_lst' rp j
      unfold setSortD at rn
      dsimp only at rn
      cases hp : toPairs ds with
      | none => rw [hp] at rn; exact rn.fail.elim
      | some ps =>
        rw [hp] at rn
        dsimp only at rn
        by_cases hl4 : ps.length < 64
        · rw [if_pos hl4] at rn
          have hds := toPairs_eq hp
          subst hds
          have rows : ∀ (vs : List V) (ps : List Pr), IsL B β vs (ps.map encPr) → ∃ ks : Rw, vs = ks.map (fun r => V.ref r.1) ∧ ps = ks.map (·.2) ∧ ∀ r ∈ ks, Is B β (V.ref r.1) (encPr r.2) := by
            intro vs ps
            induction ps generalizing vs with
            | nil => intro h; exact ⟨[], by rw [isL_nil_iff.mp h]; rfl, rfl, fun _ h => by cases h⟩
            | cons x ps ih =>
              intro h
              rw [List.map_cons, IsL] at h
              obtain ⟨v, r, rfl, i1, i2⟩ := h
              obtain ⟨ks, e1, e2, e3⟩ := ih r i2
              obtain ⟨b, rfl⟩ : ∃ b, v = V.ref b := by
                unfold encPr at i1
                rw [Is] at i1
                obtain ⟨b, _, e, _⟩ := i1
                exact ⟨b, e⟩
              refine ⟨(b, x) :: ks, by rw [e1]; rfl, by rw [e2]; rfl, fun r hr => ?_⟩
              rcases List.mem_cons.mp hr with e | hr
              · rw [e]; exact i1
              · exact e3 r hr
          obtain ⟨ks, rfl, rfl, each⟩ := rows vs ps h4
          refine ⟨aa, ks, rfl, Or.inl (SqL.of h1), fun r hr => ?_, by rw [List.length_map] at hl4; exact hl4, fun L' q' hs hk hn => ?_⟩
          · rw [← toP_encPr]
            exact is_dp rp.sub 60 _ _ (each r hr) (flt_encPr r.2)
          · rw [← hk] at rn
            refine rn.new hn rp (is_newL (Same.free rp.sub hn) ?_ ?_)
            · have : ∀ l : Rw, (∀ r ∈ l, Is B β (V.ref r.1) (encPr r.2)) → IsL B β (l.map fun r => V.ref r.1) ((l.map (·.2)).map encPr) := by
                intro l
                induction l with
                | nil => intro _; exact isL_nil
                | cons b l ih => intro h; exact isL_cons (h b List.mem_cons_self) (ih fun c hc => h c (List.mem_cons_of_mem _ hc))
              exact this L' fun r hr => each r (hs r hr)
            · have e := congrArg List.length hk
              rw [List.length_map, List.length_mergeSort] at e
              have : ∀ l : List Pr, (dd l).length ≤ l.length := by
                intro l
                induction l with
                | nil => exact Nat.le_refl _
                | cons p l ih =>
                  unfold dd
                  split
                  · exact Nat.le_succ_of_le ih
                  · exact Nat.succ_le_succ ih
              have := this (ks.map (·.2))
              rw [List.length_map, List.length_map]
              unfold lim
              omega
        · rw [if_neg hl4] at rn; exact rn.fail.elim
    | tup ds =>
      obtain ⟨aa, vs, rfl, h1, h2, h3, h3', h4⟩ := is_tup' rp j
      unfold setSortD at rn
      dsimp only at rn
      cases hp : toPairs ds with
      | none => rw [hp] at rn; exact rn.fail.elim
      | some ps =>
        rw [hp] at rn
        dsimp only at rn
        by_cases hl4 : ps.length < 64
        · rw [if_pos hl4] at rn
          have hds := toPairs_eq hp
          subst hds
          have rows : ∀ (vs : List V) (ps : List Pr), IsL B β vs (ps.map encPr) → ∃ ks : Rw, vs = ks.map (fun r => V.ref r.1) ∧ ps = ks.map (·.2) ∧ ∀ r ∈ ks, Is B β (V.ref r.1) (encPr r.2) := by
            intro vs ps
            induction ps generalizing vs with
            | nil => intro h; exact ⟨[], by rw [isL_nil_iff.mp h]; rfl, rfl, fun _ h => by cases h⟩
            | cons x ps ih =>
              intro h
              rw [List.map_cons, IsL] at h
              obtain ⟨v, r, rfl, i1, i2⟩ := h
              obtain ⟨ks, e1, e2, e3⟩ := ih r i2
              obtain ⟨b, rfl⟩ : ∃ b, v = V.ref b := by
                unfold encPr at i1
                rw [Is] at i1
                obtain ⟨b, _, e, _⟩ := i1
                exact ⟨b, e⟩
              refine ⟨(b, x) :: ks, by rw [e1]; rfl, by rw [e2]; rfl, fun r hr => ?_⟩
              rcases List.mem_cons.mp hr with e | hr
              · rw [e]; exact i1
              · exact e3 r hr
          obtain ⟨ks, rfl, rfl, each⟩ := rows vs ps h4
          refine ⟨aa, ks, rfl, Or.inr (SqT.of h1), fun r hr => ?_, by rw [List.length_map] at hl4; exact hl4, fun L' q' hs hk hn => ?_⟩
          · rw [← toP_encPr]
            exact is_dp rp.sub 60 _ _ (each r hr) (flt_encPr r.2)
          · rw [← hk] at rn
            refine rn.new hn rp (is_newL (Same.free rp.sub hn) ?_ ?_)
            · have : ∀ l : Rw, (∀ r ∈ l, Is B β (V.ref r.1) (encPr r.2)) → IsL B β (l.map fun r => V.ref r.1) ((l.map (·.2)).map encPr) := by
                intro l
                induction l with
                | nil => intro _; exact isL_nil
                | cons b l ih => intro h; exact isL_cons (h b List.mem_cons_self) (ih fun c hc => h c (List.mem_cons_of_mem _ hc))
              exact this L' fun r hr => each r (hs r hr)
            · have e := congrArg List.length hk
              rw [List.length_map, List.length_mergeSort] at e
              have : ∀ l : List Pr, (dd l).length ≤ l.length := by
                intro l
                induction l with
                | nil => exact Nat.le_refl _
                | cons p l ih =>
                  unfold dd
                  split
                  · exact Nat.le_succ_of_le ih
                  · exact Nat.succ_le_succ ih
              have := this (ks.map (·.2))
              rw [List.length_map, List.length_map]
              unfold lim
              omega
        · rw [if_neg hl4] at rn; exact rn.fail.elim
    | _ => exact rn.fail.elim
end
end DL
/-! DMin: min(list of tuples of ints) -/
namespace DL
open PySem PySem.Spec PyProof.Rows L2
def encT (s : List Int) : PyData := .tuple (s.map .int)
theorem lt_encT (a b : List Int) : PySem.W.dataLt (encT a) (encT b) = decide (a < b) := by
  unfold encT
  rw [PySem.W.dataLt_tuple]
  exact PySem.W.dataLt_ints a b
theorem min_encT : ∀ (ks : List (List Int)) (k : List Int), PySem.W.minD (encT k) (ks.map encT) = encT (minS k ks)
  | [], k => rfl
  | y :: ks, k => by
    have e1 : PySem.W.minD (encT k) ((y :: ks).map encT) = PySem.W.minD (if PySem.W.dataLt (encT y) (encT k) = true then encT y else encT k) (ks.map encT) := rfl
    have e2 : minS k (y :: ks) = minS (if y < k then y else k) ks := rfl
    rw [e1, e2, lt_encT, ← min_encT ks]
    by_cases h : y < k
    · rw [if_pos h, if_pos (decide_eq_true h)]
    · rw [if_neg h, if_neg (by simpa using h)]
theorem encT_one {h : Heap} {v : Value} {a b : List Int} {as bs : List Addr} (x : Reads h v (encT a) as) (y : Reads h v (encT b) bs) : a = b := by
  unfold encT at x y
  cases x with
  | tuple h1 h2 h3 h4 =>
    cases y with
    | tuple k1 k2 k3 k4 =>
      rw [h1] at k1
      cases k1
      rw [h3] at k3
      cases k3
      have e := NestedAll.inj _ _ _ (reads_nums h4).2 (reads_nums k4).2
      have := congrArg (List.map deN) e
      simpa [Function.comp_def, deN] using this
section
variable {X : Cx} {K : PySem.W.Frag} {a : Expr} {fa : E} {p pos : Pos}
def rMinT (K : PySem.W.Frag) : List V → Hp → VK → Prop := fun vs H Q => ∃ (l : Addr) (b : V × List Int) (bs : List (V × List Int)), vs = [.ref l] ∧ SqL K H l ((b :: bs).map (·.1)) ∧ (∀ c ∈ b :: bs, Dp K H c.1 (encT c.2)) ∧
  ∀ c ∈ b :: bs, c.2 = minS b.2 (bs.map (·.2)) → Q c.1 H
theorem dp_all {H : Hp} : ∀ {bs : List (V × List Int)}, (∀ c ∈ bs, Dp K H c.1 (encT c.2)) → DpAll K H (bs.map (·.1)) (bs.map fun c => encT c.2)
  | [], _ => .nil
  | c :: bs, h => .cons (h c List.mem_cons_self) (dp_all fun d hd => h d (List.mem_cons_of_mem _ hd))
theorem depth_T : ∀ l : List (List Int), PyData.depthAll (l.map encT) ≤ 1
  | [] => Nat.zero_le _
  | s :: l => by
    rw [List.map_cons, PyData.depthAll]
    have := depth_T l
    have e : (encT s).depth = 1 := by unfold encT; rw [PyData.depth, PySem.W.depth_ints]
    omega
theorem cr_minT (hc : X.calm = true) (hu : X.A.units + 64 < cLine) : CallR X (.builtin "min") (rMinT X.K) := by
  intro pins s σ H vs us Q I r h
  obtain ⟨l, b, bs, rfl, hs, hd, q⟩ := h
  obtain ⟨its, rv, hl, _⟩ := I.list hs
  rw [Vals.ref1 r]
  obtain ⟨as, hr⟩ := Dp.readsAll I _ _ _ (dp_all hd) rv
  have e : (b :: bs).map (fun c => encT c.2) = encT b.2 :: (bs.map (·.2)).map encT := by rw [List.map_cons, List.map_map]; rfl
  rw [e] at hr
  refine PySem.W.min_list_data (I.ok.hd hc) hl.isList (x := encT b.2) (xs := (bs.map (·.2)).map encT) (by simpa using hr) ?_ ?_ fun i v h' tk cs hv hm hk => ?_
  · have all : ∀ x ∈ encT b.2 :: (bs.map (·.2)).map encT, ∃ t, x = encT t := fun x hx => by
      rcases List.mem_cons.mp hx with e | hx
      · exact ⟨_, e⟩
      · obtain ⟨t, _, rfl⟩ := List.mem_map.mp hx
        exact ⟨t, rfl⟩
    refine ⟨fun x hx y hy => ?_, fun x hx => ?_⟩
    · obtain ⟨t, rfl⟩ := all x hx
      obtain ⟨u, rfl⟩ := all y hy
      unfold encT
      simp [PySem.W.alike, PySem.W.alike_ints]
    · obtain ⟨t, rfl⟩ := all x hx
      unfold encT
      exact fun z => nomatch z
  · have := depth_T (b.2 :: bs.map (·.2))
    rw [List.map_cons] at this
    omega
  · have hv' : its[i]? = some v := by simpa using hv
    have hil : i < (b :: bs).length := by
      have := (List.getElem?_eq_some_iff.mp hv').1
      rw [← rv.length, List.length_map] at this
      exact this
    obtain ⟨c, hc'⟩ : ∃ c, (b :: bs)[i]? = some c := ⟨_, List.getElem?_eq_getElem hil⟩
    have hcm := List.mem_of_getElem? hc'
    obtain ⟨u, e1, e2⟩ := Vals.get rv (i := i) (x := c.1) (by rw [List.getElem?_map, hc']; rfl)
    rw [hv'] at e1
    cases e1
    obtain ⟨as', rc⟩ := Dp.reads I _ _ v (hd c hcm) e2
    rw [min_encT] at hm
    exact ⟨c.1, H, I.kept hk, e2, q c hcm (encT_one (PyProof.Rows.Reads.keeps hk rc) hm)⟩
theorem keysOf_eq : ∀ {ds : List D} {kk : List (List Int)}, keysOf ds = some kk → ds = kk.map fun k => D.tup (k.map .int)
  | [], kk, h => by rw [keysOf] at h; cases h; rfl
  | d :: ds, kk, h => by
    unfold keysOf at h
    split at h
    · rename_i e; cases e
    · rename_i es r e
      cases e
      split at h
      · rename_i k ks h1 h2
        cases h
        rw [List.map_cons, ← keysOf_eq h2, toInts_eq h1]
      · cases h
    · cases h
theorem encT_P (s : List Int) : toP (.tup (s.map .int)) = encT s := by
  unfold encT
  simp [toP]
theorem flt_T (s : List Int) : flt 60 (.tup (s.map .int)) = true := by
  have : ∀ s : List Int, fltL 59 (s.map D.int) = true := by
    intro s
    induction s with
    | nil => rfl
    | cons y s ih => rw [List.map_cons, fltL, ih]; rfl
  exact this s
theorem c_minT : Call1 K (rMinT K) minTD := by
  intro B H β μ v d Q rp hx rn
  cases d with
  | lst ds =>
    dsimp only [minTD] at rn
    cases e : keysOf ds with
    | none => rw [e] at rn; exact rn.fail.elim
    | some kk =>
      rw [e] at rn
      cases kk with
      | nil => exact rn.fail.elim
      | cons k ks =>
        dsimp only at rn
        obtain ⟨l, vs, rfl, ha, ba, l1, la, ia⟩ := is_lst' rp hx
        have hds := keysOf_eq e
        subst hds
        have rows : ∀ (vs : List V) (kk : List (List Int)), IsL B β vs (kk.map fun k => D.tup (k.map .int)) → ∃ bs : List (V × List Int), vs = bs.map (·.1) ∧ kk = bs.map (·.2) ∧ ∀ c ∈ bs, Is B β c.1 (.tup (c.2.map .int)) := by
          intro vs kk
          induction kk generalizing vs with
          | nil => intro h; exact ⟨[], by rw [isL_nil_iff.mp h]; rfl, rfl, fun _ h => by cases h⟩
          | cons x kk ih =>
            intro h
            rw [List.map_cons, IsL] at h
            obtain ⟨v, r, rfl, i1, i2⟩ := h
            obtain ⟨bs, e1, e2, e3⟩ := ih r i2
            refine ⟨(v, x) :: bs, by rw [e1]; rfl, by rw [e2]; rfl, fun c hc => ?_⟩
            rcases List.mem_cons.mp hc with e | hc
            · rw [e]; exact i1
            · exact e3 c hc
        obtain ⟨bs, rfl, e2, each⟩ := rows vs (k :: ks) ia
        cases bs with
        | nil => cases e2
        | cons b bs =>
          rw [List.map_cons, List.cons.injEq] at e2
          obtain ⟨rfl, rfl⟩ := e2
          refine ⟨l, b, bs, rfl, SqL.of ha, fun c hc => ?_, fun c hc hm => ?_⟩
          · rw [← encT_P]
            exact is_dp rp.sub 60 _ _ (each c hc) (flt_T c.2)
          · rw [← hm] at rn
            exact rn.here rp (each c hc)
  | _ => exact rn.fail.elim
theorem de_minT (hc : X.calm = true) (hu : X.A.units + 64 < cLine) (hg : Gl X "min") (hm : X.mg "min" = none) (ha : DE X a fa) (he : starEach [a] X.env = (false, eval a X.env) :: starEach [] X.env := by rfl) : DE X (.Call (.Name "min" p) [a] [] pos) (eOp1 minTD fa) := de_callB1 (cr_minT hc hu) c_minT hg hm (by decide +kernel) ha (he := he)
end
end DL
/-! DMn2: min of two numbers -/
namespace DL
open PySem PySem.Spec PyProof.Rows L2
section
variable {X : Cx} {K : PySem.W.Frag} {a b : Expr} {fa fb : E} {p pos : Pos}
theorem c_min2 : Call2 K (fun xs H Q => ∃ i j, xs = [.int i, .int j] ∧ Q (.int (if j < i then j else i)) H) min2D := by
  intro B H β μ v u d e Q rp hx hy rn
  cases d with
  | int i =>
    cases e with
    | int j => exact ⟨i, j, by rw [is_int.mp hx, is_int.mp hy], rn.here rp (is_int.mpr rfl)⟩
    | _ => exact rn.fail.elim
  | _ => cases e <;> exact rn.fail.elim
theorem de_min2 (hc : X.calm = true) (hg : Gl X "min") (hm : X.mg "min" = none) (ha : DE X a fa) (hb : DE X b fb) (he : starEach [a, b] X.env = (false, eval a X.env) :: starEach [b] X.env := by rfl) (he2 : starEach [b] X.env = (false, eval b X.env) :: starEach [] X.env := by rfl) (hpl : (backTo pos (starEach [b] X.env)).any (·.1) = false := by rfl) :
    DE X (.Call (.Name "min" p) [a, b] [] pos) (eOp2 min2D fa fb) := de_callB2 (call_min2 hc) c_min2 hg hm (by decide +kernel) ha hb (he := he) (he2 := he2) (hpl := hpl)
end
end DL
/-! printed by gen.py: the plain functions of one law -/
namespace K40
open PySem DL
def py_is_whole : List D → M D := fn 1 1 <|
    (sRet (eAnd (eOp1 isInt (eVar 0)) (eNot (eOp1 isBl (eVar 0)))))

def py_is_between : List D → M D := fn 3 3 <|
    (sRet (eAnd (eCall (py_is_whole) [(eVar 0)]) (eChain leD leD (eVar 1) (eVar 0) (eVar 2))))

def py_is_state : List D → M D := fn 2 4 <|
    (sSeq (sIf (tOr (tNot (tVal (eOp1 isTup (eVar 1)))) (tVal (eOp2 neD (eOp1 lenD (eVar 1)) (eOp1 lenD (eVar 0)))))
    (sRet (eC (.bl false)))
    sNop)
    (sRet (eOp1 allD (eComp [2, 3] (wZip (eVar 1) (eVar 0)) (.t (.cons (.v 2) (.cons (.v 3) .nil))) none (eCall (py_is_between) [(eVar 2), (eC (.int (-1))), (eOp2 subD (eVar 3) (eC (.int 1)))])))))

def py_nothing_known : List D → M D := fn 1 1 <|
    (sRet (eOp2 mulD (eTup [(eC (.int (-1)))]) (eOp1 lenD (eVar 0))))

def py_gaps : List D → M D := fn 1 3 <|
    (sRet (eOp1 tupleD (eComp [1, 2] (wEnum (eVar 0)) (.t (.cons (.v 1) (.cons (.v 2) .nil))) (some (tVal (eOp2 eqD (eVar 2) (eC (.int (-1)))))) (eVar 1))))

def py_is_below : List D → M D := fn 2 4 <|
    (sRet (eOp1 allD (eComp [2, 3] (wZip (eVar 0) (eVar 1)) (.t (.cons (.v 2) (.cons (.v 3) .nil))) none (eOp2 (inD false) (eVar 2) (eTup [(eC (.int (-1))), (eVar 3)])))))

def py_are_fitting : List D → M D := fn 2 4 <|
    (sRet (eOp1 allD (eComp [2, 3] (wZip (eVar 0) (eVar 1)) (.t (.cons (.v 2) (.cons (.v 3) .nil))) none (eOr (eOp2 eqD (eVar 2) (eC (.int (-1)))) (eOp2 (inD false) (eVar 3) (eTup [(eC (.int (-1))), (eVar 2)]))))))

def py_joined : List D → M D := fn 2 4 <|
    (sSeq (sIf (tNot (tVal (eCall (py_are_fitting) [(eVar 0), (eVar 1)])))
    (fun _ => M.fail)
    sNop)
    (sRet (eOp1 tupleD (eComp [2, 3] (wZip (eVar 0) (eVar 1)) (.t (.cons (.v 2) (.cons (.v 3) .nil))) none (eOp2 max2D (eVar 2) (eVar 3))))))

def py_with_value : List D → M D := fn 3 3 <|
    (sRet (eOp2 addD (eOp2 addD (eSlice (eVar 0) none (some (eVar 1))) (eTup [(eVar 2)])) (eSlice (eVar 0) (some (eOp2 addD (eVar 1) (eC (.int 1)))) none)))

def py_is_point : List D → M D := fn 2 2 <|
    (sSeq (sIf (tOr (tNot (tVal (eOp1 isTup (eVar 1)))) (tVal (eOp2 neD (eOp1 lenD (eVar 1)) (eC (.int 2)))))
    (sRet (eC (.bl false)))
    sNop)
    (sRet (eAnd (eCall (py_is_state) [(eOp2 idxD (eVar 0) (eC (.int 0))), (eOp2 idxD (eVar 1) (eC (.int 0)))]) (eCall (py_is_between) [(eOp2 idxD (eVar 1) (eC (.int 1))), (eC (.int 0)), (eOp2 subD (eOp2 idxD (eVar 0) (eC (.int 1))) (eC (.int 1)))]))))

def py_is_function : List D → M D := fn 2 8 <|
    (sSeq (sIf (tOr (tNot (tVal (eOp1 isTup (eVar 1)))) (tNot (tVal (eOp1 allD (eComp [2] (wSeq (eVar 1)) (.v 2) none (eCall (py_is_point) [(eVar 0), (eVar 2)]))))))
    (sRet (eC (.bl false)))
    sNop)
    (sSeq (sFor (.t (.cons (.v 3) (.cons (.t (.cons (.v 4) (.cons (.v 5) .nil))) .nil))) (wEnum (eVar 1))
    (sFor (.t (.cons (.v 6) (.cons (.v 7) .nil))) (wSeq (eSlice (eVar 1) (some (eOp2 addD (eVar 3) (eC (.int 1)))) none))
    (sSeq (sIf (tOr (tNot (tVal (eOp2 ltD (eVar 4) (eVar 6)))) (tOr (tVal (eCall (py_is_below) [(eVar 4), (eVar 6)])) (tVal (eCall (py_is_below) [(eVar 6), (eVar 4)]))))
    (sRet (eC (.bl false)))
    sNop)
    (sIf (tAnd (tVal (eCall (py_are_fitting) [(eVar 4), (eVar 6)])) (tVal (eOp2 neD (eVar 5) (eVar 7))))
    (sRet (eC (.bl false)))
    sNop))))
    (sRet (eC (.bl true)))))

def py_answer_at : List D → M D := fn 2 4 <|
    (sSeq (sFor (.t (.cons (.v 2) (.cons (.v 3) .nil))) (wSeq (eVar 0))
    (sIf (tVal (eCall (py_is_below) [(eVar 2), (eVar 1)]))
    (sRet (eVar 3))
    sNop))
    (sRet (eC (.int (-1)))))

def py_least_points : List D → M D := fn 1 6 <|
    (sSeq (sAsg (.v 1) (eNewL []))
    (sSeq (sFor (.t (.cons (.v 2) (.cons (.v 3) .nil))) (wSeq (eOp1 setSortD (eVar 0)))
    (sIf (tNot (tVal (eOp1 anyD (eComp [4, 5] (wSeq (eVar 0)) (.t (.cons (.v 4) (.cons (.v 5) .nil))) none (eAnd (eOp2 neD (eVar 4) (eVar 2)) (eCall (py_is_below) [(eVar 4), (eVar 2)]))))))
    (sExpr (eAppend (eVar 1) (eTup [(eVar 2), (eVar 3)])))
    sNop))
    (sRet (eOp1 tupleD (eVar 1)))))

def py_is_less : List D → M D := fn 2 4 <|
    (sRet (eOp1 allD (eComp [2, 3] (wSeq (eVar 0)) (.t (.cons (.v 2) (.cons (.v 3) .nil))) none (eOp2 eqD (eCall (py_answer_at) [(eVar 1), (eVar 2)]) (eVar 3)))))

def py_without_point : List D → M D := fn 2 3 <|
    (sRet (eOp1 tupleD (eComp [2] (wSeq (eVar 0)) (.v 2) (some (tVal (eOp2 neD (eOp2 idxD (eVar 2) (eC (.int 0))) (eVar 1)))) (eVar 2))))

def py_is_open : List D → M D := fn 2 4 <|
    (sRet (eAnd (eOp2 eqD (eCall (py_answer_at) [(eVar 0), (eVar 1)]) (eC (.int (-1)))) (eOp1 anyD (eComp [2, 3] (wSeq (eVar 0)) (.t (.cons (.v 2) (.cons (.v 3) .nil))) none (eCall (py_are_fitting) [(eVar 2), (eVar 1)])))))

def py_needed : List D → M D := fn 2 6 <|
    (sSeq (sIf (tNot (tVal (eCall (py_is_open) [(eVar 0), (eVar 1)])))
    (sRet (eTup []))
    sNop)
    (sSeq (sAsg (.v 2) (eComp [3, 4] (wSeq (eVar 0)) (.t (.cons (.v 3) (.cons (.v 4) .nil))) (some (tVal (eCall (py_are_fitting) [(eVar 3), (eVar 1)]))) (eVar 3)))
    (sRet (eOp1 tupleD (eComp [5] (wSeq (eCall (py_gaps) [(eVar 1)])) (.v 5) (some (tVal (eOp1 allD (eComp [3] (wSeq (eVar 2)) (.v 3) none (eOp2 neD (eOp2 idxD (eVar 3) (eVar 5)) (eC (.int (-1)))))))) (eVar 5))))))

def py_knot_at : List D → M D := fn 2 7 <|
    (sSeq (sAsg (.v 2) (eNewL []))
    (sSeq (sFor (.v 3) (wRange1 (eOp1 lenD (eVar 1)))
    (sSeq (sAsg (.v 4) (eComp [5, 6] (wSeq (eVar 0)) (.t (.cons (.v 5) (.cons (.v 6) .nil))) (some (tAnd (tVal (eCall (py_are_fitting) [(eVar 5), (eVar 1)])) (tVal (eOp2 eqD (eOp2 idxD (eVar 5) (eVar 3)) (eC (.int (-1))))))) (eCall (py_joined) [(eVar 5), (eVar 1)])))
    (sExpr (eAppend (eVar 2) (eIf (tVal (eOp2 eqD (eOp2 idxD (eVar 1) (eVar 3)) (eC (.int (-1))))) (eOp1 minTD (eVar 4)) (eC .non))))))
    (sRet (eTup [(eC (.str "knot")), (eVar 1), (eOp1 tupleD (eVar 2))]))))

def py_grown : Nat → List D → M D
  | 0 => fun _ => M.fail
  | n + 1 => fn 3 7 <|
    (sSeq (sIf (tNot (tVal (eCall (py_is_open) [(eVar 1), (eVar 2)])))
    (sRet (eTup [(eC (.str "tree")), (eCall (py_answer_at) [(eVar 1), (eVar 2)])]))
    sNop)
    (sSeq (sAsg (.v 3) (eCall (py_needed) [(eVar 1), (eVar 2)]))
    (sSeq (sIf (tVal (eOp2 eqD (eVar 3) (eTup [])))
    (sRet (eCall (py_knot_at) [(eVar 1), (eVar 2)]))
    sNop)
    (sSeq (sAsg (.v 4) (eNewL []))
    (sSeq (sFor (.v 5) (wRange1 (eOp2 idxD (eOp2 idxD (eVar 0) (eC (.int 0))) (eOp2 idxD (eVar 3) (eC (.int 0)))))
    (sSeq (sAsg (.v 6) (eCall (py_grown n) [(eVar 0), (eVar 1), (eCall (py_with_value) [(eVar 2), (eOp2 idxD (eVar 3) (eC (.int 0))), (eVar 5)])]))
    (sSeq (sIf (tVal (eOp2 eqD (eOp2 idxD (eVar 6) (eC (.int 0))) (eC (.str "knot"))))
    (sRet (eVar 6))
    sNop)
    (sExpr (eAppend (eVar 4) (eOp2 idxD (eVar 6) (eC (.int 1))))))))
    (sRet (eTup [(eC (.str "tree")), (eTup [(eOp2 idxD (eVar 3) (eC (.int 0))), (eOp1 tupleD (eVar 4))])])))))))

def py_turn_paper : List D → M D := fn 2 2 <|
    (sRet (eCall (py_grown 12) [(eVar 0), (eVar 1), (eCall (py_nothing_known) [(eOp2 idxD (eVar 0) (eC (.int 0)))])]))

def py_is_sequential : List D → M D := fn 2 2 <|
    (sRet (eOp2 eqD (eOp2 idxD (eCall (py_turn_paper) [(eVar 0), (eVar 1)]) (eC (.int 0))) (eC (.str "tree"))))

def py_joined_all : List D → M D := fn 1 3 <|
    (sRet (eCall (py_least_points) [(eComp2 [1, 2] [2] (wSeq (eVar 0)) (.v 1) (wSeq (eVar 1)) (.v 2) (eVar 2))]))

def py_are_parts : List D → M D := fn 3 4 <|
    (sSeq (sIf (tOr (tNot (tVal (eOp1 isTup (eVar 2)))) (tNot (tVal (eOp1 allD (eComp [3] (wSeq (eVar 2)) (.v 3) none (eCall (py_is_function) [(eVar 0), (eVar 3)]))))))
    (sRet (eC (.bl false)))
    sNop)
    (sSeq (sIf (tNot (tVal (eOp1 allD (eComp [3] (wSeq (eVar 2)) (.v 3) none (eAnd (eCall (py_is_sequential) [(eVar 0), (eVar 3)]) (eCall (py_is_less) [(eVar 3), (eVar 1)]))))))
    (sRet (eC (.bl false)))
    sNop)
    (sRet (eOp2 eqD (eCall (py_joined_all) [(eVar 2)]) (eVar 1)))))

def py_shared_out : Nat → List D → M D
  | 0 => fun _ => M.fail
  | n + 1 => fn 4 7 <|
    (sSeq (sIf (tVal (eOp2 eqD (eOp1 lenD (eVar 1)) (eC (.int 0))))
    (sRet (eOp1 tupleD (eVar 2)))
    sNop)
    (sSeq (sFor (.v 4) (wRange1 (eOp2 min2D (eOp2 addD (eOp1 lenD (eVar 2)) (eC (.int 1))) (eVar 3)))
    (sSeq (sAsg (.v 5) (eOp2 addD (eIf (tVal (eOp2 ltD (eVar 4) (eOp1 lenD (eVar 2)))) (eOp2 idxD (eVar 2) (eVar 4)) (eTup [])) (eSlice (eVar 1) none (some (eC (.int 1))))))
    (sIf (tVal (eCall (py_is_sequential) [(eVar 0), (eVar 5)]))
    (sSeq (sAsg (.v 6) (eCall (py_shared_out n) [(eVar 0), (eSlice (eVar 1) (some (eC (.int 1))) none), (eOp2 addD (eOp2 addD (eSlice (eVar 2) none (some (eVar 4))) (eLst [(eVar 5)])) (eSlice (eVar 2) (some (eOp2 addD (eVar 4) (eC (.int 1)))) none)), (eVar 3)]))
    (sIf (tVal (eOp1 (isN true) (eVar 6)))
    (sRet (eVar 6))
    sNop))
    sNop)))
    (sRet (eC .non))))

def py_least_parts : List D → M D := fn 2 4 <|
    (sSeq (sIf (tVal (eOp2 gtD (eOp1 lenD (eVar 1)) (eC (.int 7))))
    (fun _ => M.fail)
    sNop)
    (sSeq (sFor (.v 2) (wRange1 (eOp2 addD (eOp1 lenD (eVar 1)) (eC (.int 1))))
    (sSeq (sAsg (.v 3) (eCall (py_shared_out 12) [(eVar 0), (eVar 1), (eLst []), (eVar 2)]))
    (sIf (tVal (eOp1 (isN true) (eVar 3)))
    (sRet (eVar 3))
    sNop)))
    (sRet (eTup []))))

def py_degree : List D → M D := fn 2 2 <|
    (sRet (eOp1 lenD (eCall (py_least_parts) [(eVar 0), (eVar 1)])))

def py_unstable_pair : List D → M D := fn 1 5 <|
    (sSeq (sFor (.t (.cons (.v 1) (.cons (.t (.cons (.v 2) (.cons (.v 3) .nil))) .nil))) (wEnum (eVar 0))
    (sFor (.t (.cons (.v 4) (.cons (.v 3) .nil))) (wSeq (eSlice (eVar 0) (some (eOp2 addD (eVar 1) (eC (.int 1)))) none))
    (sIf (tVal (eCall (py_are_fitting) [(eVar 2), (eVar 4)]))
    (sRet (eTup [(eVar 2), (eVar 4)]))
    sNop)))
    (sRet (eC .non)))

def py_is_stable : List D → M D := fn 1 1 <|
    (sRet (eOp1 (isN false) (eCall (py_unstable_pair) [(eVar 0)])))

def py__law_same : Nat → List D → M D
  | 0 => fun _ => M.fail
  | n + 1 => fn 2 3 <|
    (sSeq (sIf (tOr (tVal (eOp1 isTup (eVar 1))) (tVal (eOp1 isLst (eVar 1))))
    (sSeq (sIf (tOr (tVal (eOp2 neD (eOp1 isTup (eVar 1)) (eOp1 isTup (eVar 0)))) (tOr (tVal (eOp2 neD (eOp1 isLst (eVar 1)) (eOp1 isLst (eVar 0)))) (tVal (eOp2 neD (eOp1 lenD (eVar 0)) (eOp1 lenD (eVar 1))))))
    (sRet (eC (.bl false)))
    sNop)
    (sRet (eOp2 eqD (eOp1 lenD (eComp [2] (wRange1 (eOp1 lenD (eVar 1))) (.v 2) (some (tNot (tVal (eCall (py__law_same n) [(eOp2 idxD (eVar 0) (eVar 2)), (eOp2 idxD (eVar 1) (eVar 2))])))) (eVar 2))) (eC (.int 0)))))
    sNop)
    (sSeq (sIf (tVal (eOp1 (isN false) (eVar 1)))
    (sRet (eOp1 (isN false) (eVar 0)))
    sNop)
    (sSeq (sIf (tOr (tVal (eOp1 isBl (eVar 1))) (tVal (eOp1 isBl (eVar 0))))
    (sRet (eAnd (eOp1 isBl (eVar 1)) (eAnd (eOp1 isBl (eVar 0)) (eOp2 eqD (eVar 0) (eVar 1)))))
    sNop)
    (sSeq (sIf (tVal (eOp1 isInt (eVar 1)))
    (sRet (eAnd (eOp1 isInt (eVar 0)) (eOp2 eqD (eVar 0) (eVar 1))))
    sNop)
    (sRet (eAnd (eOp1 isStr (eVar 0)) (eOp2 eqD (eVar 0) (eVar 1))))))))

def py__law_pool : List D → M D := fn 1 3 <|
    (sSeq (sAsg (.v 1) (eC (.int 7)))
    (sSeq (sFor (.v 2) (wSeq (eSlice (eVar 0) none (some (eC (.int 63)))))
    (sAsg (.v 1) (eOp2 modD (eOp1 intD (eOp2 addD (eOp2 mulD (eVar 1) (eC (.int 31))) (eVar 2))) (eC (.int 1000003)))))
    (sRet (eNewL [(eOp1 listD (eVar 0)), (eC (.int 0)), (eC (.int 0)), (eC (.int 0)), (eVar 1)]))))

def py__law_spread : List D → M D := fn 1 4 <|
    (sSeq (sAsg (.v 1) (eOp2 modD (eOp1 intD (eVar 0)) (eC (.int 2147483647))))
    (sSeq (sAsg (.v 2) (eC (.int 1)))
    (sSeq (sFor (.v 3) (wRange1 (eC (.int 4)))
    (sSeq (sAsg (.v 1) (eOp2 modD (eOp1 intD (eOp2 addD (eOp2 addD (eOp2 mulD (eVar 1) (eC (.int 48271))) (eC (.int 12345))) (eVar 3))) (eC (.int 2147483647))))
    (sAsg (.v 2) (eOp2 addD (eOp2 mulD (eVar 2) (eC (.int 2147483647))) (eVar 1)))))
    (sRet (eVar 2)))))

def py__law_draw : List D → M D := fn 2 5 <|
    (sSeq (sIf (tAnd (tVal (eOp2 leD (eOp2 idxD (eVar 0) (eC (.int 2))) (eC (.int 0)))) (tVal (eOp2 ltD (eOp2 idxD (eVar 0) (eC (.int 1))) (eOp1 lenD (eOp2 idxD (eVar 0) (eC (.int 0)))))))
    (sSeq (sAsg (.v 2) (eOp2 idxD (eOp2 idxD (eVar 0) (eC (.int 0))) (eOp2 idxD (eVar 0) (eC (.int 1)))))
    (sSeq (sSet (eVar 0) (eC (.int 1)) (eOp2 addD (eOp2 idxD (eVar 0) (eC (.int 1))) (eC (.int 1))))
    (sSeq (sSet (eVar 0) (eC (.int 2)) (eVar 2))
    (sIf (tVal (eOp2 ltD (eVar 2) (eC (.int 1000000000000000000))))
    (sSet (eVar 0) (eC (.int 2)) (eCall (py__law_spread) [(eVar 2)]))
    sNop))))
    sNop)
    (sSeq (sSet (eVar 0) (eC (.int 3)) (eOp2 addD (eOp2 idxD (eVar 0) (eC (.int 3))) (eC (.int 1))))
    (sSeq (sIf (tVal (eOp2 leD (eOp2 idxD (eVar 0) (eC (.int 2))) (eC (.int 0))))
    (sSeq (sAsg (.v 3) (eOp2 modD (eOp1 intD (eOp2 addD (eOp2 addD (eOp2 mulD (eOp2 idxD (eVar 0) (eC (.int 4))) (eC (.int 48271))) (eOp2 mulD (eOp2 idxD (eVar 0) (eC (.int 3))) (eC (.int 69621)))) (eC (.int 1)))) (eC (.int 2147483647))))
    (sSeq (sAsg (.v 3) (eOp2 modD (eOp1 intD (eOp2 addD (eOp2 mulD (eVar 3) (eC (.int 16807))) (eOp2 idxD (eVar 0) (eC (.int 3))))) (eC (.int 2147483629))))
    (sRet (eOp2 modD (eOp2 divD (eVar 3) (eC (.int 5))) (eVar 1)))))
    sNop)
    (sSeq (sAsg (.v 4) (eOp2 modD (eOp1 intD (eOp2 idxD (eVar 0) (eC (.int 2)))) (eVar 1)))
    (sSeq (sSet (eVar 0) (eC (.int 2)) (eOp2 divD (eOp2 idxD (eVar 0) (eC (.int 2))) (eVar 1)))
    (sRet (eVar 4)))))))

def py__law_pick : List D → M D := fn 2 2 <|
    (sRet (eOp2 idxD (eVar 1) (eCall (py__law_draw) [(eVar 0), (eOp1 lenD (eVar 1))])))

def py__law_kind : List D → M D := fn 2 6 <|
    (sSeq (sAsg (.v 2) (eNewL []))
    (sSeq (sAsg (.v 3) (eC (.int 1)))
    (sSeq (sFor (.v 4) (wRange1 (eCall (py__law_draw) [(eVar 0), (eC (.int 5))]))
    (sSeq (sAsg (.v 5) (eOp2 addD (eC (.int 1)) (eCall (py__law_draw) [(eVar 0), (eC (.int 3))])))
    (sIf (tVal (eOp2 leD (eOp2 mulD (eVar 3) (eOp2 addD (eVar 5) (eC (.int 1)))) (eVar 1)))
    (sSeq (sExpr (eAppend (eVar 2) (eVar 5)))
    (sAsg (.v 3) (eOp2 mulD (eVar 3) (eOp2 addD (eVar 5) (eC (.int 1))))))
    sNop)))
    (sRet (eTup [(eOp1 tupleD (eVar 2)), (eOp2 addD (eC (.int 1)) (eCall (py__law_draw) [(eVar 0), (eC (.int 3))]))])))))

def py__law_under : List D → M D := fn 2 4 <|
    (sRet (eOp2 eqD (eOp1 lenD (eComp [2, 3] (wZip (eVar 0) (eVar 1)) (.t (.cons (.v 2) (.cons (.v 3) .nil))) (some (tAnd (tVal (eOp2 neD (eVar 2) (eC (.int (-1))))) (tVal (eOp2 neD (eVar 2) (eVar 3))))) (eC (.int 1)))) (eC (.int 0))))

def py__law_fit : List D → M D := fn 2 4 <|
    (sRet (eOp2 eqD (eOp1 lenD (eComp [2, 3] (wZip (eVar 0) (eVar 1)) (.t (.cons (.v 2) (.cons (.v 3) .nil))) (some (tAnd (tVal (eOp2 neD (eVar 2) (eC (.int (-1))))) (tAnd (tVal (eOp2 neD (eVar 3) (eC (.int (-1))))) (tVal (eOp2 neD (eVar 2) (eVar 3)))))) (eC (.int 1)))) (eC (.int 0))))

def py__law_with : List D → M D := fn 3 3 <|
    (sRet (eOp2 addD (eOp2 addD (eSlice (eVar 0) none (some (eVar 1))) (eTup [(eVar 2)])) (eSlice (eVar 0) (some (eOp2 addD (eVar 1) (eC (.int 1)))) none)))

def py__law_least : List D → M D := fn 1 6 <|
    (sSeq (sAsg (.v 1) (eNewL []))
    (sSeq (sFor (.t (.cons (.v 2) (.cons (.v 3) .nil))) (wSeq (eOp1 setSortD (eVar 0)))
    (sIf (tVal (eOp2 eqD (eOp1 lenD (eComp [4, 5] (wSeq (eVar 0)) (.t (.cons (.v 4) (.cons (.v 5) .nil))) (some (tAnd (tVal (eOp2 neD (eVar 4) (eVar 2))) (tVal (eCall (py__law_under) [(eVar 4), (eVar 2)])))) (eC (.int 1)))) (eC (.int 0))))
    (sExpr (eAppend (eVar 1) (eTup [(eVar 2), (eVar 3)])))
    sNop))
    (sRet (eOp1 tupleD (eVar 1)))))

def py__law_state : List D → M D := fn 2 3 <|
    (sRet (eOp1 tupleD (eComp [2] (wSeq (eVar 1)) (.v 2) none (eIf (tVal (eOp2 eqD (eCall (py__law_draw) [(eVar 0), (eC (.int 2))]) (eC (.int 0)))) (eCall (py__law_draw) [(eVar 0), (eVar 2)]) (eC (.int (-1)))))))

def py__law_loose : List D → M D := fn 3 9 <|
    (sSeq (sAsg (.v 3) (eNewL []))
    (sSeq (sFor (.v 4) (wRange1 (eCall (py__law_draw) [(eVar 0), (eOp2 addD (eVar 2) (eC (.int 1)))]))
    (sSeq (sAsg (.v 5) (eCall (py__law_state) [(eVar 0), (eOp2 idxD (eVar 1) (eC (.int 0)))]))
    (sSeq (sAsg (.v 6) (eCall (py__law_draw) [(eVar 0), (eOp2 idxD (eVar 1) (eC (.int 1)))]))
    (sIf (tVal (eOp2 eqD (eOp1 lenD (eComp [7, 8] (wSeq (eVar 3)) (.t (.cons (.v 7) (.cons (.v 8) .nil))) (some (tAnd (tVal (eOp2 neD (eVar 8) (eVar 6))) (tVal (eCall (py__law_fit) [(eVar 5), (eVar 7)])))) (eC (.int 1)))) (eC (.int 0))))
    (sExpr (eAppend (eVar 3) (eTup [(eVar 5), (eVar 6)])))
    sNop))))
    (sSeq (sFrz 3) (sRet (eCall (py__law_least) [(eVar 3)])))))

def py__law_tree : Nat → List D → M D
  | 0 => fun _ => M.fail
  | n + 1 => fn 3 7 <|
    (sSeq (sIf (tOr (tVal (eOp2 eqD (eOp1 lenD (eVar 2)) (eC (.int 0)))) (tVal (eOp2 eqD (eCall (py__law_draw) [(eVar 0), (eC (.int 4))]) (eC (.int 0)))))
    (sRet (eOp2 subD (eCall (py__law_draw) [(eVar 0), (eOp2 addD (eOp2 idxD (eVar 1) (eC (.int 1))) (eC (.int 1)))]) (eC (.int 1))))
    sNop)
    (sSeq (sAsg (.v 3) (eCall (py__law_pick) [(eVar 0), (eVar 2)]))
    (sSeq (sAsg (.v 4) (eComp [5] (wSeq (eVar 2)) (.v 5) (some (tVal (eOp2 neD (eVar 5) (eVar 3)))) (eVar 5)))
    (sRet (eTup [(eVar 3), (eOp1 tupleD (eComp [6] (wRange1 (eOp2 idxD (eOp2 idxD (eVar 1) (eC (.int 0))) (eVar 3))) (.v 6) none (eCall (py__law_tree n) [(eVar 0), (eVar 1), (eVar 4)])))])))))

def py__law_leaves : Nat → List D → M D
  | 0 => fun _ => M.fail
  | n + 1 => fn 2 5 <|
    (sSeq (sIf (tNot (tVal (eOp1 isTup (eVar 0))))
    (sRet (eLst [(eTup [(eVar 1), (eVar 0)])]))
    sNop)
    (sSeq (sAsg (.v 2) (eLst []))
    (sSeq (sFor (.t (.cons (.v 3) (.cons (.v 4) .nil))) (wEnum (eOp2 idxD (eVar 0) (eC (.int 1))))
    (sAsg (.v 2) (eOp2 addD (eVar 2) (eCall (py__law_leaves n) [(eVar 4), (eCall (py__law_with) [(eVar 1), (eOp2 idxD (eVar 0) (eC (.int 0))), (eVar 3)])]))))
    (sRet (eVar 2)))))

def py__law_told : List D → M D := fn 2 3 <|
    (sRet (eOp1 tupleD (eOp1 sortedD (eComp [2] (wSeq (eCall (py__law_leaves 12) [(eVar 1), (eOp2 mulD (eTup [(eC (.int (-1)))]) (eOp1 lenD (eOp2 idxD (eVar 0) (eC (.int 0)))))])) (.v 2) (some (tVal (eOp2 neD (eOp2 idxD (eVar 2) (eC (.int 1))) (eC (.int (-1)))))) (eVar 2)))))

def py__law_knotted : List D → M D := fn 2 13 <|
    (sSeq (sAsg (.v 2) (eOp2 idxD (eVar 1) (eC (.int 0))))
    (sSeq (sAsg (.v 3) (eCall (py__law_state) [(eVar 0), (eVar 2)]))
    (sSeq (sAsg (.v 4) (eComp [5] (wRange1 (eOp1 lenD (eVar 2))) (.v 5) (some (tVal (eOp2 eqD (eOp2 idxD (eVar 3) (eVar 5)) (eC (.int (-1)))))) (eVar 5)))
    (sSeq (sIf (tVal (eOp2 ltD (eOp1 lenD (eVar 4)) (eC (.int 2))))
    (sSeq (sAsg (.v 3) (eOp2 mulD (eTup [(eC (.int (-1)))]) (eOp1 lenD (eVar 2))))
    (sAsg (.v 4) (eOp1 rangeD (eOp1 lenD (eVar 2)))))
    sNop)
    (sSeq (sIf (tVal (eOp2 ltD (eOp1 lenD (eVar 4)) (eC (.int 2))))
    (sRet (eCall (py__law_loose) [(eVar 0), (eVar 1), (eC (.int 4))]))
    sNop)
    (sSeq (sAsg (.v 6) (eCall (py__law_draw) [(eVar 0), (eOp2 idxD (eVar 1) (eC (.int 1)))]))
    (sSeq (sAsg (.v 7) (eOp2 eqD (eCall (py__law_draw) [(eVar 0), (eC (.int 2))]) (eC (.int 0))))
    (sSeq (sAsg (.v 8) (eNewL []))
    (sSeq (sFor (.t (.cons (.v 9) (.cons (.v 5) .nil))) (wEnum (eVar 4))
    (sSeq (sAsg (.v 10) (eOp2 idxD (eVar 4) (eOp2 modD (eOp1 intD (eOp2 addD (eVar 9) (eC (.int 1)))) (eOp1 lenD (eVar 4)))))
    (sSeq (sAsg (.v 11) (eCall (py__law_with) [(eVar 3), (eVar 10), (eCall (py__law_draw) [(eVar 0), (eOp2 idxD (eVar 2) (eVar 10))])]))
    (sSeq (sFor (.v 12) (wSeq (eVar 4))
    (sIf (tAnd (tVal (eOp2 neD (eVar 12) (eVar 5))) (tAnd (tVal (eOp2 neD (eVar 12) (eVar 10))) (tOr (tVal (eVar 7)) (tVal (eOp2 eqD (eCall (py__law_draw) [(eVar 0), (eC (.int 3))]) (eC (.int 0)))))))
    (sAsg (.v 11) (eCall (py__law_with) [(eVar 11), (eVar 12), (eCall (py__law_draw) [(eVar 0), (eOp2 idxD (eVar 2) (eVar 12))])]))
    sNop))
    (sExpr (eAppend (eVar 8) (eTup [(eVar 11), (eVar 6)])))))))
    (sSeq (sFrz 8) (sRet (eCall (py__law_least) [(eVar 8)]))))))))))))

def py__law_function : List D → M D := fn 2 3 <|
    (sSeq (sAsg (.v 2) (eCall (py__law_draw) [(eVar 0), (eC (.int 4))]))
    (sSeq (sIf (tVal (eOp2 eqD (eVar 2) (eC (.int 0))))
    (sRet (eCall (py__law_told) [(eVar 1), (eCall (py__law_tree 12) [(eVar 0), (eVar 1), (eOp1 rangeD (eOp1 lenD (eOp2 idxD (eVar 1) (eC (.int 0)))))])]))
    sNop)
    (sSeq (sIf (tVal (eOp2 eqD (eVar 2) (eC (.int 1))))
    (sRet (eCall (py__law_knotted) [(eVar 0), (eVar 1)]))
    sNop)
    (sRet (eCall (py__law_loose) [(eVar 0), (eVar 1), (eOp2 idxD (eTup [(eC (.int 3)), (eC (.int 9))]) (eOp2 subD (eVar 2) (eC (.int 2))))])))))

def py_law : List D → M D := fn 1 19 <|
    (sSeq (sAsg (.v 1) (eCall (py__law_pool) [(eVar 0)]))
    (sSeq (sAsg (.v 2) (eCall (py__law_kind) [(eVar 1), (eC (.int 100))]))
    (sSeq (sAsg (.v 3) (eOp2 idxD (eVar 2) (eC (.int 0))))
    (sSeq (sAsg (.v 4) (eOp1 tupleD (eComp [5] (wSeq (eVar 3)) (.v 5) none (eCall (py__law_draw) [(eVar 1), (eVar 5)]))))
    (sSeq (sAsg (.v 6) (eCall (py__law_draw) [(eVar 1), (eOp2 idxD (eVar 2) (eC (.int 1)))]))
    (sSeq (sAsg (.v 7) (eNewL []))
    (sSeq (sFor (.v 8) (wRange1 (eCall (py__law_draw) [(eVar 1), (eC (.int 6))]))
    (sExpr (eAppend (eVar 7) (eTup [(eOp1 tupleD (eComp [9] (wSeq (eVar 4)) (.v 9) none (eIf (tVal (eOp2 eqD (eCall (py__law_draw) [(eVar 1), (eC (.int 2))]) (eC (.int 0)))) (eVar 9) (eC (.int (-1)))))), (eVar 6)]))))
    (sSeq (sSeq (sFrz 7) (sAsg (.v 10) (eCall (py__law_least) [(eVar 7)])))
    (sSeq (sIf (tOr (tNot (tVal (eCall (py_is_function) [(eVar 2), (eVar 10)]))) (tNot (tVal (eCall (py__law_same 8) [(eCall (py_degree) [(eVar 2), (eVar 10)]), (eOp1 lenD (eVar 10))]))))
    (sRet (eC (.bl false)))
    sNop)
    (sSeq (sFor (.v 8) (wRange1 (eOp1 lenD (eVar 10)))
    (sFor (.v 11) (wRange1 (eVar 8))
    (sIf (tOr (tNot (tVal (eCall (py_are_fitting) [(eOp2 idxD (eOp2 idxD (eVar 10) (eVar 11)) (eC (.int 0))), (eOp2 idxD (eOp2 idxD (eVar 10) (eVar 8)) (eC (.int 0)))]))) (tVal (eCall (py_is_sequential) [(eVar 2), (eTup [(eOp2 idxD (eVar 10) (eVar 11)), (eOp2 idxD (eVar 10) (eVar 8))])])))
    (sRet (eC (.bl false)))
    sNop)))
    (sSeq (sIf (tOr (tVal (eOp2 neD (eCall (py_is_stable) [(eVar 10)]) (eOp2 leD (eOp1 lenD (eVar 10)) (eC (.int 1))))) (tNot (tVal (eCall (py_are_parts) [(eVar 2), (eVar 10), (eOp1 tupleD (eComp [12] (wSeq (eVar 10)) (.v 12) none (eTup [(eVar 12)])))]))))
    (sRet (eC (.bl false)))
    sNop)
    (sSeq (sAsg (.v 13) (eSlice (eCall (py__law_function) [(eVar 1), (eVar 2)]) none (some (eC (.int 6)))))
    (sSeq (sAsg (.v 14) (eCall (py_degree) [(eVar 2), (eVar 13)]))
    (sSeq (sFor (.v 12) (wSeq (eSlice (eVar 13) none (some (eC (.int 3)))))
    (sSeq (sAsg (.v 15) (eComp [16, 17] (wSeq (eVar 13)) (.t (.cons (.v 16) (.cons (.v 17) .nil))) (some (tVal (eCall (py_are_fitting) [(eVar 16), (eOp2 idxD (eVar 12) (eC (.int 0)))]))) (eVar 16)))
    (sSeq (sFor (.v 16) (wSeq (eVar 15))
    (sIf (tOr (tAnd (tVal (eOp2 eqD (eOp1 lenD (eComp [9] (wSeq (eVar 15)) (.v 9) (some (tVal (eCall (py_are_fitting) [(eVar 9), (eVar 16)]))) (eVar 9))) (eOp1 lenD (eVar 15)))) (tVal (eOp2 ltD (eVar 14) (eC (.int 1))))) (tAnd (tVal (eOp2 neD (eVar 16) (eOp2 idxD (eVar 12) (eC (.int 0))))) (tVal (eOp2 ltD (eVar 14) (eC (.int 2))))))
    (sRet (eC (.bl false)))
    sNop))
    (sSeq (sAsg (.v 18) (eCall (py_without_point) [(eVar 13), (eOp2 idxD (eVar 12) (eC (.int 0)))]))
    (sIf (tVal (eOp2 (inD true) (eCall (py_degree) [(eVar 2), (eVar 18)]) (eTup [(eVar 14), (eOp2 subD (eVar 14) (eC (.int 1)))])))
    (sRet (eC (.bl false)))
    sNop)))))
    (sRet (eOr (eOp2 eqD (eOp1 lenD (eVar 13)) (eC (.int 0))) (eOp2 leD (eVar 14) (eOp1 lenD (eVar 13)))))))))))))))))))
end K40
namespace K40
open PySem DL
def below (a b : List Int) : Bool := (a.zip b).all fun p => -1 == p.1 || p.2 == p.1
def fits (a b : List Int) : Bool := (a.zip b).all fun p => p.1 == -1 || (-1 == p.2 || p.1 == p.2)
theorem ev_below (a b : List Int) : py_is_below [dS a, dS b] = pure (.bl (below a b)) := by
  simp only [py_is_below, dS]
  simp
  rw [zip_dS, compL_map (h := fun p => D.bl (-1 == p.1 || p.2 == p.1))]
  · simp [allD, toBls_map, below]
  · intro p hp
    simp [oneC]
theorem ev_fits (a b : List Int) : py_are_fitting [dS a, dS b] = pure (.bl (fits a b)) := by
  simp only [py_are_fitting, dS]
  simp
  rw [zip_dS, compL_map (h := fun p => D.bl (p.1 == -1 || (-1 == p.2 || p.1 == p.2)))]
  · simp [allD, toBls_map, fits]
  · intro p hp
    by_cases h : p.1 = -1
    · simp [oneC, h]
    · have h' : (p.1 == -1) = false := by simpa using h
      simp [oneC, h, h']
def under (a b : List Int) : Bool := (a.zip b).all fun p => !(p.1 != -1 && p.1 != p.2)
def gaps (s : List Int) : List Nat := (s.zipIdx.filter fun p => p.1 == -1).map (·.2)
theorem ev_gaps (s : List Int) : py_gaps [dS s] = pure (.tup ((gaps s).map fun (k : Nat) => D.int (k : Int))) := by
  simp only [py_gaps, dS]
  simp
  rw [enum_dS, compL_filt (p := fun p => p.1 == -1) (h := fun p => D.int (p.2 : Nat))]
  · simp only [pure_bind, r_itl, gaps, List.map_map]
    rfl
  · intro p hp
    by_cases h : p.1 = -1
    · simp [oneC, h]
    · simp [oneC, h]
def withv (s : List Int) (k : Nat) (v : Int) : List Int := s.take k ++ [v] ++ s.drop (k + 1)
theorem ev_withv (s : List Int) (k : Nat) (v : Int) (hl : s.length ≤ 1000) : py_with_value [dS s, .int k, .int v] = pure (dS (withv s k v)) := by
  simp only [py_with_value, dS]
  simp [eSlice, eBound, sliceD]
  rw [cut_to, cut_from1]
  simp
  rw [if_pos (le_lim (by omega)), pure_bind, r_cat, if_pos (le_lim (by simp; omega))]
  simp [withv]
/-! ### the states -/
/-! ### functions, clauses -/
abbrev Pts := List (List Int × Int)
def dP (q : List Int × Int) : D := .tup [dS q.1, .int q.2]
def dF (f : Pts) : D := .tup (f.map dP)
def ansAt (f : Pts) (s : List Int) : Int := (f.findSome? fun q => if below q.1 s then some q.2 else none).getD (-1)
theorem ans_map (s : List Int) : ∀ f : Pts, (f.findSome? fun q => if below q.1 s = true then some (D.int q.2) else none) = (f.findSome? fun q => if below q.1 s = true then some q.2 else none).map D.int
  | [] => rfl
  | q :: f => by
    rw [List.findSome?_cons, List.findSome?_cons]
    by_cases h : below q.1 s = true
    · simp [h]
    · simp only [h]
      exact ans_map s f
theorem ev_answer (f : Pts) (s : List Int) : py_answer_at [dF f, dS s] = pure (.int (ansAt f s)) := by
  obtain ⟨Γ', _, e1⟩ := forL_find (α := List Int × Int) (its := f.map dP) (enc := dP) (tg := .t (.cons (.v 2) (.cons (.v 3) .nil))) (body := sIf (tVal (eCall (py_is_below) [(eVar 2), (eVar 1)])) (sRet (eVar 3)) sNop)
    (fun Γ => ∃ o2 o3, Γ = [some (dF f), some (dS s), o2, o3]) (fun q => if below q.1 s then some (.int q.2) else none) f [some (dF f), some (dS s), none, none] (by
      rintro q hq Γ ⟨o2, o3, rfl⟩
      refine ⟨_, [some (dF f), some (dS s), some (dS q.1), some (.int q.2)], rfl, ⟨_, _, rfl⟩, ?_⟩
      simp
      rw [ev_below, pure_bind, r_toBl, pure_bind]
      cases below q.1 s <;> simp) ⟨none, none, rfl⟩
  simp only [py_answer_at]
  simp [dF] at e1 ⊢
  rw [e1, pure_bind]
  have e := ans_map s f
  rw [e]
  unfold ansAt
  cases (f.findSome? fun q => if below q.1 s = true then some q.2 else none) with
  | none => simp
  | some x => simp
theorem ev_less (one two : Pts) : py_is_less [dF one, dF two] = pure (.bl (one.all fun q => ansAt two q.1 == q.2)) := by
  simp only [py_is_less, dF]
  simp
  rw [compL_map (h := fun q => D.bl (ansAt two q.1 == q.2))]
  · simp [allD, toBls_map]
  · intro q hq
    have := ev_answer two q.1
    simp [oneC, dP]
    unfold dF at this
    rw [this]
    simp
def clAt : Pts → List Int → Option Nat
  | [], _ => none
  | c :: cs, s => if below c.1 s then some 0 else if fits c.1 s then none else (clAt cs s).map (· + 1)
def dO : Option Nat → D
  | none => .non
  | some k => .int k
def clP (s : List Int) (q : (List Int × Int) × Nat) : Option D := if below q.1.1 s then some (.int q.2) else if fits q.1.1 s then some .non else none
theorem clP_at (s : List Int) : ∀ (cl : Pts) (n : Nat), ((cl.zipIdx n).findSome? (clP s)).getD .non = (match clAt cl s with | some k => D.int ((k + n : Nat) : Int) | none => .non)
  | [], n => rfl
  | c :: cs, n => by
    rw [List.zipIdx_cons, List.findSome?_cons]
    unfold clP clAt
    dsimp only
    by_cases h1 : below c.1 s = true
    · rw [if_pos h1, if_pos h1]; simp
    · rw [if_neg h1, if_neg h1]
      by_cases h2 : fits c.1 s = true
      · rw [if_pos h2, if_pos h2]; rfl
      · rw [if_neg h2, if_neg h2]
        have := clP_at s cs (n + 1)
        dsimp only
        unfold clP at this
        rw [this]
        cases clAt cs s with
        | none => rfl
        | some k => simp; omega
/-! ### points of a table -/
theorem withv_set {s : List Int} {k : Nat} {v : Int} (h : k < s.length) : withv s k v = s.set k v := by
  unfold withv
  rw [List.set_eq_take_append_cons_drop, if_pos h]
  simp
theorem withv_mem {sizes s : List Int} {k : Nat} {v : Int} (hs : s ∈ rows (-1) sizes) (hk : k < s.length) (hv : -1 ≤ v ∧ ∀ n, sizes[k]? = some n → v < n) : withv s k v ∈ rows (-1) sizes := by
  rw [withv_set hk]
  obtain ⟨h1, h2⟩ := (mem_rows sizes s).mp hs
  refine (mem_rows sizes _).mpr ⟨by rw [List.length_set]; exact h1, fun i n x e1 e2 => ?_⟩
  by_cases hi : k = i
  · subst hi
    rw [List.getElem?_set_self hk] at e2
    cases e2
    exact ⟨hv.1, hv.2 n e1⟩
  · rw [List.getElem?_set_ne hi] at e2
    exact h2 i n x e1 e2
theorem mem_gaps {s : List Int} {k : Nat} : k ∈ gaps s ↔ s[k]? = some (-1) := by
  unfold gaps
  rw [List.mem_map]
  constructor
  · rintro ⟨⟨x, i⟩, h, rfl⟩
    rw [List.mem_filter] at h
    have h1 := List.mem_zipIdx_iff_getElem?.mp h.1
    have h2 : x = -1 := by simpa using h.2
    rw [← h2]
    exact h1
  · intro h
    exact ⟨(-1, k), List.mem_filter.mpr ⟨List.mem_zipIdx_iff_getElem?.mpr h, by simp⟩, rfl⟩
def dKd (sizes : List Int) (m : Int) : D := .tup [dS sizes, .int m]
def dTb (sizes : List Int) (t : List Int → Int) : D := .tup ((rows (-1) sizes).map fun s => D.int (t s))
def Mono (sizes : List Int) (t : List Int → Int) : Prop := ∀ s ∈ rows (-1) sizes, ∀ k ∈ gaps s, ∀ n v, sizes[k]? = some n → v ∈ rg 0 n → t s ≠ -1 → t (withv s k v) = t s
def low (t : List Int → Int) (s : List Int) : Bool := ((List.range s.length).filter fun k => s[k]? != some (-1)).all fun k => t (withv s k (-1)) == -1
def minP (t : List Int → Int) (s : List Int) : Bool := t s != -1 && low t s
def pts (sizes : List Int) (t : List Int → Int) : Pts := ((rows (-1) sizes).filter (minP t)).map fun s => (s, t s)
theorem tup_map_nat (l : List Nat) : itemsD (.tup (l.map fun (k : Nat) => D.int (k : Int))) = pure (l.map fun (k : Nat) => D.int (k : Int)) := rfl
theorem rangeN (n : Nat) : rangeL 0 (n : Int) = (List.range n).map fun (k : Nat) => D.int (k : Int) := by
  unfold rangeL
  simp
/-! ### orders of states -/
theorem mem_zip_iff {a b : List Int} {x y : Int} : (x, y) ∈ a.zip b ↔ ∃ i : Nat, a[i]? = some x ∧ b[i]? = some y := by
  rw [List.mem_iff_getElem?]
  constructor
  · rintro ⟨i, h⟩
    exact ⟨i, List.getElem?_zip_eq_some.mp h⟩
  · rintro ⟨i, h⟩
    exact ⟨i, List.getElem?_zip_eq_some.mpr h⟩
theorem below_iff {a b : List Int} : below a b = true ↔ ∀ (i : Nat) (x y : Int), a[i]? = some x → b[i]? = some y → x = -1 ∨ y = x := by
  unfold below
  rw [List.all_eq_true]
  constructor
  · intro h i x y e1 e2
    have := h (x, y) (mem_zip_iff.mpr ⟨i, e1, e2⟩)
    simp at this
    rcases this with h | h
    · exact .inl h.symm
    · exact .inr h
  · rintro h ⟨x, y⟩ hm
    obtain ⟨i, e1, e2⟩ := mem_zip_iff.mp hm
    have := h i x y e1 e2
    simp
    rcases this with h | h
    · exact .inl h.symm
    · exact .inr h
theorem fits_iff {a b : List Int} : fits a b = true ↔ ∀ (i : Nat) (x y : Int), a[i]? = some x → b[i]? = some y → x = -1 ∨ y = -1 ∨ x = y := by
  unfold fits
  rw [List.all_eq_true]
  constructor
  · intro h i x y e1 e2
    have := h (x, y) (mem_zip_iff.mpr ⟨i, e1, e2⟩)
    simp at this
    rcases this with h | h | h
    · exact .inl h
    · exact .inr (.inl h.symm)
    · exact .inr (.inr h)
  · rintro h ⟨x, y⟩ hm
    obtain ⟨i, e1, e2⟩ := mem_zip_iff.mp hm
    have := h i x y e1 e2
    simp
    rcases this with h | h | h
    · exact .inl h
    · exact .inr (.inl h.symm)
    · exact .inr (.inr h)
theorem under_eq (a b : List Int) : under a b = below a b := by
  rw [Bool.eq_iff_iff, below_iff]
  unfold under
  rw [List.all_eq_true]
  constructor
  · intro h i x y e1 e2
    have := h (x, y) (mem_zip_iff.mpr ⟨i, e1, e2⟩)
    simp at this
    by_cases hx : x = -1
    · exact .inl hx
    · rcases this with h | h
      · exact absurd h hx
      · exact .inr h.symm
  · rintro h ⟨x, y⟩ hm
    obtain ⟨i, e1, e2⟩ := mem_zip_iff.mp hm
    rcases h i x y e1 e2 with h | h
    · simp [h]
    · simp [h]
theorem getE {s : List Int} {n i : Nat} {x : Int} {b : List Int} (h : s.length = b.length) (e : s[i]? = some x) : ∃ y, b[i]? = some y := by
  have := (List.getElem?_eq_some_iff.mp e).1
  exact ⟨b[i]'(by omega), List.getElem?_eq_getElem _⟩
theorem below_refl (a : List Int) : below a a = true := below_iff.mpr fun i x y e1 e2 => .inr (by rw [e1] at e2; exact (Option.some.inj e2).symm)
theorem below_trans {a b c : List Int} (hl : a.length = b.length) (h1 : below a b = true) (h2 : below b c = true) : below a c = true := by
  rw [below_iff] at h1 h2 ⊢
  intro i x z e1 e3
  obtain ⟨y, e2⟩ := getE (n := 0) hl e1
  rcases h1 i x y e1 e2 with h | h
  · exact .inl h
  · rcases h2 i y z e2 e3 with h' | h'
    · exact .inl (by omega)
    · exact .inr (by omega)
theorem fits_down {c s s' : List Int} (hl : s.length = s'.length) (h1 : below s s' = true) (h2 : fits c s' = true) : fits c s = true := by
  rw [below_iff] at h1
  rw [fits_iff] at h2 ⊢
  intro i x y e1 e2
  obtain ⟨z, e3⟩ := getE (n := 0) hl e2
  rcases h1 i y z e2 e3 with h | h
  · exact .inr (.inl h)
  · rcases h2 i x z e1 e3 with h' | h' | h'
    · exact .inl h'
    · exact .inr (.inl (by omega))
    · exact .inr (.inr (by omega))
theorem below_fits {c s : List Int} (h : below c s = true) : fits c s = true := by
  rw [below_iff] at h
  rw [fits_iff]
  intro i x y e1 e2
  rcases h i x y e1 e2 with h | h
  · exact .inl h
  · exact .inr (.inr h.symm)
theorem clAt_up {cl : Pts} {s s' : List Int} (hc : ∀ c ∈ cl, c.1.length = s.length) (hl : s.length = s'.length) (hb : below s s' = true) : ∀ {k : Nat}, clAt cl s = some k → clAt cl s' = some k := by
  induction cl with
  | nil => intro k h; cases h
  | cons c cl ih =>
    intro k h
    unfold clAt at h ⊢
    by_cases h1 : below c.1 s = true
    · rw [if_pos h1] at h
      cases h
      rw [if_pos (below_trans (hc c List.mem_cons_self) h1 hb)]
    · rw [if_neg h1] at h
      by_cases h2 : fits c.1 s = true
      · rw [if_pos h2] at h; cases h
      · rw [if_neg h2] at h
        have h3 : ¬ fits c.1 s' = true := fun z => h2 (fits_down hl hb z)
        rw [if_neg (fun z => h3 (below_fits z)), if_neg h3]
        cases hk : clAt cl s with
        | none => rw [hk] at h; cases h
        | some j =>
          rw [hk] at h
          rw [ih (fun c hc' => hc c (List.mem_cons_of_mem _ hc')) hk]
          exact h
theorem clAt_lt : ∀ {cl : Pts} {s : List Int} {k : Nat}, clAt cl s = some k → k < cl.length
  | [], _, _, h => by cases h
  | c :: cl, s, k, h => by
    unfold clAt at h
    by_cases h1 : below c.1 s = true
    · rw [if_pos h1] at h; cases h; simp
    · rw [if_neg h1] at h
      by_cases h2 : fits c.1 s = true
      · rw [if_pos h2] at h; cases h
      · rw [if_neg h2] at h
        cases hk : clAt cl s with
        | none => rw [hk] at h; cases h
        | some j =>
          rw [hk] at h
          have := clAt_lt hk
          have h : j + 1 = k := by simpa using h
          simp
          omega
def clVal (cl : Pts) (s : List Int) : Int := match clAt cl s with
  | none => -1
  | some k => match cl[k]? with
    | some c => c.2
    | none => -1
def ClOk (sizes : List Int) (cl : Pts) : Prop := ∀ c ∈ cl, c.1.length = sizes.length ∧ 0 ≤ c.2
/-- known answers stay -/
def Up (sizes : List Int) (t : List Int → Int) : Prop := ∀ s s', s.length = sizes.length → s'.length = sizes.length → below s s' = true → t s ≠ -1 → t s' = t s
theorem clVal_some {sizes : List Int} {cl : Pts} (ok : ClOk sizes cl) {s : List Int} : clVal cl s ≠ -1 ↔ ∃ k, clAt cl s = some k := by
  unfold clVal
  cases h : clAt cl s with
  | none => simp
  | some k =>
    have hk := clAt_lt h
    dsimp only
    rw [List.getElem?_eq_getElem hk]
    have := (ok _ (List.getElem_mem hk)).2
    simp
    omega
theorem clVal_up {sizes : List Int} {cl : Pts} (ok : ClOk sizes cl) : Up sizes (clVal cl) := by
  intro s s' h1 h2 hb hn
  obtain ⟨k, hk⟩ := (clVal_some ok).mp hn
  have := clAt_up (fun c hc => by rw [(ok c hc).1, h1]) (by rw [h1, h2]) hb hk
  unfold clVal
  rw [hk, this]
theorem withv_up {s : List Int} {k : Nat} {v : Int} (h : s[k]? = some (-1)) : below s (withv s k v) = true := by
  have hk := (List.getElem?_eq_some_iff.mp h).1
  rw [below_iff, withv_set hk]
  intro i x y e1 e2
  by_cases hi : k = i
  · subst hi
    rw [h] at e1
    exact .inl (Option.some.inj e1).symm
  · rw [List.getElem?_set_ne hi, e1] at e2
    exact .inr (Option.some.inj e2).symm
theorem withv_down {s : List Int} {k : Nat} (hk : k < s.length) : below (withv s k (-1)) s = true := by
  rw [below_iff, withv_set hk]
  intro i x y e1 e2
  by_cases hi : k = i
  · subst hi
    rw [List.getElem?_set_self hk] at e1
    exact .inl (Option.some.inj e1).symm
  · rw [List.getElem?_set_ne hi, e2] at e1
    exact .inr (Option.some.inj e1)
theorem up_mono {sizes : List Int} {t : List Int → Int} (h : Up sizes t) : Mono sizes t := fun s hs k hk n v _ _ hn => by
  have h1 := ((mem_rows sizes s).mp hs).1
  have hk1 := mem_gaps.mp hk
  have hk2 := (List.getElem?_eq_some_iff.mp hk1).1
  exact h s (withv s k v) h1 (by rw [withv_set hk2, List.length_set]; exact h1) (withv_up hk1) hn
/-- a state with an answer has a least one under it -/
theorem least_under {sizes : List Int} (hpos : ∀ n ∈ sizes, 1 ≤ n) {t : List Int → Int} : ∀ (m : Nat) (s : List Int), (s.filter fun x => x != -1).length = m → s ∈ rows (-1) sizes → t s ≠ -1 → ∃ q ∈ rows (-1) sizes, minP t q = true ∧ below q s = true := by
  intro m
  induction m using Nat.strongRecOn with
  | _ m ih =>
    intro s hm hs hn
    have hl := ((mem_rows sizes s).mp hs).1
    by_cases h : low t s = true
    · exact ⟨s, hs, by unfold minP; rw [h]; simpa using hn, below_refl s⟩
    · unfold low at h
      rw [Bool.not_eq_true, List.all_eq_false] at h
      obtain ⟨k, hk, hk2⟩ := h
      rw [List.mem_filter, List.mem_range] at hk
      obtain ⟨hk1, hk3⟩ := hk
      have hk4 : ¬ s[k] = -1 := by
        rw [List.getElem?_eq_getElem hk1] at hk3
        simpa using hk3
      have hw := withv_mem (v := -1) hs hk1 ⟨by omega, fun n hn' => by have := hpos n (List.mem_of_getElem? hn'); omega⟩
      have hc : ((withv s k (-1)).filter fun x => x != -1).length < m := by
        have e : s = s.take k ++ s[k] :: s.drop (k + 1) := by rw [← List.drop_eq_getElem_cons hk1, List.take_append_drop]
        have hm' := hm
        rw [e] at hm'
        unfold withv
        simp only [List.filter_append, List.length_append, List.filter_cons] at hm' ⊢
        rw [if_pos (by simpa using hk4)] at hm'
        simp at hm' ⊢
        omega
      obtain ⟨q, h1, h2, h3⟩ := ih _ hc (withv s k (-1)) rfl hw (by simpa using hk2)
      exact ⟨q, h1, h2, below_trans (by rw [((mem_rows sizes q).mp h1).1, ((mem_rows sizes _).mp hw).1]) h3 (withv_down hk1)⟩
theorem ansAt_pts {sizes : List Int} (ok : SzOk sizes) {t : List Int → Int} (hu : Up sizes t) {s : List Int} (hs : s ∈ rows (-1) sizes) : ansAt (pts sizes t) s = t s := by
  have hl := ((mem_rows sizes s).mp hs).1
  unfold ansAt
  cases h : (pts sizes t).findSome? (fun q => if below q.1 s = true then some q.2 else none) with
  | some a =>
    obtain ⟨q, hq, ha⟩ := List.exists_of_findSome?_eq_some h
    by_cases hb : below q.1 s = true
    · rw [if_pos hb] at ha
      cases ha
      unfold pts at hq
      obtain ⟨r, hr, rfl⟩ := List.mem_map.mp hq
      rw [List.mem_filter] at hr
      have hmin : t r ≠ -1 := by
        have := hr.2
        unfold minP at this
        rw [Bool.and_eq_true] at this
        simpa using this.1
      exact (hu r s ((mem_rows sizes r).mp hr.1).1 hl hb hmin).symm
    · rw [if_neg hb] at ha; cases ha
  | none =>
    rw [List.findSome?_eq_none_iff] at h
    by_cases hn : t s = -1
    · rw [hn]; rfl
    · obtain ⟨q, h1, h2, h3⟩ := least_under (fun n hn => (ok.2 n hn).1) _ s rfl hs hn
      have := h (q, t q) (List.mem_map.mpr ⟨q, List.mem_filter.mpr ⟨h1, h2⟩, rfl⟩)
      rw [if_pos h3] at this
      cases this
/-! ### by_clauses, missed, useless -/
def usedB (sizes : List Int) (cl : Pts) (k : Nat) : Bool := (rows 0 sizes).any fun s => clAt cl s == some k
def idle (sizes : List Int) (cl : Pts) : List Nat := (List.range cl.length).filter fun k => !usedB sizes cl k
def dN (l : List Nat) : D := .tup (l.map fun (k : Nat) => D.int (k : Int))
end K40
/-! PD: the law's own helpers: comparison, draws -/
namespace K40
open PySem DL
/-! ### _law_same of a thing and itself -/
def Pl : Nat → D → Prop
  | 0, d => match d with
    | .tup _ => False
    | .lst _ => False
    | .h _ => False
    | _ => True
  | n + 1, d => match d with
    | .tup ds => ds.length ≤ 1000000 ∧ ∀ x ∈ ds, Pl n x
    | .lst ds => ds.length ≤ 1000000 ∧ ∀ x ∈ ds, Pl n x
    | .h _ => False
    | _ => True
theorem ne_bl (a : Bool) : neD (.bl a) (.bl a) = pure (.bl false) := by cases a <;> simp [neD, flt, eqb]
theorem ev_same : ∀ (n : Nat) (d : D), Pl n d → py__law_same (n + 1) [d, d] = pure (.bl true) := by
  intro n
  induction n with
  | zero =>
    intro d hd
    cases d with
    | tup ds => exact hd.elim
    | lst ds => exact hd.elim
    | h k => exact hd.elim
    | non => simp [py__law_same, isTup, isLst]
    | bl b => cases b <;> simp [py__law_same, isTup, isLst, isBl, isNonB, eqD, flt, eqb]
    | int i => simp [py__law_same, isTup, isLst, isBl, isInt]
    | str x => simp [py__law_same, isTup, isLst, isBl, isInt, isStr, isNonB, eqD, flt, eqb]
  | succ n ih =>
    intro d hd
    cases d with
    | tup ds =>
      obtain ⟨h1, h2⟩ := hd
      rw [py__law_same]
      simp [isTup, isLst, ne_bl]
      rw [if_pos (by omega), pure_bind, rangeN', compL_filt (p := fun _ => false) (h := fun (k : Nat) => D.int (k : Int))]
      · rw [List.filter_eq_nil_iff.mpr (fun _ _ => Bool.false_ne_true)]
        simp
      · intro k hk
        rw [List.mem_range] at hk
        have hx : idxD (.tup ds) (.int (k : Int)) = pure ds[k] := idx_tup (List.getElem?_eq_getElem hk)
        simp [oneC, hx, ih _ (h2 _ (List.getElem_mem hk))]
    | lst ds =>
      obtain ⟨h1, h2⟩ := hd
      rw [py__law_same]
      simp [isTup, isLst, ne_bl]
      rw [if_pos (by omega), pure_bind, rangeN', compL_filt (p := fun _ => false) (h := fun (k : Nat) => D.int (k : Int))]
      · rw [List.filter_eq_nil_iff.mpr (fun _ _ => Bool.false_ne_true)]
        simp
      · intro k hk
        rw [List.mem_range] at hk
        have hx : idxD (.lst ds) (.int (k : Int)) = pure ds[k] := idx_lst (List.getElem?_eq_getElem hk)
        simp [oneC, hx, ih _ (h2 _ (List.getElem_mem hk))]
    | h k => exact hd.elim
    | non => simp [py__law_same, isTup, isLst]
    | bl b => cases b <;> simp [py__law_same, isTup, isLst, isBl, isNonB, eqD, flt, eqb]
    | int i => simp [py__law_same, isTup, isLst, isBl, isInt]
    | str x => simp [py__law_same, isTup, isLst, isBl, isInt, isStr, isNonB, eqD, flt, eqb]
/-! ### draws -/
def PoolMO (c : List Int) (p v n s : Int) : MO := .lst [.lst (c.map .int), .int p, .int v, .int n, .int s]
def Pool (μ : Store) : Prop := ∃ c p v n s, μ[1]? = some (PoolMO c p v n s) ∧ 0 ≤ p
theorem mul_r {i j : Int} (h : smallI j = true) : mulD (.int i) (.int j) = pure (.int (i * j)) := by
  unfold mulD
  dsimp only
  rw [h, Bool.or_true, if_pos rfl]
theorem mul_l {i j : Int} (h : smallI i = true) : mulD (.int i) (.int j) = pure (.int (i * j)) := by
  unfold mulD
  dsimp only
  rw [h, Bool.true_or, if_pos rfl]
theorem mod_p {i j : Int} (h : 0 < j) : modD (.int i) (.int j) = pure (.int (i % j)) := by
  unfold modD
  dsimp only
  rw [if_pos h]
theorem div_p {i j : Int} (h : 0 < j) (h2 : j < 1073741824) : divD (.int i) (.int j) = pure (.int (i / j)) := by
  unfold divD
  dsimp only
  rw [if_pos ⟨h, h2⟩]
theorem int_i (i : Int) : intD (.int i) = pure (.int i) := rfl
section
variable {c : List Int} {p v n s x : Int} {μ : Store}
theorem ix0 (h : μ[1]? = some (PoolMO c p v n s)) : idxD (.h 1) (.int 0) μ = some (.lst (c.map .int), μ) := by unfold idxD; dsimp only; rw [run_bind (getH_at h)]; rfl
theorem ix1 (h : μ[1]? = some (PoolMO c p v n s)) : idxD (.h 1) (.int 1) μ = some (.int p, μ) := by unfold idxD; dsimp only; rw [run_bind (getH_at h)]; rfl
theorem ix2 (h : μ[1]? = some (PoolMO c p v n s)) : idxD (.h 1) (.int 2) μ = some (.int v, μ) := by unfold idxD; dsimp only; rw [run_bind (getH_at h)]; rfl
theorem ix3 (h : μ[1]? = some (PoolMO c p v n s)) : idxD (.h 1) (.int 3) μ = some (.int n, μ) := by unfold idxD; dsimp only; rw [run_bind (getH_at h)]; rfl
theorem ix4 (h : μ[1]? = some (PoolMO c p v n s)) : idxD (.h 1) (.int 4) μ = some (.int s, μ) := by unfold idxD; dsimp only; rw [run_bind (getH_at h)]; rfl
theorem sx1 (h : μ[1]? = some (PoolMO c p v n s)) : setD (.h 1) (.int 1) (.int x) μ = some ((), μ.set 1 (PoolMO c x v n s)) := by unfold setD; dsimp only; rw [run_bind (getH_at h)]; exact setH_at h
theorem sx2 (h : μ[1]? = some (PoolMO c p v n s)) : setD (.h 1) (.int 2) (.int x) μ = some ((), μ.set 1 (PoolMO c p x n s)) := by unfold setD; dsimp only; rw [run_bind (getH_at h)]; exact setH_at h
theorem sx3 (h : μ[1]? = some (PoolMO c p v n s)) : setD (.h 1) (.int 3) (.int x) μ = some ((), μ.set 1 (PoolMO c p v x s)) := by unfold setD; dsimp only; rw [run_bind (getH_at h)]; exact setH_at h
end
theorem r_set (a i e : E) (Γ : DL.Env) : sSet a i e Γ = e Γ >>= fun d => a Γ >>= fun x => i Γ >>= fun k => setD x k d >>= fun _ => pure (Γ, .next) := rfl
theorem ev_spread (c : Int) : ∃ x, py__law_spread [.int c] = pure (.int x) := by
  obtain ⟨Γ', e1, x, y, o, rfl⟩ := forL_pure (α := Int) (its := rangeL 0 4) (enc := D.int) (tg := .v 3) (body := sSeq (sAsg (.v 1) (eOp2 modD (eOp1 intD (eOp2 addD (eOp2 addD (eOp2 mulD (eVar 1) (eC (.int 48271))) (eC (.int 12345))) (eVar 3))) (eC (.int 2147483647))))
    (sAsg (.v 2) (eOp2 addD (eOp2 mulD (eVar 2) (eC (.int 2147483647))) (eVar 1))))
    (fun _ Γ => ∃ x y o, Γ = [some (.int c), some (.int x), some (.int y), o]) (rg 0 4) [] [some (.int c), some (.int (c % 2147483647)), some (.int 1), none] (by
      rintro d k rest Γ hd ⟨x, y, o, rfl⟩
      refine ⟨[some (.int c), some (.int x), some (.int y), some (.int k)], [some (.int c), some (.int ((x * 48271 + 12345 + k) % 2147483647)), some (.int (y * 2147483647 + ((x * 48271 + 12345 + k) % 2147483647))), some (.int k)], rfl, ?_, _, _, _, rfl⟩
      · simp [mul_r (j := 48271) (by decide), mul_r (j := 2147483647) (by decide), mod_p (j := 2147483647) (by decide), int_i]) ⟨_, _, _, rfl⟩
  refine ⟨y, ?_⟩
  rw [← rangeL_eq] at e1
  simp [py__law_spread, int_i, mod_p (j := 2147483647) (by decide)]
  rw [e1]
  simp
theorem Ot.set1 {μ : Store} {o : MO} : Ot 1 μ (μ.set 1 o) := ⟨by rw [List.length_set]; exact Nat.le_refl _, fun i hi _ => List.getElem?_set_ne (Ne.symm hi)⟩
/-- a draw -/
def Drawn (μ : Store) (many r : Int) (μ' : Store) : Prop := 0 ≤ r ∧ r < many ∧ Pool μ' ∧ Ot 1 μ μ' ∧ μ'.length = μ.length
abbrev dTail : S := (sSeq (sSet (eVar 0) (eC (.int 3)) (eOp2 addD (eOp2 idxD (eVar 0) (eC (.int 3))) (eC (.int 1))))
    (sSeq (sIf (tVal (eOp2 leD (eOp2 idxD (eVar 0) (eC (.int 2))) (eC (.int 0))))
    (sSeq (sAsg (.v 3) (eOp2 modD (eOp1 intD (eOp2 addD (eOp2 addD (eOp2 mulD (eOp2 idxD (eVar 0) (eC (.int 4))) (eC (.int 48271))) (eOp2 mulD (eOp2 idxD (eVar 0) (eC (.int 3))) (eC (.int 69621)))) (eC (.int 1)))) (eC (.int 2147483647))))
    (sSeq (sAsg (.v 3) (eOp2 modD (eOp1 intD (eOp2 addD (eOp2 mulD (eVar 3) (eC (.int 16807))) (eOp2 idxD (eVar 0) (eC (.int 3))))) (eC (.int 2147483629))))
    (sRet (eOp2 modD (eOp2 divD (eVar 3) (eC (.int 5))) (eVar 1)))))
    sNop)
    (sSeq (sAsg (.v 4) (eOp2 modD (eOp1 intD (eOp2 idxD (eVar 0) (eC (.int 2)))) (eVar 1)))
    (sSeq (sSet (eVar 0) (eC (.int 2)) (eOp2 divD (eOp2 idxD (eVar 0) (eC (.int 2))) (eVar 1)))
    (sRet (eVar 4))))))
theorem set_at {μ : Store} {o o' : MO} {n : Nat} (h : μ[n]? = some o) : (μ.set n o')[n]? = some o' := List.getElem?_set_self (List.getElem?_eq_some_iff.mp h).1
theorem ev_tail {μ : Store} {many : Int} (hm : 0 < many) (hm2 : many < 1073741824) {c : List Int} {p v n s : Int} {o2 : Option D} (h : μ[1]? = some (PoolMO c p v n s)) (hp : 0 ≤ p) : ∃ r μ', (dTail [some (.h 1), some (.int many), o2, none, none] >>= retK) μ = some (.int r, μ') ∧ Drawn μ many r μ' := by
  have h3 := set_at (o' := PoolMO c p v (n + 1) s) h
  have s1 : sSet (eVar 0) (eC (.int 3)) (eOp2 addD (eOp2 idxD (eVar 0) (eC (.int 3))) (eC (.int 1))) [some (.h 1), some (.int many), o2, none, none] μ = some (([some (.h 1), some (.int many), o2, none, none], .next), μ.set 1 (PoolMO c p v (n + 1) s)) := by
    simp [r_set, bind_def, map_def, pure_def, ix3 h, sx3 h]
  unfold dTail
  rw [r_seq, bind_assoc, run_bind s1, r_seqn, r_seq, r_sif]
  by_cases hv : v ≤ 0
  · refine ⟨(((s * 48271 + (n + 1) * 69621 + 1) % 2147483647 * 16807 + (n + 1)) % 2147483629) / 5 % many, μ.set 1 (PoolMO c p v (n + 1) s), ?_, Int.emod_nonneg _ (by omega), Int.emod_lt_of_pos _ hm, ⟨c, p, v, n + 1, s, h3, hp⟩, Ot.set1, by rw [List.length_set]⟩
    simp [bind_def, map_def, pure_def, ix2 h3, ix3 h3, ix4 h3, hv, mul_r (j := 48271) (by decide), mul_r (j := 69621) (by decide), mul_r (j := 16807) (by decide), mod_p (j := 2147483647) (by decide), mod_p (j := 2147483629) (by decide), div_p (j := 5) (by decide) (by decide), mod_p hm, int_i]
  · have h4 := set_at (o' := PoolMO c p (v / many) (n + 1) s) h
    refine ⟨v % many, μ.set 1 (PoolMO c p (v / many) (n + 1) s), ?_, Int.emod_nonneg _ (by omega), Int.emod_lt_of_pos _ hm, ⟨c, p, v / many, n + 1, s, h4, hp⟩, Ot.set1, by rw [List.length_set]⟩
    simp [bind_def, map_def, pure_def, r_set, ix2 h3, hv, mod_p hm, div_p hm hm2, int_i, sx2 h3]
theorem ev_draw {μ : Store} (hP : Pool μ) {many : Int} (hm : 0 < many) (hm2 : many < 1073741824) : ∃ r μ', py__law_draw [.h 1, .int many] μ = some (.int r, μ') ∧ Drawn μ many r μ' := by
  obtain ⟨c, p, v, n, s, h, hp⟩ := hP
  have head : ∃ o2 p' v' μ1, sIf (tAnd (tVal (eOp2 leD (eOp2 idxD (eVar 0) (eC (.int 2))) (eC (.int 0)))) (tVal (eOp2 ltD (eOp2 idxD (eVar 0) (eC (.int 1))) (eOp1 lenD (eOp2 idxD (eVar 0) (eC (.int 0)))))))
    (sSeq (sAsg (.v 2) (eOp2 idxD (eOp2 idxD (eVar 0) (eC (.int 0))) (eOp2 idxD (eVar 0) (eC (.int 1)))))
    (sSeq (sSet (eVar 0) (eC (.int 1)) (eOp2 addD (eOp2 idxD (eVar 0) (eC (.int 1))) (eC (.int 1))))
    (sSeq (sSet (eVar 0) (eC (.int 2)) (eVar 2))
    (sIf (tVal (eOp2 ltD (eVar 2) (eC (.int 1000000000000000000))))
    (sSet (eVar 0) (eC (.int 2)) (eCall (py__law_spread) [(eVar 2)]))
    sNop))))
    sNop [some (.h 1), some (.int many), none, none, none] μ = some (([some (.h 1), some (.int many), o2, none, none], .next), μ1) ∧ μ1[1]? = some (PoolMO c p' v' n s) ∧ 0 ≤ p' ∧ Ot 1 μ μ1 ∧ μ1.length = μ.length := by
    have test : tAnd (tVal (eOp2 leD (eOp2 idxD (eVar 0) (eC (.int 2))) (eC (.int 0)))) (tVal (eOp2 ltD (eOp2 idxD (eVar 0) (eC (.int 1))) (eOp1 lenD (eOp2 idxD (eVar 0) (eC (.int 0)))))) [some (.h 1), some (.int many), none, none, none] μ = some (decide (v ≤ 0) && decide (p < c.length), μ) := by
      by_cases hv : v ≤ 0
      · simp [bind_def, map_def, pure_def, ix0 h, ix1 h, ix2 h, hv]
      · simp [bind_def, map_def, pure_def, ix2 h, hv]
    rw [r_sif, run_bind test]
    by_cases hb : v ≤ 0 ∧ p < c.length
    · have : (decide (v ≤ 0) && decide (p < c.length)) = true := by simpa using hb
      rw [if_pos this]
      obtain ⟨pn, rfl⟩ : ∃ pn : Nat, p = (pn : Int) := ⟨p.toNat, by omega⟩
      have hpn : pn < c.length := by omega
      have hx : idxD (.lst (c.map .int)) (.int (pn : Int)) = pure (.int c[pn]) := idx_lst (by rw [List.getElem?_map, List.getElem?_eq_getElem hpn]; rfl)
      have h1 := set_at (o' := PoolMO c (pn + 1) v n s) h
      have h2 := set_at (o' := PoolMO c (pn + 1) c[pn] n s) h
      have a1 : sAsg (.v 2) (eOp2 idxD (eOp2 idxD (eVar 0) (eC (.int 0))) (eOp2 idxD (eVar 0) (eC (.int 1)))) [some (.h 1), some (.int many), none, none, none] μ = some (([some (.h 1), some (.int many), some (.int c[pn]), none, none], .next), μ) := by
        simp [bind_def, map_def, pure_def, ix0 h, ix1 h, hx]
      have a2 : sSet (eVar 0) (eC (.int 1)) (eOp2 addD (eOp2 idxD (eVar 0) (eC (.int 1))) (eC (.int 1))) [some (.h 1), some (.int many), some (.int c[pn]), none, none] μ = some (([some (.h 1), some (.int many), some (.int c[pn]), none, none], .next), μ.set 1 (PoolMO c (pn + 1) v n s)) := by
        simp [bind_def, map_def, pure_def, r_set, ix1 h, sx1 h]
      have a3 : sSet (eVar 0) (eC (.int 2)) (eVar 2) [some (.h 1), some (.int many), some (.int c[pn]), none, none] (μ.set 1 (PoolMO c (pn + 1) v n s)) = some (([some (.h 1), some (.int many), some (.int c[pn]), none, none], .next), μ.set 1 (PoolMO c (pn + 1) c[pn] n s)) := by
        simp [bind_def, map_def, pure_def, r_set, sx2 h1]
      rw [r_seq, run_bind a1, r_seqn, r_seq, run_bind a2, r_seqn, r_seq, run_bind a3, r_seqn]
      by_cases hc : c[pn] < 1000000000000000000
      · obtain ⟨x, ex⟩ := ev_spread c[pn]
        refine ⟨some (.int c[pn]), pn + 1, x, μ.set 1 (PoolMO c (pn + 1) x n s), ?_, set_at h, by omega, Ot.set1, by rw [List.length_set]⟩
        simp [bind_def, map_def, pure_def, r_set, hc, ex, sx2 h2]
      · refine ⟨some (.int c[pn]), pn + 1, c[pn], μ.set 1 (PoolMO c (pn + 1) c[pn] n s), ?_, h2, by omega, Ot.set1, by rw [List.length_set]⟩
        simp [bind_def, map_def, pure_def, hc]
    · have : ¬ (decide (v ≤ 0) && decide (p < c.length)) = true := by simpa using hb
      rw [if_neg this]
      exact ⟨none, p, v, μ, rfl, h, hp, Ot.refl 1 μ, rfl⟩
  obtain ⟨o2, p', v', μ1, e1, h1, hp1, ot1, l1⟩ := head
  obtain ⟨r, μ2, e2, d1, d2, d3, d4, d5⟩ := ev_tail hm hm2 (o2 := o2) h1 hp1
  refine ⟨r, μ2, ?_, d1, d2, d3, ot1.trans d4, by rw [d5, l1]⟩
  simp only [py__law_draw, r_fn]
  rw [if_pos (show [D.h 1, D.int many].length = 2 from rfl)]
  show (sSeq _ _ [some (.h 1), some (.int many), none, none, none] >>= retK) μ = _
  rw [r_seq, bind_assoc, run_bind e1, r_seqn]
  exact e2
end K40
/-! QT: trees -/
namespace K40
open PySem DL
inductive Tr where
  | leaf (a : Int)
  | node (k : Nat) (bs : List Tr)
mutual
def dT : Tr → D
  | .leaf a => .int a
  | .node k bs => .tup [.int (k : Int), .tup (dTs bs)]
def dTs : List Tr → List D
  | [] => []
  | b :: bs => dT b :: dTs bs
end
theorem dTs_eq : ∀ bs : List Tr, dTs bs = bs.map dT
  | [] => rfl
  | b :: bs => by rw [dTs, dTs_eq bs]; rfl
mutual
def dep : Tr → Nat
  | .leaf _ => 0
  | .node _ bs => deps bs + 1
def deps : List Tr → Nat
  | [] => 0
  | b :: bs => max (dep b) (deps bs)
end
theorem dep_le : ∀ {bs : List Tr} {b : Tr}, b ∈ bs → dep b ≤ deps bs
  | [], _, h => by cases h
  | c :: bs, b, h => by
    rw [deps]
    rcases List.mem_cons.mp h with h | h
    · rw [h]; exact Nat.le_max_left _ _
    · exact Nat.le_trans (dep_le h) (Nat.le_max_right _ _)
mutual
def lv : Tr → List Int → Pts
  | .leaf a, s => [(s, a)]
  | .node k bs, s => lvs k 0 bs s
def lvs : Nat → Nat → List Tr → List Int → Pts
  | _, _, [], _ => []
  | k, v, b :: bs, s => lv b (withv s k (v : Int)) ++ lvs k (v + 1) bs s
end
theorem lvs_eq (k : Nat) (s : List Int) : ∀ (bs : List Tr) (v : Nat), lvs k v bs s = (bs.zipIdx v).flatMap fun q => lv q.1 (withv s k (q.2 : Int))
  | [], v => rfl
  | b :: bs, v => by rw [lvs, lvs_eq k s bs (v + 1), List.zipIdx_cons, List.flatMap_cons]
theorem enum_map {α : Type} (f : α → D) (xs : List α) : (xs.map f).mapIdx (fun i d => D.tup [.int (i : Nat), d]) = xs.zipIdx.map fun q => D.tup [.int (q.2 : Nat), f q.1] := by
  apply List.ext_getElem?
  intro i
  simp [List.getElem?_mapIdx]
  cases xs[i]? <;> simp
theorem extend_at {a e : E} {Γ : DL.Env} {n : Nat} {zs ds : List D} {μ μ1 : Store} (ha : a Γ μ = some (.h n, μ)) (h0 : μ[n]? = some (.lst ds)) (he : e Γ μ = some (.lst zs, μ1)) (h : μ1[n]? = some (.lst ds)) (hl : ds.length + zs.length ≤ lim) : eExtend a e Γ μ = some (.non, μ1.set n (.lst (ds ++ zs))) := by
  unfold eExtend
  have hx : isLH (.h n) μ = some (n, μ) := by
    unfold isLH
    dsimp only
    rw [run_bind (getH_at h0)]
    rfl
  rw [run_bind ha, run_bind hx, run_bind he]
  exact push_at h hl
theorem isTup_t (ds : List D) : isTup (.tup ds) = pure (.bl true) := rfl
theorem isTup_i (i : Int) : isTup (.int i) = pure (.bl false) := rfl
theorem withv_len {s : List Int} {k : Nat} {v : Int} (h : s.length ≤ 999) : (withv s k v).length ≤ 1000 := by
  unfold withv
  simp only [List.length_append, List.length_take, List.length_drop, List.length_cons, List.length_nil]
  omega
end K40
/-! QU: what a tree's leaves say -/
namespace K40
open PySem DL
theorem mem_lv {k : Nat} {bs : List Tr} {s : List Int} {p : List Int × Int} : p ∈ lv (.node k bs) s ↔ ∃ (v : Nat) (b : Tr), bs[v]? = some b ∧ p ∈ lv b (withv s k (v : Int)) := by
  rw [lv, lvs_eq, List.mem_flatMap]
  constructor
  · rintro ⟨⟨b, v⟩, h1, h2⟩
    exact ⟨v, b, List.mem_zipIdx_iff_getElem?.mp h1, h2⟩
  · rintro ⟨v, b, h1, h2⟩
    exact ⟨(b, v), List.mem_zipIdx_iff_getElem?.mpr h1, h2⟩
/-- asked on the way: places of left, each once; as many branches as the place has values -/
def VT (sizes : List Int) : Nat → List Nat → Tr → Prop
  | _, _, .leaf _ => True
  | 0, _, .node _ _ => False
  | n + 1, left, .node k bs => k ∈ left ∧ sizes[k]? = some (bs.length : Int) ∧ ∀ b ∈ bs, VT sizes n (left.filter fun j => j != k) b
/-- the answer of a tree at a state -/
def rn : Nat → Tr → List Int → Int
  | _, .leaf a, _ => a
  | 0, .node _ _, _ => -1
  | n + 1, .node k bs, s => match s[k]? with
    | some x => if x = -1 then -1 else match bs[x.toNat]? with
      | some b => rn n b s
      | none => -1
    | none => -1
def Fr (left : List Nat) (s : List Int) : Prop := ∀ j ∈ left, s[j]? = some (-1)
theorem fr_step {left : List Nat} {s : List Int} {k : Nat} {v : Int} (h : Fr left s) (hk : k ∈ left) : Fr (left.filter fun j => j != k) (withv s k v) := by
  intro j hj
  rw [List.mem_filter] at hj
  have hkl := (List.getElem?_eq_some_iff.mp (h k hk)).1
  have hne : k ≠ j := by
    have := hj.2
    intro e
    simp [e] at this
  rw [withv_set hkl, List.getElem?_set_ne hne]
  exact h j hj.1
theorem withv_get {s : List Int} {k : Nat} {v : Int} (h : k < s.length) : (withv s k v)[k]? = some v := by
  rw [withv_set h, List.getElem?_set_self h]
theorem lv_above {sizes : List Int} : ∀ (n : Nat) (left : List Nat) (t : Tr) (s : List Int), VT sizes n left t → Fr left s → ∀ p ∈ lv t s, below s p.1 = true ∧ p.1.length = s.length := by
  intro n
  induction n with
  | zero =>
    intro left t s hv hf p hp
    cases t with
    | leaf a =>
      rw [lv] at hp
      rw [List.mem_singleton.mp hp]
      exact ⟨below_refl s, rfl⟩
    | node k bs => exact hv.elim
  | succ n ih =>
    intro left t s hv hf p hp
    cases t with
    | leaf a =>
      rw [lv] at hp
      rw [List.mem_singleton.mp hp]
      exact ⟨below_refl s, rfl⟩
    | node k bs =>
      obtain ⟨hk, hz, hb⟩ := hv
      obtain ⟨v, b, h1, h2⟩ := mem_lv.mp hp
      have hkl := (List.getElem?_eq_some_iff.mp (hf k hk)).1
      obtain ⟨h3, h4⟩ := ih _ b (withv s k (v : Int)) (hb b (List.mem_of_getElem? h1)) (fr_step hf hk) p h2
      have hl : (withv s k (v : Int)).length = s.length := by rw [withv_set hkl, List.length_set]
      exact ⟨below_trans (by rw [hl]) (withv_up (hf k hk)) h3, by rw [h4, hl]⟩
/-- a state over a leaf is answered so -/
theorem lv_run {sizes : List Int} : ∀ (n : Nat) (left : List Nat) (t : Tr) (s : List Int), VT sizes n left t → Fr left s → ∀ p ∈ lv t s, ∀ w : List Int, w.length = s.length → below p.1 w = true → rn n t w = p.2 := by
  intro n
  induction n with
  | zero =>
    intro left t s hv hf p hp w hw hb
    cases t with
    | leaf a =>
      rw [lv] at hp
      rw [List.mem_singleton.mp hp]
      rfl
    | node k bs => exact hv.elim
  | succ n ih =>
    intro left t s hv hf p hp w hw hbw
    cases t with
    | leaf a =>
      rw [lv] at hp
      rw [List.mem_singleton.mp hp]
      rfl
    | node k bs =>
      obtain ⟨hk, hz, hb⟩ := hv
      obtain ⟨v, b, h1, h2⟩ := mem_lv.mp hp
      have hkl := (List.getElem?_eq_some_iff.mp (hf k hk)).1
      have hl : (withv s k (v : Int)).length = s.length := by rw [withv_set hkl, List.length_set]
      obtain ⟨h3, h4⟩ := lv_above n _ b (withv s k (v : Int)) (hb b (List.mem_of_getElem? h1)) (fr_step hf hk) p h2
      have h5 := below_trans (by rw [h4]) h3 hbw
      have hwk : w[k]? = some (v : Int) := by
        have hwl : k < w.length := by omega
        have := below_iff.mp h5 k (v : Int) w[k] (withv_get hkl) (List.getElem?_eq_getElem hwl)
        rw [List.getElem?_eq_getElem hwl]
        rcases this with h | h
        · omega
        · rw [h]
      have hne : ¬ ((v : Int) = -1) := by omega
      unfold rn
      rw [hwk]
      dsimp only
      rw [if_neg hne, Int.toNat_natCast, h1]
      exact ih _ b (withv s k (v : Int)) (hb b (List.mem_of_getElem? h1)) (fr_step hf hk) p h2 w (by rw [hl]; exact hw) hbw
/-- an answered state is over a leaf -/
theorem run_lv {sizes : List Int} : ∀ (n : Nat) (left : List Nat) (t : Tr) (s : List Int), VT sizes n left t → Fr left s → ∀ w : List Int, w.length = s.length → below s w = true → (∀ (k : Nat) (n : Int), sizes[k]? = some n → ∀ x : Int, w[k]? = some x → x < n ∧ -1 ≤ x) → rn n t w ≠ -1 → ∃ p ∈ lv t s, below p.1 w = true ∧ p.2 = rn n t w := by
  intro n
  induction n with
  | zero =>
    intro left t s hv hf w hw hb hr hne
    cases t with
    | leaf a => exact ⟨(s, a), by rw [lv]; exact List.mem_singleton_self _, hb, rfl⟩
    | node k bs => exact hv.elim
  | succ n ih =>
    intro left t s hv hf w hw hbw hr hne
    cases t with
    | leaf a => exact ⟨(s, a), by rw [lv]; exact List.mem_singleton_self _, hbw, rfl⟩
    | node k bs =>
      obtain ⟨hk, hz, hb⟩ := hv
      have hkl := (List.getElem?_eq_some_iff.mp (hf k hk)).1
      have hwl : k < w.length := by omega
      have hwk : w[k]? = some w[k] := List.getElem?_eq_getElem hwl
      unfold rn at hne ⊢
      rw [hwk] at hne ⊢
      dsimp only at hne ⊢
      by_cases hx : w[k] = -1
      · rw [if_pos hx] at hne; exact absurd rfl hne
      · rw [if_neg hx] at hne ⊢
        cases hbx : bs[(w[k]).toNat]? with
        | none => rw [hbx] at hne; exact absurd rfl hne
        | some b =>
          rw [hbx] at hne
          dsimp only at hne ⊢
          have hrange := hr k _ hz w[k] hwk
          have hcast : (((w[k]).toNat : Nat) : Int) = w[k] := by omega
          have hl : (withv s k (((w[k]).toNat : Nat) : Int)).length = s.length := by rw [withv_set hkl, List.length_set]
          have hbw' : below (withv s k (((w[k]).toNat : Nat) : Int)) w = true := by
            rw [below_iff, withv_set hkl]
            intro i x y e1 e2
            by_cases hi : k = i
            · subst hi
              rw [List.getElem?_set_self hkl] at e1
              rw [hwk] at e2
              right
              have e1 : (((w[k]).toNat : Nat) : Int) = x := Option.some.inj e1
              have e2 : w[k] = y := Option.some.inj e2
              omega
            · rw [List.getElem?_set_ne hi] at e1
              exact below_iff.mp hbw i x y e1 e2
          obtain ⟨p, h1, h2, h3⟩ := ih _ b (withv s k (((w[k]).toNat : Nat) : Int)) (hb b (List.mem_of_getElem? hbx)) (fr_step hf hk) w (by rw [hl]; exact hw) hbw' hr hne
          exact ⟨p, mem_lv.mpr ⟨(w[k]).toNat, b, hbx, h1⟩, h2, h3⟩
/-- leaves lie among the states -/
theorem lv_rows {sizes : List Int} : ∀ (n : Nat) (left : List Nat) (t : Tr) (s : List Int), VT sizes n left t → Fr left s → s ∈ rows (-1) sizes → ∀ p ∈ lv t s, p.1 ∈ rows (-1) sizes := by
  intro n
  induction n with
  | zero =>
    intro left t s hv hf hs p hp
    cases t with
    | leaf a => rw [lv] at hp; rw [List.mem_singleton.mp hp]; exact hs
    | node k bs => exact hv.elim
  | succ n ih =>
    intro left t s hv hf hs p hp
    cases t with
    | leaf a => rw [lv] at hp; rw [List.mem_singleton.mp hp]; exact hs
    | node k bs =>
      obtain ⟨hk, hz, hb⟩ := hv
      obtain ⟨v, b, h1, h2⟩ := mem_lv.mp hp
      have hkl := (List.getElem?_eq_some_iff.mp (hf k hk)).1
      have hvl := (List.getElem?_eq_some_iff.mp h1).1
      exact ih _ b (withv s k (v : Int)) (hb b (List.mem_of_getElem? h1)) (fr_step hf hk) (withv_mem hs hkl ⟨by omega, fun n hn => by rw [hz] at hn; cases hn; omega⟩) p h2
/-- no two leaves fit -/
theorem lv_sep {sizes : List Int} : ∀ (n : Nat) (left : List Nat) (t : Tr) (s : List Int), VT sizes n left t → Fr left s → ∀ p ∈ lv t s, ∀ q ∈ lv t s, fits p.1 q.1 = true → p = q := by
  intro n
  induction n with
  | zero =>
    intro left t s hv hf p hp q hq _
    cases t with
    | leaf a => rw [lv] at hp hq; rw [List.mem_singleton.mp hp, List.mem_singleton.mp hq]
    | node k bs => exact hv.elim
  | succ n ih =>
    intro left t s hv hf p hp q hq hfit
    cases t with
    | leaf a => rw [lv] at hp hq; rw [List.mem_singleton.mp hp, List.mem_singleton.mp hq]
    | node k bs =>
      obtain ⟨hk, hz, hb⟩ := hv
      obtain ⟨v, b, h1, h2⟩ := mem_lv.mp hp
      obtain ⟨v', b', h1', h2'⟩ := mem_lv.mp hq
      have hkl := (List.getElem?_eq_some_iff.mp (hf k hk)).1
      have at_k : ∀ (v : Nat) (b : Tr) (p : List Int × Int), bs[v]? = some b → p ∈ lv b (withv s k (v : Int)) → p.1[k]? = some (v : Int) := by
        intro v b p h1 h2
        obtain ⟨h3, h4⟩ := lv_above n _ b (withv s k (v : Int)) (hb b (List.mem_of_getElem? h1)) (fr_step hf hk) p h2
        have hl : (withv s k (v : Int)).length = s.length := by rw [withv_set hkl, List.length_set]
        have hpk : k < p.1.length := by omega
        have := below_iff.mp h3 k (v : Int) p.1[k] (withv_get hkl) (List.getElem?_eq_getElem hpk)
        rw [List.getElem?_eq_getElem hpk]
        rcases this with h | h
        · omega
        · rw [h]
      have e1 := at_k v b p h1 h2
      have e2 := at_k v' b' q h1' h2'
      have hvv : v = v' := by
        rcases fits_iff.mp hfit k _ _ e1 e2 with h | h | h
        · omega
        · omega
        · omega
      subst hvv
      rw [h1] at h1'
      cases h1'
      exact ih _ b (withv s k (v : Int)) (hb b (List.mem_of_getElem? h1)) (fr_step hf hk) p h2 q h2' hfit
theorem both_fit {a b s : List Int} (h1 : below a s = true) (h2 : below b s = true) (hl : a.length = s.length) : fits a b = true := by
  rw [fits_iff]
  intro i x y e1 e2
  obtain ⟨z, e3⟩ := getE (n := 0) hl e1
  rcases below_iff.mp h1 i x z e1 e3 with h | h
  · exact .inl h
  · rcases below_iff.mp h2 i y z e2 e3 with h' | h'
    · exact .inr (.inl h')
    · exact .inr (.inr (by omega))
def cv : Pts → List Int → Int
  | [], _ => -1
  | c :: cl, s => if below c.1 s = true then c.2 else if fits c.1 s = true then -1 else cv cl s
theorem cv_c (c : List Int × Int) (cl : Pts) (s : List Int) : cv (c :: cl) s = if below c.1 s = true then c.2 else if fits c.1 s = true then -1 else cv cl s := rfl
theorem clVal_cv (s : List Int) : ∀ cl : Pts, clVal cl s = cv cl s
  | [] => rfl
  | c :: cl => by
    have ih := clVal_cv s cl
    unfold clVal at ih ⊢
    unfold clAt cv
    by_cases h1 : below c.1 s = true
    · rw [if_pos h1, if_pos h1]; rfl
    · rw [if_neg h1, if_neg h1]
      by_cases h2 : fits c.1 s = true
      · rw [if_pos h2, if_pos h2]
      · rw [if_neg h2, if_neg h2, ← ih]
        cases clAt cl s with
        | none => rfl
        | some k => rfl
/-- rows of which no two fit: the one under s answers -/
theorem cv_sep {s : List Int} : ∀ {R : Pts}, (∀ p ∈ R, p.1.length = s.length) → (∀ p ∈ R, ∀ q ∈ R, fits p.1 q.1 = true → p = q) → ∀ p ∈ R, below p.1 s = true → cv R s = p.2
  | [], _, _, p, hp, _ => by cases hp
  | c :: R, hl, hs, p, hp, hb => by
    rw [cv_c]
    have hpl := hl p hp
    by_cases h1 : below c.1 s = true
    · rw [if_pos h1, hs c List.mem_cons_self p hp (both_fit h1 hb (hl c List.mem_cons_self))]
    · rw [if_neg h1]
      by_cases h2 : fits c.1 s = true
      · have := hs c List.mem_cons_self p hp (fits_down hpl hb h2)
        rw [this] at h1
        exact absurd hb h1
      · rw [if_neg h2]
        have hpR : p ∈ R := (List.mem_cons.mp hp).resolve_left fun e => h1 (e ▸ hb)
        exact cv_sep (fun q hq => hl q (List.mem_cons_of_mem _ hq)) (fun q hq r hr => hs q (List.mem_cons_of_mem _ hq) r (List.mem_cons_of_mem _ hr)) p hpR hb
theorem cv_no {s : List Int} : ∀ {R : Pts}, (∀ p ∈ R, ¬ below p.1 s = true) → cv R s = -1
  | [], _ => rfl
  | c :: R, h => by
    rw [cv_c, if_neg (h c List.mem_cons_self)]
    split
    · rfl
    · exact cv_no fun q hq => h q (List.mem_cons_of_mem _ hq)
/-- rows that are a tree's answered leaves, in any order, answer as the tree -/
theorem rows_run {sizes : List Int} {n : Nat} {left : List Nat} {t : Tr} {s0 : List Int} (hv : VT sizes n left t) (hf : Fr left s0) (h0 : ∀ (j : Nat) (x : Int), s0[j]? = some x → x = -1) (hl0 : s0.length = sizes.length) {R : Pts} (hR : ∀ p, p ∈ R ↔ p ∈ lv t s0 ∧ p.2 ≠ -1) {s : List Int} (hs : s ∈ rows (-1) sizes) : clVal R s = rn n t s := by
  obtain ⟨h1, h2⟩ := (mem_rows sizes s).mp hs
  rw [clVal_cv]
  have hb0 : below s0 s = true := by
    rw [below_iff]
    intro i x y e1 _
    exact .inl (h0 i x e1)
  have hlen : ∀ p ∈ R, p.1.length = s.length := fun p hp => by rw [(lv_above n left t s0 hv hf p ((hR p).mp hp).1).2, hl0, h1]
  by_cases hne : rn n t s = -1
  · rw [hne]
    refine cv_no fun p hp hb => ?_
    have := lv_run n left t s0 hv hf p ((hR p).mp hp).1 s (by rw [hl0, h1]) hb
    exact ((hR p).mp hp).2 (by rw [← this, hne])
  · obtain ⟨p, p1, p2, p3⟩ := run_lv n left t s0 hv hf s (by rw [hl0, h1]) hb0 (fun k n hn x hx => by have := h2 k n x hn hx; omega) hne
    rw [cv_sep hlen (fun p hp q hq => lv_sep n left t s0 hv hf p ((hR p).mp hp).1 q ((hR q).mp hq).1) p ((hR p).mpr ⟨p1, by rw [p3]; exact hne⟩) p2, p3]
end K40
/-! QV: a tree's sorted leaves are the points of what it answers -/
namespace K40
open PySem DL
theorem lv_nd {sizes : List Int} : ∀ (n : Nat) (left : List Nat) (t : Tr) (s : List Int), VT sizes n left t → Fr left s → (lv t s).Nodup := by
  intro n
  induction n with
  | zero =>
    intro left t s hv hf
    cases t with
    | leaf a => rw [lv]; simp
    | node k bs => exact hv.elim
  | succ n ih =>
    intro left t s hv hf
    cases t with
    | leaf a => rw [lv]; simp
    | node k bs =>
      obtain ⟨hk, hz, hb⟩ := hv
      have hkl := (List.getElem?_eq_some_iff.mp (hf k hk)).1
      have at_k : ∀ (v : Nat) (b : Tr) (p : List Int × Int), b ∈ bs → p ∈ lv b (withv s k (v : Int)) → p.1[k]? = some (v : Int) := by
        intro v b p h1 h2
        obtain ⟨h3, h4⟩ := lv_above n _ b (withv s k (v : Int)) (hb b h1) (fr_step hf hk) p h2
        have hl : (withv s k (v : Int)).length = s.length := by rw [withv_set hkl, List.length_set]
        have hpk : k < p.1.length := by omega
        have := below_iff.mp h3 k (v : Int) p.1[k] (withv_get hkl) (List.getElem?_eq_getElem hpk)
        rw [List.getElem?_eq_getElem hpk]
        rcases this with h | h
        · omega
        · rw [h]
      have gen : ∀ (cs : List Tr) (v : Nat), (∀ b ∈ cs, b ∈ bs) → (lvs k v cs s).Nodup ∧ ∀ p ∈ lvs k v cs s, ∃ x : Nat, v ≤ x ∧ p.1[k]? = some (x : Int) := by
        intro cs
        induction cs with
        | nil => intro v _; rw [lvs]; simp
        | cons c cs ihc =>
          intro v hcs
          obtain ⟨h1, h2⟩ := ihc (v + 1) fun b hb => hcs b (List.mem_cons_of_mem _ hb)
          rw [lvs]
          refine ⟨?_, fun p hp => ?_⟩
          · rw [List.nodup_append]
            refine ⟨ih _ c _ (hb c (hcs c List.mem_cons_self)) (fr_step hf hk), h1, fun a ha b hb' e => ?_⟩
            subst e
            have e1 := at_k v c a (hcs c List.mem_cons_self) ha
            obtain ⟨x, hx, e2⟩ := h2 a hb'
            rw [e1] at e2
            have : (v : Int) = (x : Int) := Option.some.inj e2
            omega
          · rcases List.mem_append.mp hp with hp | hp
            · exact ⟨v, Nat.le_refl _, at_k v c p (hcs c List.mem_cons_self) hp⟩
            · obtain ⟨x, hx, e⟩ := h2 p hp
              exact ⟨x, by omega, e⟩
      rw [lv]
      exact (gen bs 0 fun b hb => hb).1
theorem pts_strict (sizes : List Int) (t : List Int → Int) : (pts sizes t).Pairwise ltP := by
  unfold pts
  rw [List.pairwise_map]
  exact ((rows_sorted sizes).filter _).imp fun h => .inl h
theorem pts_mem {sizes : List Int} {t : List Int → Int} {p : List Int × Int} : p ∈ pts sizes t ↔ p.1 ∈ rows (-1) sizes ∧ minP t p.1 = true ∧ p.2 = t p.1 := by
  unfold pts
  rw [List.mem_map]
  constructor
  · rintro ⟨s, hs, rfl⟩
    rw [List.mem_filter] at hs
    exact ⟨hs.1, hs.2, rfl⟩
  · rintro ⟨h1, h2, h3⟩
    exact ⟨p.1, List.mem_filter.mpr ⟨h1, h2⟩, by rw [← h3]⟩
section
variable {sizes : List Int} {n : Nat} {left : List Nat} {t : Tr} {s0 : List Int}
theorem leaf_pts (hv : VT sizes n left t) (hf : Fr left s0) (h0 : ∀ (j : Nat) (x : Int), s0[j]? = some x → x = -1) (hl0 : s0.length = sizes.length) (hs0 : s0 ∈ rows (-1) sizes) (hpos : ∀ m ∈ sizes, 1 ≤ m) (p : List Int × Int) :
    (p ∈ lv t s0 ∧ p.2 ≠ -1) ↔ p ∈ pts sizes (rn n t) := by
  have run : ∀ w, w ∈ rows (-1) sizes → rn n t w ≠ -1 → ∃ q ∈ lv t s0, below q.1 w = true ∧ q.2 = rn n t w := fun w hw hne => by
    obtain ⟨h1, h2⟩ := (mem_rows sizes w).mp hw
    exact run_lv n left t s0 hv hf w (by rw [hl0, h1]) (below_iff.mpr fun i x y e1 _ => .inl (h0 i x e1)) (fun k m hm x hx => by have := h2 k m x hm hx; omega) hne
  rw [pts_mem]
  constructor
  · rintro ⟨hp, hne⟩
    have hr := lv_rows n left t s0 hv hf hs0 p hp
    have hpl := ((mem_rows sizes p.1).mp hr).1
    have e := lv_run n left t s0 hv hf p hp p.1 (by rw [hpl, hl0]) (below_refl _)
    refine ⟨hr, ?_, e.symm⟩
    unfold minP low
    rw [Bool.and_eq_true, List.all_eq_true]
    refine ⟨by rw [e]; simpa using hne, fun k hk => ?_⟩
    rw [List.mem_filter, List.mem_range] at hk
    obtain ⟨hk1, hk2⟩ := hk
    rw [beq_iff_eq]
    apply Classical.byContradiction
    intro hz
    have hw := withv_mem (v := -1) hr hk1 ⟨by omega, fun m hm => by have := hpos m (List.mem_of_getElem? hm); omega⟩
    obtain ⟨q, q1, q2, q3⟩ := run _ hw hz
    have hql := ((mem_rows sizes q.1).mp (lv_rows n left t s0 hv hf hs0 q q1)).1
    have hwl := ((mem_rows sizes _).mp hw).1
    have hqp := below_trans (by rw [hql, hwl]) q2 (withv_down hk1)
    have eqp := lv_sep n left t s0 hv hf q q1 p hp (both_fit hqp (below_refl p.1) (by rw [hql, hpl]))
    subst eqp
    have hkk := below_iff.mp q2 k q.1[k] (-1) (List.getElem?_eq_getElem hk1) (withv_get hk1)
    rw [List.getElem?_eq_getElem hk1] at hk2
    have hk3 : q.1[k] ≠ -1 := by simpa using hk2
    rcases hkk with h | h
    · exact hk3 h
    · exact hk3 h.symm
  · rintro ⟨hr, hmin, e⟩
    unfold minP at hmin
    rw [Bool.and_eq_true] at hmin
    have hne : rn n t p.1 ≠ -1 := by simpa using hmin.1
    obtain ⟨q, q1, q2, q3⟩ := run p.1 hr hne
    have hpl := ((mem_rows sizes p.1).mp hr).1
    have hqr := lv_rows n left t s0 hv hf hs0 q q1
    have hql := ((mem_rows sizes q.1).mp hqr).1
    have hq : q.1 = p.1 := by
      apply List.ext_getElem (by rw [hql, hpl])
      intro k hk1 hk2
      apply Classical.byContradiction
      intro hne2
      have hb := below_iff.mp q2 k q.1[k] p.1[k] (List.getElem?_eq_getElem hk1) (List.getElem?_eq_getElem hk2)
      have hqk : q.1[k] = -1 := by
        rcases hb with h | h
        · exact h
        · exact absurd h.symm hne2
      have hpk : p.1[k] ≠ -1 := fun z => hne2 (hqk.trans z.symm)
      have hlow := hmin.2
      unfold low at hlow
      rw [List.all_eq_true] at hlow
      have := hlow k (List.mem_filter.mpr ⟨List.mem_range.mpr hk2, by rw [List.getElem?_eq_getElem hk2]; simpa using hpk⟩)
      rw [beq_iff_eq] at this
      have hbw : below q.1 (withv p.1 k (-1)) = true := by
        rw [below_iff, withv_set hk2]
        intro i x y e1 e2
        by_cases hi : k = i
        · subst hi
          rw [List.getElem?_eq_getElem hk1] at e1
          exact .inl ((Option.some.inj e1).symm.trans hqk)
        · rw [List.getElem?_set_ne hi] at e2
          exact below_iff.mp q2 i x y e1 e2
      have := lv_run n left t s0 hv hf q q1 (withv p.1 k (-1)) (by rw [withv_set hk2, List.length_set, hpl, hl0]) hbw
      rw [q3] at this
      omega
    have : q = p := Prod.ext hq (by rw [q3, e])
    subst this
    exact ⟨q1, by rw [e]; exact hne⟩
/-- sorted leaves -/
theorem told_pts (hv : VT sizes n left t) (hf : Fr left s0) (h0 : ∀ (j : Nat) (x : Int), s0[j]? = some x → x = -1) (hl0 : s0.length = sizes.length) (hs0 : s0 ∈ rows (-1) sizes) (hpos : ∀ m ∈ sizes, 1 ≤ m) :
    ((lv t s0).filter fun p => p.2 != -1).mergeSort leP = pts sizes (rn n t) := by
  refine sort_eq ((lv_nd n left t s0 hv hf).filter _) (pts_strict sizes _) fun p => ?_
  rw [List.mem_filter, ← leaf_pts hv hf h0 hl0 hs0 hpos p]
  simp
end
end K40
/-! QW: told_by, clauses_of, run -/
namespace K40
open PySem DL
def nothing (sizes : List Int) : List Int := List.replicate sizes.length (-1)
theorem mul_nothing {sizes : List Int} (h : sizes.length ≤ 1000) : mulD (.tup [.int (-1)]) (.int (sizes.length : Int)) = pure (dS (nothing sizes)) := by
  unfold mulD
  dsimp only
  rw [if_pos ⟨by simp, by simp, by omega, by omega⟩]
  unfold repL dS nothing
  rw [Int.toNat_natCast, List.map_replicate]
  congr 2
  induction sizes.length with
  | zero => rfl
  | succ n ih => rw [List.replicate_succ, List.flatten_cons, ih, List.replicate_succ]; rfl
theorem ev_nothing {sizes : List Int} (h : sizes.length ≤ 1000) : py_nothing_known [dS sizes] = pure (dS (nothing sizes)) := by
  have h1 : ∀ G : DL.Env, eTup [(eC (.int (-1)))] G = pure (.tup [.int (-1)]) := fun G => by simp
  have h2 : eOp1 lenD (eVar 0) [some (dS sizes)] = pure (.int (sizes.length : Int)) := by simp [dS]
  simp only [py_nothing_known, r_fn]
  rw [if_pos (show [dS sizes].length = 1 from rfl)]
  show (sRet _ [some (dS sizes)] >>= retK) = _
  rw [r_ret, r_op2, h1, pure_bind, h2, pure_bind, mul_nothing h]
  rfl
theorem nothing_get {sizes : List Int} (j : Nat) (x : Int) (h : (nothing sizes)[j]? = some x) : x = -1 := by
  unfold nothing at h
  rw [List.getElem?_replicate] at h
  split at h
  · exact (Option.some.inj h).symm
  · cases h
theorem nothing_len {sizes : List Int} : (nothing sizes).length = sizes.length := by simp [nothing]
theorem nothing_rows {sizes : List Int} (hpos : ∀ m ∈ sizes, 1 ≤ m) : nothing sizes ∈ rows (-1) sizes := (mem_rows sizes _).mpr ⟨nothing_len, fun i n x e1 e2 => by
  rw [nothing_get i x e2]
  have := hpos n (List.mem_of_getElem? e1)
  omega⟩
theorem toPairs_dP : ∀ l : Pts, toPairs (l.map dP) = some l
  | [] => rfl
  | p :: l => by
    rw [List.map_cons]
    unfold dP dS
    unfold toPairs
    rw [toInts_map]
    have := toPairs_dP l
    unfold dP dS at this
    rw [this]
theorem sortedD_dP (l : Pts) : sortedD (.lst (l.map dP)) = pure (.lst ((l.mergeSort leP).map dP)) := by
  unfold sortedD
  dsimp only
  rw [toPairs_dP]
  rfl
def known (l : Pts) : Pts := l.filter fun p => p.2 != -1
theorem comp_known (l : Pts) (vs : List Nat) (i j : Nat) (its : List D) (G : DL.Env) (hij : i ≠ j) (hi : i < G.length) (hj : j < G.length) (hvs : vs = [i, j]) :
    compL .no its (oneC vs (.t (.cons (.v i) (.cons (.v j) .nil))) (some (tVal (eOp2 neD (eVar j) (eC (.int (-1)))))) (eTup [(eVar i), (eVar j)]) G) (l.map dP) = pure ((known l).map dP) := by
  subst hvs
  rw [compL_filt (p := fun p => p.2 != -1) (h := dP)]
  · rfl
  · intro p hp
    have g1 : (((((G.set j none).set i none)).set i (some (dS p.1))).set j (some (.int p.2)))[j]? = some (some (.int p.2)) := List.getElem?_set_self (by simp only [List.length_set]; exact hj)
    have g2 : (((((G.set j none).set i none)).set i (some (dS p.1))).set j (some (.int p.2)))[i]? = some (some (dS p.1)) := by
      rw [List.getElem?_set_ne (Ne.symm hij)]
      exact List.getElem?_set_self (by simp only [List.length_set]; exact hi)
    simp only [oneC, dP, r_wipe1, r_wipe0, r_putt, r_put1, r_put0, r_putv, Option.bind_some, r_lift, pure_bind, r_tval, r_op2, r_c, r_var, g1, r_nei, r_toBl]
    by_cases h : p.2 = -1
    · simp [h]
    · have h' : (p.2 != -1) = true := by simpa using h
      rw [h', if_pos rfl, if_pos rfl, r_tup]
      simp only [r_list1, r_list0, r_var, g1, g2, pure_bind]
      rw [if_pos (by simp)]
      rfl
section
variable {sizes : List Int} {m : Int} {t : Tr}
end
end K40
/-! QX: trimmed -/
namespace K40
open PySem DL
def isM1 : Tr → Bool
  | .leaf a => a == -1
  | .node _ _ => false
mutual
def trim : Tr → Tr
  | .leaf a => .leaf a
  | .node k bs => if (trims bs).all isM1 then .leaf (-1) else .node k (trims bs)
def trims : List Tr → List Tr
  | [] => []
  | b :: bs => trim b :: trims bs
end
theorem trims_eq : ∀ bs : List Tr, trims bs = bs.map trim
  | [] => rfl
  | b :: bs => by rw [trims, trims_eq bs]; rfl
mutual
theorem flt_dT : ∀ (t : Tr) (n : Nat), 2 * dep t + 1 ≤ n → flt n (dT t) = true
  | .leaf a, n, _ => r_flti n a
  | .node k bs, n, h => by
    rw [dep] at h
    obtain ⟨m, rfl⟩ : ∃ m, n = m + 2 := ⟨n - 2, by omega⟩
    rw [dT, flt, r_flt1, r_flt1, r_flti, r_flt0, flt, flt_dTs bs m (by omega)]
    rfl
theorem flt_dTs : ∀ (bs : List Tr) (n : Nat), 2 * deps bs + 1 ≤ n → fltL n (dTs bs) = true
  | [], n, _ => by rw [dTs]; exact r_flt0 n
  | b :: bs, n, h => by
    rw [deps] at h
    rw [dTs, r_flt1, flt_dT b n (by omega), flt_dTs bs n (by omega)]
    rfl
end
theorem eq_m1 {b : Tr} (h : dep b ≤ 20) : eqD (dT b) (.int (-1)) = pure (.bl (isM1 b)) := by
  unfold eqD
  rw [flt_dT b 60 (by omega), r_flti]
  cases b with
  | leaf a => simp [dT, isM1]
  | node k bs => simp [dT, isM1, eqb]
mutual
theorem dep_trim : ∀ t : Tr, dep (trim t) ≤ dep t
  | .leaf a => by rw [trim]; exact Nat.le_refl _
  | .node k bs => by
    rw [trim]
    split
    · rw [dep]; omega
    · rw [dep, dep]
      have := deps_trims bs
      omega
theorem deps_trims : ∀ bs : List Tr, deps (trims bs) ≤ deps bs
  | [] => by rw [trims]; exact Nat.le_refl _
  | b :: bs => by
    rw [trims, deps, deps]
    have h1 := dep_trim b
    have h2 := deps_trims bs
    omega
end
theorem m1_leaf {b : Tr} (h : isM1 b = true) : b = .leaf (-1) := by
  cases b with
  | leaf a =>
    have : a = -1 := by simpa [isM1] using h
    rw [this]
  | node k bs => cases h
mutual
theorem known_trim : ∀ (t : Tr) (s : List Int), known (lv (trim t) s) = known (lv t s)
  | .leaf a, s => by rw [trim]
  | .node k bs, s => by
    rw [trim]
    by_cases hall : (trims bs).all isM1 = true
    · rw [if_pos hall]
      have h := known_trims k bs 0 s
      have : known (lvs k 0 (trims bs) s) = [] := by
        have gen : ∀ (cs : List Tr) (v : Nat), cs.all isM1 = true → known (lvs k v cs s) = [] := by
          intro cs
          induction cs with
          | nil => intro v _; rw [lvs]; rfl
          | cons c cs ih =>
            intro v hc
            rw [List.all_cons, Bool.and_eq_true] at hc
            rw [lvs, m1_leaf hc.1, lv]
            unfold known
            rw [List.filter_append]
            have := ih (v + 1) hc.2
            unfold known at this
            rw [this]
            rfl
        exact gen _ 0 hall
      rw [lv, lv, ← h, this]
      rfl
    · rw [if_neg hall, lv, lv]
      exact known_trims k bs 0 s
theorem known_trims : ∀ (k : Nat) (bs : List Tr) (v : Nat) (s : List Int), known (lvs k v (trims bs) s) = known (lvs k v bs s)
  | k, [], v, s => by rw [trims]
  | k, b :: bs, v, s => by
    have h1 := known_trim b (withv s k (v : Int))
    have h2 := known_trims k bs (v + 1) s
    rw [trims, lvs, lvs]
    unfold known at h1 h2 ⊢
    rw [List.filter_append, List.filter_append, h1, h2]
end
end K40
/-! QY: the tree of clauses, in plain lists -/
namespace K40
open PySem DL
def firstGap (p s : List Int) : Option Nat := (p.zipIdx.find? fun q => q.1 != -1 && s[q.2]? == some (-1)).map (·.2)
def so (sizes : List Int) : Nat → Pts → List Int → Tr
  | 0, _, _ => .leaf (-1)
  | n + 1, cl, s => match cl.find? fun c => fits c.1 s with
    | none => .leaf (-1)
    | some c => if below c.1 s = true then .leaf c.2 else match firstGap c.1 s with
      | none => .leaf (-1)
      | some k => .node k ((List.range (sizes[k]?.getD 0).toNat).map fun (v : Nat) => so sizes n cl (withv s k (v : Int)))
theorem firstGap_some {p s : List Int} {k : Nat} (h : firstGap p s = some k) : s[k]? = some (-1) := by
  unfold firstGap at h
  rw [Option.map_eq_some_iff] at h
  obtain ⟨q, h1, rfl⟩ := h
  have := List.find?_some h1
  rw [Bool.and_eq_true] at this
  simpa using this.2
def Cov (left : List Nat) (s : List Int) : Prop := ∀ j, s[j]? = some (-1) → j ∈ left
theorem cov_step {left : List Nat} {s : List Int} {k : Nat} {v : Nat} (h : Cov left s) (hk : s[k]? = some (-1)) : Cov (left.filter fun j => j != k) (withv s k (v : Int)) := by
  intro j hj
  have hkl := (List.getElem?_eq_some_iff.mp hk).1
  by_cases hjk : k = j
  · subst hjk
    rw [withv_get hkl] at hj
    have : (v : Int) = -1 := Option.some.inj hj
    omega
  · rw [withv_set hkl, List.getElem?_set_ne hjk] at hj
    refine List.mem_filter.mpr ⟨h j hj, ?_⟩
    simp
    exact fun e => hjk e.symm
theorem so_vt {sizes : List Int} (hpos : ∀ m ∈ sizes, 1 ≤ m) {cl : Pts} : ∀ (n : Nat) (left : List Nat) (s : List Int), s.length = sizes.length → Cov left s → VT sizes n left (so sizes n cl s) := by
  intro n
  induction n with
  | zero => intro left s _ _; exact True.intro
  | succ n ih =>
    intro left s hl hc
    unfold so
    cases h : cl.find? fun c => fits c.1 s with
    | none => exact True.intro
    | some c =>
      dsimp only
      by_cases hb : below c.1 s = true
      · rw [if_pos hb]; exact True.intro
      · rw [if_neg hb]
        cases hg : firstGap c.1 s with
        | none => exact True.intro
        | some k =>
          dsimp only
          have hk := firstGap_some hg
          have hkl := (List.getElem?_eq_some_iff.mp hk).1
          have hkz : k < sizes.length := by omega
          refine ⟨hc k hk, ?_, fun b hb' => ?_⟩
          · rw [List.getElem?_eq_getElem hkz, List.length_map, List.length_range]
            have := hpos _ (List.getElem_mem hkz)
            simp
            omega
          · obtain ⟨v, _, rfl⟩ := List.mem_map.mp hb'
            exact ih _ _ (by rw [withv_set hkl, List.length_set]; exact hl) (cov_step hc hk)
/-- where the tree answers, the clauses answer so -/
theorem so_run {sizes : List Int} {cl : Pts} (hcl : ∀ c ∈ cl, c.1.length = sizes.length) : ∀ (n : Nat) (s : List Int), s.length = sizes.length → ∀ w : List Int, w.length = sizes.length → (∀ (i : Nat) (x : Int), w[i]? = some x → -1 ≤ x) → below s w = true → rn n (so sizes n cl s) w ≠ -1 → clVal cl w = rn n (so sizes n cl s) w := by
  intro n
  induction n with
  | zero => intro s _ w _ _ _ h; exact absurd rfl h
  | succ n ih =>
    intro s hl w hw hw1 hb hne
    unfold so at hne ⊢
    cases h : cl.find? fun c => fits c.1 s with
    | none => rw [h] at hne; exact absurd rfl hne
    | some c =>
      rw [h] at hne
      dsimp only at hne ⊢
      by_cases hbc : below c.1 s = true
      · rw [if_pos hbc] at hne ⊢
        -- the first that fits is under s
        have key : ∀ R : Pts, (∀ d ∈ R, d.1.length = sizes.length) → R.find? (fun c => fits c.1 s) = some c → cv R w = c.2 := by
          intro R
          induction R with
          | nil => intro _ h; cases h
          | cons d R ihR =>
            intro hR h
            rw [List.find?_cons] at h
            rw [cv_c]
            by_cases hf : fits d.1 s = true
            · rw [hf] at h
              have h : d = c := Option.some.inj h
              subst h
              rw [if_pos (below_trans (by rw [hR d List.mem_cons_self, hl]) hbc hb)]
            · have hf' : fits d.1 s = false := by simpa using hf
              rw [hf'] at h
              have hfw : ¬ fits d.1 w = true := fun z => hf (fits_down (by rw [hl, hw]) hb z)
              rw [if_neg (fun z => hfw (below_fits z)), if_neg hfw]
              exact ihR (fun e he => hR e (List.mem_cons_of_mem _ he)) h
        rw [clVal_cv, key cl hcl h]
        rfl
      · rw [if_neg hbc] at hne ⊢
        cases hg : firstGap c.1 s with
        | none => rw [hg] at hne; exact absurd rfl hne
        | some k =>
          rw [hg] at hne
          dsimp only at hne ⊢
          have hk := firstGap_some hg
          have hkl := (List.getElem?_eq_some_iff.mp hk).1
          have hwl : k < w.length := by omega
          have hwk : w[k]? = some w[k] := List.getElem?_eq_getElem hwl
          unfold rn at hne ⊢
          rw [hwk] at hne ⊢
          dsimp only at hne ⊢
          by_cases hx : w[k] = -1
          · rw [if_pos hx] at hne; exact absurd rfl hne
          · rw [if_neg hx] at hne ⊢
            rw [List.getElem?_map] at hne ⊢
            cases hr : (List.range (sizes[k]?.getD 0).toNat)[(w[k]).toNat]? with
            | none => rw [hr] at hne; exact absurd rfl hne
            | some v =>
              rw [hr] at hne
              dsimp only [Option.map_some] at hne ⊢
              have hv : v = (w[k]).toNat := by
                obtain ⟨h1, h2⟩ := List.getElem?_eq_some_iff.mp hr
                rw [List.getElem_range] at h2
                exact h2.symm
              subst hv
              have hge := hw1 k w[k] hwk
              have hbw' : below (withv s k (((w[k]).toNat : Nat) : Int)) w = true := by
                rw [below_iff, withv_set hkl]
                intro i x y e1 e2
                by_cases hi : k = i
                · subst hi
                  rw [List.getElem?_set_self hkl] at e1
                  rw [hwk] at e2
                  right
                  have e1 : (((w[k]).toNat : Nat) : Int) = x := Option.some.inj e1
                  have e2 : w[k] = y := Option.some.inj e2
                  omega
                · rw [List.getElem?_set_ne hi] at e1
                  exact below_iff.mp hb i x y e1 e2
              exact ih _ (by rw [withv_set hkl, List.length_set]; exact hl) w hw hw1 hbw' hne
end K40
/-! QZ: sorted_out runs -/
namespace K40
open PySem DL
/-- it returns `d`, and leaves the old things as they are -/
def Rets (m : M (DL.Env × DL.Flow)) (d : D) : Prop := ∀ μ, ∃ Γ μ', m μ = some ((Γ, .ret d), μ ++ μ')
theorem forL_first {α : Type} {its : List D} {enc : α → D} {tg : Tg} {body : S} {Rel : DL.Env → Prop} {q : α → Bool} {d : D} : ∀ (xs : List α) (Γ : DL.Env), Rel Γ →
    (∀ a ∈ xs, q a = false → ∀ Γ, Rel Γ → ∃ Γ1 Γ2, tg.put (enc a) Γ = some Γ1 ∧ body Γ1 = pure (Γ2, .next) ∧ Rel Γ2) →
    (∀ a, xs.find? q = some a → ∀ Γ, Rel Γ → ∃ Γ1, tg.put (enc a) Γ = some Γ1 ∧ Rets (body Γ1) d) →
    (xs.find? q = none → ∃ Γ', forL .no its tg body (xs.map enc) Γ = pure (Γ', .next) ∧ Rel Γ') ∧ (∀ a, xs.find? q = some a → Rets (forL .no its tg body (xs.map enc) Γ) d)
  | [], Γ, h0, _, _ => ⟨fun _ => ⟨Γ, rfl, h0⟩, fun a h => by cases h⟩
  | x :: xs, Γ, h0, h1, h2 => by
    cases hx : q x with
    | true =>
      have hf : (x :: xs).find? q = some x := by rw [List.find?_cons, hx]
      refine ⟨fun h => by rw [hf] at h; (cases h), fun a h => ?_⟩
      obtain ⟨Γ1, e1, g⟩ := h2 x hf Γ h0
      rw [List.map_cons, forL, gOk_no, pure_bind, e1, r_lift, pure_bind]
      intro μ
      obtain ⟨Γ2, μ', e⟩ := g μ
      exact ⟨Γ2, μ', by rw [run_bind e]; rfl⟩
    | false =>
      have hf : (x :: xs).find? q = xs.find? q := by rw [List.find?_cons, hx]
      obtain ⟨Γ1, Γ2, e1, e2, e3⟩ := h1 x List.mem_cons_self hx Γ h0
      obtain ⟨k1, k2⟩ := forL_first (its := its) xs Γ2 e3 (fun a ha => h1 a (List.mem_cons_of_mem _ ha)) (fun a ha => h2 a (by rw [hf]; exact ha))
      rw [hf, List.map_cons, forL, gOk_no, pure_bind, e1, r_lift, pure_bind, e2, pure_bind]
      exact ⟨k1, k2⟩
theorem find_head' {α : Type} (p : α → Bool) : ∀ l : List α, l.find? p = (l.filter p).head?
  | [] => rfl
  | x :: l => by
    rw [List.find?_cons, List.filter_cons]
    cases p x
    · simpa using find_head' p l
    · rfl
/-- the first gap, as the program finds it -/
theorem ev_gap {p s : List Int} (hl : p.length = s.length) {k : Nat} (hk : firstGap p s = some k) (G : DL.Env) (h2 : G[2]? = some (some (dS s))) (h3 : G[3]? = some (some (dS p))) (hg : 7 < G.length) :
    eOp2 idxD (eComp [6, 7] (wEnum (eVar 3)) (.t (.cons (.v 6) (.cons (.v 7) .nil))) (some (tAnd (tVal (eOp2 neD (eVar 7) (eC (.int (-1))))) (tVal (eOp2 eqD (eOp2 idxD (eVar 2) (eVar 6)) (eC (.int (-1))))))) (eVar 6)) (eC (.int 0)) G = pure (.int (k : Int)) := by
  have hw : wEnum (eVar 3) G = pure (p.zipIdx.map fun q => D.tup [.int (q.2 : Nat), .int q.1], .no) := by
    simp only [r_wenum, r_var, h3, pure_bind]
    unfold dS
    rw [r_fxt, pure_bind, enum_dS]
  have hf : p.zipIdx.find? (fun q => q.1 != -1 && s[q.2]? == some (-1)) = ((p.zipIdx.filter fun q => q.1 != -1 && s[q.2]? == some (-1)).head?) := find_head' _ _
  unfold firstGap at hk
  rw [hf, Option.map_eq_some_iff] at hk
  obtain ⟨q0, hq0, rfl⟩ := hk
  rw [r_op2, r_comp, hw, pure_bind, compL_filt (p := fun q => q.1 != -1 && s[q.2]? == some (-1)) (h := fun q => D.int (q.2 : Nat))]
  · cases hl2 : (p.zipIdx.filter fun q => q.1 != -1 && s[q.2]? == some (-1)) with
    | nil => rw [hl2] at hq0; cases hq0
    | cons a l =>
      rw [hl2] at hq0
      have : a = q0 := by simpa using hq0
      subst this
      simp only [pure_bind, r_c, List.map_cons]
      exact idx_lst (k := 0) rfl
  · intro q hq
    have hq1 := List.mem_zipIdx_iff_getElem?.mp hq
    have hq2 := (List.getElem?_eq_some_iff.mp hq1).1
    have hs2 : q.2 < s.length := by omega
    have g6 : ((((G.set 7 none).set 6 none).set 6 (some (D.int (q.2 : Nat)))).set 7 (some (D.int q.1)))[6]? = some (some (.int (q.2 : Nat))) := by
      rw [List.getElem?_set_ne (by decide)]
      exact List.getElem?_set_self (by simp only [List.length_set]; omega)
    have g7 : ((((G.set 7 none).set 6 none).set 6 (some (D.int (q.2 : Nat)))).set 7 (some (D.int q.1)))[7]? = some (some (.int q.1)) := List.getElem?_set_self (by simp only [List.length_set]; exact hg)
    have g2 : ((((G.set 7 none).set 6 none).set 6 (some (D.int (q.2 : Nat)))).set 7 (some (D.int q.1)))[2]? = some (some (dS s)) := by
      rw [List.getElem?_set_ne (by decide), List.getElem?_set_ne (by decide), List.getElem?_set_ne (by decide), List.getElem?_set_ne (by decide)]
      exact h2
    have hx : idxD (dS s) (.int (q.2 : Nat)) = pure (.int s[q.2]) := idx_tup (by rw [List.getElem?_map, List.getElem?_eq_getElem hs2]; rfl)
    simp only [oneC, r_wipe1, r_wipe0, r_putt, r_put1, r_put0, r_putv, Option.bind_some, r_lift, pure_bind, r_tand, r_tval, r_op2, r_c, r_var, g6, g7, g2, hx, r_nei, r_eqi, r_toBl]
    rw [List.getElem?_eq_getElem hs2]
    by_cases h1 : q.1 = -1
    · simp [h1]
    · by_cases h4 : s[q.2] = -1
      · simp [h1, h4]
      · simp [h1, h4]
theorem gap_of {c s : List Int} (hl : c.length = s.length) (hf : fits c s = true) (hb : ¬ below c s = true) : ∃ k, firstGap c s = some k := by
  apply Classical.byContradiction
  intro hno
  apply hb
  rw [below_iff]
  intro i x y e1 e2
  rcases fits_iff.mp hf i x y e1 e2 with h | h | h
  · exact .inl h
  · by_cases hx : x = -1
    · exact .inl hx
    · exfalso
      apply hno
      cases hg : firstGap c s with
      | some k => exact ⟨k, rfl⟩
      | none =>
        unfold firstGap at hg
        rw [Option.map_eq_none_iff, List.find?_eq_none] at hg
        have := hg (x, i) (List.mem_zipIdx_iff_getElem?.mpr e1)
        simp [hx, e2, h] at this
  · exact .inr h.symm
end K40
/-! RA: sorted_out -/
namespace K40
open PySem DL
def ngap (s : List Int) : Nat := (s.filter fun x => x == -1).length
theorem ngap_pos {s : List Int} {k : Nat} (h : s[k]? = some (-1)) : 1 ≤ ngap s := by
  have : (-1 : Int) ∈ s.filter fun x => x == -1 := List.mem_filter.mpr ⟨List.mem_of_getElem? h, by simp⟩
  exact List.length_pos_of_mem this
theorem ngap_step {s : List Int} {k v : Nat} (h : s[k]? = some (-1)) : ngap (withv s k (v : Int)) + 1 = ngap s := by
  have hkl := (List.getElem?_eq_some_iff.mp h).1
  have hk : s[k] = -1 := by rw [List.getElem?_eq_getElem hkl] at h; exact Option.some.inj h
  have e : s = s.take k ++ s[k] :: s.drop (k + 1) := by rw [← List.drop_eq_getElem_cons hkl, List.take_append_drop]
  have hv : ¬ ((v : Int) = -1) := by omega
  have h1 : ngap s = ngap (s.take k ++ s[k] :: s.drop (k + 1)) := by rw [← e]
  rw [h1, hk]
  unfold ngap withv
  simp only [List.filter_append, List.length_append, List.filter_cons]
  simp [hv]
  omega
section
variable {sizes : List Int} {m : Int} {cl : Pts}
end
end K40
/-! RB: clause_tree, run, is_between, is_state -/
namespace K40
open PySem DL
theorem ngap_le (s : List Int) : ngap s ≤ s.length := List.length_filter_le _ _
theorem ev_between (x a b : Int) : py_is_between [.int x, .int a, .int b] = pure (.bl (decide (a ≤ x) && decide (x ≤ b))) := by
  by_cases h : a ≤ x <;> simp [py_is_between, py_is_whole, isInt, isBl, leD, eChain, h]
/-- a tuple of ints is a state of the sizes -/
def isSt (sizes : List Int) (s : List Int) : Bool := s.length == sizes.length && (s.zip sizes).all fun p => decide (-1 ≤ p.1) && decide (p.1 ≤ p.2 - 1)
theorem ev_isst {sizes s : List Int} (hl : s.length = sizes.length) : py_is_state [dS sizes, dS s] = pure (.bl (isSt sizes s)) := by
  have hb : (s.length == sizes.length) = true := by simpa using hl
  simp only [py_is_state, dS]
  simp [isTup, hl]
  rw [zip_dS, compL_map (h := fun p => D.bl (decide (-1 ≤ p.1) && decide (p.1 ≤ p.2 - 1)))]
  · simp [allD, toBls_map, isSt, hb]
  · intro p hp
    simp [oneC, ev_between]
end K40
/-! RC: is_clauses, is_tree -/
namespace K40
open PySem DL
/-- the answers of a tree lie in -1 .. m - 1 -/
def VA (m : Int) : Nat → Tr → Prop
  | _, .leaf a => -1 ≤ a ∧ a ≤ m - 1
  | 0, .node _ _ => False
  | n + 1, .node _ bs => ∀ b ∈ bs, VA m n b
end K40
/-! RD: is_named, check_turn at a tree -/
namespace K40
open PySem DL
/-- a dict as the program's functions tell it is equal to itself -/
theorem eq_dF (R : Pts) (h : flt 60 (dF R) = true) : eqD (dF R) (dF R) = pure (.bl (eqb (dF R) (dF R))) := by
  unfold eqD
  rw [h]
  rfl
theorem eqb_ints : ∀ l : List Int, eqbL (l.map D.int) (l.map D.int) = true
  | [] => by rw [List.map_nil, eqbL]
  | x :: l => by rw [List.map_cons, eqbL, eqb_ints l]; simp
theorem eqb_dPs : ∀ R : Pts, eqbL (R.map dP) (R.map dP) = true
  | [] => by rw [List.map_nil, eqbL]
  | p :: R => by
    rw [List.map_cons, eqbL, eqb_dPs R]
    simp [dP, dS, eqb, eqbL, eqb_ints]
theorem flt_ints (n : Nat) : ∀ l : List Int, fltL (n + 1) (l.map D.int) = true
  | [] => by rw [List.map_nil, fltL]
  | x :: l => by rw [List.map_cons, fltL, flt_ints n l]; rfl
theorem flt_dPs : ∀ R : Pts, fltL 59 (R.map dP) = true
  | [] => by rw [List.map_nil, fltL]
  | p :: R => by
    have h : flt 59 (dP p) = true := by
      have h1 : fltL 57 (p.1.map D.int) = true := flt_ints 56 p.1
      simp [dP, dS, flt, fltL, h1]
    rw [List.map_cons, fltL, flt_dPs R, h]
    rfl
theorem eq_dF' (R : Pts) : eqD (dF R) (dF R) = pure (.bl true) := by
  rw [eq_dF R (by show fltL 59 (R.map dP) = true; exact flt_dPs R)]
  have : eqb (dF R) (dF R) = true := by
    show eqb (.tup (R.map dP)) (.tup (R.map dP)) = true
    rw [eqb]
    exact eqb_dPs R
  rw [this]
end K40
/-! RE: _law_with, _law_leaves -/
namespace K40
open PySem DL
theorem ev_lwith (s : List Int) (k : Nat) (v : Int) (hl : s.length ≤ 1000) : py__law_with [dS s, .int k, .int v] = pure (dS (withv s k v)) := by
  simp only [py__law_with, dS]
  simp [eSlice, eBound, sliceD]
  rw [cut_to, cut_from1]
  simp
  rw [if_pos (le_lim (by omega)), pure_bind, r_cat, if_pos (le_lim (by simp; omega))]
  simp [withv]
theorem ev_lleaves : ∀ (n : Nat) (t : Tr) (s : List Int), dep t ≤ n → s.length + n ≤ 900 → (lv t s).length ≤ 1000 → py__law_leaves (n + 1) [dT t, dS s] = pure (.lst ((lv t s).map dP)) := by
  intro n
  induction n with
  | zero =>
    intro t s hd hs hl
    cases t with
    | leaf a =>
      rw [py__law_leaves]
      simp [dT, isTup_i, lv, dP]
    | node k bs => rw [dep] at hd; omega
  | succ n ih =>
    intro t s hd hs hl
    cases t with
    | leaf a =>
      rw [py__law_leaves]
      simp [dT, isTup_i, lv, dP]
    | node k bs =>
      rw [dep] at hd
      have h0 : idxD (dT (.node k bs)) (.int 0) = pure (.int (k : Int)) := by rw [dT]; exact idx_t0 _ _
      obtain ⟨Γ', e1, o3, o4, rfl⟩ := forL_pure (α := Tr × Nat) (its := bs.zipIdx.map fun q => D.tup [.int (q.2 : Nat), dT q.1]) (enc := fun q => D.tup [.int (q.2 : Nat), dT q.1]) (tg := .t (.cons (.v 3) (.cons (.v 4) .nil)))
        (body := sAsg (.v 2) (eOp2 addD (eVar 2) (eCall (py__law_leaves (n + 1)) [(eVar 4), (eCall (py__law_with) [(eVar 1), (eOp2 idxD (eVar 0) (eC (.int 0))), (eVar 3)])])))
        (fun d Γ => ∃ o3 o4, Γ = [some (dT (.node k bs)), some (dS s), some (.lst ((d.flatMap fun q => lv q.1 (withv s k (q.2 : Int))).map dP)), o3, o4]) bs.zipIdx []
        [some (dT (.node k bs)), some (dS s), some (.lst []), none, none] (by
          rintro d ⟨b, v⟩ rest Γ hd' ⟨o3, o4, rfl⟩
          have hz : bs.zipIdx = d ++ (b, v) :: rest := by simpa using hd'
          have hm : (b, v) ∈ bs.zipIdx := by rw [hz]; simp
          have hbv := List.mem_zipIdx_iff_getElem?.mp hm
          have hb : b ∈ bs := List.mem_of_getElem? hbv
          have hlen : (d.flatMap fun q => lv q.1 (withv s k (q.2 : Int))).length + (lv b (withv s k (v : Int))).length ≤ 1000 := by
            have e : lv (.node k bs) s = bs.zipIdx.flatMap fun q => lv q.1 (withv s k (q.2 : Int)) := by rw [lv, lvs_eq]
            rw [e, hz, List.flatMap_append, List.flatMap_cons, List.length_append, List.length_append] at hl
            dsimp only at hl
            omega
          have hw : (withv s k (v : Int)).length + n ≤ 900 := by
            unfold withv
            simp only [List.length_append, List.length_take, List.length_drop, List.length_cons, List.length_nil]
            omega
          have eb := ih b (withv s k (v : Int)) (Nat.le_trans (dep_le hb) (by omega)) hw (by omega)
          have hwv := ev_lwith s k (v : Int) (by omega)
          refine ⟨[some (dT (.node k bs)), some (dS s), some (.lst ((d.flatMap fun q => lv q.1 (withv s k (q.2 : Int))).map dP)), some (.int (v : Nat)), some (dT b)], [some (dT (.node k bs)), some (dS s), some (.lst (((d ++ [(b, v)]).flatMap fun q => lv q.1 (withv s k (q.2 : Int))).map dP)), some (.int (v : Nat)), some (dT b)], rfl, ?_, _, _, rfl⟩
          have he : eCall (py__law_leaves (n + 1)) [(eVar 4), (eCall (py__law_with) [(eVar 1), (eOp2 idxD (eVar 0) (eC (.int 0))), (eVar 3)])] [some (dT (.node k bs)), some (dS s), some (.lst ((d.flatMap fun q => lv q.1 (withv s k (q.2 : Int))).map dP)), some (.int (v : Nat)), some (dT b)] = pure (.lst ((lv b (withv s k (v : Int))).map dP)) := by
            simp only [r_call, r_list1, r_list0, r_var, r_op2, r_c, List.getElem?_cons_succ, List.getElem?_cons_zero, pure_bind, h0, hwv]
            exact eb
          rw [r_asg, r_op2, r_var, he]
          simp only [List.getElem?_cons_succ, List.getElem?_cons_zero, pure_bind, r_catl]
          rw [if_pos (le_lim (by rw [List.length_map, List.length_map]; omega)), pure_bind]
          rw [List.flatMap_append, List.map_append]
          simp [Tg.put]) ⟨_, _, rfl⟩
      rw [List.nil_append] at e1
      rw [py__law_leaves]
      simp only [r_fn]
      rw [if_pos (show [dT (.node k bs), dS s].length = 2 from rfl)]
      show (sSeq _ _ [some (dT (.node k bs)), some (dS s), none, none, none] >>= retK) = _
      have s0 : sIf (tNot (tVal (eOp1 isTup (eVar 0)))) (sRet (eLst [(eTup [(eVar 1), (eVar 0)])])) sNop [some (dT (.node k bs)), some (dS s), none, none, none] = pure ([some (dT (.node k bs)), some (dS s), none, none, none], .next) := by
        simp [dT, isTup_t]
      have s1 : sAsg (.v 2) (eLst []) [some (dT (.node k bs)), some (dS s), none, none, none] = pure ([some (dT (.node k bs)), some (dS s), some (.lst []), none, none], .next) := by
        simp [Tg.put]
      have hw : wEnum (eOp2 idxD (eVar 0) (eC (.int 1))) [some (dT (.node k bs)), some (dS s), some (.lst []), none, none] = pure (bs.zipIdx.map fun q => D.tup [.int (q.2 : Nat), dT q.1], .no) := by
        have h1 : idxD (dT (.node k bs)) (.int 1) = pure (.tup (bs.map dT)) := by rw [dT, dTs_eq]; exact idx_t1 _ _ _
        simp only [r_wenum, r_op2, r_var, r_c, List.getElem?_cons_zero, pure_bind, h1, r_fxt, enum_map]
      rw [r_seq, s0, pure_bind, r_seqn, r_seq, s1, pure_bind, r_seqn, r_seq, r_for, hw, pure_bind, e1, pure_bind, r_seqn]
      have e : lv (.node k bs) s = bs.zipIdx.flatMap fun q => lv q.1 (withv s k (q.2 : Int)) := by rw [lv, lvs_eq]
      rw [e]
      simp [retK]
end K40
/-! PE: the pool, the kind, the clauses of the law -/
namespace K40
open PySem DL
/-- drawing alone -/
def Step (μ μ' : Store) : Prop := Pool μ' ∧ Ot 1 μ μ' ∧ μ'.length = μ.length
theorem Step.trans {a b c : Store} (h : Step a b) (k : Step b c) : Step a c := ⟨k.1, h.2.1.trans k.2.1, by rw [k.2.2, h.2.2]⟩
theorem compL_draw {α β : Type} {its : List D} {enc : α → D} {dec : β → D} {f : D → M (Option D)} {P : α → β → Prop} : ∀ {xs : List α} {μ : Store}, Pool μ → (∀ a ∈ xs, ∀ μ, Pool μ → ∃ b μ1, f (enc a) μ = some (some (dec b), μ1) ∧ P a b ∧ Step μ μ1) →
    ∃ (bs : List β) (μ' : Store), compL .no its f (xs.map enc) μ = some (bs.map dec, μ') ∧ bs.length = xs.length ∧ (∀ (i : Nat) (a : α) (b : β), xs[i]? = some a → bs[i]? = some b → P a b) ∧ Step μ μ'
  | [], μ, hP, _ => ⟨[], μ, rfl, rfl, fun i a b h => by simp at h, hP, Ot.refl 1 μ, rfl⟩
  | x :: xs, μ, hP, h => by
    obtain ⟨b, μ1, e1, p1, s1⟩ := h x List.mem_cons_self μ hP
    obtain ⟨bs, μ2, e2, l2, p2, s2⟩ := compL_draw (its := its) (f := f) (P := P) (dec := dec) (xs := xs) s1.1 fun a ha => h a (List.mem_cons_of_mem _ ha)
    refine ⟨b :: bs, μ2, ?_, by rw [List.length_cons, List.length_cons, l2], fun i a c h1 h2 => ?_, s1.trans s2⟩
    · rw [List.map_cons, compL, gOk_no, pure_bind, run_bind e1, run_bind e2]
      rfl
    · cases i with
      | zero =>
        have h1 : x = a := by simpa using h1
        have h2 : b = c := by simpa using h2
        rw [← h1, ← h2]; exact p1
      | succ i => exact p2 i a c (by simpa using h1) (by simpa using h2)
theorem ev_state {μ : Store} (hP : Pool μ) {sizes : List Int} (ok : SzOk sizes) : ∃ s μ', py__law_state [.h 1, dS sizes] μ = some (dS s, μ') ∧ s ∈ rows (-1) sizes ∧ Step μ μ' := by
  obtain ⟨bs, μ1, e1, l1, p1, s1⟩ := compL_draw (α := Int) (β := Int) (its := sizes.map D.int) (enc := D.int) (dec := D.int) (P := fun n x => -1 ≤ x ∧ x < n) (xs := sizes) (μ := μ)
    (f := oneC [2] (.v 2) none (eIf (tVal (eOp2 eqD (eCall (py__law_draw) [(eVar 0), (eC (.int 2))]) (eC (.int 0)))) (eCall (py__law_draw) [(eVar 0), (eVar 2)]) (eC (.int (-1)))) [some (.h 1), some (dS sizes), none]) hP (by
    intro n hn μ hP
    have hn3 := ok.2 n hn
    obtain ⟨r, μ1, e1, d1, d2, d3, d4, d5⟩ := ev_draw hP (many := 2) (by decide) (by decide)
    by_cases hr : r = 0
    · obtain ⟨x, μ2, e2, f1, f2, f3, f4, f5⟩ := ev_draw d3 (many := n) (by omega) (by omega)
      refine ⟨x, μ2, ?_, ⟨by omega, f2⟩, f3, d4.trans f4, by rw [f5, d5]⟩
      simp [oneC, bind_def, map_def, pure_def, e1, hr, e2]
    · refine ⟨-1, μ1, ?_, ⟨by omega, by omega⟩, d3, d4, d5⟩
      simp [oneC, bind_def, map_def, pure_def, e1, hr])
  refine ⟨bs, μ1, ?_, (mem_rows sizes bs).mpr ⟨l1, fun i n x h1 h2 => p1 i n x h1 h2⟩, s1⟩
  simp only [py__law_state, r_fn]
  rw [if_pos (show [D.h 1, dS sizes].length = 2 from rfl)]
  show (sRet _ [some (.h 1), some (dS sizes), none] >>= retK) μ = _
  rw [r_ret, bind_assoc, r_op1, r_comp]
  have hw : wSeq (eVar 1) [some (.h 1), some (dS sizes), none] = pure (sizes.map D.int, .no) := by simp [dS]
  rw [hw, pure_bind]
  simp only [bind_assoc]
  rw [run_bind e1]
  simp [tupleD, dS, pure_def, bind_def]
theorem ev_pool (ns : List Int) : ∃ s, py__law_pool [.h 0] [.scr ns] = some (.h 1, [.scr ns, PoolMO ns 0 0 0 s]) := by
  obtain ⟨Γ', e1, x, o, rfl⟩ := forL_pure (α := Int) (its := (ns.take 63).map D.int) (enc := D.int) (tg := .v 2) (body := sAsg (.v 1) (eOp2 modD (eOp1 intD (eOp2 addD (eOp2 mulD (eVar 1) (eC (.int 31))) (eVar 2))) (eC (.int 1000003))))
    (fun _ Γ => ∃ x o, Γ = [some (.h 0), some (.int x), o]) (ns.take 63) [] [some (.h 0), some (.int 7), none] (by
      rintro d k rest Γ hd ⟨x, o, rfl⟩
      refine ⟨[some (.h 0), some (.int x), some (.int k)], [some (.h 0), some (.int ((x * 31 + k) % 1000003)), some (.int k)], rfl, ?_, _, _, rfl⟩
      simp [mul_r (j := 31) (by decide), mod_p (j := 1000003) (by decide), int_i]) ⟨_, _, rfl⟩
  refine ⟨x, ?_⟩
  have hs : wSeq (eSlice (eVar 0) none (some (eC (.int 63)))) [some (.h 0), some (.int 7), none] [.scr ns] = some (((ns.take 63).map D.int, .no), [.scr ns]) := by
    have hc : cut (ns.map D.int) none (some (63 : Int)) = (ns.take 63).map D.int := cut_to D.int ns 63
    simp [eSlice, eBound, sliceD, bind_def, map_def, pure_def, getH, hc]
  simp only [py__law_pool, r_fn]
  rw [if_pos (show [D.h 0].length = 1 from rfl)]
  show (sSeq _ _ [some (.h 0), none, none] >>= retK) [.scr ns] = _
  have s1 : sAsg (.v 1) (eC (.int 7)) [some (.h 0), none, none] = pure ([some (.h 0), some (.int 7), none], .next) := rfl
  rw [r_seq, s1, pure_bind, r_seqn, r_seq, bind_assoc, r_for, bind_assoc, run_bind hs]
  dsimp only
  rw [e1, pure_bind, r_seqn]
  simp [eNewL, listD, itemsD, getH, newH, bind_def, map_def, pure_def, PoolMO]
abbrev kBody : S := (sSeq (sAsg (.v 5) (eOp2 addD (eC (.int 1)) (eCall (py__law_draw) [(eVar 0), (eC (.int 3))])))
    (sIf (tVal (eOp2 leD (eOp2 mulD (eVar 3) (eOp2 addD (eVar 5) (eC (.int 1)))) (eVar 1)))
    (sSeq (sExpr (eAppend (eVar 2) (eVar 5)))
    (sAsg (.v 3) (eOp2 mulD (eVar 3) (eOp2 addD (eVar 5) (eC (.int 1))))))
    sNop))
theorem small_i {i : Int} (h : 0 ≤ i) (h2 : i ≤ 10) : smallI i = true := by
  unfold smallI
  rw [decide_eq_true_eq]
  omega
def KRel (n : Nat) (d : List Int) (Γ : DL.Env) (μ : Store) : Prop := Pool μ ∧ ∃ (sz : List Int) (st : Int) (o4 o5 : Option D), μ[n]? = some (.lst (sz.map D.int)) ∧ Γ = [some (.h 1), some (.int 100), some (.h n), some (.int st), o4, o5] ∧ sz.length ≤ d.length ∧ (∀ x ∈ sz, 1 ≤ x ∧ x ≤ 3) ∧ st = (sz.map (· + 1)).prod ∧ st ≤ 100
theorem ev_kbody {n : Nat} (hn : n ≠ 1) {d : List Int} (hd : d.length ≤ 3) {k : Int} {Γ : DL.Env} {μ : Store} (h : KRel n d Γ μ) : ∃ Γ2 μ2, kBody (Γ.set 4 (some (.int k))) μ = some ((Γ2, .next), μ2) ∧ KRel n (d ++ [k]) Γ2 μ2 := by
  obtain ⟨hP, sz, st, o4, o5, hz, rfl, hl, hb, hst, hs100⟩ := h
  obtain ⟨r, μ1, e1, d1, d2, d3, d4, d5⟩ := ev_draw hP (many := 3) (by decide) (by decide)
  have hz1 : μ1[n]? = some (.lst (sz.map D.int)) := by
    rw [d4.2 n hn (List.getElem?_eq_some_iff.mp hz).1]; exact hz
  have a1 : sAsg (.v 5) (eOp2 addD (eC (.int 1)) (eCall (py__law_draw) [(eVar 0), (eC (.int 3))])) [some (.h 1), some (.int 100), some (.h n), some (.int st), some (.int k), o5] μ = some (([some (.h 1), some (.int 100), some (.h n), some (.int st), some (.int k), some (.int (1 + r))], .next), μ1) := by
    simp [bind_def, map_def, pure_def, e1]
  have hsm := mul_r (i := st) (small_i (i := 1 + r + 1) (by omega) (by omega))
  show ∃ Γ2 μ2, kBody [some (.h 1), some (.int 100), some (.h n), some (.int st), some (.int k), o5] μ = some ((Γ2, .next), μ2) ∧ KRel n (d ++ [k]) Γ2 μ2
  unfold kBody
  rw [r_seq, run_bind a1, r_seqn, r_sif]
  by_cases hc : st * (1 + r + 1) ≤ 100
  · have ap := append_at (a := eVar 2) (e := eVar 5) (Γ := [some (.h 1), some (.int 100), some (.h n), some (.int st), some (.int k), some (.int (1 + r))]) (n := n) (d := .int (1 + r)) (ds := sz.map D.int) (μ := μ1) (μ1 := μ1) rfl hz1 rfl hz1 (by rw [List.length_map]; unfold lim; omega)
    refine ⟨[some (.h 1), some (.int 100), some (.h n), some (.int (st * (1 + r + 1))), some (.int k), some (.int (1 + r))], μ1.set n (.lst (sz.map D.int ++ [.int (1 + r)])), ?_, ?_, sz ++ [1 + r], _, _, _, ?_, rfl, ?_, ?_, by rw [hst]; simp [List.prod_append], hc⟩
    · have test : tVal (eOp2 leD (eOp2 mulD (eVar 3) (eOp2 addD (eVar 5) (eC (.int 1)))) (eVar 1)) [some (.h 1), some (.int 100), some (.h n), some (.int st), some (.int k), some (.int (1 + r))] = pure true := by
        simp [hsm, hc]
      rw [test, pure_bind, if_pos rfl, r_seq, r_expr, bind_assoc, run_bind ap]
      simp [hsm, pure_def]
    · obtain ⟨c, p, v, q, s, h1, h2⟩ := d3
      exact ⟨c, p, v, q, s, by rw [List.getElem?_set_ne hn]; exact h1, h2⟩
    · rw [List.map_append]
      exact List.getElem?_set_self (List.getElem?_eq_some_iff.mp hz1).1
    · simp; exact hl
    · intro x hx
      rcases List.mem_append.mp hx with hx | hx
      · exact hb x hx
      · rw [List.mem_singleton.mp hx]; omega
  · refine ⟨[some (.h 1), some (.int 100), some (.h n), some (.int st), some (.int k), some (.int (1 + r))], μ1, ?_, d3, sz, st, _, _, hz1, rfl, by simp; omega, hb, hst, hs100⟩
    have test : tVal (eOp2 leD (eOp2 mulD (eVar 3) (eOp2 addD (eVar 5) (eC (.int 1)))) (eVar 1)) [some (.h 1), some (.int 100), some (.h n), some (.int st), some (.int k), some (.int (1 + r))] = pure false := by
      simp [hsm, hc]
    rw [test, pure_bind, if_neg Bool.false_ne_true]
    rfl
theorem ev_kind {μ : Store} (hP : Pool μ) : ∃ sizes m μ', py__law_kind [.h 1, .int 100] μ = some (dKd sizes m, μ') ∧ SzOk sizes ∧ (1 ≤ m ∧ m ≤ 3) ∧ Pool μ' ∧ (sizes.map (· + 1)).prod ≤ 100 := by
  have hlen : 1 < μ.length := by
    obtain ⟨c, p, v, q, s, h1, h2⟩ := hP
    exact (List.getElem?_eq_some_iff.mp h1).1
  have hP1 : Pool (μ ++ [.lst []]) := by
    obtain ⟨c, p, v, q, s, h1, h2⟩ := hP
    exact ⟨c, p, v, q, s, get_app h1, h2⟩
  obtain ⟨r, μ1, e1, d1, d2, d3, d4, d5⟩ := ev_draw hP1 (many := 5) (by decide) (by decide)
  have hz : μ1[μ.length]? = some (.lst (([] : List Int).map D.int)) := by
    rw [d4.2 μ.length (by omega) (by simp)]; simp
  obtain ⟨Γ', μ2, e2, d6, sz, st, o4, o5, hz2, rfl, hl, hb, hst, hs100⟩ := forL_wp (α := Int) (its := (rg 0 r).map D.int) (enc := D.int) (tg := .v 4) (g := .no) (body := kBody) (KRel μ.length) (fun _ _ _ _ => rfl) (rg 0 r) []
    [some (.h 1), some (.int 100), some (.h μ.length), some (.int 1), none, none] μ1 (by
      intro d k rest Γ μ' hd hR
      have hdl : d.length ≤ 3 := by
        have := congrArg List.length hd
        simp [rg_len] at this
        omega
      obtain ⟨Γ2, μ2, e, k2⟩ := ev_kbody (n := μ.length) (by omega) hdl (k := k) hR
      exact ⟨_, Γ2, μ2, rfl, e, k2⟩) ⟨d3, [], 1, none, none, hz, rfl, Nat.le_refl _, fun x hx => by simp at hx, rfl, by decide⟩
  obtain ⟨x, μ3, e3, f1, f2, f3, f4, f5⟩ := ev_draw d6 (many := 3) (by decide) (by decide)
  have hszl : sz.length ≤ 4 := by
    simp [rg_len] at hl
    omega
  refine ⟨sz, 1 + x, μ3, ?_, ⟨hszl, hb⟩, ⟨by omega, by omega⟩, f3, by omega⟩
  simp only [py__law_kind, r_fn]
  rw [if_pos (show [D.h 1, D.int 100].length = 2 from rfl)]
  show (sSeq _ _ [some (.h 1), some (.int 100), none, none, none, none] >>= retK) μ = _
  have s1 : sAsg (.v 2) (eNewL []) [some (.h 1), some (.int 100), none, none, none, none] μ = some (([some (.h 1), some (.int 100), some (.h μ.length), none, none, none], .next), μ ++ [.lst []]) := by
    simp [eNewL, newH, bind_def, map_def, pure_def]
  have s2 : sAsg (.v 3) (eC (.int 1)) [some (.h 1), some (.int 100), some (.h μ.length), none, none, none] = pure ([some (.h 1), some (.int 100), some (.h μ.length), some (.int 1), none, none], .next) := rfl
  have hw : wRange1 (eCall (py__law_draw) [(eVar 0), (eC (.int 5))]) [some (.h 1), some (.int 100), some (.h μ.length), some (.int 1), none, none] (μ ++ [.lst []]) = some (((rg 0 r).map D.int, .no), μ1) := by
    simp [bind_def, map_def, pure_def, e1]
    rw [if_pos (by omega), rangeL_eq]
    rfl
  rw [r_seq, bind_assoc, run_bind s1, r_seqn, r_seq, s2, pure_bind, r_seqn, r_seq, bind_assoc, r_for, bind_assoc, run_bind hw]
  dsimp only
  rw [run_bind e2, r_seqn]
  simp [bind_def, map_def, pure_def, tupleD, itemsD, getH, hz2, e3, dKd, dS]
end K40
/-! RG: _law_pick, _law_tree -/
namespace K40
open PySem DL
abbrev dL (left : List Nat) : D := .lst (left.map fun (k : Nat) => D.int (k : Int))
theorem ev_pick {μ : Store} (hP : Pool μ) {left : List Nat} (h : left ≠ []) (hl : left.length ≤ 1000) : ∃ k μ', py__law_pick [.h 1, dL left] μ = some (.int (k : Nat), μ') ∧ k ∈ left ∧ Step μ μ' := by
  have h0 : 0 < left.length := List.length_pos_iff.mpr h
  obtain ⟨r, μ1, e1, d1, d2, d3, d4, d5⟩ := ev_draw hP (many := (left.length : Int)) (by omega) (by omega)
  obtain ⟨i, rfl⟩ : ∃ i : Nat, r = (i : Int) := ⟨r.toNat, by omega⟩
  have hi : i < left.length := by omega
  refine ⟨left[i], μ1, ?_, List.getElem_mem hi, d3, d4, d5⟩
  have hx : idxD (dL left) (.int (i : Int)) = pure (.int (left[i] : Nat)) := idx_lst (by rw [List.getElem?_map, List.getElem?_eq_getElem hi]; rfl)
  simp only [py__law_pick, r_fn]
  rw [if_pos (show [D.h 1, dL left].length = 2 from rfl)]
  show (sRet _ [some (.h 1), some (dL left)] >>= retK) μ = _
  have hc : eCall (py__law_draw) [(eVar 0), (eOp1 lenD (eVar 1))] [some (.h 1), some (dL left)] μ = some (.int (i : Int), μ1) := by
    simp [bind_def, map_def, pure_def, e1]
  rw [r_ret, r_op2, r_var]
  simp only [List.getElem?_cons_succ, List.getElem?_cons_zero, pure_bind, bind_assoc]
  rw [run_bind hc, hx]
  rfl
theorem ev_ltree {sizes : List Int} {m : Int} (ok : SzOk sizes) (hm : 1 ≤ m ∧ m ≤ 3) : ∀ (n : Nat) (left : List Nat) (μ : Store), Pool μ → left.length ≤ n → n ≤ 11 → (∀ k ∈ left, k < sizes.length) →
    ∃ t μ', py__law_tree (n + 1) [.h 1, dKd sizes m, dL left] μ = some (dT t, μ') ∧ (VT sizes n left t ∧ VA m n t ∧ dep t ≤ n) ∧ Step μ μ' := by
  intro n
  induction n with
  | zero =>
    intro left μ hP hl _ _
    have hle : left = [] := List.length_eq_zero_iff.mp (by omega)
    subst hle
    obtain ⟨r, μ1, e1, d1, d2, d3, d4, d5⟩ := ev_draw hP (many := m + 1) (by omega) (by omega)
    have h1 : idxD (dKd sizes m) (.int 1) = pure (.int m) := idx_t1 _ _ _
    refine ⟨.leaf (r - 1), μ1, ?_, ⟨trivial, ⟨by omega, by omega⟩, by simp [dep]⟩, d3, d4, d5⟩
    rw [py__law_tree]
    simp only [r_fn]
    simp [dL, bind_def, map_def, pure_def, h1, e1, dT, retK]
  | succ n ih =>
    intro left μ hP hl hn hlt
    have h0 : idxD (dKd sizes m) (.int 0) = pure (dS sizes) := idx_t0 _ _
    have h1 : idxD (dKd sizes m) (.int 1) = pure (.int m) := idx_t1 _ _ _
    by_cases hle : left = []
    · subst hle
      obtain ⟨r, μ1, e1, d1, d2, d3, d4, d5⟩ := ev_draw hP (many := m + 1) (by omega) (by omega)
      refine ⟨.leaf (r - 1), μ1, ?_, ⟨trivial, ⟨by omega, by omega⟩, by simp [dep]⟩, d3, d4, d5⟩
      rw [py__law_tree]
      simp only [r_fn]
      simp [dL, bind_def, map_def, pure_def, h1, e1, dT, retK]
    · obtain ⟨r4, μ1, e1, d1, d2, d3, d4, d5⟩ := ev_draw hP (many := 4) (by omega) (by omega)
      have hlen : ¬ left.length = 0 := fun h => hle (List.length_eq_zero_iff.mp h)
      by_cases hr : r4 = 0
      · obtain ⟨r, μ2, e2, f1, f2, f3, f4, f5⟩ := ev_draw d3 (many := m + 1) (by omega) (by omega)
        refine ⟨.leaf (r - 1), μ2, ?_, ⟨trivial, ⟨by omega, by omega⟩, by simp [dep]⟩, f3, d4.trans f4, by rw [f5, d5]⟩
        rw [py__law_tree]
        simp only [r_fn]
        simp [dL, bind_def, map_def, pure_def, h1, e1, e2, hr, dT, retK, hle]
      · obtain ⟨k, μ2, e2, hk, s2⟩ := ev_pick d3 hle (by omega)
        have hkz := hlt k hk
        have hz := ok.2 _ (List.getElem_mem hkz)
        obtain ⟨z, hzz⟩ : ∃ z : Nat, sizes[k] = (z : Int) := ⟨sizes[k].toNat, by omega⟩
        have hmem : ∀ j ∈ left.filter (fun j => j != k), j < sizes.length := fun j hj => hlt j (List.mem_filter.mp hj).1
        have hfl : (left.filter fun j => j != k).length ≤ n := by
          have : (left.filter fun j => j != k).length < left.length := by
            refine Nat.lt_of_le_of_ne (List.length_filter_le _ _) fun e => ?_
            have := List.length_filter_eq_length_iff.mp e k hk
            simp at this
          omega
        obtain ⟨bs, μ3, e3, l3, p3, s3⟩ := compL_draw (α := Nat) (β := Tr) (its := (List.range z).map fun (v : Nat) => D.int (v : Int)) (enc := fun (v : Nat) => D.int (v : Int)) (dec := dT) (P := fun _ b => VT sizes n (left.filter fun j => j != k) b ∧ VA m n b ∧ dep b ≤ n) (xs := List.range z) (μ := μ2)
          (f := oneC [6] (.v 6) none (eCall (py__law_tree (n + 1)) [(eVar 0), (eVar 1), (eVar 4)]) [some (.h 1), some (dKd sizes m), some (dL left), some (.int (k : Nat)), some (dL (left.filter fun j => j != k)), none, none]) s2.1 (by
          intro v _ μ hP
          obtain ⟨t, μ', et, ht, hs⟩ := ih (left.filter fun j => j != k) μ hP hfl (by omega) hmem
          refine ⟨t, μ', ?_, ht, hs⟩
          simp [oneC, bind_def, map_def, pure_def, et])
        have hbl : bs.length = z := by rw [l3, List.length_range]
        have hall : ∀ b ∈ bs, VT sizes n (left.filter fun j => j != k) b ∧ VA m n b ∧ dep b ≤ n := by
          intro b hb
          obtain ⟨i, hi, rfl⟩ := List.mem_iff_getElem.mp hb
          exact p3 i i _ (by rw [List.getElem?_range (by omega)]) (List.getElem?_eq_getElem hi)
        have hdep : ∀ l : List Tr, (∀ b ∈ l, dep b ≤ n) → deps l ≤ n := by
          intro l
          induction l with
          | nil => intro _; simp [deps]
          | cons b l ihl => intro h; rw [deps]; exact Nat.max_le.mpr ⟨h b List.mem_cons_self, ihl fun c hc => h c (List.mem_cons_of_mem _ hc)⟩
        refine ⟨.node k bs, μ3, ?_, ⟨⟨hk, by rw [List.getElem?_eq_getElem hkz, hzz, hbl], fun b hb => (hall b hb).1⟩, fun b hb => (hall b hb).2.1, by rw [dep]; have := hdep bs fun b hb => (hall b hb).2.2; omega⟩, ⟨d3, d4, d5⟩ |> fun (a : Step μ μ1) => a.trans (s2.trans s3)⟩
        have t1 : tOr (tVal (eOp2 eqD (eOp1 lenD (eVar 2)) (eC (.int 0)))) (tVal (eOp2 eqD (eCall (py__law_draw) [(eVar 0), (eC (.int 4))]) (eC (.int 0)))) [some (.h 1), some (dKd sizes m), some (dL left), none, none, none, none] μ = some (false, μ1) := by
          simp [dL, bind_def, map_def, pure_def, e1, hr, hle]
        have a3 : sAsg (.v 3) (eCall (py__law_pick) [(eVar 0), (eVar 2)]) [some (.h 1), some (dKd sizes m), some (dL left), none, none, none, none] μ1 = some (([some (.h 1), some (dKd sizes m), some (dL left), some (.int (k : Nat)), none, none, none], .next), μ2) := by
          simp [bind_def, map_def, pure_def, e2]
        have a4 : sAsg (.v 4) (eComp [5] (wSeq (eVar 2)) (.v 5) (some (tVal (eOp2 neD (eVar 5) (eVar 3)))) (eVar 5)) [some (.h 1), some (dKd sizes m), some (dL left), some (.int (k : Nat)), none, none, none] = pure ([some (.h 1), some (dKd sizes m), some (dL left), some (.int (k : Nat)), some (dL (left.filter fun j => j != k)), none, none], .next) := by
          rw [r_asg, r_comp]
          have hw : wSeq (eVar 2) [some (.h 1), some (dKd sizes m), some (dL left), some (.int (k : Nat)), none, none, none] = pure (left.map fun (k : Nat) => D.int (k : Int), .no) := rfl
          rw [hw, pure_bind]
          rw [compL_filt (p := fun j => j != k) (h := fun (j : Nat) => D.int (j : Int))]
          · rfl
          · intro j _
            by_cases hj : j = k
            · simp [oneC, hj]
            · have : ¬ ((j : Int) = (k : Int)) := by omega
              simp [oneC, hj, this]
        have h2 : idxD (dS sizes) (.int (k : Int)) = pure (.int (z : Int)) := idx_tup (by rw [List.getElem?_map, List.getElem?_eq_getElem hkz, hzz]; rfl)
        have hw6 : wRange1 (eOp2 idxD (eOp2 idxD (eVar 1) (eC (.int 0))) (eVar 3)) [some (.h 1), some (dKd sizes m), some (dL left), some (.int (k : Nat)), some (dL (left.filter fun j => j != k)), none, none] = pure ((List.range z).map fun (v : Nat) => D.int (v : Int), .no) := by
          simp only [r_wrange1, r_op2, r_var, r_c, List.getElem?_cons_zero, List.getElem?_cons_succ, pure_bind, h0, h2, r_toI]
          rw [if_pos (by omega), rangeN]
        rw [py__law_tree]
        simp only [r_fn]
        rw [if_pos (show [D.h 1, dKd sizes m, dL left].length = 3 from rfl)]
        show (sSeq _ _ [some (.h 1), some (dKd sizes m), some (dL left), none, none, none, none] >>= retK) μ = _
        rw [r_seq, r_sif, bind_assoc, bind_assoc, run_bind t1, if_neg (by decide)]
        show (sSeq _ _ [some (.h 1), some (dKd sizes m), some (dL left), none, none, none, none] >>= retK) μ1 = _
        rw [r_seq, bind_assoc, run_bind a3, r_seqn, r_seq, a4, pure_bind, r_seqn]
        have c6 : eTup [(eVar 3), (eOp1 tupleD (eComp [6] (wRange1 (eOp2 idxD (eOp2 idxD (eVar 1) (eC (.int 0))) (eVar 3))) (.v 6) none (eCall (py__law_tree (n + 1)) [(eVar 0), (eVar 1), (eVar 4)])))] [some (.h 1), some (dKd sizes m), some (dL left), some (.int (k : Nat)), some (dL (left.filter fun j => j != k)), none, none] μ2 = some (dT (.node k bs), μ3) := by
          rw [r_tup, r_list1, r_list1, r_op1, r_comp, hw6]
          simp only [r_var, List.getElem?_cons_zero, List.getElem?_cons_succ, pure_bind, bind_assoc]
          rw [run_bind e3, dT, dTs_eq]
          simp [tupleD, itemsD, pure_def, bind_def, lim]
        rw [r_ret, bind_assoc, run_bind c6]
        rfl
end K40
/-! RK: over each state lies a whole one -/
namespace K40
open PySem DL
theorem whole_over {sizes : List Int} (ok : SzOk sizes) {p : List Int} (hp : p ∈ rows (-1) sizes) : ∃ s ∈ rows 0 sizes, below p s = true ∧ s.length = sizes.length := by
  obtain ⟨h1, h2⟩ := (mem_rows sizes p).mp hp
  refine ⟨p.map fun x => if x = -1 then 0 else x, (mem_rows sizes _).mpr ⟨by rw [List.length_map]; exact h1, fun i n x e1 e2 => ?_⟩, below_iff.mpr fun i x y e1 e2 => ?_, by rw [List.length_map]; exact h1⟩
  · rw [List.getElem?_map, Option.map_eq_some_iff] at e2
    obtain ⟨y, ey, rfl⟩ := e2
    have := h2 i n y e1 ey
    have hn := ok.2 n (List.mem_of_getElem? e1)
    split <;> omega
  · rw [List.getElem?_map, e1, Option.map_some] at e2
    have e := Option.some.inj e2
    by_cases h : x = -1
    · exact .inl h
    · rw [if_neg h] at e
      exact .inr e.symm
end K40
/-! RO: few whole states -/
namespace K40
open PySem DL
theorem m3 {x : Int} (h : 1 ≤ x ∧ x ≤ 3) : x ∈ ([1, 2, 3] : List Int) := by
  have h : x = 1 ∨ x = 2 ∨ x = 3 := by omega
  rcases h with h | h | h <;> simp [h]
theorem few1 : ∀ a ∈ ([1, 2, 3] : List Int), (rows 0 [a]).length ≤ 63 := by decide
theorem few2 : ∀ a ∈ ([1, 2, 3] : List Int), ∀ b ∈ ([1, 2, 3] : List Int), (rows 0 [a, b]).length ≤ 63 := by decide
theorem few3 : ∀ a ∈ ([1, 2, 3] : List Int), ∀ b ∈ ([1, 2, 3] : List Int), ∀ c ∈ ([1, 2, 3] : List Int), (rows 0 [a, b, c]).length ≤ 63 := by decide
theorem few4 : ∀ a ∈ ([1, 2, 3] : List Int), ∀ b ∈ ([1, 2, 3] : List Int), ∀ c ∈ ([1, 2, 3] : List Int), ∀ d ∈ ([1, 2, 3] : List Int), ([a, b, c, d].map (· + 1)).prod ≤ 100 → (rows 0 [a, b, c, d]).length ≤ 63 := by decide
theorem whole_few {sizes : List Int} (ok : SzOk sizes) (h : (sizes.map (· + 1)).prod ≤ 100) : (rows 0 sizes).length ≤ 63 := by
  obtain ⟨h4, h3⟩ := ok
  match sizes, h4, h3, h with
  | [], _, _, _ => decide
  | [a], _, h3, _ => exact few1 a (m3 (h3 a (by simp)))
  | [a, b], _, h3, _ => exact few2 a (m3 (h3 a (by simp))) b (m3 (h3 b (by simp)))
  | [a, b, c], _, h3, _ => exact few3 a (m3 (h3 a (by simp))) b (m3 (h3 b (by simp))) c (m3 (h3 c (by simp)))
  | [a, b, c, d], _, h3, h => exact few4 a (m3 (h3 a (by simp))) b (m3 (h3 b (by simp))) c (m3 (h3 c (by simp))) d (m3 (h3 d (by simp))) h
  | _ :: _ :: _ :: _ :: _ :: _, h4, _, _ => simp at h4
end K40
/-! RP: gluing what only adds to the store -/
namespace K40
open PySem DL
section
variable {G : DL.Env} {a b : E} {t u : T} {es : List E} {x y : D} {xs : List D} {k : Bool}
theorem g_var {i : Nat} (h : G[i]? = some (some x)) : Grow (eVar i G) x := Grow.of (by rw [r_var, h])
theorem g_c : Grow (eC x G) x := .pure x
theorem g_tnot (h : Grow (t G) k) : Grow (tNot t G) (!k) := Grow.bind h (.pure _)
theorem g_tval (h : Grow (a G) (.bl k)) : Grow (tVal a G) k := Grow.bind h (.pure _)
theorem g_l0 : Grow (eList [] G) [] := .pure _
theorem g_l1 (h : Grow (a G) x) (h2 : Grow (eList es G) xs) : Grow (eList (a :: es) G) (x :: xs) := Grow.bind h (Grow.bind h2 (.pure _))
theorem g_lst (h : Grow (eList es G) xs) (hl : xs.length ≤ lim) : Grow (eLst es G) (.lst xs) := by
  rw [r_lst]
  refine Grow.bind h ?_
  rw [if_pos hl]
  exact .pure _
theorem g_tup (h : Grow (eList es G) xs) (hl : xs.length ≤ lim) : Grow (eTup es G) (.tup xs) := by
  rw [r_tup]
  refine Grow.bind h ?_
  rw [if_pos hl]
  exact .pure _
theorem g_call {f : List D → M D} (h : Grow (eList es G) xs) (h2 : Grow (f xs) y) : Grow (eCall f es G) y := Grow.bind h h2
theorem g_op1 {o : D → M D} (h : Grow (a G) x) (h2 : Grow (o x) y) : Grow (eOp1 o a G) y := Grow.bind h h2
theorem g_op2 {o : D → D → M D} {z : D} (h : Grow (a G) x) (h2 : Grow (b G) y) (h3 : Grow (o x y) z) : Grow (eOp2 o a b G) z := Grow.bind h (Grow.bind h2 h3)
theorem g_tor (h : Grow (t G) false) (h2 : Grow (u G) k) : Grow (tOr t u G) k := Grow.bind h h2
theorem g_if0 {f g : S} {r : DL.Env × DL.Flow} (h : Grow (t G) false) (h2 : Grow (g G) r) : Grow (sIf t f g G) r := Grow.bind h h2
theorem g_asg {i : Nat} (h : Grow (a G) x) : Grow (sAsg (.v i) a G) (G.set i (some x), .next) := Grow.bind h (.pure _)
end
theorem pl_int (n : Nat) (i : Int) : Pl n (.int i) := by cases n <;> trivial
theorem pl_non (n : Nat) : Pl n .non := by cases n <;> trivial
theorem pl_dS (n : Nat) {s : List Int} (h : s.length ≤ 1000000) : Pl (n + 1) (dS s) := ⟨by rw [List.length_map]; exact h, fun x hx => by
  obtain ⟨i, _, rfl⟩ := List.mem_map.mp hx
  exact pl_int n i⟩
theorem pl_dN (n : Nat) {l : List Nat} (h : l.length ≤ 1000000) : Pl (n + 1) (dN l) := ⟨by rw [List.length_map]; exact h, fun x hx => by
  obtain ⟨i, _, rfl⟩ := List.mem_map.mp hx
  exact pl_int n i⟩
theorem pl_two (n : Nat) {x y : D} (h : Pl n x) (h2 : Pl n y) : Pl (n + 1) (.lst [x, y]) := ⟨by simp, fun z hz => by
  rcases List.mem_cons.mp hz with e | hz
  · rw [e]; exact h
  · rw [List.mem_singleton.mp hz]; exact h2⟩
theorem pl_dF (n : Nat) {f : Pts} (h : f.length ≤ 1000000) (h2 : ∀ q ∈ f, q.1.length ≤ 1000000) : Pl (n + 3) (dF f) := ⟨by rw [List.length_map]; exact h, fun x hx => by
  obtain ⟨q, hq, rfl⟩ := List.mem_map.mp hx
  refine ⟨by simp, fun z hz => ?_⟩
  rcases List.mem_cons.mp hz with e | hz
  · rw [e]; exact pl_dS n (h2 q hq)
  · rw [List.mem_singleton.mp hz]; exact pl_int _ _⟩
theorem same_true {d : D} (h : Pl 7 d) : py__law_same 8 [d, d] = pure (.bl true) := ev_same 7 d h
section
variable {sizes : List Int} {m : Int} {cl : Pts}
theorem pos_of (ok : SzOk sizes) : ∀ n ∈ sizes, 1 ≤ n := fun n hn => (ok.2 n hn).1
theorem pts_le {f g : List Int → Int} (ok : SzOk sizes) (hf : Up sizes f) (hg : Up sizes g) (h : ∀ s ∈ rows (-1) sizes, f s ≠ -1 → g s = f s) : ((pts sizes f).all fun q => ansAt (pts sizes g) q.1 == q.2) = true := by
  rw [List.all_eq_true]
  intro q hq
  obtain ⟨s, hs, rfl⟩ := List.mem_map.mp hq
  rw [List.mem_filter] at hs
  have hne : f s ≠ -1 := by
    have := hs.2
    unfold minP at this
    rw [Bool.and_eq_true] at this
    simpa using this.1
  rw [ansAt_pts ok hg hs.1, h s hs.1 hne]
  simp
theorem whole_state {s : List Int} (hs : s ∈ rows 0 sizes) : s ∈ rows (-1) sizes := by
  obtain ⟨h1, h2⟩ := (mem_rows sizes s).mp hs
  exact (mem_rows sizes s).mpr ⟨h1, fun i n x e1 e2 => by have := h2 i n x e1 e2; omega⟩
theorem pts_pl (ok : SzOk sizes) (t : List Int → Int) : Pl 7 (dF (pts sizes t)) := by
  obtain ⟨h1, h2⟩ := ok.rows (lo := -1) (by decide)
  refine pl_dF 4 ?_ fun q hq => ?_
  · unfold pts
    rw [List.length_map]
    have := List.length_filter_le (minP t) (rows (-1) sizes)
    omega
  · obtain ⟨s, hs, rfl⟩ := List.mem_map.mp hq
    have := h2 s (List.mem_filter.mp hs).1
    have := ok.1
    dsimp only
    omega
end
theorem g_nop {G : DL.Env} : Grow (sNop G) (G, .next) := .pure _
theorem Pool.app {μ : Store} (h : Pool μ) (l : Store) : Pool (μ ++ l) := by
  obtain ⟨c, p, v, q, s, h1, h2⟩ := h
  exact ⟨c, p, v, q, s, get_app h1, h2⟩
end K40
/-! RQ: how many leaves; whole states; trimmed and sorted out trees are trees -/
namespace K40
open PySem DL
theorem few_of : ∀ {L : Pts}, L.Nodup → (∀ p ∈ L, ∀ q ∈ L, fits p.1 q.1 = true → p = q) → ∀ W : List (List Int), (∀ p ∈ L, ∃ s ∈ W, below p.1 s = true ∧ p.1.length = s.length) → L.length ≤ W.length
  | [], _, _, _, _ => Nat.zero_le _
  | p :: L, hn, hs, W, hw => by
    obtain ⟨s, h1, h2, h3⟩ := hw p List.mem_cons_self
    have hn' := List.nodup_cons.mp hn
    have ih := few_of hn'.2 (fun a ha b hb => hs a (List.mem_cons_of_mem _ ha) b (List.mem_cons_of_mem _ hb)) (W.erase s) fun q hq => by
      obtain ⟨s', k1, k2, k3⟩ := hw q (List.mem_cons_of_mem _ hq)
      refine ⟨s', ?_, k2, k3⟩
      have hne : s' ≠ s := by
        intro e
        rw [e] at k2
        have := hs p List.mem_cons_self q (List.mem_cons_of_mem _ hq) (both_fit h2 k2 h3)
        exact hn'.1 (this ▸ hq)
      exact (List.mem_erase_of_ne hne).mpr k1
    rw [List.length_erase_of_mem h1] at ih
    have := List.length_pos_of_mem h1
    simp only [List.length_cons]
    omega
theorem nothing_below (sizes s : List Int) : below (nothing sizes) s = true := by
  rw [below_iff]
  intro i x y e1 _
  exact .inl (nothing_get i x e1)
theorem lv_va {m : Int} : ∀ (n : Nat) (t : Tr) (s : List Int), VA m n t → ∀ p ∈ lv t s, -1 ≤ p.2 ∧ p.2 ≤ m - 1 := by
  intro n
  induction n with
  | zero =>
    intro t s hv p hp
    cases t with
    | leaf a => rw [lv] at hp; rw [List.mem_singleton.mp hp]; exact hv
    | node k bs => exact hv.elim
  | succ n ih =>
    intro t s hv p hp
    cases t with
    | leaf a => rw [lv] at hp; rw [List.mem_singleton.mp hp]; exact hv
    | node k bs =>
      obtain ⟨v, b, h1, h2⟩ := mem_lv.mp hp
      exact ih b _ (hv b (List.mem_of_getElem? h1)) p h2
theorem whole_leaf {sizes : List Int} : ∀ (n : Nat) (left : List Nat) (t : Tr) (s : List Int), VT sizes n left t → Fr left s → ∀ w : List Int, w.length = s.length → below s w = true → (∀ (k : Nat) (n : Int), sizes[k]? = some n → ∀ x : Int, w[k]? = some x → x < n ∧ 0 ≤ x) → ∃ p ∈ lv t s, below p.1 w = true ∧ p.2 = rn n t w := by
  intro n
  induction n with
  | zero =>
    intro left t s hv hf w hw hb hr
    cases t with
    | leaf a => exact ⟨(s, a), by rw [lv]; exact List.mem_singleton_self _, hb, rfl⟩
    | node k bs => exact hv.elim
  | succ n ih =>
    intro left t s hv hf w hw hbw hr
    cases t with
    | leaf a => exact ⟨(s, a), by rw [lv]; exact List.mem_singleton_self _, hbw, rfl⟩
    | node k bs =>
      obtain ⟨hk, hz, hb⟩ := hv
      have hkl := (List.getElem?_eq_some_iff.mp (hf k hk)).1
      have hwl : k < w.length := by omega
      have hwk : w[k]? = some w[k] := List.getElem?_eq_getElem hwl
      have hrange := hr k _ hz w[k] hwk
      unfold rn
      rw [hwk]
      dsimp only
      rw [if_neg (by omega)]
      have hbl : (w[k]).toNat < bs.length := by omega
      have hbx : bs[(w[k]).toNat]? = some bs[(w[k]).toNat] := List.getElem?_eq_getElem hbl
      rw [hbx]
      dsimp only
      have hcast : (((w[k]).toNat : Nat) : Int) = w[k] := by omega
      have hl : (withv s k (((w[k]).toNat : Nat) : Int)).length = s.length := by rw [withv_set hkl, List.length_set]
      have hbw' : below (withv s k (((w[k]).toNat : Nat) : Int)) w = true := by
        rw [below_iff, withv_set hkl]
        intro i x y e1 e2
        by_cases hi : k = i
        · subst hi
          rw [List.getElem?_set_self hkl] at e1
          rw [hwk] at e2
          right
          have e1 : (((w[k]).toNat : Nat) : Int) = x := Option.some.inj e1
          have e2 : w[k] = y := Option.some.inj e2
          omega
        · rw [List.getElem?_set_ne hi] at e1
          exact below_iff.mp hbw i x y e1 e2
      obtain ⟨p, h1, h2, h3⟩ := ih _ bs[(w[k]).toNat] (withv s k (((w[k]).toNat : Nat) : Int)) (hb _ (List.getElem_mem hbl)) (fr_step hf hk) w (by rw [hl]; exact hw) hbw' hr
      exact ⟨p, mem_lv.mpr ⟨(w[k]).toNat, _, hbx, h1⟩, h2, h3⟩
theorem isst_rows {sizes s : List Int} (h : s ∈ rows (-1) sizes) : isSt sizes s = true := by
  obtain ⟨h1, h2⟩ := (mem_rows sizes s).mp h
  unfold isSt
  rw [Bool.and_eq_true, List.all_eq_true]
  refine ⟨by rw [h1]; simp, ?_⟩
  rintro ⟨x, y⟩ hp
  obtain ⟨i, e1, e2⟩ := mem_zip_iff.mp hp
  have := h2 i y x e2 e1
  simp
  omega
theorem vt_trim {sizes : List Int} : ∀ (n : Nat) (left : List Nat) (t : Tr), VT sizes n left t → VT sizes n left (trim t) := by
  intro n
  induction n with
  | zero =>
    intro left t h
    cases t with
    | leaf a => rw [trim]; trivial
    | node k bs => exact h.elim
  | succ n ih =>
    intro left t h
    cases t with
    | leaf a => rw [trim]; trivial
    | node k bs =>
      obtain ⟨h1, h2, h3⟩ := h
      rw [trim]
      split
      · trivial
      · rw [trims_eq]
        refine ⟨h1, by rw [List.length_map]; exact h2, fun b hb => ?_⟩
        obtain ⟨b', hb', rfl⟩ := List.mem_map.mp hb
        exact ih _ b' (h3 b' hb')
theorem vt_dep {sizes : List Int} : ∀ (N n : Nat) (left : List Nat) (t : Tr), VT sizes n left t → dep t ≤ N → VT sizes N left t := by
  intro N
  induction N with
  | zero =>
    intro n left t h hd
    cases t with
    | leaf a => trivial
    | node k bs => rw [dep] at hd; omega
  | succ N ih =>
    intro n left t h hd
    cases t with
    | leaf a => trivial
    | node k bs =>
      cases n with
      | zero => exact h.elim
      | succ n =>
        rw [dep] at hd
        exact ⟨h.1, h.2.1, fun b hb => ih n _ b (h.2.2 b hb) (by have := dep_le hb; omega)⟩
theorem deps_le : ∀ {bs : List Tr} {N : Nat}, (∀ b ∈ bs, dep b ≤ N) → deps bs ≤ N
  | [], _, _ => by rw [deps]; omega
  | b :: bs, N, h => by
    rw [deps]
    have h1 := h b List.mem_cons_self
    have h2 := deps_le (bs := bs) (N := N) fun c hc => h c (List.mem_cons_of_mem _ hc)
    omega
theorem dep_so {sizes : List Int} {cl : Pts} : ∀ (n : Nat) (s : List Int), dep (so sizes n cl s) ≤ ngap s := by
  intro n
  induction n with
  | zero => intro s; rw [so, dep]; omega
  | succ n ih =>
    intro s
    unfold so
    cases h : cl.find? fun c => fits c.1 s with
    | none => dsimp only; rw [dep]; omega
    | some c =>
      dsimp only
      by_cases hb : below c.1 s = true
      · rw [if_pos hb, dep]; omega
      · rw [if_neg hb]
        cases hg : firstGap c.1 s with
        | none => dsimp only; rw [dep]; omega
        | some k =>
          dsimp only
          have hk := firstGap_some hg
          have h1 := ngap_pos hk
          rw [dep]
          have : deps ((List.range (sizes[k]?.getD 0).toNat).map fun (v : Nat) => so sizes n cl (withv s k (v : Int))) ≤ ngap s - 1 := deps_le fun b hb' => by
            obtain ⟨v, _, rfl⟩ := List.mem_map.mp hb'
            have := ih (withv s k (v : Int))
            have := ngap_step (v := v) hk
            omega
          omega
theorem va_so {sizes : List Int} {m : Int} {cl : Pts} (hm : 1 ≤ m) (hcl : ∀ c ∈ cl, 0 ≤ c.2 ∧ c.2 ≤ m - 1) : ∀ (n N : Nat) (s : List Int), dep (so sizes n cl s) ≤ N → VA m N (so sizes n cl s) := by
  have lf : ∀ (N : Nat) (a : Int), (-1 ≤ a ∧ a ≤ m - 1) → VA m N (.leaf a) := fun N a h => by cases N <;> exact h
  intro n
  induction n with
  | zero => intro N s _; exact lf N _ (by omega)
  | succ n ih =>
    intro N s hd
    unfold so at hd ⊢
    cases h : cl.find? fun c => fits c.1 s with
    | none => exact lf N _ (by omega)
    | some c =>
      rw [h] at hd
      dsimp only at hd ⊢
      by_cases hb : below c.1 s = true
      · rw [if_pos hb]
        have := hcl c (List.mem_of_find?_eq_some h)
        exact lf N _ (by omega)
      · rw [if_neg hb] at hd ⊢
        cases hg : firstGap c.1 s with
        | none => exact lf N _ (by omega)
        | some k =>
          rw [hg] at hd
          dsimp only at hd ⊢
          rw [dep] at hd
          cases N with
          | zero => omega
          | succ N =>
            intro b hb'
            have hdb := dep_le hb'
            obtain ⟨v, _, rfl⟩ := List.mem_map.mp hb'
            exact ih N _ (by omega)
end K40
/-! UA: the law's own helpers: states, least pairs, draws of clauses -/
namespace K40
open PySem DL
theorem ev_under (a b : List Int) : py__law_under [dS a, dS b] = pure (.bl (under a b)) := by
  simp only [py__law_under, dS]
  simp
  rw [zip_dS, compL_filt (p := fun p => p.1 != -1 && p.1 != p.2) (h := fun _ => D.int 1)]
  · simp
    rw [fl0]
    rfl
  · intro p hp
    by_cases h : p.1 = -1
    · simp [oneC, h]
    · by_cases h2 : p.1 = p.2
      · simp [oneC, h, h2]
      · simp [oneC, h, h2]
theorem ev_lfit (a b : List Int) : py__law_fit [dS a, dS b] = pure (.bl (fits a b)) := by
  simp only [py__law_fit, dS]
  simp
  rw [zip_dS, compL_filt (p := fun p => p.1 != -1 && (p.2 != -1 && p.1 != p.2)) (h := fun _ => D.int 1)]
  · simp
    rw [fl0]
    have e : (fun p : Int × Int => !(p.1 != -1 && (p.2 != -1 && p.1 != p.2))) = fun p => p.1 == -1 || (-1 == p.2 || p.1 == p.2) := ?_
    · rw [e]
      rfl
    funext p
    by_cases h : p.1 = -1
    · simp [h]
    · by_cases h2 : p.2 = -1
      · simp [h2]
      · have h3 : ¬ (-1 = p.2) := fun e => h2 e.symm
        rw [show (p.1 != -1) = true by simpa using h, show (p.2 != -1) = true by simpa using h2, show (p.1 == -1) = false by simpa using h, show (-1 == p.2) = false by simpa using h3]
        unfold bne
        cases p.1 == p.2 <;> rfl
  · intro p hp
    by_cases h : p.1 = -1
    · simp [oneC, h]
    · by_cases h2 : p.2 = -1
      · simp [oneC, h, h2]
      · by_cases h3 : p.1 = p.2
        · simp [oneC, h, h2, h3]
        · simp [oneC, h, h2, h3]
end K40
/-! UD: is_open, needed, joined, knot_at -/
namespace K40
open PySem DL
def isOp (f : Pts) (s : List Int) : Bool := ansAt f s == -1 && f.any fun p => fits p.1 s
def need (f : Pts) (s : List Int) : List Nat := if isOp f s = true then (gaps s).filter fun k => (f.filter fun p => fits p.1 s).all fun p => p.1[k]? != some (-1) else []
def jn (a b : List Int) : List Int := (a.zip b).map fun p => if p.2 > p.1 then p.2 else p.1
def good (f : Pts) (s : List Int) (k : Nat) : List (List Int) := (f.filter fun p => fits p.1 s && p.1[k]? == some (-1)).map fun p => jn p.1 s
def upD (f : Pts) (s : List Int) (k : Nat) : D := if s[k]? = some (-1) then (match good f s k with | [] => .non | g :: gs => dS (minS g gs)) else .non
def dKn (f : Pts) (s : List Int) : D := .tup [.str "knot", dS s, .tup ((List.range s.length).map (upD f s))]
theorem ev_isopen (f : Pts) (s : List Int) : py_is_open [dF f, dS s] = pure (.bl (isOp f s)) := by
  simp only [py_is_open, r_fn]
  rw [if_pos (show [dF f, dS s].length = 2 from rfl)]
  show (sRet _ [some (dF f), some (dS s), none, none] >>= retK) = _
  have c1 : eOp2 eqD (eCall (py_answer_at) [(eVar 0), (eVar 1)]) (eC (.int (-1))) [some (dF f), some (dS s), none, none] = pure (.bl (ansAt f s == -1)) := by
    simp [ev_answer]
  have c2 : eOp1 anyD (eComp [2, 3] (wSeq (eVar 0)) (.t (.cons (.v 2) (.cons (.v 3) .nil))) none (eCall (py_are_fitting) [(eVar 2), (eVar 1)])) [some (dF f), some (dS s), none, none] = pure (.bl (f.any fun p => fits p.1 s)) := by
    have hw : wSeq (eVar 0) [some (dF f), some (dS s), none, none] = pure (f.map dP, .no) := rfl
    rw [r_op1, r_comp, hw, pure_bind, compL_map (h := fun p => D.bl (fits p.1 s)), pure_bind, pure_bind]
    · have e : f.map (fun p => D.bl (fits p.1 s)) = (f.map fun p => fits p.1 s).map D.bl := by rw [List.map_map]; rfl
      simp [anyD, toBls_map, List.any_map]
    · intro p hp
      simp only [oneC, dP, r_wipe1, r_wipe0, r_putt, r_put1, r_put0, r_putv, Option.bind_some, r_lift, pure_bind, r_call, r_list1, r_list0, r_var, List.set_cons_succ, List.set_cons_zero, List.getElem?_cons_succ, List.getElem?_cons_zero, ev_fits]
  rw [r_ret, r_and, c1, pure_bind, r_toBl, pure_bind]
  unfold isOp
  cases ansAt f s == -1 with
  | true => rw [if_pos rfl, c2]; rfl
  | false => rw [if_neg Bool.false_ne_true]; rfl
theorem ev_needed {f : Pts} {s : List Int} (hl : ∀ p ∈ f, p.1.length = s.length) : py_needed [dF f, dS s] = pure (dN (need f s)) := by
  simp only [py_needed, r_fn]
  rw [if_pos (show [dF f, dS s].length = 2 from rfl)]
  show (sSeq _ _ [some (dF f), some (dS s), none, none, none, none] >>= retK) = _
  have c1 : tNot (tVal (eCall (py_is_open) [(eVar 0), (eVar 1)])) [some (dF f), some (dS s), none, none, none, none] = pure (!isOp f s) := by
    simp [ev_isopen]
  rw [r_seq, r_sif, c1, pure_bind]
  unfold need
  cases isOp f s with
  | false =>
    rw [if_pos (show (!false) = true from rfl), if_neg Bool.false_ne_true]
    simp [dN]
  | true =>
    rw [if_neg (by decide), if_pos rfl]
    have a2 : sAsg (.v 2) (eComp [3, 4] (wSeq (eVar 0)) (.t (.cons (.v 3) (.cons (.v 4) .nil))) (some (tVal (eCall (py_are_fitting) [(eVar 3), (eVar 1)]))) (eVar 3)) [some (dF f), some (dS s), none, none, none, none] = pure ([some (dF f), some (dS s), some (.lst ((f.filter fun p => fits p.1 s).map fun p => dS p.1)), none, none, none], .next) := by
      have hw : wSeq (eVar 0) [some (dF f), some (dS s), none, none, none, none] = pure (f.map dP, .no) := rfl
      rw [r_asg, r_comp, hw, pure_bind, compL_filt (p := fun p : List Int × Int => fits p.1 s) (h := fun p : List Int × Int => dS p.1), pure_bind, pure_bind]
      · rfl
      · intro p hp
        simp only [oneC, dP, r_wipe1, r_wipe0, r_putt, r_put1, r_put0, r_putv, Option.bind_some, r_lift, pure_bind, r_tval, r_call, r_list1, r_list0, r_var, List.set_cons_succ, List.set_cons_zero, List.getElem?_cons_succ, List.getElem?_cons_zero, ev_fits, r_toBl]
        cases fits p.1 s <;> simp
    have a3 : eOp1 tupleD (eComp [5] (wSeq (eCall (py_gaps) [(eVar 1)])) (.v 5) (some (tVal (eOp1 allD (eComp [3] (wSeq (eVar 2)) (.v 3) none (eOp2 neD (eOp2 idxD (eVar 3) (eVar 5)) (eC (.int (-1)))))))) (eVar 5)) [some (dF f), some (dS s), some (.lst ((f.filter fun p => fits p.1 s).map fun p => dS p.1)), none, none, none]
        = pure (dN ((gaps s).filter fun k => (f.filter fun p => fits p.1 s).all fun p => p.1[k]? != some (-1))) := by
      have hw : wSeq (eCall (py_gaps) [(eVar 1)]) [some (dF f), some (dS s), some (.lst ((f.filter fun p => fits p.1 s).map fun p => dS p.1)), none, none, none] = pure ((gaps s).map fun (k : Nat) => D.int (k : Int), .no) := by
        simp [ev_gaps, itemsD]
      rw [r_op1, r_comp, hw, pure_bind, compL_filt (p := fun k => (f.filter fun p => fits p.1 s).all fun p => p.1[k]? != some (-1)) (h := fun (k : Nat) => D.int (k : Int)), pure_bind, pure_bind]
      · rfl
      · intro k hk
        have hk2 := (List.getElem?_eq_some_iff.mp (mem_gaps.mp hk)).1
        have inner : eOp1 allD (eComp [3] (wSeq (eVar 2)) (.v 3) none (eOp2 neD (eOp2 idxD (eVar 3) (eVar 5)) (eC (.int (-1))))) [some (dF f), some (dS s), some (.lst ((f.filter fun p => fits p.1 s).map fun p => dS p.1)), none, none, some (.int (k : Int))] = pure (.bl ((f.filter fun p => fits p.1 s).all fun p => p.1[k]? != some (-1))) := by
          have hw2 : wSeq (eVar 2) [some (dF f), some (dS s), some (.lst ((f.filter fun p => fits p.1 s).map fun p => dS p.1)), none, none, some (.int (k : Int))] = pure ((f.filter fun p => fits p.1 s).map fun p => dS p.1, .no) := rfl
          rw [r_op1, r_comp, hw2, pure_bind, compL_map (enc := fun p : List Int × Int => dS p.1) (h := fun p : List Int × Int => D.bl (p.1[k]? != some (-1))), pure_bind]
          · simp [allD, toBls_map]
          · intro p hp
            have hpl := hl p (List.mem_filter.mp hp).1
            have hk3 : k < p.1.length := by omega
            have hx : idxD (dS p.1) (.int (k : Int)) = pure (.int p.1[k]) := idx_tup (by rw [List.getElem?_map, List.getElem?_eq_getElem hk3]; rfl)
            simp only [oneC, r_wipe1, r_wipe0, r_putv, r_lift, pure_bind, r_op2, r_c, r_var, List.set_cons_succ, List.set_cons_zero, List.getElem?_cons_succ, List.getElem?_cons_zero, hx, r_nei]
            rw [List.getElem?_eq_getElem hk3]
            rfl
        simp only [oneC, r_wipe1, r_wipe0, r_putv, r_lift, pure_bind, r_tval, List.set_cons_succ, List.set_cons_zero]
        rw [inner, pure_bind, r_toBl, pure_bind]
        simp only [r_var, List.getElem?_cons_succ, List.getElem?_cons_zero, pure_bind]
        split <;> rfl
    show (sNop _ >>= _ >>= retK) = _
    rw [show sNop [some (dF f), some (dS s), none, none, none, none] = pure ([some (dF f), some (dS s), none, none, none, none], DL.Flow.next) from rfl, pure_bind, r_seqn, r_seq, a2, pure_bind, r_seqn, r_ret, a3, pure_bind]
    rfl
theorem ev_joined {a b : List Int} (h : fits a b = true) : py_joined [dS a, dS b] = pure (dS (jn a b)) := by
  simp only [py_joined, r_fn]
  rw [if_pos (show [dS a, dS b].length = 2 from rfl)]
  show (sSeq _ _ [some (dS a), some (dS b), none, none] >>= retK) = _
  have c1 : tNot (tVal (eCall (py_are_fitting) [(eVar 0), (eVar 1)])) [some (dS a), some (dS b), none, none] = pure false := by
    simp [ev_fits, h]
  have c2 : eOp1 tupleD (eComp [2, 3] (wZip (eVar 0) (eVar 1)) (.t (.cons (.v 2) (.cons (.v 3) .nil))) none (eOp2 max2D (eVar 2) (eVar 3))) [some (dS a), some (dS b), none, none] = pure (dS (jn a b)) := by
    have hw : wZip (eVar 0) (eVar 1) [some (dS a), some (dS b), none, none] = pure ((a.zip b).map fun p => D.tup [.int p.1, .int p.2], .no) := by
      simp only [r_wzip, r_var, List.getElem?_cons_succ, List.getElem?_cons_zero, pure_bind]
      unfold dS
      rw [r_zipt, zip_dS]
      rfl
    rw [r_op1, r_comp, hw, pure_bind, compL_map (enc := fun p : Int × Int => D.tup [.int p.1, .int p.2]) (h := fun p : Int × Int => D.int (if p.2 > p.1 then p.2 else p.1)), pure_bind]
    · simp [tupleD, itemsD, dS, jn]
      rfl
    · intro p hp
      simp only [oneC, r_wipe1, r_wipe0, r_putt, r_put1, r_put0, r_putv, Option.bind_some, r_lift, pure_bind, r_op2, r_var, List.set_cons_succ, List.set_cons_zero, List.getElem?_cons_succ, List.getElem?_cons_zero, max2D]
  rw [r_seq, r_sif, c1, pure_bind, if_neg Bool.false_ne_true]
  show (sNop _ >>= _ >>= retK) = _
  rw [show sNop [some (dS a), some (dS b), none, none] = pure ([some (dS a), some (dS b), none, none], DL.Flow.next) from rfl, pure_bind, r_seqn, r_ret, c2, pure_bind]
  rfl
end K40
/-! UE: the knot that is told is one -/
namespace K40
open PySem DL
theorem minTD_dS (g : List Int) (gs : List (List Int)) : minTD (.lst ((g :: gs).map dS)) = pure (dS (minS g gs)) := by
  unfold minTD
  dsimp only
  rw [keysOf_dS]
  rfl
abbrev knBody : S := (sSeq (sAsg (.v 4) (eComp [5, 6] (wSeq (eVar 0)) (.t (.cons (.v 5) (.cons (.v 6) .nil))) (some (tAnd (tVal (eCall (py_are_fitting) [(eVar 5), (eVar 1)])) (tVal (eOp2 eqD (eOp2 idxD (eVar 5) (eVar 3)) (eC (.int (-1))))))) (eCall (py_joined) [(eVar 5), (eVar 1)])))
    (sExpr (eAppend (eVar 2) (eIf (tVal (eOp2 eqD (eOp2 idxD (eVar 1) (eVar 3)) (eC (.int (-1))))) (eOp1 minTD (eVar 4)) (eC .non)))))
theorem ev_knot {f : Pts} {s : List Int} (hl : ∀ p ∈ f, p.1.length = s.length) (hs : s.length ≤ 1000) (hg : ∀ k, s[k]? = some (-1) → good f s k ≠ []) : Grow (py_knot_at [dF f, dS s]) (dKn f s) := fun μ => by
  obtain ⟨Γ', μ', e1, e2, o3, o4, rfl⟩ := forL_wp (α := Nat) (its := (List.range s.length).map fun (k : Nat) => D.int (k : Int)) (enc := fun (k : Nat) => D.int (k : Int)) (tg := .v 3) (g := .no) (body := knBody)
    (fun d Γ μ' => μ' = μ ++ [.lst (d.map (upD f s))] ∧ ∃ o3 o4, Γ = [some (dF f), some (dS s), some (.h μ.length), o3, o4, none, none]) (fun _ _ _ _ => rfl) (List.range s.length) []
    [some (dF f), some (dS s), some (.h μ.length), none, none, none, none] (μ ++ [.lst []]) (by
      rintro d k rest Γ μ' hd ⟨rfl, o3, o4, rfl⟩
      have hd' : List.range s.length = d ++ k :: rest := by simpa using hd
      have hk : k < s.length := List.mem_range.mp (by rw [hd']; simp)
      have hdl : d.length ≤ 1000 := by
        have := congrArg List.length hd'
        simp at this
        omega
      have a4 : sAsg (.v 4) (eComp [5, 6] (wSeq (eVar 0)) (.t (.cons (.v 5) (.cons (.v 6) .nil))) (some (tAnd (tVal (eCall (py_are_fitting) [(eVar 5), (eVar 1)])) (tVal (eOp2 eqD (eOp2 idxD (eVar 5) (eVar 3)) (eC (.int (-1))))))) (eCall (py_joined) [(eVar 5), (eVar 1)])) [some (dF f), some (dS s), some (.h μ.length), some (.int (k : Int)), o4, none, none]
          = pure ([some (dF f), some (dS s), some (.h μ.length), some (.int (k : Int)), some (.lst ((good f s k).map dS)), none, none], .next) := by
        have hw : wSeq (eVar 0) [some (dF f), some (dS s), some (.h μ.length), some (.int (k : Int)), o4, none, none] = pure (f.map dP, .no) := rfl
        rw [r_asg, r_comp, hw, pure_bind, compL_filt (p := fun p : List Int × Int => fits p.1 s && p.1[k]? == some (-1)) (h := fun p : List Int × Int => dS (jn p.1 s)), pure_bind, pure_bind]
        · unfold good
          rw [List.map_map]
          rfl
        · intro p hp
          have hpk : k < p.1.length := by rw [hl p hp]; exact hk
          have hx : idxD (dS p.1) (.int (k : Int)) = pure (.int p.1[k]) := idx_tup (by rw [List.getElem?_map, List.getElem?_eq_getElem hpk]; rfl)
          simp only [oneC, dP, r_wipe1, r_wipe0, r_putt, r_put1, r_put0, r_putv, Option.bind_some, r_lift, pure_bind, r_tand, r_tval, r_op2, r_c, r_call, r_list1, r_list0, r_var, List.set_cons_succ, List.set_cons_zero, List.getElem?_cons_succ, List.getElem?_cons_zero, ev_fits, r_toBl, hx, r_eqi]
          rw [List.getElem?_eq_getElem hpk]
          by_cases hf : fits p.1 s = true
          · rw [hf]
            by_cases hq : p.1[k] = -1
            · simp [hq, ev_joined hf]
            · have : (p.1[k] == -1) = false := by simpa using hq
              simp [hq]
          · have hf' : fits p.1 s = false := by simpa using hf
            rw [hf']
            simp
      have hx : idxD (dS s) (.int (k : Int)) = pure (.int s[k]) := idx_tup (by rw [List.getElem?_map, List.getElem?_eq_getElem hk]; rfl)
      have he : eIf (tVal (eOp2 eqD (eOp2 idxD (eVar 1) (eVar 3)) (eC (.int (-1))))) (eOp1 minTD (eVar 4)) (eC .non) [some (dF f), some (dS s), some (.h μ.length), some (.int (k : Int)), some (.lst ((good f s k).map dS)), none, none] = pure (upD f s k) := by
        simp only [r_if, r_tval, r_op2, r_op1, r_c, r_var, List.getElem?_cons_succ, List.getElem?_cons_zero, pure_bind, hx, r_eqi, r_toBl]
        unfold upD
        rw [List.getElem?_eq_getElem hk]
        by_cases hq : s[k] = -1
        · rw [if_pos (by simpa using hq), if_pos (by rw [hq])]
          have := hg k (by rw [List.getElem?_eq_getElem hk, hq])
          cases hgd : good f s k with
          | nil => exact absurd hgd this
          | cons g gs => rw [minTD_dS]
        · rw [if_neg (by simpa using hq), if_neg (by simpa using hq)]
      have ap := append_at (a := eVar 2) (e := eIf (tVal (eOp2 eqD (eOp2 idxD (eVar 1) (eVar 3)) (eC (.int (-1))))) (eOp1 minTD (eVar 4)) (eC .non)) (Γ := [some (dF f), some (dS s), some (.h μ.length), some (.int (k : Int)), some (.lst ((good f s k).map dS)), none, none]) (n := μ.length) (d := upD f s k) (ds := d.map (upD f s)) (μ := μ ++ [.lst (d.map (upD f s))]) (μ1 := μ ++ [.lst (d.map (upD f s))]) rfl (by simp) (run_pure he _) (by simp) (by rw [List.length_map]; unfold lim; omega)
      refine ⟨[some (dF f), some (dS s), some (.h μ.length), some (.int (k : Int)), o4, none, none], [some (dF f), some (dS s), some (.h μ.length), some (.int (k : Int)), some (.lst ((good f s k).map dS)), none, none], _, rfl, ?_, rfl, _, _, rfl⟩
      unfold knBody
      rw [r_seq, a4, pure_bind, r_seqn, r_expr, run_bind ap, set1, List.map_append]
      rfl) ⟨rfl, _, _, rfl⟩
  rw [List.nil_append] at e2
  refine ⟨[.lst ((List.range s.length).map (upD f s))], ?_⟩
  simp only [py_knot_at, r_fn]
  rw [if_pos (show [dF f, dS s].length = 2 from rfl)]
  show (sSeq _ _ [some (dF f), some (dS s), none, none, none, none, none] >>= retK) μ = _
  have s1 : sAsg (.v 2) (eNewL []) [some (dF f), some (dS s), none, none, none, none, none] μ = some (([some (dF f), some (dS s), some (.h μ.length), none, none, none, none], .next), μ ++ [.lst []]) := by
    simp [eNewL, newH, bind_def, map_def, pure_def]
  have hw : wRange1 (eOp1 lenD (eVar 1)) [some (dF f), some (dS s), some (.h μ.length), none, none, none, none] = pure ((List.range s.length).map fun (k : Nat) => D.int (k : Int), .no) := by
    simp [dS]
    rw [if_pos (by omega), rangeN]
  rw [r_seq, bind_assoc, run_bind s1, r_seqn, r_seq, r_for, hw, pure_bind, bind_assoc, run_bind e1, r_seqn, e2]
  simp [tupleD, itemsD, bind_def, map_def, pure_def, getH, dKn]
/-! ### joins -/
theorem jn_get {a b : List Int} {i : Nat} {x y : Int} (h1 : a[i]? = some x) (h2 : b[i]? = some y) : (jn a b)[i]? = some (if y > x then y else x) := by
  unfold jn
  rw [List.getElem?_map, (List.getElem?_zip_eq_some (z := (x, y))).mpr ⟨h1, h2⟩]
  rfl
theorem jn_len {a b : List Int} (h : a.length = b.length) : (jn a b).length = b.length := by
  unfold jn
  rw [List.length_map, List.length_zip, h, Nat.min_self]
section
variable {sizes : List Int} {a b : List Int}
theorem jn_rows (ha : a ∈ rows (-1) sizes) (hb : b ∈ rows (-1) sizes) : jn a b ∈ rows (-1) sizes := by
  obtain ⟨a1, a2⟩ := (mem_rows sizes a).mp ha
  obtain ⟨b1, b2⟩ := (mem_rows sizes b).mp hb
  refine (mem_rows sizes _).mpr ⟨by rw [jn_len (by omega)]; exact b1, fun i n x e1 e2 => ?_⟩
  have hi := (List.getElem?_eq_some_iff.mp e1).1
  have ea : a[i]? = some a[i] := List.getElem?_eq_getElem (by omega)
  have eb : b[i]? = some b[i] := List.getElem?_eq_getElem (by omega)
  rw [jn_get ea eb] at e2
  have := a2 i n _ e1 ea
  have := b2 i n _ e1 eb
  have e2 := Option.some.inj e2
  split at e2 <;> omega
theorem jn_over (ha : a ∈ rows (-1) sizes) (hb : b ∈ rows (-1) sizes) (hf : fits a b = true) : below a (jn a b) = true ∧ below b (jn a b) = true := by
  obtain ⟨a1, a2⟩ := (mem_rows sizes a).mp ha
  obtain ⟨b1, b2⟩ := (mem_rows sizes b).mp hb
  have key : ∀ (i : Nat) (x y : Int), a[i]? = some x → b[i]? = some y → (x = -1 ∨ y = -1 ∨ x = y) ∧ -1 ≤ x ∧ -1 ≤ y := fun i x y e1 e2 => by
    have hi := (List.getElem?_eq_some_iff.mp e1).1
    have ez : sizes[i]? = some sizes[i] := List.getElem?_eq_getElem (by omega)
    exact ⟨fits_iff.mp hf i x y e1 e2, (a2 i _ x ez e1).1, (b2 i _ y ez e2).1⟩
  constructor
  · rw [below_iff]
    intro i x z e1 e2
    have hi := (List.getElem?_eq_some_iff.mp e1).1
    have eb : b[i]? = some b[i] := List.getElem?_eq_getElem (by omega)
    rw [jn_get e1 eb] at e2
    have e2 := Option.some.inj e2
    have := key i x _ e1 eb
    split at e2 <;> omega
  · rw [below_iff]
    intro i y z e1 e2
    have hi := (List.getElem?_eq_some_iff.mp e1).1
    have ea : a[i]? = some a[i] := List.getElem?_eq_getElem (by omega)
    rw [jn_get ea e1] at e2
    have e2 := Option.some.inj e2
    have := key i _ y ea e1
    split at e2 <;> omega
end
/-- a function as it is told: its states are states, its answers answers -/
def FnB (sizes : List Int) (m : Int) (f : Pts) : Prop := ∀ p ∈ f, p.1 ∈ rows (-1) sizes ∧ 0 ≤ p.2 ∧ p.2 ≤ m - 1
theorem ans_some {sizes : List Int} {m : Int} {f : Pts} (hf : FnB sizes m f) {u : List Int} (h : ∃ q ∈ f, below q.1 u = true) : ansAt f u ≠ -1 := by
  unfold ansAt
  cases e : f.findSome? fun q => if below q.1 u = true then some q.2 else none with
  | none =>
    obtain ⟨q, hq, hb⟩ := h
    have := List.findSome?_eq_none_iff.mp e q hq
    rw [if_pos hb] at this
    cases this
  | some x =>
    obtain ⟨q, hq, e2⟩ := List.exists_of_findSome?_eq_some e
    split at e2
    · have e3 := Option.some.inj e2
      have := (hf q hq).2.1
      show x ≠ -1
      omega
    · cases e2
theorem ans_none {f : Pts} {u : List Int} (h : ∀ q ∈ f, ¬ below q.1 u = true) : ansAt f u = -1 := by
  unfold ansAt
  have : (f.findSome? fun q => if below q.1 u = true then some q.2 else none) = none := by
    rw [List.findSome?_eq_none_iff]
    intro q hq
    rw [if_neg (h q hq)]
  rw [this]
  rfl
section
variable {sizes : List Int} {m : Int} {f : Pts} {s : List Int}
/-- what a knot's row is -/
theorem knot_up (hf : FnB sizes m f) (hs : s ∈ rows (-1) sizes) (ho : isOp f s = true) (hn : need f s = []) {k : Nat} (hk : s[k]? = some (-1)) : ∃ u, upD f s k = dS u ∧ u ∈ rows (-1) sizes ∧ below s u = true ∧ u[k]? = some (-1) ∧ ansAt f u ≠ -1 ∧ good f s k ≠ [] := by
  have hex : ∃ p ∈ f, fits p.1 s = true ∧ p.1[k]? = some (-1) := by
    unfold need at hn
    rw [if_pos ho] at hn
    have := List.filter_eq_nil_iff.mp hn k (mem_gaps.mpr hk)
    rw [List.all_eq_true] at this
    apply Classical.byContradiction
    intro hno
    refine this fun p hp => ?_
    obtain ⟨h1, h2⟩ := List.mem_filter.mp hp
    simp
    intro e
    exact hno ⟨p, h1, h2, e⟩
  obtain ⟨p, hp, hp1, hp2⟩ := hex
  have hmem : jn p.1 s ∈ good f s k := List.mem_map.mpr ⟨p, List.mem_filter.mpr ⟨hp, by rw [hp1, hp2]; simp⟩, rfl⟩
  unfold upD
  rw [if_pos hk]
  cases hg : good f s k with
  | nil => rw [hg] at hmem; cases hmem
  | cons g gs =>
    refine ⟨minS g gs, rfl, ?_⟩
    have hm := minS_mem gs g
    rw [← hg] at hm
    obtain ⟨q, hq, e⟩ := List.mem_map.mp hm
    obtain ⟨q1, q2⟩ := List.mem_filter.mp hq
    rw [Bool.and_eq_true, beq_iff_eq] at q2
    have hqr := (hf q q1).1
    obtain ⟨o1, o2⟩ := jn_over hqr hs q2.1
    rw [← e]
    refine ⟨jn_rows hqr hs, o2, ?_, ans_some hf ⟨q, q1, o1⟩, by simp⟩
    rw [jn_get q2.2 hk]
    rfl
theorem open_gap (hf : FnB sizes m f) (hs : s ∈ rows (-1) sizes) (ho : isOp f s = true) : gaps s ≠ [] := by
  intro hg
  unfold isOp at ho
  rw [Bool.and_eq_true, beq_iff_eq, List.any_eq_true] at ho
  obtain ⟨h1, p, hp, hfit⟩ := ho
  refine ans_some hf ⟨p, hp, ?_⟩ h1
  rw [below_iff]
  intro i x y e1 e2
  rcases fits_iff.mp hfit i x y e1 e2 with h | h | h
  · exact .inl h
  · have : i ∈ gaps s := mem_gaps.mpr (by rw [e2, h])
    rw [hg] at this
    cases this
  · exact .inr h.symm
end
end K40
/-! UF: is_knot, check_turn at a knot; grown -/
namespace K40
open PySem DL
section
variable {sizes : List Int} {m : Int} {f : Pts} {s : List Int}
end
/-! ### grown -/
inductive Pap where
  | knot (s : List Int)
  | tree (t : Tr)
def dPap (f : Pts) : Pap → D
  | .knot s => dKn f s
  | .tree t => .tup [.str "tree", dT t]
def coll (k : Nat) : List Pap → List Tr → Pap
  | [], ts => .tree (.node k ts)
  | .knot s :: _, _ => .knot s
  | .tree t :: ps, ts => coll k ps (ts ++ [t])
def gr (sizes : List Int) : Nat → Pts → List Int → Pap
  | 0, _, s => .knot s
  | n + 1, f, s => if isOp f s = true then (match need f s with
    | [] => .knot s
    | k :: _ => coll k ((List.range (sizes[k]?.getD 0).toNat).map fun (v : Nat) => gr sizes n f (withv s k (v : Int))) [])
    else .tree (.leaf (ansAt f s))
end K40
/-! UG: grown does what gr says -/
namespace K40
open PySem DL
section
variable {sizes : List Int} {m : Int} {f : Pts} {s : List Int}
abbrev gBody (n : Nat) : S := (sSeq (sAsg (.v 6) (eCall (py_grown n) [(eVar 0), (eVar 1), (eCall (py_with_value) [(eVar 2), (eOp2 idxD (eVar 3) (eC (.int 0))), (eVar 5)])]))
    (sSeq (sIf (tVal (eOp2 eqD (eOp2 idxD (eVar 6) (eC (.int 0))) (eC (.str "knot"))))
    (sRet (eVar 6))
    sNop)
    (sExpr (eAppend (eVar 4) (eOp2 idxD (eVar 6) (eC (.int 1)))))))
abbrev gV (sizes : List Int) (m : Int) (f : Pts) (s : List Int) (l : List Nat) (n : Nat) (a5 a6 : Option D) : DL.Env := [some (dKd sizes m), some (dF f), some (dS s), some (dN l), some (.h n), a5, a6]
theorem eq_str (a b : Str) : eqD (.str a) (.str b) = pure (.bl (eqb (.str a) (.str b))) := by
  unfold eqD
  simp [flt]
theorem gr_turn {n : Nat} {k : Nat} {ks : List Nat} {v : Nat} {p : Pap} (hs : s.length ≤ 1000) (rec : Grow (py_grown n [dKd sizes m, dF f, dS (withv s k (v : Int))]) (dPap f p)) {μ ext : Store} {ts : List Tr} (hts : ts.length ≤ 10) {o6 : Option D} :
    ∃ ext', gBody n (gV sizes m f s (k :: ks) μ.length (some (.int (v : Int))) o6) (μ ++ .lst (ts.map dT) :: ext) = some (match p with
      | .knot z => ((gV sizes m f s (k :: ks) μ.length (some (.int (v : Int))) (some (dPap f p)), .ret (dPap f p)), μ ++ .lst (ts.map dT) :: ext')
      | .tree t => ((gV sizes m f s (k :: ks) μ.length (some (.int (v : Int))) (some (dPap f p)), .next), μ ++ .lst ((ts ++ [t]).map dT) :: ext')) := by
  obtain ⟨μb, eb⟩ := rec (μ ++ .lst (ts.map dT) :: ext)
  have a6 : sAsg (.v 6) (eCall (py_grown n) [(eVar 0), (eVar 1), (eCall (py_with_value) [(eVar 2), (eOp2 idxD (eVar 3) (eC (.int 0))), (eVar 5)])]) (gV sizes m f s (k :: ks) μ.length (some (.int (v : Int))) o6) (μ ++ .lst (ts.map dT) :: ext) = some ((gV sizes m f s (k :: ks) μ.length (some (.int (v : Int))) (some (dPap f p)), .next), μ ++ .lst (ts.map dT) :: (ext ++ μb)) := by
    have hx : idxD (dN (k :: ks)) (.int 0) = pure (.int (k : Int)) := idx_t0 _ _
    rw [r_asg, r_call, r_list1, r_list1, r_list1, r_call, r_list1, r_list1, r_list1, r_op2, r_list0]
    simp only [r_var, r_c, List.getElem?_cons_succ, List.getElem?_cons_zero, pure_bind, hx, ev_withv s k (v : Int) hs]
    rw [run_bind eb, List.append_assoc, List.cons_append]
    rfl
  unfold gBody
  cases p with
  | knot z =>
    refine ⟨ext ++ μb, ?_⟩
    have hx : idxD (dPap f (.knot z)) (.int 0) = pure (.str "knot") := idx_t0 _ _
    have t1 : tVal (eOp2 eqD (eOp2 idxD (eVar 6) (eC (.int 0))) (eC (.str "knot"))) (gV sizes m f s (k :: ks) μ.length (some (.int (v : Int))) (some (dPap f (.knot z)))) = pure true := by
      simp only [r_tval, r_op2, r_c, r_var, List.getElem?_cons_succ, List.getElem?_cons_zero, pure_bind, hx, eq_str, r_toBl]
      simp [eqb]
    rw [r_seq, run_bind a6, r_seqn, r_seq, r_sif, t1, pure_bind, if_pos rfl]
    rfl
  | tree t =>
    refine ⟨ext ++ μb, ?_⟩
    have hx : idxD (dPap f (.tree t)) (.int 0) = pure (.str "tree") := idx_t0 _ _
    have hx1 : idxD (dPap f (.tree t)) (.int 1) = pure (dT t) := idx_t1 _ _ _
    have t1 : tVal (eOp2 eqD (eOp2 idxD (eVar 6) (eC (.int 0))) (eC (.str "knot"))) (gV sizes m f s (k :: ks) μ.length (some (.int (v : Int))) (some (dPap f (.tree t)))) = pure false := by
      simp only [r_tval, r_op2, r_c, r_var, List.getElem?_cons_succ, List.getElem?_cons_zero, pure_bind, hx, eq_str, r_toBl]
      simp [eqb]
      rfl
    have he : eOp2 idxD (eVar 6) (eC (.int 1)) (gV sizes m f s (k :: ks) μ.length (some (.int (v : Int))) (some (dPap f (.tree t)))) = pure (dT t) := by
      simp only [r_op2, r_c, r_var, List.getElem?_cons_succ, List.getElem?_cons_zero, pure_bind, hx1]
    have ap := append_at (a := eVar 4) (e := eOp2 idxD (eVar 6) (eC (.int 1))) (Γ := gV sizes m f s (k :: ks) μ.length (some (.int (v : Int))) (some (dPap f (.tree t)))) (n := μ.length) (d := dT t) (ds := ts.map dT) (μ := μ ++ .lst (ts.map dT) :: (ext ++ μb)) (μ1 := μ ++ .lst (ts.map dT) :: (ext ++ μb)) rfl (by simp) (run_pure he _) (by simp) (by rw [List.length_map]; unfold lim; omega)
    rw [r_seq, run_bind a6, r_seqn, r_seq, r_sif, t1, pure_bind, if_neg Bool.false_ne_true]
    show (sNop _ >>= _) _ = _
    rw [show sNop (gV sizes m f s (k :: ks) μ.length (some (.int (v : Int))) (some (dPap f (.tree t)))) = pure (gV sizes m f s (k :: ks) μ.length (some (.int (v : Int))) (some (dPap f (.tree t))), DL.Flow.next) from rfl, pure_bind, r_seqn, r_expr, run_bind ap, set1]
    dsimp only
    rw [List.map_append]
    rfl
theorem gr_loop {n : Nat} {k : Nat} {ks : List Nat} {P : Nat → Pap} (hs : s.length ≤ 1000) {its : List D} {μ : Store} : ∀ (vs : List Nat) (ts : List Tr) (ext : Store) (o5 o6 : Option D), (∀ v ∈ vs, Grow (py_grown n [dKd sizes m, dF f, dS (withv s k (v : Int))]) (dPap f (P v))) → ts.length + vs.length ≤ 10 →
    (∃ z Γ' ext', coll k (vs.map P) ts = .knot z ∧ forL .no its (.v 5) (gBody n) (vs.map fun (v : Nat) => D.int (v : Int)) (gV sizes m f s (k :: ks) μ.length o5 o6) (μ ++ .lst (ts.map dT) :: ext) = some ((Γ', .ret (dPap f (.knot z))), μ ++ ext')) ∨
    (∃ ts' o5' o6' ext', coll k (vs.map P) ts = .tree (.node k ts') ∧ forL .no its (.v 5) (gBody n) (vs.map fun (v : Nat) => D.int (v : Int)) (gV sizes m f s (k :: ks) μ.length o5 o6) (μ ++ .lst (ts.map dT) :: ext) = some ((gV sizes m f s (k :: ks) μ.length o5' o6', .next), μ ++ .lst (ts'.map dT) :: ext'))
  | [], ts, ext, o5, o6, _, _ => .inr ⟨ts, o5, o6, ext, rfl, rfl⟩
  | v :: vs, ts, ext, o5, o6, rec, hl => by
    obtain ⟨ext', e⟩ := gr_turn (m := m) (ks := ks) (p := P v) hs (rec v List.mem_cons_self) (μ := μ) (ext := ext) (ts := ts) (by simp at hl; omega) (o6 := o6)
    have hput : (Tg.v 5).put (D.int (v : Int)) (gV sizes m f s (k :: ks) μ.length o5 o6) = some (gV sizes m f s (k :: ks) μ.length (some (.int (v : Int))) o6) := rfl
    rw [List.map_cons, List.map_cons, forL, gOk_no, pure_bind, hput, r_lift, pure_bind]
    cases hp : P v with
    | knot z =>
      rw [hp] at e
      dsimp only at e
      refine .inl ⟨z, gV sizes m f s (k :: ks) μ.length (some (.int (v : Int))) (some (dPap f (.knot z))), .lst (ts.map dT) :: ext', rfl, ?_⟩
      rw [run_bind e]
      rfl
    | tree t =>
      rw [hp] at e
      dsimp only at e
      have hc : coll k (Pap.tree t :: vs.map P) ts = coll k (vs.map P) (ts ++ [t]) := rfl
      rw [hc, run_bind e]
      exact gr_loop hs vs (ts ++ [t]) ext' _ _ (fun u hu => rec u (List.mem_cons_of_mem _ hu)) (by simp at hl ⊢; omega)
theorem ev_nnil (l : List Nat) (G : DL.Env) (h3 : G[3]? = some (some (dN l))) : tVal (eOp2 eqD (eVar 3) (eTup [])) G = pure l.isEmpty := by
  have e0 : eTup [] G = pure (.tup []) := by simp
  rw [r_tval, r_op2, r_var, h3, pure_bind, e0, pure_bind]
  unfold eqD
  have hf : flt 60 (dN l) = true := by
    have := fltL_int 59 (l.map fun (k : Nat) => (k : Int))
    rw [List.map_map] at this
    exact this
  rw [hf]
  cases l with
  | nil => simp [flt, eqb, eqbL, dN]
  | cons k l => simp [flt, eqb, eqbL, dN]
theorem ev_grown (ok : SzOk sizes) (hf : FnB sizes m f) : ∀ (n : Nat) (s : List Int), s ∈ rows (-1) sizes → ngap s + 1 ≤ n → Grow (py_grown n [dKd sizes m, dF f, dS s]) (dPap f (gr sizes n f s))
  | 0, s, _, h => by omega
  | n + 1, s, hs, hn => fun μ => by
    have hsl := ((mem_rows sizes s).mp hs).1
    have h4 := ok.1
    have hfl : ∀ p ∈ f, p.1.length = s.length := fun p hp => by rw [((mem_rows sizes p.1).mp (hf p hp).1).1, hsl]
    have c1 : tNot (tVal (eCall (py_is_open) [(eVar 1), (eVar 2)])) [some (dKd sizes m), some (dF f), some (dS s), none, none, none, none] = pure (!isOp f s) := by
      simp [ev_isopen]
    simp only [py_grown, r_fn]
    rw [if_pos (show [dKd sizes m, dF f, dS s].length = 3 from rfl)]
    show ∃ μ', (sSeq _ _ [some (dKd sizes m), some (dF f), some (dS s), none, none, none, none] >>= retK) μ = _
    rw [r_seq, r_sif, c1, pure_bind]
    unfold gr
    cases ho : isOp f s with
    | false =>
      rw [if_pos (show (!false) = true from rfl), if_neg Bool.false_ne_true]
      refine ⟨[], ?_⟩
      rw [List.append_nil]
      have : eTup [(eC (.str "tree")), (eCall (py_answer_at) [(eVar 1), (eVar 2)])] [some (dKd sizes m), some (dF f), some (dS s), none, none, none, none] = pure (.tup [.str "tree", .int (ansAt f s)]) := by
        simp [ev_answer]
      rw [r_ret, this]
      simp [dPap, dT]
      rfl
    | true =>
      rw [if_neg (by decide), if_pos rfl]
      have a3 : sAsg (.v 3) (eCall (py_needed) [(eVar 1), (eVar 2)]) [some (dKd sizes m), some (dF f), some (dS s), none, none, none, none] = pure ([some (dKd sizes m), some (dF f), some (dS s), some (dN (need f s)), none, none, none], .next) := by
        simp [ev_needed hfl]
      show ∃ μ', (sNop _ >>= _ >>= retK) μ = _
      rw [show sNop [some (dKd sizes m), some (dF f), some (dS s), none, none, none, none] = pure ([some (dKd sizes m), some (dF f), some (dS s), none, none, none, none], DL.Flow.next) from rfl, pure_bind, r_seqn, r_seq, a3, pure_bind, r_seqn, r_seq, r_sif, ev_nnil (need f s) _ rfl, pure_bind]
      cases hd : need f s with
      | nil =>
        rw [if_pos (show ([] : List Nat).isEmpty = true from rfl)]
        obtain ⟨μ1, e1⟩ := ev_knot hfl (by omega) (fun k hk => by
          obtain ⟨_, _, _, _, _, _, hg⟩ := knot_up hf hs ho hd hk
          exact hg) μ
        refine ⟨μ1, ?_⟩
        rw [r_ret, r_call, r_list1, r_list1, r_list0]
        simp only [r_var, List.getElem?_cons_succ, List.getElem?_cons_zero, pure_bind, bind_assoc]
        rw [run_bind e1]
        rfl
      | cons k ks =>
        rw [if_neg (by simp)]
        dsimp only
        have hk : s[k]? = some (-1) := by
          have : k ∈ need f s := by rw [hd]; exact List.mem_cons_self
          unfold need at this
          rw [if_pos ho] at this
          exact mem_gaps.mp (List.mem_filter.mp this).1
        have hkl := (List.getElem?_eq_some_iff.mp hk).1
        have hkz : k < sizes.length := by omega
        have hz : sizes[k]? = some sizes[k] := List.getElem?_eq_getElem hkz
        have hzb := ok.2 _ (List.getElem_mem hkz)
        obtain ⟨z, hze⟩ : ∃ z : Nat, sizes[k] = (z : Int) := ⟨sizes[k].toNat, by omega⟩
        have a4 : sAsg (.v 4) (eNewL []) [some (dKd sizes m), some (dF f), some (dS s), some (dN (k :: ks)), none, none, none] μ = some ((gV sizes m f s (k :: ks) μ.length none none, .next), μ ++ .lst (([] : List Tr).map dT) :: []) := by
          simp [eNewL, newH, bind_def, map_def, pure_def]
        have hw : wRange1 (eOp2 idxD (eOp2 idxD (eVar 0) (eC (.int 0))) (eOp2 idxD (eVar 3) (eC (.int 0)))) (gV sizes m f s (k :: ks) μ.length none none) = pure ((List.range z).map fun (v : Nat) => D.int (v : Int), .no) := by
          have x0 : idxD (dKd sizes m) (.int 0) = pure (dS sizes) := idx_t0 _ _
          have x1 : idxD (dN (k :: ks)) (.int 0) = pure (.int (k : Int)) := idx_t0 _ _
          have x2 : idxD (dS sizes) (.int (k : Int)) = pure (.int (z : Int)) := idx_tup (by rw [List.getElem?_map, hz, hze]; rfl)
          simp only [r_wrange1, r_op2, r_var, r_c, List.getElem?_cons_zero, List.getElem?_cons_succ, pure_bind, x0, x1, x2, r_toI]
          rw [if_pos (by omega), rangeN]
        have hg : (List.range (sizes[k]?.getD 0).toNat).map (fun (v : Nat) => gr sizes n f (withv s k (v : Int))) = (List.range z).map (fun (v : Nat) => gr sizes n f (withv s k (v : Int))) := by
          rw [hz, hze]
          simp
        rw [hg]
        show ∃ μ', (sNop _ >>= _ >>= retK) μ = _
        rw [show sNop [some (dKd sizes m), some (dF f), some (dS s), some (dN (k :: ks)), none, none, none] = pure ([some (dKd sizes m), some (dF f), some (dS s), some (dN (k :: ks)), none, none, none], DL.Flow.next) from rfl, pure_bind, r_seqn, r_seq, bind_assoc, run_bind a4, r_seqn, r_seq, r_for, hw, pure_bind, bind_assoc]
        have hrec : ∀ v ∈ List.range z, Grow (py_grown n [dKd sizes m, dF f, dS (withv s k (v : Int))]) (dPap f (gr sizes n f (withv s k (v : Int)))) := fun v hv => by
          rw [List.mem_range] at hv
          exact ev_grown ok hf n _ (withv_mem hs hkl ⟨by omega, fun j hj => by rw [hz] at hj; cases hj; omega⟩) (by have := ngap_step (v := v) hk; omega)
        rcases gr_loop (P := fun v => gr sizes n f (withv s k (v : Int))) (its := (List.range z).map fun (v : Nat) => D.int (v : Int)) (show s.length ≤ 1000 by omega) (List.range z) [] [] none none hrec (by simp; omega) with ⟨w, Γ', ext', q1, q2⟩ | ⟨ts', o5, o6, ext', q1, q2⟩
        · refine ⟨ext', ?_⟩
          rw [q1, run_bind q2]
          rfl
        · refine ⟨.lst (ts'.map dT) :: ext', ?_⟩
          have x1 : idxD (dN (k :: ks)) (.int 0) = pure (.int (k : Int)) := idx_t0 _ _
          rw [q1, run_bind q2, r_seqn]
          simp [bind_def, map_def, pure_def, tupleD, itemsD, getH, x1, dPap, dT, dTs_eq]
end
end K40
/-! UH: what the sorted tree and the grown paper tell -/
namespace K40
open PySem DL
theorem over_put {s w : List Int} {k : Nat} (hk : s[k]? = some (-1)) (hb : below s w = true) {v : Nat} (hw : w[k]? = some (v : Int)) : below (withv s k (v : Int)) w = true := by
  have hkl := (List.getElem?_eq_some_iff.mp hk).1
  rw [below_iff, withv_set hkl]
  intro i x y e1 e2
  by_cases hi : k = i
  · subst hi
    rw [List.getElem?_set_self hkl] at e1
    rw [hw] at e2
    right
    have e1 : (v : Int) = x := Option.some.inj e1
    have e2 : (v : Int) = y := Option.some.inj e2
    omega
  · rw [List.getElem?_set_ne hi] at e1
    exact below_iff.mp hb i x y e1 e2
theorem whole_at {sizes w : List Int} (hw : w ∈ rows 0 sizes) {k : Nat} (hk : k < sizes.length) : ∃ v : Nat, w[k]? = some (v : Int) ∧ (v : Int) < sizes[k] := by
  obtain ⟨h1, h2⟩ := (mem_rows sizes w).mp hw
  have hwk : w[k]? = some w[k] := List.getElem?_eq_getElem (by omega)
  have := h2 k sizes[k] w[k] (List.getElem?_eq_getElem hk) hwk
  exact ⟨(w[k]).toNat, by rw [hwk]; congr 1; omega, by omega⟩
/-! ### the tree of a paper -/
theorem coll_tree {k : Nat} : ∀ {ps : List Pap} {ts : List Tr} {t : Tr}, coll k ps ts = .tree t → ∃ ts', ps = ts'.map Pap.tree ∧ t = .node k (ts ++ ts')
  | [], ts, t, h => ⟨[], rfl, by rw [coll] at h; cases h; rw [List.append_nil]⟩
  | .knot z :: ps, ts, t, h => by rw [coll] at h; cases h
  | .tree u :: ps, ts, t, h => by
    rw [coll] at h
    obtain ⟨ts', e1, e2⟩ := coll_tree h
    exact ⟨u :: ts', by rw [List.map_cons, e1], by rw [e2, List.append_assoc]; rfl⟩
theorem coll_knot {k : Nat} {z : List Int} : ∀ {ps : List Pap} {ts : List Tr}, coll k ps ts = .knot z → Pap.knot z ∈ ps
  | [], ts, h => by rw [coll] at h; cases h
  | .knot y :: ps, ts, h => by
    rw [coll] at h
    cases h
    exact List.mem_cons_self
  | .tree u :: ps, ts, h => by
    rw [coll] at h
    exact List.mem_cons_of_mem _ (coll_knot h)
section
variable {sizes : List Int} {m : Int} {f : Pts}
theorem need_gap {s : List Int} {k : Nat} (ho : isOp f s = true) (h : k ∈ need f s) : s[k]? = some (-1) := by
  unfold need at h
  rw [if_pos ho] at h
  exact mem_gaps.mp (List.mem_filter.mp h).1
theorem gr_knot (ok : SzOk sizes) : ∀ (n : Nat) (s z : List Int), s ∈ rows (-1) sizes → ngap s + 1 ≤ n → gr sizes n f s = .knot z → z ∈ rows (-1) sizes ∧ isOp f z = true ∧ need f z = []
  | 0, s, z, _, h, _ => by omega
  | n + 1, s, z, hs, hn, h => by
    unfold gr at h
    by_cases ho : isOp f s = true
    · rw [if_pos ho] at h
      cases hd : need f s with
      | nil =>
        rw [hd] at h
        cases h
        exact ⟨hs, ho, hd⟩
      | cons k ks =>
        rw [hd] at h
        dsimp only at h
        have hk := need_gap ho (by rw [hd]; exact List.mem_cons_self)
        have hkl := (List.getElem?_eq_some_iff.mp hk).1
        have hkz : k < sizes.length := by have := ((mem_rows sizes s).mp hs).1; omega
        obtain ⟨v, hv, e⟩ := List.mem_map.mp (coll_knot h)
        rw [List.mem_range, List.getElem?_eq_getElem hkz, Option.getD_some] at hv
        exact gr_knot ok n _ z (withv_mem hs hkl ⟨by omega, fun j hj => by rw [List.getElem?_eq_getElem hkz] at hj; cases hj; omega⟩) (by have := ngap_step (v := v) hk; omega) e
    · rw [if_neg ho] at h
      cases h
/-- what f answers, it answers above -/
def Mon (sizes : List Int) (f : Pts) : Prop := ∀ s ∈ rows (-1) sizes, ∀ w ∈ rows (-1) sizes, below s w = true → ansAt f s ≠ -1 → ansAt f w = ansAt f s
/-! ### a function that a tree tells has no knot -/
theorem stuck : ∀ (N : Nat) (left : List Nat) (T : Tr), VT sizes N left T → ∀ z : List Int, (∀ (i : Nat) (x : Int), z[i]? = some x → -1 ≤ x) → rn N T z = -1 → (∀ w : List Int, w.length = z.length → below z w = true → rn N T w = -1) ∨ ∃ k : Nat, z[k]? = some (-1) ∧ ∀ w : List Int, w.length = z.length → below z w = true → rn N T w ≠ -1 → w[k]? ≠ some (-1) := by
  intro N
  induction N with
  | zero =>
    intro left T hv z hz h
    cases T with
    | leaf a => exact .inl fun w _ _ => h
    | node k bs => exact hv.elim
  | succ N ih =>
    intro left T hv z hz h
    cases T with
    | leaf a => exact .inl fun w _ _ => h
    | node k bs =>
      obtain ⟨_, _, hb⟩ := hv
      by_cases hk : k < z.length
      · have hzk : z[k]? = some z[k] := List.getElem?_eq_getElem hk
        by_cases hx : z[k] = -1
        · refine .inr ⟨k, by rw [hzk, hx], fun w hw hbw hne hwk => ?_⟩
          unfold rn at hne
          rw [hwk] at hne
          exact hne rfl
        · unfold rn at h
          rw [hzk] at h
          dsimp only at h
          rw [if_neg hx] at h
          have same : ∀ w : List Int, w.length = z.length → below z w = true → w[k]? = some z[k] := fun w hw hbw => by
            have hwk : w[k]? = some w[k] := List.getElem?_eq_getElem (by omega)
            rcases below_iff.mp hbw k _ _ hzk hwk with e | e
            · exact absurd e hx
            · rw [hwk, e]
          cases hbx : bs[(z[k]).toNat]? with
          | none =>
            refine .inl fun w hw hbw => ?_
            unfold rn
            rw [same w hw hbw]
            dsimp only
            rw [if_neg hx, hbx]
          | some b =>
            rw [hbx] at h
            have eq : ∀ w : List Int, w.length = z.length → below z w = true → rn (N + 1) (.node k bs) w = rn N b w := fun w hw hbw => by
              conv => lhs; unfold rn
              rw [same w hw hbw]
              dsimp only
              rw [if_neg hx, hbx]
            rcases ih _ b (hb b (List.mem_of_getElem? hbx)) z hz h with g | ⟨j, j1, j2⟩
            · exact .inl fun w hw hbw => by rw [eq w hw hbw]; exact g w hw hbw
            · exact .inr ⟨j, j1, fun w hw hbw hne => j2 w hw hbw (by rw [← eq w hw hbw]; exact hne)⟩
      · refine .inl fun w hw hbw => ?_
        unfold rn
        rw [List.getElem?_eq_none (by omega)]
theorem no_knot (hf : FnB sizes m f) {N : Nat} {left : List Nat} {T : Tr} (hv : VT sizes N left T) (ht : ∀ s ∈ rows (-1) sizes, ansAt f s = rn N T s) {z : List Int} (hz : z ∈ rows (-1) sizes) (ho : isOp f z = true) : need f z ≠ [] := by
  obtain ⟨z1, z2⟩ := (mem_rows sizes z).mp hz
  have ho' := ho
  unfold isOp at ho'
  rw [Bool.and_eq_true, beq_iff_eq, List.any_eq_true] at ho'
  obtain ⟨ha, p, hp, hfit⟩ := ho'
  have up : ∀ q ∈ f, fits q.1 z = true → jn q.1 z ∈ rows (-1) sizes ∧ below z (jn q.1 z) = true ∧ rn N T (jn q.1 z) ≠ -1 := fun q hq hfq => by
    have hqr := (hf q hq).1
    obtain ⟨o1, o2⟩ := jn_over hqr hz hfq
    have hr := jn_rows hqr hz
    exact ⟨hr, o2, by rw [← ht _ hr]; exact ans_some hf ⟨q, hq, o1⟩⟩
  rcases stuck N left T hv z (fun i x hx => by
      have hi := (List.getElem?_eq_some_iff.mp hx).1
      exact (z2 i sizes[i] x (List.getElem?_eq_getElem (by omega)) hx).1) (by rw [← ht z hz]; exact ha) with g | ⟨k, k1, k2⟩
  · obtain ⟨u1, u2, u3⟩ := up p hp hfit
    exact absurd (g _ (by rw [((mem_rows sizes _).mp u1).1, z1]) u2) u3
  · intro hn
    have : k ∈ need f z := by
      unfold need
      rw [if_pos ho]
      refine List.mem_filter.mpr ⟨mem_gaps.mpr k1, ?_⟩
      rw [List.all_eq_true]
      intro q hq
      obtain ⟨q1, q2⟩ := List.mem_filter.mp hq
      obtain ⟨u1, u2, u3⟩ := up q q1 q2
      have hw := k2 _ (by rw [((mem_rows sizes _).mp u1).1, z1]) u2 u3
      simp
      intro e
      apply hw
      rw [jn_get e k1]
      rfl
    rw [hn] at this
    cases this
end
end K40
/-! VC: least_points, when_known, turned -/
namespace K40
open PySem DL
theorem eqb_ints2 : ∀ a b : List Int, eqbL (a.map D.int) (b.map D.int) = (a == b)
  | [], [] => by simp [eqbL]
  | [], _ :: _ => by simp [eqbL]
  | _ :: _, [] => by simp [eqbL]
  | x :: a, y :: b => by
    rw [List.map_cons, List.map_cons, eqbL, eqb_ints2 a b]
    simp
theorem ne_dS (a b : List Int) : neD (dS a) (dS b) = pure (.bl (!(a == b))) := by
  unfold neD
  rw [flt_dS 59, flt_dS 59]
  have : eqb (dS a) (dS b) = (a == b) := by
    unfold dS
    rw [eqb]
    exact eqb_ints2 a b
  rw [this]
  rfl
theorem setSort_dP {R : Pts} (h : R.length < 64) : setSortD (.lst (R.map dP)) = pure (.lst (((dd R).mergeSort leP).map dP)) := by
  unfold setSortD
  dsimp only
  rw [toPairs_dP]
  dsimp only
  rw [if_pos h]
  rfl
/-- no other pair is below -/
def lone (R : Pts) (p : List Int × Int) : Bool := !(R.any fun o => !(o.1 == p.1) && below o.1 p.1)
def lp (R : Pts) : Pts := ((dd R).mergeSort leP).filter (lone R)
theorem len_dd : ∀ l : Pts, (dd l).length ≤ l.length
  | [] => Nat.le_refl _
  | p :: l => by
    have ih := len_dd l
    unfold dd
    split
    · exact Nat.le_succ_of_le ih
    · exact Nat.succ_le_succ ih
abbrev lpBody : S := (sIf (tNot (tVal (eOp1 anyD (eComp [4, 5] (wSeq (eVar 0)) (.t (.cons (.v 4) (.cons (.v 5) .nil))) none (eAnd (eOp2 neD (eVar 4) (eVar 2)) (eCall (py_is_below) [(eVar 4), (eVar 2)]))))))
    (sExpr (eAppend (eVar 1) (eTup [(eVar 2), (eVar 3)])))
    sNop)
theorem ev_least {R : Pts} (h4 : R.length < 64) : Grow (py_least_points [.lst (R.map dP)]) (dF (lp R)) := fun μ => by
  have hlen : ((dd R).mergeSort leP).length < 64 := by
    rw [List.length_mergeSort]
    have := len_dd R
    omega
  obtain ⟨Γ', μ', e1, e2, o2, o3, o4, o5, rfl⟩ := forL_wp (α := List Int × Int) (its := ((dd R).mergeSort leP).map dP) (enc := dP) (tg := .t (.cons (.v 2) (.cons (.v 3) .nil))) (g := .no) (body := lpBody)
    (fun d Γ μ' => μ' = μ ++ [.lst ((d.filter (lone R)).map dP)] ∧ ∃ o2 o3 o4 o5, Γ = [some (.lst (R.map dP)), some (.h μ.length), o2, o3, o4, o5]) (fun _ _ _ _ => rfl) ((dd R).mergeSort leP) []
    [some (.lst (R.map dP)), some (.h μ.length), none, none, none, none] (μ ++ [.lst []]) (by
      rintro d p rest Γ μ' hd ⟨rfl, o2, o3, o4, o5, rfl⟩
      have hd' : (dd R).mergeSort leP = d ++ p :: rest := by simpa using hd
      have hdl : d.length < 64 := by
        have := congrArg List.length hd'
        simp at this hlen
        omega
      refine ⟨[some (.lst (R.map dP)), some (.h μ.length), some (dS p.1), some (.int p.2), o4, o5], [some (.lst (R.map dP)), some (.h μ.length), some (dS p.1), some (.int p.2), o4, o5], μ ++ [.lst (((d ++ [p]).filter (lone R)).map dP)], rfl, ?_, rfl, _, _, _, _, rfl⟩
      have test : tNot (tVal (eOp1 anyD (eComp [4, 5] (wSeq (eVar 0)) (.t (.cons (.v 4) (.cons (.v 5) .nil))) none (eAnd (eOp2 neD (eVar 4) (eVar 2)) (eCall (py_is_below) [(eVar 4), (eVar 2)]))))) [some (.lst (R.map dP)), some (.h μ.length), some (dS p.1), some (.int p.2), o4, o5] = pure (lone R p) := by
        have hw : wSeq (eVar 0) [some (.lst (R.map dP)), some (.h μ.length), some (dS p.1), some (.int p.2), o4, o5] = pure (R.map dP, .no) := rfl
        rw [r_tnot, r_tval, r_op1, r_comp, hw, pure_bind, compL_map (h := fun o : List Int × Int => D.bl (!(o.1 == p.1) && below o.1 p.1)), pure_bind]
        · simp [anyD, toBls_map, lone, List.any_map]
        · intro o ho
          simp only [oneC, dP, r_wipe1, r_wipe0, r_putt, r_put1, r_put0, r_putv, Option.bind_some, r_lift, pure_bind, r_and, r_op2, r_c, r_var, r_call, r_list1, r_list0, List.set_cons_succ, List.set_cons_zero, List.getElem?_cons_succ, List.getElem?_cons_zero, ne_dS, ev_below, r_toBl]
          cases o.1 == p.1 <;> cases below o.1 p.1 <;> simp
      unfold lpBody
      rw [r_sif, test, pure_bind, List.filter_append]
      by_cases hq : lone R p = true
      · have ap := append_at (a := eVar 1) (e := eTup [(eVar 2), (eVar 3)]) (Γ := [some (.lst (R.map dP)), some (.h μ.length), some (dS p.1), some (.int p.2), o4, o5]) (n := μ.length) (d := dP p) (ds := (d.filter (lone R)).map dP) (μ := μ ++ [.lst ((d.filter (lone R)).map dP)]) (μ1 := μ ++ [.lst ((d.filter (lone R)).map dP)]) rfl (by simp) (by simp [pure_def, dP]) (by simp) (by
          have := List.length_filter_le (lone R) d
          rw [List.length_map]; unfold lim; omega)
        rw [if_pos hq, r_expr, run_bind ap, set1, List.filter_cons, if_pos hq]
        simp [pure_def]
      · rw [if_neg hq, List.filter_cons, if_neg hq]
        simp [sNop, pure_def]) ⟨rfl, _, _, _, _, rfl⟩
  rw [List.nil_append] at e2
  refine ⟨[.lst ((((dd R).mergeSort leP).filter (lone R)).map dP)], ?_⟩
  simp only [py_least_points, r_fn]
  rw [if_pos (show [D.lst (R.map dP)].length = 1 from rfl)]
  show (sSeq _ _ [some (.lst (R.map dP)), none, none, none, none, none] >>= retK) μ = _
  have s1 : sAsg (.v 1) (eNewL []) [some (.lst (R.map dP)), none, none, none, none, none] μ = some (([some (.lst (R.map dP)), some (.h μ.length), none, none, none, none], .next), μ ++ [.lst []]) := by
    simp [eNewL, newH, bind_def, map_def, pure_def]
  have hw : wSeq (eOp1 setSortD (eVar 0)) [some (.lst (R.map dP)), some (.h μ.length), none, none, none, none] = pure (((dd R).mergeSort leP).map dP, .no) := by
    simp [setSort_dP h4, itemsD]
  rw [r_seq, bind_assoc, run_bind s1, r_seqn, r_seq, r_for, hw, pure_bind, bind_assoc, run_bind e1, r_seqn, e2]
  simp [tupleD, itemsD, bind_def, map_def, pure_def, getH, dF, lp]
/-- the argument at k may be x -/
def mayBe (k : Nat) (x : Int) (s : List Int) : Bool := s[k]? == some (-1) || s[k]? == some x
abbrev cut1 (k : Nat) (p : List Int × Int) : List Int × Int := (withv p.1 k (-1), p.2)
def known1 (F : Pts) (k : Nat) (x : Int) : Pts := (F.filter fun p => mayBe k x p.1).map (cut1 k)
end K40
/-! VD: a function with an argument told ahead -/
namespace K40
open PySem DL
theorem withv_twice {s : List Int} {k : Nat} (hk : k < s.length) (a b : Int) : withv (withv s k a) k b = withv s k b := by
  rw [withv_set hk, withv_set hk, withv_set (by rw [List.length_set]; exact hk)]
  rw [List.set_set]
theorem withv_comm {s : List Int} {j k : Nat} (hj : j < s.length) (hk : k < s.length) (h : j ≠ k) (a b : Int) : withv (withv s j a) k b = withv (withv s k b) j a := by
  rw [withv_set hj, withv_set hk, withv_set (by rw [List.length_set]; exact hk), withv_set (by rw [List.length_set]; exact hj)]
  exact List.set_comm _ _ h
theorem withv_same {s : List Int} {k : Nat} {x : Int} (h : s[k]? = some x) : withv s k x = s := by
  have hk := (List.getElem?_eq_some_iff.mp h).1
  rw [withv_set hk]
  apply List.ext_getElem?
  intro i
  by_cases hi : k = i
  · subst hi
    rw [List.getElem?_set_self hk, h]
  · rw [List.getElem?_set_ne hi]
section
variable {sizes : List Int} {t : List Int → Int} {k : Nat} {x : Int}
/-- below, with the same value put in at k -/
theorem below_put {u w : List Int} (hu : k < u.length) (hw : k < w.length) (h : below u w = true) (y : Int) : below (withv u k y) (withv w k y) = true := by
  rw [below_iff, withv_set hu, withv_set hw]
  intro i a b e1 e2
  by_cases hi : k = i
  · subst hi
    rw [List.getElem?_set_self hu] at e1
    rw [List.getElem?_set_self hw] at e2
    exact .inr (by rw [← Option.some.inj e1, ← Option.some.inj e2])
  · rw [List.getElem?_set_ne hi] at e1 e2
    exact below_iff.mp h i a b e1 e2
theorem put_over {s : List Int} (hk : k < s.length) (hm : mayBe k x s = true) : below s (withv s k x) = true := by
  rw [below_iff, withv_set hk]
  intro i a b e1 e2
  by_cases hi : k = i
  · subst hi
    rw [List.getElem?_set_self hk] at e2
    unfold mayBe at hm
    rw [e1, Bool.or_eq_true] at hm
    rcases hm with h | h
    · exact .inl (by simpa using h)
    · right
      have h : a = x := by simpa using h
      rw [h]
      exact (Option.some.inj e2).symm
  · rw [List.getElem?_set_ne hi, e1] at e2
    exact .inr (Option.some.inj e2).symm
theorem cut_under {s : List Int} (hk : k < s.length) (y : Int) : below (withv s k (-1)) (withv s k y) = true := by
  rw [below_iff, withv_set hk, withv_set hk]
  intro i a b e1 e2
  by_cases hi : k = i
  · subst hi
    rw [List.getElem?_set_self hk] at e1
    exact .inl (Option.some.inj e1).symm
  · rw [List.getElem?_set_ne hi] at e1 e2
    rw [e1] at e2
    exact .inr (Option.some.inj e2).symm
variable (ok : SzOk sizes) (hk : k < sizes.length) (hx : 0 ≤ x ∧ x < sizes[k]'hk) (hup : Up sizes t)
/-- the function with x told for k -/
abbrev tk (t : List Int → Int) (k : Nat) (x : Int) : List Int → Int := fun s => t (withv s k x)
theorem wrow (ok : SzOk sizes) (hk : k < sizes.length) {s : List Int} (hs : s ∈ rows (-1) sizes) {y : Int} (hy : -1 ≤ y ∧ y < sizes[k]'hk) : withv s k y ∈ rows (-1) sizes := by
  have hl := ((mem_rows sizes s).mp hs).1
  exact withv_mem hs (by omega) ⟨hy.1, fun n hn => by rw [List.getElem?_eq_getElem hk] at hn; cases hn; exact hy.2⟩
theorem wlen (hk : k < sizes.length) {s : List Int} (hs : s.length = sizes.length) (y : Int) : (withv s k y).length = sizes.length := by rw [withv_set (by omega), List.length_set]; exact hs
include hup in
theorem tk_up (hk : k < sizes.length) : Up sizes (tk t k x) := fun s w hs hw hb hn => hup _ _ (wlen hk hs x) (wlen hk hw x) (below_put (by omega) (by omega) hb x) hn
theorem low_iff' {t : List Int → Int} {s : List Int} : low t s = true ↔ ∀ (k : Nat) (x : Int), s[k]? = some x → x ≠ -1 → t (withv s k (-1)) = -1 := by
  unfold low
  rw [List.all_eq_true]
  constructor
  · intro a k x e hx
    have hk := (List.getElem?_eq_some_iff.mp e).1
    have := a k (List.mem_filter.mpr ⟨List.mem_range.mpr hk, by rw [e]; simpa using hx⟩)
    simpa using this
  · intro a k hk
    obtain ⟨h1, h2⟩ := List.mem_filter.mp hk
    rw [List.mem_range] at h1
    have e : s[k]? = some s[k] := List.getElem?_eq_getElem h1
    rw [e] at h2
    rw [a k s[k] e (by simpa using h2)]
    rfl
/-- a state strictly below knows something less -/
theorem strict {v u : List Int} (hl : v.length = u.length) (hb : below v u = true) (hne : v ≠ u) : ∃ (j : Nat) (y : Int), u[j]? = some y ∧ y ≠ -1 ∧ below v (withv u j (-1)) = true := by
  have : ∃ j : Nat, v[j]? ≠ u[j]? := by
    apply Classical.byContradiction
    intro h
    exact hne (List.ext_getElem? fun i => Classical.byContradiction fun z => h ⟨i, z⟩)
  obtain ⟨j, hj⟩ := this
  have hjl : j < u.length := by
    apply Classical.byContradiction
    intro z
    exact hj (by rw [List.getElem?_eq_none (by omega), List.getElem?_eq_none (by omega)])
  have ev : v[j]? = some v[j] := List.getElem?_eq_getElem (by omega)
  have eu : u[j]? = some u[j] := List.getElem?_eq_getElem hjl
  have hv : v[j] = -1 := by
    rcases below_iff.mp hb j _ _ ev eu with h | h
    · exact h
    · exact absurd (by rw [ev, eu, h]) hj
  refine ⟨j, u[j], eu, fun z => hj (by rw [ev, eu, hv, z]), ?_⟩
  rw [below_iff, withv_set hjl]
  intro i a b e1 e2
  by_cases hi : j = i
  · subst hi
    rw [ev] at e1
    exact .inl (by rw [← Option.some.inj e1, hv])
  · rw [List.getElem?_set_ne hi] at e2
    exact below_iff.mp hb i a b e1 e2
include ok hk hx hup
theorem known_val {q : List Int × Int} (hq : q ∈ pts sizes t) (hm : mayBe k x q.1 = true) : (cut1 k q).1 ∈ rows (-1) sizes ∧ tk t k x (cut1 k q).1 = q.2 ∧ q.2 ≠ -1 := by
  obtain ⟨q1, q2, q3⟩ := pts_mem.mp hq
  have ql := ((mem_rows sizes q.1).mp q1).1
  unfold minP at q2
  rw [Bool.and_eq_true] at q2
  have hne : t q.1 ≠ -1 := by simpa using q2.1
  have hw := wlen hk ql x
  refine ⟨wrow ok hk q1 ⟨by omega, by omega⟩, ?_, by rw [q3]; exact hne⟩
  show t (withv (withv q.1 k (-1)) k x) = q.2
  rw [withv_twice (by omega), q3]
  exact hup _ _ ql hw (put_over (by omega) hm) hne
/-- a least state of the told function comes from a point -/
theorem known_min {u : List Int} (hu : u ∈ rows (-1) sizes) (hm : minP (tk t k x) u = true) : (u, tk t k x u) ∈ known1 (pts sizes t) k x := by
  have ul := ((mem_rows sizes u).mp hu).1
  unfold minP at hm
  rw [Bool.and_eq_true, low_iff'] at hm
  have hne : t (withv u k x) ≠ -1 := by simpa using hm.1
  have huk : u[k]? = some (-1) := by
    have e : u[k]? = some u[k] := List.getElem?_eq_getElem (by omega)
    by_cases h : u[k] = -1
    · rw [e, h]
    · have := hm.2 k u[k] e h
      have : t (withv (withv u k (-1)) k x) = -1 := this
      rw [withv_twice (by omega)] at this
      exact absurd this hne
  have hwr := wrow ok hk hu (y := x) ⟨by omega, hx.2⟩
  obtain ⟨q, q1, q2, q3⟩ := least_under (pos_of ok) _ (withv u k x) rfl hwr hne
  have ql := ((mem_rows sizes q).mp q1).1
  have hqk : mayBe k x q = true := by
    have eq1 : q[k]? = some q[k] := List.getElem?_eq_getElem (by omega)
    have ew : (withv u k x)[k]? = some x := withv_get (by omega)
    unfold mayBe
    rw [eq1]
    rcases below_iff.mp q3 k _ _ eq1 ew with h | h
    · simp [h]
    · simp [h]
  have hq : (q, t q) ∈ pts sizes t := pts_mem.mpr ⟨q1, q2, rfl⟩
  obtain ⟨c1, c2, c3⟩ := known_val ok hk hx hup hq hqk
  have hbel : below (withv q k (-1)) u = true := by
    have h1 := below_put (k := k) (by omega) (by rw [wlen hk ul x]; exact hk) q3 (-1)
    rw [withv_twice (by omega), withv_same huk] at h1
    exact h1
  have heq : withv q k (-1) = u := by
    apply Classical.byContradiction
    intro hne2
    obtain ⟨j, y, j1, j2, j3⟩ := strict (by rw [wlen hk ql (-1), ul]) hbel hne2
    have hj := (List.getElem?_eq_some_iff.mp j1).1
    have h0 := hm.2 j y j1 j2
    have hcv : tk t k x (withv q k (-1)) ≠ -1 := by
      have : tk t k x (cut1 k (q, t q)).1 ≠ -1 := by rw [c2]; exact c3
      exact this
    have := tk_up (x := x) hup hk (withv q k (-1)) (withv u j (-1)) (wlen hk ql (-1)) (by rw [withv_set hj, List.length_set]; exact ul) j3 hcv
    rw [h0] at this
    exact hcv this.symm
  refine List.mem_map.mpr ⟨(q, t q), List.mem_filter.mpr ⟨hq, hqk⟩, ?_⟩
  refine Prod.ext heq ?_
  show t q = tk t k x u
  rw [← heq]
  exact c2.symm
theorem known_pts : lp (known1 (pts sizes t) k x) = pts sizes (tk t k x) := by
  refine strict_unique ltP_irr (fun _ _ => ltP_asymm) ((sort_strict (nodup_dd _)).filter _) (pts_strict _ _) fun p => ?_
  unfold lp
  rw [List.mem_filter, List.mem_mergeSort, mem_dd, pts_mem]
  have pair : ∀ o ∈ known1 (pts sizes t) k x, o.1 ∈ rows (-1) sizes ∧ tk t k x o.1 = o.2 ∧ o.2 ≠ -1 := fun o ho => by
    obtain ⟨q, hq, rfl⟩ := List.mem_map.mp ho
    obtain ⟨h1, h2⟩ := List.mem_filter.mp hq
    exact known_val ok hk hx hup h1 h2
  constructor
  · rintro ⟨h1, h2⟩
    obtain ⟨a1, a2, a3⟩ := pair p h1
    have pl := ((mem_rows sizes p.1).mp a1).1
    refine ⟨a1, ?_, a2.symm⟩
    unfold minP
    rw [Bool.and_eq_true, low_iff']
    refine ⟨by rw [a2]; simpa using a3, fun j y e hy => ?_⟩
    apply Classical.byContradiction
    intro hn
    have hj := (List.getElem?_eq_some_iff.mp e).1
    have hjr := wrow (k := j) ok (by omega) a1 (y := -1) ⟨by omega, by have := ok.2 _ (List.getElem_mem (show j < sizes.length by omega)); omega⟩
    obtain ⟨q, q1, q2, q3⟩ := least_under (pos_of ok) _ (withv p.1 j (-1)) rfl hjr hn
    have hq := known_min ok hk hx hup q1 q2
    have ql := ((mem_rows sizes q).mp q1).1
    unfold lone at h2
    rw [Bool.not_eq_true', List.any_eq_false] at h2
    refine h2 _ hq ?_
    rw [Bool.and_eq_true]
    have hb : below q p.1 = true := below_trans (by rw [ql, withv_set hj, List.length_set, pl]) q3 (withv_down hj)
    refine ⟨?_, hb⟩
    rw [Bool.not_eq_true']
    apply beq_false_of_ne
    intro z
    have z : q = p.1 := z
    rw [z] at q3
    have := below_iff.mp q3 j y (-1) e (withv_get hj)
    rcases this with h | h
    · exact hy h
    · exact hy h.symm
  · rintro ⟨h1, h2, h3⟩
    have hp := known_min ok hk hx hup h1 h2
    have ep : p = (p.1, tk t k x p.1) := Prod.ext rfl h3
    refine ⟨by rw [ep]; exact hp, ?_⟩
    unfold lone
    rw [Bool.not_eq_true', List.any_eq_false]
    intro o ho hh
    rw [Bool.and_eq_true, Bool.not_eq_true'] at hh
    have hne : o.1 ≠ p.1 := fun z => by simp [z] at hh
    obtain ⟨b1, b2, b3⟩ := pair o ho
    have ol := ((mem_rows sizes o.1).mp b1).1
    have pl := ((mem_rows sizes p.1).mp h1).1
    obtain ⟨j, y, j1, j2, j3⟩ := strict (by omega) hh.2 hne
    have hj := (List.getElem?_eq_some_iff.mp j1).1
    unfold minP at h2
    rw [Bool.and_eq_true, low_iff'] at h2
    have h0 := h2.2 j y j1 j2
    have := tk_up (x := x) hup hk o.1 (withv p.1 j (-1)) ol (by rw [withv_set hj, List.length_set]; exact pl) j3 (by rw [b2]; exact b3)
    rw [h0, b2] at this
    exact b3 this.symm
end
end K40
/-! VE: sequential functions -/
namespace K40
open PySem DL
section
variable {sizes : List Int} {m : Int} {f : Pts}
theorem need_all {s : List Int} {k : Nat} (ho : isOp f s = true) (h : k ∈ need f s) : ∀ q ∈ f, fits q.1 s = true → q.1[k]? ≠ some (-1) := fun q hq hf => by
  unfold need at h
  rw [if_pos ho] at h
  have := (List.mem_filter.mp h).2
  rw [List.all_eq_true] at this
  have := this q (List.mem_filter.mpr ⟨hq, hf⟩)
  simpa using this
theorem gr_told (ok : SzOk sizes) (hf : FnB sizes m f) (hm : Mon sizes f) : ∀ (n : Nat) (s : List Int) (t : Tr), s ∈ rows (-1) sizes → ngap s + 1 ≤ n → gr sizes n f s = .tree t → (∀ left, Cov left s → VT sizes n left t) ∧ ∀ w ∈ rows (-1) sizes, below s w = true → rn n t w = ansAt f w
  | 0, s, t, _, h, _ => by omega
  | n + 1, s, t, hs, hn, h => by
    have hsl := ((mem_rows sizes s).mp hs).1
    unfold gr at h
    by_cases ho : isOp f s = true
    · rw [if_pos ho] at h
      cases hd : need f s with
      | nil => rw [hd] at h; cases h
      | cons k ks =>
        rw [hd] at h
        dsimp only at h
        have hkn : k ∈ need f s := by rw [hd]; exact List.mem_cons_self
        have hk := need_gap ho hkn
        have hkl := (List.getElem?_eq_some_iff.mp hk).1
        have hkz : k < sizes.length := by omega
        have hz : sizes[k]? = some sizes[k] := List.getElem?_eq_getElem hkz
        have hzb := ok.2 _ (List.getElem_mem hkz)
        obtain ⟨ts, e1, e2⟩ := coll_tree h
        rw [List.nil_append] at e2
        subst e2
        rw [hz, Option.getD_some] at e1
        have hlen : (sizes[k]).toNat = ts.length := by
          have := congrArg List.length e1
          simpa using this
        have at_v : ∀ v (hv : v < ts.length), gr sizes n f (withv s k (v : Int)) = .tree ts[v] := fun v hv => by
          have := congrArg (fun l => l[v]?) e1
          simp only [List.getElem?_map] at this
          rw [List.getElem?_range (by omega), List.getElem?_eq_getElem hv] at this
          exact Option.some.inj this
        have ih : ∀ v (hv : v < ts.length), (∀ left, Cov left (withv s k (v : Int)) → VT sizes n left ts[v]) ∧ ∀ w ∈ rows (-1) sizes, below (withv s k (v : Int)) w = true → rn n ts[v] w = ansAt f w := fun v hv =>
          gr_told ok hf hm n _ _ (withv_mem hs hkl ⟨by omega, fun j hj => by rw [hz] at hj; cases hj; omega⟩) (by have := ngap_step (v := v) hk; omega) (at_v v hv)
        refine ⟨fun left hc => ⟨hc k hk, by rw [hz]; congr 1; omega, fun b hb => ?_⟩, fun w hw hb => ?_⟩
        · obtain ⟨v, hv, rfl⟩ := List.getElem_of_mem hb
          exact (ih v hv).1 _ (cov_step hc hk)
        · obtain ⟨w1, w2⟩ := (mem_rows sizes w).mp hw
          have hwk : w[k]? = some w[k] := List.getElem?_eq_getElem (by omega)
          have hwb := w2 k _ _ hz hwk
          unfold rn
          rw [hwk]
          dsimp only
          by_cases hq : w[k] = -1
          · rw [if_pos hq]
            refine (ans_none fun q hq1 hbq => ?_).symm
            have hql := ((mem_rows sizes q.1).mp (hf q hq1).1).1
            have hfit := fits_down (c := q.1) (s := s) (s' := w) (by omega) hb (below_fits hbq)
            have hne := need_all ho hkn q hq1 hfit
            have hqk : q.1[k]? = some q.1[k] := List.getElem?_eq_getElem (by omega)
            rcases below_iff.mp hbq k _ _ hqk hwk with e | e
            · exact hne (by rw [hqk, e])
            · exact hne (by rw [hqk, ← e, hq])
          · rw [if_neg hq]
            have hv : (w[k]).toNat < ts.length := by omega
            rw [List.getElem?_eq_getElem hv]
            exact (ih _ hv).2 w hw (over_put hk hb (by rw [hwk]; congr 1; omega))
    · rw [if_neg ho] at h
      cases h
      refine ⟨fun _ _ => True.intro, fun w hw hb => ?_⟩
      have hwl := ((mem_rows sizes w).mp hw).1
      show ansAt f s = ansAt f w
      by_cases ha : ansAt f s = -1
      · rw [ha]
        refine (ans_none fun q hq hbq => ho ?_).symm
        unfold isOp
        rw [ha, Bool.and_eq_true, List.any_eq_true]
        exact ⟨rfl, q, hq, fits_down (by omega) hb (below_fits hbq)⟩
      · exact (hm s hs w hw hb ha).symm
end
def seqOf (sizes : List Int) (f : Pts) : Bool := match gr sizes 12 f (nothing sizes) with
  | .tree _ => true
  | .knot _ => false
theorem cov_nothing (sizes : List Int) : Cov (List.range sizes.length) (nothing sizes) := fun j hj => by
  have := (List.getElem?_eq_some_iff.mp hj).1
  rw [nothing_len] at this
  exact List.mem_range.mpr this
theorem gap0 {sizes : List Int} (ok : SzOk sizes) : ngap (nothing sizes) + 1 ≤ 12 := by
  have h2 := ngap_le (nothing sizes)
  rw [nothing_len] at h2
  have := ok.1
  omega
section
variable {sizes : List Int} {m : Int} {f : Pts}
theorem ev_isseq (ok : SzOk sizes) (hf : FnB sizes m f) : Grow (py_is_sequential [dKd sizes m, dF f]) (.bl (seqOf sizes f)) := fun μ => by
  obtain ⟨μ', e⟩ := ev_grown ok hf 12 _ (nothing_rows (pos_of ok)) (gap0 ok) μ
  refine ⟨μ', ?_⟩
  have h4 := ok.1
  have hx : idxD (dKd sizes m) (.int 0) = pure (dS sizes) := idx_t0 _ _
  have ht : py_turn_paper [dKd sizes m, dF f] μ = some (dPap f (gr sizes 12 f (nothing sizes)), μ ++ μ') := by
    simp only [py_turn_paper, r_fn]
    rw [if_pos (show [dKd sizes m, dF f].length = 2 from rfl)]
    show (sRet _ [some (dKd sizes m), some (dF f)] >>= retK) μ = _
    have hn : eCall (py_nothing_known) [(eOp2 idxD (eVar 0) (eC (.int 0)))] [some (dKd sizes m), some (dF f)] = pure (dS (nothing sizes)) := by
      simp only [r_call, r_list1, r_list0, r_op2, r_c, r_var, List.getElem?_cons_zero, pure_bind, hx, ev_nothing (show sizes.length ≤ 1000 by omega)]
    rw [r_ret, r_call, r_list1, r_list1, r_list1, hn, r_list0]
    simp only [r_var, List.getElem?_cons_succ, List.getElem?_cons_zero, pure_bind, bind_assoc]
    rw [run_bind e]
    rfl
  have h0 : ∀ p : Pap, idxD (dPap f p) (.int 0) = pure (.str (match p with | .knot _ => "knot" | .tree _ => "tree")) := fun p => by
    cases p <;> exact idx_t0 _ _
  simp only [py_is_sequential, r_fn]
  rw [if_pos (show [dKd sizes m, dF f].length = 2 from rfl)]
  show (sRet _ [some (dKd sizes m), some (dF f)] >>= retK) μ = _
  rw [r_ret, r_op2, r_op2, r_call, r_list1, r_list1, r_list0]
  simp only [r_var, r_c, List.getElem?_cons_succ, List.getElem?_cons_zero, pure_bind, bind_assoc]
  rw [run_bind ht, h0, pure_bind, eq_str]
  unfold seqOf
  cases gr sizes 12 f (nothing sizes) with
  | knot z => simp [eqb]; rfl
  | tree t => simp [eqb]; rfl
end
/-- a table's answers lie within the kind -/
def Tb (sizes : List Int) (m : Int) (t : List Int → Int) : Prop := ∀ s ∈ rows (-1) sizes, t s ≠ -1 → 0 ≤ t s ∧ t s ≤ m - 1
section
variable {sizes : List Int} {m : Int} {t : List Int → Int} (ok : SzOk sizes) (hup : Up sizes t) (hb : Tb sizes m t)
theorem pts_fnb (hb : Tb sizes m t) : FnB sizes m (pts sizes t) := fun p hp => by
  obtain ⟨h1, h2, h3⟩ := pts_mem.mp hp
  have hne : t p.1 ≠ -1 := by
    unfold minP at h2
    rw [Bool.and_eq_true] at h2
    simpa using h2.1
  have := hb p.1 h1 hne
  exact ⟨h1, by omega, by omega⟩
theorem pts_mon (ok : SzOk sizes) (hup : Up sizes t) : Mon sizes (pts sizes t) := fun s hs w hw hbl hn => by
  rw [ansAt_pts ok hup hs] at hn ⊢
  rw [ansAt_pts ok hup hw]
  exact hup s w ((mem_rows sizes s).mp hs).1 ((mem_rows sizes w).mp hw).1 hbl hn
theorem seq_known {k : Nat} {x : Int} (ok : SzOk sizes) (hup : Up sizes t) (hb : Tb sizes m t) (hk : k < sizes.length) (hx : 0 ≤ x ∧ x < sizes[k]'hk) (h : seqOf sizes (pts sizes t) = true) : seqOf sizes (pts sizes (tk t k x)) = true := by
  have hF := pts_fnb hb
  have hupk : Up sizes (tk t k x) := tk_up hup hk
  have h0 := nothing_rows (pos_of ok)
  unfold seqOf at h ⊢
  cases hg : gr sizes 12 (pts sizes (tk t k x)) (nothing sizes) with
  | tree _ => rfl
  | knot z =>
    exfalso
    obtain ⟨z1, z2, z3⟩ := gr_knot ok 12 _ z h0 (gap0 ok) hg
    cases hT : gr sizes 12 (pts sizes t) (nothing sizes) with
    | knot _ => rw [hT] at h; cases h
    | tree T =>
      obtain ⟨t1, t2⟩ := gr_told ok hF (pts_mon ok hup) 12 _ T h0 (gap0 ok) hT
      have zl := ((mem_rows sizes z).mp z1).1
      have zr := wrow ok hk z1 (y := x) ⟨by omega, hx.2⟩
      have zk : (withv z k x)[k]? = some x := withv_get (by omega)
      have z2' := z2
      unfold isOp at z2'
      rw [Bool.and_eq_true, beq_iff_eq, ansAt_pts ok hupk z1, List.any_eq_true] at z2'
      obtain ⟨ha, p, hp, hfit⟩ := z2'
      -- points of the told function come from points that fit
      have from_q : ∀ p ∈ pts sizes (tk t k x), ∃ q ∈ pts sizes t, p.1 = withv q.1 k (-1) ∧ q.1.length = sizes.length ∧ (fits p.1 z = true → fits q.1 (withv z k x) = true) := fun p hp => by
        obtain ⟨p1, p2, p3⟩ := pts_mem.mp hp
        obtain ⟨q, hq, e⟩ := List.mem_map.mp (known_min ok hk hx hup p1 p2)
        obtain ⟨q1, q2⟩ := List.mem_filter.mp hq
        have ql := ((mem_rows sizes q.1).mp (pts_mem.mp q1).1).1
        have ep : p.1 = withv q.1 k (-1) := (congrArg Prod.fst e).symm
        refine ⟨q, q1, ep, ql, fun hf => ?_⟩
        rw [fits_iff]
        intro i a b e1 e2
        by_cases hi : i = k
        · subst hi
          rw [zk] at e2
          unfold mayBe at q2
          rw [e1, Bool.or_eq_true] at q2
          rcases q2 with h | h
          · exact .inl (by simpa using h)
          · have h : a = x := by simpa using h
            exact .inr (.inr (by rw [h]; exact Option.some.inj e2))
        · rw [withv_set (by omega), List.getElem?_set_ne (Ne.symm hi)] at e2
          refine fits_iff.mp hf i a b ?_ e2
          rw [ep, withv_set (by omega), List.getElem?_set_ne (Ne.symm hi)]
          exact e1
      obtain ⟨q, q1, q2, q3, q4⟩ := from_q p hp
      have ho : isOp (pts sizes t) (withv z k x) = true := by
        unfold isOp
        rw [Bool.and_eq_true, beq_iff_eq, ansAt_pts ok hup zr, List.any_eq_true]
        exact ⟨ha, q, q1, q4 hfit⟩
      have hne := no_knot hF (t1 _ (cov_nothing sizes)) (fun s hs => (t2 s hs (nothing_below sizes s)).symm) zr ho
      cases hnd : need (pts sizes t) (withv z k x) with
      | nil => exact hne hnd
      | cons j js =>
        have hj : j ∈ need (pts sizes t) (withv z k x) := by rw [hnd]; exact List.mem_cons_self
        have hjg := need_gap ho hj
        have hjk : j ≠ k := fun e => by
          subst e
          rw [zk] at hjg
          have := Option.some.inj hjg
          omega
        have hjz : z[j]? = some (-1) := by
          rw [withv_set (by omega), List.getElem?_set_ne (Ne.symm hjk)] at hjg
          exact hjg
        have : j ∈ need (pts sizes (tk t k x)) z := by
          unfold need
          rw [if_pos z2]
          refine List.mem_filter.mpr ⟨mem_gaps.mpr hjz, ?_⟩
          rw [List.all_eq_true]
          intro p' hp'
          obtain ⟨p1, p2⟩ := List.mem_filter.mp hp'
          obtain ⟨q', r1, r2, r3, r4⟩ := from_q p' p1
          have := need_all ho hj q' r1 (r4 p2)
          simp
          intro e
          apply this
          rw [r2, withv_set (by omega), List.getElem?_set_ne (Ne.symm hjk)] at e
          exact e
        rw [z3] at this
        cases this
end
end K40
/-! WA: functions in plain: ascending points, none below another, fitting ones alike -/
namespace K40
open PySem DL
/-- fitting pairs answer alike -/
def Con (R : Pts) : Prop := ∀ p ∈ R, ∀ q ∈ R, fits p.1 q.1 = true → p.2 = q.2
/-- no two pairs fit -/
def Sep (R : Pts) : Prop := ∀ p ∈ R, ∀ q ∈ R, fits p.1 q.1 = true → p = q
structure Fn (sizes : List Int) (m : Int) (F : Pts) : Prop where
  b : FnB sizes m F
  st : F.Pairwise ltP
  an : ∀ p ∈ F, ∀ q ∈ F, below p.1 q.1 = true → p = q
  con : Con F
theorem ltP_nd {F : Pts} (h : F.Pairwise ltP) : F.Nodup := List.Pairwise.imp (fun {a b} hab => show a ≠ b from fun e => by subst e; exact ltP_irr _ hab) h
section
variable {sizes : List Int} {m : Int} {F F' : Pts}
theorem Fn.sub (h : Fn sizes m F) (k : F'.Sublist F) : Fn sizes m F' := ⟨fun p hp => h.b p (k.subset hp), h.st.sublist k, fun p hp q hq => h.an p (k.subset hp) q (k.subset hq), fun p hp q hq => h.con p (k.subset hp) q (k.subset hq)⟩
theorem Sep.sub (h : Sep F) (k : ∀ p ∈ F', p ∈ F) : Sep F' := fun p hp q hq => h p (k p hp) q (k q hq)
theorem Fn.len (h : Fn sizes m F) : ∀ p ∈ F, p.1.length = sizes.length := fun p hp => ((mem_rows sizes p.1).mp (h.b p hp).1).1
theorem ansAt_mem {s : List Int} (h : ansAt F s ≠ -1) : ∃ p ∈ F, below p.1 s = true ∧ p.2 = ansAt F s := by
  unfold ansAt at h ⊢
  cases e : F.findSome? fun q => if below q.1 s = true then some q.2 else none with
  | none => rw [e] at h; exact absurd rfl h
  | some x =>
    obtain ⟨p, hp, hx⟩ := List.exists_of_findSome?_eq_some e
    by_cases hb : below p.1 s = true
    · rw [if_pos hb] at hx
      exact ⟨p, hp, hb, by rw [Option.some.inj hx]; rfl⟩
    · rw [if_neg hb] at hx; cases hx
theorem ansAt_of (hb : FnB sizes m F) (hc : Con F) {s : List Int} {p : List Int × Int} (hp : p ∈ F) (hps : below p.1 s = true) (hs : s.length = sizes.length) : ansAt F s = p.2 := by
  obtain ⟨q, hq, h1, h2⟩ := ansAt_mem (ans_some hb ⟨p, hp, hps⟩)
  rw [← h2]
  exact hc q hq p hp (both_fit h1 hps (by rw [((mem_rows sizes q.1).mp (hb q hq).1).1, hs]))
theorem Fn.ans (h : Fn sizes m F) {s : List Int} {p : List Int × Int} (hp : p ∈ F) (hps : below p.1 s = true) (hs : s.length = sizes.length) : ansAt F s = p.2 := ansAt_of h.b h.con hp hps hs
theorem Fn.self (h : Fn sizes m F) {p : List Int × Int} (hp : p ∈ F) : ansAt F p.1 = p.2 := h.ans hp (below_refl _) (h.len p hp)
theorem row_len {s : List Int} (h : s ∈ rows (-1) sizes) : s.length = sizes.length := ((mem_rows sizes s).mp h).1
theorem Fn.mon (h : Fn sizes m F) : Mon sizes F := fun s hs w hw hb hn => by
  obtain ⟨p, hp, h1, h2⟩ := ansAt_mem hn
  rw [← h2]
  exact h.ans hp (below_trans (by rw [h.len p hp, row_len hs]) h1 hb) (row_len hw)
theorem Sep.con (h : Sep F) : Con F := fun p hp q hq hf => by rw [h p hp q hq hf]
theorem Sep.an (h : Sep F) : ∀ p ∈ F, ∀ q ∈ F, below p.1 q.1 = true → p = q := fun p hp q hq hb => h p hp q hq (below_fits hb)
/-- a function that a tree tells has points that do not fit -/
theorem tree_sep (h : Fn sizes m F) {N : Nat} {left : List Nat} {T : Tr} (hpos : ∀ n ∈ sizes, 1 ≤ n) (hv : VT sizes N left T) (hf : Fr left (nothing sizes)) (ht : ∀ s ∈ rows (-1) sizes, ansAt F s = rn N T s) : Sep F := fun p hp q hq hpq => by
  have rng : ∀ s ∈ rows (-1) sizes, ∀ (k : Nat) (n : Int), sizes[k]? = some n → ∀ x : Int, s[k]? = some x → x < n ∧ -1 ≤ x := fun s hs k n h1 x h2 => by
    have := ((mem_rows sizes s).mp hs).2 k n x h1 h2
    omega
  have leaf : ∀ p ∈ F, ∃ l ∈ lv T (nothing sizes), below l.1 p.1 = true ∧ l.2 = p.2 := fun p hp => by
    have hr := (h.b p hp).1
    have e : rn N T p.1 = p.2 := by rw [← ht _ hr]; exact h.self hp
    obtain ⟨l, h1, h2, h3⟩ := run_lv N left T _ hv hf p.1 (by rw [nothing_len]; exact row_len hr) (nothing_below _ _) (rng _ hr) (by rw [e]; have := (h.b p hp).2.1; omega)
    exact ⟨l, h1, h2, by rw [h3, e]⟩
  obtain ⟨l, a1, a2, a3⟩ := leaf p hp
  obtain ⟨l', b1, b2, b3⟩ := leaf q hq
  have lr : ∀ l ∈ lv T (nothing sizes), l.1 ∈ rows (-1) sizes := lv_rows N left T _ hv hf (nothing_rows hpos)
  have hfit : fits l.1 l'.1 = true := by
    rw [fits_iff] at hpq ⊢
    rw [below_iff] at a2 b2
    intro i x y e1 e2
    have l1 := row_len (lr l a1)
    have l2 := row_len (lr l' b1)
    obtain ⟨x', e3⟩ := getE (n := 0) (show l.1.length = p.1.length by rw [l1, h.len p hp]) e1
    obtain ⟨y', e4⟩ := getE (n := 0) (show l'.1.length = q.1.length by rw [l2, h.len q hq]) e2
    rcases a2 i x x' e1 e3 with z | z
    · exact .inl z
    · rcases b2 i y y' e2 e4 with z' | z'
      · exact .inr (.inl z')
      · have := hpq i x' y' e3 e4
        omega
  have hll := lv_sep N left T _ hv hf l a1 l' b1 hfit
  subst hll
  have hans : ansAt F l.1 ≠ -1 := by
    rw [ht _ (lr l a1), lv_run N left T _ hv hf l a1 l.1 (by rw [nothing_len]; exact row_len (lr l a1)) (below_refl _), a3]
    have := (h.b p hp).2.1
    omega
  obtain ⟨r, hr, r1, r2⟩ := ansAt_mem hans
  have rl := h.len r hr
  have ll := row_len (lr l a1)
  have e1 := h.an r hr p hp (below_trans (by omega) r1 a2)
  have e2 := h.an r hr q hq (below_trans (by omega) r1 b2)
  rw [← e1, ← e2]
/-- what seqOf says -/
theorem seq_tree (ok : SzOk sizes) (h : Fn sizes m F) (hs : seqOf sizes F = true) : ∃ T : Tr, VT sizes 12 (List.range sizes.length) T ∧ ∀ s ∈ rows (-1) sizes, ansAt F s = rn 12 T s := by
  unfold seqOf at hs
  cases e : gr sizes 12 F (nothing sizes) with
  | knot z => rw [e] at hs; cases hs
  | tree T =>
    obtain ⟨g1, g2⟩ := gr_told ok h.b h.mon 12 _ T (nothing_rows (pos_of ok)) (gap0 ok) e
    exact ⟨T, g1 _ (cov_nothing sizes), fun s hs => (g2 s hs (nothing_below _ _)).symm⟩
theorem fr_range : Fr (List.range sizes.length) (nothing sizes) := fun j hj => by
  rw [List.mem_range] at hj
  rw [List.getElem?_eq_getElem (by rw [nothing_len]; exact hj)]
  exact congrArg some (nothing_get j _ (List.getElem?_eq_getElem (by rw [nothing_len]; exact hj)))
theorem seq_sep (ok : SzOk sizes) (h : Fn sizes m F) (hs : seqOf sizes F = true) : Sep F := by
  obtain ⟨T, t1, t2⟩ := seq_tree ok h hs
  exact tree_sep h (pos_of ok) t1 fr_range t2
/-- some of the points of a function that a tree tells -/
theorem tree_seq (ok : SzOk sizes) (h : Fn sizes m F) {N : Nat} {left : List Nat} {T : Tr} (hv : VT sizes N left T) (hs : Sep F) (ht : ∀ s ∈ rows (-1) sizes, ansAt F s = rn N T s) (k : ∀ p ∈ F', p ∈ F) : seqOf sizes F' = true := by
  have hb' : FnB sizes m F' := fun p hp => h.b p (k p hp)
  unfold seqOf
  cases e : gr sizes 12 F' (nothing sizes) with
  | tree T => rfl
  | knot z =>
    exfalso
    obtain ⟨z1, z2, z3⟩ := gr_knot ok 12 _ z (nothing_rows (pos_of ok)) (gap0 ok) e
    obtain ⟨zl, zr⟩ := (mem_rows sizes z).mp z1
    have z2' := z2
    unfold isOp at z2'
    rw [Bool.and_eq_true, beq_iff_eq, List.any_eq_true] at z2'
    obtain ⟨ha, p, hp, hfit⟩ := z2'
    have up : ∀ q ∈ F', fits q.1 z = true → jn q.1 z ∈ rows (-1) sizes ∧ below z (jn q.1 z) = true ∧ rn N T (jn q.1 z) ≠ -1 := fun q hq hfq => by
      have hqr := (h.b q (k q hq)).1
      obtain ⟨o1, o2⟩ := jn_over hqr z1 hfq
      have hr := jn_rows hqr z1
      exact ⟨hr, o2, by rw [← ht _ hr]; exact ans_some h.b ⟨q, k q hq, o1⟩⟩
    have hT : rn N T z = -1 := by
      rw [← ht z z1]
      apply Classical.byContradiction
      intro hne
      obtain ⟨q, hq, q1, q2⟩ := ansAt_mem hne
      have hqp : fits q.1 p.1 = true := by
        rw [fits_iff]
        rw [fits_iff] at hfit
        rw [below_iff] at q1
        intro i x y e1 e2
        obtain ⟨w, e3⟩ := getE (n := 0) (show q.1.length = z.length by rw [h.len q hq, zl]) e1
        have a := q1 i x w e1 e3
        have b := hfit i y w e2 e3
        omega
      have := hs q hq p (k p hp) hqp
      subst this
      exact ans_some hb' ⟨q, hp, q1⟩ ha
    rcases stuck N left T hv z (fun i x hx => by
        have hi := (List.getElem?_eq_some_iff.mp hx).1
        exact (zr i sizes[i] x (List.getElem?_eq_getElem (by omega)) hx).1) hT with g | ⟨j, k1, k2⟩
    · obtain ⟨u1, u2, u3⟩ := up p hp hfit
      exact absurd (g _ (by rw [((mem_rows sizes _).mp u1).1, zl]) u2) u3
    · have : j ∈ need F' z := by
        unfold need
        rw [if_pos z2]
        refine List.mem_filter.mpr ⟨mem_gaps.mpr k1, ?_⟩
        rw [List.all_eq_true]
        intro q hq
        obtain ⟨q1, q2⟩ := List.mem_filter.mp hq
        obtain ⟨u1, u2, u3⟩ := up q q1 q2
        have hw := k2 _ (by rw [((mem_rows sizes _).mp u1).1, zl]) u2 u3
        simp
        intro e
        apply hw
        rw [jn_get e k1]
        rfl
      rw [z3] at this
      cases this
theorem seq_sub (ok : SzOk sizes) (h : Fn sizes m F) (hs : seqOf sizes F = true) (k : ∀ p ∈ F', p ∈ F) : seqOf sizes F' = true := by
  obtain ⟨T, t1, t2⟩ := seq_tree ok h hs
  exact tree_seq ok h t1 (tree_sep h (pos_of ok) t1 fr_range t2) t2 k
/-! ### least pairs -/
theorem mem_lp {R : Pts} {p : List Int × Int} : p ∈ lp R ↔ p ∈ R ∧ ∀ q ∈ R, below q.1 p.1 = true → q.1 = p.1 := by
  unfold lp lone
  rw [List.mem_filter, List.mem_mergeSort, mem_dd, Bool.not_eq_true', List.any_eq_false]
  constructor
  · rintro ⟨h1, h2⟩
    refine ⟨h1, fun q hq hb => ?_⟩
    have := h2 q hq
    rw [hb, Bool.and_true] at this
    simpa using this
  · rintro ⟨h1, h2⟩
    refine ⟨h1, fun q hq hb => ?_⟩
    rw [Bool.and_eq_true] at hb
    have := h2 q hq hb.2
    rw [this] at hb
    simp at hb
theorem lp_strict (R : Pts) : (lp R).Pairwise ltP := (sort_strict (nodup_dd R)).sublist List.filter_sublist
theorem lp_fn {R : Pts} (hb : FnB sizes m R) (hc : Con R) : Fn sizes m (lp R) := ⟨fun p hp => hb p (mem_lp.mp hp).1, lp_strict R, fun p hp q hq hbl => by
    have h1 := mem_lp.mp hp
    have h2 := mem_lp.mp hq
    exact Prod.ext (h2.2 p h1.1 hbl) (hc p h1.1 q h2.1 (below_fits hbl)), fun p hp q hq => hc p (mem_lp.mp hp).1 q (mem_lp.mp hq).1⟩
theorem lp_self (h : Fn sizes m F) : lp F = F := strict_unique ltP_irr (fun _ _ => ltP_asymm) (lp_strict F) h.st fun p => by
  rw [mem_lp]
  exact ⟨fun h => h.1, fun hp => ⟨hp, fun q hq hb => by rw [h.an q hq p hp hb]⟩⟩
theorem lp_sep {R : Pts} (hs : Sep R) : lp R = (dd R).mergeSort leP := strict_unique ltP_irr (fun _ _ => ltP_asymm) (lp_strict R) (sort_strict (nodup_dd R)) fun p => by
  rw [mem_lp, List.mem_mergeSort, mem_dd]
  exact ⟨fun h => h.1, fun hp => ⟨hp, fun q hq hb => by rw [hs q hq p hp (below_fits hb)]⟩⟩
theorem fn_ext (h : Fn sizes m F) (h' : Fn sizes m F') (e : ∀ p, p ∈ F ↔ p ∈ F') : F = F' := strict_unique ltP_irr (fun _ _ => ltP_asymm) h.st h'.st e
/-! ### the points of a table -/
theorem fits_comm {a b : List Int} (h : fits a b = true) : fits b a = true := by
  rw [fits_iff] at h ⊢
  intro i x y e1 e2
  have := h i y x e2 e1
  omega
theorem pts_fn (ok : SzOk sizes) {t : List Int → Int} (hup : Up sizes t) (hb : Tb sizes m t) : Fn sizes m (pts sizes t) := by
  refine ⟨pts_fnb hb, pts_strict _ _, fun p hp q hq hbl => ?_, fun p hp q hq hf => ?_⟩
  · obtain ⟨p1, p2, p3⟩ := pts_mem.mp hp
    obtain ⟨q1, q2, q3⟩ := pts_mem.mp hq
    have e : p.1 = q.1 := by
      apply Classical.byContradiction
      intro hne
      unfold minP at p2 q2
      rw [Bool.and_eq_true] at p2 q2
      obtain ⟨j, y, u1, u2, u3⟩ := strict (by rw [row_len p1, row_len q1]) hbl hne
      have h1 := low_iff'.mp q2.2 j y u1 u2
      have hjl := (List.getElem?_eq_some_iff.mp u1).1
      have hne' : t p.1 ≠ -1 := by simpa using p2.1
      have := hup p.1 (withv q.1 j (-1)) (row_len p1) (by rw [withv_set hjl, List.length_set]; exact row_len q1) u3 hne'
      omega
    exact Prod.ext e (by rw [p3, q3, e])
  · obtain ⟨p1, p2, p3⟩ := pts_mem.mp hp
    obtain ⟨q1, q2, q3⟩ := pts_mem.mp hq
    obtain ⟨o1, o2⟩ := jn_over p1 q1 hf
    have hr := row_len (jn_rows p1 q1)
    unfold minP at p2 q2
    rw [Bool.and_eq_true] at p2 q2
    have e1 := hup _ _ (row_len p1) hr o1 (by simpa using p2.1)
    have e2 := hup _ _ (row_len q1) hr o2 (by simpa using q2.1)
    omega
/-! ### answers of separated points -/
theorem sep_ans (hb : FnB sizes m F) (hs : Sep F) (k : ∀ p ∈ F', p ∈ F) {s : List Int} (hl : s.length = sizes.length) {p : List Int × Int} (hp : p ∈ F) (hps : below p.1 s = true) : ansAt F' s = if p ∈ F' then p.2 else -1 := by
  have hb' : FnB sizes m F' := fun q hq => hb q (k q hq)
  by_cases h : p ∈ F'
  · rw [if_pos h]
    exact ansAt_of hb' (hs.sub k).con h hps hl
  · rw [if_neg h]
    apply Classical.byContradiction
    intro hne
    obtain ⟨q, hq, h1, h2⟩ := ansAt_mem hne
    have := hs q (k q hq) p hp (both_fit h1 hps (by rw [((mem_rows sizes q.1).mp (hb' q hq).1).1, hl]))
    subst this
    exact h hq
end
/-! ### few wholes -/
theorem gew1 : ∀ a ∈ ([1, 2, 3] : List Int), (rows 0 [a]).length ≤ 31 := by decide
theorem gew2 : ∀ a ∈ ([1, 2, 3] : List Int), ∀ b ∈ ([1, 2, 3] : List Int), (rows 0 [a, b]).length ≤ 31 := by decide
theorem gew3 : ∀ a ∈ ([1, 2, 3] : List Int), ∀ b ∈ ([1, 2, 3] : List Int), ∀ c ∈ ([1, 2, 3] : List Int), (rows 0 [a, b, c]).length ≤ 31 := by decide
theorem gew4 : ∀ a ∈ ([1, 2, 3] : List Int), ∀ b ∈ ([1, 2, 3] : List Int), ∀ c ∈ ([1, 2, 3] : List Int), ∀ d ∈ ([1, 2, 3] : List Int), ([a, b, c, d].map (· + 1)).prod ≤ 100 → (rows 0 [a, b, c, d]).length ≤ 31 := by decide
theorem whole31 {sizes : List Int} (ok : SzOk sizes) (h : (sizes.map (· + 1)).prod ≤ 100) : (rows 0 sizes).length ≤ 31 := by
  obtain ⟨h4, h3⟩ := ok
  match sizes, h4, h3, h with
  | [], _, _, _ => decide
  | [a], _, h3, _ => exact gew1 a (m3 (h3 a (by simp)))
  | [a, b], _, h3, _ => exact gew2 a (m3 (h3 a (by simp))) b (m3 (h3 b (by simp)))
  | [a, b, c], _, h3, _ => exact gew3 a (m3 (h3 a (by simp))) b (m3 (h3 b (by simp))) c (m3 (h3 c (by simp)))
  | [a, b, c, d], _, h3, h => exact gew4 a (m3 (h3 a (by simp))) b (m3 (h3 b (by simp))) c (m3 (h3 c (by simp))) d (m3 (h3 d (by simp))) h
  | _ :: _ :: _ :: _ :: _ :: _, h4, _, _ => simp at h4
end K40
/-! WB: drawn functions -/
namespace K40
open PySem DL
theorem lone_len (R : Pts) (p : List Int × Int) : lone R p = (((R.filter fun o => !(o.1 == p.1) && below o.1 p.1).length : Int) == 0) := by
  unfold lone
  rw [Bool.eq_iff_iff, Bool.not_eq_true', List.any_eq_false, beq_iff_eq]
  constructor
  · intro h
    rw [List.filter_eq_nil_iff.mpr h]
    rfl
  · intro h
    have : (R.filter fun o => !(o.1 == p.1) && below o.1 p.1) = [] := List.length_eq_zero_iff.mp (by omega)
    exact List.filter_eq_nil_iff.mp this
abbrev leBody : S := (sIf (tVal (eOp2 eqD (eOp1 lenD (eComp [4, 5] (wSeq (eVar 0)) (.t (.cons (.v 4) (.cons (.v 5) .nil))) (some (tAnd (tVal (eOp2 neD (eVar 4) (eVar 2))) (tVal (eCall (py__law_under) [(eVar 4), (eVar 2)])))) (eC (.int 1)))) (eC (.int 0))))
    (sExpr (eAppend (eVar 1) (eTup [(eVar 2), (eVar 3)])))
    sNop)
theorem ev_lleast {R : Pts} (h4 : R.length < 64) : Grow (py__law_least [.lst (R.map dP)]) (dF (lp R)) := fun μ => by
  have hlen : ((dd R).mergeSort leP).length < 64 := by
    rw [List.length_mergeSort]
    have := len_dd R
    omega
  obtain ⟨Γ', μ', e1, e2, o2, o3, o4, o5, rfl⟩ := forL_wp (α := List Int × Int) (its := ((dd R).mergeSort leP).map dP) (enc := dP) (tg := .t (.cons (.v 2) (.cons (.v 3) .nil))) (g := .no) (body := leBody)
    (fun d Γ μ' => μ' = μ ++ [.lst ((d.filter (lone R)).map dP)] ∧ ∃ o2 o3 o4 o5, Γ = [some (.lst (R.map dP)), some (.h μ.length), o2, o3, o4, o5]) (fun _ _ _ _ => rfl) ((dd R).mergeSort leP) []
    [some (.lst (R.map dP)), some (.h μ.length), none, none, none, none] (μ ++ [.lst []]) (by
      rintro d p rest Γ μ' hd ⟨rfl, o2, o3, o4, o5, rfl⟩
      have hd' : (dd R).mergeSort leP = d ++ p :: rest := by simpa using hd
      have hdl : d.length < 64 := by
        have := congrArg List.length hd'
        simp at this hlen
        omega
      refine ⟨[some (.lst (R.map dP)), some (.h μ.length), some (dS p.1), some (.int p.2), o4, o5], [some (.lst (R.map dP)), some (.h μ.length), some (dS p.1), some (.int p.2), o4, o5], μ ++ [.lst (((d ++ [p]).filter (lone R)).map dP)], rfl, ?_, rfl, _, _, _, _, rfl⟩
      have test : tVal (eOp2 eqD (eOp1 lenD (eComp [4, 5] (wSeq (eVar 0)) (.t (.cons (.v 4) (.cons (.v 5) .nil))) (some (tAnd (tVal (eOp2 neD (eVar 4) (eVar 2))) (tVal (eCall (py__law_under) [(eVar 4), (eVar 2)])))) (eC (.int 1)))) (eC (.int 0))) [some (.lst (R.map dP)), some (.h μ.length), some (dS p.1), some (.int p.2), o4, o5] = pure (lone R p) := by
        have hw : wSeq (eVar 0) [some (.lst (R.map dP)), some (.h μ.length), some (dS p.1), some (.int p.2), o4, o5] = pure (R.map dP, .no) := rfl
        rw [r_tval, r_op2, r_op1, r_comp, hw, pure_bind, compL_filt (p := fun o : List Int × Int => !(o.1 == p.1) && under o.1 p.1) (h := fun _ => D.int 1)]
        · have e : (fun o : List Int × Int => !(o.1 == p.1) && under o.1 p.1) = fun o => !(o.1 == p.1) && below o.1 p.1 := funext fun o => by rw [under_eq]
          rw [e, lone_len]
          simp [itemsD]
        · intro o ho
          simp only [oneC, dP, r_wipe1, r_wipe0, r_putt, r_put1, r_put0, r_putv, Option.bind_some, r_lift, pure_bind, r_tand, r_tval, r_op2, r_c, r_var, r_call, r_list1, r_list0, List.set_cons_succ, List.set_cons_zero, List.getElem?_cons_succ, List.getElem?_cons_zero, ne_dS, ev_under, r_toBl]
          cases o.1 == p.1 <;> cases under o.1 p.1 <;> simp
      unfold leBody
      rw [r_sif, test, pure_bind, List.filter_append]
      by_cases hq : lone R p = true
      · have ap := append_at (a := eVar 1) (e := eTup [(eVar 2), (eVar 3)]) (Γ := [some (.lst (R.map dP)), some (.h μ.length), some (dS p.1), some (.int p.2), o4, o5]) (n := μ.length) (d := dP p) (ds := (d.filter (lone R)).map dP) (μ := μ ++ [.lst ((d.filter (lone R)).map dP)]) (μ1 := μ ++ [.lst ((d.filter (lone R)).map dP)]) rfl (by simp) (by simp [pure_def, dP]) (by simp) (by
          have := List.length_filter_le (lone R) d
          rw [List.length_map]; unfold lim; omega)
        rw [if_pos hq, r_expr, run_bind ap, set1, List.filter_cons, if_pos hq]
        simp [pure_def]
      · rw [if_neg hq, List.filter_cons, if_neg hq]
        simp [sNop, pure_def]) ⟨rfl, _, _, _, _, rfl⟩
  rw [List.nil_append] at e2
  refine ⟨[.lst ((((dd R).mergeSort leP).filter (lone R)).map dP)], ?_⟩
  simp only [py__law_least, r_fn]
  rw [if_pos (show [D.lst (R.map dP)].length = 1 from rfl)]
  show (sSeq _ _ [some (.lst (R.map dP)), none, none, none, none, none] >>= retK) μ = _
  have s1 : sAsg (.v 1) (eNewL []) [some (.lst (R.map dP)), none, none, none, none, none] μ = some (([some (.lst (R.map dP)), some (.h μ.length), none, none, none, none], .next), μ ++ [.lst []]) := by
    simp [eNewL, newH, bind_def, map_def, pure_def]
  have hw : wSeq (eOp1 setSortD (eVar 0)) [some (.lst (R.map dP)), some (.h μ.length), none, none, none, none] = pure (((dd R).mergeSort leP).map dP, .no) := by
    simp [setSort_dP h4, itemsD]
  rw [r_seq, bind_assoc, run_bind s1, r_seqn, r_seq, r_for, hw, pure_bind, bind_assoc, run_bind e1, r_seqn, e2]
  simp [tupleD, itemsD, bind_def, map_def, pure_def, getH, dF, lp]
theorem Pool.at {μ : Store} (h : Pool μ) {n : Nat} (hn : n ≠ 1) (o : MO) : Pool (μ.set n o) := by
  obtain ⟨c, p, v, q, s, h1, h2⟩ := h
  exact ⟨c, p, v, q, s, by rw [List.getElem?_set_ne hn]; exact h1, h2⟩
theorem Pool.pos {μ : Store} (h : Pool μ) : 1 < μ.length := by
  obtain ⟨c, p, v, q, s, h1, h2⟩ := h
  exact (List.getElem?_eq_some_iff.mp h1).1
/-- a pair as the law draws it -/
def Dr (sizes : List Int) (m : Int) (p : List Int × Int) : Prop := p.1 ∈ rows (-1) sizes ∧ 0 ≤ p.2 ∧ p.2 < m
theorem Dr.len {sizes : List Int} {m : Int} (ok : SzOk sizes) {p : List Int × Int} (h : Dr sizes m p) : p.1.length ≤ 1000 := by
  have := ((mem_rows sizes p.1).mp h.1).1
  have := ok.1
  omega
section
variable {sizes : List Int} {m N : Int}
abbrev loBody : S := (sSeq (sAsg (.v 5) (eCall (py__law_state) [(eVar 0), (eOp2 idxD (eVar 1) (eC (.int 0)))]))
    (sSeq (sAsg (.v 6) (eCall (py__law_draw) [(eVar 0), (eOp2 idxD (eVar 1) (eC (.int 1)))]))
    (sIf (tVal (eOp2 eqD (eOp1 lenD (eComp [7, 8] (wSeq (eVar 3)) (.t (.cons (.v 7) (.cons (.v 8) .nil))) (some (tAnd (tVal (eOp2 neD (eVar 8) (eVar 6))) (tVal (eCall (py__law_fit) [(eVar 5), (eVar 7)])))) (eC (.int 1)))) (eC (.int 0))))
    (sExpr (eAppend (eVar 3) (eTup [(eVar 5), (eVar 6)])))
    sNop)))
def LRel (sizes : List Int) (m N : Int) (n : Nat) (d : List Int) (Γ : DL.Env) (μ : Store) : Prop := Pool μ ∧ ∃ (R : Pts) (o4 o5 o6 : Option D), μ[n]? = some (.lst (R.map dP)) ∧ Γ = [some (.h 1), some (dKd sizes m), some (.int N), some (.h n), o4, o5, o6, none, none] ∧ R.length ≤ d.length ∧ (∀ p ∈ R, Dr sizes m p) ∧ Con R
theorem ev_lobody (ok : SzOk sizes) (hm : 1 ≤ m ∧ m ≤ 3) {n : Nat} (hn : n ≠ 1) {d : List Int} (hd : d.length ≤ 11) {k : Int} {Γ : DL.Env} {μ : Store} (h : LRel sizes m N n d Γ μ) : ∃ Γ2 μ2, loBody (Γ.set 4 (some (.int k))) μ = some ((Γ2, .next), μ2) ∧ LRel sizes m N n (d ++ [k]) Γ2 μ2 := by
  obtain ⟨hP, R, o4, o5, o6, hz, rfl, hl, hR, hC⟩ := h
  obtain ⟨s, μ1, e1, hs, s1⟩ := ev_state hP ok
  obtain ⟨x, μ2, e2, f1, f2, f3, f4, f5⟩ := ev_draw s1.1 (many := m) (by omega) (by omega)
  have hnl := (List.getElem?_eq_some_iff.mp hz).1
  have hz1 : μ1[n]? = some (.lst (R.map dP)) := by rw [s1.2.1.2 n hn hnl]; exact hz
  have hz2 : μ2[n]? = some (.lst (R.map dP)) := by rw [f4.2 n hn (List.getElem?_eq_some_iff.mp hz1).1]; exact hz1
  have h0 : idxD (dKd sizes m) (.int 0) = pure (dS sizes) := idx_t0 _ _
  have h1 : idxD (dKd sizes m) (.int 1) = pure (.int m) := idx_t1 _ _ _
  have a1 : sAsg (.v 5) (eCall (py__law_state) [(eVar 0), (eOp2 idxD (eVar 1) (eC (.int 0)))]) [some (.h 1), some (dKd sizes m), some (.int N), some (.h n), some (.int k), o5, o6, none, none] μ = some (([some (.h 1), some (dKd sizes m), some (.int N), some (.h n), some (.int k), some (dS s), o6, none, none], .next), μ1) := by
    simp [bind_def, map_def, pure_def, h0, e1]
  have a2 : sAsg (.v 6) (eCall (py__law_draw) [(eVar 0), (eOp2 idxD (eVar 1) (eC (.int 1)))]) [some (.h 1), some (dKd sizes m), some (.int N), some (.h n), some (.int k), some (dS s), o6, none, none] μ1 = some (([some (.h 1), some (dKd sizes m), some (.int N), some (.h n), some (.int k), some (dS s), some (.int x), none, none], .next), μ2) := by
    simp [bind_def, map_def, pure_def, h1, e2]
  obtain ⟨b, test, hbt⟩ : ∃ b, tVal (eOp2 eqD (eOp1 lenD (eComp [7, 8] (wSeq (eVar 3)) (.t (.cons (.v 7) (.cons (.v 8) .nil))) (some (tAnd (tVal (eOp2 neD (eVar 8) (eVar 6))) (tVal (eCall (py__law_fit) [(eVar 5), (eVar 7)])))) (eC (.int 1)))) (eC (.int 0))) [some (.h 1), some (dKd sizes m), some (.int N), some (.h n), some (.int k), some (dS s), some (.int x), none, none] μ2 = some (b, μ2) ∧ (b = true → ∀ o ∈ R, fits s o.1 = true → o.2 = x) := by
    have hc := compL_at (α := List Int × Int) (its := R.map dP) (enc := dP) (g := .l n) (μ := μ2) (f := oneC [7, 8] (.t (.cons (.v 7) (.cons (.v 8) .nil))) (some (tAnd (tVal (eOp2 neD (eVar 8) (eVar 6))) (tVal (eCall (py__law_fit) [(eVar 5), (eVar 7)])))) (eC (.int 1)) [some (.h 1), some (dKd sizes m), some (.int N), some (.h n), some (.int k), some (dS s), some (.int x), none, none])
      (p := fun o => o.2 != x && fits s o.1) (h := fun _ => D.int 1) (by simp [gOk, bind_def, pure_def, getH, hz2, sameL_refl]) (xs := R) (by
        intro o ho
        have : oneC [7, 8] (.t (.cons (.v 7) (.cons (.v 8) .nil))) (some (tAnd (tVal (eOp2 neD (eVar 8) (eVar 6))) (tVal (eCall (py__law_fit) [(eVar 5), (eVar 7)])))) (eC (.int 1)) [some (.h 1), some (dKd sizes m), some (.int N), some (.h n), some (.int k), some (dS s), some (.int x), none, none] (dP o) = pure (if (o.2 != x && fits s o.1) = true then some (.int 1) else none) := by
          simp only [oneC, dP, r_wipe1, r_wipe0, r_putt, r_put1, r_put0, r_putv, Option.bind_some, r_lift, pure_bind, r_tand, r_tval, r_op2, r_c, r_var, r_call, r_list1, r_list0, List.set_cons_succ, List.set_cons_zero, List.getElem?_cons_succ, List.getElem?_cons_zero, r_nei, ev_lfit, r_toBl]
          cases o.2 != x <;> cases fits s o.1 <;> simp
        rw [this]
        rfl)
    have hw : wSeq (eVar 3) [some (.h 1), some (dKd sizes m), some (.int N), some (.h n), some (.int k), some (dS s), some (.int x), none, none] μ2 = some ((R.map dP, .l n), μ2) := by
      simp [wSeq, itemsD, bind_def, map_def, pure_def, getH, hz2]
    refine ⟨((((R.filter fun o => o.2 != x && fits s o.1).map fun _ => D.int 1).length : Int) == 0), ?_, fun hb o ho hfo => ?_⟩
    rotate_left
    · have h0 : (R.filter fun o => o.2 != x && fits s o.1) = [] := List.length_eq_zero_iff.mp (by
        rw [beq_iff_eq, List.length_map] at hb
        omega)
      have := List.filter_eq_nil_iff.mp h0 o ho
      rw [hfo, Bool.and_true] at this
      simpa using this
    rw [r_tval, r_op2, r_op1, r_comp]
    simp only [bind_assoc]
    rw [run_bind hw, run_bind hc]
    simp only [pure_bind, r_c, r_len, itemsD, r_eqi, r_toBl]
    rfl
  show ∃ Γ2 μ2, loBody [some (.h 1), some (dKd sizes m), some (.int N), some (.h n), some (.int k), o5, o6, none, none] μ = some ((Γ2, .next), μ2) ∧ LRel sizes m N n (d ++ [k]) Γ2 μ2
  unfold loBody
  rw [r_seq, run_bind a1, r_seqn, r_seq, run_bind a2, r_seqn, r_sif, run_bind test]
  cases b with
  | true =>
    have ap := append_at (a := eVar 3) (e := eTup [(eVar 5), (eVar 6)]) (Γ := [some (.h 1), some (dKd sizes m), some (.int N), some (.h n), some (.int k), some (dS s), some (.int x), none, none]) (n := n) (d := dP (s, x)) (ds := R.map dP) (μ := μ2) (μ1 := μ2) rfl hz2 (by simp [pure_def, dP]) hz2 (by rw [List.length_map]; unfold lim; omega)
    refine ⟨[some (.h 1), some (dKd sizes m), some (.int N), some (.h n), some (.int k), some (dS s), some (.int x), none, none], μ2.set n (.lst (R.map dP ++ [dP (s, x)])), ?_, f3.at hn _, R ++ [(s, x)], _, _, _, ?_, rfl, by simp; exact hl, fun p hp => ?_, ?_⟩
    · rw [if_pos rfl, r_expr, run_bind ap]
      rfl
    · rw [List.map_append]
      exact List.getElem?_set_self (List.getElem?_eq_some_iff.mp hz2).1
    · rcases List.mem_append.mp hp with hp | hp
      · exact hR p hp
      · rw [List.mem_singleton.mp hp]; exact ⟨hs, f1, f2⟩
    · intro p hp q hq hpq
      rcases List.mem_append.mp hp with hp | hp
      · rcases List.mem_append.mp hq with hq | hq
        · exact hC p hp q hq hpq
        · rw [List.mem_singleton.mp hq] at hpq ⊢
          exact hbt rfl p hp (fits_comm hpq)
      · rcases List.mem_append.mp hq with hq | hq
        · rw [List.mem_singleton.mp hp] at hpq ⊢
          exact (hbt rfl q hq hpq).symm
        · rw [List.mem_singleton.mp hp, List.mem_singleton.mp hq]
  | false =>
    refine ⟨[some (.h 1), some (dKd sizes m), some (.int N), some (.h n), some (.int k), some (dS s), some (.int x), none, none], μ2, ?_, f3, R, _, _, _, hz2, rfl, by simp; omega, hR, hC⟩
    rw [if_neg Bool.false_ne_true]
    rfl
theorem ev_loose (ok : SzOk sizes) (hm : 1 ≤ m ∧ m ≤ 3) (hN : 0 ≤ N ∧ N ≤ 9) {μ : Store} (hP : Pool μ) : ∃ R μ', py__law_loose [.h 1, dKd sizes m, .int N] μ = some (dF (lp R), μ') ∧ (∀ p ∈ R, Dr sizes m p) ∧ Con R ∧ R.length ≤ 9 ∧ Pool μ' := by
  have hlen := hP.pos
  obtain ⟨r, μ1, e1, d1, d2, d3, d4, d5⟩ := ev_draw (hP.app [.lst []]) (many := N + 1) (by omega) (by omega)
  have hz : μ1[μ.length]? = some (.lst (([] : Pts).map dP)) := by
    rw [d4.2 μ.length (by omega) (by simp)]; simp
  obtain ⟨Γ', μ2, e2, d6, R, o4, o5, o6, hz2, rfl, hl, hR, hC⟩ := forL_wp (α := Int) (its := (rg 0 r).map D.int) (enc := D.int) (tg := .v 4) (g := .no) (body := loBody) (LRel sizes m N μ.length) (fun _ _ _ _ => rfl) (rg 0 r) []
    [some (.h 1), some (dKd sizes m), some (.int N), some (.h μ.length), none, none, none, none, none] μ1 (by
      intro d k rest Γ μ' hd hR
      have hdl : d.length ≤ 11 := by
        have := congrArg List.length hd
        simp [rg_len] at this
        omega
      obtain ⟨Γ2, μ2, e, k2⟩ := ev_lobody ok hm (n := μ.length) (by omega) hdl (k := k) hR
      exact ⟨_, Γ2, μ2, rfl, e, k2⟩) ⟨d3, [], none, none, none, hz, rfl, Nat.le_refl _, (fun p hp => by cases hp), fun p hp => by cases hp⟩
  have hR4 : R.length ≤ 9 := by
    simp [rg_len] at hl
    omega
  obtain ⟨μ3, e3⟩ := ev_lleast (R := R) (by omega) (μ2.set μ.length .dead)
  refine ⟨R, μ2.set μ.length .dead ++ μ3, ?_, hR, hC, hR4, (d6.at (by omega) _).app _⟩
  simp only [py__law_loose, r_fn]
  rw [if_pos (show [D.h 1, dKd sizes m, D.int N].length = 3 from rfl)]
  show (sSeq _ _ [some (.h 1), some (dKd sizes m), some (.int N), none, none, none, none, none, none] >>= retK) μ = _
  have s1 : sAsg (.v 3) (eNewL []) [some (.h 1), some (dKd sizes m), some (.int N), none, none, none, none, none, none] μ = some (([some (.h 1), some (dKd sizes m), some (.int N), some (.h μ.length), none, none, none, none, none], .next), μ ++ [.lst []]) := by
    simp [eNewL, newH, bind_def, map_def, pure_def]
  have hw : wRange1 (eCall (py__law_draw) [(eVar 0), (eOp2 addD (eVar 2) (eC (.int 1)))]) [some (.h 1), some (dKd sizes m), some (.int N), some (.h μ.length), none, none, none, none, none] (μ ++ [.lst []]) = some (((rg 0 r).map D.int, .no), μ1) := by
    simp [bind_def, map_def, pure_def, e1]
    rw [if_pos (by omega), rangeL_eq]
    rfl
  rw [r_seq, bind_assoc, run_bind s1, r_seqn, r_seq, bind_assoc, r_for, bind_assoc, run_bind hw]
  dsimp only
  rw [run_bind e2, r_seqn]
  have s8 : sFrz 3 [some (.h 1), some (dKd sizes m), some (.int N), some (.h μ.length), o4, o5, o6, none, none] μ2 = some (([some (.h 1), some (dKd sizes m), some (.int N), some (.lst (R.map dP)), o4, o5, o6, none, none], .next), μ2.set μ.length .dead) := by
    have hlt : μ.length < μ2.length := (List.getElem?_eq_some_iff.mp hz2).1
    simp [sFrz, frzD, bind_def, map_def, pure_def, getH, setH, hz2]
    rw [if_pos hlt]
  rw [r_seq, bind_assoc, run_bind s8, r_seqn, r_ret, r_call, r_list1, r_list0]
  have hv : eVar 3 [some (.h 1), some (dKd sizes m), some (.int N), some (.lst (R.map dP)), o4, o5, o6, none, none] = pure (.lst (R.map dP)) := rfl
  simp only [hv, pure_bind]
  rw [bind_assoc, run_bind e3]
  rfl
end
abbrev KV (sizes : List Int) (m : Int) (s : List Int) (hs : List Nat) (a : Int) (b : Bool) (n : Nat) (a5 a9 a10 a11 a12 : Option D) : DL.Env := [some (.h 1), some (dKd sizes m), some (dS sizes), some (dS s), some (dL hs), a5, some (.int a), some (.bl b), some (.h n), a9, a10, a11, a12]
section
variable {sizes : List Int} {m : Int} {s : List Int} {hs : List Nat} {a : Int} {b : Bool} {n : Nat}
/-- a value put at a place, drawn -/
theorem ev_put (ok : SzOk sizes) {μ : Store} (hP : Pool μ) {up : List Int} (hup : up ∈ rows (-1) sizes) {o : Nat} (ho : o < sizes.length) : ∃ up' μ', up' ∈ rows (-1) sizes ∧ Step μ μ' ∧ ∀ (i j : Nat) (G : DL.Env), G[0]? = some (some (.h 1)) → G[2]? = some (some (dS sizes)) → G[i]? = some (some (dS up)) → G[j]? = some (some (.int (o : Int))) →
    eCall (py__law_with) [(eVar i), (eVar j), (eCall (py__law_draw) [(eVar 0), (eOp2 idxD (eVar 2) (eVar j))])] G μ = some (dS up', μ') := by
  have hz : sizes[o]? = some sizes[o] := List.getElem?_eq_getElem ho
  have hzb := ok.2 sizes[o] (List.getElem_mem ho)
  obtain ⟨x, μ1, e1, d1, d2, d3, d4, d5⟩ := ev_draw hP (many := sizes[o]) (by omega) (by omega)
  have hul := ((mem_rows sizes up).mp hup).1
  have h4 := ok.1
  refine ⟨withv up o x, μ1, withv_mem hup (by omega) ⟨by omega, fun k hk => by rw [hz] at hk; cases hk; exact d2⟩, ⟨d3, d4, d5⟩, fun i j G g0 g2 gi gj => ?_⟩
  have hx : idxD (dS sizes) (.int (o : Int)) = pure (.int sizes[o]) := idx_tup (by rw [List.getElem?_map, hz]; rfl)
  rw [r_call, r_list1, r_list1, r_list1, r_call, r_list1, r_list1, r_op2, r_list0]
  simp only [r_var, g0, g2, gi, gj, pure_bind, hx]
  simp only [bind_assoc]
  rw [run_bind e1]
  simp only [pure_bind, ev_lwith _ _ _ (show up.length ≤ 1000 by omega)]
  rfl
abbrev inBody : S := (sIf (tAnd (tVal (eOp2 neD (eVar 12) (eVar 5))) (tAnd (tVal (eOp2 neD (eVar 12) (eVar 10))) (tOr (tVal (eVar 7)) (tVal (eOp2 eqD (eCall (py__law_draw) [(eVar 0), (eC (.int 3))]) (eC (.int 0)))))))
    (sAsg (.v 11) (eCall (py__law_with) [(eVar 11), (eVar 12), (eCall (py__law_draw) [(eVar 0), (eOp2 idxD (eVar 2) (eVar 12))])]))
    sNop)
/-- the store moves on, the list at n stands -/
def On (n : Nat) (R : Pts) (μ : Store) : Prop := Pool μ ∧ μ[n]? = some (.lst (R.map dP))
theorem On.step {R : Pts} {μ μ' : Store} (hn : n ≠ 1) (h : On n R μ) (k : Step μ μ') : On n R μ' := ⟨k.1, by rw [k.2.1.2 n hn (List.getElem?_eq_some_iff.mp h.2).1]; exact h.2⟩
theorem ev_inBody (ok : SzOk sizes) (hn : n ≠ 1) {k o e : Nat} (he : e < sizes.length) {R : Pts} {μ : Store} (hO : On n R μ) {up : List Int} (hup : up ∈ rows (-1) sizes) {a9 : Option D} :
    ∃ up' μ', up' ∈ rows (-1) sizes ∧ On n R μ' ∧ inBody (KV sizes m s hs a b n (some (.int (k : Int))) a9 (some (.int (o : Int))) (some (dS up)) (some (.int (e : Int)))) μ = some ((KV sizes m s hs a b n (some (.int (k : Int))) a9 (some (.int (o : Int))) (some (dS up')) (some (.int (e : Int))), .next), μ') := by
  obtain ⟨c, μ1, hc, hO1⟩ : ∃ c μ1, tAnd (tVal (eOp2 neD (eVar 12) (eVar 5))) (tAnd (tVal (eOp2 neD (eVar 12) (eVar 10))) (tOr (tVal (eVar 7)) (tVal (eOp2 eqD (eCall (py__law_draw) [(eVar 0), (eC (.int 3))]) (eC (.int 0)))))) (KV sizes m s hs a b n (some (.int (k : Int))) a9 (some (.int (o : Int))) (some (dS up)) (some (.int (e : Int)))) μ = some (c, μ1) ∧ On n R μ1 := by
    simp only [r_tand, r_tor, r_tval, r_op2, r_var, r_call, r_list1, r_list0, r_c, List.getElem?_cons_succ, List.getElem?_cons_zero, pure_bind, r_nei, r_toBl]
    cases ((e : Int) != (k : Int)) with
    | false => exact ⟨false, μ, rfl, hO⟩
    | true =>
      rw [if_pos rfl]
      cases ((e : Int) != (o : Int)) with
      | false => exact ⟨false, μ, rfl, hO⟩
      | true =>
        rw [if_pos rfl]
        cases b with
        | true => exact ⟨true, μ, rfl, hO⟩
        | false =>
          obtain ⟨x, μ1, e1, d1, d2, d3, d4, d5⟩ := ev_draw hO.1 (many := 3) (by decide) (by decide)
          refine ⟨x == 0, μ1, ?_, hO.step hn ⟨d3, d4, d5⟩⟩
          rw [if_neg Bool.false_ne_true]
          simp only [bind_assoc]
          rw [run_bind e1]
          simp only [r_eqi, pure_bind, r_toBl]
          rfl
  unfold inBody
  rw [r_sif, run_bind hc]
  cases c with
  | false => exact ⟨up, μ1, hup, hO1, rfl⟩
  | true =>
    obtain ⟨up', μ2, u1, u2, u3⟩ := ev_put ok hO1.1 hup he
    refine ⟨up', μ2, u1, hO1.step hn u2, ?_⟩
    rw [if_pos rfl, r_asg, run_bind (u3 11 12 _ rfl rfl rfl rfl)]
    rfl
abbrev outBody : S := (sSeq (sAsg (.v 10) (eOp2 idxD (eVar 4) (eOp2 modD (eOp1 intD (eOp2 addD (eVar 9) (eC (.int 1)))) (eOp1 lenD (eVar 4)))))
    (sSeq (sAsg (.v 11) (eCall (py__law_with) [(eVar 3), (eVar 10), (eCall (py__law_draw) [(eVar 0), (eOp2 idxD (eVar 2) (eVar 10))])]))
    (sSeq (sFor (.v 12) (wSeq (eVar 4))
    inBody)
    (sExpr (eAppend (eVar 8) (eTup [(eVar 11), (eVar 6)]))))))
theorem ev_outBody (ok : SzOk sizes) (ha : 0 ≤ a ∧ a < m) (hs1 : s ∈ rows (-1) sizes) (hhs : ∀ k ∈ hs, k < sizes.length) (hn : n ≠ 1) {j k : Nat} (hj : j < hs.length) (hl : hs.length ≤ 4) {R : Pts} {μ : Store} (hO : On n R μ) (hR4 : R.length ≤ 10) {a10 a11 a12 : Option D} :
    ∃ p μ' b10 b11 b12, (Dr sizes m p ∧ p.2 = a) ∧ On n (R ++ [p]) μ' ∧ outBody (KV sizes m s hs a b n (some (.int (k : Int))) (some (.int (j : Int))) a10 a11 a12) μ = some ((KV sizes m s hs a b n (some (.int (k : Int))) (some (.int (j : Int))) b10 b11 b12, .next), μ') := by
  have hmod : (j + 1) % hs.length < hs.length := Nat.mod_lt _ (by omega)
  obtain ⟨o, ho⟩ : ∃ o, hs[(j + 1) % hs.length]? = some o := ⟨_, List.getElem?_eq_getElem hmod⟩
  have hol := hhs o (List.mem_of_getElem? ho)
  have s1 : sAsg (.v 10) (eOp2 idxD (eVar 4) (eOp2 modD (eOp1 intD (eOp2 addD (eVar 9) (eC (.int 1)))) (eOp1 lenD (eVar 4)))) (KV sizes m s hs a b n (some (.int (k : Int))) (some (.int (j : Int))) a10 a11 a12) = pure (KV sizes m s hs a b n (some (.int (k : Int))) (some (.int (j : Int))) (some (.int (o : Int))) a11 a12, .next) := by
    have hx : idxD (dL hs) (.int (((j + 1) % hs.length : Nat) : Int)) = pure (.int (o : Int)) := idx_lst (by rw [List.getElem?_map, ho]; rfl)
    have hm : modD (.int ((j : Int) + 1)) (.int (hs.length : Int)) = pure (.int (((j + 1) % hs.length : Nat) : Int)) := by
      rw [mod_p (by omega)]
      norm_cast
    have hlen : eOp1 lenD (eVar 4) (KV sizes m s hs a b n (some (.int (k : Int))) (some (.int (j : Int))) a10 a11 a12) = pure (.int (hs.length : Int)) := by simp [itemsD]
    have hj1 : eOp1 intD (eOp2 addD (eVar 9) (eC (.int 1))) (KV sizes m s hs a b n (some (.int (k : Int))) (some (.int (j : Int))) a10 a11 a12) = pure (.int ((j : Int) + 1)) := by simp [int_i]
    have hv : eVar 4 (KV sizes m s hs a b n (some (.int (k : Int))) (some (.int (j : Int))) a10 a11 a12) = pure (dL hs) := rfl
    rw [r_asg, r_op2, hv, pure_bind, r_op2, hj1, pure_bind, hlen, pure_bind, hm, pure_bind, hx, pure_bind]
    rfl
  obtain ⟨up, μ1, u1, u2, u3⟩ := ev_put ok hO.1 hs1 hol
  have hO1 := hO.step hn u2
  have s2 : sAsg (.v 11) (eCall (py__law_with) [(eVar 3), (eVar 10), (eCall (py__law_draw) [(eVar 0), (eOp2 idxD (eVar 2) (eVar 10))])]) (KV sizes m s hs a b n (some (.int (k : Int))) (some (.int (j : Int))) (some (.int (o : Int))) a11 a12) μ = some ((KV sizes m s hs a b n (some (.int (k : Int))) (some (.int (j : Int))) (some (.int (o : Int))) (some (dS up)) a12, .next), μ1) := by
    rw [r_asg, run_bind (u3 3 10 _ rfl rfl rfl rfl)]
    rfl
  obtain ⟨Γ', μ2, e3, up2, b12, hup2, hO2, rfl⟩ := forL_wp (α := Nat) (its := hs.map fun (k : Nat) => D.int (k : Int)) (enc := fun (k : Nat) => D.int (k : Int)) (tg := .v 12) (g := .no) (body := inBody)
    (fun _ Γ μ => ∃ up b12, up ∈ rows (-1) sizes ∧ On n R μ ∧ Γ = KV sizes m s hs a b n (some (.int (k : Int))) (some (.int (j : Int))) (some (.int (o : Int))) (some (dS up)) b12) (fun _ _ _ _ => rfl) hs []
    (KV sizes m s hs a b n (some (.int (k : Int))) (some (.int (j : Int))) (some (.int (o : Int))) (some (dS up)) a12) μ1 (by
      rintro d e rest Γ μ' hd ⟨up, b12, hup, hOn, rfl⟩
      have hem : e < sizes.length := hhs e (by
        have : hs = d ++ e :: rest := by simpa using hd
        rw [this]; simp)
      obtain ⟨up', μ2, v1, v2, v3⟩ := ev_inBody (m := m) (s := s) (hs := hs) (a := a) (b := b) (k := k) (o := o) (a9 := some (.int (j : Int))) ok hn hem hOn hup
      exact ⟨_, _, μ2, rfl, v3, up', _, v1, v2, rfl⟩) ⟨up, a12, u1, hO1, rfl⟩
  have hw : wSeq (eVar 4) (KV sizes m s hs a b n (some (.int (k : Int))) (some (.int (j : Int))) (some (.int (o : Int))) (some (dS up)) a12) = pure (hs.map fun (k : Nat) => D.int (k : Int), .no) := rfl
  have ap := append_at (a := eVar 8) (e := eTup [(eVar 11), (eVar 6)]) (Γ := KV sizes m s hs a b n (some (.int (k : Int))) (some (.int (j : Int))) (some (.int (o : Int))) (some (dS up2)) b12) (n := n) (d := dP (up2, a)) (ds := R.map dP) (μ := μ2) (μ1 := μ2) rfl hO2.2 (by simp [pure_def, dP]) hO2.2 (by rw [List.length_map]; unfold lim; omega)
  refine ⟨(up2, a), μ2.set n (.lst (R.map dP ++ [dP (up2, a)])), some (.int (o : Int)), some (dS up2), b12, ⟨⟨hup2, ha.1, ha.2⟩, rfl⟩, ⟨hO2.1.at hn _, ?_⟩, ?_⟩
  · rw [List.map_append]
    exact List.getElem?_set_self (List.getElem?_eq_some_iff.mp hO2.2).1
  · unfold outBody
    rw [r_seq, s1, pure_bind, r_seqn, r_seq, run_bind s2, r_seqn, r_seq, r_for, hw, pure_bind, run_bind e3, r_seqn, r_expr, run_bind ap]
    rfl
theorem ev_knotted (ok : SzOk sizes) (hm : 1 ≤ m ∧ m ≤ 3) {μ : Store} (hP : Pool μ) : ∃ R μ', py__law_knotted [.h 1, dKd sizes m] μ = some (dF (lp R), μ') ∧ (∀ p ∈ R, Dr sizes m p) ∧ Con R ∧ R.length ≤ 9 ∧ Pool μ' := by
  have h4 := ok.1
  have h0 : idxD (dKd sizes m) (.int 0) = pure (dS sizes) := idx_t0 _ _
  have h1 : idxD (dKd sizes m) (.int 1) = pure (.int m) := idx_t1 _ _ _
  obtain ⟨s0, μ1, e1, hs0, st1⟩ := ev_state hP ok
  have s2 : sAsg (.v 2) (eOp2 idxD (eVar 1) (eC (.int 0))) [some (.h 1), some (dKd sizes m), none, none, none, none, none, none, none, none, none, none, none] = pure ([some (.h 1), some (dKd sizes m), some (dS sizes), none, none, none, none, none, none, none, none, none, none], .next) := by
    simp [h0]
  have s3 : sAsg (.v 3) (eCall (py__law_state) [(eVar 0), (eVar 2)]) [some (.h 1), some (dKd sizes m), some (dS sizes), none, none, none, none, none, none, none, none, none, none] μ = some (([some (.h 1), some (dKd sizes m), some (dS sizes), some (dS s0), none, none, none, none, none, none, none, none, none], .next), μ1) := by
    simp [bind_def, map_def, pure_def, e1]
  have hs0l := ((mem_rows sizes s0).mp hs0).1
  obtain ⟨hs0', s4, hh0, hh1⟩ : ∃ hs0' : List Nat, sAsg (.v 4) (eComp [5] (wRange1 (eOp1 lenD (eVar 2))) (.v 5) (some (tVal (eOp2 eqD (eOp2 idxD (eVar 3) (eVar 5)) (eC (.int (-1)))))) (eVar 5)) [some (.h 1), some (dKd sizes m), some (dS sizes), some (dS s0), none, none, none, none, none, none, none, none, none] = pure ([some (.h 1), some (dKd sizes m), some (dS sizes), some (dS s0), some (dL hs0'), none, none, none, none, none, none, none, none], .next) ∧ (∀ k ∈ hs0', k < sizes.length) ∧ hs0'.length ≤ 4 := by
    refine ⟨(List.range sizes.length).filter fun k => s0[k]? == some (-1), ?_, fun k hk => List.mem_range.mp (List.mem_filter.mp hk).1, ?_⟩
    · have hr : wRange1 (eOp1 lenD (eVar 2)) [some (.h 1), some (dKd sizes m), some (dS sizes), some (dS s0), none, none, none, none, none, none, none, none, none] = pure ((List.range sizes.length).map fun (k : Nat) => D.int (k : Int), .no) := by
        simp [dS]
        rw [if_pos (by omega), rangeN]
      rw [r_asg, r_comp, hr, pure_bind, compL_filt (p := fun k => s0[k]? == some (-1)) (h := fun (k : Nat) => D.int (k : Int)), pure_bind, pure_bind]
      · rfl
      · intro k hk
        rw [List.mem_range] at hk
        have hk2 : k < s0.length := by omega
        have hx : idxD (dS s0) (.int (k : Int)) = pure (.int s0[k]) := idx_tup (by rw [List.getElem?_map, List.getElem?_eq_getElem hk2]; rfl)
        simp only [oneC, r_wipe1, r_wipe0, r_putv, r_lift, pure_bind, r_tval, r_op2, r_c, r_var, List.set_cons_succ, List.set_cons_zero, List.getElem?_cons_succ, List.getElem?_cons_zero, hx, r_eqi, r_toBl]
        rw [List.getElem?_eq_getElem hk2]
        by_cases hq : s0[k] = -1
        · simp [hq]
        · have e1 : (s0[k] == -1) = false := by simpa using hq
          simp [hq]
    · have := List.length_filter_le (fun k => s0[k]? == some (-1)) (List.range sizes.length)
      rw [List.length_range] at this
      omega
  -- the state, the holes
  obtain ⟨s, hs, s5, hs1, hh2, hh3⟩ : ∃ (s : List Int) (hs : List Nat), sIf (tVal (eOp2 ltD (eOp1 lenD (eVar 4)) (eC (.int 2))))
      (sSeq (sAsg (.v 3) (eOp2 mulD (eTup [(eC (.int (-1)))]) (eOp1 lenD (eVar 2))))
      (sAsg (.v 4) (eOp1 rangeD (eOp1 lenD (eVar 2)))))
      sNop [some (.h 1), some (dKd sizes m), some (dS sizes), some (dS s0), some (dL hs0'), none, none, none, none, none, none, none, none] = pure ([some (.h 1), some (dKd sizes m), some (dS sizes), some (dS s), some (dL hs), none, none, none, none, none, none, none, none], .next) ∧ s ∈ rows (-1) sizes ∧ (∀ k ∈ hs, k < sizes.length) ∧ hs.length ≤ 4 := by
    have ht : tVal (eOp2 ltD (eOp1 lenD (eVar 4)) (eC (.int 2))) [some (.h 1), some (dKd sizes m), some (dS sizes), some (dS s0), some (dL hs0'), none, none, none, none, none, none, none, none] = pure (decide ((hs0'.length : Int) < 2)) := by simp [itemsD]
    rw [r_sif, ht, pure_bind]
    by_cases hc : (hs0'.length : Int) < 2
    · refine ⟨nothing sizes, List.range sizes.length, ?_, nothing_rows fun k hk => (ok.2 k hk).1, fun k hk => List.mem_range.mp hk, by rw [List.length_range]; omega⟩
      have hln : eOp1 lenD (eVar 2) [some (.h 1), some (dKd sizes m), some (dS sizes), some (dS s0), some (dL hs0'), none, none, none, none, none, none, none, none] = pure (.int (sizes.length : Int)) := by simp [dS]
      have hln2 : eOp1 lenD (eVar 2) [some (.h 1), some (dKd sizes m), some (dS sizes), some (dS (nothing sizes)), some (dL hs0'), none, none, none, none, none, none, none, none] = pure (.int (sizes.length : Int)) := by simp [dS]
      have h1' : eTup [(eC (.int (-1)))] [some (.h 1), some (dKd sizes m), some (dS sizes), some (dS s0), some (dL hs0'), none, none, none, none, none, none, none, none] = pure (.tup [.int (-1)]) := by simp
      have x1 : sAsg (.v 3) (eOp2 mulD (eTup [(eC (.int (-1)))]) (eOp1 lenD (eVar 2))) [some (.h 1), some (dKd sizes m), some (dS sizes), some (dS s0), some (dL hs0'), none, none, none, none, none, none, none, none] = pure ([some (.h 1), some (dKd sizes m), some (dS sizes), some (dS (nothing sizes)), some (dL hs0'), none, none, none, none, none, none, none, none], .next) := by
        rw [r_asg, r_op2, h1', pure_bind, hln, pure_bind, mul_nothing (by omega), pure_bind]
        rfl
      have x2 : sAsg (.v 4) (eOp1 rangeD (eOp1 lenD (eVar 2))) [some (.h 1), some (dKd sizes m), some (dS sizes), some (dS (nothing sizes)), some (dL hs0'), none, none, none, none, none, none, none, none] = pure ([some (.h 1), some (dKd sizes m), some (dS sizes), some (dS (nothing sizes)), some (dL (List.range sizes.length)), none, none, none, none, none, none, none, none], .next) := by
        rw [r_asg, r_op1, hln2, pure_bind]
        unfold rangeD
        dsimp only
        rw [if_pos ⟨by omega, by omega⟩, rangeN', pure_bind]
        rfl
      rw [decide_eq_true hc, if_pos rfl, r_seq, x1, pure_bind, r_seqn, x2]
    · exact ⟨s0, hs0', by rw [decide_eq_false hc, if_neg Bool.false_ne_true]; rfl, hs0, hh0, hh1⟩
  have ht : tVal (eOp2 ltD (eOp1 lenD (eVar 4)) (eC (.int 2))) [some (.h 1), some (dKd sizes m), some (dS sizes), some (dS s), some (dL hs), none, none, none, none, none, none, none, none] = pure (decide ((hs.length : Int) < 2)) := by simp [itemsD]
  simp only [py__law_knotted, r_fn]
  rw [if_pos (show [D.h 1, dKd sizes m].length = 2 from rfl)]
  show ∃ R μ', (sSeq _ _ [some (.h 1), some (dKd sizes m), none, none, none, none, none, none, none, none, none, none, none] >>= retK) μ = some (dF (lp R), μ') ∧ _
  rw [r_seq, s2, pure_bind, r_seqn, r_seq, bind_assoc, run_bind s3, r_seqn, r_seq, s4, pure_bind, r_seqn, r_seq, s5, pure_bind, r_seqn, r_seq, r_sif, ht, pure_bind]
  by_cases hc : (hs.length : Int) < 2
  · rw [decide_eq_true hc, if_pos rfl]
    obtain ⟨R, μ2, e2, r1, r2, r3⟩ := ev_loose (N := 4) ok hm ⟨by decide, by decide⟩ st1.1
    refine ⟨R, μ2, ?_, r1, r2, r3⟩
    have hv0 : eVar 0 [some (.h 1), some (dKd sizes m), some (dS sizes), some (dS s), some (dL hs), none, none, none, none, none, none, none, none] = pure (.h 1) := rfl
    have hv1 : eVar 1 [some (.h 1), some (dKd sizes m), some (dS sizes), some (dS s), some (dL hs), none, none, none, none, none, none, none, none] = pure (dKd sizes m) := rfl
    rw [r_ret, r_call, r_list1, r_list1, r_list1, r_list0]
    simp only [hv0, hv1, r_c, pure_bind, bind_assoc]
    rw [run_bind e2]
    rfl
  · rw [decide_eq_false hc, if_neg Bool.false_ne_true]
    obtain ⟨x, μ2, e2, d1, d2, d3, d4, d5⟩ := ev_draw st1.1 (many := m) (by omega) (by omega)
    obtain ⟨y, μ3, e3, f1, f2, f3, f4, f5⟩ := ev_draw d3 (many := 2) (by decide) (by decide)
    have s6 : sAsg (.v 6) (eCall (py__law_draw) [(eVar 0), (eOp2 idxD (eVar 1) (eC (.int 1)))]) [some (.h 1), some (dKd sizes m), some (dS sizes), some (dS s), some (dL hs), none, none, none, none, none, none, none, none] μ1 = some (([some (.h 1), some (dKd sizes m), some (dS sizes), some (dS s), some (dL hs), none, some (.int x), none, none, none, none, none, none], .next), μ2) := by
      simp [bind_def, map_def, pure_def, h1, e2]
    have s7 : sAsg (.v 7) (eOp2 eqD (eCall (py__law_draw) [(eVar 0), (eC (.int 2))]) (eC (.int 0))) [some (.h 1), some (dKd sizes m), some (dS sizes), some (dS s), some (dL hs), none, some (.int x), none, none, none, none, none, none] μ2 = some (([some (.h 1), some (dKd sizes m), some (dS sizes), some (dS s), some (dL hs), none, some (.int x), some (.bl (y == 0)), none, none, none, none, none], .next), μ3) := by
      have hv0 : eVar 0 [some (.h 1), some (dKd sizes m), some (dS sizes), some (dS s), some (dL hs), none, some (.int x), none, none, none, none, none, none] = pure (.h 1) := rfl
      rw [r_asg, r_op2, r_call, r_list1, r_list1, r_list0]
      simp only [hv0, r_c, pure_bind, bind_assoc]
      rw [run_bind e3, r_eqi]
      rfl
    have s8 : sAsg (.v 8) (eNewL []) [some (.h 1), some (dKd sizes m), some (dS sizes), some (dS s), some (dL hs), none, some (.int x), some (.bl (y == 0)), none, none, none, none, none] μ3 = some ((KV sizes m s hs x (y == 0) μ3.length none none none none none, .next), μ3 ++ [.lst []]) := by
      simp [eNewL, newH, bind_def, map_def, pure_def]
    have hn : μ3.length ≠ 1 := by have := f3.pos; omega
    obtain ⟨Γ', μ4, e4, R, b5, b9, b10, b11, b12, hO, hRl, hR, rfl⟩ := forL_wp (α := Nat × Nat) (its := hs.zipIdx.map fun q => D.tup [.int (q.2 : Nat), .int (q.1 : Nat)]) (enc := fun q => D.tup [.int (q.2 : Nat), .int (q.1 : Nat)]) (tg := .t (.cons (.v 9) (.cons (.v 5) .nil))) (g := .no) (body := outBody)
      (fun d Γ μ => ∃ (R : Pts) (b5 b9 b10 b11 b12 : Option D), On μ3.length R μ ∧ R.length = d.length ∧ (∀ p ∈ R, Dr sizes m p ∧ p.2 = x) ∧ Γ = KV sizes m s hs x (y == 0) μ3.length b5 b9 b10 b11 b12) (fun _ _ _ _ => rfl) hs.zipIdx []
      (KV sizes m s hs x (y == 0) μ3.length none none none none none) (μ3 ++ [.lst []]) (by
        rintro d q rest Γ μ' hd ⟨R, b5, b9, b10, b11, b12, hO, hRl, hR, rfl⟩
        have hd' : hs.zipIdx = d ++ q :: rest := by simpa using hd
        have hq := List.mem_zipIdx_iff_getElem?.mp (show q ∈ hs.zipIdx by rw [hd']; simp)
        have hj := (List.getElem?_eq_some_iff.mp hq).1
        have hdl : d.length ≤ 4 := by
          have := congrArg List.length hd'
          simp at this
          omega
        obtain ⟨p, μ5, c10, c11, c12, hp, hO5, e5⟩ := ev_outBody (b := (y == 0)) (n := μ3.length) (k := q.1) ok ⟨d1, d2⟩ hs1 hh2 hn hj hh3 hO (by omega) (a10 := b10) (a11 := b11) (a12 := b12)
        refine ⟨KV sizes m s hs x (y == 0) μ3.length (some (.int (q.1 : Int))) (some (.int (q.2 : Int))) b10 b11 b12, _, μ5, rfl, e5, R ++ [p], _, _, _, _, _, hO5, by simp [hRl], fun z hz => ?_, rfl⟩
        rcases List.mem_append.mp hz with hz | hz
        · exact hR z hz
        · rw [List.mem_singleton.mp hz]; exact hp) ⟨[], none, none, none, none, none, ⟨f3.app _, by simp⟩, rfl, (fun p hp => by cases hp), rfl⟩
    have hR4 : R.length ≤ 4 := by
      rw [hRl]
      simp
      exact hh3
    obtain ⟨μ5, e5⟩ := ev_lleast (R := R) (by omega) (μ4.set μ3.length .dead)
    refine ⟨R, μ4.set μ3.length .dead ++ μ5, ?_, fun p hp => (hR p hp).1, fun p hp q hq _ => by rw [(hR p hp).2, (hR q hq).2], by omega, (hO.1.at hn _).app _⟩
    have hw : wEnum (eVar 4) (KV sizes m s hs x (y == 0) μ3.length none none none none none) = pure (hs.zipIdx.map fun q => D.tup [.int (q.2 : Nat), .int (q.1 : Nat)], .no) := by
      have en : (hs.map fun (k : Nat) => D.int (k : Int)).mapIdx (fun i d => D.tup [.int (i : Nat), d]) = hs.zipIdx.map fun q => D.tup [.int (q.2 : Nat), .int (q.1 : Nat)] := by
        apply List.ext_getElem?
        intro i
        simp [List.getElem?_mapIdx]
        cases hs[i]? <;> simp
      simp [wEnum, itemsD]
      rw [en]
    have s9 : sFrz 8 (KV sizes m s hs x (y == 0) μ3.length b5 b9 b10 b11 b12) μ4 = some (([some (.h 1), some (dKd sizes m), some (dS sizes), some (dS s), some (dL hs), b5, some (.int x), some (.bl (y == 0)), some (.lst (R.map dP)), b9, b10, b11, b12], .next), μ4.set μ3.length .dead) := by
      have hlt : μ3.length < μ4.length := (List.getElem?_eq_some_iff.mp hO.2).1
      simp [sFrz, frzD, bind_def, map_def, pure_def, getH, setH, hO.2]
      rw [if_pos hlt]
    have hv8 : eVar 8 [some (.h 1), some (dKd sizes m), some (dS sizes), some (dS s), some (dL hs), b5, some (.int x), some (.bl (y == 0)), some (.lst (R.map dP)), b9, b10, b11, b12] = pure (.lst (R.map dP)) := rfl
    show (sNop _ >>= _ >>= retK) μ1 = _
    rw [show sNop [some (.h 1), some (dKd sizes m), some (dS sizes), some (dS s), some (dL hs), none, none, none, none, none, none, none, none] = pure ([some (.h 1), some (dKd sizes m), some (dS sizes), some (dS s), some (dL hs), none, none, none, none, none, none, none, none], DL.Flow.next) from rfl, pure_bind, r_seqn,
      r_seq, bind_assoc, run_bind s6, r_seqn, r_seq, bind_assoc, run_bind s7, r_seqn, r_seq, bind_assoc, run_bind s8, r_seqn, r_seq, r_for, hw, pure_bind, bind_assoc, run_bind e4, r_seqn, r_seq, bind_assoc, run_bind s9, r_seqn, r_ret, r_call, r_list1, r_list0]
    simp only [hv8, pure_bind]
    rw [bind_assoc, run_bind e5]
    rfl
end
end K40
/-! WC: what a drawn tree tells; _law_told, _law_function -/
namespace K40
open PySem DL
section
variable {sizes : List Int} {m : Int} {n : Nat} {left : List Nat} {t : Tr}
/-- the function of a tree -/
def tf (sizes : List Int) (t : Tr) : Pts := (known (lv t (nothing sizes))).mergeSort leP
theorem mem_tf {p : List Int × Int} : p ∈ tf sizes t ↔ p ∈ lv t (nothing sizes) ∧ p.2 ≠ -1 := by
  unfold tf known
  rw [List.mem_mergeSort, List.mem_filter]
  simp
theorem tf_sep (hv : VT sizes n left t) (hf : Fr left (nothing sizes)) : Sep (tf sizes t) := fun p hp q hq h => lv_sep n left t _ hv hf p (mem_tf.mp hp).1 q (mem_tf.mp hq).1 h
theorem tf_fn (ok : SzOk sizes) (hv : VT sizes n left t) (ha : VA m n t) (hf : Fr left (nothing sizes)) : Fn sizes m (tf sizes t) := by
  have hs := tf_sep hv hf
  refine ⟨fun p hp => ?_, sort_strict ((lv_nd n left t _ hv hf).filter _), hs.an, hs.con⟩
  have h := mem_tf.mp hp
  have a := lv_va n t _ ha p h.1
  exact ⟨lv_rows n left t _ hv hf (nothing_rows (pos_of ok)) p h.1, by omega, a.2⟩
theorem tf_few (ok : SzOk sizes) (h100 : (sizes.map (· + 1)).prod ≤ 100) (hv : VT sizes n left t) (hf : Fr left (nothing sizes)) : (lv t (nothing sizes)).length ≤ 31 ∧ (tf sizes t).length ≤ 31 := by
  have h : (lv t (nothing sizes)).length ≤ 31 := by
    refine Nat.le_trans (few_of (lv_nd n left t _ hv hf) (lv_sep n left t _ hv hf) (rows 0 sizes) fun p hp => ?_) (whole31 ok h100)
    have hr := lv_rows n left t _ hv hf (nothing_rows (pos_of ok)) p hp
    obtain ⟨s, h1, h2, h3⟩ := whole_over ok hr
    exact ⟨s, h1, h2, by rw [h3]; exact row_len hr⟩
  refine ⟨h, ?_⟩
  unfold tf
  rw [List.length_mergeSort]
  exact Nat.le_trans (List.length_filter_le _ _) h
theorem tf_ans (ok : SzOk sizes) (hv : VT sizes n left t) (ha : VA m n t) (hf : Fr left (nothing sizes)) {s : List Int} (hs : s ∈ rows (-1) sizes) : ansAt (tf sizes t) s = rn n t s := by
  have hF := tf_fn ok hv ha hf
  have hl := row_len hs
  by_cases h : rn n t s = -1
  · rw [h]
    apply Classical.byContradiction
    intro hne
    obtain ⟨p, hp, h1, h2⟩ := ansAt_mem hne
    have := lv_run n left t _ hv hf p (mem_tf.mp hp).1 s (by rw [nothing_len]; exact hl) h1
    exact (mem_tf.mp hp).2 (by omega)
  · obtain ⟨p, hp, h1, h2⟩ := run_lv n left t _ hv hf s (by rw [nothing_len]; exact hl) (nothing_below _ _) (fun k n e1 x e2 => by
      have := ((mem_rows sizes s).mp hs).2 k n x e1 e2
      omega) h
    rw [hF.ans (mem_tf.mpr ⟨hp, by omega⟩) h1 hl, h2]
theorem ev_ltold (hs : sizes.length ≤ 4) (hd : dep t ≤ 11) (hl : (lv t (nothing sizes)).length ≤ 31) : py__law_told [dKd sizes m, dT t] = pure (dF (tf sizes t)) := by
  simp only [py__law_told, r_fn]
  rw [if_pos (show [dKd sizes m, dT t].length = 2 from rfl)]
  show (sRet _ [some (dKd sizes m), some (dT t), none] >>= retK) = _
  have hx : idxD (dKd sizes m) (.int 0) = pure (dS sizes) := idx_t0 _ _
  have hn : eOp2 mulD (eTup [(eC (.int (-1)))]) (eOp1 lenD (eOp2 idxD (eVar 0) (eC (.int 0)))) [some (dKd sizes m), some (dT t), none] = pure (dS (nothing sizes)) := by
    have e1 : eTup [(eC (.int (-1)))] [some (dKd sizes m), some (dT t), none] = pure (.tup [.int (-1)]) := by simp
    have e2 : eOp1 lenD (eOp2 idxD (eVar 0) (eC (.int 0))) [some (dKd sizes m), some (dT t), none] = pure (.int (sizes.length : Int)) := by simp [hx, dS]
    rw [r_op2, e1, pure_bind, e2, pure_bind, mul_nothing (by omega)]
  have hw : wSeq (eCall (py__law_leaves 12) [(eVar 1), (eOp2 mulD (eTup [(eC (.int (-1)))]) (eOp1 lenD (eOp2 idxD (eVar 0) (eC (.int 0)))))]) [some (dKd sizes m), some (dT t), none] = pure ((lv t (nothing sizes)).map dP, .no) := by
    have hv : eVar 1 [some (dKd sizes m), some (dT t), none] = pure (dT t) := rfl
    rw [r_wseq, r_call, r_list1, r_list1, hn, hv, r_list0]
    simp only [pure_bind, ev_lleaves 11 t (nothing sizes) hd (by rw [nothing_len]; omega) (by omega)]
    rfl
  rw [r_ret, r_op1, r_op1, r_comp, hw, pure_bind, compL_filt (p := fun p : List Int × Int => p.2 != -1) (h := dP)]
  · rw [pure_bind, pure_bind, sortedD_dP]
    rfl
  · intro p hp
    have h1 : idxD (dP p) (.int 1) = pure (.int p.2) := idx_t1 _ _ _
    simp only [oneC, r_wipe1, r_wipe0, r_putv, r_lift, pure_bind, r_tval, r_op2, r_c, r_var, List.set_cons_succ, List.set_cons_zero, List.getElem?_cons_succ, List.getElem?_cons_zero, h1, r_nei, r_toBl]
    cases p.2 != -1 <;> simp
/-- the drawn function -/
theorem ev_lfunc (ok : SzOk sizes) (hm : 1 ≤ m ∧ m ≤ 3) (h100 : (sizes.map (· + 1)).prod ≤ 100) {μ : Store} (hP : Pool μ) : ∃ F μ', py__law_function [.h 1, dKd sizes m] μ = some (dF F, μ') ∧ Fn sizes m F ∧ F.length ≤ 31 ∧ Pool μ' := by
  have h4 := ok.1
  obtain ⟨r, μ1, e1, d1, d2, d3, d4, d5⟩ := ev_draw hP (many := 4) (by decide) (by decide)
  have hx : idxD (dKd sizes m) (.int 0) = pure (dS sizes) := idx_t0 _ _
  have of : ∀ {R : Pts}, (∀ p ∈ R, Dr sizes m p) → Con R → R.length ≤ 9 → Fn sizes m (lp R) ∧ (lp R).length ≤ 31 := fun {R} h1 h2 h3 => by
    refine ⟨lp_fn (fun p hp => ⟨(h1 p hp).1, (h1 p hp).2.1, by have := (h1 p hp).2.2; omega⟩) h2, ?_⟩
    unfold lp
    have := List.length_filter_le (lone R) ((dd R).mergeSort leP)
    rw [List.length_mergeSort] at this
    have := len_dd R
    omega
  simp only [py__law_function, r_fn]
  rw [if_pos (show [D.h 1, dKd sizes m].length = 2 from rfl)]
  show ∃ F μ', (sSeq _ _ [some (.h 1), some (dKd sizes m), none] >>= retK) μ = some (dF F, μ') ∧ _
  have s2 : sAsg (.v 2) (eCall (py__law_draw) [(eVar 0), (eC (.int 4))]) [some (.h 1), some (dKd sizes m), none] μ = some (([some (.h 1), some (dKd sizes m), some (.int r)], .next), μ1) := by
    simp [bind_def, map_def, pure_def, e1]
  have t0 : tVal (eOp2 eqD (eVar 2) (eC (.int 0))) [some (.h 1), some (dKd sizes m), some (.int r)] = pure (r == 0) := by simp
  have t1 : tVal (eOp2 eqD (eVar 2) (eC (.int 1))) [some (.h 1), some (dKd sizes m), some (.int r)] = pure (r == 1) := by simp
  have v0 : eVar 0 [some (.h 1), some (dKd sizes m), some (.int r)] = pure (.h 1) := rfl
  have v1 : eVar 1 [some (.h 1), some (dKd sizes m), some (.int r)] = pure (dKd sizes m) := rfl
  rw [r_seq, bind_assoc, run_bind s2, r_seqn, r_seq, r_sif, t0, pure_bind]
  by_cases hr : r = 0
  · rw [show (r == 0) = true by simpa using hr, if_pos rfl]
    obtain ⟨t, μ2, e2, ⟨vt, va, hd⟩, s3⟩ := ev_ltree (m := m) ok hm 11 (List.range sizes.length) μ1 d3 (by rw [List.length_range]; omega) (by omega) fun k hk => List.mem_range.mp hk
    have few := tf_few ok h100 vt fr_range
    refine ⟨tf sizes t, μ2, ?_, tf_fn ok vt va fr_range, few.2, s3.1⟩
    have hr2 : eOp1 rangeD (eOp1 lenD (eOp2 idxD (eVar 1) (eC (.int 0)))) [some (.h 1), some (dKd sizes m), some (.int r)] = pure (dL (List.range sizes.length)) := by
      have e2 : eOp1 lenD (eOp2 idxD (eVar 1) (eC (.int 0))) [some (.h 1), some (dKd sizes m), some (.int r)] = pure (.int (sizes.length : Int)) := by simp [hx, dS]
      rw [r_op1, e2, pure_bind]
      unfold rangeD
      dsimp only
      rw [if_pos ⟨by omega, by omega⟩, rangeN]
    rw [r_ret, r_call, r_list1, v1, pure_bind, r_list1, r_call, r_list1, v0, pure_bind, r_list1, v1, pure_bind, r_list1, hr2, pure_bind, r_list0]
    simp only [pure_bind, bind_assoc]
    rw [run_bind e2]
    simp only [pure_bind, ev_ltold h4 (show dep t ≤ 11 from hd) few.1]
    rfl
  · rw [show (r == 0) = false by simpa using hr, if_neg Bool.false_ne_true, show sNop [some (.h 1), some (dKd sizes m), some (.int r)] = pure ([some (.h 1), some (dKd sizes m), some (.int r)], DL.Flow.next) from rfl, pure_bind, r_seqn, r_seq, r_sif, t1, pure_bind]
    by_cases hr1 : r = 1
    · rw [show (r == 1) = true by simpa using hr1, if_pos rfl]
      obtain ⟨R, μ2, e2, p1, p2, p3, p4⟩ := ev_knotted ok hm d3
      refine ⟨lp R, μ2, ?_, (of p1 p2 p3).1, (of p1 p2 p3).2, p4⟩
      rw [r_ret, r_call, r_list1, v0, pure_bind, r_list1, v1, pure_bind, r_list0]
      simp only [pure_bind, bind_assoc]
      rw [run_bind e2]
      rfl
    · rw [show (r == 1) = false by simpa using hr1, if_neg Bool.false_ne_true, show sNop [some (.h 1), some (dKd sizes m), some (.int r)] = pure ([some (.h 1), some (dKd sizes m), some (.int r)], DL.Flow.next) from rfl, pure_bind, r_seqn]
      obtain ⟨N, hN, hNb⟩ : ∃ N : Int, eOp2 idxD (eTup [(eC (.int 3)), (eC (.int 9))]) (eOp2 subD (eVar 2) (eC (.int 2))) [some (.h 1), some (dKd sizes m), some (.int r)] = pure (.int N) ∧ 0 ≤ N ∧ N ≤ 9 := by
        have h23 : r = 2 ∨ r = 3 := by omega
        have et : eTup [(eC (.int 3)), (eC (.int 9))] [some (.h 1), some (dKd sizes m), some (.int r)] = pure (.tup [.int 3, .int 9]) := by simp
        have es : eOp2 subD (eVar 2) (eC (.int 2)) [some (.h 1), some (dKd sizes m), some (.int r)] = pure (.int (r - 2)) := by simp
        rcases h23 with h | h
        · refine ⟨3, ?_, by decide, by decide⟩
          rw [r_op2, et, pure_bind, es, pure_bind, h]
          exact idx_t0 _ _
        · refine ⟨9, ?_, by decide, by decide⟩
          rw [r_op2, et, pure_bind, es, pure_bind, h]
          exact idx_t1 _ _ _
      obtain ⟨R, μ2, e2, p1, p2, p3, p4⟩ := ev_loose ok hm hNb d3
      refine ⟨lp R, μ2, ?_, (of p1 p2 p3).1, (of p1 p2 p3).2, p4⟩
      rw [r_ret, r_call, r_list1, v0, pure_bind, r_list1, v1, pure_bind, r_list1, hN, pure_bind, r_list0]
      simp only [pure_bind, bind_assoc]
      rw [run_bind e2]
      rfl
end
end K40
/-! WD: is_function, is_stable, is_stably_less, joined_functions -/
namespace K40
open PySem DL
theorem lexLt_of : ∀ {a b : List Int}, a < b → DL.lexLt a b = true
  | _, [], h => by cases h
  | [], _ :: _, _ => rfl
  | x :: a, y :: b, h => by
    rw [List.cons_lt_cons_iff] at h
    unfold DL.lexLt
    rcases h with h | ⟨h1, h2⟩
    · rw [if_neg (by omega)]
      exact decide_eq_true h
    · rw [if_pos h1]
      exact lexLt_of h2
theorem lt_dS {a b : List Int} (h : a < b) : ltD (dS a) (dS b) = pure (.bl true) := by
  unfold ltD dS
  dsimp only
  rw [toInts_map, toInts_map]
  dsimp only
  rw [lexLt_of h]
theorem eqb_dP (p q : List Int × Int) : eqb (dP p) (dP q) = decide (p = q) := by
  unfold dP
  rw [eqb, eqbL, eqb_dS, eqbL, eqbL, r_eqbi, Bool.eq_iff_iff, decide_eq_true_iff]
  simp [Prod.ext_iff]
theorem flt_dP (p : List Int × Int) : flt 59 (dP p) = true := by
  unfold dP
  rw [flt, r_flt1, r_flt1, flt_dS]
  simp
theorem flt_dP' (p : List Int × Int) : flt 60 (dP p) = true := by
  unfold dP
  rw [flt, r_flt1, r_flt1, flt_dS]
  simp
theorem any_dP (p : List Int × Int) (F : Pts) : ((F.map dP).any fun z => eqb z (dP p)) = decide (p ∈ F) := by
  rw [Bool.eq_iff_iff, List.any_eq_true, decide_eq_true_iff]
  constructor
  · rintro ⟨z, hz, h⟩
    obtain ⟨q, hq, rfl⟩ := List.mem_map.mp hz
    rw [eqb_dP, decide_eq_true_iff] at h
    exact h ▸ hq
  · intro h
    exact ⟨dP p, List.mem_map_of_mem h, by rw [eqb_dP]; simp⟩
theorem fltL_60 : ∀ R : Pts, fltL 60 (R.map dP) = true
  | [] => by simp
  | p :: R => by rw [List.map_cons, r_flt1, flt_dP', fltL_60 R]; rfl
theorem in_dF (p : List Int × Int) (F : Pts) : inD false (dP p) (dF F) = pure (.bl (decide (p ∈ F))) := by
  unfold dF
  rw [r_inD, flt_dP', fltL_60, any_dP]
  simp
def subB (A B : Pts) : Bool := A.all fun p => decide (p ∈ B)
theorem subB_iff {A B : Pts} : subB A B = true ↔ ∀ p ∈ A, p ∈ B := by
  unfold subB
  rw [List.all_eq_true]
  simp
section
variable {sizes : List Int} {m : Int} {F : Pts}
theorem ev_ispoint {p : List Int × Int} (h : p.1 ∈ rows (-1) sizes) (h2 : 0 ≤ p.2 ∧ p.2 ≤ m - 1) : py_is_point [dKd sizes m, dP p] = pure (.bl true) := by
  have i0 : idxD (dKd sizes m) (.int 0) = pure (dS sizes) := idx_t0 _ _
  have i1 : idxD (dKd sizes m) (.int 1) = pure (.int m) := idx_t1 _ _ _
  have j0 : idxD (dP p) (.int 0) = pure (dS p.1) := idx_t0 _ _
  have j1 : idxD (dP p) (.int 1) = pure (.int p.2) := idx_t1 _ _ _
  have k1 : isTup (dP p) = pure (.bl true) := rfl
  have k2 : lenD (dP p) = pure (.int 2) := rfl
  simp only [py_is_point, r_fn]
  rw [if_pos (show [dKd sizes m, dP p].length = 2 from rfl)]
  show (sSeq _ _ [some (dKd sizes m), some (dP p)] >>= retK) = _
  have t1 : tOr (tNot (tVal (eOp1 isTup (eVar 1)))) (tVal (eOp2 neD (eOp1 lenD (eVar 1)) (eC (.int 2)))) [some (dKd sizes m), some (dP p)] = pure false := by
    simp only [r_tor, r_tnot, r_tval, r_op1, r_op2, r_var, r_c, List.getElem?_cons_succ, List.getElem?_cons_zero, pure_bind, k1, k2, r_toBl, r_nei]
    rfl
  rw [r_seq, r_sif, t1, pure_bind, if_neg Bool.false_ne_true, r_nop, pure_bind, r_seqn]
  simp only [r_op2, r_var, r_c, List.getElem?_cons_succ, List.getElem?_cons_zero, pure_bind, r_toBl, r_ret, r_and, r_call, r_list1, r_list0, i0, i1, j0, j1, ev_isst (row_len h), isst_rows h, r_sub, ev_between, decide_eq_true h2.1, decide_eq_true h2.2]
  rfl
/-- a pair later in an ascending function -/
theorem later {d rest : Pts} {p q : List Int × Int} (h : Fn sizes m F) {k : Nat} (hp : F[k]? = some p) (hq : q ∈ F.drop (k + 1)) : p.1 < q.1 ∧ below p.1 q.1 = false ∧ below q.1 p.1 = false ∧ (fits p.1 q.1 = true → p.2 = q.2) ∧ p ∈ F ∧ q ∈ F ∧ p ≠ q := by
  have hpF := List.mem_of_getElem? hp
  have hqF := List.mem_of_mem_drop hq
  have hlt : ltP p q := by
    obtain ⟨j, hj⟩ := List.mem_iff_getElem?.mp hq
    rw [List.getElem?_drop] at hj
    have hk := (List.getElem?_eq_some_iff.mp hp)
    have hj' := (List.getElem?_eq_some_iff.mp hj)
    have := (List.pairwise_iff_getElem.mp h.st) k (k + 1 + j) hk.1 hj'.1 (by omega)
    rw [hk.2, hj'.2] at this
    exact this
  have hne : p ≠ q := fun e => by subst e; exact ltP_irr _ hlt
  have n1 : below p.1 q.1 = false := by
    rw [Bool.eq_false_iff]
    exact fun hb => hne (h.an p hpF q hqF hb)
  have n2 : below q.1 p.1 = false := by
    rw [Bool.eq_false_iff]
    exact fun hb => hne (h.an q hqF p hpF hb).symm
  refine ⟨?_, n1, n2, h.con p hpF q hqF, hpF, hqF, hne⟩
  rcases hlt with hl | ⟨he, _⟩
  · exact hl
  · rw [he, below_refl] at n1
    cases n1
theorem slice_dF {G : DL.Env} {i j : Nat} {k : Nat} (hi : G[i]? = some (some (dF F))) (hj : G[j]? = some (some (.int (k : Int)))) : wSeq (eSlice (eVar i) (some (eOp2 addD (eVar j) (eC (.int 1)))) none) G = pure ((F.drop (k + 1)).map dP, .no) := by
  simp [eSlice, eBound, sliceD, hi, hj, dF, cut_from1, itemsD]
theorem enum_dP (F : Pts) : (F.map dP).mapIdx (fun i d => D.tup [.int (i : Nat), d]) = F.zipIdx.map fun q => D.tup [.int (q.2 : Nat), dP q.1] := by
  apply List.ext_getElem?
  intro i
  simp [List.getElem?_mapIdx]
  cases F[i]? <;> simp
abbrev ifIn : S := (sSeq (sIf (tOr (tNot (tVal (eOp2 ltD (eVar 4) (eVar 6)))) (tOr (tVal (eCall (py_is_below) [(eVar 4), (eVar 6)])) (tVal (eCall (py_is_below) [(eVar 6), (eVar 4)]))))
    (sRet (eC (.bl false)))
    sNop)
    (sIf (tAnd (tVal (eCall (py_are_fitting) [(eVar 4), (eVar 6)])) (tVal (eOp2 neD (eVar 5) (eVar 7))))
    (sRet (eC (.bl false)))
    sNop))
abbrev ifOut : S := (sFor (.t (.cons (.v 6) (.cons (.v 7) .nil))) (wSeq (eSlice (eVar 1) (some (eOp2 addD (eVar 3) (eC (.int 1)))) none))
    ifIn)
theorem ev_isfn (h : Fn sizes m F) : py_is_function [dKd sizes m, dF F] = pure (.bl true) := by
  simp only [py_is_function, r_fn]
  rw [if_pos (show [dKd sizes m, dF F].length = 2 from rfl)]
  show (sSeq _ _ [some (dKd sizes m), some (dF F), none, none, none, none, none, none] >>= retK) = _
  have t1 : tOr (tNot (tVal (eOp1 isTup (eVar 1)))) (tNot (tVal (eOp1 allD (eComp [2] (wSeq (eVar 1)) (.v 2) none (eCall (py_is_point) [(eVar 0), (eVar 2)]))))) [some (dKd sizes m), some (dF F), none, none, none, none, none, none] = pure false := by
    have k1 : isTup (dF F) = pure (.bl true) := rfl
    have hw : wSeq (eVar 1) [some (dKd sizes m), some (dF F), none, none, none, none, none, none] = pure (F.map dP, .no) := rfl
    have ha : eOp1 allD (eComp [2] (wSeq (eVar 1)) (.v 2) none (eCall (py_is_point) [(eVar 0), (eVar 2)])) [some (dKd sizes m), some (dF F), none, none, none, none, none, none] = pure (.bl true) := by
      rw [r_op1, r_comp, hw, pure_bind, compL_map (h := fun _ => D.bl true), pure_bind]
      · have : (F.all fun _ => true) = true := List.all_eq_true.mpr fun _ _ => rfl
        simp [allD, toBls_map, this]
      · intro p hp
        simp only [oneC, r_wipe1, r_wipe0, r_putv, r_lift, pure_bind, r_call, r_list1, r_list0, r_var, List.set_cons_succ, List.set_cons_zero, List.getElem?_cons_succ, List.getElem?_cons_zero, ev_ispoint (h.b p hp).1 (h.b p hp).2]
    simp only [r_tor, r_tnot, r_tval, ha, r_op1, r_var, List.getElem?_cons_succ, List.getElem?_cons_zero, pure_bind, k1, r_toBl]
    rfl
  obtain ⟨Γ', e1, o3, o4, o5, o6, o7, rfl⟩ := forL_pure (α := (List Int × Int) × Nat) (its := F.zipIdx.map fun q => D.tup [.int (q.2 : Nat), dP q.1]) (enc := fun q => D.tup [.int (q.2 : Nat), dP q.1]) (tg := (.t (.cons (.v 3) (.cons (.t (.cons (.v 4) (.cons (.v 5) .nil))) .nil)))) (body := ifOut)
    (fun _ Γ => ∃ o3 o4 o5 o6 o7, Γ = [some (dKd sizes m), some (dF F), none, o3, o4, o5, o6, o7]) F.zipIdx [] [some (dKd sizes m), some (dF F), none, none, none, none, none, none] (by
      rintro d ⟨p, k⟩ rest Γ hd ⟨o3, o4, o5, o6, o7, rfl⟩
      have hz : F.zipIdx = d ++ (p, k) :: rest := by simpa using hd
      have hpk : F[k]? = some p := List.mem_zipIdx_iff_getElem?.mp (show (p, k) ∈ F.zipIdx by rw [hz]; simp)
      obtain ⟨Γ', e2, p6, p7, rfl⟩ := forL_pure (α := List Int × Int) (its := (F.drop (k + 1)).map dP) (enc := dP) (tg := (.t (.cons (.v 6) (.cons (.v 7) .nil)))) (body := ifIn)
        (fun _ Γ => ∃ o6 o7, Γ = [some (dKd sizes m), some (dF F), none, some (.int (k : Nat)), some (dS p.1), some (.int p.2), o6, o7]) (F.drop (k + 1)) [] [some (dKd sizes m), some (dF F), none, some (.int (k : Nat)), some (dS p.1), some (.int p.2), o6, o7] (by
          rintro d q rest Γ hd ⟨o6, o7, rfl⟩
          have hq : q ∈ F.drop (k + 1) := by
            have : F.drop (k + 1) = d ++ q :: rest := by simpa using hd
            rw [this]; simp
          obtain ⟨l1, l2, l3, l4, _⟩ := later (d := []) (rest := []) h hpk hq
          refine ⟨[some (dKd sizes m), some (dF F), none, some (.int (k : Nat)), some (dS p.1), some (.int p.2), some (dS q.1), some (.int q.2)], [some (dKd sizes m), some (dF F), none, some (.int (k : Nat)), some (dS p.1), some (.int p.2), some (dS q.1), some (.int q.2)], rfl, ?_, _, _, rfl⟩
          have c1 : tOr (tNot (tVal (eOp2 ltD (eVar 4) (eVar 6)))) (tOr (tVal (eCall (py_is_below) [(eVar 4), (eVar 6)])) (tVal (eCall (py_is_below) [(eVar 6), (eVar 4)]))) [some (dKd sizes m), some (dF F), none, some (.int (k : Nat)), some (dS p.1), some (.int p.2), some (dS q.1), some (.int q.2)] = pure false := by
            simp only [r_tor, r_tnot, r_tval, r_op2, r_var, r_call, r_list1, r_list0, List.getElem?_cons_succ, List.getElem?_cons_zero, pure_bind, lt_dS l1, ev_below, l2, l3, r_toBl]
            rfl
          have c2 : tAnd (tVal (eCall (py_are_fitting) [(eVar 4), (eVar 6)])) (tVal (eOp2 neD (eVar 5) (eVar 7))) [some (dKd sizes m), some (dF F), none, some (.int (k : Nat)), some (dS p.1), some (.int p.2), some (dS q.1), some (.int q.2)] = pure false := by
            simp only [r_tand, r_tval, r_op2, r_var, r_call, r_list1, r_list0, List.getElem?_cons_succ, List.getElem?_cons_zero, pure_bind, ev_fits, r_nei, r_toBl]
            cases hf : fits p.1 q.1 with
            | false => rfl
            | true => rw [l4 hf]; simp
          unfold ifIn
          rw [r_seq, r_sif, c1, pure_bind, if_neg Bool.false_ne_true, r_nop, pure_bind, r_seqn, r_sif, c2, pure_bind, if_neg Bool.false_ne_true, r_nop]) ⟨_, _, rfl⟩
      refine ⟨[some (dKd sizes m), some (dF F), none, some (.int (k : Nat)), some (dS p.1), some (.int p.2), o6, o7], [some (dKd sizes m), some (dF F), none, some (.int (k : Nat)), some (dS p.1), some (.int p.2), p6, p7], rfl, ?_, _, _, _, _, _, rfl⟩
      unfold ifOut
      rw [r_for, slice_dF (k := k) rfl rfl, pure_bind]
      exact e2) ⟨_, _, _, _, _, rfl⟩
  have hw : wEnum (eVar 1) [some (dKd sizes m), some (dF F), none, none, none, none, none, none] = pure (F.zipIdx.map fun q => D.tup [.int (q.2 : Nat), dP q.1], .no) := by
    simp [dF, enum_dP]
  rw [r_seq, r_sif, t1, pure_bind, if_neg Bool.false_ne_true, r_nop, pure_bind, r_seqn, r_seq, r_for, hw, pure_bind, e1, pure_bind, r_seqn]
  rfl
end
/-! ### is_stable -/
def stb (F : Pts) : Bool := F.zipIdx.all fun q => (F.drop (q.2 + 1)).all fun o => !fits q.1.1 o.1
def unsP (F : Pts) (q : (List Int × Int) × Nat) : Option D := (F.drop (q.2 + 1)).findSome? fun o => if fits q.1.1 o.1 = true then some (.tup [dS q.1.1, dS o.1]) else none
theorem uns_none (F : Pts) : (F.zipIdx.findSome? (unsP F)).isNone = stb F := by
  unfold stb
  rw [Bool.eq_iff_iff, Option.isNone_iff_eq_none, List.findSome?_eq_none_iff, List.all_eq_true]
  have : ∀ q, unsP F q = none ↔ ((F.drop (q.2 + 1)).all fun o => !fits q.1.1 o.1) = true := fun q => by
    unfold unsP
    rw [List.findSome?_eq_none_iff, List.all_eq_true]
    constructor
    · intro h o ho
      have := h o ho
      by_cases hf : fits q.1.1 o.1 = true
      · rw [if_pos hf] at this; cases this
      · simpa using hf
    · intro h o ho
      have := h o ho
      rw [if_neg (by simpa using this)]
  constructor
  · intro h q hq; exact (this q).mp (h q hq)
  · intro h q hq; exact (this q).mpr (h q hq)
theorem unsP_tup (F : Pts) {d : D} {l : List ((List Int × Int) × Nat)} (h : l.findSome? (unsP F) = some d) : ∃ ds, d = .tup ds := by
  obtain ⟨q, _, h⟩ := List.exists_of_findSome?_eq_some h
  unfold unsP at h
  obtain ⟨o, _, h⟩ := List.exists_of_findSome?_eq_some h
  split at h
  · cases h; exact ⟨_, rfl⟩
  · cases h
theorem ev_unstable (F : Pts) : py_unstable_pair [dF F] = pure ((F.zipIdx.findSome? (unsP F)).getD .non) := by
  obtain ⟨Γ', _, e1⟩ := forL_find (α := (List Int × Int) × Nat) (its := F.zipIdx.map fun q => D.tup [.int (q.2 : Nat), dP q.1]) (enc := fun q => D.tup [.int (q.2 : Nat), dP q.1]) (tg := .t (.cons (.v 1) (.cons (.t (.cons (.v 2) (.cons (.v 3) .nil))) .nil)))
    (body := (sFor (.t (.cons (.v 4) (.cons (.v 3) .nil))) (wSeq (eSlice (eVar 0) (some (eOp2 addD (eVar 1) (eC (.int 1)))) none))
    (sIf (tVal (eCall (py_are_fitting) [(eVar 2), (eVar 4)]))
    (sRet (eTup [(eVar 2), (eVar 4)]))
    sNop)))
    (fun Γ => ∃ o1 o2 o3 o4, Γ = [some (dF F), o1, o2, o3, o4]) (unsP F) F.zipIdx [some (dF F), none, none, none, none] (by
      rintro q hq Γ ⟨o1, o2, o3, o4, rfl⟩
      obtain ⟨Γ', ⟨p3, p4, rfl⟩, e2⟩ := forL_find (α := List Int × Int) (its := (F.drop (q.2 + 1)).map dP) (enc := dP) (tg := .t (.cons (.v 4) (.cons (.v 3) .nil)))
        (body := (sIf (tVal (eCall (py_are_fitting) [(eVar 2), (eVar 4)])) (sRet (eTup [(eVar 2), (eVar 4)])) sNop))
        (fun Γ => ∃ o3 o4, Γ = [some (dF F), some (.int (q.2 : Nat)), some (dS q.1.1), o3, o4]) (fun o => if fits q.1.1 o.1 = true then some (.tup [dS q.1.1, dS o.1]) else none) (F.drop (q.2 + 1)) [some (dF F), some (.int (q.2 : Nat)), some (dS q.1.1), some (.int q.1.2), o4] (by
          rintro o ho Γ ⟨o3, o4, rfl⟩
          refine ⟨[some (dF F), some (.int (q.2 : Nat)), some (dS q.1.1), some (.int o.2), some (dS o.1)], [some (dF F), some (.int (q.2 : Nat)), some (dS q.1.1), some (.int o.2), some (dS o.1)], rfl, ⟨_, _, rfl⟩, ?_⟩
          simp only [r_sif, r_tval, r_call, r_list1, r_list0, r_var, List.getElem?_cons_succ, List.getElem?_cons_zero, pure_bind, ev_fits, r_toBl]
          by_cases hf : fits q.1.1 o.1 = true
          · rw [if_pos hf, if_pos hf]; simp
          · rw [if_neg hf, if_neg hf]; rfl) ⟨_, _, rfl⟩
      refine ⟨[some (dF F), some (.int (q.2 : Nat)), some (dS q.1.1), some (.int q.1.2), o4], [some (dF F), some (.int (q.2 : Nat)), some (dS q.1.1), p3, p4], rfl, ⟨_, _, _, _, rfl⟩, ?_⟩
      rw [r_for, slice_dF (k := q.2) rfl rfl, pure_bind]
      exact e2) ⟨_, _, _, _, rfl⟩
  simp only [py_unstable_pair, r_fn]
  rw [if_pos (show [dF F].length = 1 from rfl)]
  show (sSeq _ _ [some (dF F), none, none, none, none] >>= retK) = _
  have hw : wEnum (eVar 0) [some (dF F), none, none, none, none] = pure (F.zipIdx.map fun q => D.tup [.int (q.2 : Nat), dP q.1], .no) := by
    simp [dF, enum_dP]
  rw [r_seq, r_for, hw, pure_bind, e1, pure_bind]
  cases F.zipIdx.findSome? (unsP F) <;> rfl
theorem ev_isstable (F : Pts) : py_is_stable [dF F] = pure (.bl (stb F)) := by
  simp only [py_is_stable, r_fn]
  rw [if_pos (show [dF F].length = 1 from rfl)]
  show (sRet _ [some (dF F)] >>= retK) = _
  have hv : eVar 0 [some (dF F)] = pure (dF F) := rfl
  rw [r_ret, r_op1, r_call, r_list1, hv, r_list0]
  simp only [pure_bind, ev_unstable, r_isN]
  rw [← uns_none]
  cases h : F.zipIdx.findSome? (unsP F) with
  | none => rfl
  | some d =>
    obtain ⟨ds, rfl⟩ := unsP_tup F h
    rfl
theorem stb_iff {sizes : List Int} {m : Int} {F : Pts} (h : Fn sizes m F) : stb F = true ↔ Sep F := by
  unfold stb
  rw [List.all_eq_true]
  constructor
  · intro hs p hp q hq hf
    apply Classical.byContradiction
    intro hne
    obtain ⟨i, hi⟩ := List.mem_iff_getElem?.mp hp
    obtain ⟨j, hj⟩ := List.mem_iff_getElem?.mp hq
    have key : ∀ {a b : List Int × Int} {i j : Nat}, F[i]? = some a → F[j]? = some b → i < j → fits a.1 b.1 = true → False := fun {a b i j} ha hb hij hf => by
      have h1 := hs (a, i) (List.mem_zipIdx_iff_getElem?.mpr ha)
      rw [List.all_eq_true] at h1
      have := h1 b (List.mem_iff_getElem?.mpr ⟨j - (i + 1), by rw [List.getElem?_drop, ← hb]; congr 1; omega⟩)
      rw [hf] at this
      cases this
    rcases Nat.lt_trichotomy i j with hij | hij | hij
    · exact key hi hj hij hf
    · subst hij; rw [hi] at hj; exact hne (Option.some.inj hj)
    · exact key hj hi hij (fits_comm hf)
  · intro hs q hq
    rw [List.all_eq_true]
    intro o ho
    obtain ⟨_, _, _, _, h5, h6, h7⟩ := later (d := []) (rest := []) h (List.mem_zipIdx_iff_getElem?.mp hq) ho
    cases hf : fits q.1.1 o.1 with
    | false => rfl
    | true => exact absurd (hs _ h5 _ h6 hf) h7
end K40
/-! WE: joined_functions, shared_function, joined_all, are_parts -/
namespace K40
open PySem DL
section
variable {sizes : List Int} {m : Int} {A B F : Pts}
/-! ### shared_function -/
def shRow (p : List Int × Int) (B : Pts) : Pts := (B.filter fun q => p.2 == q.2 && fits p.1 q.1).map fun q => (jn p.1 q.1, p.2)
def shr (A B : Pts) : Pts := A.flatMap fun p => shRow p B
theorem shRow_len (p : List Int × Int) (B : Pts) : (shRow p B).length ≤ B.length := by
  unfold shRow
  rw [List.length_map]
  exact List.length_filter_le _ _
/-! ### joined_all, are_parts -/
theorem compL_grow {α : Type} {its : List D} {enc : α → D} {f : D → M (Option D)} {h : α → D} : ∀ {xs : List α}, (∀ a ∈ xs, Grow (f (enc a)) (some (h a))) → Grow (compL .no its f (xs.map enc)) (xs.map h)
  | [], _ => .pure _
  | x :: xs, hh => by
    rw [List.map_cons, compL, gOk_no, pure_bind]
    exact Grow.bind (hh x List.mem_cons_self) (Grow.bind (compL_grow fun a ha => hh a (List.mem_cons_of_mem _ ha)) (.pure _))
theorem ev_ja {Fs : List Pts} (h64 : Fs.flatten.length < 64) : Grow (py_joined_all [.tup (Fs.map dF)]) (dF (lp Fs.flatten)) := fun μ => by
  obtain ⟨μ1, e1⟩ := ev_least (R := Fs.flatten) h64 μ
  refine ⟨μ1, ?_⟩
  simp only [py_joined_all, r_fn]
  rw [if_pos (show [D.tup (Fs.map dF)].length = 1 from rfl)]
  show (sRet _ [some (.tup (Fs.map dF)), none, none] >>= retK) μ = _
  have hc : eComp2 [1, 2] [2] (wSeq (eVar 0)) (.v 1) (wSeq (eVar 1)) (.v 2) (eVar 2) [some (.tup (Fs.map dF)), none, none] = pure (.lst (Fs.flatten.map dP)) := by
    have hw : wSeq (eVar 0) [some (.tup (Fs.map dF)), none, none] = pure (Fs.map dF, .no) := rfl
    have hfm : Fs.flatMap (fun F => F.map dP) = Fs.flatten.map dP := by
      rw [List.map_flatten]
      rfl
    rw [r_comp2, hw, pure_bind, compX_no (h := fun F : Pts => F.map dP), pure_bind, hfm, if_pos (by rw [List.length_map]; exact le_lim (by omega))]
    intro F hF
    unfold rowC
    have hw2 : wSeq (eVar 1) [some (.tup (Fs.map dF)), some (dF F), none] = pure (F.map dP, .no) := rfl
    simp only [r_wipe1, r_wipe0, r_putv, r_lift, pure_bind, List.set_cons_succ, List.set_cons_zero, hw2]
    rw [compL_map (h := dP)]
    intro p hp
    simp [oneC]
  rw [r_ret, r_call, r_list1, hc, pure_bind, r_list0, pure_bind]
  simp only [bind_assoc]
  rw [pure_bind, run_bind e1]
  rfl
theorem ev_parts (ok : SzOk sizes) {Fs : List Pts} (h64 : Fs.flatten.length < 64) (hf : ∀ G ∈ Fs, Fn sizes m G ∧ seqOf sizes G = true ∧ (G.all fun q => ansAt F q.1 == q.2) = true) (hj : lp Fs.flatten = F) : Grow (py_are_parts [dKd sizes m, dF F, .tup (Fs.map dF)]) (.bl true) := fun μ => by
  have k1 : isTup (.tup (Fs.map dF)) = pure (.bl true) := rfl
  have hall : (Fs.all fun _ => true) = true := List.all_eq_true.mpr fun _ _ => rfl
  have hw : wSeq (eVar 2) [some (dKd sizes m), some (dF F), some (.tup (Fs.map dF)), none] = pure (Fs.map dF, .no) := rfl
  have t1 : tOr (tNot (tVal (eOp1 isTup (eVar 2)))) (tNot (tVal (eOp1 allD (eComp [3] (wSeq (eVar 2)) (.v 3) none (eCall (py_is_function) [(eVar 0), (eVar 3)]))))) [some (dKd sizes m), some (dF F), some (.tup (Fs.map dF)), none] = pure false := by
    have ha : eOp1 allD (eComp [3] (wSeq (eVar 2)) (.v 3) none (eCall (py_is_function) [(eVar 0), (eVar 3)])) [some (dKd sizes m), some (dF F), some (.tup (Fs.map dF)), none] = pure (.bl true) := by
      rw [r_op1, r_comp, hw, pure_bind, compL_map (h := fun _ => D.bl true), pure_bind]
      · simp [allD, toBls_map, hall]
      · intro G hG
        simp only [oneC, r_wipe1, r_wipe0, r_putv, r_lift, pure_bind, r_call, r_list1, r_list0, r_var, List.set_cons_succ, List.set_cons_zero, List.getElem?_cons_succ, List.getElem?_cons_zero, ev_isfn (hf G hG).1]
    simp only [r_tor, r_tnot, r_tval, ha, r_op1, r_var, List.getElem?_cons_succ, List.getElem?_cons_zero, pure_bind, k1, r_toBl]
    rfl
  have hcomp : Grow (compL .no (Fs.map dF) (oneC [3] (.v 3) none (eAnd (eCall (py_is_sequential) [(eVar 0), (eVar 3)]) (eCall (py_is_less) [(eVar 3), (eVar 1)])) [some (dKd sizes m), some (dF F), some (.tup (Fs.map dF)), none]) (Fs.map dF)) (Fs.map fun _ => D.bl true) := compL_grow fun G hG => by
    obtain ⟨g1, g2, g3⟩ := hf G hG
    simp only [oneC, r_wipe1, r_wipe0, r_putv, r_lift, pure_bind, r_and, r_call, r_list1, r_list0, r_var, List.set_cons_succ, List.set_cons_zero, List.getElem?_cons_succ, List.getElem?_cons_zero, ev_less, g3]
    have hs := ev_isseq (m := m) ok g1.b
    rw [g2] at hs
    simp only [bind_assoc]
    refine Grow.bind hs ?_
    rw [r_toBl, pure_bind, if_pos rfl, pure_bind]
    exact .pure _
  obtain ⟨μ1, e1⟩ := hcomp μ
  have t2 : tNot (tVal (eOp1 allD (eComp [3] (wSeq (eVar 2)) (.v 3) none (eAnd (eCall (py_is_sequential) [(eVar 0), (eVar 3)]) (eCall (py_is_less) [(eVar 3), (eVar 1)]))))) [some (dKd sizes m), some (dF F), some (.tup (Fs.map dF)), none] μ = some (false, μ ++ μ1) := by
    rw [r_tnot, r_tval, r_op1, r_comp, hw, pure_bind]
    simp only [bind_assoc]
    rw [run_bind e1]
    simp [allD, toBls_map, hall, pure_def]
  obtain ⟨μ2, e2⟩ := ev_ja h64 (μ ++ μ1)
  refine ⟨μ1 ++ μ2, ?_⟩
  simp only [py_are_parts, r_fn]
  rw [if_pos (show [dKd sizes m, dF F, D.tup (Fs.map dF)].length = 3 from rfl)]
  show (sSeq _ _ [some (dKd sizes m), some (dF F), some (.tup (Fs.map dF)), none] >>= retK) μ = _
  have hv2 : eVar 2 [some (dKd sizes m), some (dF F), some (.tup (Fs.map dF)), none] = pure (.tup (Fs.map dF)) := rfl
  have hv1 : eVar 1 [some (dKd sizes m), some (dF F), some (.tup (Fs.map dF)), none] = pure (dF F) := rfl
  rw [r_seq, r_sif, t1, pure_bind, if_neg Bool.false_ne_true, r_nop, pure_bind, r_seqn, r_seq, r_sif, bind_assoc, bind_assoc, run_bind t2, if_neg Bool.false_ne_true, r_nop, pure_bind, r_seqn, r_ret, r_op2, r_call, r_list1, hv2, pure_bind, r_list0, pure_bind, pure_bind]
  simp only [bind_assoc]
  rw [run_bind e2, hv1, hj]
  simp only [pure_bind, eq_dF']
  rw [List.append_assoc]
  rfl
/-! ### of separated points -/
theorem filt_one {p : List Int × Int} : ∀ {B : Pts}, B.Nodup → (B.filter fun q => decide (q = p)) = if p ∈ B then [p] else []
  | [], _ => by simp
  | q :: B, h => by
    rw [List.nodup_cons] at h
    have ih := filt_one (p := p) h.2
    rw [List.filter_cons]
    by_cases hq : q = p
    · subst hq
      rw [if_pos (by simp), ih, if_neg h.1, if_pos List.mem_cons_self]
    · rw [if_neg (by simpa using hq), ih]
      by_cases hp : p ∈ B
      · rw [if_pos hp, if_pos (List.mem_cons_of_mem _ hp)]
      · rw [if_neg hp, if_neg fun hc => by
          rcases List.mem_cons.mp hc with e | e
          · exact hq e.symm
          · exact hp e]
theorem fits_refl (a : List Int) : fits a a = true := below_fits (below_refl a)
theorem jn_self {s : List Int} : jn s s = s := by
  apply List.ext_getElem?
  intro i
  cases h : s[i]? with
  | none =>
    rw [List.getElem?_eq_none_iff] at h ⊢
    unfold jn
    simp
    omega
  | some x =>
    rw [jn_get h h]
    simp
theorem shr_sep (hB : B.Nodup) (hs : Sep (A ++ B)) : shr A B = A.filter fun p => decide (p ∈ B) := by
  have row : ∀ p ∈ A, shRow p B = if p ∈ B then [p] else [] := fun p hp => by
    unfold shRow
    have e : (B.filter fun q => p.2 == q.2 && fits p.1 q.1) = B.filter fun q => decide (q = p) := List.filter_congr fun q hq => by
      rw [Bool.eq_iff_iff, Bool.and_eq_true, decide_eq_true_iff]
      constructor
      · rintro ⟨_, h⟩
        exact (hs p (List.mem_append_left _ hp) q (List.mem_append_right _ hq) h).symm
      · rintro rfl
        exact ⟨by simp, fits_refl _⟩
    rw [e, filt_one hB]
    split
    · simp [jn_self]
    · rfl
  have gen : ∀ l : Pts, (∀ p ∈ l, p ∈ A) → l.flatMap (fun p => shRow p B) = l.filter fun p => decide (p ∈ B) := by
    intro l
    induction l with
    | nil => intro _; rfl
    | cons p l ih =>
      intro h
      rw [List.flatMap_cons, ih fun q hq => h q (List.mem_cons_of_mem _ hq), row p (h p List.mem_cons_self), List.filter_cons]
      by_cases hp : p ∈ B
      · rw [if_pos hp, if_pos (by simpa using hp)]
        rfl
      · rw [if_neg hp, if_neg (by simpa using hp)]
        rfl
  exact gen A fun p hp => hp
end
end K40
/-! WH: points put into sequential groups, in plain -/
namespace K40
open PySem DL
def own (G : List Pts) (k : Nat) (p : List Int × Int) : Pts := G[k]?.getD [] ++ [p]
def putG (G : List Pts) (k : Nat) (p : List Int × Int) : List Pts := G.take k ++ [own G k p] ++ G.drop (k + 1)
/-- the search -/
def sho (sizes : List Int) : Nat → Pts → List Pts → Nat → Option (List Pts)
  | 0, _, _, _ => none
  | _ + 1, [], G, _ => some G
  | n + 1, p :: ps, G, d => (List.range (min (G.length + 1) d)).findSome? fun k => if seqOf sizes (own G k p) = true then sho sizes n ps (putG G k p) d else none
theorem put_len {G : List Pts} {k : Nat} {p : List Int × Int} (h : k ≤ G.length) : (putG G k p).length = if k < G.length then G.length else G.length + 1 := by
  unfold putG
  rw [List.length_append, List.length_append, List.length_take, List.length_drop, List.length_singleton]
  split <;> omega
theorem put_get {G : List Pts} {k i : Nat} {p : List Int × Int} (h : k ≤ G.length) : (putG G k p)[i]? = if i = k then some (own G k p) else G[i]? := by
  unfold putG
  have hl : (G.take k).length = k := by rw [List.length_take]; omega
  rw [List.append_assoc]
  by_cases h1 : i < k
  · rw [if_neg (by omega), List.getElem?_append_left (by omega), List.getElem?_take_of_lt h1]
  · rw [List.getElem?_append_right (by omega), hl]
    by_cases h2 : i = k
    · rw [if_pos h2, h2, Nat.sub_self]
      rfl
    · rw [if_neg h2, show i - k = (i - k - 1) + 1 by omega]
      show (G.drop (k + 1))[i - k - 1]? = _
      rw [List.getElem?_drop]
      congr 1
      omega
section
variable {sizes : List Int} {m : Int} {F : Pts}
/-- points coloured so that each colour is sequential -/
def Col (sizes : List Int) (F : Pts) (d : Nat) : Prop := ∃ c : List Int × Int → Nat, (∀ p ∈ F, c p < d) ∧ ∀ x, seqOf sizes (F.filter fun p => c p == x) = true
/-- what is found is a colouring -/
theorem sho_sound : ∀ (n : Nat) (ps : Pts) (G G' : List Pts) (d : Nat), ps.Nodup → G.length ≤ d → (∀ g ∈ G, seqOf sizes g = true) → sho sizes n ps G d = some G' →
    G'.length ≤ d ∧ (∀ g ∈ G', seqOf sizes g = true) ∧ ∃ c : List Int × Int → Nat, (∀ p ∈ ps, c p < G'.length) ∧ G.length ≤ G'.length ∧ ∀ (i : Nat) (g : Pts), G'[i]? = some g → g = G[i]?.getD [] ++ ps.filter fun p => c p == i
  | 0, _, _, _, _, _, _, _, h => by cases h
  | _ + 1, [], G, G', d, _, hd, hg, h => by
    cases h
    exact ⟨hd, hg, fun _ => 0, (fun p hp => by cases hp), Nat.le_refl _, fun i g e => by rw [e]; simp⟩
  | n + 1, p :: ps, G, G', d, hn, hd, hg, h => by
    rw [List.nodup_cons] at hn
    unfold sho at h
    obtain ⟨k, hk, h⟩ := List.exists_of_findSome?_eq_some h
    rw [List.mem_range] at hk
    have hkG : k ≤ G.length := by omega
    by_cases hs : seqOf sizes (own G k p) = true
    · rw [if_pos hs] at h
      have hpl := put_len (p := p) hkG
      obtain ⟨a1, a2, c, c1, c2, c3⟩ := sho_sound n ps (putG G k p) G' d hn.2 (by rw [hpl]; split <;> omega) (fun g hg' => by
        obtain ⟨i, hi⟩ := List.mem_iff_getElem?.mp hg'
        rw [put_get hkG] at hi
        split at hi
        · rw [← Option.some.inj hi]; exact hs
        · exact hg g (List.mem_of_getElem? hi)) h
      have hkl : k < G'.length := by
        rw [hpl] at c2
        split at c2 <;> omega
      refine ⟨a1, a2, fun x => if x = p then k else c x, fun q hq => ?_, by rw [hpl] at c2; split at c2 <;> omega, fun i g e => ?_⟩
      · dsimp only
        rcases List.mem_cons.mp hq with rfl | hq
        · rw [if_pos rfl]; exact hkl
        · split
          · exact hkl
          · exact c1 q hq
      · have hf : (ps.filter fun x => (if x = p then k else c x) == i) = ps.filter fun x => c x == i := List.filter_congr fun x hx => by
          have : x ≠ p := fun z => hn.1 (by rw [← z]; exact hx)
          rw [if_neg this]
        rw [c3 i g e, put_get hkG, List.filter_cons, hf]
        by_cases hik : i = k
        · subst hik
          simp [own]
        · have : ¬ (k = i) := fun z => hik z.symm
          simp [hik, this]
    · rw [if_neg hs] at h
      cases h
theorem filter_sub {c : List Int × Int → Nat} {x : Nat} : (F.filter fun p => c p == x).Sublist F := List.filter_sublist
theorem nodup_le : ∀ (d : Nat) (l : List Nat), l.Nodup → (∀ x ∈ l, x < d) → l.length ≤ d
  | 0, [], _, _ => Nat.le_refl _
  | 0, x :: _, _, h => absurd (h x List.mem_cons_self) (Nat.not_lt_zero _)
  | d + 1, l, hn, h => by
    have h1 := nodup_le d (l.filter fun x => x != d) (hn.filter _) fun x hx => by
      have := List.mem_filter.mp hx
      have h2 := h x this.1
      have h3 : x ≠ d := by simpa using this.2
      omega
    have h2 : l.length ≤ (l.filter fun x => x != d).length + 1 := by
      clear h1 h
      induction l with
      | nil => simp
      | cons a l ih =>
        rw [List.nodup_cons] at hn
        rw [List.filter_cons]
        by_cases ha : a = d
        · subst ha
          have : l.filter (fun x => x != a) = l := List.filter_eq_self.mpr fun x hx => by
            have : x ≠ a := fun e => hn.1 (e ▸ hx)
            simpa using this
          simp [this]
        · have := ih hn.2
          rw [if_pos (by simpa using ha)]
          simp
          omega
    omega
/-- where there is a colouring, something is found -/
theorem sho_full (ok : SzOk sizes) (hF : Fn sizes m F) : ∀ (n : Nat) (done ps : Pts) (G : List Pts) (d : Nat) (c : List Int × Int → Nat) (γ : List Nat), done ++ ps = F → ps.length < n → (∀ p ∈ F, c p < d) → (∀ x, seqOf sizes (F.filter fun p => c p == x) = true) → γ.Nodup → γ.length = G.length → (∀ x ∈ γ, x < d) →
    (∀ (i : Nat) (g : Pts) (x : Nat), G[i]? = some g → γ[i]? = some x → ∀ q ∈ g, q ∈ F ∧ c q = x) → (sho sizes n ps G d).isSome = true
  | 0, _, _, _, _, _, _, _, h, _, _, _, _, _, _ => absurd h (Nat.not_lt_zero _)
  | _ + 1, _, [], G, _, _, _, _, _, _, _, _, _, _, _ => rfl
  | n + 1, done, p :: ps, G, d, c, γ, hd, hl, h1, h2, g1, g2, g3, g4 => by
    have hpF : p ∈ F := by rw [← hd]; simp
    have seq : ∀ {g : Pts} {x : Nat}, (∀ q ∈ g, q ∈ F ∧ c q = x) → seqOf sizes g = true := fun {g x} hq => seq_sub ok (hF.sub (filter_sub (c := c) (x := x))) (h2 x) fun q hg => List.mem_filter.mpr ⟨(hq q hg).1, by rw [(hq q hg).2]; simp⟩
    have step : ∀ (k : Nat) (γ' : List Nat), k ≤ G.length → k < d → γ'.Nodup → γ'.length = (putG G k p).length → (∀ x ∈ γ', x < d) → γ'[k]? = some (c p) → (∀ i, i ≠ k → i < G.length → γ'[i]? = γ[i]?) → (∀ q ∈ G[k]?.getD [], q ∈ F ∧ c q = c p) → (sho sizes (n + 1) (p :: ps) G d).isSome = true := fun k γ' k1 k2 k3 k4 k5 k6 k7 k8 => by
      have hown : ∀ q ∈ own G k p, q ∈ F ∧ c q = c p := fun q hq => by
        unfold own at hq
        rcases List.mem_append.mp hq with hq | hq
        · exact k8 q hq
        · rw [List.mem_singleton.mp hq]; exact ⟨hpF, rfl⟩
      have ih := sho_full ok hF n (done ++ [p]) ps (putG G k p) d c γ' (by rw [← hd]; simp) (by rw [List.length_cons] at hl; omega) h1 h2 k3 k4 k5 (fun i g x e1 e2 => by
        rw [put_get k1] at e1
        by_cases hik : i = k
        · rw [if_pos hik] at e1
          subst hik
          rw [← Option.some.inj e1]
          rw [k6] at e2
          rw [← Option.some.inj e2]
          exact hown
        · rw [if_neg hik] at e1
          rw [k7 i hik (List.getElem?_eq_some_iff.mp e1).1] at e2
          exact g4 i g x e1 e2)
      unfold sho
      rw [List.findSome?_isSome_iff]
      exact ⟨k, List.mem_range.mpr (by omega), by rw [if_pos (seq hown)]; exact ih⟩
    by_cases hc : c p ∈ γ
    · obtain ⟨k, hk⟩ := List.mem_iff_getElem?.mp hc
      have hkl := (List.getElem?_eq_some_iff.mp hk).1
      have hkG : k < G.length := by omega
      have hkd : k < d := by
        have : γ.length ≤ d := nodup_le d γ g1 g3
        omega
      refine step k γ (by omega) hkd g1 (by rw [put_len (by omega), if_pos hkG, g2]) g3 hk (fun _ _ _ => rfl) fun q hq => ?_
      rw [List.getElem?_eq_getElem hkG] at hq
      exact g4 k _ _ (List.getElem?_eq_getElem hkG) hk q hq
    · have hkd : G.length < d := by
        have : (c p :: γ).length ≤ d := nodup_le d (c p :: γ) (List.nodup_cons.mpr ⟨hc, g1⟩) fun x hx => by
          rcases List.mem_cons.mp hx with e | hx
          · rw [e]; exact h1 p hpF
          · exact g3 x hx
        rw [List.length_cons] at this
        omega
      refine step G.length (γ ++ [c p]) (Nat.le_refl _) hkd (List.nodup_append.mpr ⟨g1, by simp, fun a ha b hb => by
        rw [List.mem_singleton.mp hb]
        exact fun e => hc (e ▸ ha)⟩) (by rw [put_len (Nat.le_refl _), if_neg (Nat.lt_irrefl _)]; simp [g2]) (fun x hx => by
          rcases List.mem_append.mp hx with hx | hx
          · exact g3 x hx
          · rw [List.mem_singleton.mp hx]; exact h1 p hpF) (by rw [List.getElem?_append_right (by omega), g2, Nat.sub_self]; rfl) (fun i hi hil => by rw [List.getElem?_append_left (by omega)]) fun q hq => by
        rw [List.getElem?_eq_none (Nat.le_refl _)] at hq
        cases hq
theorem col_found (ok : SzOk sizes) (hF : Fn sizes m F) {n d : Nat} (hn : F.length < n) (h : Col sizes F d) : (sho sizes n F [] d).isSome = true := by
  obtain ⟨c, c1, c2⟩ := h
  exact sho_full ok hF n [] F [] d c [] rfl hn c1 c2 .nil rfl (fun x hx => by cases hx) fun i g x e => by cases e
theorem seq_nil (ok : SzOk sizes) : seqOf sizes [] = true := by
  unfold seqOf gr
  have : isOp [] (nothing sizes) = false := rfl
  rw [this]
  rfl
theorem found_col (ok : SzOk sizes) (hF : Fn sizes m F) {n d : Nat} {G : List Pts} (h : sho sizes n F [] d = some G) : G.length ≤ d ∧ Col sizes F G.length := by
  obtain ⟨a1, a2, c, c1, _, c3⟩ := sho_sound n F [] G d (ltP_nd hF.st) (Nat.zero_le _) (fun g hg => by cases hg) h
  refine ⟨a1, c, c1, fun x => ?_⟩
  by_cases hx : x < G.length
  · have := c3 x G[x] (List.getElem?_eq_getElem hx)
    rw [show ([] : List Pts)[x]?.getD [] = [] from rfl, List.nil_append] at this
    rw [← this]
    exact a2 _ (List.getElem_mem hx)
  · have : (F.filter fun p => c p == x) = [] := List.filter_eq_nil_iff.mpr fun p hp => by
      have := c1 p hp
      simp
      omega
    rw [this]
    exact seq_nil ok
end
end K40
/-! WI: shared_out, least_parts, degree -/
namespace K40
open PySem DL
theorem forL_gfind {α : Type} {its : List D} {enc : α → D} {tg : Tg} {body : S} (Rel : DL.Env → Prop) (p : α → Option D) : ∀ (xs : List α) (Γ : DL.Env), (∀ a ∈ xs, ∀ Γ, Rel Γ → ∃ Γ1, tg.put (enc a) Γ = some Γ1 ∧ ∀ μ, ∃ Γ2 μ', Rel Γ2 ∧ body Γ1 μ = some ((Γ2, match p a with | some d => .ret d | none => .next), μ ++ μ')) → Rel Γ →
    ∀ μ, ∃ Γ' μ', Rel Γ' ∧ forL .no its tg body (xs.map enc) Γ μ = some ((Γ', match xs.findSome? p with | some d => .ret d | none => .next), μ ++ μ')
  | [], Γ, _, h0, μ => ⟨Γ, [], h0, by rw [List.append_nil]; rfl⟩
  | x :: xs, Γ, h, h0, μ => by
    obtain ⟨Γ1, e1, e2⟩ := h x List.mem_cons_self Γ h0
    obtain ⟨Γ2, μ1, e3, e4⟩ := e2 μ
    rw [List.map_cons, forL, gOk_no, pure_bind, e1, r_lift, pure_bind, run_bind e4, List.findSome?_cons]
    cases hp : p x with
    | some d => exact ⟨Γ2, μ1, e3, rfl⟩
    | none =>
      obtain ⟨Γ3, μ2, e5, e6⟩ := forL_gfind Rel p xs Γ2 (fun a ha => h a (List.mem_cons_of_mem _ ha)) e3 (μ ++ μ1)
      exact ⟨Γ3, μ1 ++ μ2, e5, by rw [← List.append_assoc]; exact e6⟩
def dSo : Option (List Pts) → D
  | none => .non
  | some G => .tup (G.map dF)
theorem min2_nat (a b : Nat) : min2D (.int ((a : Int) + 1)) (.int (b : Int)) = pure (.int ((min (a + 1) b : Nat) : Int)) := by
  show pure (D.int (if (b : Int) < (a : Int) + 1 then (b : Int) else (a : Int) + 1)) = _
  congr 2
  split <;> omega
section
variable {sizes : List Int} {m : Int} {F : Pts}
abbrev soB (n : Nat) : S := (sSeq (sAsg (.v 5) (eOp2 addD (eIf (tVal (eOp2 ltD (eVar 4) (eOp1 lenD (eVar 2)))) (eOp2 idxD (eVar 2) (eVar 4)) (eTup [])) (eSlice (eVar 1) none (some (eC (.int 1))))))
    (sIf (tVal (eCall (py_is_sequential) [(eVar 0), (eVar 5)]))
    (sSeq (sAsg (.v 6) (eCall (py_shared_out n) [(eVar 0), (eSlice (eVar 1) (some (eC (.int 1))) none), (eOp2 addD (eOp2 addD (eSlice (eVar 2) none (some (eVar 4))) (eLst [(eVar 5)])) (eSlice (eVar 2) (some (eOp2 addD (eVar 4) (eC (.int 1)))) none)), (eVar 3)]))
    (sIf (tVal (eOp1 (isN true) (eVar 6)))
    (sRet (eVar 6))
    sNop))
    sNop))
theorem ev_sho (ok : SzOk sizes) : ∀ (n : Nat) (ps : Pts) (G : List Pts) (d : Nat), ps.length < n → FnB sizes m ps → (∀ g ∈ G, FnB sizes m g ∧ g.length + ps.length ≤ 1000) → G.length + ps.length ≤ 1000 → d ≤ 1000 →
    Grow (py_shared_out n [dKd sizes m, dF ps, .lst (G.map dF), .int (d : Int)]) (dSo (sho sizes n ps G d))
  | 0, _, _, _, h, _, _, _, _ => absurd h (Nat.not_lt_zero _)
  | n + 1, [], G, d, _, _, _, _, _ => by
    refine Grow.of ?_
    rw [py_shared_out]
    simp only [r_fn]
    rw [if_pos (show [dKd sizes m, dF [], D.lst (G.map dF), D.int (d : Int)].length = 4 from rfl)]
    show (sSeq _ _ [some (dKd sizes m), some (dF []), some (.lst (G.map dF)), some (.int (d : Int)), none, none, none] >>= retK) = _
    have t1 : tVal (eOp2 eqD (eOp1 lenD (eVar 1)) (eC (.int 0))) [some (dKd sizes m), some (dF []), some (.lst (G.map dF)), some (.int (d : Int)), none, none, none] = pure true := by simp [dF]
    have e1 : eOp1 tupleD (eVar 2) [some (dKd sizes m), some (dF []), some (.lst (G.map dF)), some (.int (d : Int)), none, none, none] = pure (.tup (G.map dF)) := rfl
    rw [r_seq, r_sif, t1, pure_bind, if_pos rfl, r_ret, e1]
    rfl
  | n + 1, p :: ps, G, d, hn, hb, hG, hGl, hd => fun μ => by
    rw [List.length_cons] at hn hGl
    have hb' : FnB sizes m ps := fun q hq => hb q (List.mem_cons_of_mem _ hq)
    have loop := forL_gfind (α := Nat) (its := (List.range (min (G.length + 1) d)).map fun (k : Nat) => D.int (k : Int)) (enc := fun (k : Nat) => D.int (k : Int)) (tg := .v 4) (body := soB n)
      (fun Γ => ∃ o4 o5 o6, Γ = [some (dKd sizes m), some (dF (p :: ps)), some (.lst (G.map dF)), some (.int (d : Int)), o4, o5, o6])
      (fun k => if seqOf sizes (own G k p) = true then (sho sizes n ps (putG G k p) d).map (fun G' => D.tup (G'.map dF)) else none) (List.range (min (G.length + 1) d))
      [some (dKd sizes m), some (dF (p :: ps)), some (.lst (G.map dF)), some (.int (d : Int)), none, none, none] (by
        rintro k hk Γ ⟨o4, o5, o6, rfl⟩
        rw [List.mem_range] at hk
        have hkG : k ≤ G.length := by omega
        refine ⟨[some (dKd sizes m), some (dF (p :: ps)), some (.lst (G.map dF)), some (.int (d : Int)), some (.int (k : Int)), o5, o6], rfl, fun μ => ?_⟩
        have hown : FnB sizes m (own G k p) ∧ (own G k p).length + ps.length ≤ 1000 := by
          unfold own
          by_cases h : k < G.length
          · rw [List.getElem?_eq_getElem h]
            obtain ⟨h1, h2⟩ := hG G[k] (List.getElem_mem h)
            refine ⟨fun q hq => ?_, by simp at h2 ⊢; omega⟩
            rcases List.mem_append.mp hq with hq | hq
            · exact h1 q hq
            · rw [List.mem_singleton.mp hq]; exact hb p List.mem_cons_self
          · rw [List.getElem?_eq_none (by omega)]
            refine ⟨fun q hq => ?_, by simp; omega⟩
            rcases List.mem_append.mp hq with hq | hq
            · cases hq
            · rw [List.mem_singleton.mp hq]; exact hb p List.mem_cons_self
        have s5 : sAsg (.v 5) (eOp2 addD (eIf (tVal (eOp2 ltD (eVar 4) (eOp1 lenD (eVar 2)))) (eOp2 idxD (eVar 2) (eVar 4)) (eTup [])) (eSlice (eVar 1) none (some (eC (.int 1))))) [some (dKd sizes m), some (dF (p :: ps)), some (.lst (G.map dF)), some (.int (d : Int)), some (.int (k : Int)), o5, o6]
            = pure ([some (dKd sizes m), some (dF (p :: ps)), some (.lst (G.map dF)), some (.int (d : Int)), some (.int (k : Int)), some (dF (own G k p)), o6], .next) := by
          have c1 : tVal (eOp2 ltD (eVar 4) (eOp1 lenD (eVar 2))) [some (dKd sizes m), some (dF (p :: ps)), some (.lst (G.map dF)), some (.int (d : Int)), some (.int (k : Int)), o5, o6] = pure (decide (k < G.length)) := by
            simp
          have c2 : eIf (tVal (eOp2 ltD (eVar 4) (eOp1 lenD (eVar 2)))) (eOp2 idxD (eVar 2) (eVar 4)) (eTup []) [some (dKd sizes m), some (dF (p :: ps)), some (.lst (G.map dF)), some (.int (d : Int)), some (.int (k : Int)), o5, o6] = pure (dF (G[k]?.getD [])) := by
            rw [r_if, c1, pure_bind]
            by_cases h : k < G.length
            · rw [decide_eq_true h, if_pos rfl, List.getElem?_eq_getElem h]
              have hx : idxD (.lst (G.map dF)) (.int (k : Int)) = pure (dF G[k]) := idx_lst (by rw [List.getElem?_map, List.getElem?_eq_getElem h]; rfl)
              simp only [r_op2, r_var, List.getElem?_cons_succ, List.getElem?_cons_zero, pure_bind, hx]
              rfl
            · rw [decide_eq_false h, if_neg Bool.false_ne_true, List.getElem?_eq_none (by omega)]
              simp [dF]
          have c3 : eSlice (eVar 1) none (some (eC (.int 1))) [some (dKd sizes m), some (dF (p :: ps)), some (.lst (G.map dF)), some (.int (d : Int)), some (.int (k : Int)), o5, o6] = pure (.tup [dP p]) := by
            have : cut ((p :: ps).map dP) none (some ((1 : Nat) : Int)) = ((p :: ps).take 1).map dP := cut_to dP _ 1
            simp only [eSlice, eBound, r_var, List.getElem?_cons_succ, List.getElem?_cons_zero, pure_bind, r_c, sliceD, dF]
            rw [show (1 : Int) = ((1 : Nat) : Int) from rfl, this]
            rfl
          have c4 : addD (dF (G[k]?.getD [])) (.tup [dP p]) = pure (dF (own G k p)) := by
            have := hown.2
            unfold own at this
            unfold dF own
            rw [r_cat, if_pos (by
              rw [List.length_append] at this
              rw [List.length_map]
              exact le_lim (by simp at this ⊢; omega)), List.map_append]
            rfl
          rw [r_asg, r_op2, c2, pure_bind, c3, pure_bind, c4, pure_bind]
          rfl
        obtain ⟨μ1, e1⟩ := ev_isseq (m := m) ok hown.1 μ
        have t1 : tVal (eCall (py_is_sequential) [(eVar 0), (eVar 5)]) [some (dKd sizes m), some (dF (p :: ps)), some (.lst (G.map dF)), some (.int (d : Int)), some (.int (k : Int)), some (dF (own G k p)), o6] μ = some (seqOf sizes (own G k p), μ ++ μ1) := by
          simp only [r_tval, r_call, r_list1, r_list0, r_var, List.getElem?_cons_succ, List.getElem?_cons_zero, pure_bind]
          rw [run_bind e1]
          rfl
        unfold soB
        rw [r_seq, s5, pure_bind, r_seqn, r_sif, run_bind t1]
        by_cases hs : seqOf sizes (own G k p) = true
        · rw [if_pos hs, if_pos hs]
          obtain ⟨μ2, e2⟩ := ev_sho ok n ps (putG G k p) d (by omega) hb' (fun g hg => by
            obtain ⟨i, hi⟩ := List.mem_iff_getElem?.mp hg
            rw [put_get hkG] at hi
            split at hi
            · rw [← Option.some.inj hi]; exact hown
            · obtain ⟨h1, h2⟩ := hG g (List.mem_of_getElem? hi)
              exact ⟨h1, by simp at h2; omega⟩) (by rw [put_len hkG]; split <;> omega) hd (μ ++ μ1)
          have s6 : sAsg (.v 6) (eCall (py_shared_out n) [(eVar 0), (eSlice (eVar 1) (some (eC (.int 1))) none), (eOp2 addD (eOp2 addD (eSlice (eVar 2) none (some (eVar 4))) (eLst [(eVar 5)])) (eSlice (eVar 2) (some (eOp2 addD (eVar 4) (eC (.int 1)))) none)), (eVar 3)]) [some (dKd sizes m), some (dF (p :: ps)), some (.lst (G.map dF)), some (.int (d : Int)), some (.int (k : Int)), some (dF (own G k p)), o6] (μ ++ μ1)
              = some (([some (dKd sizes m), some (dF (p :: ps)), some (.lst (G.map dF)), some (.int (d : Int)), some (.int (k : Int)), some (dF (own G k p)), some (dSo (sho sizes n ps (putG G k p) d))], .next), μ ++ μ1 ++ μ2) := by
            have a1 : eSlice (eVar 1) (some (eC (.int 1))) none [some (dKd sizes m), some (dF (p :: ps)), some (.lst (G.map dF)), some (.int (d : Int)), some (.int (k : Int)), some (dF (own G k p)), o6] = pure (dF ps) := by
              have : cut ((p :: ps).map dP) (some ((1 : Nat) : Int)) none = ((p :: ps).drop 1).map dP := cut_from dP _ 1
              simp only [eSlice, eBound, r_var, List.getElem?_cons_succ, List.getElem?_cons_zero, pure_bind, r_c, sliceD, dF]
              rw [show (1 : Int) = ((1 : Nat) : Int) from rfl, this]
              rfl
            have a2 : eOp2 addD (eOp2 addD (eSlice (eVar 2) none (some (eVar 4))) (eLst [(eVar 5)])) (eSlice (eVar 2) (some (eOp2 addD (eVar 4) (eC (.int 1)))) none) [some (dKd sizes m), some (dF (p :: ps)), some (.lst (G.map dF)), some (.int (d : Int)), some (.int (k : Int)), some (dF (own G k p)), o6] = pure (.lst ((putG G k p).map dF)) := by
              have b1 : eSlice (eVar 2) none (some (eVar 4)) [some (dKd sizes m), some (dF (p :: ps)), some (.lst (G.map dF)), some (.int (d : Int)), some (.int (k : Int)), some (dF (own G k p)), o6] = pure (.lst ((G.take k).map dF)) := by
                simp only [eSlice, eBound, r_var, List.getElem?_cons_succ, List.getElem?_cons_zero, pure_bind, sliceD, cut_to]
              have b2 : eSlice (eVar 2) (some (eOp2 addD (eVar 4) (eC (.int 1)))) none [some (dKd sizes m), some (dF (p :: ps)), some (.lst (G.map dF)), some (.int (d : Int)), some (.int (k : Int)), some (dF (own G k p)), o6] = pure (.lst ((G.drop (k + 1)).map dF)) := by
                simp only [eSlice, eBound, r_op2, r_var, List.getElem?_cons_succ, List.getElem?_cons_zero, pure_bind, r_c, r_add, sliceD, cut_from1]
              have b3 : eLst [(eVar 5)] [some (dKd sizes m), some (dF (p :: ps)), some (.lst (G.map dF)), some (.int (d : Int)), some (.int (k : Int)), some (dF (own G k p)), o6] = pure (.lst [dF (own G k p)]) := by simp
              rw [r_op2, r_op2, b1, pure_bind, b3, pure_bind, r_catl, if_pos (by
                rw [List.length_map, List.length_take]
                exact le_lim (by simp; omega)), pure_bind, b2, pure_bind, r_catl, if_pos (by
                rw [List.length_append, List.length_map, List.length_map, List.length_take, List.length_drop]
                exact le_lim (by simp; omega))]
              unfold putG
              rw [List.map_append, List.map_append]
              rfl
            have a0 : eVar 0 [some (dKd sizes m), some (dF (p :: ps)), some (.lst (G.map dF)), some (.int (d : Int)), some (.int (k : Int)), some (dF (own G k p)), o6] = pure (dKd sizes m) := rfl
            have a3 : eVar 3 [some (dKd sizes m), some (dF (p :: ps)), some (.lst (G.map dF)), some (.int (d : Int)), some (.int (k : Int)), some (dF (own G k p)), o6] = pure (.int (d : Int)) := rfl
            rw [r_asg, r_call, r_list1, a0, pure_bind, r_list1, a1, pure_bind, r_list1, a2, pure_bind, r_list1, a3, pure_bind, r_list0]
            simp only [pure_bind, bind_assoc]
            rw [run_bind e2]
            rfl
          rw [r_seq, run_bind s6, r_seqn]
          refine ⟨[some (dKd sizes m), some (dF (p :: ps)), some (.lst (G.map dF)), some (.int (d : Int)), some (.int (k : Int)), some (dF (own G k p)), some (dSo (sho sizes n ps (putG G k p) d))], μ1 ++ μ2, ⟨_, _, _, rfl⟩, ?_⟩
          rw [← List.append_assoc]
          cases sho sizes n ps (putG G k p) d <;> rfl
        · rw [if_neg hs, if_neg hs]
          exact ⟨_, μ1, ⟨_, _, _, rfl⟩, rfl⟩) ⟨_, _, _, rfl⟩ μ
    obtain ⟨Γ', μ', ⟨o4, o5, o6, rfl⟩, e1⟩ := loop
    refine ⟨μ', ?_⟩
    rw [py_shared_out]
    simp only [r_fn]
    rw [if_pos (show [dKd sizes m, dF (p :: ps), D.lst (G.map dF), D.int (d : Int)].length = 4 from rfl)]
    show (sSeq _ _ [some (dKd sizes m), some (dF (p :: ps)), some (.lst (G.map dF)), some (.int (d : Int)), none, none, none] >>= retK) μ = _
    have t1 : tVal (eOp2 eqD (eOp1 lenD (eVar 1)) (eC (.int 0))) [some (dKd sizes m), some (dF (p :: ps)), some (.lst (G.map dF)), some (.int (d : Int)), none, none, none] = pure false := by
      have : ((ps.length : Int) + 1 == 0) = false := by
        rw [beq_eq_false_iff_ne]
        omega
      simp [dF, this]
    have hw : wRange1 (eOp2 min2D (eOp2 addD (eOp1 lenD (eVar 2)) (eC (.int 1))) (eVar 3)) [some (dKd sizes m), some (dF (p :: ps)), some (.lst (G.map dF)), some (.int (d : Int)), none, none, none] = pure ((List.range (min (G.length + 1) d)).map fun (k : Nat) => D.int (k : Int), .no) := by
      have hm : eOp2 min2D (eOp2 addD (eOp1 lenD (eVar 2)) (eC (.int 1))) (eVar 3) [some (dKd sizes m), some (dF (p :: ps)), some (.lst (G.map dF)), some (.int (d : Int)), none, none, none] = pure (.int ((min (G.length + 1) d : Nat) : Int)) := by
        simp only [r_op2, r_op1, r_var, r_c, List.getElem?_cons_succ, List.getElem?_cons_zero, pure_bind, r_len, r_itl, List.length_map, r_add, min2_nat]
      rw [r_wrange1, hm, pure_bind, r_toI, pure_bind, if_pos (by omega), rangeN]
    rw [r_seq, r_sif, t1, pure_bind, if_neg Bool.false_ne_true, r_nop, pure_bind, r_seqn, r_seq, r_for, hw, pure_bind, bind_assoc, run_bind e1]
    have hsho : sho sizes (n + 1) (p :: ps) G d = (List.range (min (G.length + 1) d)).findSome? fun k => if seqOf sizes (own G k p) = true then sho sizes n ps (putG G k p) d else none := rfl
    have hmap : ((List.range (min (G.length + 1) d)).findSome? fun k => if seqOf sizes (own G k p) = true then (sho sizes n ps (putG G k p) d).map (fun G' => D.tup (G'.map dF)) else none) = ((List.range (min (G.length + 1) d)).findSome? fun k => if seqOf sizes (own G k p) = true then sho sizes n ps (putG G k p) d else none).map fun G' => D.tup (G'.map dF) := by
      rw [List.map_findSome?]
      congr 1
      funext k
      show _ = Option.map _ (if _ then _ else _)
      split <;> rfl
    rw [hsho, hmap]
    cases (List.range (min (G.length + 1) d)).findSome? fun k => if seqOf sizes (own G k p) = true then sho sizes n ps (putG G k p) d else none <;> rfl
/-! ### least_parts, degree -/
def lps (sizes : List Int) (F : Pts) : List Pts := ((List.range (F.length + 1)).findSome? fun d => sho sizes 12 F [] d).getD []
theorem ev_lp (ok : SzOk sizes) (hb : FnB sizes m F) (h7 : F.length ≤ 7) : Grow (py_least_parts [dKd sizes m, dF F]) (.tup ((lps sizes F).map dF)) := fun μ => by
  have loop := forL_gfind (α := Nat) (its := (List.range (F.length + 1)).map fun (k : Nat) => D.int (k : Int)) (enc := fun (k : Nat) => D.int (k : Int)) (tg := .v 2) (body := (sSeq (sAsg (.v 3) (eCall (py_shared_out 12) [(eVar 0), (eVar 1), (eLst []), (eVar 2)]))
    (sIf (tVal (eOp1 (isN true) (eVar 3)))
    (sRet (eVar 3))
    sNop)))
    (fun Γ => ∃ o2 o3, Γ = [some (dKd sizes m), some (dF F), o2, o3]) (fun d => (sho sizes 12 F [] d).map fun G' => D.tup (G'.map dF)) (List.range (F.length + 1)) [some (dKd sizes m), some (dF F), none, none] (by
      rintro k hk Γ ⟨o2, o3, rfl⟩
      rw [List.mem_range] at hk
      refine ⟨[some (dKd sizes m), some (dF F), some (.int (k : Int)), o3], rfl, fun μ => ?_⟩
      obtain ⟨μ1, e1⟩ := ev_sho (m := m) ok 12 F [] k (by omega) hb (fun g hg => by cases hg) (by simp; omega) (by omega) μ
      have s3 : sAsg (.v 3) (eCall (py_shared_out 12) [(eVar 0), (eVar 1), (eLst []), (eVar 2)]) [some (dKd sizes m), some (dF F), some (.int (k : Int)), o3] μ = some (([some (dKd sizes m), some (dF F), some (.int (k : Int)), some (dSo (sho sizes 12 F [] k))], .next), μ ++ μ1) := by
        have a2 : eLst [] [some (dKd sizes m), some (dF F), some (.int (k : Int)), o3] = pure (.lst (([] : List Pts).map dF)) := by simp
        have a0 : eVar 0 [some (dKd sizes m), some (dF F), some (.int (k : Int)), o3] = pure (dKd sizes m) := rfl
        have a1 : eVar 1 [some (dKd sizes m), some (dF F), some (.int (k : Int)), o3] = pure (dF F) := rfl
        have a3 : eVar 2 [some (dKd sizes m), some (dF F), some (.int (k : Int)), o3] = pure (.int (k : Int)) := rfl
        rw [r_asg, r_call, r_list1, a0, pure_bind, r_list1, a1, pure_bind, r_list1, a2, pure_bind, r_list1, a3, pure_bind, r_list0]
        simp only [pure_bind, bind_assoc]
        rw [run_bind e1]
        rfl
      rw [r_seq, run_bind s3, r_seqn]
      refine ⟨[some (dKd sizes m), some (dF F), some (.int (k : Int)), some (dSo (sho sizes 12 F [] k))], μ1, ⟨_, _, rfl⟩, ?_⟩
      cases sho sizes 12 F [] k <;> rfl) ⟨_, _, rfl⟩ μ
  obtain ⟨Γ', μ', ⟨o2, o3, rfl⟩, e1⟩ := loop
  refine ⟨μ', ?_⟩
  simp only [py_least_parts, r_fn]
  rw [if_pos (show [dKd sizes m, dF F].length = 2 from rfl)]
  show (sSeq _ _ [some (dKd sizes m), some (dF F), none, none] >>= retK) μ = _
  have t1 : tVal (eOp2 gtD (eOp1 lenD (eVar 1)) (eC (.int 7))) [some (dKd sizes m), some (dF F), none, none] = pure false := by
    have : ¬ ((7 : Int) < (F.length : Int)) := by omega
    simp [dF, this]
  have hw : wRange1 (eOp2 addD (eOp1 lenD (eVar 1)) (eC (.int 1))) [some (dKd sizes m), some (dF F), none, none] = pure ((List.range (F.length + 1)).map fun (k : Nat) => D.int (k : Int), .no) := by
    have : eOp2 addD (eOp1 lenD (eVar 1)) (eC (.int 1)) [some (dKd sizes m), some (dF F), none, none] = pure (.int ((F.length + 1 : Nat) : Int)) := by simp [dF]
    rw [r_wrange1, this, pure_bind, r_toI, pure_bind, if_pos (by omega), rangeN]
  rw [r_seq, r_sif, t1, pure_bind, if_neg Bool.false_ne_true, r_nop, pure_bind, r_seqn, r_seq, r_for, hw, pure_bind, bind_assoc, run_bind e1]
  have hmap : ((List.range (F.length + 1)).findSome? fun d => (sho sizes 12 F [] d).map fun G' => D.tup (G'.map dF)) = ((List.range (F.length + 1)).findSome? fun d => sho sizes 12 F [] d).map fun G' => D.tup (G'.map dF) := by
    rw [List.map_findSome?]
    rfl
  rw [hmap]
  unfold lps
  cases (List.range (F.length + 1)).findSome? fun d => sho sizes 12 F [] d <;> rfl
def dg (sizes : List Int) (F : Pts) : Nat := (lps sizes F).length
theorem ev_dg (ok : SzOk sizes) (hb : FnB sizes m F) (h7 : F.length ≤ 7) : Grow (py_degree [dKd sizes m, dF F]) (.int (dg sizes F : Int)) := fun μ => by
  obtain ⟨μ1, e1⟩ := ev_lp (m := m) ok hb h7 μ
  refine ⟨μ1, ?_⟩
  simp only [py_degree, r_fn]
  rw [if_pos (show [dKd sizes m, dF F].length = 2 from rfl)]
  show (sRet _ [some (dKd sizes m), some (dF F)] >>= retK) μ = _
  have a0 : eVar 0 [some (dKd sizes m), some (dF F)] = pure (dKd sizes m) := rfl
  have a1 : eVar 1 [some (dKd sizes m), some (dF F)] = pure (dF F) := rfl
  rw [r_ret, r_op1, r_call, r_list1, a0, pure_bind, r_list1, a1, pure_bind, r_list0]
  simp only [pure_bind, bind_assoc]
  rw [run_bind e1]
  simp [dg, itemsD, pure_def]
end
end K40
/-! WJ: facts of the degree -/
namespace K40
open PySem DL
theorem find_first {β : Type} {f : Nat → Option β} {b : β} : ∀ {n : Nat}, (List.range n).findSome? f = some b → ∃ d0, d0 < n ∧ f d0 = some b ∧ ∀ d, d < d0 → f d = none
  | 0, h => by cases h
  | n + 1, h => by
    rw [List.range_succ, List.findSome?_append] at h
    cases e : (List.range n).findSome? f with
    | some c =>
      rw [e] at h
      obtain ⟨d0, h1, h2, h3⟩ := find_first e
      cases h
      exact ⟨d0, by omega, h2, h3⟩
    | none =>
      rw [e] at h
      have h : f n = some b := by simpa using h
      refine ⟨n, by omega, h, fun d hd => ?_⟩
      rw [List.findSome?_eq_none_iff] at e
      exact e d (List.mem_range.mpr hd)
section
variable {sizes : List Int} {m : Int} {F : Pts}
theorem Fn.mem {L : Pts} (h : Fn sizes m F) (k : ∀ p ∈ L, p ∈ F) (st : L.Pairwise ltP) : Fn sizes m L := ⟨fun p hp => h.b p (k p hp), st, fun p hp q hq => h.an p (k p hp) q (k q hq), fun p hp q hq => h.con p (k p hp) q (k q hq)⟩
/-- one point alone -/
theorem small_seq (ok : SzOk sizes) {L : Pts} (hb : FnB sizes m L) (h1 : ∀ p ∈ L, ∀ q ∈ L, p = q) : seqOf sizes L = true := by
  unfold seqOf
  cases e : gr sizes 12 L (nothing sizes) with
  | tree T => rfl
  | knot z =>
    exfalso
    obtain ⟨z1, z2, z3⟩ := gr_knot ok 12 _ z (nothing_rows (pos_of ok)) (gap0 ok) e
    have z2' := z2
    unfold isOp at z2'
    rw [Bool.and_eq_true, beq_iff_eq, List.any_eq_true] at z2'
    obtain ⟨ha, p, hp, hfit⟩ := z2'
    have hnb : ¬ below p.1 z = true := fun hbl => ans_some hb ⟨p, hp, hbl⟩ ha
    have : ∃ (i : Nat) (x : Int), p.1[i]? = some x ∧ z[i]? = some (-1) ∧ x ≠ -1 := by
      apply Classical.byContradiction
      intro hn
      apply hnb
      rw [below_iff]
      intro i x y e1 e2
      have hf := fits_iff.mp hfit i x y e1 e2
      by_cases hx : x = -1
      · exact .inl hx
      · have : y ≠ -1 := fun hy => hn ⟨i, x, e1, by rw [e2, hy], hx⟩
        omega
    obtain ⟨i, x, e1, e2, e3⟩ := this
    have : i ∈ need L z := by
      unfold need
      rw [if_pos z2]
      refine List.mem_filter.mpr ⟨mem_gaps.mpr e2, ?_⟩
      rw [List.all_eq_true]
      intro q hq
      obtain ⟨q1, q2⟩ := List.mem_filter.mp hq
      rw [h1 q q1 p hp, e1]
      simpa using e3
    rw [z3] at this
    cases this
theorem col_all (ok : SzOk sizes) (h : Fn sizes m F) : Col sizes F F.length := by
  refine ⟨fun p => F.idxOf p, fun p hp => List.idxOf_lt_length_iff.mpr hp, fun x => small_seq ok (fun p hp => h.b p (List.mem_filter.mp hp).1) fun p hp q hq => ?_⟩
  obtain ⟨p1, p2⟩ := List.mem_filter.mp hp
  obtain ⟨q1, q2⟩ := List.mem_filter.mp hq
  have e : F.idxOf p = F.idxOf q := by
    have a : F.idxOf p = x := by simpa using p2
    have b : F.idxOf q = x := by simpa using q2
    rw [a, b]
  have hp' := List.getElem_idxOf (List.idxOf_lt_length_iff.mpr p1)
  have hq' := List.getElem_idxOf (List.idxOf_lt_length_iff.mpr q1)
  rw [← hp', ← hq']
  congr 1
theorem dg_spec (ok : SzOk sizes) (h : Fn sizes m F) (h12 : F.length < 12) : Col sizes F (dg sizes F) ∧ dg sizes F ≤ F.length ∧ ∀ d, Col sizes F d → dg sizes F ≤ d := by
  have hall := col_found ok h h12 (col_all ok h)
  unfold dg lps
  cases e : (List.range (F.length + 1)).findSome? fun d => sho sizes 12 F [] d with
  | none =>
    rw [List.findSome?_eq_none_iff] at e
    rw [e F.length (List.mem_range.mpr (by omega))] at hall
    cases hall
  | some G =>
    rw [Option.getD_some]
    obtain ⟨d0, h1, h2, h3⟩ := find_first e
    obtain ⟨g1, g2⟩ := found_col ok h h2
    refine ⟨g2, by omega, fun d hd => ?_⟩
    apply Classical.byContradiction
    intro hlt
    have := col_found ok h h12 hd
    rw [h3 d (by omega)] at this
    cases this
theorem class_eq (ok : SzOk sizes) (h : Fn sizes m F) {c : List Int × Int → Nat} (hc : ∀ x, seqOf sizes (F.filter fun p => c p == x) = true) {p q : List Int × Int} (hp : p ∈ F) (hq : q ∈ F) (e : c p = c q) (hf : fits p.1 q.1 = true) : p = q :=
  seq_sep ok (h.sub (filter_sub (c := c) (x := c q))) (hc (c q)) p (List.mem_filter.mpr ⟨hp, by simpa using e⟩) q (List.mem_filter.mpr ⟨hq, by simp⟩) hf
/-- points that all fit -/
theorem dg_fit (ok : SzOk sizes) (h : Fn sizes m F) (h12 : F.length < 12) (hf : ∀ p ∈ F, ∀ q ∈ F, fits p.1 q.1 = true) : dg sizes F = F.length := by
  obtain ⟨⟨c, c1, c2⟩, d2, _⟩ := dg_spec ok h h12
  have : (F.map c).length ≤ dg sizes F := nodup_le _ (F.map c) (by
    rw [List.nodup_iff_pairwise_ne, List.pairwise_map]
    have hp : F.Pairwise fun a b => a ∈ F ∧ b ∈ F ∧ ltP a b := by
      rw [List.pairwise_iff_getElem]
      intro i j hi hj hij
      exact ⟨List.getElem_mem hi, List.getElem_mem hj, List.pairwise_iff_getElem.mp h.st i j hi hj hij⟩
    refine hp.imp fun {a b} hab e => ?_
    have := class_eq ok h c2 hab.1 hab.2.1 e (hf a hab.1 b hab.2.1)
    subst this
    exact ltP_irr _ hab.2.2) fun x hx => by
    obtain ⟨p, hp, rfl⟩ := List.mem_map.mp hx
    exact c1 p hp
  rw [List.length_map] at this
  omega
theorem dg_pos (ok : SzOk sizes) (h : Fn sizes m F) (h12 : F.length < 12) {p : List Int × Int} (hp : p ∈ F) : 1 ≤ dg sizes F := by
  obtain ⟨⟨c, c1, c2⟩, _, _⟩ := dg_spec ok h h12
  have := c1 p hp
  omega
theorem dg_two (ok : SzOk sizes) (h : Fn sizes m F) (h12 : F.length < 12) {p q : List Int × Int} (hp : p ∈ F) (hq : q ∈ F) (hne : p ≠ q) (hf : fits p.1 q.1 = true) : 2 ≤ dg sizes F := by
  obtain ⟨⟨c, c1, c2⟩, _, _⟩ := dg_spec ok h h12
  have a := c1 p hp
  have b := c1 q hq
  apply Classical.byContradiction
  intro hlt
  exact hne (class_eq ok h c2 hp hq (by omega) hf)
/-- one point less -/
theorem dg_less (ok : SzOk sizes) (h : Fn sizes m F) (h12 : F.length < 12) {p : List Int × Int} (hp : p ∈ F) : dg sizes (F.filter fun q => q.1 != p.1) = dg sizes F ∨ (dg sizes (F.filter fun q => q.1 != p.1) : Int) = (dg sizes F : Int) - 1 := by
  have hR : Fn sizes m (F.filter fun q => q.1 != p.1) := h.sub List.filter_sublist
  have hRl : (F.filter fun q => q.1 != p.1).length < 12 := Nat.lt_of_le_of_lt (List.length_filter_le _ _) h12
  obtain ⟨⟨c, c1, c2⟩, _, c3⟩ := dg_spec ok h h12
  obtain ⟨⟨b, b1, b2⟩, _, b3⟩ := dg_spec ok hR hRl
  have same : ∀ q ∈ F, q.1 = p.1 → q = p := fun q hq e => h.an q hq p hp (by rw [e]; exact below_refl _)
  have h1 : dg sizes (F.filter fun q => q.1 != p.1) ≤ dg sizes F := b3 _ ⟨c, fun q hq => c1 q (List.mem_filter.mp hq).1, fun x => seq_sub ok (h.sub (filter_sub (c := c) (x := x))) (c2 x) fun q hq => by
    obtain ⟨q1, q2⟩ := List.mem_filter.mp hq
    exact List.mem_filter.mpr ⟨(List.mem_filter.mp q1).1, q2⟩⟩
  have h2 : dg sizes F ≤ dg sizes (F.filter fun q => q.1 != p.1) + 1 := by
    refine c3 _ ⟨fun q => if q.1 = p.1 then dg sizes (F.filter fun q => q.1 != p.1) else b q, fun q hq => ?_, fun x => ?_⟩
    · dsimp only
      split
      · omega
      · have := b1 q (List.mem_filter.mpr ⟨hq, by simpa using ‹¬ q.1 = p.1›⟩)
        omega
    · by_cases hx : x = dg sizes (F.filter fun q => q.1 != p.1)
      · refine small_seq ok (fun q hq => h.b q (List.mem_filter.mp hq).1) ?_
        have key : ∀ q ∈ F.filter (fun q => (if q.1 = p.1 then dg sizes (F.filter fun q => q.1 != p.1) else b q) == x), q = p := fun q hq => by
          obtain ⟨q1, q2⟩ := List.mem_filter.mp hq
          apply same q q1
          apply Classical.byContradiction
          intro hne
          rw [if_neg hne] at q2
          have q3 : b q = x := by simpa using q2
          have := b1 q (List.mem_filter.mpr ⟨q1, by simpa using hne⟩)
          omega
        intro q hq r hr
        rw [key q hq, key r hr]
      · refine seq_sub ok (hR.sub (filter_sub (c := b) (x := x))) (b2 x) fun q hq => ?_
        obtain ⟨q1, q2⟩ := List.mem_filter.mp hq
        dsimp only at q2
        by_cases hqp : q.1 = p.1
        · rw [if_pos hqp] at q2
          exact absurd (by simpa using q2 : dg sizes (F.filter fun q => q.1 != p.1) = x).symm hx
        · rw [if_neg hqp] at q2
          exact List.mem_filter.mpr ⟨List.mem_filter.mpr ⟨q1, by simpa using hqp⟩, q2⟩
  omega
theorem stb_fit (h : Fn sizes m F) (hf : ∀ p ∈ F, ∀ q ∈ F, fits p.1 q.1 = true) : stb F = decide (F.length ≤ 1) := by
  rw [Bool.eq_iff_iff, stb_iff h, decide_eq_true_iff]
  constructor
  · intro hs
    match F, h, hf, hs with
    | [], _, _, _ => simp
    | [a], _, _, _ => simp
    | a :: b :: l, h, hf, hs =>
      have e := hs a (by simp) b (by simp) (hf a (by simp) b (by simp))
      have := h.st
      rw [List.pairwise_cons] at this
      exact absurd (this.1 b (by simp)) (by rw [e]; exact ltP_irr _)
  · intro hl p hp q hq _
    match F, hl, hp, hq with
    | [a], _, hp, hq => rw [List.mem_singleton.mp hp, List.mem_singleton.mp hq]
theorem pair_not (ok : SzOk sizes) (h : Fn sizes m F) (hf : ∀ p ∈ F, ∀ q ∈ F, fits p.1 q.1 = true) {j k : Nat} {p q : List Int × Int} (hj : F[j]? = some p) (hk : F[k]? = some q) (hjk : j < k) : seqOf sizes [p, q] = false := by
  have hp := List.mem_of_getElem? hj
  have hq := List.mem_of_getElem? hk
  have hlt : ltP p q := by
    have hj' := List.getElem?_eq_some_iff.mp hj
    have hk' := List.getElem?_eq_some_iff.mp hk
    have := List.pairwise_iff_getElem.mp h.st j k hj'.1 hk'.1 hjk
    rw [hj'.2, hk'.2] at this
    exact this
  have hP : Fn sizes m [p, q] := Fn.mem h (fun x hx => by
    rcases List.mem_cons.mp hx with e | hx
    · rw [e]; exact hp
    · rw [List.mem_singleton.mp hx]; exact hq) (by simp [hlt])
  rw [Bool.eq_false_iff]
  intro hs
  have := seq_sep ok hP hs p (by simp) q (by simp) (hf p hp q hq)
  rw [this] at hlt
  exact ltP_irr _ hlt
end
end K40
/-! WK: the law's draws and tests -/
namespace K40
open PySem DL
theorem g_tor' {G : DL.Env} {t u : DL.T} {a b : Bool} (h : Grow (t G) a) (ha : a = false) (h2 : Grow (u G) b) (hb : b = false) : Grow (tOr t u G) false := by
  subst ha hb
  exact g_tor h h2
theorem g_tand {G : DL.Env} {t u : DL.T} {a b : Bool} (h : Grow (t G) a) (h2 : Grow (u G) b) : Grow (tAnd t u G) (a && b) := by
  refine Grow.bind h ?_
  cases a with
  | true => rw [if_pos rfl]; exact h2
  | false => rw [if_neg Bool.false_ne_true]; exact .pure _
/-- a loop that only adds to the store -/
theorem forL_grow {α : Type} {its : List D} {enc : α → D} {tg : Tg} {body : S} (Rel : DL.Env → Prop) (xs : List α) (Γ : DL.Env) (h : ∀ a ∈ xs, ∀ Γ, Rel Γ → ∃ Γ1, tg.put (enc a) Γ = some Γ1 ∧ ∀ μ, ∃ Γ2 μ', Rel Γ2 ∧ body Γ1 μ = some ((Γ2, .next), μ ++ μ')) (h0 : Rel Γ) (μ : Store) :
    ∃ Γ' μ', Rel Γ' ∧ forL .no its tg body (xs.map enc) Γ μ = some ((Γ', .next), μ ++ μ') := by
  obtain ⟨Γ', μ', r, e⟩ := forL_gfind (its := its) (tg := tg) (body := body) Rel (fun _ => none) xs Γ h h0 μ
  have : xs.findSome? (fun _ => (none : Option D)) = none := by simp
  rw [this] at e
  exact ⟨Γ', μ', r, e⟩
section
variable {sizes : List Int} {m : Int}
/-- a whole state, drawn -/
theorem ev_base (ok : SzOk sizes) {G : DL.Env} (h1 : G[1]? = some (some (.h 1))) (h3 : G[3]? = some (some (dS sizes))) (h5 : 5 < G.length) {μ : Store} (hP : Pool μ) : ∃ b μ', eOp1 tupleD (eComp [5] (wSeq (eVar 3)) (.v 5) none (eCall (py__law_draw) [(eVar 1), (eVar 5)])) G μ = some (dS b, μ') ∧ b ∈ rows (-1) sizes ∧ (∀ x ∈ b, x ≠ -1) ∧ Step μ μ' := by
  obtain ⟨bs, μ1, e1, l1, p1, s1⟩ := compL_draw (α := Int) (β := Int) (its := sizes.map D.int) (enc := D.int) (dec := D.int) (P := fun n x => 0 ≤ x ∧ x < n) (xs := sizes) (μ := μ)
    (f := oneC [5] (.v 5) none (eCall (py__law_draw) [(eVar 1), (eVar 5)]) G) hP (by
    intro n hn μ hP
    have hb := ok.2 n hn
    obtain ⟨x, μ1, e1, d1, d2, d3, d4, d5⟩ := ev_draw hP (many := n) (by omega) (by omega)
    refine ⟨x, μ1, ?_, ⟨d1, d2⟩, d3, d4, d5⟩
    have g1 : (List.set (List.set G 5 none) 5 (some (.int n)))[1]? = some (some (.h 1)) := by rw [List.getElem?_set_ne (by decide), List.getElem?_set_ne (by decide)]; exact h1
    have g5 : (List.set (List.set G 5 none) 5 (some (.int n)))[5]? = some (some (.int n)) := List.getElem?_set_self (by rw [List.length_set]; exact h5)
    simp only [oneC, r_wipe1, r_wipe0, r_putv, r_lift, pure_bind, r_call, r_list1, r_list0, r_var, g1, g5, bind_assoc]
    rw [run_bind e1]
    rfl)
  refine ⟨bs, μ1, ?_, (mem_rows sizes bs).mpr ⟨l1, fun i n x e2 e3 => ?_⟩, fun x hx => ?_, s1⟩
  · have hw : wSeq (eVar 3) G = pure (sizes.map D.int, .no) := by
      simp [h3, dS, itemsD]
    rw [r_op1, r_comp, hw, pure_bind, bind_assoc, run_bind e1, pure_bind]
    rfl
  · have := p1 i n x e2 e3
    omega
  · obtain ⟨i, hi⟩ := List.mem_iff_getElem?.mp hx
    have hil := (List.getElem?_eq_some_iff.mp hi).1
    have := p1 i _ x (List.getElem?_eq_getElem (show i < sizes.length by omega)) hi
    omega
/-- a part of it -/
theorem ev_under1 {b : List Int} {G : DL.Env} (h1 : G[1]? = some (some (.h 1))) (h4 : G[4]? = some (some (dS b))) (h9 : 9 < G.length) {μ : Store} (hP : Pool μ) : ∃ s μ', eOp1 tupleD (eComp [9] (wSeq (eVar 4)) (.v 9) none (eIf (tVal (eOp2 eqD (eCall (py__law_draw) [(eVar 1), (eC (.int 2))]) (eC (.int 0)))) (eVar 9) (eC (.int (-1))))) G μ = some (dS s, μ') ∧ s.length = b.length ∧ (∀ (i : Nat) (x y : Int), b[i]? = some x → s[i]? = some y → y = x ∨ y = -1) ∧ Step μ μ' := by
  obtain ⟨bs, μ1, e1, l1, p1, s1⟩ := compL_draw (α := Int) (β := Int) (its := b.map D.int) (enc := D.int) (dec := D.int) (P := fun x y => y = x ∨ y = -1) (xs := b) (μ := μ)
    (f := oneC [9] (.v 9) none (eIf (tVal (eOp2 eqD (eCall (py__law_draw) [(eVar 1), (eC (.int 2))]) (eC (.int 0)))) (eVar 9) (eC (.int (-1)))) G) hP (by
    intro n hn μ hP
    obtain ⟨x, μ1, e1, d1, d2, d3, d4, d5⟩ := ev_draw hP (many := 2) (by decide) (by decide)
    refine ⟨if x = 0 then n else -1, μ1, ?_, by split <;> simp, d3, d4, d5⟩
    have g1 : (List.set (List.set G 9 none) 9 (some (.int n)))[1]? = some (some (.h 1)) := by rw [List.getElem?_set_ne (by decide), List.getElem?_set_ne (by decide)]; exact h1
    have g9 : (List.set (List.set G 9 none) 9 (some (.int n)))[9]? = some (some (.int n)) := List.getElem?_set_self (by rw [List.length_set]; exact h9)
    simp only [oneC, r_wipe1, r_wipe0, r_putv, r_lift, pure_bind, r_if, r_tval, r_op2, r_call, r_list1, r_list0, r_var, r_c, g1, g9, bind_assoc]
    rw [run_bind e1, r_eqi, pure_bind, r_toBl, pure_bind]
    by_cases hx : x = 0
    · simp [hx, pure_def]
    · have : (x == 0) = false := by simpa using hx
      simp [hx, pure_def])
  refine ⟨bs, μ1, ?_, l1, p1, s1⟩
  have hw : wSeq (eVar 4) G = pure (b.map D.int, .no) := by
    simp [h4, dS, itemsD]
  rw [r_op1, r_comp, hw, pure_bind, bind_assoc, run_bind e1, pure_bind]
  rfl
end
/-! ### the first function -/
section
variable {sizes : List Int} {m : Int} {F : Pts}
theorem seq_single (ok : SzOk sizes) (h : Fn sizes m F) {p : List Int × Int} (hp : p ∈ F) : seqOf sizes [p] = true := small_seq ok (fun q hq => h.b q (by rw [List.mem_singleton.mp hq]; exact hp)) fun a ha b hb => by rw [List.mem_singleton.mp ha, List.mem_singleton.mp hb]
theorem T10 (ok : SzOk sizes) (h : Fn sizes m F) (h5 : F.length ≤ 5) (hf : ∀ p ∈ F, ∀ q ∈ F, fits p.1 q.1 = true) (G : DL.Env) (h2 : G[2]? = some (some (dKd sizes m))) (h10 : G[10]? = some (some (dF F))) :
    Grow (tOr (tNot (tVal (eCall (py_is_function) [(eVar 2), (eVar 10)]))) (tNot (tVal (eCall (py__law_same 8) [(eCall (py_degree) [(eVar 2), (eVar 10)]), (eOp1 lenD (eVar 10))]))) G) false := by
  have hl : eOp1 lenD (eVar 10) G = pure (.int (F.length : Int)) := by
    rw [r_op1, r_var, h10]
    simp [dF]
  have hd := ev_dg (m := m) ok h.b (show F.length ≤ 7 by omega)
  rw [dg_fit ok h (by omega) hf] at hd
  exact g_tor' (g_tnot (k := true) (g_tval (g_call (g_l1 (g_var h2) (g_l1 (g_var h10) g_l0)) (Grow.of (ev_isfn h))))) rfl
    (g_tnot (k := true) (g_tval (g_call (g_l1 (g_call (g_l1 (g_var h2) (g_l1 (g_var h10) g_l0)) hd) (g_l1 (Grow.of hl) g_l0)) (Grow.of (same_true (pl_int _ _)))))) rfl
theorem T11 (ok : SzOk sizes) (h : Fn sizes m F) (hf : ∀ p ∈ F, ∀ q ∈ F, fits p.1 q.1 = true) {j k : Nat} (hjk : j < k) (hk : k < F.length) (G : DL.Env) (h2 : G[2]? = some (some (dKd sizes m))) (h10 : G[10]? = some (some (dF F))) (h8 : G[8]? = some (some (.int (k : Int)))) (h11 : G[11]? = some (some (.int (j : Int)))) :
    Grow (tOr (tNot (tVal (eCall (py_are_fitting) [(eOp2 idxD (eOp2 idxD (eVar 10) (eVar 11)) (eC (.int 0))), (eOp2 idxD (eOp2 idxD (eVar 10) (eVar 8)) (eC (.int 0)))]))) (tVal (eCall (py_is_sequential) [(eVar 2), (eTup [(eOp2 idxD (eVar 10) (eVar 11)), (eOp2 idxD (eVar 10) (eVar 8))])])) G) false := by
  have hj : j < F.length := by omega
  have ij : eOp2 idxD (eVar 10) (eVar 11) G = pure (dP F[j]) := by
    have : idxD (dF F) (.int (j : Int)) = pure (dP F[j]) := idx_tup (by rw [List.getElem?_map, List.getElem?_eq_getElem hj]; rfl)
    simp only [r_op2, r_var, h10, h11, pure_bind, this]
  have ik : eOp2 idxD (eVar 10) (eVar 8) G = pure (dP F[k]) := by
    have : idxD (dF F) (.int (k : Int)) = pure (dP F[k]) := idx_tup (by rw [List.getElem?_map, List.getElem?_eq_getElem hk]; rfl)
    simp only [r_op2, r_var, h10, h8, pure_bind, this]
  have ij0 : eOp2 idxD (eOp2 idxD (eVar 10) (eVar 11)) (eC (.int 0)) G = pure (dS F[j].1) := by
    have : idxD (dP F[j]) (.int 0) = pure (dS F[j].1) := idx_t0 _ _
    rw [r_op2, ij, pure_bind, r_c, pure_bind, this]
  have ik0 : eOp2 idxD (eOp2 idxD (eVar 10) (eVar 8)) (eC (.int 0)) G = pure (dS F[k].1) := by
    have : idxD (dP F[k]) (.int 0) = pure (dS F[k].1) := idx_t0 _ _
    rw [r_op2, ik, pure_bind, r_c, pure_bind, this]
  have ht : eTup [(eOp2 idxD (eVar 10) (eVar 11)), (eOp2 idxD (eVar 10) (eVar 8))] G = pure (dF [F[j], F[k]]) := by
    rw [r_tup, r_list1, ij, pure_bind, r_list1, ik, pure_bind, r_list0]
    simp [dF]
  have hb : FnB sizes m [F[j], F[k]] := fun x hx => by
    rcases List.mem_cons.mp hx with e | hx
    · rw [e]; exact h.b _ (List.getElem_mem hj)
    · rw [List.mem_singleton.mp hx]; exact h.b _ (List.getElem_mem hk)
  refine g_tor' (g_tnot (g_tval (g_call (g_l1 (Grow.of ij0) (g_l1 (Grow.of ik0) g_l0)) (Grow.of (ev_fits _ _))))) ?_ (g_tval (g_call (g_l1 (g_var h2) (g_l1 (Grow.of ht) g_l0)) (ev_isseq (m := m) ok hb))) ?_
  · rw [hf _ (List.getElem_mem hj) _ (List.getElem_mem hk)]; rfl
  · exact pair_not ok h hf (List.getElem?_eq_getElem hj) (List.getElem?_eq_getElem hk) hjk
theorem flat_single : ∀ F : Pts, (F.map fun p => [p]).flatten = F
  | [] => rfl
  | p :: F => by rw [List.map_cons, List.flatten_cons, flat_single F]; rfl
theorem T12 (ok : SzOk sizes) (h : Fn sizes m F) (h5 : F.length ≤ 5) (hf : ∀ p ∈ F, ∀ q ∈ F, fits p.1 q.1 = true) (G : DL.Env) (h2 : G[2]? = some (some (dKd sizes m))) (h10 : G[10]? = some (some (dF F))) (h12 : 12 < G.length) :
    Grow (tOr (tVal (eOp2 neD (eCall (py_is_stable) [(eVar 10)]) (eOp2 leD (eOp1 lenD (eVar 10)) (eC (.int 1))))) (tNot (tVal (eCall (py_are_parts) [(eVar 2), (eVar 10), (eOp1 tupleD (eComp [12] (wSeq (eVar 10)) (.v 12) none (eTup [(eVar 12)])))]))) G) false := by
  have hl : eOp2 leD (eOp1 lenD (eVar 10)) (eC (.int 1)) G = pure (.bl (decide (F.length ≤ 1))) := by
    rw [r_op2, r_op1, r_var, h10]
    have : decide ((F.length : Int) ≤ 1) = decide (F.length ≤ 1) := by
      rw [Bool.eq_iff_iff, decide_eq_true_iff, decide_eq_true_iff]
      omega
    simp [dF, this]
  have hc : eOp1 tupleD (eComp [12] (wSeq (eVar 10)) (.v 12) none (eTup [(eVar 12)])) G = pure (.tup ((F.map fun p => [p]).map dF)) := by
    have hw : wSeq (eVar 10) G = pure (F.map dP, .no) := by
      simp [h10, dF, itemsD]
    rw [r_op1, r_comp, hw, pure_bind, compL_map (h := fun p => dF [p]), pure_bind]
    · rw [List.map_map]
      rfl
    · intro p hp
      have g12 : (List.set (List.set G 12 none) 12 (some (dP p)))[12]? = some (some (dP p)) := List.getElem?_set_self (by rw [List.length_set]; exact h12)
      simp only [oneC, r_wipe1, r_wipe0, r_putv, r_lift, pure_bind, r_tup, r_list1, r_list0, r_var, g12]
      simp [dF]
  have hparts := ev_parts (F := F) ok (Fs := F.map fun p => [p]) (by rw [flat_single]; omega) (fun G hG => by
    obtain ⟨p, hp, rfl⟩ := List.mem_map.mp hG
    refine ⟨Fn.mem h (fun q hq => by rw [List.mem_singleton.mp hq]; exact hp) (by simp), seq_single ok h hp, ?_⟩
    simp [h.self hp]) (by rw [flat_single]; exact lp_self h)
  refine g_tor' (g_tval (g_op2 (g_call (g_l1 (g_var h10) g_l0) (Grow.of (ev_isstable F))) (Grow.of hl) (Grow.of (by rw [stb_fit h hf]; exact ne_bl _)))) rfl (g_tnot (k := true) (g_tval (g_call (g_l1 (g_var h2) (g_l1 (g_var h10) (g_l1 (Grow.of hc) g_l0))) hparts))) rfl
end
/-! ### the other function -/
section
variable {sizes : List Int} {m : Int} {O : Pts}
abbrev nearL (O : Pts) (p : List Int × Int) : List (List Int) := (O.filter fun o => fits o.1 p.1).map (·.1)
theorem T16 (ok : SzOk sizes) (h : Fn sizes m O) (h6 : O.length ≤ 6) {p : List Int × Int} (hp : p ∈ O) {s : List Int} (hs : s ∈ nearL O p) (G : DL.Env) (h9 : 9 < G.length) (h12 : G[12]? = some (some (dP p))) (h14 : G[14]? = some (some (.int (dg sizes O : Int)))) (h15 : G[15]? = some (some (.lst ((nearL O p).map dS)))) (h16 : G[16]? = some (some (dS s))) :
    Grow (tOr (tAnd (tVal (eOp2 eqD (eOp1 lenD (eComp [9] (wSeq (eVar 15)) (.v 9) (some (tVal (eCall (py_are_fitting) [(eVar 9), (eVar 16)]))) (eVar 9))) (eOp1 lenD (eVar 15)))) (tVal (eOp2 ltD (eVar 14) (eC (.int 1))))) (tAnd (tVal (eOp2 neD (eVar 16) (eOp2 idxD (eVar 12) (eC (.int 0))))) (tVal (eOp2 ltD (eVar 14) (eC (.int 2))))) G) false := by
  have hpos := dg_pos ok h (by omega) hp
  have hc : eComp [9] (wSeq (eVar 15)) (.v 9) (some (tVal (eCall (py_are_fitting) [(eVar 9), (eVar 16)]))) (eVar 9) G = pure (.lst (((nearL O p).filter fun x => fits x s).map dS)) := by
    have hw : wSeq (eVar 15) G = pure ((nearL O p).map dS, .no) := by
      rw [r_wseq, r_var, h15]
      rfl
    rw [r_comp, hw, pure_bind, compL_filt (p := fun x => fits x s) (h := dS), pure_bind]
    intro x hx
    have g16 : (List.set (List.set G 9 none) 9 (some (dS x)))[16]? = some (some (dS s)) := by rw [List.getElem?_set_ne (by decide), List.getElem?_set_ne (by decide)]; exact h16
    have g9 : (List.set (List.set G 9 none) 9 (some (dS x)))[9]? = some (some (dS x)) := List.getElem?_set_self (by rw [List.length_set]; exact h9)
    simp only [oneC, r_wipe1, r_wipe0, r_putv, r_lift, pure_bind, r_tval, r_call, r_list1, r_list0, r_var, g16, g9, ev_fits, r_toBl]
    cases fits x s <;> rfl
  have hl1 : eOp1 lenD (eComp [9] (wSeq (eVar 15)) (.v 9) (some (tVal (eCall (py_are_fitting) [(eVar 9), (eVar 16)]))) (eVar 9)) G = pure (.int (((nearL O p).filter fun x => fits x s).length : Int)) := by
    rw [r_op1, hc, pure_bind, r_len, r_itl, pure_bind, List.length_map]
  have hl2 : eOp1 lenD (eVar 15) G = pure (.int ((nearL O p).length : Int)) := by
    rw [r_op1, r_var, h15]
    simp [itemsD]
  have hi : eOp2 idxD (eVar 12) (eC (.int 0)) G = pure (dS p.1) := by
    have : idxD (dP p) (.int 0) = pure (dS p.1) := idx_t0 _ _
    rw [r_op2, r_var, h12]
    simp only [pure_bind, r_c, this]
  have h1 : decide ((dg sizes O : Int) < 1) = false := decide_eq_false (by omega)
  refine g_tor' (g_tand (g_tval (g_op2 (Grow.of hl1) (Grow.of hl2) (Grow.of (r_eqi _ _)))) (g_tval (g_op2 (g_var h14) g_c (Grow.of (r_lt _ _))))) (by rw [h1, Bool.and_false]) (g_tand (g_tval (g_op2 (g_var h16) (Grow.of hi) (Grow.of (ne_dS _ _)))) (g_tval (g_op2 (g_var h14) g_c (Grow.of (r_lt _ _))))) ?_
  obtain ⟨o, ho, rfl⟩ := List.mem_map.mp hs
  obtain ⟨o1, o2⟩ := List.mem_filter.mp ho
  by_cases e : o.1 = p.1
  · rw [e]; simp
  · have := dg_two ok h (by omega) o1 hp (fun z => e (by rw [z])) o2
    have h2 : decide ((dg sizes O : Int) < 2) = false := decide_eq_false (by omega)
    rw [h2, Bool.and_false]
theorem ev_without {p : List Int × Int} : py_without_point [dF O, dS p.1] = pure (dF (O.filter fun q => q.1 != p.1)) := by
  simp only [py_without_point, r_fn]
  rw [if_pos (show [dF O, dS p.1].length = 2 from rfl)]
  show (sRet _ [some (dF O), some (dS p.1), none] >>= retK) = _
  have hw : wSeq (eVar 0) [some (dF O), some (dS p.1), none] = pure (O.map dP, .no) := rfl
  rw [r_ret, r_op1, r_comp, hw, pure_bind, compL_filt (p := fun q : List Int × Int => q.1 != p.1) (h := dP), pure_bind]
  · rfl
  · intro q hq
    have h0 : idxD (dP q) (.int 0) = pure (dS q.1) := idx_t0 _ _
    simp only [oneC, r_wipe1, r_wipe0, r_putv, r_lift, pure_bind, r_tval, r_op2, r_c, r_var, List.set_cons_succ, List.set_cons_zero, List.getElem?_cons_succ, List.getElem?_cons_zero, h0, ne_dS, r_toBl]
    show (if (q.1 != p.1) = true then _ else _) = _
    cases q.1 != p.1 <;> rfl
theorem T18 (ok : SzOk sizes) (h : Fn sizes m O) (h6 : O.length ≤ 6) {p : List Int × Int} (hp : p ∈ O) (G : DL.Env) (h2 : G[2]? = some (some (dKd sizes m))) (h14 : G[14]? = some (some (.int (dg sizes O : Int)))) (h18 : G[18]? = some (some (dF (O.filter fun q => q.1 != p.1)))) :
    Grow (tVal (eOp2 (inD true) (eCall (py_degree) [(eVar 2), (eVar 18)]) (eTup [(eVar 14), (eOp2 subD (eVar 14) (eC (.int 1)))])) G) false := by
  have hR : Fn sizes m (O.filter fun q => q.1 != p.1) := h.sub List.filter_sublist
  have hRl : (O.filter fun q => q.1 != p.1).length ≤ 7 := Nat.le_trans (List.length_filter_le _ _) (by omega)
  have ht : eTup [(eVar 14), (eOp2 subD (eVar 14) (eC (.int 1)))] G = pure (.tup [.int (dg sizes O : Int), .int ((dg sizes O : Int) - 1)]) := by
    simp [h14]
  refine g_tval (g_op2 (g_call (g_l1 (g_var h2) (g_l1 (g_var h18) g_l0)) (ev_dg (m := m) ok hR.b hRl)) (Grow.of ht) (Grow.of ?_))
  rw [r_inD]
  rcases dg_less ok h (by omega) hp with e | e
  · simp [e]
  · simp [e]
end
end K40
/-! WL: the law ends with True -/
namespace K40
open PySem DL
abbrev EV (sizes : List Int) (m : Int) (b : List Int) (a6 a7 a8 a10 a11 a12 a13 a14 a15 a16 a18 : Option D) : DL.Env := [some (.h 0), some (.h 1), some (dKd sizes m), some (dS sizes), some (dS b), none, a6, a7, a8, none, a10, a11, a12, a13, a14, a15, a16, none, a18]
abbrev blkA : S := (sFor (.v 8) (wRange1 (eOp1 lenD (eVar 10)))
    (sFor (.v 11) (wRange1 (eVar 8))
    (sIf (tOr (tNot (tVal (eCall (py_are_fitting) [(eOp2 idxD (eOp2 idxD (eVar 10) (eVar 11)) (eC (.int 0))), (eOp2 idxD (eOp2 idxD (eVar 10) (eVar 8)) (eC (.int 0)))]))) (tVal (eCall (py_is_sequential) [(eVar 2), (eTup [(eOp2 idxD (eVar 10) (eVar 11)), (eOp2 idxD (eVar 10) (eVar 8))])])))
    (sRet (eC (.bl false)))
    sNop)))
abbrev inB : S := (sSeq (sAsg (.v 15) (eComp [16, 17] (wSeq (eVar 13)) (.t (.cons (.v 16) (.cons (.v 17) .nil))) (some (tVal (eCall (py_are_fitting) [(eVar 16), (eOp2 idxD (eVar 12) (eC (.int 0)))]))) (eVar 16)))
    (sSeq (sFor (.v 16) (wSeq (eVar 15))
    (sIf (tOr (tAnd (tVal (eOp2 eqD (eOp1 lenD (eComp [9] (wSeq (eVar 15)) (.v 9) (some (tVal (eCall (py_are_fitting) [(eVar 9), (eVar 16)]))) (eVar 9))) (eOp1 lenD (eVar 15)))) (tVal (eOp2 ltD (eVar 14) (eC (.int 1))))) (tAnd (tVal (eOp2 neD (eVar 16) (eOp2 idxD (eVar 12) (eC (.int 0))))) (tVal (eOp2 ltD (eVar 14) (eC (.int 2))))))
    (sRet (eC (.bl false)))
    sNop))
    (sSeq (sAsg (.v 18) (eCall (py_without_point) [(eVar 13), (eOp2 idxD (eVar 12) (eC (.int 0)))]))
    (sIf (tVal (eOp2 (inD true) (eCall (py_degree) [(eVar 2), (eVar 18)]) (eTup [(eVar 14), (eOp2 subD (eVar 14) (eC (.int 1)))])))
    (sRet (eC (.bl false)))
    sNop))))
section
variable {sizes : List Int} {m : Int} {F O : Pts} {b : List Int}
theorem loopA (ok : SzOk sizes) (h : Fn sizes m F) (hl : F.length ≤ 1000) (hf : ∀ p ∈ F, ∀ q ∈ F, fits p.1 q.1 = true) {a6 a7 a8 a11 a12 a13 a14 a15 a16 a18 : Option D} (μ : Store) :
    ∃ b8 b11 μ', blkA (EV sizes m b a6 a7 a8 (some (dF F)) a11 a12 a13 a14 a15 a16 a18) μ = some ((EV sizes m b a6 a7 b8 (some (dF F)) b11 a12 a13 a14 a15 a16 a18, .next), μ ++ μ') := by
  obtain ⟨Γ', μ', ⟨b8, b11, rfl⟩, e⟩ := forL_grow (α := Nat) (its := (List.range F.length).map fun (k : Nat) => D.int (k : Int)) (enc := fun (k : Nat) => D.int (k : Int)) (tg := .v 8)
    (body := (sFor (.v 11) (wRange1 (eVar 8))
    (sIf (tOr (tNot (tVal (eCall (py_are_fitting) [(eOp2 idxD (eOp2 idxD (eVar 10) (eVar 11)) (eC (.int 0))), (eOp2 idxD (eOp2 idxD (eVar 10) (eVar 8)) (eC (.int 0)))]))) (tVal (eCall (py_is_sequential) [(eVar 2), (eTup [(eOp2 idxD (eVar 10) (eVar 11)), (eOp2 idxD (eVar 10) (eVar 8))])])))
    (sRet (eC (.bl false)))
    sNop)))
    (fun Γ => ∃ b8 b11, Γ = EV sizes m b a6 a7 b8 (some (dF F)) b11 a12 a13 a14 a15 a16 a18) (List.range F.length) (EV sizes m b a6 a7 a8 (some (dF F)) a11 a12 a13 a14 a15 a16 a18) (by
      rintro k hk Γ ⟨b8, b11, rfl⟩
      rw [List.mem_range] at hk
      refine ⟨EV sizes m b a6 a7 (some (.int (k : Int))) (some (dF F)) b11 a12 a13 a14 a15 a16 a18, rfl, fun μ => ?_⟩
      obtain ⟨Γ', μ', ⟨c11, rfl⟩, e⟩ := forL_grow (α := Nat) (its := (List.range k).map fun (k : Nat) => D.int (k : Int)) (enc := fun (k : Nat) => D.int (k : Int)) (tg := .v 11)
        (body := (sIf (tOr (tNot (tVal (eCall (py_are_fitting) [(eOp2 idxD (eOp2 idxD (eVar 10) (eVar 11)) (eC (.int 0))), (eOp2 idxD (eOp2 idxD (eVar 10) (eVar 8)) (eC (.int 0)))]))) (tVal (eCall (py_is_sequential) [(eVar 2), (eTup [(eOp2 idxD (eVar 10) (eVar 11)), (eOp2 idxD (eVar 10) (eVar 8))])])))
        (sRet (eC (.bl false)))
        sNop))
        (fun Γ => ∃ b11, Γ = EV sizes m b a6 a7 (some (.int (k : Int))) (some (dF F)) b11 a12 a13 a14 a15 a16 a18) (List.range k) (EV sizes m b a6 a7 (some (.int (k : Int))) (some (dF F)) b11 a12 a13 a14 a15 a16 a18) (by
          rintro j hj Γ ⟨b11, rfl⟩
          rw [List.mem_range] at hj
          refine ⟨EV sizes m b a6 a7 (some (.int (k : Int))) (some (dF F)) (some (.int (j : Int))) a12 a13 a14 a15 a16 a18, rfl, fun μ => ?_⟩
          obtain ⟨μ1, e1⟩ := g_if0 (f := sRet (eC (.bl false))) (g := sNop) (T11 ok h hf hj hk (EV sizes m b a6 a7 (some (.int (k : Int))) (some (dF F)) (some (.int (j : Int))) a12 a13 a14 a15 a16 a18) rfl rfl rfl rfl) g_nop μ
          exact ⟨_, μ1, ⟨_, rfl⟩, e1⟩) ⟨_, rfl⟩ μ
      have hw : wRange1 (eVar 8) (EV sizes m b a6 a7 (some (.int (k : Int))) (some (dF F)) b11 a12 a13 a14 a15 a16 a18) = pure ((List.range k).map fun (k : Nat) => D.int (k : Int), .no) := by
        rw [r_wrange1]
        simp only [r_var, List.getElem?_cons_succ, List.getElem?_cons_zero, pure_bind, r_toI]
        rw [if_pos (by omega), rangeN]
      refine ⟨EV sizes m b a6 a7 (some (.int (k : Int))) (some (dF F)) c11 a12 a13 a14 a15 a16 a18, μ', ⟨_, _, rfl⟩, ?_⟩
      rw [r_for, hw, pure_bind]
      exact e) ⟨_, _, rfl⟩ μ
  refine ⟨b8, b11, μ', ?_⟩
  have hw : wRange1 (eOp1 lenD (eVar 10)) (EV sizes m b a6 a7 a8 (some (dF F)) a11 a12 a13 a14 a15 a16 a18) = pure ((List.range F.length).map fun (k : Nat) => D.int (k : Int), .no) := by
    have : eOp1 lenD (eVar 10) (EV sizes m b a6 a7 a8 (some (dF F)) a11 a12 a13 a14 a15 a16 a18) = pure (.int (F.length : Int)) := by simp [dF]
    rw [r_wrange1, this, pure_bind, r_toI, pure_bind, if_pos (by omega), rangeN]
  unfold blkA
  rw [r_for, hw, pure_bind]
  exact e
theorem loopB (ok : SzOk sizes) (h : Fn sizes m O) (h6 : O.length ≤ 6) {a6 a7 a8 a10 a11 a12 a15 a16 a18 : Option D} (μ : Store) :
    ∃ b12 b15 b16 b18 μ', sFor (.v 12) (wSeq (eSlice (eVar 13) none (some (eC (.int 3))))) inB (EV sizes m b a6 a7 a8 a10 a11 a12 (some (dF O)) (some (.int (dg sizes O : Int))) a15 a16 a18) μ = some ((EV sizes m b a6 a7 a8 a10 a11 b12 (some (dF O)) (some (.int (dg sizes O : Int))) b15 b16 b18, .next), μ ++ μ') := by
  obtain ⟨Γ', μ', ⟨b12, b15, b16, b18, rfl⟩, e⟩ := forL_grow (α := List Int × Int) (its := (O.take 3).map dP) (enc := dP) (tg := .v 12) (body := inB)
    (fun Γ => ∃ b12 b15 b16 b18, Γ = EV sizes m b a6 a7 a8 a10 a11 b12 (some (dF O)) (some (.int (dg sizes O : Int))) b15 b16 b18) (O.take 3) (EV sizes m b a6 a7 a8 a10 a11 a12 (some (dF O)) (some (.int (dg sizes O : Int))) a15 a16 a18) (by
      rintro p hp Γ ⟨b12, b15, b16, b18, rfl⟩
      have hpO := List.mem_of_mem_take hp
      refine ⟨EV sizes m b a6 a7 a8 a10 a11 (some (dP p)) (some (dF O)) (some (.int (dg sizes O : Int))) b15 b16 b18, rfl, fun μ => ?_⟩
      have s15 : sAsg (.v 15) (eComp [16, 17] (wSeq (eVar 13)) (.t (.cons (.v 16) (.cons (.v 17) .nil))) (some (tVal (eCall (py_are_fitting) [(eVar 16), (eOp2 idxD (eVar 12) (eC (.int 0)))]))) (eVar 16)) (EV sizes m b a6 a7 a8 a10 a11 (some (dP p)) (some (dF O)) (some (.int (dg sizes O : Int))) b15 b16 b18)
          = pure (EV sizes m b a6 a7 a8 a10 a11 (some (dP p)) (some (dF O)) (some (.int (dg sizes O : Int))) (some (.lst ((nearL O p).map dS))) b16 b18, .next) := by
        have hw : wSeq (eVar 13) (EV sizes m b a6 a7 a8 a10 a11 (some (dP p)) (some (dF O)) (some (.int (dg sizes O : Int))) b15 b16 b18) = pure (O.map dP, .no) := rfl
        rw [r_asg, r_comp, hw, pure_bind, compL_filt (p := fun o : List Int × Int => fits o.1 p.1) (h := fun o : List Int × Int => dS o.1), pure_bind, pure_bind]
        · rw [List.map_map]
          rfl
        · intro o ho
          have h0 : idxD (.tup [dS p.1, .int p.2]) (.int 0) = pure (dS p.1) := idx_t0 _ _
          simp only [oneC, dP, r_wipe1, r_wipe0, r_putt, r_put1, r_put0, r_putv, Option.bind_some, r_lift, pure_bind, r_tval, r_op2, r_c, r_call, r_list1, r_list0, r_var, List.set_cons_succ, List.set_cons_zero, List.getElem?_cons_succ, List.getElem?_cons_zero, h0, ev_fits, r_toBl]
          cases fits o.1 p.1 <;> simp
      obtain ⟨Γ', μ1, ⟨c16, rfl⟩, e1⟩ := forL_grow (α := List Int) (its := (nearL O p).map dS) (enc := dS) (tg := .v 16)
        (body := (sIf (tOr (tAnd (tVal (eOp2 eqD (eOp1 lenD (eComp [9] (wSeq (eVar 15)) (.v 9) (some (tVal (eCall (py_are_fitting) [(eVar 9), (eVar 16)]))) (eVar 9))) (eOp1 lenD (eVar 15)))) (tVal (eOp2 ltD (eVar 14) (eC (.int 1))))) (tAnd (tVal (eOp2 neD (eVar 16) (eOp2 idxD (eVar 12) (eC (.int 0))))) (tVal (eOp2 ltD (eVar 14) (eC (.int 2))))))
        (sRet (eC (.bl false)))
        sNop))
        (fun Γ => ∃ b16, Γ = EV sizes m b a6 a7 a8 a10 a11 (some (dP p)) (some (dF O)) (some (.int (dg sizes O : Int))) (some (.lst ((nearL O p).map dS))) b16 b18) (nearL O p) (EV sizes m b a6 a7 a8 a10 a11 (some (dP p)) (some (dF O)) (some (.int (dg sizes O : Int))) (some (.lst ((nearL O p).map dS))) b16 b18) (by
          rintro s hs Γ ⟨b16, rfl⟩
          refine ⟨EV sizes m b a6 a7 a8 a10 a11 (some (dP p)) (some (dF O)) (some (.int (dg sizes O : Int))) (some (.lst ((nearL O p).map dS))) (some (dS s)) b18, rfl, fun μ => ?_⟩
          obtain ⟨μ1, e1⟩ := g_if0 (f := sRet (eC (.bl false))) (g := sNop) (T16 ok h h6 hpO hs (EV sizes m b a6 a7 a8 a10 a11 (some (dP p)) (some (dF O)) (some (.int (dg sizes O : Int))) (some (.lst ((nearL O p).map dS))) (some (dS s)) b18) (by simp) rfl rfl rfl rfl) g_nop μ
          exact ⟨_, μ1, ⟨_, rfl⟩, e1⟩) ⟨_, rfl⟩ μ
      have hw16 : wSeq (eVar 15) (EV sizes m b a6 a7 a8 a10 a11 (some (dP p)) (some (dF O)) (some (.int (dg sizes O : Int))) (some (.lst ((nearL O p).map dS))) b16 b18) = pure ((nearL O p).map dS, .no) := rfl
      have s18 : sAsg (.v 18) (eCall (py_without_point) [(eVar 13), (eOp2 idxD (eVar 12) (eC (.int 0)))]) (EV sizes m b a6 a7 a8 a10 a11 (some (dP p)) (some (dF O)) (some (.int (dg sizes O : Int))) (some (.lst ((nearL O p).map dS))) c16 b18)
          = pure (EV sizes m b a6 a7 a8 a10 a11 (some (dP p)) (some (dF O)) (some (.int (dg sizes O : Int))) (some (.lst ((nearL O p).map dS))) c16 (some (dF (O.filter fun q => q.1 != p.1))), .next) := by
        have h0 : idxD (dP p) (.int 0) = pure (dS p.1) := idx_t0 _ _
        simp only [r_asg, r_call, r_list1, r_list0, r_op2, r_c, r_var, List.getElem?_cons_succ, List.getElem?_cons_zero, pure_bind, h0, ev_without]
        rfl
      obtain ⟨μ2, e2⟩ := g_if0 (f := sRet (eC (.bl false))) (g := sNop) (T18 ok h h6 hpO (EV sizes m b a6 a7 a8 a10 a11 (some (dP p)) (some (dF O)) (some (.int (dg sizes O : Int))) (some (.lst ((nearL O p).map dS))) c16 (some (dF (O.filter fun q => q.1 != p.1)))) rfl rfl rfl) g_nop (μ ++ μ1)
      refine ⟨EV sizes m b a6 a7 a8 a10 a11 (some (dP p)) (some (dF O)) (some (.int (dg sizes O : Int))) (some (.lst ((nearL O p).map dS))) c16 (some (dF (O.filter fun q => q.1 != p.1))), μ1 ++ μ2, ⟨_, _, _, _, rfl⟩, ?_⟩
      unfold inB
      rw [r_seq, s15, pure_bind, r_seqn, r_seq, r_for, hw16, pure_bind, run_bind e1, r_seqn, r_seq, s18, pure_bind, r_seqn, e2, List.append_assoc]) ⟨_, _, _, _, rfl⟩ μ
  refine ⟨b12, b15, b16, b18, μ', ?_⟩
  have hw : wSeq (eSlice (eVar 13) none (some (eC (.int 3)))) (EV sizes m b a6 a7 a8 a10 a11 a12 (some (dF O)) (some (.int (dg sizes O : Int))) a15 a16 a18) = pure ((O.take 3).map dP, .no) := by
    have hc : cut (O.map dP) none (some (3 : Int)) = (O.take 3).map dP := cut_to dP _ 3
    simp [eSlice, eBound, sliceD, dF, itemsD, hc]
  rw [r_for, hw, pure_bind]
  exact e
end
theorem plain (ns : List Int) (hns : ns.length ≤ 63) : wp (py_law [.h 0]) (fun d _ => d = .bl true) [.scr ns] := by
  obtain ⟨salt, e1⟩ := ev_pool ns
  have hP1 : Pool [.scr ns, PoolMO ns 0 0 0 salt] := ⟨ns, 0, 0, 0, salt, rfl, Int.le_refl _⟩
  obtain ⟨sizes, m, μ2, e2, ok, hm, hP2, hprod⟩ := ev_kind hP1
  have hl4 := ok.1
  have s1 : sAsg (.v 1) (eCall (py__law_pool) [(eVar 0)]) [some (.h 0), none, none, none, none, none, none, none, none, none, none, none, none, none, none, none, none, none, none] [.scr ns] = some (([some (.h 0), some (.h 1), none, none, none, none, none, none, none, none, none, none, none, none, none, none, none, none, none], .next), [.scr ns, PoolMO ns 0 0 0 salt]) := by
    simp [bind_def, map_def, pure_def, e1]
  have s2 : sAsg (.v 2) (eCall (py__law_kind) [(eVar 1), (eC (.int 100))]) [some (.h 0), some (.h 1), none, none, none, none, none, none, none, none, none, none, none, none, none, none, none, none, none] [.scr ns, PoolMO ns 0 0 0 salt] = some (([some (.h 0), some (.h 1), some (dKd sizes m), none, none, none, none, none, none, none, none, none, none, none, none, none, none, none, none], .next), μ2) := by
    simp [bind_def, map_def, pure_def, e2]
  have s3 : sAsg (.v 3) (eOp2 idxD (eVar 2) (eC (.int 0))) [some (.h 0), some (.h 1), some (dKd sizes m), none, none, none, none, none, none, none, none, none, none, none, none, none, none, none, none] = pure ([some (.h 0), some (.h 1), some (dKd sizes m), some (dS sizes), none, none, none, none, none, none, none, none, none, none, none, none, none, none, none], .next) := by
    have hx : idxD (dKd sizes m) (.int 0) = pure (dS sizes) := idx_t0 _ _
    simp [hx]
  obtain ⟨b, μ4, e4, hb, hbw, st4⟩ := ev_base ok (G := [some (.h 0), some (.h 1), some (dKd sizes m), some (dS sizes), none, none, none, none, none, none, none, none, none, none, none, none, none, none, none]) rfl rfl (by simp) hP2
  have hbl := row_len hb
  have s4 : sAsg (.v 4) (eOp1 tupleD (eComp [5] (wSeq (eVar 3)) (.v 5) none (eCall (py__law_draw) [(eVar 1), (eVar 5)]))) [some (.h 0), some (.h 1), some (dKd sizes m), some (dS sizes), none, none, none, none, none, none, none, none, none, none, none, none, none, none, none] μ2 = some ((EV sizes m b none none none none none none none none none none none, .next), μ4) := by
    rw [r_asg, run_bind e4]
    rfl
  obtain ⟨x, μ6, e6, x1, x2, x3, x4, x5⟩ := ev_draw st4.1 (many := m) (by omega) (by omega)
  have s6 : sAsg (.v 6) (eCall (py__law_draw) [(eVar 1), (eOp2 idxD (eVar 2) (eC (.int 1)))]) (EV sizes m b none none none none none none none none none none none) μ4 = some ((EV sizes m b (some (.int x)) none none none none none none none none none none, .next), μ6) := by
    have h1 : idxD (dKd sizes m) (.int 1) = pure (.int m) := idx_t1 _ _ _
    simp [bind_def, map_def, pure_def, h1, e6]
  have hlen := x3.pos
  obtain ⟨r, μ8, e8, d1, d2, d3, d4, d5⟩ := ev_draw (x3.app [.lst []]) (many := 6) (by decide) (by decide)
  have s7 : sAsg (.v 7) (eNewL []) (EV sizes m b (some (.int x)) none none none none none none none none none none) μ6 = some ((EV sizes m b (some (.int x)) (some (.h μ6.length)) none none none none none none none none none, .next), μ6 ++ [.lst []]) := by
    simp [eNewL, newH, bind_def, map_def, pure_def]
  have hz : μ8[μ6.length]? = some (.lst (([] : Pts).map dP)) := by
    rw [d4.2 μ6.length (by omega) (by simp)]; simp
  obtain ⟨Γ', μ9, e9, hP9, R, b8, hzR, rfl, hRl, hR⟩ := forL_wp (α := Int) (its := (rg 0 r).map D.int) (enc := D.int) (tg := .v 8) (g := .no)
    (body := (sExpr (eAppend (eVar 7) (eTup [(eOp1 tupleD (eComp [9] (wSeq (eVar 4)) (.v 9) none (eIf (tVal (eOp2 eqD (eCall (py__law_draw) [(eVar 1), (eC (.int 2))]) (eC (.int 0)))) (eVar 9) (eC (.int (-1)))))), (eVar 6)]))))
    (fun d Γ μ => Pool μ ∧ ∃ (R : Pts) (b8 : Option D), μ[μ6.length]? = some (.lst (R.map dP)) ∧ Γ = EV sizes m b (some (.int x)) (some (.h μ6.length)) b8 none none none none none none none none ∧ R.length = d.length ∧ ∀ p ∈ R, p.1 ∈ rows (-1) sizes ∧ below p.1 b = true ∧ p.2 = x) (fun _ _ _ _ => rfl) (rg 0 r) []
    (EV sizes m b (some (.int x)) (some (.h μ6.length)) none none none none none none none none none) μ8 (by
      rintro d k rest Γ μ hd ⟨hP, R, b8, hz, rfl, hRl, hR⟩
      have hdl : d.length ≤ 5 := by
        have := congrArg List.length hd
        simp [rg_len] at this
        omega
      obtain ⟨s, μ', e, hsl, hsb, st⟩ := ev_under1 (b := b) (G := EV sizes m b (some (.int x)) (some (.h μ6.length)) (some (.int k)) none none none none none none none none) rfl rfl (by simp) hP
      have hz' : μ'[μ6.length]? = some (.lst (R.map dP)) := by rw [st.2.1.2 μ6.length (by omega) (List.getElem?_eq_some_iff.mp hz).1]; exact hz
      have ht : eTup [(eOp1 tupleD (eComp [9] (wSeq (eVar 4)) (.v 9) none (eIf (tVal (eOp2 eqD (eCall (py__law_draw) [(eVar 1), (eC (.int 2))]) (eC (.int 0)))) (eVar 9) (eC (.int (-1)))))), (eVar 6)] (EV sizes m b (some (.int x)) (some (.h μ6.length)) (some (.int k)) none none none none none none none none) μ = some (dP (s, x), μ') := by
        rw [r_tup, r_list1]
        simp only [bind_assoc]
        rw [run_bind e]
        simp [dP, pure_def]
      have ap := append_at (a := eVar 7) (e := eTup [(eOp1 tupleD (eComp [9] (wSeq (eVar 4)) (.v 9) none (eIf (tVal (eOp2 eqD (eCall (py__law_draw) [(eVar 1), (eC (.int 2))]) (eC (.int 0)))) (eVar 9) (eC (.int (-1)))))), (eVar 6)]) (Γ := EV sizes m b (some (.int x)) (some (.h μ6.length)) (some (.int k)) none none none none none none none none) (n := μ6.length) (d := dP (s, x)) (ds := R.map dP) (μ := μ) (μ1 := μ') rfl hz ht hz' (by rw [List.length_map]; unfold lim; omega)
      refine ⟨EV sizes m b (some (.int x)) (some (.h μ6.length)) (some (.int k)) none none none none none none none none, EV sizes m b (some (.int x)) (some (.h μ6.length)) (some (.int k)) none none none none none none none none, μ'.set μ6.length (.lst (R.map dP ++ [dP (s, x)])), rfl, ?_, st.1.at (by omega) _, R ++ [(s, x)], _, ?_, rfl, by simp [hRl], fun p hp => ?_⟩
      · rw [r_expr, run_bind ap]
        rfl
      · rw [List.map_append]
        exact List.getElem?_set_self (List.getElem?_eq_some_iff.mp hz').1
      · rcases List.mem_append.mp hp with hp | hp
        · exact hR p hp
        · rw [List.mem_singleton.mp hp]
          have hbr := (mem_rows sizes b).mp hb
          refine ⟨(mem_rows sizes s).mpr ⟨by omega, fun i n y e1 e2 => ?_⟩, below_iff.mpr fun i y z e1 e2 => ?_, rfl⟩
          · have hil := (List.getElem?_eq_some_iff.mp e2).1
            have eb : b[i]? = some b[i] := List.getElem?_eq_getElem (by omega)
            have h1 := hbr.2 i n _ e1 eb
            have h2 := ok.2 n (List.mem_of_getElem? e1)
            have h3 := hsb i _ y eb e2
            omega
          · have h3 := hsb i z y e2 e1
            omega) ⟨d3, [], none, hz, rfl, rfl, fun p hp => by cases hp⟩
  have hR5 : R.length ≤ 5 := by
    simp [rg_len] at hRl
    omega
  have s8 : sFor (.v 8) (wRange1 (eCall (py__law_draw) [(eVar 1), (eC (.int 6))])) (sExpr (eAppend (eVar 7) (eTup [(eOp1 tupleD (eComp [9] (wSeq (eVar 4)) (.v 9) none (eIf (tVal (eOp2 eqD (eCall (py__law_draw) [(eVar 1), (eC (.int 2))]) (eC (.int 0)))) (eVar 9) (eC (.int (-1)))))), (eVar 6)]))) (EV sizes m b (some (.int x)) (some (.h μ6.length)) none none none none none none none none none) (μ6 ++ [.lst []])
      = some ((EV sizes m b (some (.int x)) (some (.h μ6.length)) b8 none none none none none none none none, .next), μ9) := by
    have hw : wRange1 (eCall (py__law_draw) [(eVar 1), (eC (.int 6))]) (EV sizes m b (some (.int x)) (some (.h μ6.length)) none none none none none none none none none) (μ6 ++ [.lst []]) = some (((rg 0 r).map D.int, .no), μ8) := by
      simp [bind_def, map_def, pure_def, e8]
      rw [if_pos (by omega), rangeL_eq]
      rfl
    rw [r_for, run_bind hw]
    exact e9
  have hb9 : ∀ p ∈ R, p.1 ∈ rows (-1) sizes ∧ below p.1 b = true ∧ p.2 = x := hR
  have hRb : FnB sizes m R := fun p hp => ⟨(hb9 p hp).1, by have := (hb9 p hp).2.2; omega⟩
  have hRc : Con R := fun p hp q hq _ => by rw [(hb9 p hp).2.2, (hb9 q hq).2.2]
  have hF : Fn sizes m (lp R) := lp_fn hRb hRc
  have hfit : ∀ p ∈ lp R, ∀ q ∈ lp R, fits p.1 q.1 = true := fun p hp q hq => by
    have h1 := hb9 p (mem_lp.mp hp).1
    have h2 := hb9 q (mem_lp.mp hq).1
    exact both_fit h1.2.1 h2.2.1 (by rw [row_len h1.1, hbl])
  have hF5 : (lp R).length ≤ 5 := by
    unfold lp
    have := List.length_filter_le (lone R) ((dd R).mergeSort leP)
    rw [List.length_mergeSort] at this
    have := len_dd R
    omega
  obtain ⟨μ10, e10⟩ := ev_lleast (R := R) (by omega) (μ9.set μ6.length .dead)
  have s10 : sSeq (sFrz 7) (sAsg (.v 10) (eCall (py__law_least) [(eVar 7)])) (EV sizes m b (some (.int x)) (some (.h μ6.length)) b8 none none none none none none none none) μ9 = some ((EV sizes m b (some (.int x)) (some (.lst (R.map dP))) b8 (some (dF (lp R))) none none none none none none none, .next), μ9.set μ6.length .dead ++ μ10) := by
    have s8 : sFrz 7 (EV sizes m b (some (.int x)) (some (.h μ6.length)) b8 none none none none none none none none) μ9 = some ((EV sizes m b (some (.int x)) (some (.lst (R.map dP))) b8 none none none none none none none none, .next), μ9.set μ6.length .dead) := by
      have hlt : μ6.length < μ9.length := (List.getElem?_eq_some_iff.mp hzR).1
      simp [sFrz, frzD, bind_def, map_def, pure_def, getH, setH, hzR]
      rw [if_pos hlt]
    have hv : eVar 7 (EV sizes m b (some (.int x)) (some (.lst (R.map dP))) b8 none none none none none none none none) = pure (.lst (R.map dP)) := rfl
    rw [r_seq, run_bind s8, r_seqn, r_asg, r_call, r_list1, hv, pure_bind, r_list0, pure_bind, pure_bind, run_bind e10]
    rfl
  have hP10 : Pool (μ9.set μ6.length .dead ++ μ10) := (hP9.at (by omega) _).app _
  obtain ⟨μ11, e11⟩ := g_if0 (f := sRet (eC (.bl false))) (g := sNop) (T10 ok hF hF5 hfit (EV sizes m b (some (.int x)) (some (.lst (R.map dP))) b8 (some (dF (lp R))) none none none none none none none) rfl rfl) g_nop (μ9.set μ6.length .dead ++ μ10)
  obtain ⟨c8, c11, μ12, e12⟩ := loopA (b := b) (a6 := some (.int x)) (a7 := some (.lst (R.map dP))) (a8 := b8) (a11 := none) (a12 := none) (a13 := none) (a14 := none) (a15 := none) (a16 := none) (a18 := none) ok hF (show (lp R).length ≤ 1000 by omega) hfit (μ9.set μ6.length .dead ++ μ10 ++ μ11)
  obtain ⟨μ13, e13⟩ := g_if0 (f := sRet (eC (.bl false))) (g := sNop) (T12 ok hF hF5 hfit (EV sizes m b (some (.int x)) (some (.lst (R.map dP))) c8 (some (dF (lp R))) c11 none none none none none none) rfl rfl (by simp)) g_nop (μ9.set μ6.length .dead ++ μ10 ++ μ11 ++ μ12)
  obtain ⟨H, μ14, e14, hH, hHl, hP14⟩ := ev_lfunc (m := m) ok hm hprod (((hP10.app μ11).app μ12).app μ13)
  have hO : Fn sizes m (H.take 6) := hH.sub (List.take_sublist _ _)
  have hO6 : (H.take 6).length ≤ 6 := by rw [List.length_take]; omega
  have s14 : sAsg (.v 13) (eSlice (eCall (py__law_function) [(eVar 1), (eVar 2)]) none (some (eC (.int 6)))) (EV sizes m b (some (.int x)) (some (.lst (R.map dP))) c8 (some (dF (lp R))) c11 none none none none none none) (μ9.set μ6.length .dead ++ μ10 ++ μ11 ++ μ12 ++ μ13)
      = some ((EV sizes m b (some (.int x)) (some (.lst (R.map dP))) c8 (some (dF (lp R))) c11 none (some (dF (H.take 6))) none none none none, .next), μ14) := by
    have hc : eCall (py__law_function) [(eVar 1), (eVar 2)] (EV sizes m b (some (.int x)) (some (.lst (R.map dP))) c8 (some (dF (lp R))) c11 none none none none none none) (μ9.set μ6.length .dead ++ μ10 ++ μ11 ++ μ12 ++ μ13) = some (dF H, μ14) := by
      have hv1 : eVar 1 (EV sizes m b (some (.int x)) (some (.lst (R.map dP))) c8 (some (dF (lp R))) c11 none none none none none none) = pure (.h 1) := rfl
      have hv2 : eVar 2 (EV sizes m b (some (.int x)) (some (.lst (R.map dP))) c8 (some (dF (lp R))) c11 none none none none none none) = pure (dKd sizes m) := rfl
      rw [r_call, r_list1, hv1, pure_bind, r_list1, hv2, pure_bind, r_list0]
      simp only [pure_bind]
      exact e14
    have hcut : cut (H.map dP) none (some (6 : Int)) = (H.take 6).map dP := cut_to dP _ 6
    have hs : eSlice (eCall (py__law_function) [(eVar 1), (eVar 2)]) none (some (eC (.int 6))) (EV sizes m b (some (.int x)) (some (.lst (R.map dP))) c8 (some (dF (lp R))) c11 none none none none none none) (μ9.set μ6.length .dead ++ μ10 ++ μ11 ++ μ12 ++ μ13) = some (dF (H.take 6), μ14) := by
      unfold eSlice
      show (eCall (py__law_function) [(eVar 1), (eVar 2)] _ >>= _) _ = _
      rw [run_bind hc]
      simp only [eBound, r_c, pure_bind, sliceD, dF, hcut]
      rfl
    rw [r_asg, run_bind hs]
    rfl
  obtain ⟨μ15, e15⟩ := ev_dg (m := m) ok hO.b (show (H.take 6).length ≤ 7 by omega) μ14
  have s15 : sAsg (.v 14) (eCall (py_degree) [(eVar 2), (eVar 13)]) (EV sizes m b (some (.int x)) (some (.lst (R.map dP))) c8 (some (dF (lp R))) c11 none (some (dF (H.take 6))) none none none none) μ14 = some ((EV sizes m b (some (.int x)) (some (.lst (R.map dP))) c8 (some (dF (lp R))) c11 none (some (dF (H.take 6))) (some (.int (dg sizes (H.take 6) : Int))) none none none, .next), μ14 ++ μ15) := by
    have hv1 : eVar 2 (EV sizes m b (some (.int x)) (some (.lst (R.map dP))) c8 (some (dF (lp R))) c11 none (some (dF (H.take 6))) none none none none) = pure (dKd sizes m) := rfl
    have hv2 : eVar 13 (EV sizes m b (some (.int x)) (some (.lst (R.map dP))) c8 (some (dF (lp R))) c11 none (some (dF (H.take 6))) none none none none) = pure (dF (H.take 6)) := rfl
    rw [r_asg, r_call, r_list1, hv1, pure_bind, r_list1, hv2, pure_bind, r_list0]
    simp only [pure_bind, bind_assoc]
    rw [run_bind e15]
    rfl
  obtain ⟨b12, b15, b16, b18, μ16, e16⟩ := loopB (b := b) (a6 := some (.int x)) (a7 := some (.lst (R.map dP))) (a8 := c8) (a10 := some (dF (lp R))) (a11 := c11) (a12 := none) (a15 := none) (a16 := none) (a18 := none) ok hO hO6 (μ14 ++ μ15)
  have hle := (dg_spec ok hO (by omega)).2.1
  have s17 : eOr (eOp2 eqD (eOp1 lenD (eVar 13)) (eC (.int 0))) (eOp2 leD (eVar 14) (eOp1 lenD (eVar 13))) (EV sizes m b (some (.int x)) (some (.lst (R.map dP))) c8 (some (dF (lp R))) c11 b12 (some (dF (H.take 6))) (some (.int (dg sizes (H.take 6) : Int))) b15 b16 b18) = pure (.bl true) := by
    have hl : eOp1 lenD (eVar 13) (EV sizes m b (some (.int x)) (some (.lst (R.map dP))) c8 (some (dF (lp R))) c11 b12 (some (dF (H.take 6))) (some (.int (dg sizes (H.take 6) : Int))) b15 b16 b18) = pure (.int ((H.take 6).length : Int)) := by
      rw [r_op1]
      simp only [r_var, List.getElem?_cons_succ, List.getElem?_cons_zero, pure_bind, dF, r_len, r_itt, List.length_map]
    have hv : eVar 14 (EV sizes m b (some (.int x)) (some (.lst (R.map dP))) c8 (some (dF (lp R))) c11 b12 (some (dF (H.take 6))) (some (.int (dg sizes (H.take 6) : Int))) b15 b16 b18) = pure (.int (dg sizes (H.take 6) : Int)) := rfl
    rw [r_or, r_op2, hl, pure_bind, r_c, pure_bind, r_eqi, pure_bind, r_toBl, pure_bind, r_op2, hv, pure_bind, hl, pure_bind, r_le, decide_eq_true (by omega)]
    split <;> rfl
  refine ⟨.bl true, μ14 ++ μ15 ++ μ16, ?_, rfl⟩
  simp only [py_law, r_fn]
  rw [if_pos (show [D.h 0].length = 1 from rfl)]
  show (sSeq _ _ [some (.h 0), none, none, none, none, none, none, none, none, none, none, none, none, none, none, none, none, none, none] >>= retK) [.scr ns] = _
  rw [r_seq, bind_assoc, run_bind s1, r_seqn, r_seq, bind_assoc, run_bind s2, r_seqn, r_seq, s3, pure_bind, r_seqn, r_seq, bind_assoc, run_bind s4, r_seqn, r_seq, bind_assoc, run_bind s6, r_seqn, r_seq, bind_assoc, run_bind s7, r_seqn, r_seq, bind_assoc, run_bind s8, r_seqn, r_seq, bind_assoc, run_bind s10, r_seqn,
    r_seq, bind_assoc, run_bind e11, r_seqn, r_seq, bind_assoc, run_bind e12, r_seqn, r_seq, bind_assoc, run_bind e13, r_seqn, r_seq, bind_assoc, run_bind s14, r_seqn, r_seq, bind_assoc, run_bind s15, r_seqn, r_seq, bind_assoc, run_bind e16, r_seqn, r_ret, s17, pure_bind]
  rfl
end K40
/-! printed by gen.py: each def does its plain function; the head -/
namespace K40
open PySem PySem.Spec PyProof.Rows L2 DL
def top (i : Nat) : Stmt := PySem.Challenge.pw_asksinturn_k40_whole_points_that_all_fit.main.body.getD i (.Pass ⟨0, 0, 0, 0⟩)
abbrev FnP (K : PySem.W.Frag) (x : Str) (st : Stmt) (f : Addr) (fd : FuncData) : Prop := FunD K x x (defArgs st) (defBody st) (defScope st) [] [] f fd
abbrev s_is_whole : Stmt := top 5
abbrev s_is_between : Stmt := top 6
abbrev s_is_state : Stmt := top 7
abbrev s_nothing_known : Stmt := top 8
abbrev s_gaps : Stmt := top 9
abbrev s_is_below : Stmt := top 10
abbrev s_are_fitting : Stmt := top 11
abbrev s_joined : Stmt := top 12
abbrev s_with_value : Stmt := top 13
abbrev s_is_point : Stmt := top 15
abbrev s_is_function : Stmt := top 16
abbrev s_answer_at : Stmt := top 17
abbrev s_least_points : Stmt := top 18
abbrev s_is_less : Stmt := top 19
abbrev s_without_point : Stmt := top 20
abbrev s_is_open : Stmt := top 22
abbrev s_needed : Stmt := top 23
abbrev s_knot_at : Stmt := top 24
abbrev s_grown : Stmt := top 25
abbrev s_turn_paper : Stmt := top 26
abbrev s_is_sequential : Stmt := top 27
abbrev s_joined_all : Stmt := top 30
abbrev s_are_parts : Stmt := top 31
abbrev s_shared_out : Stmt := top 32
abbrev s_least_parts : Stmt := top 33
abbrev s_degree : Stmt := top 34
abbrev s_unstable_pair : Stmt := top 36
abbrev s_is_stable : Stmt := top 37
abbrev s__law_same : Stmt := top 39
abbrev s__law_pool : Stmt := top 40
abbrev s__law_spread : Stmt := top 41
abbrev s__law_draw : Stmt := top 42
abbrev s__law_pick : Stmt := top 43
abbrev s__law_kind : Stmt := top 44
abbrev s__law_under : Stmt := top 45
abbrev s__law_fit : Stmt := top 46
abbrev s__law_with : Stmt := top 47
abbrev s__law_least : Stmt := top 48
abbrev s__law_state : Stmt := top 49
abbrev s__law_loose : Stmt := top 50
abbrev s__law_tree : Stmt := top 51
abbrev s__law_leaves : Stmt := top 52
abbrev s__law_told : Stmt := top 53
abbrev s__law_knotted : Stmt := top 54
abbrev s__law_function : Stmt := top 55
abbrev s_law : Stmt := top 56
structure Fcts (K : PySem.W.Frag) (mg : Str → Option Value) where
  a_is_whole : Addr
  d_is_whole : FuncData
  F_is_whole : FnP K "is_whole" s_is_whole a_is_whole d_is_whole
  g_is_whole : mg "is_whole" = some (.ref a_is_whole)
  a_is_between : Addr
  d_is_between : FuncData
  F_is_between : FnP K "is_between" s_is_between a_is_between d_is_between
  g_is_between : mg "is_between" = some (.ref a_is_between)
  a_is_state : Addr
  d_is_state : FuncData
  F_is_state : FnP K "is_state" s_is_state a_is_state d_is_state
  g_is_state : mg "is_state" = some (.ref a_is_state)
  a_nothing_known : Addr
  d_nothing_known : FuncData
  F_nothing_known : FnP K "nothing_known" s_nothing_known a_nothing_known d_nothing_known
  g_nothing_known : mg "nothing_known" = some (.ref a_nothing_known)
  a_gaps : Addr
  d_gaps : FuncData
  F_gaps : FnP K "gaps" s_gaps a_gaps d_gaps
  g_gaps : mg "gaps" = some (.ref a_gaps)
  a_is_below : Addr
  d_is_below : FuncData
  F_is_below : FnP K "is_below" s_is_below a_is_below d_is_below
  g_is_below : mg "is_below" = some (.ref a_is_below)
  a_are_fitting : Addr
  d_are_fitting : FuncData
  F_are_fitting : FnP K "are_fitting" s_are_fitting a_are_fitting d_are_fitting
  g_are_fitting : mg "are_fitting" = some (.ref a_are_fitting)
  a_joined : Addr
  d_joined : FuncData
  F_joined : FnP K "joined" s_joined a_joined d_joined
  g_joined : mg "joined" = some (.ref a_joined)
  a_with_value : Addr
  d_with_value : FuncData
  F_with_value : FnP K "with_value" s_with_value a_with_value d_with_value
  g_with_value : mg "with_value" = some (.ref a_with_value)
  a_is_point : Addr
  d_is_point : FuncData
  F_is_point : FnP K "is_point" s_is_point a_is_point d_is_point
  g_is_point : mg "is_point" = some (.ref a_is_point)
  a_is_function : Addr
  d_is_function : FuncData
  F_is_function : FnP K "is_function" s_is_function a_is_function d_is_function
  g_is_function : mg "is_function" = some (.ref a_is_function)
  a_answer_at : Addr
  d_answer_at : FuncData
  F_answer_at : FnP K "answer_at" s_answer_at a_answer_at d_answer_at
  g_answer_at : mg "answer_at" = some (.ref a_answer_at)
  a_least_points : Addr
  d_least_points : FuncData
  F_least_points : FnP K "least_points" s_least_points a_least_points d_least_points
  g_least_points : mg "least_points" = some (.ref a_least_points)
  a_is_less : Addr
  d_is_less : FuncData
  F_is_less : FnP K "is_less" s_is_less a_is_less d_is_less
  g_is_less : mg "is_less" = some (.ref a_is_less)
  a_without_point : Addr
  d_without_point : FuncData
  F_without_point : FnP K "without_point" s_without_point a_without_point d_without_point
  g_without_point : mg "without_point" = some (.ref a_without_point)
  a_is_open : Addr
  d_is_open : FuncData
  F_is_open : FnP K "is_open" s_is_open a_is_open d_is_open
  g_is_open : mg "is_open" = some (.ref a_is_open)
  a_needed : Addr
  d_needed : FuncData
  F_needed : FnP K "needed" s_needed a_needed d_needed
  g_needed : mg "needed" = some (.ref a_needed)
  a_knot_at : Addr
  d_knot_at : FuncData
  F_knot_at : FnP K "knot_at" s_knot_at a_knot_at d_knot_at
  g_knot_at : mg "knot_at" = some (.ref a_knot_at)
  a_grown : Addr
  d_grown : FuncData
  F_grown : FnP K "grown" s_grown a_grown d_grown
  g_grown : mg "grown" = some (.ref a_grown)
  a_turn_paper : Addr
  d_turn_paper : FuncData
  F_turn_paper : FnP K "turn_paper" s_turn_paper a_turn_paper d_turn_paper
  g_turn_paper : mg "turn_paper" = some (.ref a_turn_paper)
  a_is_sequential : Addr
  d_is_sequential : FuncData
  F_is_sequential : FnP K "is_sequential" s_is_sequential a_is_sequential d_is_sequential
  g_is_sequential : mg "is_sequential" = some (.ref a_is_sequential)
  a_joined_all : Addr
  d_joined_all : FuncData
  F_joined_all : FnP K "joined_all" s_joined_all a_joined_all d_joined_all
  g_joined_all : mg "joined_all" = some (.ref a_joined_all)
  a_are_parts : Addr
  d_are_parts : FuncData
  F_are_parts : FnP K "are_parts" s_are_parts a_are_parts d_are_parts
  g_are_parts : mg "are_parts" = some (.ref a_are_parts)
  a_shared_out : Addr
  d_shared_out : FuncData
  F_shared_out : FnP K "shared_out" s_shared_out a_shared_out d_shared_out
  g_shared_out : mg "shared_out" = some (.ref a_shared_out)
  a_least_parts : Addr
  d_least_parts : FuncData
  F_least_parts : FnP K "least_parts" s_least_parts a_least_parts d_least_parts
  g_least_parts : mg "least_parts" = some (.ref a_least_parts)
  a_degree : Addr
  d_degree : FuncData
  F_degree : FnP K "degree" s_degree a_degree d_degree
  g_degree : mg "degree" = some (.ref a_degree)
  a_unstable_pair : Addr
  d_unstable_pair : FuncData
  F_unstable_pair : FnP K "unstable_pair" s_unstable_pair a_unstable_pair d_unstable_pair
  g_unstable_pair : mg "unstable_pair" = some (.ref a_unstable_pair)
  a_is_stable : Addr
  d_is_stable : FuncData
  F_is_stable : FnP K "is_stable" s_is_stable a_is_stable d_is_stable
  g_is_stable : mg "is_stable" = some (.ref a_is_stable)
  a__law_same : Addr
  d__law_same : FuncData
  F__law_same : FnP K "_law_same" s__law_same a__law_same d__law_same
  g__law_same : mg "_law_same" = some (.ref a__law_same)
  a__law_pool : Addr
  d__law_pool : FuncData
  F__law_pool : FnP K "_law_pool" s__law_pool a__law_pool d__law_pool
  g__law_pool : mg "_law_pool" = some (.ref a__law_pool)
  a__law_spread : Addr
  d__law_spread : FuncData
  F__law_spread : FnP K "_law_spread" s__law_spread a__law_spread d__law_spread
  g__law_spread : mg "_law_spread" = some (.ref a__law_spread)
  a__law_draw : Addr
  d__law_draw : FuncData
  F__law_draw : FnP K "_law_draw" s__law_draw a__law_draw d__law_draw
  g__law_draw : mg "_law_draw" = some (.ref a__law_draw)
  a__law_pick : Addr
  d__law_pick : FuncData
  F__law_pick : FnP K "_law_pick" s__law_pick a__law_pick d__law_pick
  g__law_pick : mg "_law_pick" = some (.ref a__law_pick)
  a__law_kind : Addr
  d__law_kind : FuncData
  F__law_kind : FnP K "_law_kind" s__law_kind a__law_kind d__law_kind
  g__law_kind : mg "_law_kind" = some (.ref a__law_kind)
  a__law_under : Addr
  d__law_under : FuncData
  F__law_under : FnP K "_law_under" s__law_under a__law_under d__law_under
  g__law_under : mg "_law_under" = some (.ref a__law_under)
  a__law_fit : Addr
  d__law_fit : FuncData
  F__law_fit : FnP K "_law_fit" s__law_fit a__law_fit d__law_fit
  g__law_fit : mg "_law_fit" = some (.ref a__law_fit)
  a__law_with : Addr
  d__law_with : FuncData
  F__law_with : FnP K "_law_with" s__law_with a__law_with d__law_with
  g__law_with : mg "_law_with" = some (.ref a__law_with)
  a__law_least : Addr
  d__law_least : FuncData
  F__law_least : FnP K "_law_least" s__law_least a__law_least d__law_least
  g__law_least : mg "_law_least" = some (.ref a__law_least)
  a__law_state : Addr
  d__law_state : FuncData
  F__law_state : FnP K "_law_state" s__law_state a__law_state d__law_state
  g__law_state : mg "_law_state" = some (.ref a__law_state)
  a__law_loose : Addr
  d__law_loose : FuncData
  F__law_loose : FnP K "_law_loose" s__law_loose a__law_loose d__law_loose
  g__law_loose : mg "_law_loose" = some (.ref a__law_loose)
  a__law_tree : Addr
  d__law_tree : FuncData
  F__law_tree : FnP K "_law_tree" s__law_tree a__law_tree d__law_tree
  g__law_tree : mg "_law_tree" = some (.ref a__law_tree)
  a__law_leaves : Addr
  d__law_leaves : FuncData
  F__law_leaves : FnP K "_law_leaves" s__law_leaves a__law_leaves d__law_leaves
  g__law_leaves : mg "_law_leaves" = some (.ref a__law_leaves)
  a__law_told : Addr
  d__law_told : FuncData
  F__law_told : FnP K "_law_told" s__law_told a__law_told d__law_told
  g__law_told : mg "_law_told" = some (.ref a__law_told)
  a__law_knotted : Addr
  d__law_knotted : FuncData
  F__law_knotted : FnP K "_law_knotted" s__law_knotted a__law_knotted d__law_knotted
  g__law_knotted : mg "_law_knotted" = some (.ref a__law_knotted)
  a__law_function : Addr
  d__law_function : FuncData
  F__law_function : FnP K "_law_function" s__law_function a__law_function d__law_function
  g__law_function : mg "_law_function" = some (.ref a__law_function)
  a_law : Addr
  d_law : FuncData
  F_law : FnP K "law" s_law a_law d_law
  g_law : mg "law" = some (.ref a_law)
  n_all : mg "all" = none
  n_any : mg "any" = none
  n_bool : mg "bool" = none
  n_enumerate : mg "enumerate" = none
  n_int : mg "int" = none
  n_isinstance : mg "isinstance" = none
  n_len : mg "len" = none
  n_list : mg "list" = none
  n_max : mg "max" = none
  n_min : mg "min" = none
  n_range : mg "range" = none
  n_set : mg "set" = none
  n_sorted : mg "sorted" = none
  n_str : mg "str" = none
  n_tuple : mg "tuple" = none
  n_zip : mg "zip" = none
  c_MOST_POINTS : ∃ t, mg "MOST_POINTS" = some (.int 7 t)
section
variable {P : Program} {w : World} {K : PySem.W.Frag} {mg : Str → Option Value} {base : Heap}
theorem nd_is_whole : (["value"] : List Str).Nodup := by decide +kernel
theorem b_is_whole (Z : Fcts K mg) : Binds K Z.d_is_whole ["value"] [] := Z.F_is_whole.bindsN fun _ _ _ _ _ _ us hl => match us, hl with | [_], _ => rfl
theorem ok_is_whole (Z : Fcts K mg) : FnOk P w K mg base CX0 1 Z.a_is_whole Z.d_is_whole ["value"] (spD K 1 py_is_whole) :=
  def_ok (N := ["value"]) Z.F_is_whole ⟨rfl, rfl, rfl, by decide +kernel, rfl, by decide +kernel, by decide +kernel⟩ rfl rfl fun cdv A outer s H Em hr =>
    (dss_one (ds_ret (de_and (de_isi isi_int (by rfl) Z.n_isinstance rfl Z.n_int (by decide +kernel) (de_var 0)) (de_one (de_not (de_isi isi_bl (by rfl) Z.n_isinstance rfl Z.n_bool (by decide +kernel) (de_var 0)))))))

theorem nd_is_between : (["value", "least", "most"] : List Str).Nodup := by decide +kernel
theorem b_is_between (Z : Fcts K mg) : Binds K Z.d_is_between ["value", "least", "most"] [] := Z.F_is_between.bindsN fun _ _ _ _ _ _ us hl => match us, hl with | [_, _, _], _ => rfl
theorem ok_is_between (Z : Fcts K mg) : FnOk P w K mg base CX0 2 Z.a_is_between Z.d_is_between ["value", "least", "most"] (spD K 3 py_is_between) :=
  def_ok (N := ["value", "least", "most"]) Z.F_is_between ⟨rfl, rfl, rfl, by decide +kernel, rfl, by decide +kernel, by decide +kernel⟩ rfl rfl fun cdv A outer s H Em hr =>
    (dss_one (ds_ret (de_and (de_call (ok_is_whole Z) (hr.mono (by omega)) rfl Z.g_is_whole Z.F_is_whole.kp (b_is_whole Z) rfl (da_cons (de_var 0) da_nil)) (de_one (de_le_le (de_var 1) (de_var 0) (de_var 2))))))

theorem nd_is_state : (["sizes", "value", "x", "size"] : List Str).Nodup := by decide +kernel
theorem b_is_state (Z : Fcts K mg) : Binds K Z.d_is_state ["sizes", "value"] [] := Z.F_is_state.bindsN fun _ _ _ _ _ _ us hl => match us, hl with | [_, _], _ => rfl
theorem ok_is_state (Z : Fcts K mg) : FnOk P w K mg base CX0 3 Z.a_is_state Z.d_is_state ["sizes", "value"] (spD K 2 py_is_state) :=
  def_ok (N := ["sizes", "value", "x", "size"]) Z.F_is_state ⟨rfl, rfl, rfl, by decide +kernel, rfl, by decide +kernel, by decide +kernel⟩ rfl rfl fun cdv A outer s H Em hr =>
    (dss_cons (ds_if (dt_w (dw_or (dt_not (dt_val (de_isi isi_tup (by rfl) Z.n_isinstance rfl Z.n_tuple (by decide +kernel) (de_var 1)))) (dw_or1 (dt_ne hr.units (de_len (by rfl) Z.n_len (de_var 1)) (de_len (by rfl) Z.n_len (de_var 0))))))
    (dss_one (ds_ret de_bl))
    dss_nil)
    (dss_one (ds_ret (de_all rfl (by rfl) Z.n_all (de_comp (c := none) (own := [("x", 2), ("size", 3)]) rfl nd_is_state (di_zip (by rfl) Z.n_zip (de_var 1) (de_var 0)) (blkOk_by (own := [("x", 2), ("size", 3)]) (by kernel_rfl)) (fun _ _ _ _ _ => (dg_tup rfl (dgs_cons (dg_name nd_is_state) (dgs_cons (dg_name nd_is_state) dgs_nil)))) (fun _ _ _ _ _ => pts_nil) (fun _ _ _ _ _ => (de_call (ok_is_between Z) (hr.mono (by omega)) rfl Z.g_is_between Z.F_is_between.kp (b_is_between Z) rfl (da_cons (de_var 2) (da_cons de_m1 (da_cons (de_sub (de_var 3) de_int) da_nil))))) (by decide +kernel))))))

theorem nd_nothing_known : (["sizes"] : List Str).Nodup := by decide +kernel
theorem b_nothing_known (Z : Fcts K mg) : Binds K Z.d_nothing_known ["sizes"] [] := Z.F_nothing_known.bindsN fun _ _ _ _ _ _ us hl => match us, hl with | [_], _ => rfl
theorem ok_nothing_known (Z : Fcts K mg) : FnOk P w K mg base CX0 1 Z.a_nothing_known Z.d_nothing_known ["sizes"] (spD K 1 py_nothing_known) :=
  def_ok (N := ["sizes"]) Z.F_nothing_known ⟨rfl, rfl, rfl, by decide +kernel, rfl, by decide +kernel, by decide +kernel⟩ rfl rfl fun cdv A outer s H Em hr =>
    (dss_one (ds_ret (de_mul (de_tup (da_cons de_m1 da_nil)) (de_len (by rfl) Z.n_len (de_var 0)))))

theorem nd_gaps : (["state", "k", "x"] : List Str).Nodup := by decide +kernel
theorem b_gaps (Z : Fcts K mg) : Binds K Z.d_gaps ["state"] [] := Z.F_gaps.bindsN fun _ _ _ _ _ _ us hl => match us, hl with | [_], _ => rfl
theorem ok_gaps (Z : Fcts K mg) : FnOk P w K mg base CX0 1 Z.a_gaps Z.d_gaps ["state"] (spD K 1 py_gaps) :=
  def_ok (N := ["state", "k", "x"]) Z.F_gaps ⟨rfl, rfl, rfl, by decide +kernel, rfl, by decide +kernel, by decide +kernel⟩ rfl rfl fun cdv A outer s H Em hr =>
    (dss_one (ds_ret (de_tuple (by rfl) Z.n_tuple (de_comp (c := (some (tVal (eOp2 eqD (eVar 2) (eC (.int (-1))))))) (own := [("k", 1), ("x", 2)]) rfl nd_gaps (di_enum (by rfl) Z.n_enumerate (de_var 0)) (blkOk_by (own := [("k", 1), ("x", 2)]) (by kernel_rfl)) (fun _ _ _ _ _ => (dg_tup rfl (dgs_cons (dg_name nd_gaps) (dgs_cons (dg_name nd_gaps) dgs_nil)))) (fun _ _ _ _ _ => (pts_one (dt_eq hr.units (de_var 2) de_m1))) (fun _ _ _ _ _ => (de_var 1)) (by decide +kernel)))))

theorem nd_is_below : (["one", "two", "a", "b"] : List Str).Nodup := by decide +kernel
theorem b_is_below (Z : Fcts K mg) : Binds K Z.d_is_below ["one", "two"] [] := Z.F_is_below.bindsN fun _ _ _ _ _ _ us hl => match us, hl with | [_, _], _ => rfl
theorem ok_is_below (Z : Fcts K mg) : FnOk P w K mg base CX0 1 Z.a_is_below Z.d_is_below ["one", "two"] (spD K 2 py_is_below) :=
  def_ok (N := ["one", "two", "a", "b"]) Z.F_is_below ⟨rfl, rfl, rfl, by decide +kernel, rfl, by decide +kernel, by decide +kernel⟩ rfl rfl fun cdv A outer s H Em hr =>
    (dss_one (ds_ret (de_all rfl (by rfl) Z.n_all (de_comp (c := none) (own := [("a", 2), ("b", 3)]) rfl nd_is_below (di_zip (by rfl) Z.n_zip (de_var 0) (de_var 1)) (blkOk_by (own := [("a", 2), ("b", 3)]) (by kernel_rfl)) (fun _ _ _ _ _ => (dg_tup rfl (dgs_cons (dg_name nd_is_below) (dgs_cons (dg_name nd_is_below) dgs_nil)))) (fun _ _ _ _ _ => pts_nil) (fun _ _ _ _ _ => (de_in hr.units (de_var 2) (de_tup (da_cons de_m1 (da_cons (de_var 3) da_nil))))) (by decide +kernel)))))

theorem nd_are_fitting : (["one", "two", "a", "b"] : List Str).Nodup := by decide +kernel
theorem b_are_fitting (Z : Fcts K mg) : Binds K Z.d_are_fitting ["one", "two"] [] := Z.F_are_fitting.bindsN fun _ _ _ _ _ _ us hl => match us, hl with | [_, _], _ => rfl
theorem ok_are_fitting (Z : Fcts K mg) : FnOk P w K mg base CX0 1 Z.a_are_fitting Z.d_are_fitting ["one", "two"] (spD K 2 py_are_fitting) :=
  def_ok (N := ["one", "two", "a", "b"]) Z.F_are_fitting ⟨rfl, rfl, rfl, by decide +kernel, rfl, by decide +kernel, by decide +kernel⟩ rfl rfl fun cdv A outer s H Em hr =>
    (dss_one (ds_ret (de_all rfl (by rfl) Z.n_all (de_comp (c := none) (own := [("a", 2), ("b", 3)]) rfl nd_are_fitting (di_zip (by rfl) Z.n_zip (de_var 0) (de_var 1)) (blkOk_by (own := [("a", 2), ("b", 3)]) (by kernel_rfl)) (fun _ _ _ _ _ => (dg_tup rfl (dgs_cons (dg_name nd_are_fitting) (dgs_cons (dg_name nd_are_fitting) dgs_nil)))) (fun _ _ _ _ _ => pts_nil) (fun _ _ _ _ _ => (de_or (de_eq hr.units (de_var 2) de_m1) (de_one (de_in hr.units (de_var 3) (de_tup (da_cons de_m1 (da_cons (de_var 2) da_nil))))))) (by decide +kernel)))))

theorem nd_joined : (["one", "two", "a", "b"] : List Str).Nodup := by decide +kernel
theorem b_joined (Z : Fcts K mg) : Binds K Z.d_joined ["one", "two"] [] := Z.F_joined.bindsN fun _ _ _ _ _ _ us hl => match us, hl with | [_, _], _ => rfl
theorem ok_joined (Z : Fcts K mg) : FnOk P w K mg base CX0 2 Z.a_joined Z.d_joined ["one", "two"] (spD K 2 py_joined) :=
  def_ok (N := ["one", "two", "a", "b"]) Z.F_joined ⟨rfl, rfl, rfl, by decide +kernel, rfl, by decide +kernel, by decide +kernel⟩ rfl rfl fun cdv A outer s H Em hr =>
    (dss_cons (ds_if (dt_not (dt_val (de_call (ok_are_fitting Z) (hr.mono (by omega)) rfl Z.g_are_fitting Z.F_are_fitting.kp (b_are_fitting Z) rfl (da_cons (de_var 0) (da_cons (de_var 1) da_nil)))))
    (dss_one ds_never)
    dss_nil)
    (dss_one (ds_ret (de_tuple (by rfl) Z.n_tuple (de_comp (c := none) (own := [("a", 2), ("b", 3)]) rfl nd_joined (di_zip (by rfl) Z.n_zip (de_var 0) (de_var 1)) (blkOk_by (own := [("a", 2), ("b", 3)]) (by kernel_rfl)) (fun _ _ _ _ _ => (dg_tup rfl (dgs_cons (dg_name nd_joined) (dgs_cons (dg_name nd_joined) dgs_nil)))) (fun _ _ _ _ _ => pts_nil) (fun _ _ _ _ _ => (de_max2 rfl (by rfl) Z.n_max (de_var 2) (de_var 3))) (by decide +kernel))))))

theorem nd_with_value : (["state", "k", "value"] : List Str).Nodup := by decide +kernel
theorem b_with_value (Z : Fcts K mg) : Binds K Z.d_with_value ["state", "k", "value"] [] := Z.F_with_value.bindsN fun _ _ _ _ _ _ us hl => match us, hl with | [_, _, _], _ => rfl
theorem ok_with_value (Z : Fcts K mg) : FnOk P w K mg base CX0 1 Z.a_with_value Z.d_with_value ["state", "k", "value"] (spD K 3 py_with_value) :=
  def_ok (N := ["state", "k", "value"]) Z.F_with_value ⟨rfl, rfl, rfl, by decide +kernel, rfl, by decide +kernel, by decide +kernel⟩ rfl rfl fun cdv A outer s H Em hr =>
    (dss_one (ds_ret (de_add (de_add (de_slice (de_var 0) do_none (do_some (de_var 1))) (de_tup (da_cons (de_var 2) da_nil))) (de_slice (de_var 0) (do_some (de_add (de_var 1) de_int)) do_none))))

theorem nd_is_point : (["kind", "value"] : List Str).Nodup := by decide +kernel
theorem b_is_point (Z : Fcts K mg) : Binds K Z.d_is_point ["kind", "value"] [] := Z.F_is_point.bindsN fun _ _ _ _ _ _ us hl => match us, hl with | [_, _], _ => rfl
theorem ok_is_point (Z : Fcts K mg) : FnOk P w K mg base CX0 4 Z.a_is_point Z.d_is_point ["kind", "value"] (spD K 2 py_is_point) :=
  def_ok (N := ["kind", "value"]) Z.F_is_point ⟨rfl, rfl, rfl, by decide +kernel, rfl, by decide +kernel, by decide +kernel⟩ rfl rfl fun cdv A outer s H Em hr =>
    (dss_cons (ds_if (dt_w (dw_or (dt_not (dt_val (de_isi isi_tup (by rfl) Z.n_isinstance rfl Z.n_tuple (by decide +kernel) (de_var 1)))) (dw_or1 (dt_ne hr.units (de_len (by rfl) Z.n_len (de_var 1)) de_int))))
    (dss_one (ds_ret de_bl))
    dss_nil)
    (dss_one (ds_ret (de_and (de_call (ok_is_state Z) (hr.mono (by omega)) rfl Z.g_is_state Z.F_is_state.kp (b_is_state Z) rfl (da_cons (de_idx (de_var 0) de_int) (da_cons (de_idx (de_var 1) de_int) da_nil))) (de_one (de_call (ok_is_between Z) (hr.mono (by omega)) rfl Z.g_is_between Z.F_is_between.kp (b_is_between Z) rfl (da_cons (de_idx (de_var 1) de_int) (da_cons de_int (da_cons (de_sub (de_idx (de_var 0) de_int) de_int) da_nil)))))))))

theorem nd_is_function : (["kind", "value", "point", "k", "one", "answer", "other", "told"] : List Str).Nodup := by decide +kernel
theorem b_is_function (Z : Fcts K mg) : Binds K Z.d_is_function ["kind", "value"] [] := Z.F_is_function.bindsN fun _ _ _ _ _ _ us hl => match us, hl with | [_, _], _ => rfl
theorem ok_is_function (Z : Fcts K mg) : FnOk P w K mg base CX0 5 Z.a_is_function Z.d_is_function ["kind", "value"] (spD K 2 py_is_function) :=
  def_ok (N := ["kind", "value", "point", "k", "one", "answer", "other", "told"]) Z.F_is_function ⟨rfl, rfl, rfl, by decide +kernel, rfl, by decide +kernel, by decide +kernel⟩ rfl rfl fun cdv A outer s H Em hr =>
    (dss_cons (ds_if (dt_w (dw_or (dt_not (dt_val (de_isi isi_tup (by rfl) Z.n_isinstance rfl Z.n_tuple (by decide +kernel) (de_var 1)))) (dw_or1 (dt_not (dt_val (de_all rfl (by rfl) Z.n_all (de_comp (c := none) (own := [("point", 2)]) rfl nd_is_function (di_seq (de_var 1)) (blkOk_by (own := [("point", 2)]) (by kernel_rfl)) (fun _ _ _ _ _ => (dg_name nd_is_function)) (fun _ _ _ _ _ => pts_nil) (fun _ _ _ _ _ => (de_call (ok_is_point Z) (hr.mono (by omega)) rfl Z.g_is_point Z.F_is_point.kp (b_is_point Z) rfl (da_cons (de_var 0) (da_cons (de_var 2) da_nil)))) (by decide +kernel))))))))
    (dss_one (ds_ret de_bl))
    dss_nil)
    (dss_cons (ds_for .never rfl (di_enum (by rfl) Z.n_enumerate (de_var 1)) (dg_tup rfl (dgs_cons (dg_name nd_is_function) (dgs_cons (dg_tup rfl (dgs_cons (dg_name nd_is_function) (dgs_cons (dg_name nd_is_function) dgs_nil))) dgs_nil)))
    (dss_one (ds_for .never rfl (di_seq (de_slice (de_var 1) (do_some (de_add (de_var 3) de_int)) do_none)) (dg_tup rfl (dgs_cons (dg_name nd_is_function) (dgs_cons (dg_name nd_is_function) dgs_nil)))
    (dss_cons (ds_if (dt_w (dw_or (dt_not (dt_lt hr.units (de_var 4) (de_var 6))) (dw_or (dt_val (de_call (ok_is_below Z) (hr.mono (by omega)) rfl Z.g_is_below Z.F_is_below.kp (b_is_below Z) rfl (da_cons (de_var 4) (da_cons (de_var 6) da_nil)))) (dw_or1 (dt_val (de_call (ok_is_below Z) (hr.mono (by omega)) rfl Z.g_is_below Z.F_is_below.kp (b_is_below Z) rfl (da_cons (de_var 6) (da_cons (de_var 4) da_nil))))))))
    (dss_one (ds_ret de_bl))
    dss_nil)
    (dss_one (ds_if (dt_w (dw_and (dt_val (de_call (ok_are_fitting Z) (hr.mono (by omega)) rfl Z.g_are_fitting Z.F_are_fitting.kp (b_are_fitting Z) rfl (da_cons (de_var 4) (da_cons (de_var 6) da_nil)))) (dw_and1 (dt_ne hr.units (de_var 5) (de_var 7)))))
    (dss_one (ds_ret de_bl))
    dss_nil))))))
    (dss_one (ds_ret de_bl))))

theorem nd_answer_at : (["function", "state", "spot", "answer"] : List Str).Nodup := by decide +kernel
theorem b_answer_at (Z : Fcts K mg) : Binds K Z.d_answer_at ["function", "state"] [] := Z.F_answer_at.bindsN fun _ _ _ _ _ _ us hl => match us, hl with | [_, _], _ => rfl
theorem ok_answer_at (Z : Fcts K mg) : FnOk P w K mg base CX0 2 Z.a_answer_at Z.d_answer_at ["function", "state"] (spD K 2 py_answer_at) :=
  def_ok (N := ["function", "state", "spot", "answer"]) Z.F_answer_at ⟨rfl, rfl, rfl, by decide +kernel, rfl, by decide +kernel, by decide +kernel⟩ rfl rfl fun cdv A outer s H Em hr =>
    (dss_cons (ds_for .never rfl (di_seq (de_var 0)) (dg_tup rfl (dgs_cons (dg_name nd_answer_at) (dgs_cons (dg_name nd_answer_at) dgs_nil)))
    (dss_one (ds_if (dt_val (de_call (ok_is_below Z) (hr.mono (by omega)) rfl Z.g_is_below Z.F_is_below.kp (b_is_below Z) rfl (da_cons (de_var 2) (da_cons (de_var 1) da_nil))))
    (dss_one (ds_ret (de_var 3)))
    dss_nil)))
    (dss_one (ds_ret de_m1)))

theorem nd_least_points : (["pairs", "found", "state", "answer", "other", "_"] : List Str).Nodup := by decide +kernel
theorem b_least_points (Z : Fcts K mg) : Binds K Z.d_least_points ["pairs"] [] := Z.F_least_points.bindsN fun _ _ _ _ _ _ us hl => match us, hl with | [_], _ => rfl
theorem ok_least_points (Z : Fcts K mg) : FnOk P w K mg base CX0 2 Z.a_least_points Z.d_least_points ["pairs"] (spD K 1 py_least_points) :=
  def_ok (N := ["pairs", "found", "state", "answer", "other", "_"]) Z.F_least_points ⟨rfl, rfl, rfl, by decide +kernel, rfl, by decide +kernel, by decide +kernel⟩ rfl rfl fun cdv A outer s H Em hr =>
    (dss_cons (ds_set nd_least_points (de_newL da_nil))
    (dss_cons (ds_for .never rfl (di_seq (de_setSort rfl hr.units (by rfl) Z.n_sorted (by rfl) Z.n_set (de_var 0))) (dg_tup rfl (dgs_cons (dg_name nd_least_points) (dgs_cons (dg_name nd_least_points) dgs_nil)))
    (dss_one (ds_if (dt_not (dt_val (de_any rfl (by rfl) Z.n_any (de_comp (c := none) (own := [("other", 4), ("_", 5)]) rfl nd_least_points (di_seq (de_var 0)) (blkOk_by (own := [("other", 4), ("_", 5)]) (by kernel_rfl)) (fun _ _ _ _ _ => (dg_tup rfl (dgs_cons (dg_name nd_least_points) (dgs_cons (dg_name nd_least_points) dgs_nil)))) (fun _ _ _ _ _ => pts_nil) (fun _ _ _ _ _ => (de_and (de_ne hr.units (de_var 4) (de_var 2)) (de_one (de_call (ok_is_below Z) (hr.mono (by omega)) rfl Z.g_is_below Z.F_is_below.kp (b_is_below Z) rfl (da_cons (de_var 4) (da_cons (de_var 2) da_nil)))))) (by decide +kernel)))))
    (dss_one (ds_expr (de_append (de_var 1) (de_tup (da_cons (de_var 2) (da_cons (de_var 3) da_nil))))))
    dss_nil)))
    (dss_one (ds_ret (de_tuple (by rfl) Z.n_tuple (de_var 1))))))

theorem nd_is_less : (["one", "two", "state", "answer"] : List Str).Nodup := by decide +kernel
theorem b_is_less (Z : Fcts K mg) : Binds K Z.d_is_less ["one", "two"] [] := Z.F_is_less.bindsN fun _ _ _ _ _ _ us hl => match us, hl with | [_, _], _ => rfl
theorem ok_is_less (Z : Fcts K mg) : FnOk P w K mg base CX0 3 Z.a_is_less Z.d_is_less ["one", "two"] (spD K 2 py_is_less) :=
  def_ok (N := ["one", "two", "state", "answer"]) Z.F_is_less ⟨rfl, rfl, rfl, by decide +kernel, rfl, by decide +kernel, by decide +kernel⟩ rfl rfl fun cdv A outer s H Em hr =>
    (dss_one (ds_ret (de_all rfl (by rfl) Z.n_all (de_comp (c := none) (own := [("state", 2), ("answer", 3)]) rfl nd_is_less (di_seq (de_var 0)) (blkOk_by (own := [("state", 2), ("answer", 3)]) (by kernel_rfl)) (fun _ _ _ _ _ => (dg_tup rfl (dgs_cons (dg_name nd_is_less) (dgs_cons (dg_name nd_is_less) dgs_nil)))) (fun _ _ _ _ _ => pts_nil) (fun _ _ _ _ _ => (de_eq hr.units (de_call (ok_answer_at Z) (hr.mono (by omega)) rfl Z.g_answer_at Z.F_answer_at.kp (b_answer_at Z) rfl (da_cons (de_var 1) (da_cons (de_var 2) da_nil))) (de_var 3))) (by decide +kernel)))))

theorem nd_without_point : (["function", "state", "point"] : List Str).Nodup := by decide +kernel
theorem b_without_point (Z : Fcts K mg) : Binds K Z.d_without_point ["function", "state"] [] := Z.F_without_point.bindsN fun _ _ _ _ _ _ us hl => match us, hl with | [_, _], _ => rfl
theorem ok_without_point (Z : Fcts K mg) : FnOk P w K mg base CX0 1 Z.a_without_point Z.d_without_point ["function", "state"] (spD K 2 py_without_point) :=
  def_ok (N := ["function", "state", "point"]) Z.F_without_point ⟨rfl, rfl, rfl, by decide +kernel, rfl, by decide +kernel, by decide +kernel⟩ rfl rfl fun cdv A outer s H Em hr =>
    (dss_one (ds_ret (de_tuple (by rfl) Z.n_tuple (de_comp (c := (some (tVal (eOp2 neD (eOp2 idxD (eVar 2) (eC (.int 0))) (eVar 1))))) (own := [("point", 2)]) rfl nd_without_point (di_seq (de_var 0)) (blkOk_by (own := [("point", 2)]) (by kernel_rfl)) (fun _ _ _ _ _ => (dg_name nd_without_point)) (fun _ _ _ _ _ => (pts_one (dt_ne hr.units (de_idx (de_var 2) de_int) (de_var 1)))) (fun _ _ _ _ _ => (de_var 2)) (by decide +kernel)))))

theorem nd_is_open : (["function", "state", "spot", "_"] : List Str).Nodup := by decide +kernel
theorem b_is_open (Z : Fcts K mg) : Binds K Z.d_is_open ["function", "state"] [] := Z.F_is_open.bindsN fun _ _ _ _ _ _ us hl => match us, hl with | [_, _], _ => rfl
theorem ok_is_open (Z : Fcts K mg) : FnOk P w K mg base CX0 3 Z.a_is_open Z.d_is_open ["function", "state"] (spD K 2 py_is_open) :=
  def_ok (N := ["function", "state", "spot", "_"]) Z.F_is_open ⟨rfl, rfl, rfl, by decide +kernel, rfl, by decide +kernel, by decide +kernel⟩ rfl rfl fun cdv A outer s H Em hr =>
    (dss_one (ds_ret (de_and (de_eq hr.units (de_call (ok_answer_at Z) (hr.mono (by omega)) rfl Z.g_answer_at Z.F_answer_at.kp (b_answer_at Z) rfl (da_cons (de_var 0) (da_cons (de_var 1) da_nil))) de_m1) (de_one (de_any rfl (by rfl) Z.n_any (de_comp (c := none) (own := [("spot", 2), ("_", 3)]) rfl nd_is_open (di_seq (de_var 0)) (blkOk_by (own := [("spot", 2), ("_", 3)]) (by kernel_rfl)) (fun _ _ _ _ _ => (dg_tup rfl (dgs_cons (dg_name nd_is_open) (dgs_cons (dg_name nd_is_open) dgs_nil)))) (fun _ _ _ _ _ => pts_nil) (fun _ _ _ _ _ => (de_call (ok_are_fitting Z) (hr.mono (by omega)) rfl Z.g_are_fitting Z.F_are_fitting.kp (b_are_fitting Z) rfl (da_cons (de_var 2) (da_cons (de_var 1) da_nil)))) (by decide +kernel)))))))

theorem nd_needed : (["function", "state", "spots", "spot", "_", "k"] : List Str).Nodup := by decide +kernel
theorem b_needed (Z : Fcts K mg) : Binds K Z.d_needed ["function", "state"] [] := Z.F_needed.bindsN fun _ _ _ _ _ _ us hl => match us, hl with | [_, _], _ => rfl
theorem ok_needed (Z : Fcts K mg) : FnOk P w K mg base CX0 4 Z.a_needed Z.d_needed ["function", "state"] (spD K 2 py_needed) :=
  def_ok (N := ["function", "state", "spots", "spot", "_", "k"]) Z.F_needed ⟨rfl, rfl, rfl, by decide +kernel, rfl, by decide +kernel, by decide +kernel⟩ rfl rfl fun cdv A outer s H Em hr =>
    (dss_cons (ds_if (dt_not (dt_val (de_call (ok_is_open Z) (hr.mono (by omega)) rfl Z.g_is_open Z.F_is_open.kp (b_is_open Z) rfl (da_cons (de_var 0) (da_cons (de_var 1) da_nil)))))
    (dss_one (ds_ret (de_tup da_nil)))
    dss_nil)
    (dss_cons (ds_set nd_needed (de_comp (c := (some (tVal (eCall (py_are_fitting) [(eVar 3), (eVar 1)])))) (own := [("spot", 3), ("_", 4)]) rfl nd_needed (di_seq (de_var 0)) (blkOk_by (own := [("spot", 3), ("_", 4)]) (by kernel_rfl)) (fun _ _ _ _ _ => (dg_tup rfl (dgs_cons (dg_name nd_needed) (dgs_cons (dg_name nd_needed) dgs_nil)))) (fun _ _ _ _ _ => (pts_one (dt_val (de_call (ok_are_fitting Z) (hr.mono (by omega)) rfl Z.g_are_fitting Z.F_are_fitting.kp (b_are_fitting Z) rfl (da_cons (de_var 3) (da_cons (de_var 1) da_nil)))))) (fun _ _ _ _ _ => (de_var 3)) (by decide +kernel)))
    (dss_one (ds_ret (de_tuple (by rfl) Z.n_tuple (de_comp (c := (some (tVal (eOp1 allD (eComp [3] (wSeq (eVar 2)) (.v 3) none (eOp2 neD (eOp2 idxD (eVar 3) (eVar 5)) (eC (.int (-1))))))))) (own := [("k", 5)]) rfl nd_needed (di_seq (de_call (ok_gaps Z) (hr.mono (by omega)) rfl Z.g_gaps Z.F_gaps.kp (b_gaps Z) rfl (da_cons (de_var 1) da_nil))) (blkOk_by (own := [("k", 5)]) (by kernel_rfl)) (fun _ _ _ _ _ => (dg_name nd_needed)) (fun _ _ _ _ _ => (pts_one (dt_val (de_all rfl (by rfl) Z.n_all (de_comp (c := none) (own := [("spot", 3)]) rfl nd_needed (di_seq (de_var 2)) (blkOk_by (own := [("spot", 3)]) (by kernel_rfl)) (fun _ _ _ _ _ => (dg_name nd_needed)) (fun _ _ _ _ _ => pts_nil) (fun _ _ _ _ _ => (de_ne hr.units (de_idx (de_var 3) (de_var 5)) de_m1)) (by decide +kernel)))))) (fun _ _ _ _ _ => (de_var 5)) (by decide +kernel)))))))

theorem nd_knot_at : (["function", "state", "ups", "k", "good", "spot", "_"] : List Str).Nodup := by decide +kernel
theorem b_knot_at (Z : Fcts K mg) : Binds K Z.d_knot_at ["function", "state"] [] := Z.F_knot_at.bindsN fun _ _ _ _ _ _ us hl => match us, hl with | [_, _], _ => rfl
theorem ok_knot_at (Z : Fcts K mg) : FnOk P w K mg base CX0 3 Z.a_knot_at Z.d_knot_at ["function", "state"] (spD K 2 py_knot_at) :=
  def_ok (N := ["function", "state", "ups", "k", "good", "spot", "_"]) Z.F_knot_at ⟨rfl, rfl, rfl, by decide +kernel, rfl, by decide +kernel, by decide +kernel⟩ rfl rfl fun cdv A outer s H Em hr =>
    (dss_cons (ds_set nd_knot_at (de_newL da_nil))
    (dss_cons (ds_for .never rfl (di_range1 (by rfl) Z.n_range (de_len (by rfl) Z.n_len (de_var 1))) (dg_name nd_knot_at)
    (dss_cons (ds_setComp (c := (some (tAnd (tVal (eCall (py_are_fitting) [(eVar 5), (eVar 1)])) (tVal (eOp2 eqD (eOp2 idxD (eVar 5) (eVar 3)) (eC (.int (-1)))))))) (own := [("spot", 5), ("_", 6)]) rfl nd_knot_at (by rfl) (by rfl) (sw_true rfl rfl rfl (by decide +kernel)) (di_seq (de_var 0)) (blkOk_by (own := [("spot", 5), ("_", 6)]) (by kernel_rfl)) (fun _ _ _ _ _ => (dg_tup rfl (dgs_cons (dg_name nd_knot_at) (dgs_cons (dg_name nd_knot_at) dgs_nil)))) (fun _ _ _ _ _ => (pts_one (dt_w (dw_and (dt_val (de_call (ok_are_fitting Z) (hr.mono (by omega)) rfl Z.g_are_fitting Z.F_are_fitting.kp (b_are_fitting Z) rfl (da_cons (de_var 5) (da_cons (de_var 1) da_nil)))) (dw_and1 (dt_eq hr.units (de_idx (de_var 5) (de_var 3)) de_m1)))))) (fun _ _ _ _ _ => (de_call (ok_joined Z) (hr.mono (by omega)) rfl Z.g_joined Z.F_joined.kp (b_joined Z) rfl (da_cons (de_var 5) (da_cons (de_var 1) da_nil)))) (by decide +kernel))
    (dss_one (ds_expr (de_append (de_var 2) (de_if (dt_eq hr.units (de_idx (de_var 1) (de_var 3)) de_m1) (de_minT rfl hr.units (by rfl) Z.n_min (de_var 4)) de_non))))))
    (dss_one (ds_ret (de_tup (da_cons de_str (da_cons (de_var 1) (da_cons (de_tuple (by rfl) Z.n_tuple (de_var 2)) da_nil))))))))

theorem nd_grown : (["kind", "function", "state", "places", "branches", "value", "paper"] : List Str).Nodup := by decide +kernel
theorem b_grown (Z : Fcts K mg) : Binds K Z.d_grown ["kind", "function", "state"] [] := Z.F_grown.bindsN fun _ _ _ _ _ _ us hl => match us, hl with | [_, _, _], _ => rfl
theorem ok_grown (Z : Fcts K mg) : ∀ n, FnOk P w K mg base CX0 (4 + n) Z.a_grown Z.d_grown ["kind", "function", "state"] (spD K 3 (py_grown n))
  | 0 => def_none
  | n + 1 => by
    have ih := ok_grown Z n
    show FnOk P w K mg base CX0 ((4 + n) + 1) Z.a_grown Z.d_grown ["kind", "function", "state"] (spD K 3 (py_grown (n + 1)))
    refine def_ok (k := 4 + n) (N := ["kind", "function", "state", "places", "branches", "value", "paper"]) Z.F_grown ⟨rfl, rfl, rfl, by decide +kernel, rfl, by decide +kernel, by decide +kernel⟩ rfl rfl (fb := (sSeq (sIf (tNot (tVal (eCall (py_is_open) [(eVar 1), (eVar 2)])))
    (sRet (eTup [(eC (.str "tree")), (eCall (py_answer_at) [(eVar 1), (eVar 2)])]))
    sNop)
    (sSeq (sAsg (.v 3) (eCall (py_needed) [(eVar 1), (eVar 2)]))
    (sSeq (sIf (tVal (eOp2 eqD (eVar 3) (eTup [])))
    (sRet (eCall (py_knot_at) [(eVar 1), (eVar 2)]))
    sNop)
    (sSeq (sAsg (.v 4) (eNewL []))
    (sSeq (sFor (.v 5) (wRange1 (eOp2 idxD (eOp2 idxD (eVar 0) (eC (.int 0))) (eOp2 idxD (eVar 3) (eC (.int 0)))))
    (sSeq (sAsg (.v 6) (eCall (py_grown n) [(eVar 0), (eVar 1), (eCall (py_with_value) [(eVar 2), (eOp2 idxD (eVar 3) (eC (.int 0))), (eVar 5)])]))
    (sSeq (sIf (tVal (eOp2 eqD (eOp2 idxD (eVar 6) (eC (.int 0))) (eC (.str "knot"))))
    (sRet (eVar 6))
    sNop)
    (sExpr (eAppend (eVar 4) (eOp2 idxD (eVar 6) (eC (.int 1))))))))
    (sRet (eTup [(eC (.str "tree")), (eTup [(eOp2 idxD (eVar 3) (eC (.int 0))), (eOp1 tupleD (eVar 4))])])))))))) fun cdv A outer s H Em hr => ?_
    exact (dss_cons (ds_if (dt_not (dt_val (de_call (ok_is_open Z) (hr.mono (by omega)) rfl Z.g_is_open Z.F_is_open.kp (b_is_open Z) rfl (da_cons (de_var 1) (da_cons (de_var 2) da_nil)))))
    (dss_one (ds_ret (de_tup (da_cons de_str (da_cons (de_call (ok_answer_at Z) (hr.mono (by omega)) rfl Z.g_answer_at Z.F_answer_at.kp (b_answer_at Z) rfl (da_cons (de_var 1) (da_cons (de_var 2) da_nil))) da_nil)))))
    dss_nil)
    (dss_cons (ds_set nd_grown (de_call (ok_needed Z) (hr.mono (by omega)) rfl Z.g_needed Z.F_needed.kp (b_needed Z) rfl (da_cons (de_var 1) (da_cons (de_var 2) da_nil))))
    (dss_cons (ds_if (dt_eq hr.units (de_var 3) (de_tup da_nil))
    (dss_one (ds_ret (de_call (ok_knot_at Z) (hr.mono (by omega)) rfl Z.g_knot_at Z.F_knot_at.kp (b_knot_at Z) rfl (da_cons (de_var 1) (da_cons (de_var 2) da_nil)))))
    dss_nil)
    (dss_cons (ds_set nd_grown (de_newL da_nil))
    (dss_cons (ds_for .never rfl (di_range1 (by rfl) Z.n_range (de_idx (de_idx (de_var 0) de_int) (de_idx (de_var 3) de_int))) (dg_name nd_grown)
    (dss_cons (ds_set nd_grown (de_call ih (hr.mono (by omega)) rfl Z.g_grown Z.F_grown.kp (b_grown Z) rfl (da_cons (de_var 0) (da_cons (de_var 1) (da_cons (de_call (ok_with_value Z) (hr.mono (by omega)) rfl Z.g_with_value Z.F_with_value.kp (b_with_value Z) rfl (da_cons (de_var 2) (da_cons (de_idx (de_var 3) de_int) (da_cons (de_var 5) da_nil)))) da_nil)))))
    (dss_cons (ds_if (dt_eq hr.units (de_idx (de_var 6) de_int) de_str)
    (dss_one (ds_ret (de_var 6)))
    dss_nil)
    (dss_one (ds_expr (de_append (de_var 4) (de_idx (de_var 6) de_int)))))))
    (dss_one (ds_ret (de_tup (da_cons de_str (da_cons (de_tup (da_cons (de_idx (de_var 3) de_int) (da_cons (de_tuple (by rfl) Z.n_tuple (de_var 4)) da_nil))) da_nil))))))))))

theorem nd_turn_paper : (["kind", "function"] : List Str).Nodup := by decide +kernel
theorem b_turn_paper (Z : Fcts K mg) : Binds K Z.d_turn_paper ["kind", "function"] [] := Z.F_turn_paper.bindsN fun _ _ _ _ _ _ us hl => match us, hl with | [_, _], _ => rfl
theorem ok_turn_paper (Z : Fcts K mg) : FnOk P w K mg base CX0 18 Z.a_turn_paper Z.d_turn_paper ["kind", "function"] (spD K 2 py_turn_paper) :=
  def_ok (N := ["kind", "function"]) Z.F_turn_paper ⟨rfl, rfl, rfl, by decide +kernel, rfl, by decide +kernel, by decide +kernel⟩ rfl rfl fun cdv A outer s H Em hr =>
    (dss_one (ds_ret (de_call (ok_grown Z 12) (hr.mono (by omega)) rfl Z.g_grown Z.F_grown.kp (b_grown Z) rfl (da_cons (de_var 0) (da_cons (de_var 1) (da_cons (de_call (ok_nothing_known Z) (hr.mono (by omega)) rfl Z.g_nothing_known Z.F_nothing_known.kp (b_nothing_known Z) rfl (da_cons (de_idx (de_var 0) de_int) da_nil)) da_nil))))))

theorem nd_is_sequential : (["kind", "function"] : List Str).Nodup := by decide +kernel
theorem b_is_sequential (Z : Fcts K mg) : Binds K Z.d_is_sequential ["kind", "function"] [] := Z.F_is_sequential.bindsN fun _ _ _ _ _ _ us hl => match us, hl with | [_, _], _ => rfl
theorem ok_is_sequential (Z : Fcts K mg) : FnOk P w K mg base CX0 19 Z.a_is_sequential Z.d_is_sequential ["kind", "function"] (spD K 2 py_is_sequential) :=
  def_ok (N := ["kind", "function"]) Z.F_is_sequential ⟨rfl, rfl, rfl, by decide +kernel, rfl, by decide +kernel, by decide +kernel⟩ rfl rfl fun cdv A outer s H Em hr =>
    (dss_one (ds_ret (de_eq hr.units (de_idx (de_call (ok_turn_paper Z) (hr.mono (by omega)) rfl Z.g_turn_paper Z.F_turn_paper.kp (b_turn_paper Z) rfl (da_cons (de_var 0) (da_cons (de_var 1) da_nil))) de_int) de_str)))

theorem nd_joined_all : (["functions", "one", "point"] : List Str).Nodup := by decide +kernel
theorem b_joined_all (Z : Fcts K mg) : Binds K Z.d_joined_all ["functions"] [] := Z.F_joined_all.bindsN fun _ _ _ _ _ _ us hl => match us, hl with | [_], _ => rfl
theorem ok_joined_all (Z : Fcts K mg) : FnOk P w K mg base CX0 3 Z.a_joined_all Z.d_joined_all ["functions"] (spD K 1 py_joined_all) :=
  def_ok (N := ["functions", "one", "point"]) Z.F_joined_all ⟨rfl, rfl, rfl, by decide +kernel, rfl, by decide +kernel, by decide +kernel⟩ rfl rfl fun cdv A outer s H Em hr =>
    (dss_one (ds_ret (de_call (ok_least_points Z) (hr.mono (by omega)) rfl Z.g_least_points Z.F_least_points.kp (b_least_points Z) rfl (da_cons (de_comp2 (own := [("one", 1), ("point", 2)]) (vs1 := [2]) rfl nd_joined_all (di_seq (de_var 0)) (blkOk_by (own := [("one", 1), ("point", 2)]) (by kernel_rfl)) (by decide +kernel) (fun _ _ _ _ _ => (dg_name nd_joined_all)) (fun _ _ _ _ _ => (di_seq (de_var 1))) (fun _ _ _ _ _ => (dg_name nd_joined_all)) (fun _ _ _ _ _ => (de_var 2)) (by decide +kernel) (by decide +kernel)) da_nil))))

theorem nd_are_parts : (["kind", "function", "value", "one"] : List Str).Nodup := by decide +kernel
theorem b_are_parts (Z : Fcts K mg) : Binds K Z.d_are_parts ["kind", "function", "value"] [] := Z.F_are_parts.bindsN fun _ _ _ _ _ _ us hl => match us, hl with | [_, _, _], _ => rfl
theorem ok_are_parts (Z : Fcts K mg) : FnOk P w K mg base CX0 20 Z.a_are_parts Z.d_are_parts ["kind", "function", "value"] (spD K 3 py_are_parts) :=
  def_ok (N := ["kind", "function", "value", "one"]) Z.F_are_parts ⟨rfl, rfl, rfl, by decide +kernel, rfl, by decide +kernel, by decide +kernel⟩ rfl rfl fun cdv A outer s H Em hr =>
    (dss_cons (ds_if (dt_w (dw_or (dt_not (dt_val (de_isi isi_tup (by rfl) Z.n_isinstance rfl Z.n_tuple (by decide +kernel) (de_var 2)))) (dw_or1 (dt_not (dt_val (de_all rfl (by rfl) Z.n_all (de_comp (c := none) (own := [("one", 3)]) rfl nd_are_parts (di_seq (de_var 2)) (blkOk_by (own := [("one", 3)]) (by kernel_rfl)) (fun _ _ _ _ _ => (dg_name nd_are_parts)) (fun _ _ _ _ _ => pts_nil) (fun _ _ _ _ _ => (de_call (ok_is_function Z) (hr.mono (by omega)) rfl Z.g_is_function Z.F_is_function.kp (b_is_function Z) rfl (da_cons (de_var 0) (da_cons (de_var 3) da_nil)))) (by decide +kernel))))))))
    (dss_one (ds_ret de_bl))
    dss_nil)
    (dss_cons (ds_if (dt_not (dt_val (de_all rfl (by rfl) Z.n_all (de_comp (c := none) (own := [("one", 3)]) rfl nd_are_parts (di_seq (de_var 2)) (blkOk_by (own := [("one", 3)]) (by kernel_rfl)) (fun _ _ _ _ _ => (dg_name nd_are_parts)) (fun _ _ _ _ _ => pts_nil) (fun _ _ _ _ _ => (de_and (de_call (ok_is_sequential Z) (hr.mono (by omega)) rfl Z.g_is_sequential Z.F_is_sequential.kp (b_is_sequential Z) rfl (da_cons (de_var 0) (da_cons (de_var 3) da_nil))) (de_one (de_call (ok_is_less Z) (hr.mono (by omega)) rfl Z.g_is_less Z.F_is_less.kp (b_is_less Z) rfl (da_cons (de_var 3) (da_cons (de_var 1) da_nil)))))) (by decide +kernel)))))
    (dss_one (ds_ret de_bl))
    dss_nil)
    (dss_one (ds_ret (de_eq hr.units (de_call (ok_joined_all Z) (hr.mono (by omega)) rfl Z.g_joined_all Z.F_joined_all.kp (b_joined_all Z) rfl (da_cons (de_var 2) da_nil)) (de_var 1))))))

theorem nd_shared_out : (["kind", "points", "groups", "most", "k", "own", "found"] : List Str).Nodup := by decide +kernel
theorem b_shared_out (Z : Fcts K mg) : Binds K Z.d_shared_out ["kind", "points", "groups", "most"] [] := Z.F_shared_out.bindsN fun _ _ _ _ _ _ us hl => match us, hl with | [_, _, _, _], _ => rfl
theorem ok_shared_out (Z : Fcts K mg) : ∀ n, FnOk P w K mg base CX0 (19 + n) Z.a_shared_out Z.d_shared_out ["kind", "points", "groups", "most"] (spD K 4 (py_shared_out n))
  | 0 => def_none
  | n + 1 => by
    have ih := ok_shared_out Z n
    show FnOk P w K mg base CX0 ((19 + n) + 1) Z.a_shared_out Z.d_shared_out ["kind", "points", "groups", "most"] (spD K 4 (py_shared_out (n + 1)))
    refine def_ok (k := 19 + n) (N := ["kind", "points", "groups", "most", "k", "own", "found"]) Z.F_shared_out ⟨rfl, rfl, rfl, by decide +kernel, rfl, by decide +kernel, by decide +kernel⟩ rfl rfl (fb := (sSeq (sIf (tVal (eOp2 eqD (eOp1 lenD (eVar 1)) (eC (.int 0))))
    (sRet (eOp1 tupleD (eVar 2)))
    sNop)
    (sSeq (sFor (.v 4) (wRange1 (eOp2 min2D (eOp2 addD (eOp1 lenD (eVar 2)) (eC (.int 1))) (eVar 3)))
    (sSeq (sAsg (.v 5) (eOp2 addD (eIf (tVal (eOp2 ltD (eVar 4) (eOp1 lenD (eVar 2)))) (eOp2 idxD (eVar 2) (eVar 4)) (eTup [])) (eSlice (eVar 1) none (some (eC (.int 1))))))
    (sIf (tVal (eCall (py_is_sequential) [(eVar 0), (eVar 5)]))
    (sSeq (sAsg (.v 6) (eCall (py_shared_out n) [(eVar 0), (eSlice (eVar 1) (some (eC (.int 1))) none), (eOp2 addD (eOp2 addD (eSlice (eVar 2) none (some (eVar 4))) (eLst [(eVar 5)])) (eSlice (eVar 2) (some (eOp2 addD (eVar 4) (eC (.int 1)))) none)), (eVar 3)]))
    (sIf (tVal (eOp1 (isN true) (eVar 6)))
    (sRet (eVar 6))
    sNop))
    sNop)))
    (sRet (eC .non))))) fun cdv A outer s H Em hr => ?_
    exact (dss_cons (ds_if (dt_eq hr.units (de_len (by rfl) Z.n_len (de_var 1)) de_int)
    (dss_one (ds_ret (de_tuple (by rfl) Z.n_tuple (de_var 2))))
    dss_nil)
    (dss_cons (ds_for .never rfl (di_range1 (by rfl) Z.n_range (de_min2 rfl (by rfl) Z.n_min (de_add (de_len (by rfl) Z.n_len (de_var 2)) de_int) (de_var 3))) (dg_name nd_shared_out)
    (dss_cons (ds_set nd_shared_out (de_add (de_if (dt_lt hr.units (de_var 4) (de_len (by rfl) Z.n_len (de_var 2))) (de_idx (de_var 2) (de_var 4)) (de_tup da_nil)) (de_slice (de_var 1) do_none (do_some de_int))))
    (dss_one (ds_if (dt_val (de_call (ok_is_sequential Z) (hr.mono (by omega)) rfl Z.g_is_sequential Z.F_is_sequential.kp (b_is_sequential Z) rfl (da_cons (de_var 0) (da_cons (de_var 5) da_nil))))
    (dss_cons (ds_set nd_shared_out (de_call ih (hr.mono (by omega)) rfl Z.g_shared_out Z.F_shared_out.kp (b_shared_out Z) rfl (da_cons (de_var 0) (da_cons (de_slice (de_var 1) (do_some de_int) do_none) (da_cons (de_add (de_add (de_slice (de_var 2) do_none (do_some (de_var 4))) (de_lst (da_cons (de_var 5) da_nil))) (de_slice (de_var 2) (do_some (de_add (de_var 4) de_int)) do_none)) (da_cons (de_var 3) da_nil))))))
    (dss_one (ds_if (dt_notN (de_var 6))
    (dss_one (ds_ret (de_var 6)))
    dss_nil)))
    dss_nil))))
    (dss_one (ds_ret de_non))))

theorem nd_least_parts : (["kind", "function", "most", "found"] : List Str).Nodup := by decide +kernel
theorem b_least_parts (Z : Fcts K mg) : Binds K Z.d_least_parts ["kind", "function"] [] := Z.F_least_parts.bindsN fun _ _ _ _ _ _ us hl => match us, hl with | [_, _], _ => rfl
theorem ok_least_parts (Z : Fcts K mg) : FnOk P w K mg base CX0 33 Z.a_least_parts Z.d_least_parts ["kind", "function"] (spD K 2 py_least_parts) :=
  def_ok (N := ["kind", "function", "most", "found"]) Z.F_least_parts ⟨rfl, rfl, rfl, by decide +kernel, rfl, by decide +kernel, by decide +kernel⟩ rfl rfl fun cdv A outer s H Em hr =>
    (dss_cons (ds_if (dt_gt (de_len (by rfl) Z.n_len (de_var 1)) (de_globI rfl Z.c_MOST_POINTS.choose_spec))
    (dss_one ds_never)
    dss_nil)
    (dss_cons (ds_for .never rfl (di_range1 (by rfl) Z.n_range (de_add (de_len (by rfl) Z.n_len (de_var 1)) de_int)) (dg_name nd_least_parts)
    (dss_cons (ds_set nd_least_parts (de_call (ok_shared_out Z 12) (hr.mono (by omega)) rfl Z.g_shared_out Z.F_shared_out.kp (b_shared_out Z) rfl (da_cons (de_var 0) (da_cons (de_var 1) (da_cons (de_lst da_nil) (da_cons (de_var 2) da_nil))))))
    (dss_one (ds_if (dt_notN (de_var 3))
    (dss_one (ds_ret (de_var 3)))
    dss_nil))))
    (dss_one (ds_ret (de_tup da_nil)))))

theorem nd_degree : (["kind", "function"] : List Str).Nodup := by decide +kernel
theorem b_degree (Z : Fcts K mg) : Binds K Z.d_degree ["kind", "function"] [] := Z.F_degree.bindsN fun _ _ _ _ _ _ us hl => match us, hl with | [_, _], _ => rfl
theorem ok_degree (Z : Fcts K mg) : FnOk P w K mg base CX0 34 Z.a_degree Z.d_degree ["kind", "function"] (spD K 2 py_degree) :=
  def_ok (N := ["kind", "function"]) Z.F_degree ⟨rfl, rfl, rfl, by decide +kernel, rfl, by decide +kernel, by decide +kernel⟩ rfl rfl fun cdv A outer s H Em hr =>
    (dss_one (ds_ret (de_len (by rfl) Z.n_len (de_call (ok_least_parts Z) (hr.mono (by omega)) rfl Z.g_least_parts Z.F_least_parts.kp (b_least_parts Z) rfl (da_cons (de_var 0) (da_cons (de_var 1) da_nil))))))

theorem nd_unstable_pair : (["function", "k", "one", "_", "other"] : List Str).Nodup := by decide +kernel
theorem b_unstable_pair (Z : Fcts K mg) : Binds K Z.d_unstable_pair ["function"] [] := Z.F_unstable_pair.bindsN fun _ _ _ _ _ _ us hl => match us, hl with | [_], _ => rfl
theorem ok_unstable_pair (Z : Fcts K mg) : FnOk P w K mg base CX0 2 Z.a_unstable_pair Z.d_unstable_pair ["function"] (spD K 1 py_unstable_pair) :=
  def_ok (N := ["function", "k", "one", "_", "other"]) Z.F_unstable_pair ⟨rfl, rfl, rfl, by decide +kernel, rfl, by decide +kernel, by decide +kernel⟩ rfl rfl fun cdv A outer s H Em hr =>
    (dss_cons (ds_for .never rfl (di_enum (by rfl) Z.n_enumerate (de_var 0)) (dg_tup rfl (dgs_cons (dg_name nd_unstable_pair) (dgs_cons (dg_tup rfl (dgs_cons (dg_name nd_unstable_pair) (dgs_cons (dg_name nd_unstable_pair) dgs_nil))) dgs_nil)))
    (dss_one (ds_for .never rfl (di_seq (de_slice (de_var 0) (do_some (de_add (de_var 1) de_int)) do_none)) (dg_tup rfl (dgs_cons (dg_name nd_unstable_pair) (dgs_cons (dg_name nd_unstable_pair) dgs_nil)))
    (dss_one (ds_if (dt_val (de_call (ok_are_fitting Z) (hr.mono (by omega)) rfl Z.g_are_fitting Z.F_are_fitting.kp (b_are_fitting Z) rfl (da_cons (de_var 2) (da_cons (de_var 4) da_nil))))
    (dss_one (ds_ret (de_tup (da_cons (de_var 2) (da_cons (de_var 4) da_nil)))))
    dss_nil)))))
    (dss_one (ds_ret de_non)))

theorem nd_is_stable : (["function"] : List Str).Nodup := by decide +kernel
theorem b_is_stable (Z : Fcts K mg) : Binds K Z.d_is_stable ["function"] [] := Z.F_is_stable.bindsN fun _ _ _ _ _ _ us hl => match us, hl with | [_], _ => rfl
theorem ok_is_stable (Z : Fcts K mg) : FnOk P w K mg base CX0 3 Z.a_is_stable Z.d_is_stable ["function"] (spD K 1 py_is_stable) :=
  def_ok (N := ["function"]) Z.F_is_stable ⟨rfl, rfl, rfl, by decide +kernel, rfl, by decide +kernel, by decide +kernel⟩ rfl rfl fun cdv A outer s H Em hr =>
    (dss_one (ds_ret (de_isN (de_call (ok_unstable_pair Z) (hr.mono (by omega)) rfl Z.g_unstable_pair Z.F_unstable_pair.kp (b_unstable_pair Z) rfl (da_cons (de_var 0) da_nil)))))

theorem nd__law_same : (["actual", "due", "k"] : List Str).Nodup := by decide +kernel
theorem b__law_same (Z : Fcts K mg) : Binds K Z.d__law_same ["actual", "due"] [] := Z.F__law_same.bindsN fun _ _ _ _ _ _ us hl => match us, hl with | [_, _], _ => rfl
theorem ok__law_same (Z : Fcts K mg) : ∀ n, FnOk P w K mg base CX0 (0 + n) Z.a__law_same Z.d__law_same ["actual", "due"] (spD K 2 (py__law_same n))
  | 0 => def_none
  | n + 1 => by
    have ih := ok__law_same Z n
    show FnOk P w K mg base CX0 ((0 + n) + 1) Z.a__law_same Z.d__law_same ["actual", "due"] (spD K 2 (py__law_same (n + 1)))
    refine def_ok (k := 0 + n) (N := ["actual", "due", "k"]) Z.F__law_same ⟨rfl, rfl, rfl, by decide +kernel, rfl, by decide +kernel, by decide +kernel⟩ rfl rfl (fb := (sSeq (sIf (tOr (tVal (eOp1 isTup (eVar 1))) (tVal (eOp1 isLst (eVar 1))))
    (sSeq (sIf (tOr (tVal (eOp2 neD (eOp1 isTup (eVar 1)) (eOp1 isTup (eVar 0)))) (tOr (tVal (eOp2 neD (eOp1 isLst (eVar 1)) (eOp1 isLst (eVar 0)))) (tVal (eOp2 neD (eOp1 lenD (eVar 0)) (eOp1 lenD (eVar 1))))))
    (sRet (eC (.bl false)))
    sNop)
    (sRet (eOp2 eqD (eOp1 lenD (eComp [2] (wRange1 (eOp1 lenD (eVar 1))) (.v 2) (some (tNot (tVal (eCall (py__law_same n) [(eOp2 idxD (eVar 0) (eVar 2)), (eOp2 idxD (eVar 1) (eVar 2))])))) (eVar 2))) (eC (.int 0)))))
    sNop)
    (sSeq (sIf (tVal (eOp1 (isN false) (eVar 1)))
    (sRet (eOp1 (isN false) (eVar 0)))
    sNop)
    (sSeq (sIf (tOr (tVal (eOp1 isBl (eVar 1))) (tVal (eOp1 isBl (eVar 0))))
    (sRet (eAnd (eOp1 isBl (eVar 1)) (eAnd (eOp1 isBl (eVar 0)) (eOp2 eqD (eVar 0) (eVar 1)))))
    sNop)
    (sSeq (sIf (tVal (eOp1 isInt (eVar 1)))
    (sRet (eAnd (eOp1 isInt (eVar 0)) (eOp2 eqD (eVar 0) (eVar 1))))
    sNop)
    (sRet (eAnd (eOp1 isStr (eVar 0)) (eOp2 eqD (eVar 0) (eVar 1))))))))) fun cdv A outer s H Em hr => ?_
    exact (dss_cons (ds_if (dt_w (dw_or (dt_val (de_isi isi_tup (by rfl) Z.n_isinstance rfl Z.n_tuple (by decide +kernel) (de_var 1))) (dw_or1 (dt_val (de_isi isi_lst (by rfl) Z.n_isinstance rfl Z.n_list (by decide +kernel) (de_var 1))))))
    (dss_cons (ds_if (dt_w (dw_or (dt_ne hr.units (de_isi isi_tup (by rfl) Z.n_isinstance rfl Z.n_tuple (by decide +kernel) (de_var 1)) (de_isi isi_tup (by rfl) Z.n_isinstance rfl Z.n_tuple (by decide +kernel) (de_var 0))) (dw_or (dt_ne hr.units (de_isi isi_lst (by rfl) Z.n_isinstance rfl Z.n_list (by decide +kernel) (de_var 1)) (de_isi isi_lst (by rfl) Z.n_isinstance rfl Z.n_list (by decide +kernel) (de_var 0))) (dw_or1 (dt_ne hr.units (de_len (by rfl) Z.n_len (de_var 0)) (de_len (by rfl) Z.n_len (de_var 1)))))))
    (dss_one (ds_ret de_bl))
    dss_nil)
    (dss_one (ds_ret (de_eq hr.units (de_len (by rfl) Z.n_len (de_comp (c := (some (tNot (tVal (eCall (py__law_same n) [(eOp2 idxD (eVar 0) (eVar 2)), (eOp2 idxD (eVar 1) (eVar 2))]))))) (own := [("k", 2)]) rfl nd__law_same (di_range1 (by rfl) Z.n_range (de_len (by rfl) Z.n_len (de_var 1))) (blkOk_by (own := [("k", 2)]) (by kernel_rfl)) (fun _ _ _ _ _ => (dg_name nd__law_same)) (fun _ _ _ _ _ => (pts_one (dt_not (dt_val (de_call ih (hr.mono (by omega)) rfl Z.g__law_same Z.F__law_same.kp (b__law_same Z) rfl (da_cons (de_idx (de_var 0) (de_var 2)) (da_cons (de_idx (de_var 1) (de_var 2)) da_nil))))))) (fun _ _ _ _ _ => (de_var 2)) (by decide +kernel))) de_int))))
    dss_nil)
    (dss_cons (ds_if (dt_isN (de_var 1))
    (dss_one (ds_ret (de_isN (de_var 0))))
    dss_nil)
    (dss_cons (ds_if (dt_w (dw_or (dt_val (de_isi isi_bl (by rfl) Z.n_isinstance rfl Z.n_bool (by decide +kernel) (de_var 1))) (dw_or1 (dt_val (de_isi isi_bl (by rfl) Z.n_isinstance rfl Z.n_bool (by decide +kernel) (de_var 0))))))
    (dss_one (ds_ret (de_and (de_isi isi_bl (by rfl) Z.n_isinstance rfl Z.n_bool (by decide +kernel) (de_var 1)) (de_and (de_isi isi_bl (by rfl) Z.n_isinstance rfl Z.n_bool (by decide +kernel) (de_var 0)) (de_one (de_eq hr.units (de_var 0) (de_var 1)))))))
    dss_nil)
    (dss_cons (ds_if (dt_val (de_isi isi_int (by rfl) Z.n_isinstance rfl Z.n_int (by decide +kernel) (de_var 1)))
    (dss_one (ds_ret (de_and (de_isi isi_int (by rfl) Z.n_isinstance rfl Z.n_int (by decide +kernel) (de_var 0)) (de_one (de_eq hr.units (de_var 0) (de_var 1))))))
    dss_nil)
    (dss_one (ds_ret (de_and (de_isi isi_str (by rfl) Z.n_isinstance rfl Z.n_str (by decide +kernel) (de_var 0)) (de_one (de_eq hr.units (de_var 0) (de_var 1))))))))))

theorem nd__law_pool : (["script", "salt", "cell"] : List Str).Nodup := by decide +kernel
theorem b__law_pool (Z : Fcts K mg) : Binds K Z.d__law_pool ["script"] [] := Z.F__law_pool.bindsN fun _ _ _ _ _ _ us hl => match us, hl with | [_], _ => rfl
theorem ok__law_pool (Z : Fcts K mg) : FnOk P w K mg base CX0 1 Z.a__law_pool Z.d__law_pool ["script"] (spD K 1 py__law_pool) :=
  def_ok (N := ["script", "salt", "cell"]) Z.F__law_pool ⟨rfl, rfl, rfl, by decide +kernel, rfl, by decide +kernel, by decide +kernel⟩ rfl rfl fun cdv A outer s H Em hr =>
    (dss_cons (ds_set nd__law_pool de_int)
    (dss_cons (ds_for .never rfl (di_seq (de_slice (de_var 0) do_none (do_some de_int))) (dg_name nd__law_pool)
    (dss_one (ds_set nd__law_pool (de_mod (de_toint (by rfl) Z.n_int (de_add (de_mul (de_var 1) de_int) (de_var 2))) de_int))))
    (dss_one (ds_ret (de_newL (da_cons (de_list (by rfl) Z.n_list (de_var 0)) (da_cons de_int (da_cons de_int (da_cons de_int (da_cons (de_var 1) da_nil))))))))))

theorem nd__law_spread : (["cell", "mixed", "total", "k"] : List Str).Nodup := by decide +kernel
theorem b__law_spread (Z : Fcts K mg) : Binds K Z.d__law_spread ["cell"] [] := Z.F__law_spread.bindsN fun _ _ _ _ _ _ us hl => match us, hl with | [_], _ => rfl
theorem ok__law_spread (Z : Fcts K mg) : FnOk P w K mg base CX0 1 Z.a__law_spread Z.d__law_spread ["cell"] (spD K 1 py__law_spread) :=
  def_ok (N := ["cell", "mixed", "total", "k"]) Z.F__law_spread ⟨rfl, rfl, rfl, by decide +kernel, rfl, by decide +kernel, by decide +kernel⟩ rfl rfl fun cdv A outer s H Em hr =>
    (dss_cons (ds_set nd__law_spread (de_mod (de_toint (by rfl) Z.n_int (de_var 0)) de_int))
    (dss_cons (ds_set nd__law_spread de_int)
    (dss_cons (ds_for .never rfl (di_range1 (by rfl) Z.n_range de_int) (dg_name nd__law_spread)
    (dss_cons (ds_set nd__law_spread (de_mod (de_toint (by rfl) Z.n_int (de_add (de_add (de_mul (de_var 1) de_int) de_int) (de_var 3))) de_int))
    (dss_one (ds_set nd__law_spread (de_add (de_mul (de_var 2) de_int) (de_var 1))))))
    (dss_one (ds_ret (de_var 2))))))

theorem nd__law_draw : (["pool", "many", "cell", "mixed", "value"] : List Str).Nodup := by decide +kernel
theorem b__law_draw (Z : Fcts K mg) : Binds K Z.d__law_draw ["pool", "many"] [] := Z.F__law_draw.bindsN fun _ _ _ _ _ _ us hl => match us, hl with | [_, _], _ => rfl
theorem ok__law_draw (Z : Fcts K mg) : FnOk P w K mg base CX0 2 Z.a__law_draw Z.d__law_draw ["pool", "many"] (spD K 2 py__law_draw) :=
  def_ok (N := ["pool", "many", "cell", "mixed", "value"]) Z.F__law_draw ⟨rfl, rfl, rfl, by decide +kernel, rfl, by decide +kernel, by decide +kernel⟩ rfl rfl fun cdv A outer s H Em hr =>
    (dss_cons (ds_if (dt_w (dw_and (dt_le (de_idx (de_var 0) de_int) de_int) (dw_and1 (dt_lt hr.units (de_idx (de_var 0) de_int) (de_len (by rfl) Z.n_len (de_idx (de_var 0) de_int))))))
    (dss_cons (ds_set nd__law_draw (de_idx (de_idx (de_var 0) de_int) (de_idx (de_var 0) de_int)))
    (dss_cons (ds_setItem (de_var 0) de_int (de_add (de_idx (de_var 0) de_int) de_int))
    (dss_cons (ds_setItem (de_var 0) de_int (de_var 2))
    (dss_one (ds_if (dt_lt hr.units (de_var 2) de_int)
    (dss_one (ds_setItem (de_var 0) de_int (de_call (ok__law_spread Z) (hr.mono (by omega)) rfl Z.g__law_spread Z.F__law_spread.kp (b__law_spread Z) rfl (da_cons (de_var 2) da_nil))))
    dss_nil)))))
    dss_nil)
    (dss_cons (ds_setItem (de_var 0) de_int (de_add (de_idx (de_var 0) de_int) de_int))
    (dss_cons (ds_if (dt_le (de_idx (de_var 0) de_int) de_int)
    (dss_cons (ds_set nd__law_draw (de_mod (de_toint (by rfl) Z.n_int (de_add (de_add (de_mul (de_idx (de_var 0) de_int) de_int) (de_mul (de_idx (de_var 0) de_int) de_int)) de_int)) de_int))
    (dss_cons (ds_set nd__law_draw (de_mod (de_toint (by rfl) Z.n_int (de_add (de_mul (de_var 3) de_int) (de_idx (de_var 0) de_int))) de_int))
    (dss_one (ds_ret (de_mod (de_div (de_var 3) de_int) (de_var 1))))))
    dss_nil)
    (dss_cons (ds_set nd__law_draw (de_mod (de_toint (by rfl) Z.n_int (de_idx (de_var 0) de_int)) (de_var 1)))
    (dss_cons (ds_setItem (de_var 0) de_int (de_div (de_idx (de_var 0) de_int) (de_var 1)))
    (dss_one (ds_ret (de_var 4))))))))

theorem nd__law_pick : (["pool", "items"] : List Str).Nodup := by decide +kernel
theorem b__law_pick (Z : Fcts K mg) : Binds K Z.d__law_pick ["pool", "items"] [] := Z.F__law_pick.bindsN fun _ _ _ _ _ _ us hl => match us, hl with | [_, _], _ => rfl
theorem ok__law_pick (Z : Fcts K mg) : FnOk P w K mg base CX0 3 Z.a__law_pick Z.d__law_pick ["pool", "items"] (spD K 2 py__law_pick) :=
  def_ok (N := ["pool", "items"]) Z.F__law_pick ⟨rfl, rfl, rfl, by decide +kernel, rfl, by decide +kernel, by decide +kernel⟩ rfl rfl fun cdv A outer s H Em hr =>
    (dss_one (ds_ret (de_idx (de_var 1) (de_call (ok__law_draw Z) (hr.mono (by omega)) rfl Z.g__law_draw Z.F__law_draw.kp (b__law_draw Z) rfl (da_cons (de_var 0) (da_cons (de_len (by rfl) Z.n_len (de_var 1)) da_nil))))))

theorem nd__law_kind : (["pool", "most", "sizes", "states", "k", "size"] : List Str).Nodup := by decide +kernel
theorem b__law_kind (Z : Fcts K mg) : Binds K Z.d__law_kind ["pool", "most"] [] := Z.F__law_kind.bindsN fun _ _ _ _ _ _ us hl => match us, hl with | [_, _], _ => rfl
theorem ok__law_kind (Z : Fcts K mg) : FnOk P w K mg base CX0 3 Z.a__law_kind Z.d__law_kind ["pool", "most"] (spD K 2 py__law_kind) :=
  def_ok (N := ["pool", "most", "sizes", "states", "k", "size"]) Z.F__law_kind ⟨rfl, rfl, rfl, by decide +kernel, rfl, by decide +kernel, by decide +kernel⟩ rfl rfl fun cdv A outer s H Em hr =>
    (dss_cons (ds_set nd__law_kind (de_newL da_nil))
    (dss_cons (ds_set nd__law_kind de_int)
    (dss_cons (ds_for .never rfl (di_range1 (by rfl) Z.n_range (de_call (ok__law_draw Z) (hr.mono (by omega)) rfl Z.g__law_draw Z.F__law_draw.kp (b__law_draw Z) rfl (da_cons (de_var 0) (da_cons de_int da_nil)))) (dg_name nd__law_kind)
    (dss_cons (ds_set nd__law_kind (de_add de_int (de_call (ok__law_draw Z) (hr.mono (by omega)) rfl Z.g__law_draw Z.F__law_draw.kp (b__law_draw Z) rfl (da_cons (de_var 0) (da_cons de_int da_nil)))))
    (dss_one (ds_if (dt_le (de_mul (de_var 3) (de_add (de_var 5) de_int)) (de_var 1))
    (dss_cons (ds_expr (de_append (de_var 2) (de_var 5)))
    (dss_one (ds_set nd__law_kind (de_mul (de_var 3) (de_add (de_var 5) de_int)))))
    dss_nil))))
    (dss_one (ds_ret (de_tup (da_cons (de_tuple (by rfl) Z.n_tuple (de_var 2)) (da_cons (de_add de_int (de_call (ok__law_draw Z) (hr.mono (by omega)) rfl Z.g__law_draw Z.F__law_draw.kp (b__law_draw Z) rfl (da_cons (de_var 0) (da_cons de_int da_nil)))) da_nil))))))))

theorem nd__law_under : (["one", "two", "a", "b"] : List Str).Nodup := by decide +kernel
theorem b__law_under (Z : Fcts K mg) : Binds K Z.d__law_under ["one", "two"] [] := Z.F__law_under.bindsN fun _ _ _ _ _ _ us hl => match us, hl with | [_, _], _ => rfl
theorem ok__law_under (Z : Fcts K mg) : FnOk P w K mg base CX0 1 Z.a__law_under Z.d__law_under ["one", "two"] (spD K 2 py__law_under) :=
  def_ok (N := ["one", "two", "a", "b"]) Z.F__law_under ⟨rfl, rfl, rfl, by decide +kernel, rfl, by decide +kernel, by decide +kernel⟩ rfl rfl fun cdv A outer s H Em hr =>
    (dss_one (ds_ret (de_eq hr.units (de_len (by rfl) Z.n_len (de_comp (c := (some (tAnd (tVal (eOp2 neD (eVar 2) (eC (.int (-1))))) (tVal (eOp2 neD (eVar 2) (eVar 3)))))) (own := [("a", 2), ("b", 3)]) rfl nd__law_under (di_zip (by rfl) Z.n_zip (de_var 0) (de_var 1)) (blkOk_by (own := [("a", 2), ("b", 3)]) (by kernel_rfl)) (fun _ _ _ _ _ => (dg_tup rfl (dgs_cons (dg_name nd__law_under) (dgs_cons (dg_name nd__law_under) dgs_nil)))) (fun _ _ _ _ _ => (pts_one (dt_w (dw_and (dt_ne hr.units (de_var 2) de_m1) (dw_and1 (dt_ne hr.units (de_var 2) (de_var 3))))))) (fun _ _ _ _ _ => de_int) (by decide +kernel))) de_int)))

theorem nd__law_fit : (["one", "two", "a", "b"] : List Str).Nodup := by decide +kernel
theorem b__law_fit (Z : Fcts K mg) : Binds K Z.d__law_fit ["one", "two"] [] := Z.F__law_fit.bindsN fun _ _ _ _ _ _ us hl => match us, hl with | [_, _], _ => rfl
theorem ok__law_fit (Z : Fcts K mg) : FnOk P w K mg base CX0 1 Z.a__law_fit Z.d__law_fit ["one", "two"] (spD K 2 py__law_fit) :=
  def_ok (N := ["one", "two", "a", "b"]) Z.F__law_fit ⟨rfl, rfl, rfl, by decide +kernel, rfl, by decide +kernel, by decide +kernel⟩ rfl rfl fun cdv A outer s H Em hr =>
    (dss_one (ds_ret (de_eq hr.units (de_len (by rfl) Z.n_len (de_comp (c := (some (tAnd (tVal (eOp2 neD (eVar 2) (eC (.int (-1))))) (tAnd (tVal (eOp2 neD (eVar 3) (eC (.int (-1))))) (tVal (eOp2 neD (eVar 2) (eVar 3))))))) (own := [("a", 2), ("b", 3)]) rfl nd__law_fit (di_zip (by rfl) Z.n_zip (de_var 0) (de_var 1)) (blkOk_by (own := [("a", 2), ("b", 3)]) (by kernel_rfl)) (fun _ _ _ _ _ => (dg_tup rfl (dgs_cons (dg_name nd__law_fit) (dgs_cons (dg_name nd__law_fit) dgs_nil)))) (fun _ _ _ _ _ => (pts_one (dt_w (dw_and (dt_ne hr.units (de_var 2) de_m1) (dw_and (dt_ne hr.units (de_var 3) de_m1) (dw_and1 (dt_ne hr.units (de_var 2) (de_var 3)))))))) (fun _ _ _ _ _ => de_int) (by decide +kernel))) de_int)))

theorem nd__law_with : (["state", "k", "value"] : List Str).Nodup := by decide +kernel
theorem b__law_with (Z : Fcts K mg) : Binds K Z.d__law_with ["state", "k", "value"] [] := Z.F__law_with.bindsN fun _ _ _ _ _ _ us hl => match us, hl with | [_, _, _], _ => rfl
theorem ok__law_with (Z : Fcts K mg) : FnOk P w K mg base CX0 1 Z.a__law_with Z.d__law_with ["state", "k", "value"] (spD K 3 py__law_with) :=
  def_ok (N := ["state", "k", "value"]) Z.F__law_with ⟨rfl, rfl, rfl, by decide +kernel, rfl, by decide +kernel, by decide +kernel⟩ rfl rfl fun cdv A outer s H Em hr =>
    (dss_one (ds_ret (de_add (de_add (de_slice (de_var 0) do_none (do_some (de_var 1))) (de_tup (da_cons (de_var 2) da_nil))) (de_slice (de_var 0) (do_some (de_add (de_var 1) de_int)) do_none))))

theorem nd__law_least : (["pairs", "found", "state", "answer", "other", "told"] : List Str).Nodup := by decide +kernel
theorem b__law_least (Z : Fcts K mg) : Binds K Z.d__law_least ["pairs"] [] := Z.F__law_least.bindsN fun _ _ _ _ _ _ us hl => match us, hl with | [_], _ => rfl
theorem ok__law_least (Z : Fcts K mg) : FnOk P w K mg base CX0 2 Z.a__law_least Z.d__law_least ["pairs"] (spD K 1 py__law_least) :=
  def_ok (N := ["pairs", "found", "state", "answer", "other", "told"]) Z.F__law_least ⟨rfl, rfl, rfl, by decide +kernel, rfl, by decide +kernel, by decide +kernel⟩ rfl rfl fun cdv A outer s H Em hr =>
    (dss_cons (ds_set nd__law_least (de_newL da_nil))
    (dss_cons (ds_for .never rfl (di_seq (de_setSort rfl hr.units (by rfl) Z.n_sorted (by rfl) Z.n_set (de_var 0))) (dg_tup rfl (dgs_cons (dg_name nd__law_least) (dgs_cons (dg_name nd__law_least) dgs_nil)))
    (dss_one (ds_if (dt_eq hr.units (de_len (by rfl) Z.n_len (de_comp (c := (some (tAnd (tVal (eOp2 neD (eVar 4) (eVar 2))) (tVal (eCall (py__law_under) [(eVar 4), (eVar 2)]))))) (own := [("other", 4), ("told", 5)]) rfl nd__law_least (di_seq (de_var 0)) (blkOk_by (own := [("other", 4), ("told", 5)]) (by kernel_rfl)) (fun _ _ _ _ _ => (dg_tup rfl (dgs_cons (dg_name nd__law_least) (dgs_cons (dg_name nd__law_least) dgs_nil)))) (fun _ _ _ _ _ => (pts_one (dt_w (dw_and (dt_ne hr.units (de_var 4) (de_var 2)) (dw_and1 (dt_val (de_call (ok__law_under Z) (hr.mono (by omega)) rfl Z.g__law_under Z.F__law_under.kp (b__law_under Z) rfl (da_cons (de_var 4) (da_cons (de_var 2) da_nil))))))))) (fun _ _ _ _ _ => de_int) (by decide +kernel))) de_int)
    (dss_one (ds_expr (de_append (de_var 1) (de_tup (da_cons (de_var 2) (da_cons (de_var 3) da_nil))))))
    dss_nil)))
    (dss_one (ds_ret (de_tuple (by rfl) Z.n_tuple (de_var 1))))))

theorem nd__law_state : (["pool", "sizes", "size"] : List Str).Nodup := by decide +kernel
theorem b__law_state (Z : Fcts K mg) : Binds K Z.d__law_state ["pool", "sizes"] [] := Z.F__law_state.bindsN fun _ _ _ _ _ _ us hl => match us, hl with | [_, _], _ => rfl
theorem ok__law_state (Z : Fcts K mg) : FnOk P w K mg base CX0 3 Z.a__law_state Z.d__law_state ["pool", "sizes"] (spD K 2 py__law_state) :=
  def_ok (N := ["pool", "sizes", "size"]) Z.F__law_state ⟨rfl, rfl, rfl, by decide +kernel, rfl, by decide +kernel, by decide +kernel⟩ rfl rfl fun cdv A outer s H Em hr =>
    (dss_one (ds_ret (de_tuple (by rfl) Z.n_tuple (de_comp (c := none) (own := [("size", 2)]) rfl nd__law_state (di_seq (de_var 1)) (blkOk_by (own := [("size", 2)]) (by kernel_rfl)) (fun _ _ _ _ _ => (dg_name nd__law_state)) (fun _ _ _ _ _ => pts_nil) (fun _ _ _ _ _ => (de_if (dt_eq hr.units (de_call (ok__law_draw Z) (hr.mono (by omega)) rfl Z.g__law_draw Z.F__law_draw.kp (b__law_draw Z) rfl (da_cons (de_var 0) (da_cons de_int da_nil))) de_int) (de_call (ok__law_draw Z) (hr.mono (by omega)) rfl Z.g__law_draw Z.F__law_draw.kp (b__law_draw Z) rfl (da_cons (de_var 0) (da_cons (de_var 2) da_nil))) de_m1)) (by decide +kernel)))))

theorem nd__law_loose : (["pool", "kind", "most", "pairs", "k", "state", "answer", "other", "told"] : List Str).Nodup := by decide +kernel
theorem b__law_loose (Z : Fcts K mg) : Binds K Z.d__law_loose ["pool", "kind", "most"] [] := Z.F__law_loose.bindsN fun _ _ _ _ _ _ us hl => match us, hl with | [_, _, _], _ => rfl
theorem ok__law_loose (Z : Fcts K mg) : FnOk P w K mg base CX0 4 Z.a__law_loose Z.d__law_loose ["pool", "kind", "most"] (spD K 3 py__law_loose) :=
  def_ok (N := ["pool", "kind", "most", "pairs", "k", "state", "answer", "other", "told"]) Z.F__law_loose ⟨rfl, rfl, rfl, by decide +kernel, rfl, by decide +kernel, by decide +kernel⟩ rfl rfl fun cdv A outer s H Em hr =>
    (dss_cons (ds_set nd__law_loose (de_newL da_nil))
    (dss_cons (ds_for .never rfl (di_range1 (by rfl) Z.n_range (de_call (ok__law_draw Z) (hr.mono (by omega)) rfl Z.g__law_draw Z.F__law_draw.kp (b__law_draw Z) rfl (da_cons (de_var 0) (da_cons (de_add (de_var 2) de_int) da_nil)))) (dg_name nd__law_loose)
    (dss_cons (ds_set nd__law_loose (de_call (ok__law_state Z) (hr.mono (by omega)) rfl Z.g__law_state Z.F__law_state.kp (b__law_state Z) rfl (da_cons (de_var 0) (da_cons (de_idx (de_var 1) de_int) da_nil))))
    (dss_cons (ds_set nd__law_loose (de_call (ok__law_draw Z) (hr.mono (by omega)) rfl Z.g__law_draw Z.F__law_draw.kp (b__law_draw Z) rfl (da_cons (de_var 0) (da_cons (de_idx (de_var 1) de_int) da_nil))))
    (dss_one (ds_if (dt_eq hr.units (de_len (by rfl) Z.n_len (de_comp (c := (some (tAnd (tVal (eOp2 neD (eVar 8) (eVar 6))) (tVal (eCall (py__law_fit) [(eVar 5), (eVar 7)]))))) (own := [("other", 7), ("told", 8)]) rfl nd__law_loose (di_seq (de_var 3)) (blkOk_by (own := [("other", 7), ("told", 8)]) (by kernel_rfl)) (fun _ _ _ _ _ => (dg_tup rfl (dgs_cons (dg_name nd__law_loose) (dgs_cons (dg_name nd__law_loose) dgs_nil)))) (fun _ _ _ _ _ => (pts_one (dt_w (dw_and (dt_ne hr.units (de_var 8) (de_var 6)) (dw_and1 (dt_val (de_call (ok__law_fit Z) (hr.mono (by omega)) rfl Z.g__law_fit Z.F__law_fit.kp (b__law_fit Z) rfl (da_cons (de_var 5) (da_cons (de_var 7) da_nil))))))))) (fun _ _ _ _ _ => de_int) (by decide +kernel))) de_int)
    (dss_one (ds_expr (de_append (de_var 3) (de_tup (da_cons (de_var 5) (da_cons (de_var 6) da_nil))))))
    dss_nil)))))
    (dss_one (ds_ghost (ds_ret (de_call (ok__law_least Z) (hr.mono (by omega)) rfl Z.g__law_least Z.F__law_least.kp (b__law_least Z) rfl (da_cons (de_var 3) da_nil)))))))

theorem nd__law_tree : (["pool", "kind", "left", "k", "rest", "j", "x"] : List Str).Nodup := by decide +kernel
theorem b__law_tree (Z : Fcts K mg) : Binds K Z.d__law_tree ["pool", "kind", "left"] [] := Z.F__law_tree.bindsN fun _ _ _ _ _ _ us hl => match us, hl with | [_, _, _], _ => rfl
theorem ok__law_tree (Z : Fcts K mg) : ∀ n, FnOk P w K mg base CX0 (3 + n) Z.a__law_tree Z.d__law_tree ["pool", "kind", "left"] (spD K 3 (py__law_tree n))
  | 0 => def_none
  | n + 1 => by
    have ih := ok__law_tree Z n
    show FnOk P w K mg base CX0 ((3 + n) + 1) Z.a__law_tree Z.d__law_tree ["pool", "kind", "left"] (spD K 3 (py__law_tree (n + 1)))
    refine def_ok (k := 3 + n) (N := ["pool", "kind", "left", "k", "rest", "j", "x"]) Z.F__law_tree ⟨rfl, rfl, rfl, by decide +kernel, rfl, by decide +kernel, by decide +kernel⟩ rfl rfl (fb := (sSeq (sIf (tOr (tVal (eOp2 eqD (eOp1 lenD (eVar 2)) (eC (.int 0)))) (tVal (eOp2 eqD (eCall (py__law_draw) [(eVar 0), (eC (.int 4))]) (eC (.int 0)))))
    (sRet (eOp2 subD (eCall (py__law_draw) [(eVar 0), (eOp2 addD (eOp2 idxD (eVar 1) (eC (.int 1))) (eC (.int 1)))]) (eC (.int 1))))
    sNop)
    (sSeq (sAsg (.v 3) (eCall (py__law_pick) [(eVar 0), (eVar 2)]))
    (sSeq (sAsg (.v 4) (eComp [5] (wSeq (eVar 2)) (.v 5) (some (tVal (eOp2 neD (eVar 5) (eVar 3)))) (eVar 5)))
    (sRet (eTup [(eVar 3), (eOp1 tupleD (eComp [6] (wRange1 (eOp2 idxD (eOp2 idxD (eVar 1) (eC (.int 0))) (eVar 3))) (.v 6) none (eCall (py__law_tree n) [(eVar 0), (eVar 1), (eVar 4)])))])))))) fun cdv A outer s H Em hr => ?_
    exact (dss_cons (ds_if (dt_w (dw_or (dt_eq hr.units (de_len (by rfl) Z.n_len (de_var 2)) de_int) (dw_or1 (dt_eq hr.units (de_call (ok__law_draw Z) (hr.mono (by omega)) rfl Z.g__law_draw Z.F__law_draw.kp (b__law_draw Z) rfl (da_cons (de_var 0) (da_cons de_int da_nil))) de_int))))
    (dss_one (ds_ret (de_sub (de_call (ok__law_draw Z) (hr.mono (by omega)) rfl Z.g__law_draw Z.F__law_draw.kp (b__law_draw Z) rfl (da_cons (de_var 0) (da_cons (de_add (de_idx (de_var 1) de_int) de_int) da_nil))) de_int)))
    dss_nil)
    (dss_cons (ds_set nd__law_tree (de_call (ok__law_pick Z) (hr.mono (by omega)) rfl Z.g__law_pick Z.F__law_pick.kp (b__law_pick Z) rfl (da_cons (de_var 0) (da_cons (de_var 2) da_nil))))
    (dss_cons (ds_set nd__law_tree (de_comp (c := (some (tVal (eOp2 neD (eVar 5) (eVar 3))))) (own := [("j", 5)]) rfl nd__law_tree (di_seq (de_var 2)) (blkOk_by (own := [("j", 5)]) (by kernel_rfl)) (fun _ _ _ _ _ => (dg_name nd__law_tree)) (fun _ _ _ _ _ => (pts_one (dt_ne hr.units (de_var 5) (de_var 3)))) (fun _ _ _ _ _ => (de_var 5)) (by decide +kernel)))
    (dss_one (ds_ret (de_tup (da_cons (de_var 3) (da_cons (de_tuple (by rfl) Z.n_tuple (de_comp (c := none) (own := [("x", 6)]) rfl nd__law_tree (di_range1 (by rfl) Z.n_range (de_idx (de_idx (de_var 1) de_int) (de_var 3))) (blkOk_by (own := [("x", 6)]) (by kernel_rfl)) (fun _ _ _ _ _ => (dg_name nd__law_tree)) (fun _ _ _ _ _ => pts_nil) (fun _ _ _ _ _ => (de_call ih (hr.mono (by omega)) rfl Z.g__law_tree Z.F__law_tree.kp (b__law_tree Z) rfl (da_cons (de_var 0) (da_cons (de_var 1) (da_cons (de_var 4) da_nil))))) (by decide +kernel))) da_nil))))))))

theorem nd__law_leaves : (["tree", "state", "found", "value", "branch"] : List Str).Nodup := by decide +kernel
theorem b__law_leaves (Z : Fcts K mg) : Binds K Z.d__law_leaves ["tree", "state"] [] := Z.F__law_leaves.bindsN fun _ _ _ _ _ _ us hl => match us, hl with | [_, _], _ => rfl
theorem ok__law_leaves (Z : Fcts K mg) : ∀ n, FnOk P w K mg base CX0 (1 + n) Z.a__law_leaves Z.d__law_leaves ["tree", "state"] (spD K 2 (py__law_leaves n))
  | 0 => def_none
  | n + 1 => by
    have ih := ok__law_leaves Z n
    show FnOk P w K mg base CX0 ((1 + n) + 1) Z.a__law_leaves Z.d__law_leaves ["tree", "state"] (spD K 2 (py__law_leaves (n + 1)))
    refine def_ok (k := 1 + n) (N := ["tree", "state", "found", "value", "branch"]) Z.F__law_leaves ⟨rfl, rfl, rfl, by decide +kernel, rfl, by decide +kernel, by decide +kernel⟩ rfl rfl (fb := (sSeq (sIf (tNot (tVal (eOp1 isTup (eVar 0))))
    (sRet (eLst [(eTup [(eVar 1), (eVar 0)])]))
    sNop)
    (sSeq (sAsg (.v 2) (eLst []))
    (sSeq (sFor (.t (.cons (.v 3) (.cons (.v 4) .nil))) (wEnum (eOp2 idxD (eVar 0) (eC (.int 1))))
    (sAsg (.v 2) (eOp2 addD (eVar 2) (eCall (py__law_leaves n) [(eVar 4), (eCall (py__law_with) [(eVar 1), (eOp2 idxD (eVar 0) (eC (.int 0))), (eVar 3)])]))))
    (sRet (eVar 2)))))) fun cdv A outer s H Em hr => ?_
    exact (dss_cons (ds_if (dt_not (dt_val (de_isi isi_tup (by rfl) Z.n_isinstance rfl Z.n_tuple (by decide +kernel) (de_var 0))))
    (dss_one (ds_ret (de_lst (da_cons (de_tup (da_cons (de_var 1) (da_cons (de_var 0) da_nil))) da_nil))))
    dss_nil)
    (dss_cons (ds_set nd__law_leaves (de_lst da_nil))
    (dss_cons (ds_for .never rfl (di_enum (by rfl) Z.n_enumerate (de_idx (de_var 0) de_int)) (dg_tup rfl (dgs_cons (dg_name nd__law_leaves) (dgs_cons (dg_name nd__law_leaves) dgs_nil)))
    (dss_one (ds_set nd__law_leaves (de_add (de_var 2) (de_call ih (hr.mono (by omega)) rfl Z.g__law_leaves Z.F__law_leaves.kp (b__law_leaves Z) rfl (da_cons (de_var 4) (da_cons (de_call (ok__law_with Z) (hr.mono (by omega)) rfl Z.g__law_with Z.F__law_with.kp (b__law_with Z) rfl (da_cons (de_var 1) (da_cons (de_idx (de_var 0) de_int) (da_cons (de_var 3) da_nil)))) da_nil)))))))
    (dss_one (ds_ret (de_var 2))))))

theorem nd__law_told : (["kind", "tree", "pair"] : List Str).Nodup := by decide +kernel
theorem b__law_told (Z : Fcts K mg) : Binds K Z.d__law_told ["kind", "tree"] [] := Z.F__law_told.bindsN fun _ _ _ _ _ _ us hl => match us, hl with | [_, _], _ => rfl
theorem ok__law_told (Z : Fcts K mg) : FnOk P w K mg base CX0 15 Z.a__law_told Z.d__law_told ["kind", "tree"] (spD K 2 py__law_told) :=
  def_ok (N := ["kind", "tree", "pair"]) Z.F__law_told ⟨rfl, rfl, rfl, by decide +kernel, rfl, by decide +kernel, by decide +kernel⟩ rfl rfl fun cdv A outer s H Em hr =>
    (dss_one (ds_ret (de_tuple (by rfl) Z.n_tuple (de_sorted hr.units (by rfl) Z.n_sorted (de_comp (c := (some (tVal (eOp2 neD (eOp2 idxD (eVar 2) (eC (.int 1))) (eC (.int (-1))))))) (own := [("pair", 2)]) rfl nd__law_told (di_seq (de_call (ok__law_leaves Z 12) (hr.mono (by omega)) rfl Z.g__law_leaves Z.F__law_leaves.kp (b__law_leaves Z) rfl (da_cons (de_var 1) (da_cons (de_mul (de_tup (da_cons de_m1 da_nil)) (de_len (by rfl) Z.n_len (de_idx (de_var 0) de_int))) da_nil)))) (blkOk_by (own := [("pair", 2)]) (by kernel_rfl)) (fun _ _ _ _ _ => (dg_name nd__law_told)) (fun _ _ _ _ _ => (pts_one (dt_ne hr.units (de_idx (de_var 2) de_int) de_m1))) (fun _ _ _ _ _ => (de_var 2)) (by decide +kernel))))))

theorem nd__law_knotted : (["pool", "kind", "sizes", "state", "holes", "k", "answer", "full", "pairs", "j", "other", "up", "more"] : List Str).Nodup := by decide +kernel
theorem b__law_knotted (Z : Fcts K mg) : Binds K Z.d__law_knotted ["pool", "kind"] [] := Z.F__law_knotted.bindsN fun _ _ _ _ _ _ us hl => match us, hl with | [_, _], _ => rfl
theorem ok__law_knotted (Z : Fcts K mg) : FnOk P w K mg base CX0 5 Z.a__law_knotted Z.d__law_knotted ["pool", "kind"] (spD K 2 py__law_knotted) :=
  def_ok (N := ["pool", "kind", "sizes", "state", "holes", "k", "answer", "full", "pairs", "j", "other", "up", "more"]) Z.F__law_knotted ⟨rfl, rfl, rfl, by decide +kernel, rfl, by decide +kernel, by decide +kernel⟩ rfl rfl fun cdv A outer s H Em hr =>
    (dss_cons (ds_set nd__law_knotted (de_idx (de_var 1) de_int))
    (dss_cons (ds_set nd__law_knotted (de_call (ok__law_state Z) (hr.mono (by omega)) rfl Z.g__law_state Z.F__law_state.kp (b__law_state Z) rfl (da_cons (de_var 0) (da_cons (de_var 2) da_nil))))
    (dss_cons (ds_setComp (c := (some (tVal (eOp2 eqD (eOp2 idxD (eVar 3) (eVar 5)) (eC (.int (-1))))))) (own := [("k", 5)]) rfl nd__law_knotted (by rfl) (by rfl) (sw_true rfl rfl rfl (by decide +kernel)) (di_range1 (by rfl) Z.n_range (de_len (by rfl) Z.n_len (de_var 2))) (blkOk_by (own := [("k", 5)]) (by kernel_rfl)) (fun _ _ _ _ _ => (dg_name nd__law_knotted)) (fun _ _ _ _ _ => (pts_one (dt_eq hr.units (de_idx (de_var 3) (de_var 5)) de_m1))) (fun _ _ _ _ _ => (de_var 5)) (by decide +kernel))
    (dss_cons (ds_if (dt_lt hr.units (de_len (by rfl) Z.n_len (de_var 4)) de_int)
    (dss_cons (ds_set nd__law_knotted (de_mul (de_tup (da_cons de_m1 da_nil)) (de_len (by rfl) Z.n_len (de_var 2))))
    (dss_one (ds_set nd__law_knotted (de_listRange rfl (by rfl) Z.n_list (by rfl) Z.n_range (de_len (by rfl) Z.n_len (de_var 2))))))
    dss_nil)
    (dss_cons (ds_if (dt_lt hr.units (de_len (by rfl) Z.n_len (de_var 4)) de_int)
    (dss_one (ds_ret (de_call (ok__law_loose Z) (hr.mono (by omega)) rfl Z.g__law_loose Z.F__law_loose.kp (b__law_loose Z) rfl (da_cons (de_var 0) (da_cons (de_var 1) (da_cons de_int da_nil))))))
    dss_nil)
    (dss_cons (ds_set nd__law_knotted (de_call (ok__law_draw Z) (hr.mono (by omega)) rfl Z.g__law_draw Z.F__law_draw.kp (b__law_draw Z) rfl (da_cons (de_var 0) (da_cons (de_idx (de_var 1) de_int) da_nil))))
    (dss_cons (ds_set nd__law_knotted (de_eq hr.units (de_call (ok__law_draw Z) (hr.mono (by omega)) rfl Z.g__law_draw Z.F__law_draw.kp (b__law_draw Z) rfl (da_cons (de_var 0) (da_cons de_int da_nil))) de_int))
    (dss_cons (ds_set nd__law_knotted (de_newL da_nil))
    (dss_cons (ds_for .never rfl (di_enum (by rfl) Z.n_enumerate (de_var 4)) (dg_tup rfl (dgs_cons (dg_name nd__law_knotted) (dgs_cons (dg_name nd__law_knotted) dgs_nil)))
    (dss_cons (ds_set nd__law_knotted (de_idx (de_var 4) (de_mod (de_toint (by rfl) Z.n_int (de_add (de_var 9) de_int)) (de_len (by rfl) Z.n_len (de_var 4)))))
    (dss_cons (ds_set nd__law_knotted (de_call (ok__law_with Z) (hr.mono (by omega)) rfl Z.g__law_with Z.F__law_with.kp (b__law_with Z) rfl (da_cons (de_var 3) (da_cons (de_var 10) (da_cons (de_call (ok__law_draw Z) (hr.mono (by omega)) rfl Z.g__law_draw Z.F__law_draw.kp (b__law_draw Z) rfl (da_cons (de_var 0) (da_cons (de_idx (de_var 2) (de_var 10)) da_nil))) da_nil)))))
    (dss_cons (ds_for .never rfl (di_seq (de_var 4)) (dg_name nd__law_knotted)
    (dss_one (ds_if (dt_w (dw_and (dt_ne hr.units (de_var 12) (de_var 5)) (dw_and (dt_ne hr.units (de_var 12) (de_var 10)) (dw_and1 (dt_w (dw_or (dt_val (de_var 7)) (dw_or1 (dt_eq hr.units (de_call (ok__law_draw Z) (hr.mono (by omega)) rfl Z.g__law_draw Z.F__law_draw.kp (b__law_draw Z) rfl (da_cons (de_var 0) (da_cons de_int da_nil))) de_int))))))))
    (dss_one (ds_set nd__law_knotted (de_call (ok__law_with Z) (hr.mono (by omega)) rfl Z.g__law_with Z.F__law_with.kp (b__law_with Z) rfl (da_cons (de_var 11) (da_cons (de_var 12) (da_cons (de_call (ok__law_draw Z) (hr.mono (by omega)) rfl Z.g__law_draw Z.F__law_draw.kp (b__law_draw Z) rfl (da_cons (de_var 0) (da_cons (de_idx (de_var 2) (de_var 12)) da_nil))) da_nil))))))
    dss_nil)))
    (dss_one (ds_expr (de_append (de_var 8) (de_tup (da_cons (de_var 11) (da_cons (de_var 6) da_nil))))))))))
    (dss_one (ds_ghost (ds_ret (de_call (ok__law_least Z) (hr.mono (by omega)) rfl Z.g__law_least Z.F__law_least.kp (b__law_least Z) rfl (da_cons (de_var 8) da_nil))))))))))))))

theorem nd__law_function : (["pool", "kind", "turn"] : List Str).Nodup := by decide +kernel
theorem b__law_function (Z : Fcts K mg) : Binds K Z.d__law_function ["pool", "kind"] [] := Z.F__law_function.bindsN fun _ _ _ _ _ _ us hl => match us, hl with | [_, _], _ => rfl
theorem ok__law_function (Z : Fcts K mg) : FnOk P w K mg base CX0 17 Z.a__law_function Z.d__law_function ["pool", "kind"] (spD K 2 py__law_function) :=
  def_ok (N := ["pool", "kind", "turn"]) Z.F__law_function ⟨rfl, rfl, rfl, by decide +kernel, rfl, by decide +kernel, by decide +kernel⟩ rfl rfl fun cdv A outer s H Em hr =>
    (dss_cons (ds_set nd__law_function (de_call (ok__law_draw Z) (hr.mono (by omega)) rfl Z.g__law_draw Z.F__law_draw.kp (b__law_draw Z) rfl (da_cons (de_var 0) (da_cons de_int da_nil))))
    (dss_cons (ds_if (dt_eq hr.units (de_var 2) de_int)
    (dss_one (ds_ret (de_call (ok__law_told Z) (hr.mono (by omega)) rfl Z.g__law_told Z.F__law_told.kp (b__law_told Z) rfl (da_cons (de_var 1) (da_cons (de_call (ok__law_tree Z 12) (hr.mono (by omega)) rfl Z.g__law_tree Z.F__law_tree.kp (b__law_tree Z) rfl (da_cons (de_var 0) (da_cons (de_var 1) (da_cons (de_listRange rfl (by rfl) Z.n_list (by rfl) Z.n_range (de_len (by rfl) Z.n_len (de_idx (de_var 1) de_int))) da_nil)))) da_nil)))))
    dss_nil)
    (dss_cons (ds_if (dt_eq hr.units (de_var 2) de_int)
    (dss_one (ds_ret (de_call (ok__law_knotted Z) (hr.mono (by omega)) rfl Z.g__law_knotted Z.F__law_knotted.kp (b__law_knotted Z) rfl (da_cons (de_var 0) (da_cons (de_var 1) da_nil)))))
    dss_nil)
    (dss_one (ds_ret (de_call (ok__law_loose Z) (hr.mono (by omega)) rfl Z.g__law_loose Z.F__law_loose.kp (b__law_loose Z) rfl (da_cons (de_var 0) (da_cons (de_var 1) (da_cons (de_idx (de_tup (da_cons de_int (da_cons de_int da_nil))) (de_sub (de_var 2) de_int)) da_nil)))))))))

theorem nd_law : (["script", "pool", "kind", "sizes", "base", "size", "answer", "pairs", "k", "x", "function", "j", "pair", "other", "many", "near", "spot", "told", "rest"] : List Str).Nodup := by decide +kernel
theorem b_law (Z : Fcts K mg) : Binds K Z.d_law ["script"] [] := Z.F_law.bindsN fun _ _ _ _ _ _ us hl => match us, hl with | [_], _ => rfl
theorem ok_law (Z : Fcts K mg) : FnOk P w K mg base CX0 35 Z.a_law Z.d_law ["script"] (spD K 1 py_law) :=
  def_ok (N := ["script", "pool", "kind", "sizes", "base", "size", "answer", "pairs", "k", "x", "function", "j", "pair", "other", "many", "near", "spot", "told", "rest"]) Z.F_law ⟨rfl, rfl, rfl, by decide +kernel, rfl, by decide +kernel, by decide +kernel⟩ rfl rfl fun cdv A outer s H Em hr =>
    (dss_cons (ds_set nd_law (de_call (ok__law_pool Z) (hr.mono (by omega)) rfl Z.g__law_pool Z.F__law_pool.kp (b__law_pool Z) rfl (da_cons (de_var 0) da_nil)))
    (dss_cons (ds_set nd_law (de_call (ok__law_kind Z) (hr.mono (by omega)) rfl Z.g__law_kind Z.F__law_kind.kp (b__law_kind Z) rfl (da_cons (de_var 1) (da_cons de_int da_nil))))
    (dss_cons (ds_set nd_law (de_idx (de_var 2) de_int))
    (dss_cons (ds_set nd_law (de_tuple (by rfl) Z.n_tuple (de_comp (c := none) (own := [("size", 5)]) rfl nd_law (di_seq (de_var 3)) (blkOk_by (own := [("size", 5)]) (by kernel_rfl)) (fun _ _ _ _ _ => (dg_name nd_law)) (fun _ _ _ _ _ => pts_nil) (fun _ _ _ _ _ => (de_call (ok__law_draw Z) (hr.mono (by omega)) rfl Z.g__law_draw Z.F__law_draw.kp (b__law_draw Z) rfl (da_cons (de_var 1) (da_cons (de_var 5) da_nil)))) (by decide +kernel))))
    (dss_cons (ds_set nd_law (de_call (ok__law_draw Z) (hr.mono (by omega)) rfl Z.g__law_draw Z.F__law_draw.kp (b__law_draw Z) rfl (da_cons (de_var 1) (da_cons (de_idx (de_var 2) de_int) da_nil))))
    (dss_cons (ds_set nd_law (de_newL da_nil))
    (dss_cons (ds_for .never rfl (di_range1 (by rfl) Z.n_range (de_call (ok__law_draw Z) (hr.mono (by omega)) rfl Z.g__law_draw Z.F__law_draw.kp (b__law_draw Z) rfl (da_cons (de_var 1) (da_cons de_int da_nil)))) (dg_name nd_law)
    (dss_one (ds_expr (de_append (de_var 7) (de_tup (da_cons (de_tuple (by rfl) Z.n_tuple (de_comp (c := none) (own := [("x", 9)]) rfl nd_law (di_seq (de_var 4)) (blkOk_by (own := [("x", 9)]) (by kernel_rfl)) (fun _ _ _ _ _ => (dg_name nd_law)) (fun _ _ _ _ _ => pts_nil) (fun _ _ _ _ _ => (de_if (dt_eq hr.units (de_call (ok__law_draw Z) (hr.mono (by omega)) rfl Z.g__law_draw Z.F__law_draw.kp (b__law_draw Z) rfl (da_cons (de_var 1) (da_cons de_int da_nil))) de_int) (de_var 9) de_m1)) (by decide +kernel))) (da_cons (de_var 6) da_nil)))))))
    (dss_cons (ds_ghost (ds_set nd_law (de_call (ok__law_least Z) (hr.mono (by omega)) rfl Z.g__law_least Z.F__law_least.kp (b__law_least Z) rfl (da_cons (de_var 7) da_nil))))
    (dss_cons (ds_if (dt_w (dw_or (dt_not (dt_val (de_call (ok_is_function Z) (hr.mono (by omega)) rfl Z.g_is_function Z.F_is_function.kp (b_is_function Z) rfl (da_cons (de_var 2) (da_cons (de_var 10) da_nil))))) (dw_or1 (dt_not (dt_val (de_call (ok__law_same Z 8) (hr.mono (by omega)) rfl Z.g__law_same Z.F__law_same.kp (b__law_same Z) rfl (da_cons (de_call (ok_degree Z) (hr.mono (by omega)) rfl Z.g_degree Z.F_degree.kp (b_degree Z) rfl (da_cons (de_var 2) (da_cons (de_var 10) da_nil))) (da_cons (de_len (by rfl) Z.n_len (de_var 10)) da_nil))))))))
    (dss_one (ds_ret de_bl))
    dss_nil)
    (dss_cons (ds_for .never rfl (di_range1 (by rfl) Z.n_range (de_len (by rfl) Z.n_len (de_var 10))) (dg_name nd_law)
    (dss_one (ds_for .never rfl (di_range1 (by rfl) Z.n_range (de_var 8)) (dg_name nd_law)
    (dss_one (ds_if (dt_w (dw_or (dt_not (dt_val (de_call (ok_are_fitting Z) (hr.mono (by omega)) rfl Z.g_are_fitting Z.F_are_fitting.kp (b_are_fitting Z) rfl (da_cons (de_idx (de_idx (de_var 10) (de_var 11)) de_int) (da_cons (de_idx (de_idx (de_var 10) (de_var 8)) de_int) da_nil))))) (dw_or1 (dt_val (de_call (ok_is_sequential Z) (hr.mono (by omega)) rfl Z.g_is_sequential Z.F_is_sequential.kp (b_is_sequential Z) rfl (da_cons (de_var 2) (da_cons (de_tup (da_cons (de_idx (de_var 10) (de_var 11)) (da_cons (de_idx (de_var 10) (de_var 8)) da_nil))) da_nil)))))))
    (dss_one (ds_ret de_bl))
    dss_nil)))))
    (dss_cons (ds_if (dt_w (dw_or (dt_ne hr.units (de_call (ok_is_stable Z) (hr.mono (by omega)) rfl Z.g_is_stable Z.F_is_stable.kp (b_is_stable Z) rfl (da_cons (de_var 10) da_nil)) (de_le (de_len (by rfl) Z.n_len (de_var 10)) de_int)) (dw_or1 (dt_not (dt_val (de_call (ok_are_parts Z) (hr.mono (by omega)) rfl Z.g_are_parts Z.F_are_parts.kp (b_are_parts Z) rfl (da_cons (de_var 2) (da_cons (de_var 10) (da_cons (de_tuple (by rfl) Z.n_tuple (de_comp (c := none) (own := [("pair", 12)]) rfl nd_law (di_seq (de_var 10)) (blkOk_by (own := [("pair", 12)]) (by kernel_rfl)) (fun _ _ _ _ _ => (dg_name nd_law)) (fun _ _ _ _ _ => pts_nil) (fun _ _ _ _ _ => (de_tup (da_cons (de_var 12) da_nil))) (by decide +kernel))) da_nil)))))))))
    (dss_one (ds_ret de_bl))
    dss_nil)
    (dss_cons (ds_set nd_law (de_slice (de_call (ok__law_function Z) (hr.mono (by omega)) rfl Z.g__law_function Z.F__law_function.kp (b__law_function Z) rfl (da_cons (de_var 1) (da_cons (de_var 2) da_nil))) do_none (do_some de_int)))
    (dss_cons (ds_set nd_law (de_call (ok_degree Z) (hr.mono (by omega)) rfl Z.g_degree Z.F_degree.kp (b_degree Z) rfl (da_cons (de_var 2) (da_cons (de_var 13) da_nil))))
    (dss_cons (ds_for .never rfl (di_seq (de_slice (de_var 13) do_none (do_some de_int))) (dg_name nd_law)
    (dss_cons (ds_setComp (c := (some (tVal (eCall (py_are_fitting) [(eVar 16), (eOp2 idxD (eVar 12) (eC (.int 0)))])))) (own := [("spot", 16), ("told", 17)]) rfl nd_law (by rfl) (by rfl) (sw_true rfl rfl rfl (by decide +kernel)) (di_seq (de_var 13)) (blkOk_by (own := [("spot", 16), ("told", 17)]) (by kernel_rfl)) (fun _ _ _ _ _ => (dg_tup rfl (dgs_cons (dg_name nd_law) (dgs_cons (dg_name nd_law) dgs_nil)))) (fun _ _ _ _ _ => (pts_one (dt_val (de_call (ok_are_fitting Z) (hr.mono (by omega)) rfl Z.g_are_fitting Z.F_are_fitting.kp (b_are_fitting Z) rfl (da_cons (de_var 16) (da_cons (de_idx (de_var 12) de_int) da_nil)))))) (fun _ _ _ _ _ => (de_var 16)) (by decide +kernel))
    (dss_cons (ds_for .never rfl (di_seq (de_var 15)) (dg_name nd_law)
    (dss_one (ds_if (dt_w (dw_or (dt_w (dw_and (dt_eq hr.units (de_len (by rfl) Z.n_len (de_comp (c := (some (tVal (eCall (py_are_fitting) [(eVar 9), (eVar 16)])))) (own := [("x", 9)]) rfl nd_law (di_seq (de_var 15)) (blkOk_by (own := [("x", 9)]) (by kernel_rfl)) (fun _ _ _ _ _ => (dg_name nd_law)) (fun _ _ _ _ _ => (pts_one (dt_val (de_call (ok_are_fitting Z) (hr.mono (by omega)) rfl Z.g_are_fitting Z.F_are_fitting.kp (b_are_fitting Z) rfl (da_cons (de_var 9) (da_cons (de_var 16) da_nil)))))) (fun _ _ _ _ _ => (de_var 9)) (by decide +kernel))) (de_len (by rfl) Z.n_len (de_var 15))) (dw_and1 (dt_lt hr.units (de_var 14) de_int)))) (dw_or1 (dt_w (dw_and (dt_ne hr.units (de_var 16) (de_idx (de_var 12) de_int)) (dw_and1 (dt_lt hr.units (de_var 14) de_int)))))))
    (dss_one (ds_ret de_bl))
    dss_nil)))
    (dss_cons (ds_set nd_law (de_call (ok_without_point Z) (hr.mono (by omega)) rfl Z.g_without_point Z.F_without_point.kp (b_without_point Z) rfl (da_cons (de_var 13) (da_cons (de_idx (de_var 12) de_int) da_nil))))
    (dss_one (ds_if (dt_nin hr.units (de_call (ok_degree Z) (hr.mono (by omega)) rfl Z.g_degree Z.F_degree.kp (b_degree Z) rfl (da_cons (de_var 2) (da_cons (de_var 18) da_nil))) (de_tup (da_cons (de_var 14) (da_cons (de_sub (de_var 14) de_int) da_nil))))
    (dss_one (ds_ret de_bl))
    dss_nil))))))
    (dss_one (ds_ret (de_or (de_eq hr.units (de_len (by rfl) Z.n_len (de_var 13)) de_int) (de_one (de_le (de_var 14) (de_len (by rfl) Z.n_len (de_var 13)))))))))))))))))))))
end
def d_is_whole : He.DefD := ⟨("is_whole", none), "is_whole", "is_whole", defArgs s_is_whole, defBody s_is_whole, defScope s_is_whole, [], []⟩
def d_is_between : He.DefD := ⟨("is_between", none), "is_between", "is_between", defArgs s_is_between, defBody s_is_between, defScope s_is_between, [], []⟩
def d_is_state : He.DefD := ⟨("is_state", none), "is_state", "is_state", defArgs s_is_state, defBody s_is_state, defScope s_is_state, [], []⟩
def d_nothing_known : He.DefD := ⟨("nothing_known", none), "nothing_known", "nothing_known", defArgs s_nothing_known, defBody s_nothing_known, defScope s_nothing_known, [], []⟩
def d_gaps : He.DefD := ⟨("gaps", none), "gaps", "gaps", defArgs s_gaps, defBody s_gaps, defScope s_gaps, [], []⟩
def d_is_below : He.DefD := ⟨("is_below", none), "is_below", "is_below", defArgs s_is_below, defBody s_is_below, defScope s_is_below, [], []⟩
def d_are_fitting : He.DefD := ⟨("are_fitting", none), "are_fitting", "are_fitting", defArgs s_are_fitting, defBody s_are_fitting, defScope s_are_fitting, [], []⟩
def d_joined : He.DefD := ⟨("joined", none), "joined", "joined", defArgs s_joined, defBody s_joined, defScope s_joined, [], []⟩
def d_with_value : He.DefD := ⟨("with_value", none), "with_value", "with_value", defArgs s_with_value, defBody s_with_value, defScope s_with_value, [], []⟩
def d_is_point : He.DefD := ⟨("is_point", none), "is_point", "is_point", defArgs s_is_point, defBody s_is_point, defScope s_is_point, [], []⟩
def d_is_function : He.DefD := ⟨("is_function", none), "is_function", "is_function", defArgs s_is_function, defBody s_is_function, defScope s_is_function, [], []⟩
def d_answer_at : He.DefD := ⟨("answer_at", none), "answer_at", "answer_at", defArgs s_answer_at, defBody s_answer_at, defScope s_answer_at, [], []⟩
def d_least_points : He.DefD := ⟨("least_points", none), "least_points", "least_points", defArgs s_least_points, defBody s_least_points, defScope s_least_points, [], []⟩
def d_is_less : He.DefD := ⟨("is_less", none), "is_less", "is_less", defArgs s_is_less, defBody s_is_less, defScope s_is_less, [], []⟩
def d_without_point : He.DefD := ⟨("without_point", none), "without_point", "without_point", defArgs s_without_point, defBody s_without_point, defScope s_without_point, [], []⟩
def d_is_open : He.DefD := ⟨("is_open", none), "is_open", "is_open", defArgs s_is_open, defBody s_is_open, defScope s_is_open, [], []⟩
def d_needed : He.DefD := ⟨("needed", none), "needed", "needed", defArgs s_needed, defBody s_needed, defScope s_needed, [], []⟩
def d_knot_at : He.DefD := ⟨("knot_at", none), "knot_at", "knot_at", defArgs s_knot_at, defBody s_knot_at, defScope s_knot_at, [], []⟩
def d_grown : He.DefD := ⟨("grown", none), "grown", "grown", defArgs s_grown, defBody s_grown, defScope s_grown, [], []⟩
def d_turn_paper : He.DefD := ⟨("turn_paper", none), "turn_paper", "turn_paper", defArgs s_turn_paper, defBody s_turn_paper, defScope s_turn_paper, [], []⟩
def d_is_sequential : He.DefD := ⟨("is_sequential", none), "is_sequential", "is_sequential", defArgs s_is_sequential, defBody s_is_sequential, defScope s_is_sequential, [], []⟩
def d_joined_all : He.DefD := ⟨("joined_all", none), "joined_all", "joined_all", defArgs s_joined_all, defBody s_joined_all, defScope s_joined_all, [], []⟩
def d_are_parts : He.DefD := ⟨("are_parts", none), "are_parts", "are_parts", defArgs s_are_parts, defBody s_are_parts, defScope s_are_parts, [], []⟩
def d_shared_out : He.DefD := ⟨("shared_out", none), "shared_out", "shared_out", defArgs s_shared_out, defBody s_shared_out, defScope s_shared_out, [], []⟩
def d_least_parts : He.DefD := ⟨("least_parts", none), "least_parts", "least_parts", defArgs s_least_parts, defBody s_least_parts, defScope s_least_parts, [], []⟩
def d_degree : He.DefD := ⟨("degree", none), "degree", "degree", defArgs s_degree, defBody s_degree, defScope s_degree, [], []⟩
def d_unstable_pair : He.DefD := ⟨("unstable_pair", none), "unstable_pair", "unstable_pair", defArgs s_unstable_pair, defBody s_unstable_pair, defScope s_unstable_pair, [], []⟩
def d_is_stable : He.DefD := ⟨("is_stable", none), "is_stable", "is_stable", defArgs s_is_stable, defBody s_is_stable, defScope s_is_stable, [], []⟩
def d__law_same : He.DefD := ⟨("_law_same", none), "_law_same", "_law_same", defArgs s__law_same, defBody s__law_same, defScope s__law_same, [], []⟩
def d__law_pool : He.DefD := ⟨("_law_pool", none), "_law_pool", "_law_pool", defArgs s__law_pool, defBody s__law_pool, defScope s__law_pool, [], []⟩
def d__law_spread : He.DefD := ⟨("_law_spread", none), "_law_spread", "_law_spread", defArgs s__law_spread, defBody s__law_spread, defScope s__law_spread, [], []⟩
def d__law_draw : He.DefD := ⟨("_law_draw", none), "_law_draw", "_law_draw", defArgs s__law_draw, defBody s__law_draw, defScope s__law_draw, [], []⟩
def d__law_pick : He.DefD := ⟨("_law_pick", none), "_law_pick", "_law_pick", defArgs s__law_pick, defBody s__law_pick, defScope s__law_pick, [], []⟩
def d__law_kind : He.DefD := ⟨("_law_kind", none), "_law_kind", "_law_kind", defArgs s__law_kind, defBody s__law_kind, defScope s__law_kind, [], []⟩
def d__law_under : He.DefD := ⟨("_law_under", none), "_law_under", "_law_under", defArgs s__law_under, defBody s__law_under, defScope s__law_under, [], []⟩
def d__law_fit : He.DefD := ⟨("_law_fit", none), "_law_fit", "_law_fit", defArgs s__law_fit, defBody s__law_fit, defScope s__law_fit, [], []⟩
def d__law_with : He.DefD := ⟨("_law_with", none), "_law_with", "_law_with", defArgs s__law_with, defBody s__law_with, defScope s__law_with, [], []⟩
def d__law_least : He.DefD := ⟨("_law_least", none), "_law_least", "_law_least", defArgs s__law_least, defBody s__law_least, defScope s__law_least, [], []⟩
def d__law_state : He.DefD := ⟨("_law_state", none), "_law_state", "_law_state", defArgs s__law_state, defBody s__law_state, defScope s__law_state, [], []⟩
def d__law_loose : He.DefD := ⟨("_law_loose", none), "_law_loose", "_law_loose", defArgs s__law_loose, defBody s__law_loose, defScope s__law_loose, [], []⟩
def d__law_tree : He.DefD := ⟨("_law_tree", none), "_law_tree", "_law_tree", defArgs s__law_tree, defBody s__law_tree, defScope s__law_tree, [], []⟩
def d__law_leaves : He.DefD := ⟨("_law_leaves", none), "_law_leaves", "_law_leaves", defArgs s__law_leaves, defBody s__law_leaves, defScope s__law_leaves, [], []⟩
def d__law_told : He.DefD := ⟨("_law_told", none), "_law_told", "_law_told", defArgs s__law_told, defBody s__law_told, defScope s__law_told, [], []⟩
def d__law_knotted : He.DefD := ⟨("_law_knotted", none), "_law_knotted", "_law_knotted", defArgs s__law_knotted, defBody s__law_knotted, defScope s__law_knotted, [], []⟩
def d__law_function : He.DefD := ⟨("_law_function", none), "_law_function", "_law_function", defArgs s__law_function, defBody s__law_function, defScope s__law_function, [], []⟩
def d_law : He.DefD := ⟨("law", none), "law", "law", defArgs s_law, defBody s_law, defScope s_law, [], []⟩
def fns : List He.DefD := [d_is_whole, d_is_between, d_is_state, d_nothing_known, d_gaps, d_is_below, d_are_fitting, d_joined, d_with_value, d_is_point, d_is_function, d_answer_at, d_least_points, d_is_less, d_without_point, d_is_open, d_needed, d_knot_at, d_grown, d_turn_paper, d_is_sequential, d_joined_all, d_are_parts, d_shared_out, d_least_parts, d_degree, d_unstable_pair, d_is_stable, d__law_same, d__law_pool, d__law_spread, d__law_draw, d__law_pick, d__law_kind, d__law_under, d__law_fit, d__law_with, d__law_least, d__law_state, d__law_loose, d__law_tree, d__law_leaves, d__law_told, d__law_knotted, d__law_function, d_law]
def fas : List He.Fa := [.glo "is_whole", .glo "is_between", .glo "is_state", .glo "nothing_known", .glo "gaps", .glo "is_below", .glo "are_fitting", .glo "joined", .glo "with_value", .glo "is_point", .glo "is_function", .glo "answer_at", .glo "least_points", .glo "is_less", .glo "without_point", .glo "is_open", .glo "needed", .glo "knot_at", .glo "grown", .glo "turn_paper", .glo "is_sequential", .glo "joined_all", .glo "are_parts", .glo "shared_out", .glo "least_parts", .glo "degree", .glo "unstable_pair", .glo "is_stable", .glo "_law_same", .glo "_law_pool", .glo "_law_spread", .glo "_law_draw", .glo "_law_pick", .glo "_law_kind", .glo "_law_under", .glo "_law_fit", .glo "_law_with", .glo "_law_least", .glo "_law_state", .glo "_law_loose", .glo "_law_tree", .glo "_law_leaves", .glo "_law_told", .glo "_law_knotted", .glo "_law_function", .glo "law", .free "all", .free "any", .free "bool", .free "enumerate", .free "int", .free "isinstance", .free "len", .free "list", .free "max", .free "min", .free "range", .free "set", .free "sorted", .free "str", .free "tuple", .free "zip", .int "MOST_POINTS" 7]
abbrev R : PySem.W.OpenRow := PySem.W.OpenLaw.row PySem.Challenge.rw_asksinturn_k40_whole_points_that_all_fit
abbrev hk : PySem.W.Hook := He.hookD 4 fas fns
def ob (s : PySem.W.SharedT) : He.AlD := He.obsDG 4 fas fns (HandSHeadRun.getT s)
theorem ob_eq (s : PySem.W.SharedT) : ob s = hk.obs s.abs := He.obsDG_eq (HandSHeadRun.getT_eq s)
def loose0 : List PySem.Str := ["AskError", "Unfit", "TooGreat", "is_whole", "is_between", "is_state", "nothing_known", "gaps", "is_below", "are_fitting", "joined", "with_value", "is_point", "is_function", "answer_at", "least_points", "is_less", "without_point", "is_open", "needed", "knot_at", "grown", "turn_paper", "is_sequential", "MOST_POINTS"]
def loose1 : List PySem.Str := ["joined_all", "are_parts", "shared_out", "least_parts", "degree", "unstable_pair", "is_stable", "_law_same", "_law_pool", "_law_spread", "_law_draw", "_law_pick", "_law_kind", "_law_under", "_law_fit", "_law_with", "_law_least", "_law_state", "_law_loose", "_law_tree", "_law_leaves", "_law_told", "_law_knotted", "_law_function"]
def loose : List PySem.Str := loose0 ++ loose1
theorem run (w : World) : HandSHeadRun.RunEq R (PySem.W.view R.prog [56]) hk ob 6000 loose w := by
  intro os
  kernel_rfl
theorem facts {w : World} {K : PySem.W.Frag} {h : Heap} {mg : Str → Option Value} {f : Addr} (X : K.In h) (G : h.Ns mainGlobals mg) (hfa : mg ("law" : Str) = some (.ref f)) (c : He.SaysD fas fns K) :
    ∃ fd : FuncData, (∀ (s : Shared) (v : Value), BindsTo s fd ⟨[v], []⟩ [("script", v)]) ∧ ∀ base : Heap, (noList K).In base → base.Ns mainGlobals mg → FnOk (PySem.Challenge.rw_asksinturn_k40_whole_points_that_all_fit).prog w (noList K) mg base CX0 35 f fd ["script"] (spD (noList K) 1 py_law) := by
  obtain ⟨e_is_whole, F_is_whole⟩ := c.def_ 0 (d := d_is_whole) rfl
  obtain ⟨e_is_between, F_is_between⟩ := c.def_ 1 (d := d_is_between) rfl
  obtain ⟨e_is_state, F_is_state⟩ := c.def_ 2 (d := d_is_state) rfl
  obtain ⟨e_nothing_known, F_nothing_known⟩ := c.def_ 3 (d := d_nothing_known) rfl
  obtain ⟨e_gaps, F_gaps⟩ := c.def_ 4 (d := d_gaps) rfl
  obtain ⟨e_is_below, F_is_below⟩ := c.def_ 5 (d := d_is_below) rfl
  obtain ⟨e_are_fitting, F_are_fitting⟩ := c.def_ 6 (d := d_are_fitting) rfl
  obtain ⟨e_joined, F_joined⟩ := c.def_ 7 (d := d_joined) rfl
  obtain ⟨e_with_value, F_with_value⟩ := c.def_ 8 (d := d_with_value) rfl
  obtain ⟨e_is_point, F_is_point⟩ := c.def_ 9 (d := d_is_point) rfl
  obtain ⟨e_is_function, F_is_function⟩ := c.def_ 10 (d := d_is_function) rfl
  obtain ⟨e_answer_at, F_answer_at⟩ := c.def_ 11 (d := d_answer_at) rfl
  obtain ⟨e_least_points, F_least_points⟩ := c.def_ 12 (d := d_least_points) rfl
  obtain ⟨e_is_less, F_is_less⟩ := c.def_ 13 (d := d_is_less) rfl
  obtain ⟨e_without_point, F_without_point⟩ := c.def_ 14 (d := d_without_point) rfl
  obtain ⟨e_is_open, F_is_open⟩ := c.def_ 15 (d := d_is_open) rfl
  obtain ⟨e_needed, F_needed⟩ := c.def_ 16 (d := d_needed) rfl
  obtain ⟨e_knot_at, F_knot_at⟩ := c.def_ 17 (d := d_knot_at) rfl
  obtain ⟨e_grown, F_grown⟩ := c.def_ 18 (d := d_grown) rfl
  obtain ⟨e_turn_paper, F_turn_paper⟩ := c.def_ 19 (d := d_turn_paper) rfl
  obtain ⟨e_is_sequential, F_is_sequential⟩ := c.def_ 20 (d := d_is_sequential) rfl
  obtain ⟨e_joined_all, F_joined_all⟩ := c.def_ 21 (d := d_joined_all) rfl
  obtain ⟨e_are_parts, F_are_parts⟩ := c.def_ 22 (d := d_are_parts) rfl
  obtain ⟨e_shared_out, F_shared_out⟩ := c.def_ 23 (d := d_shared_out) rfl
  obtain ⟨e_least_parts, F_least_parts⟩ := c.def_ 24 (d := d_least_parts) rfl
  obtain ⟨e_degree, F_degree⟩ := c.def_ 25 (d := d_degree) rfl
  obtain ⟨e_unstable_pair, F_unstable_pair⟩ := c.def_ 26 (d := d_unstable_pair) rfl
  obtain ⟨e_is_stable, F_is_stable⟩ := c.def_ 27 (d := d_is_stable) rfl
  obtain ⟨e__law_same, F__law_same⟩ := c.def_ 28 (d := d__law_same) rfl
  obtain ⟨e__law_pool, F__law_pool⟩ := c.def_ 29 (d := d__law_pool) rfl
  obtain ⟨e__law_spread, F__law_spread⟩ := c.def_ 30 (d := d__law_spread) rfl
  obtain ⟨e__law_draw, F__law_draw⟩ := c.def_ 31 (d := d__law_draw) rfl
  obtain ⟨e__law_pick, F__law_pick⟩ := c.def_ 32 (d := d__law_pick) rfl
  obtain ⟨e__law_kind, F__law_kind⟩ := c.def_ 33 (d := d__law_kind) rfl
  obtain ⟨e__law_under, F__law_under⟩ := c.def_ 34 (d := d__law_under) rfl
  obtain ⟨e__law_fit, F__law_fit⟩ := c.def_ 35 (d := d__law_fit) rfl
  obtain ⟨e__law_with, F__law_with⟩ := c.def_ 36 (d := d__law_with) rfl
  obtain ⟨e__law_least, F__law_least⟩ := c.def_ 37 (d := d__law_least) rfl
  obtain ⟨e__law_state, F__law_state⟩ := c.def_ 38 (d := d__law_state) rfl
  obtain ⟨e__law_loose, F__law_loose⟩ := c.def_ 39 (d := d__law_loose) rfl
  obtain ⟨e__law_tree, F__law_tree⟩ := c.def_ 40 (d := d__law_tree) rfl
  obtain ⟨e__law_leaves, F__law_leaves⟩ := c.def_ 41 (d := d__law_leaves) rfl
  obtain ⟨e__law_told, F__law_told⟩ := c.def_ 42 (d := d__law_told) rfl
  obtain ⟨e__law_knotted, F__law_knotted⟩ := c.def_ 43 (d := d__law_knotted) rfl
  obtain ⟨e__law_function, F__law_function⟩ := c.def_ 44 (d := d__law_function) rfl
  obtain ⟨e_law, F_law⟩ := c.def_ 45 (d := d_law) rfl
  have e := hfa.symm.trans (He.glo_ok X G (c.fact 45 (f := .glo "law") rfl))
  cases e
  let Z : Fcts (noList K) mg := {
    a_is_whole := _, d_is_whole := _, F_is_whole := funD_less F_is_whole, g_is_whole := He.glo_ok X G (c.fact 0 (f := .glo "is_whole") rfl)
    a_is_between := _, d_is_between := _, F_is_between := funD_less F_is_between, g_is_between := He.glo_ok X G (c.fact 1 (f := .glo "is_between") rfl)
    a_is_state := _, d_is_state := _, F_is_state := funD_less F_is_state, g_is_state := He.glo_ok X G (c.fact 2 (f := .glo "is_state") rfl)
    a_nothing_known := _, d_nothing_known := _, F_nothing_known := funD_less F_nothing_known, g_nothing_known := He.glo_ok X G (c.fact 3 (f := .glo "nothing_known") rfl)
    a_gaps := _, d_gaps := _, F_gaps := funD_less F_gaps, g_gaps := He.glo_ok X G (c.fact 4 (f := .glo "gaps") rfl)
    a_is_below := _, d_is_below := _, F_is_below := funD_less F_is_below, g_is_below := He.glo_ok X G (c.fact 5 (f := .glo "is_below") rfl)
    a_are_fitting := _, d_are_fitting := _, F_are_fitting := funD_less F_are_fitting, g_are_fitting := He.glo_ok X G (c.fact 6 (f := .glo "are_fitting") rfl)
    a_joined := _, d_joined := _, F_joined := funD_less F_joined, g_joined := He.glo_ok X G (c.fact 7 (f := .glo "joined") rfl)
    a_with_value := _, d_with_value := _, F_with_value := funD_less F_with_value, g_with_value := He.glo_ok X G (c.fact 8 (f := .glo "with_value") rfl)
    a_is_point := _, d_is_point := _, F_is_point := funD_less F_is_point, g_is_point := He.glo_ok X G (c.fact 9 (f := .glo "is_point") rfl)
    a_is_function := _, d_is_function := _, F_is_function := funD_less F_is_function, g_is_function := He.glo_ok X G (c.fact 10 (f := .glo "is_function") rfl)
    a_answer_at := _, d_answer_at := _, F_answer_at := funD_less F_answer_at, g_answer_at := He.glo_ok X G (c.fact 11 (f := .glo "answer_at") rfl)
    a_least_points := _, d_least_points := _, F_least_points := funD_less F_least_points, g_least_points := He.glo_ok X G (c.fact 12 (f := .glo "least_points") rfl)
    a_is_less := _, d_is_less := _, F_is_less := funD_less F_is_less, g_is_less := He.glo_ok X G (c.fact 13 (f := .glo "is_less") rfl)
    a_without_point := _, d_without_point := _, F_without_point := funD_less F_without_point, g_without_point := He.glo_ok X G (c.fact 14 (f := .glo "without_point") rfl)
    a_is_open := _, d_is_open := _, F_is_open := funD_less F_is_open, g_is_open := He.glo_ok X G (c.fact 15 (f := .glo "is_open") rfl)
    a_needed := _, d_needed := _, F_needed := funD_less F_needed, g_needed := He.glo_ok X G (c.fact 16 (f := .glo "needed") rfl)
    a_knot_at := _, d_knot_at := _, F_knot_at := funD_less F_knot_at, g_knot_at := He.glo_ok X G (c.fact 17 (f := .glo "knot_at") rfl)
    a_grown := _, d_grown := _, F_grown := funD_less F_grown, g_grown := He.glo_ok X G (c.fact 18 (f := .glo "grown") rfl)
    a_turn_paper := _, d_turn_paper := _, F_turn_paper := funD_less F_turn_paper, g_turn_paper := He.glo_ok X G (c.fact 19 (f := .glo "turn_paper") rfl)
    a_is_sequential := _, d_is_sequential := _, F_is_sequential := funD_less F_is_sequential, g_is_sequential := He.glo_ok X G (c.fact 20 (f := .glo "is_sequential") rfl)
    a_joined_all := _, d_joined_all := _, F_joined_all := funD_less F_joined_all, g_joined_all := He.glo_ok X G (c.fact 21 (f := .glo "joined_all") rfl)
    a_are_parts := _, d_are_parts := _, F_are_parts := funD_less F_are_parts, g_are_parts := He.glo_ok X G (c.fact 22 (f := .glo "are_parts") rfl)
    a_shared_out := _, d_shared_out := _, F_shared_out := funD_less F_shared_out, g_shared_out := He.glo_ok X G (c.fact 23 (f := .glo "shared_out") rfl)
    a_least_parts := _, d_least_parts := _, F_least_parts := funD_less F_least_parts, g_least_parts := He.glo_ok X G (c.fact 24 (f := .glo "least_parts") rfl)
    a_degree := _, d_degree := _, F_degree := funD_less F_degree, g_degree := He.glo_ok X G (c.fact 25 (f := .glo "degree") rfl)
    a_unstable_pair := _, d_unstable_pair := _, F_unstable_pair := funD_less F_unstable_pair, g_unstable_pair := He.glo_ok X G (c.fact 26 (f := .glo "unstable_pair") rfl)
    a_is_stable := _, d_is_stable := _, F_is_stable := funD_less F_is_stable, g_is_stable := He.glo_ok X G (c.fact 27 (f := .glo "is_stable") rfl)
    a__law_same := _, d__law_same := _, F__law_same := funD_less F__law_same, g__law_same := He.glo_ok X G (c.fact 28 (f := .glo "_law_same") rfl)
    a__law_pool := _, d__law_pool := _, F__law_pool := funD_less F__law_pool, g__law_pool := He.glo_ok X G (c.fact 29 (f := .glo "_law_pool") rfl)
    a__law_spread := _, d__law_spread := _, F__law_spread := funD_less F__law_spread, g__law_spread := He.glo_ok X G (c.fact 30 (f := .glo "_law_spread") rfl)
    a__law_draw := _, d__law_draw := _, F__law_draw := funD_less F__law_draw, g__law_draw := He.glo_ok X G (c.fact 31 (f := .glo "_law_draw") rfl)
    a__law_pick := _, d__law_pick := _, F__law_pick := funD_less F__law_pick, g__law_pick := He.glo_ok X G (c.fact 32 (f := .glo "_law_pick") rfl)
    a__law_kind := _, d__law_kind := _, F__law_kind := funD_less F__law_kind, g__law_kind := He.glo_ok X G (c.fact 33 (f := .glo "_law_kind") rfl)
    a__law_under := _, d__law_under := _, F__law_under := funD_less F__law_under, g__law_under := He.glo_ok X G (c.fact 34 (f := .glo "_law_under") rfl)
    a__law_fit := _, d__law_fit := _, F__law_fit := funD_less F__law_fit, g__law_fit := He.glo_ok X G (c.fact 35 (f := .glo "_law_fit") rfl)
    a__law_with := _, d__law_with := _, F__law_with := funD_less F__law_with, g__law_with := He.glo_ok X G (c.fact 36 (f := .glo "_law_with") rfl)
    a__law_least := _, d__law_least := _, F__law_least := funD_less F__law_least, g__law_least := He.glo_ok X G (c.fact 37 (f := .glo "_law_least") rfl)
    a__law_state := _, d__law_state := _, F__law_state := funD_less F__law_state, g__law_state := He.glo_ok X G (c.fact 38 (f := .glo "_law_state") rfl)
    a__law_loose := _, d__law_loose := _, F__law_loose := funD_less F__law_loose, g__law_loose := He.glo_ok X G (c.fact 39 (f := .glo "_law_loose") rfl)
    a__law_tree := _, d__law_tree := _, F__law_tree := funD_less F__law_tree, g__law_tree := He.glo_ok X G (c.fact 40 (f := .glo "_law_tree") rfl)
    a__law_leaves := _, d__law_leaves := _, F__law_leaves := funD_less F__law_leaves, g__law_leaves := He.glo_ok X G (c.fact 41 (f := .glo "_law_leaves") rfl)
    a__law_told := _, d__law_told := _, F__law_told := funD_less F__law_told, g__law_told := He.glo_ok X G (c.fact 42 (f := .glo "_law_told") rfl)
    a__law_knotted := _, d__law_knotted := _, F__law_knotted := funD_less F__law_knotted, g__law_knotted := He.glo_ok X G (c.fact 43 (f := .glo "_law_knotted") rfl)
    a__law_function := _, d__law_function := _, F__law_function := funD_less F__law_function, g__law_function := He.glo_ok X G (c.fact 44 (f := .glo "_law_function") rfl)
    a_law := _, d_law := _, F_law := funD_less F_law, g_law := He.glo_ok X G (c.fact 45 (f := .glo "law") rfl)
    n_all := He.free_ok X G (c.fact 46 (f := .free "all") rfl)
    n_any := He.free_ok X G (c.fact 47 (f := .free "any") rfl)
    n_bool := He.free_ok X G (c.fact 48 (f := .free "bool") rfl)
    n_enumerate := He.free_ok X G (c.fact 49 (f := .free "enumerate") rfl)
    n_int := He.free_ok X G (c.fact 50 (f := .free "int") rfl)
    n_isinstance := He.free_ok X G (c.fact 51 (f := .free "isinstance") rfl)
    n_len := He.free_ok X G (c.fact 52 (f := .free "len") rfl)
    n_list := He.free_ok X G (c.fact 53 (f := .free "list") rfl)
    n_max := He.free_ok X G (c.fact 54 (f := .free "max") rfl)
    n_min := He.free_ok X G (c.fact 55 (f := .free "min") rfl)
    n_range := He.free_ok X G (c.fact 56 (f := .free "range") rfl)
    n_set := He.free_ok X G (c.fact 57 (f := .free "set") rfl)
    n_sorted := He.free_ok X G (c.fact 58 (f := .free "sorted") rfl)
    n_str := He.free_ok X G (c.fact 59 (f := .free "str") rfl)
    n_tuple := He.free_ok X G (c.fact 60 (f := .free "tuple") rfl)
    n_zip := He.free_ok X G (c.fact 61 (f := .free "zip") rfl)
    c_MOST_POINTS := He.int_ok X G (c.fact 62 (f := .int "MOST_POINTS" 7) rfl)
  }
  have b := FunD.bindsA (ps := ["script"]) F_law fun _ _ _ _ _ _ us hl => match us, hl with | [_], _ => rfl
  exact ⟨_, fun s v => b s [v] rfl, fun base _ _ => ok_law Z⟩
end K40
open PySem PySem.W PySem.Calls PyProof.Rows
theorem K40.holds_of (plain : ∀ ns : List Int, ns.length ≤ 63 → DL.wp (K40.py_law [.h 0]) (fun d _ => d = .bl true) [.scr ns]) : PySem.Challenge.rw_asksinturn_k40_whole_points_that_all_fit.Holds := by
  w_on; o_law
  refine HandSHeadRun.head_any (r := OpenLaw.row PySem.Challenge.rw_asksinturn_k40_whole_points_that_all_fit) (q := view (OpenLaw.row PySem.Challenge.rw_asksinturn_k40_whole_points_that_all_fit).prog [56]) (H := K40.hk) (ob := K40.ob) (M := 6000) (loose := K40.loose) (d := HandSHeadRun.topDef (OpenLaw.row PySem.Challenge.rw_asksinturn_k40_whole_points_that_all_fit).prog 56) (kwd := []) K40.ob_eq
    (by kernel_rfl) (fun s => by kernel_rfl) K40.run (by kernel_rfl) (by kernel_rfl) (by kernel_rfl) (by rfl) (by first | assumption | decide +kernel) (by decide +kernel) ⟨rfl, rfl, rfl, rfl, rfl, by decide +kernel⟩ ?hw ?hc
  case hw => w_witness2
  case hc =>
    refine L2.walk_ofE (l := PySem.Challenge.rw_asksinturn_k40_whole_points_that_all_fit) (n := 63) (k := 35) (x := "script") (CX := L2.CX0) rfl (by decide) (by kernel_rfl) ⟨rfl, by decide, by decide⟩ ?F (fun _ _ _ _ z => z)
    intro w mg fa h Y G hmg0
    obtain ⟨K, KX, c⟩ := Y
    have hmg : mg ("law" : PySem.Str) = some (.ref fa) := by
      have e : (HandSHeadRun.topDef (OpenLaw.row PySem.Challenge.rw_asksinturn_k40_whole_points_that_all_fit).prog 56).name = ("law" : PySem.Str) := by kernel_rfl
      rw [← e]
      exact hmg0
    obtain ⟨fd, hb, hF⟩ := K40.facts (w := w) KX G hmg c
    exact ⟨DL.noList K, fd, DL.spD (DL.noList K) 1 K40.py_law, DL.noList_in KX, hb, fun H a ns hl hO hS => DL.law_sp plain H a ns hl hO hS _, hF⟩
theorem PySem.Challenge.cw_asksinturn_k40_whole_points_that_all_fit_holds : PySem.Challenge.rw_asksinturn_k40_whole_points_that_all_fit.Holds := by
  exact K40.holds_of K40.plain
