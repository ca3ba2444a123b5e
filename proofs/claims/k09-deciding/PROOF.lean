import PyProof.Rows.All
import Wide.All
import OpenK.AllK
import Wide.FinOn
import KE.KStateDown
import HandS.ForMost
import HandS.ForExc
import HandS.Deep
import HandS.TupAny
import KE.SortData
import KE.DataEq
import KE.KDictKeyed
import KE.KeyNested
import HandS.Lambda
import HandS.TupMul
import KE.DataCmp
import HandS.Style
import HandS.IsInst
import HandS.Conv
import HandS.TupSets
import KE.KDictDisplayH
import KE.GoesEnum
import KE.KDictZip
import KE.KItemsList
import HandS.Walk
import HandS.Zip
import KE.DataMinMax
import HandS.HeadHook2
import HandS.Small
import HandS.Head2
import HandS.HeadEnd
import PySem.Challenge.RW_backsteps_k09_whole_deciding
set_option Elab.async false
set_option linter.all false
set_option maxRecDepth 100000
set_option maxHeartbeats 4000000
namespace Bk
open PySem
/-- a value -/
inductive Val where
  | d (x : PyData)
  | town
  | scr
  | fn (i : Nat)
inductive Slot where
  | emp
  | val (v : Val)
  | own (x : PyData)
abbrev Ev := List Slot
structure Town where
  script : List Int
  count : Int
  rests : List (Int × Int)
inductive R (α : Type) where
  | ok (a : α) (t : Town)
  | exc (c : Nat) (t : Town)
  | bad
def R.bnd {α β : Type} : R α → (α → Town → R β) → R β
  | .ok a t, f => f a t
  | .exc c t, _ => .exc c t
  | .bad, _ => .bad
/-- no exception is let through -/
def R.noX {α : Type} : R α → R α
  | .ok a t => .ok a t
  | .exc _ _ => .bad
  | .bad => .bad
abbrev M (α : Type) : Type := Town → R α
namespace M
def ret {α : Type} (a : α) : M α := fun t => .ok a t
def bnd {α β : Type} (m : M α) (f : α → M β) : M β := fun t => R.bnd (m t) f
def fail {α : Type} : M α := fun _ => .bad
def opt {α : Type} : Option α → M α
  | some a => ret a
  | none => fail
def raise {α : Type} (c : Nat) : M α := fun t => .exc c t
def noX {α : Type} (m : M α) : M α := fun t => R.noX (m t)
end M
instance : Monad M where
  pure := M.ret
  bind := M.bnd
section
variable {α β : Type}
theorem pure_at (a : α) (t : Town) : (pure a : M α) t = .ok a t := rfl
theorem fail_at (t : Town) : (M.fail : M α) t = .bad := rfl
theorem raise_at (c : Nat) (t : Town) : (M.raise c : M α) t = .exc c t := rfl
theorem pure_bind_at (a : α) (f : α → M β) (t : Town) : ((pure a : M α) >>= f) t = f a t := rfl
end
inductive BOp | add | sub | mul | mod | fdiv
  deriving DecidableEq
inductive COp | eq | ne | lt | le | gt | ge | isN | notN | mem | nmem
  deriving DecidableEq
inductive Ty | int | bool | str | tuple
  deriving DecidableEq
inductive B1 | len | tuple | list | sorted | all | min | str | int | lenSet | sortedSet | listRange | tupleRange | listEnum
  deriving DecidableEq
/-- what is assigned: a slot, or several by a tuple -/
inductive Tg where
  | nm (i : Nat)
  | tp (ts : List Tg)
mutual
inductive IE where
  | con (x : PyData)
  | glo (x : Nat)
  | fnv (i : Nat)
  | var (i : Nat)
  | neg (a : IE)
  | bin (op : BOp) (a b : IE)
  | cmp (op : COp) (a b : IE)
  | chn (p q : COp) (a b c : IE)
  | and (a b : IE)
  | or (a b : IE)
  | not (a : IE)
  | ite (c a b : IE)
  | tup (es : List IE)
  | lst (es : List IE)
  | sub (a i : IE)
  | slc (a lo hi : IE)
  | rev (a : IE)
  | call (f : Nat) (es : List IE)
  | b1 (b : B1) (a : IE)
  | isi (T : Ty) (a : IE)
  | min2 (a b : IE)
  | lc (e : IE) (t : Tg) (it : It) (c : IE)
  | get (a k d : IE)
  | idx (a k : IE)
  | dis (ks : List IE)
  | dsub (i : Nat) (k : IE)
inductive It where
  | seq (a : IE)
  | rng (a : IE)
  | enu (a : IE)
  | zip (a b : IE)
end
inductive IS where
  | asg (t : Tg) (e : IE)
  | own (i : Nat) (e : IE)
  | par (ts : List (Nat × Bool)) (es : List IE)
  | setI (i : Nat) (k v : IE)
  | app (i : Nat) (e : IE)
  | ext (i : Nat) (e : IE)
  | expr (e : IE)
  | ret (e : IE)
  | ite (c : IE) (a b : List IS)
  | for_ (t : Tg) (it : It) (b : List IS)
  | while_ (c : IE) (b : List IS)
  | raise (c : Nat)
  | dnew (i : Nat) (e : IE)
  | dset (i : Nat) (k v : IE)
/-! ### operations on data -/
def addD : PyData → PyData → Option PyData
  | .int a, .int b => some (.int (a + b))
  | .str a, .str b => if a.length + b.length ≤ sizeLine then some (.str (a ++ b)) else none
  | .tuple a, .tuple b => if a.length + b.length ≤ sizeLine then some (.tuple (a ++ b)) else none
  | .list a, .list b => if a.length + b.length ≤ sizeLine then some (.list (a ++ b)) else none
  | _, _ => none
def subD : PyData → PyData → Option PyData
  | .int a, .int b => some (.int (a - b))
  | _, _ => none
/-- a tuple, a list, repeated a few times -/
def mulD : PyData → PyData → Option PyData
  | .tuple a, .int k => if 1 ≤ k ∧ k ≤ 1000 ∧ a.length ≤ 1000 ∧ a ≠ [] then some (.tuple (List.replicate k.toNat a).flatten) else none
  | .list a, .int k => if 1 ≤ k ∧ k ≤ 1000 ∧ a.length ≤ 1000 then some (.list (List.replicate k.toNat a).flatten) else none
  | _, _ => none
def modD : PyData → PyData → Option PyData
  | .int a, .int b => if 0 < b then some (.int (a % b)) else none
  | _, _ => none
def fdivD : PyData → PyData → Option PyData
  | .int a, .int b => if 0 < b ∧ b < 1073741824 then some (.int (a / b)) else none
  | _, _ => none
def binD : BOp → PyData → PyData → Option PyData
  | .add => addD
  | .sub => subD
  | .mul => mulD
  | .mod => modD
  | .fdiv => fdivD
def shapedB (x : PyData) : Bool := x.plain && decide (x.depth ≤ 64)
mutual
/-- ints, texts, None and tuples of these -/
def pureK : PyData → Bool
  | .none => true
  | .int _ => true
  | .str _ => true
  | .tuple xs => pureKs xs
  | _ => false
def pureKs : List PyData → Bool
  | [] => true
  | x :: xs => pureK x && pureKs xs
end
def isTup : PyData → Bool
  | .tuple _ => true
  | _ => false
/-- a key of a dict or a set of ours -/
def keyOk (x : PyData) : Bool := isTup x && pureK x && decide (x.depth ≤ 8)
def isDict : PyData → Bool
  | .dict _ => true
  | _ => false
def eqD (x y : PyData) : Option Bool := if shapedB x = true ∧ shapedB y = true then some (PyData.eqv x y) else none
/-- a < b: ints; alike data (tuples) -/
def ltD : PyData → PyData → Option Bool
  | .int a, .int b => some (decide (a < b))
  | .tuple a, .tuple b => if PySem.W.alikeAll a b = true ∧ (PyData.tuple a).depth ≤ 64 ∧ (PyData.tuple b).depth ≤ 64 then some (PySem.W.dataLt (.tuple a) (.tuple b)) else none
  | _, _ => none
def leD : PyData → PyData → Option Bool
  | .int a, .int b => some (decide (a ≤ b))
  | .tuple a, .tuple b => if PySem.W.alikeAll a b = true ∧ (PyData.tuple a).depth ≤ 64 ∧ (PyData.tuple b).depth ≤ 64 then some (!PySem.W.dataLt (.tuple b) (.tuple a)) else none
  | _, _ => none
def lookD (k : PyData) : List (PyData × PyData) → Option PyData
  | [] => none
  | (x, v) :: r => if PyData.eqv x k = true then some v else lookD k r
def putD (k v : PyData) : List (PyData × PyData) → List (PyData × PyData)
  | [] => [(k, v)]
  | (x, u) :: r => if PyData.eqv x k = true then (x, v) :: r else (x, u) :: putD k v r
def isNoneD : PyData → Bool
  | .none => true
  | _ => false
/-- a key of a dict of ours: a tuple (ints, texts, None, tuples of these) -/
def memD (x : PyData) : PyData → Option Bool
  | .list ds => if shapedB x = true ∧ shapedB (.list ds) = true then some (ds.any fun z => PyData.eqv z x) else none
  | .tuple ds => if shapedB x = true ∧ shapedB (.tuple ds) = true then some (ds.any fun z => PyData.eqv z x) else none
  | .dict kvs => if keyOk x = true then some (lookD x kvs).isSome else none
  | _ => none
/-- is: None, truth values -/
def isU (x y : PyData) : Option Bool :=
  match y with
  | .none => some (isNoneD x)
  | .bool b => (match x with
    | .bool a => some (decide (a = b))
    | _ => none)
  | _ => none
def cmpU (op : COp) (x y : PyData) : Option Bool :=
  match op with
  | .eq => eqD x y
  | .ne => (eqD x y).map (!·)
  | .lt => ltD x y
  | .le => leD x y
  | .gt => (match x, y with
    | .int a, .int b => some (decide (b < a))
    | _, _ => none)
  | .ge => (match x, y with
    | .int a, .int b => some (decide (b ≤ a))
    | _, _ => none)
  | .isN => isU x y
  | .notN => (isU x y).map (!·)
  | .mem => memD x y
  | .nmem => (memD x y).map (!·)
def cmpD (op : COp) (x y : PyData) : Option Bool := if isDict x = true then none else cmpU op x y
/-- xs[i] -/
def subAt : PyData → PyData → Option PyData
  | .tuple xs, .int i => L2.atI xs i
  | .list xs, .int i => L2.atI xs i
  | .str z, .int i => if z.length ≤ sizeLine then (L2.atI z.cps.toList i).map fun c => .str ⟨#[c]⟩ else none
  | .dict kvs, k => if keyOk k = true then lookD k kvs else none
  | _, _ => none
def cutL {α : Type} (xs : List α) (lo hi : Option Int) : List α := (xs.drop (HT.sIx xs.length 0 lo)).take (HT.sIx xs.length xs.length hi - HT.sIx xs.length 0 lo)
def slcD (x : PyData) (lo hi : Option Int) : Option PyData :=
  match x with
  | .tuple xs => some (.tuple (cutL xs lo hi))
  | .list xs => some (.list (cutL xs lo hi))
  | .str z => if z.length ≤ sizeLine then some (.str (L2.cutS z lo hi)) else none
  | _ => none
def revD : PyData → Option PyData
  | .tuple xs => some (.tuple xs.reverse)
  | _ => none
/-! ### a sort by places -/
def insD (x : PyData) : List PyData → List PyData
  | [] => [x]
  | y :: r => if PySem.W.dataLt y x = true then y :: insD x r else x :: y :: r
def isort : List PyData → List PyData
  | [] => []
  | x :: r => insD x (isort r)
def allAlike (ds : List PyData) : Bool := ds.all fun a => ds.all fun b => PySem.W.alike a b
def sortable (ds : List PyData) : Bool :=
  (ds.all fun
    | .tuple (_ :: _) => true
    | _ => false) || ds.all fun
    | .none => false
    | .tuple _ => false
    | _ => true
def sortL (ds : List PyData) : Option (List PyData) :=
  if allAlike ds = true ∧ sortable ds = true ∧ (ds.all fun x => decide (x.depth ≤ 64)) = true then some (isort ds) else none
/-- without those that come again -/
def nubD : List PyData → List PyData
  | [] => []
  | x :: r => x :: (nubD r).filter fun y => !PyData.eqv x y
def boolsD : List PyData → Option (List Bool)
  | [] => some []
  | .bool b :: r => (boolsD r).map (b :: ·)
  | _ => none
def lenD : PyData → Option Nat
  | .tuple xs => some xs.length
  | .list xs => some xs.length
  | .str z => if z.length ≤ sizeLine then some z.length else none
  | _ => none
/-- what is walked -/
def itemsD : PyData → Option (List PyData)
  | .tuple xs => some xs
  | .list xs => some xs
  | .dict kvs => some (kvs.map (·.1))
  | _ => none
def seqD : PyData → Option (List PyData)
  | .tuple xs => some xs
  | .list xs => some xs
  | _ => none
def rangeD : PyData → Option (List PyData)
  | .int n => if -1000000 ≤ n ∧ n ≤ 1000000 then some ((List.range n.toNat).map fun i => .int (i : Nat)) else none
  | _ => none
def enumD (xs : List PyData) : List PyData := xs.zipIdx.map fun p => .tuple [.int (p.2 : Nat), p.1]
def zipD (xs ys : List PyData) : List PyData := (xs.zip ys).map fun p => .tuple [p.1, p.2]
/-- the least: the first of those that none is less than -/
def minL : List PyData → Option PyData
  | [] => none
  | x :: r => some (r.foldl (fun m y => if PySem.W.dataLt y m = true then y else m) x)
def b1D : B1 → PyData → Option PyData
  | .len, x => (lenD x).map fun n => .int (n : Nat)
  | .tuple, x => (seqD x).map .tuple
  | .list, x => (seqD x).map .list
  | .sorted, .list ds => (sortL ds).map .list
  | .sorted, .dict kvs => (sortL (kvs.map (·.1))).map .list
  | .all, .list xs => (boolsD xs).map fun bs => .bool (bs.all id)
  | .min, .list xs => if allAlike xs = true ∧ sortable xs = true ∧ (xs.all fun x => decide (x.depth ≤ 64)) = true then (minL xs).bind fun z => if isTup z = true then some z else none else none
  | .lenSet, x => (seqD x).bind fun ds => if ds.length < 64 ∧ (ds.all keyOk) = true then some (.int ((nubD ds).length : Nat)) else none
  | .sortedSet, x => (seqD x).bind fun ds => if ds.length < 64 ∧ (ds.all keyOk) = true then (sortL (nubD ds)).map .list else none
  | .listRange, x => (rangeD x).map .list
  | .tupleRange, x => (rangeD x).map .tuple
  | .listEnum, x => (seqD x).map fun ds => .list (enumD ds)
  | _, _ => none
def isiD : Ty → PyData → Bool
  | .int, .int _ => true
  | .int, .bool _ => true
  | .bool, .bool _ => true
  | .str, .str _ => true
  | .tuple, .tuple _ => true
  | _, _ => false
def idxD : PyData → PyData → Option PyData
  | .tuple xs, x => if shapedB x = true ∧ shapedB (.tuple xs) = true then (xs.findIdx? fun z => PyData.eqv z x).map fun n => .int (n : Nat) else none
  | _, _ => none
/-! ### the meaning of expressions -/
def asD : Val → M PyData
  | .d x => pure x
  | _ => M.fail
/-- a datum that may stand within others -/
def asP : Val → M PyData
  | .d x => if isDict x = true then M.fail else pure x
  | _ => M.fail
def asB : Val → M Bool
  | .d (.bool b) => pure b
  | _ => M.fail
def asI : Val → M (Option Int)
  | .d (.int i) => pure (some i)
  | _ => M.fail
/-- an end of a slice that is not written -/
def noneI : IE → Bool
  | .con .none => true
  | _ => false
def slotAt (ρ : Ev) (i : Nat) : Slot := ρ.getD i .emp
def isOwn : IE → Ev → Bool
  | .var i, ρ => (match slotAt ρ i with
    | .own _ => true
    | _ => false)
  | _, _ => false
/-- stored: the slots of a target -/
def setTg : Tg → Val → Ev → Option Ev
  | .nm i, v, ρ => if i < ρ.length then some (ρ.set i (.val v)) else none
  | .tp ts, .d (.tuple xs), ρ => setTgs ts xs ρ
  | .tp _, _, _ => none
where setTgs : List Tg → List PyData → Ev → Option Ev
  | [], [], ρ => some ρ
  | t :: ts, x :: xs, ρ => (setTg t (.d x) ρ).bind fun ρ' => setTgs ts xs ρ'
  | _, _, _ => none
mutual
def slotsT : Tg → List Nat
  | .nm i => [i]
  | .tp ts => slotsTs ts
def slotsTs : List Tg → List Nat
  | [] => []
  | t :: ts => slotsT t ++ slotsTs ts
end
def wipeE (ρ : Ev) : List Nat → Ev
  | [] => ρ
  | v :: vs => (wipeE ρ vs).set v .emp
/-- a comprehension's turns -/
def lcGo (f : Ev → M Val) (c : Ev → M Bool) (t : Tg) (ρ : Ev) : List PyData → M (List PyData)
  | [] => pure []
  | x :: xs => do
    let ρ' ← M.opt (setTg t (.d x) ρ)
    let b ← c ρ'
    if b = true then do
      let v ← f ρ' >>= asP
      let r ← lcGo f c t ρ xs
      pure (v :: r)
    else lcGo f c t ρ xs
mutual
def ev (gl : Nat → Option PyData) (φ : Nat → List Val → M Val) : IE → Ev → M Val
  | .con x, _ => pure (.d x)
  | .glo x, _ => (M.opt (gl x)) >>= fun v => pure (.d v)
  | .fnv i, _ => pure (.fn i)
  | .var i, ρ => (match slotAt ρ i with
    | .val v => pure v
    | .own x => if isTup x = true then M.fail else pure (.d x)
    | .emp => M.fail)
  | .neg a, ρ => do
    let x ← ev gl φ a ρ >>= asD
    (match x with
    | .int i => pure (.d (.int (-i)))
    | _ => M.fail)
  | .bin op a b, ρ => do
    let x ← ev gl φ a ρ >>= asD
    let y ← ev gl φ b ρ >>= asD
    let z ← M.opt (binD op x y)
    pure (.d z)
  | .cmp op a b, ρ => do
    let x ← ev gl φ a ρ >>= asD
    let y ← ev gl φ b ρ >>= asD
    let z ← M.opt (cmpD op x y)
    pure (.d (.bool z))
  | .chn p q a b c, ρ => do
    let x ← ev gl φ a ρ >>= asD
    let y ← ev gl φ b ρ >>= asD
    let k ← M.opt (cmpD p x y)
    if k = true then do
      let z ← ev gl φ c ρ >>= asD
      let l ← M.opt (cmpD q y z)
      pure (.d (.bool l))
    else pure (.d (.bool false))
  | .and a b, ρ => do
    let k ← ev gl φ a ρ >>= asB
    if k = true then ev gl φ b ρ >>= asB >>= fun l => pure (.d (.bool l)) else pure (.d (.bool false))
  | .or a b, ρ => do
    let k ← ev gl φ a ρ >>= asB
    if k = true then pure (.d (.bool true)) else ev gl φ b ρ >>= asB >>= fun l => pure (.d (.bool l))
  | .not a, ρ => do
    let k ← ev gl φ a ρ >>= asB
    pure (.d (.bool (!k)))
  | .ite c a b, ρ => do
    let k ← ev gl φ c ρ >>= asB
    if k = true then (if isOwn a ρ = true then M.fail else ev gl φ a ρ) else (if isOwn b ρ = true then M.fail else ev gl φ b ρ)
  | .tup es, ρ => do
    let xs ← evs gl φ es ρ
    pure (.d (.tuple xs))
  | .lst es, ρ => do
    let xs ← evs gl φ es ρ
    pure (.d (.list xs))
  | .sub a i, ρ => do
    let x ← ev gl φ a ρ >>= asD
    let y ← ev gl φ i ρ >>= asD
    let z ← M.opt (subAt x y)
    pure (.d z)
  | .slc a lo hi, ρ => do
    let x ← ev gl φ a ρ >>= asD
    let l ← (if noneI lo = true then pure none else ev gl φ lo ρ >>= asI)
    let h ← (if noneI hi = true then pure none else ev gl φ hi ρ >>= asI)
    let z ← M.opt (slcD x l h)
    pure (.d z)
  | .rev a, ρ => do
    let x ← ev gl φ a ρ >>= asD
    let z ← M.opt (revD x)
    pure (.d z)
  | .call f es, ρ => do
    let vs ← evv gl φ es ρ
    φ f vs
  | .b1 b a, ρ => do
    let x ← ev gl φ a ρ >>= asD
    let z ← M.opt (b1D b x)
    pure (.d z)
  | .isi T a, ρ => do
    let x ← ev gl φ a ρ >>= asP
    pure (.d (.bool (isiD T x)))
  | .min2 a b, ρ => do
    let x ← ev gl φ a ρ >>= asD
    let y ← ev gl φ b ρ >>= asD
    (match x, y with
    | .int i, .int j => pure (.d (.int (if j < i then j else i)))
    | _, _ => M.fail)
  | .lc e t it c, ρ => do
    let xs ← evIt gl φ it ρ
    let ys ← if sizeLine < xs.length then M.fail else M.noX (lcGo (fun ρ' => if isOwn e ρ' = true then M.fail else ev gl φ e ρ') (fun ρ' => ev gl φ c ρ' >>= asB) t (wipeE ρ (slotsT t)) xs)
    pure (.d (.list ys))
  | .get a k d, ρ => do
    let x ← ev gl φ a ρ >>= asD
    (match x with
    | .dict kvs => do
      let y ← ev gl φ k ρ >>= asD
      let z ← (if isOwn d ρ = true then M.fail else ev gl φ d ρ) >>= asP
      if keyOk y = true then pure (.d ((lookD y kvs).getD z)) else M.fail
    | _ => M.fail)
  | .idx a k, ρ => do
    let x ← ev gl φ a ρ >>= asD
    let y ← ev gl φ k ρ >>= asD
    let z ← M.opt (idxD x y)
    pure (.d z)
  | .dis es, ρ => do
    let xs ← evs gl φ es ρ
    (match xs with
    | [] => pure (.d (.dict []))
    | [k, v] => if keyOk k = true then pure (.d (.dict [(k, v)])) else M.fail
    | _ => M.fail)
  | .dsub i k, ρ => (match slotAt ρ i with
    | .own (.tuple ds) => (do
      let y ← ev gl φ k ρ >>= asD
      (match y with
      | .int j => if 0 ≤ j then (M.opt ds[j.toNat]?) >>= fun z => pure (.d z) else M.fail
      | _ => M.fail))
    | _ => M.fail)
/-- the items of a display -/
def evs (gl : Nat → Option PyData) (φ : Nat → List Val → M Val) : List IE → Ev → M (List PyData)
  | [], _ => pure []
  | e :: es, ρ => do
    let v ← (if isOwn e ρ = true then M.fail else ev gl φ e ρ) >>= asP
    let vs ← evs gl φ es ρ
    pure (v :: vs)
/-- the arguments of a call -/
def evv (gl : Nat → Option PyData) (φ : Nat → List Val → M Val) : List IE → Ev → M (List Val)
  | [], _ => pure []
  | e :: es, ρ => do
    let v ← (if isOwn e ρ = true then M.fail else ev gl φ e ρ)
    let vs ← evv gl φ es ρ
    pure (v :: vs)
def evIt (gl : Nat → Option PyData) (φ : Nat → List Val → M Val) : It → Ev → M (List PyData)
  | .seq a, ρ => do
    let x ← (if isOwn a ρ = true then M.fail else ev gl φ a ρ) >>= asD
    M.opt (itemsD x)
  | .rng a, ρ => do
    let x ← (if isOwn a ρ = true then M.fail else ev gl φ a ρ) >>= asD
    M.opt (rangeD x)
  | .enu a, ρ => do
    let x ← (if isOwn a ρ = true then M.fail else ev gl φ a ρ) >>= asD
    let ds ← M.opt (seqD x)
    pure (enumD ds)
  | .zip a b, ρ => do
    let x ← (if isOwn a ρ = true then M.fail else ev gl φ a ρ) >>= asD
    let y ← (if isOwn b ρ = true then M.fail else ev gl φ b ρ) >>= asD
    (match x, y with
    | .tuple ds, .tuple es => pure (zipD ds es)
    | .list ds, .list es => pure (zipD ds es)
    | _, _ => M.fail)
end
/-! ### statements -/
inductive Fl where
  | next (ρ : Ev)
  | ret (v : Val)
/-- a value for a name or a way out: an owned list that is named itself is frozen -/
def evA (gl : Nat → Option PyData) (φ : Nat → List Val → M Val) : IE → Ev → M (Val × Ev)
  | .var i, ρ => (match slotAt ρ i with
    | .val v => pure (v, ρ)
    | .own x => if isTup x = true then M.fail else pure (.d x, ρ.set i (.val (.d x)))
    | .emp => M.fail)
  | .ite c a b, ρ => do
    let k ← ev gl φ c ρ >>= asB
    if k = true then evA gl φ a ρ else evA gl φ b ρ
  | e, ρ => do
    let v ← ev gl φ e ρ
    pure (v, ρ)
/-- what a for walks: an owned list that is named itself is frozen -/
def evItA (gl : Nat → Option PyData) (φ : Nat → List Val → M Val) : It → Ev → M (List PyData × Ev)
  | .seq a, ρ => do
    let p ← evA gl φ a ρ
    let x ← asD p.1
    let xs ← M.opt (itemsD x)
    pure (xs, p.2)
  | it, ρ => do
    let xs ← evIt gl φ it ρ
    pure (xs, ρ)
/-- what makes a new list or dict -/
def fresh : IE → Bool
  | .lst _ => true
  | .lc .. => true
  | .b1 .list _ => true
  | .b1 .sorted _ => true
  | .b1 .listRange _ => true
  | .b1 .sortedSet _ => true
  | .bin .add _ (.lst _) => true
  | .dis _ => true
  | _ => false
def setOwn (i : Nat) (v : Val) (ρ : Ev) : Option Ev :=
  match v with
  | .d (.list xs) => if i < ρ.length then some (ρ.set i (.own (.list xs))) else none
  | .d (.dict xs) => if i < ρ.length then some (ρ.set i (.own (.dict xs))) else none
  | _ => none
/-- the right sides of a, b = x, y -/
def evPar (gl : Nat → Option PyData) (φ : Nat → List Val → M Val) : List (Nat × Bool) → List IE → Ev → M (List Val)
  | [], [], _ => pure []
  | (_, o) :: ts, e :: es, ρ => do
    let v ← (if o = true then (if fresh e = true then ev gl φ e ρ else M.fail) else (if isOwn e ρ = true then M.fail else ev gl φ e ρ))
    let vs ← evPar gl φ ts es ρ
    pure (v :: vs)
  | _, _, _ => M.fail
def setPar : List (Nat × Bool) → List Val → Ev → Option Ev
  | [], [], ρ => some ρ
  | (i, o) :: ts, v :: vs, ρ => (if o = true then setOwn i v ρ else setTg (.nm i) v ρ).bind fun ρ' => setPar ts vs ρ'
  | _, _, _ => none
def putItem (x k v : PyData) : Option PyData :=
  match x, k with
  | .list xs, .int i => (L2.ixN xs.length i).map fun j => .list (xs.set j v)
  | .dict kvs, k => if keyOk k = true ∧ kvs.length < sizeLine then some (.dict (putD k v kvs)) else none
  | _, _ => none
def forGo (f : Ev → M Fl) (t : Tg) : List PyData → Ev → M Fl
  | [], ρ => pure (.next ρ)
  | x :: xs, ρ => do
    let ρ' ← M.opt (setTg t (.d x) ρ)
    let r ← f ρ'
    (match r with
    | .next ρ'' => forGo f t xs ρ''
    | .ret v => pure (.ret v))
def whGo (c : Ev → M Bool) (f : Ev → M Fl) : Nat → Ev → M Fl
  | 0, _ => M.fail
  | n + 1, ρ => do
    let b ← c ρ
    if b = true then do
      let r ← f ρ
      (match r with
      | .next ρ' => whGo c f n ρ'
      | .ret v => pure (.ret v))
    else pure (.next ρ)
mutual
def ex (gl : Nat → Option PyData) (φ : Nat → List Val → M Val) (fu : Nat) : IS → Ev → M Fl
  | .asg t e, ρ => do
    let p ← evA gl φ e ρ
    let ρ' ← M.opt (setTg t p.1 p.2)
    pure (.next ρ')
  | .own i e, ρ => if fresh e = true then do
      let v ← ev gl φ e ρ
      let ρ' ← M.opt (setOwn i v ρ)
      pure (.next ρ')
    else M.fail
  | .par ts es, ρ => do
    let vs ← evPar gl φ ts es ρ
    let ρ' ← M.opt (setPar ts vs ρ)
    pure (.next ρ')
  | .setI i k v, ρ => do
    let z ← (if isOwn v ρ = true then M.fail else ev gl φ v ρ) >>= asP
    (match slotAt ρ i with
    | .own x => (do
      let y ← (if isOwn k ρ = true then M.fail else ev gl φ k ρ) >>= asP
      let x' ← M.opt (putItem x y z)
      pure (.next (ρ.set i (.own x'))))
    | _ => M.fail)
  | .app i e, ρ => (match slotAt ρ i with
    | .own (.list xs) => (do
      let z ← (if isOwn e ρ = true then M.fail else ev gl φ e ρ) >>= asP
      if xs.length < sizeLine then pure (.next (ρ.set i (.own (.list (xs ++ [z]))))) else M.fail)
    | _ => M.fail)
  | .ext i e, ρ => (match slotAt ρ i with
    | .own (.list xs) => (do
      let z ← (if isOwn e ρ = true then M.fail else ev gl φ e ρ) >>= asP
      (match z with
      | .list ys => if xs.length + ys.length ≤ sizeLine then pure (.next (ρ.set i (.own (.list (xs ++ ys))))) else M.fail
      | _ => M.fail))
    | _ => M.fail)
  | .expr e, ρ => do
    let _ ← ev gl φ e ρ
    pure (.next ρ)
  | .ret e, ρ => do
    let p ← evA gl φ e ρ
    pure (.ret p.1)
  | .ite c a b, ρ => do
    let k ← ev gl φ c ρ >>= asB
    if k = true then exs gl φ fu a ρ else exs gl φ fu b ρ
  | .for_ t it b, ρ => M.noX (evItA gl φ it ρ >>= fun p => forGo (fun ρ' => exs gl φ fu b ρ') t p.1 p.2)
  | .while_ c b, ρ => M.noX (whGo (fun ρ' => ev gl φ c ρ' >>= asB) (fun ρ' => exs gl φ fu b ρ') fu ρ)
  | .raise c, _ => M.raise c
  | .dnew i e, ρ => do
    let x ← ev gl φ e ρ >>= asD
    (match x with
    | .tuple ds => if ds.length ≤ 1000 ∧ i < ρ.length then pure (.next (ρ.set i (.own (.tuple ds)))) else M.fail
    | _ => M.fail)
  | .dset i k v, ρ => do
    let z ← (if isOwn v ρ = true then M.fail else ev gl φ v ρ) >>= asP
    (match slotAt ρ i with
    | .own (.tuple ds) => (do
      let y ← (if isOwn k ρ = true then M.fail else ev gl φ k ρ) >>= asP
      (match y with
      | .int j => if 0 ≤ j ∧ j.toNat < ds.length then pure (.next (ρ.set i (.own (.tuple (ds.set j.toNat z))))) else M.fail
      | _ => M.fail))
    | _ => M.fail)
def exs (gl : Nat → Option PyData) (φ : Nat → List Val → M Val) (fu : Nat) : List IS → Ev → M Fl
  | [], ρ => pure (.next ρ)
  | s :: ss, ρ => do
    let r ← ex gl φ fu s ρ
    (match r with
    | .next ρ' => exs gl φ fu ss ρ'
    | .ret v => pure (.ret v))
end
/-- a def: its names by slot, how many of them are parameters, its body; or one that is told by itself -/
inductive Fn where
  | py (N : List Str) (np : Nat) (body : List IS)
  | nat (np : Nat) (f : List Val → M Val)
def startE (N : List Str) (vs : List Val) : Ev := vs.map .val ++ List.replicate (N.length - vs.length) .emp
def endV : Fl → M Val
  | .next _ => pure (.d .none)
  | .ret v => pure v
def run (gl : Nat → Option PyData) (tb : Nat → Option Fn) (fu : Nat) : Nat → Nat → List Val → M Val
  | 0, _, _ => M.fail
  | n + 1, f, vs => (match tb f with
    | some (.py N np body) => if vs.length = np then exs gl (run gl tb fu n) fu body (startE N vs) >>= endV else M.fail
    | some (.nat np g) => if vs.length = np then g vs else M.fail
    | none => M.fail)
end Bk
namespace Bk
open PySem PySem.Spec PyProof.Rows L2
mutual
inductive Dq (K : PySem.W.Frag) (G : Hp) : V → PyData → Prop
  | non : Dq K G .non .none
  | bl (b : Bool) : Dq K G (.bl b) (.bool b)
  | int (i : Int) : Dq K G (.int i) (.int i)
  | str (x : Str) : Dq K G (.str x) (.str x)
  | lst {a : Addr} {xs : List V} {ds : List PyData} : G a = some (.lst xs) → DqAll K G xs ds → Dq K G (.ref a) (.list ds)
  | tup {a : Addr} {xs : List V} {ds : List PyData} : SqT K G a xs → DqAll K G xs ds → Dq K G (.ref a) (.tuple ds)
inductive DqAll (K : PySem.W.Frag) (G : Hp) : List V → List PyData → Prop
  | nil : DqAll K G [] []
  | cons {v : V} {vs : List V} {d : PyData} {ds : List PyData} : Dq K G v d → DqAll K G vs ds → DqAll K G (v :: vs) (d :: ds)
end
mutual
theorem Dq.dp {K : PySem.W.Frag} {G : Hp} : ∀ {v : V} {d : PyData}, Dq K G v d → Dp K G v d
  | _, _, .non => .non
  | _, _, .bl b => .bl b
  | _, _, .int i => .int i
  | _, _, .str x => .str x
  | _, _, .lst h r => .lst (SqL.of h) (DqAll.dp r)
  | _, _, .tup h r => .tup h (DqAll.dp r)
theorem DqAll.dp {K : PySem.W.Frag} {G : Hp} : ∀ {vs : List V} {ds : List PyData}, DqAll K G vs ds → DpAll K G vs ds
  | _, _, .nil => .nil
  | _, _, .cons h r => .cons (Dq.dp h) (DqAll.dp r)
end
theorem DqAll.length {K : PySem.W.Frag} {G : Hp} : ∀ {vs : List V} {ds : List PyData}, DqAll K G vs ds → vs.length = ds.length
  | _, _, .nil => rfl
  | _, _, .cons _ r => by simp [DqAll.length r]
theorem DqAll.app {K : PySem.W.Frag} {G : Hp} : ∀ {vs ws : List V} {ds es : List PyData}, DqAll K G vs ds → DqAll K G ws es → DqAll K G (vs ++ ws) (ds ++ es)
  | _, _, _, _, .nil, h => h
  | _, _, _, _, .cons h r, q => .cons h (DqAll.app r q)
theorem DqAll.get {K : PySem.W.Frag} {G : Hp} : ∀ {vs : List V} {ds : List PyData} {i : Nat} {v : V} {d : PyData}, DqAll K G vs ds → vs[i]? = some v → ds[i]? = some d → Dq K G v d
  | _, _, _, _, _, .nil, h, _ => by simp at h
  | _, _, 0, _, _, .cons h r, e1, e2 => by
    simp at e1 e2
    subst e1 e2
    exact h
  | _, _, i + 1, _, _, .cons h r, e1, e2 => DqAll.get (i := i) r (by simpa using e1) (by simpa using e2)
theorem DqAll.drop {K : PySem.W.Frag} {G : Hp} : ∀ {vs : List V} {ds : List PyData} (n : Nat), DqAll K G vs ds → DqAll K G (vs.drop n) (ds.drop n)
  | _, _, 0, h => h
  | _, _, _ + 1, .nil => .nil
  | _, _, n + 1, .cons _ r => DqAll.drop n r
theorem DqAll.take {K : PySem.W.Frag} {G : Hp} : ∀ {vs : List V} {ds : List PyData} (n : Nat), DqAll K G vs ds → DqAll K G (vs.take n) (ds.take n)
  | _, _, 0, _ => .nil
  | _, _, _ + 1, .nil => .nil
  | _, _, n + 1, .cons h r => .cons h (DqAll.take n r)
theorem DqAll.set {K : PySem.W.Frag} {G : Hp} {v : V} {d : PyData} (h : Dq K G v d) : ∀ {vs : List V} {ds : List PyData} (n : Nat), DqAll K G vs ds → DqAll K G (vs.set n v) (ds.set n d)
  | _, _, _, .nil => .nil
  | _, _, 0, .cons _ r => .cons h r
  | _, _, n + 1, .cons q r => .cons q (DqAll.set h n r)
theorem DqAll.rev {K : PySem.W.Frag} {G : Hp} : ∀ {vs : List V} {ds : List PyData}, DqAll K G vs ds → DqAll K G vs.reverse ds.reverse
  | _, _, .nil => .nil
  | _, _, .cons h r => by
    rw [List.reverse_cons, List.reverse_cons]
    exact DqAll.app (DqAll.rev r) (.cons h .nil)
theorem DqAll.rep {K : PySem.W.Frag} {G : Hp} {vs : List V} {ds : List PyData} (h : DqAll K G vs ds) : ∀ k : Nat, DqAll K G (List.replicate k vs).flatten (List.replicate k ds).flatten
  | 0 => .nil
  | k + 1 => by
    rw [List.replicate_succ, List.replicate_succ, List.flatten_cons, List.flatten_cons]
    exact DqAll.app h (DqAll.rep h k)
/-! ### dicts whose keys are tuples -/
mutual
def nkey : PyData → Option NestedKey
  | .none => some .none
  | .int i => some (.num i)
  | .bool b => some (.num (if b = true then 1 else 0))
  | .str x => some (.text x)
  | .tuple xs => (nkeys xs).map .tup
  | .list _ => none
  | .dict _ => none
def nkeys : List PyData → Option (List NestedKey)
  | [] => some []
  | x :: xs => (nkey x).bind fun k => (nkeys xs).map fun ks => k :: ks
end
/-- an entry: the key, where its tuple stands, the value -/
abbrev Ent := NestedKey × Addr × V
def RawD (w : World) (a : Addr) (o : Obj) (es : List Ent) (h : Heap) : Prop :=
  es.length ≤ sizeLine ∧ (a == sysModules) = false ∧ (es.map (·.1)).Nodup ∧ ∃ (ds : Array DictEntry) (ep : Nat), h.get? a = some o ∧ o.ExactDict ∧ o.data = .dict ds ep ∧
    Paired (fun (p : Ent) (q : DictEntry) => q.hash = p.1.hash w ∧ q.key = .ref p.2.1 ∧ RelV p.2.2 q.val) es ds.toList
def DO (w : World) (a : Addr) (o : Obj) (es : List Ent) : HO := .ext (RawD w a o es)
/-- the dict's entries stand for kvs -/
def EntsAre (K : PySem.W.Frag) (G : Hp) (es : List Ent) (kvs : List (PyData × PyData)) : Prop :=
  Paired (fun (p : Ent) (q : PyData × PyData) => nkey q.1 = some p.1 ∧ p.1.depth ≤ 8 ∧ (∃ ks, p.1 = .tup ks) ∧ Dq K G (.ref p.2.1) q.1 ∧ Dq K G p.2.2 q.2) es kvs
/-- the script: known to the object, or an object of the module -/
def Scr (K : PySem.W.Frag) (H : Hp) (a : Addr) (ns : List Int) : Prop := (∃ o, H a = some (.frz o (.lst (ns.map V.int)))) ∨ ∀ H', SqL K H' a (ns.map V.int)
theorem Scr.sq {K : PySem.W.Frag} {H : Hp} {a : Addr} {ns : List Int} (h : Scr K H a ns) : SqL K H a (ns.map V.int) := by
  rcases h with ⟨o, h⟩ | h
  · exact .inl (.inr ⟨o, h⟩)
  · exact h H
theorem Scr.keep {K : PySem.W.Frag} {H H' : Hp} {a : Addr} {ns : List Int} (h : Scr K H a ns) (k : ∀ o u, H a = some (.frz o u) → H' a = some (.frz o u)) : Scr K H' a ns := by
  rcases h with ⟨o, h⟩ | h
  · exact .inl ⟨o, k o _ h⟩
  · exact .inr h
/-- what is fixed through a law -/
structure Cf where
  w : World
  K : PySem.W.Frag
  fad : Nat → Addr
  cad : Nat → Addr
  aS : Addr
  aT : Addr
  aR : Addr
  T : List (Addr × Str)
section
variable (C : Cf)
/-- the object at a, read off H, is the list or dict x whose parts are read off G -/
def OwnAt (G H : Hp) (a : Addr) : PyData → Prop
  | .list ds => ∃ xs, H a = some (.lst xs) ∧ DqAll C.K G xs ds
  | .dict kvs => ∃ o es, H a = some (DO C.w a o es) ∧ EntsAre C.K G es kvs
  | .tuple ds => ∃ kv : List (Key × V), H a = some (.dK kv) ∧ kv.length ≤ 1000 ∧ ∀ (j : Nat) (d : PyData), ds[j]? = some d → ∃ v, valV kv (Sum.inl (j : Int)) = some v ∧ Dq C.K G v d
  | _ => False
def DR (G : Hp) (v : V) (x : PyData) : Prop := Dq C.K G v x ∨ ∃ a kvs, v = .ref a ∧ x = .dict kvs ∧ OwnAt C G G a (.dict kvs)
def VR (G : Hp) (v : V) : Val → Prop
  | .d x => DR C G v x
  | .town => v = .ref C.aT
  | .scr => v = .ref C.aS
  | .fn i => v = .ref (C.fad i)
/-- as DR, its own object in H -/
def Top (G H : Hp) (v : V) (x : PyData) : Prop := DR C G v x ∨ ∃ a, v = .ref a ∧ a ≠ C.aT ∧ a ≠ C.aR ∧ isTup x = false ∧ OwnAt C G H a x
def Fx (a : Addr) (o : HO) : Prop := a ≠ C.aT ∧ a ≠ C.aR ∧ ∀ ps, o ≠ .tbl ps
structure Grow (G H G' H' : Hp) : Prop where
  g : ∀ a o, G a = some o → G' a = some o
  s : ∀ a o, G' a = some o → H' a = some o
  k : ∀ a o, H a = some o → Fx C a o → H' a = some o
  t : ∀ a, H a ≠ none → H' a ≠ none
  o : ∀ a, H a ≠ none → G' a = G a
def townO (c : Int) (aR : Addr) : HO := .dK [(Sum.inr "count", .int c), (Sum.inr "rests", .ref aR)]
structure TownOk (τ : Town) (H : Hp) : Prop where
  t : H C.aT = some (townO τ.count C.aR)
  r : H C.aR = some (.dK (τ.rests.map fun p => (Sum.inl p.1, .int p.2)))
  n : τ.rests.length ≤ 100
  ne : C.aT ≠ C.aR
  k : ∀ p ∈ τ.rests, 0 ≤ p.1 ∧ p.1 < 100
  nd : (τ.rests.map (·.1)).Nodup
  s : Scr C.K H C.aS τ.script
  sl : τ.script.length ≤ 63
  tb : LamX.Tabs C.T H
structure SR (G₀ H₀ : Hp) (ρ : Ev) (τ : Town) (G H : Hp) (σ : L2.St) : Prop where
  e : Grow C G₀ H₀ G H
  gt : G C.aT = none
  gr : G C.aR = none
  tw : TownOk C τ H
  len : ρ.length = σ.length
  sl : ∀ i v, slotAt ρ i = .val v → ∃ u, σ[i]? = some (some u) ∧ VR C G u v
  ow : ∀ i x, slotAt ρ i = .own x → ∃ a, σ[i]? = some (some (.ref a)) ∧ G a = none ∧ H₀ a = none ∧ a ≠ C.aT ∧ a ≠ C.aR ∧ OwnAt C G H a x
  ds : ∀ i j x y a, slotAt ρ i = .own x → slotAt ρ j = .own y → σ[i]? = some (some (.ref a)) → σ[j]? = some (some (.ref a)) → i = j
/-- a new list or dict, not frozen yet -/
def FreshV (H G' H' : Hp) (v : V) (val : Val) : Prop := ∃ a x, v = .ref a ∧ val = .d x ∧ H a = none ∧ G' a = none ∧ a ≠ C.aT ∧ a ≠ C.aR ∧ isTup x = false ∧ OwnAt C G' H' a x
def Post (e : IE) (ρ : Ev) (σ : L2.St) (H G' H' : Hp) (v : V) (val : Val) : Prop :=
  if fresh e = true then FreshV C H G' H' v val else match e with
  | .var i => σ[i]? = some (some v) ∧ ((slotAt ρ i = .val val ∧ VR C G' v val) ∨ ∃ x, slotAt ρ i = .own x ∧ val = .d x ∧ ∃ a, v = .ref a ∧ a ≠ C.aT ∧ a ≠ C.aR ∧ isTup x = false ∧ OwnAt C G' H' a x)
  | _ => VR C G' v val
end
/-! ### tables of code objects -/
/-- no table, no code object -/
def NoCode (u : HO) : Prop := (∀ ps, u ≠ .tbl ps) ∧ ∀ c q, u ≠ LamX.CodeO c q
theorem noCode_lst {xs : List V} : NoCode (.lst xs) := ⟨fun _ z => (nomatch z), fun c q z => by unfold LamX.CodeO at z; cases z⟩
theorem noCode_dK {kv : List (Key × V)} : NoCode (.dK kv) := ⟨fun _ z => (nomatch z), fun c q z => by unfold LamX.CodeO at z; cases z⟩
theorem noCode_DO {w : World} {a : Addr} {o : Obj} {es : List Ent} : NoCode (DO w a o es) := by
  refine ⟨fun _ z => (nomatch z), fun c q z => ?_⟩
  unfold LamX.CodeO DO at z
  injection z with z
  have get : ∀ (oc : Obj) (vs : Array Value), oc.data = .fields vs → ∀ x, x < a + c + 1 → (⟨Array.replicate (a + c + 1) oc, {}⟩ : Heap).get? x = some oc := fun oc vs hd x hx => by
    unfold Heap.get?
    rw [Array.getElem?_replicate, if_pos hx]
    obtain ⟨c1, c2, c3, c4⟩ := oc
    cases (show c3 = _ from hd)
    rfl
  have e := congrFun z ⟨Array.replicate (a + c + 1) { cls := .none, data := .fields #[.none, .str q 0] }, {}⟩
  have : RawD w a o es ⟨Array.replicate (a + c + 1) { cls := .none, data := .fields #[.none, .str q 0] }, {}⟩ := by
    rw [e]
    exact ⟨_, #[.none, .str q 0], 0, get _ _ rfl c (Nat.lt_succ_of_le (Nat.le_add_left c a)), rfl, rfl⟩
  obtain ⟨_, _, _, ds, ep, h1, _, h3, _⟩ := this
  rw [get _ _ rfl a (Nat.lt_succ_of_le (Nat.le_add_right a c))] at h1
  cases h1
  cases h3
theorem Tabs.upd {T : List (Addr × Str)} {H : Hp} {q : Addr} {u o : HO} (t : LamX.Tabs T H) (e : H q = some u) (n : NoCode u) : LamX.Tabs T (upd H q o) := fun p hp => by
  obtain ⟨ps, h1, h2, h3⟩ := t p hp
  have nq : p.1 ≠ q := fun z => by
    rw [z, e] at h1
    exact n.1 ps (Option.some.inj h1)
  refine ⟨ps, by rw [upd_ne nq]; exact h1, h2, fun pos cv hc => ?_⟩
  obtain ⟨c, e1, e2⟩ := h3 pos cv hc
  have nc : c ≠ q := fun z => by
    rw [z, e] at e2
    exact n.2 _ _ (Option.some.inj e2)
  exact ⟨c, e1, by rw [upd_ne nc]; exact e2⟩
section
variable {C : Cf} {G H G' H' G2 H2 : Hp} {K : PySem.W.Frag}
theorem Rd.mono (m : ∀ a o, G a = some o → G' a = some o) {a : Addr} {u : HO} (h : Rd G a u) : Rd G' a u := by
  rcases h with h | ⟨o, h⟩
  · exact .inl (m _ _ h)
  · exact .inr ⟨o, m _ _ h⟩
theorem SqL.mono (m : ∀ a o, G a = some o → G' a = some o) {a : Addr} {xs : List V} (h : SqL K G a xs) : SqL K G' a xs := by
  rcases h with h | h
  · exact .inl (Rd.mono m h)
  · exact .inr h
theorem SqT.mono (m : ∀ a o, G a = some o → G' a = some o) {a : Addr} {xs : List V} (h : SqT K G a xs) : SqT K G' a xs := by
  rcases h with h | h
  · exact .inl (Rd.mono m h)
  · exact .inr h
mutual
theorem Dq.mono (m : ∀ a o, G a = some o → G' a = some o) : ∀ {v : V} {d : PyData}, Dq K G v d → Dq K G' v d
  | _, _, .non => .non
  | _, _, .bl b => .bl b
  | _, _, .int i => .int i
  | _, _, .str x => .str x
  | _, _, .lst h r => .lst (m _ _ h) (DqAll.mono m r)
  | _, _, .tup h r => .tup (SqT.mono m h) (DqAll.mono m r)
theorem DqAll.mono (m : ∀ a o, G a = some o → G' a = some o) : ∀ {vs : List V} {ds : List PyData}, DqAll K G vs ds → DqAll K G' vs ds
  | _, _, .nil => .nil
  | _, _, .cons h r => .cons (Dq.mono m h) (DqAll.mono m r)
end
theorem EntsAre.mono (m : ∀ a o, G a = some o → G' a = some o) {es : List Ent} {kvs : List (PyData × PyData)} (h : EntsAre K G es kvs) : EntsAre K G' es kvs :=
  Paired.mapP h fun _ _ ⟨h1, h2, h3, h4, h5⟩ => ⟨h1, h2, h3, Dq.mono m h4, Dq.mono m h5⟩
theorem OwnAt.mono (m : ∀ a o, G a = some o → G' a = some o) {a : Addr} {x : PyData} (k : ∀ o, H a = some o → H' a = some o) (h : OwnAt C G H a x) : OwnAt C G' H' a x := by
  cases x with
  | list ds => obtain ⟨xs, h1, h2⟩ := h; exact ⟨xs, k _ h1, DqAll.mono m h2⟩
  | dict kvs => obtain ⟨o, es, h1, h2⟩ := h; exact ⟨o, es, k _ h1, EntsAre.mono m h2⟩
  | tuple ds =>
    obtain ⟨kv, h1, h2, h3⟩ := h
    refine ⟨kv, k _ h1, h2, fun j d e => ?_⟩
    obtain ⟨v, e1, e2⟩ := h3 j d e
    exact ⟨v, e1, Dq.mono m e2⟩
  | _ => exact h.elim
theorem DR.mono (m : ∀ a o, G a = some o → G' a = some o) {v : V} {x : PyData} (h : DR C G v x) : DR C G' v x := by
  rcases h with h | ⟨a, kvs, e1, e2, h⟩
  · exact .inl (Dq.mono m h)
  · exact .inr ⟨a, kvs, e1, e2, OwnAt.mono m (m a) h⟩
theorem VR.mono (m : ∀ a o, G a = some o → G' a = some o) {v : V} {x : Val} (h : VR C G v x) : VR C G' v x := by
  cases x with
  | d x => exact DR.mono m h
  | town => exact h
  | scr => exact h
  | fn i => exact h
theorem Grow.refl (s : ∀ a o, G a = some o → H a = some o) : Grow C G H G H := ⟨fun _ _ h => h, s, fun _ _ h _ => h, fun _ h => h, fun _ _ => rfl⟩
theorem Grow.trans (a : Grow C G H G' H') (b : Grow C G' H' G2 H2) : Grow C G H G2 H2 where
  g := fun c o h => b.g c o (a.g c o h)
  s := b.s
  k := fun c o h f => b.k c o (a.k c o h f) f
  t := fun c h => b.t c (a.t c h)
  o := fun c h => (b.o c (a.t c h)).trans (a.o c h)
theorem ownO_fx {a : Addr} {x : PyData} (n1 : a ≠ C.aT) (n2 : a ≠ C.aR) (h : OwnAt C G H a x) : ∃ o, H a = some o ∧ Fx C a o := by
  cases x with
  | list ds => obtain ⟨xs, h1, h2⟩ := h; exact ⟨_, h1, n1, n2, fun ps z => by cases z⟩
  | dict kvs => obtain ⟨o, es, h1, h2⟩ := h; exact ⟨_, h1, n1, n2, fun ps z => by cases z⟩
  | tuple ds => obtain ⟨kv, h1, h2⟩ := h; exact ⟨_, h1, n1, n2, fun ps z => by cases z⟩
  | _ => exact h.elim
theorem OwnAt.grow (g : Grow C G H G' H') {a : Addr} {x : PyData} (n1 : a ≠ C.aT) (n2 : a ≠ C.aR) (h : OwnAt C G H a x) : OwnAt C G' H' a x := by
  obtain ⟨o, h1, h2⟩ := ownO_fx n1 n2 h
  refine OwnAt.mono g.g (fun o' e => ?_) h
  rw [h1] at e
  cases e
  exact g.k _ _ h1 h2
theorem Top.of {v : V} {x : PyData} (h : DR C G v x) : Top C G H v x := .inl h
theorem Top.grow (g : Grow C G H G' H') {v : V} {x : PyData} (h : Top C G H v x) : Top C G' H' v x := by
  rcases h with h | ⟨a, e, n1, n2, nt, h⟩
  · exact .inl (DR.mono g.g h)
  · exact .inr ⟨a, e, n1, n2, nt, OwnAt.grow g n1 n2 h⟩
theorem SR.sub {G₀ H₀ : Hp} {ρ : Ev} {τ : Town} {σ : L2.St} (S : SR C G₀ H₀ ρ τ G H σ) : ∀ a o, G a = some o → H a = some o := S.e.s
theorem SR.grow {G₀ H₀ : Hp} {ρ : Ev} {τ τ' : Town} {σ : L2.St} (S : SR C G₀ H₀ ρ τ G H σ) (g : Grow C G H G' H') (t : TownOk C τ' H') : SR C G₀ H₀ ρ τ' G' H' σ where
  e := S.e.trans g
  gt := by rw [g.o _ (by rw [S.tw.t]; simp)]; exact S.gt
  gr := by rw [g.o _ (by rw [S.tw.r]; simp)]; exact S.gr
  tw := t
  len := S.len
  sl := fun i v e => by
    obtain ⟨u, h1, h2⟩ := S.sl i v e
    exact ⟨u, h1, VR.mono g.g h2⟩
  ow := fun i x e => by
    obtain ⟨a, h1, h2, h3, h4, h5, h6⟩ := S.ow i x e
    obtain ⟨o, q, _⟩ := ownO_fx h4 h5 h6
    exact ⟨a, h1, by rw [g.o _ (by rw [q]; simp)]; exact h2, h3, h4, h5, OwnAt.grow g h4 h5 h6⟩
  ds := S.ds
/-- an owned or new object is frozen -/
theorem freeze {a : Addr} {x : PyData} (s : ∀ a o, G a = some o → H a = some o) (ht : isTup x = false) (h : OwnAt C G H a x) (hg : G a = none) :
    ∃ G', (∀ b o, G b = some o → G' b = some o) ∧ (∀ b o, G' b = some o → H b = some o) ∧ (∀ b, b ≠ a → G' b = G b) ∧ DR C G' (.ref a) x := by
  have mo : ∀ o, ∀ b u, G b = some u → upd G a o b = some u := fun o b u e => by
    rw [upd_ne (ne_of_none e hg)]
    exact e
  have su : ∀ o, H a = some o → ∀ b u, upd G a o b = some u → H b = some u := fun o q b u e => by
    by_cases hb : b = a
    · subst hb
      rw [upd_same] at e
      cases e
      exact q
    · rw [upd_ne hb] at e
      exact s b u e
  cases x with
  | list ds =>
    obtain ⟨xs, h1, h2⟩ := h
    exact ⟨upd G a (.lst xs), mo _, su _ h1, fun b hb => upd_ne hb, .inl (.lst upd_same (DqAll.mono (mo _) h2))⟩
  | dict kvs =>
    obtain ⟨o, es, h1, h2⟩ := h
    exact ⟨upd G a (DO C.w a o es), mo _, su _ h1, fun b hb => upd_ne hb, .inr ⟨a, kvs, rfl, rfl, o, es, upd_same, EntsAre.mono (mo _) h2⟩⟩
  | tuple ds => cases ht
  | _ => exact h.elim
end
end Bk
namespace Bk
open PySem PySem.Spec PyProof.Rows L2
/-! ### ends of a computation -/
section
variable {α β : Type}
def Rdg (r : R α) (ok : α → Town → Prop) (ex : Nat → Town → Prop) : Prop := match r with
  | .ok a t => ok a t
  | .exc c t => ex c t
  | .bad => False
theorem Rdg.bind {m : M α} {f : α → M β} {t : Town} {ok : β → Town → Prop} {ex : Nat → Town → Prop} :
    Rdg ((m >>= f) t) ok ex ↔ Rdg (m t) (fun a t' => Rdg (f a t') ok ex) ex := by
  show Rdg (M.bnd m f t) ok ex ↔ _
  unfold M.bnd
  cases m t <;> exact Iff.rfl
theorem Rdg.pure {a : α} {t : Town} {ok : α → Town → Prop} {ex : Nat → Town → Prop} : Rdg ((Pure.pure a : M α) t) ok ex ↔ ok a t := Iff.rfl
theorem Rdg.fail {t : Town} {ok : α → Town → Prop} {ex : Nat → Town → Prop} : Rdg ((M.fail : M α) t) ok ex ↔ False := Iff.rfl
theorem Rdg.mono {r : R α} {ok ok' : α → Town → Prop} {ex ex' : Nat → Town → Prop} (h : Rdg r ok ex) (h1 : ∀ a t, ok a t → ok' a t) (h2 : ∀ c t, ex c t → ex' c t) : Rdg r ok' ex' := by
  cases r with
  | ok a t => exact h1 _ _ h
  | exc c t => exact h2 _ _ h
  | bad => exact h
theorem Rdg.opt {o : Option α} {t : Town} {ok : α → Town → Prop} {ex : Nat → Town → Prop} (h : Rdg (M.opt o t) ok ex) : ∃ z, o = some z ∧ ok z t := by
  cases o with
  | none => exact h.elim
  | some z => exact ⟨z, rfl, h⟩
theorem Rdg.asD {v : Val} {t : Town} {ok : PyData → Town → Prop} {ex : Nat → Town → Prop} (h : Rdg (Bk.asD v t) ok ex) : ∃ x, v = .d x ∧ ok x t := by
  cases v with
  | d x => exact ⟨x, rfl, h⟩
  | _ => exact h.elim
theorem Rdg.asP {v : Val} {t : Town} {ok : PyData → Town → Prop} {ex : Nat → Town → Prop} (h : Rdg (Bk.asP v t) ok ex) : ∃ x, v = .d x ∧ isDict x = false ∧ ok x t := by
  cases v with
  | d x =>
    have h : Rdg ((if isDict x = true then M.fail else Pure.pure x : M PyData) t) ok ex := h
    by_cases hd : isDict x = true
    · rw [if_pos hd] at h
      exact h.elim
    · rw [if_neg hd] at h
      exact ⟨x, rfl, by simpa using hd, h⟩
  | _ => exact h.elim
theorem Rdg.asB {v : Val} {t : Town} {ok : Bool → Town → Prop} {ex : Nat → Town → Prop} (h : Rdg (Bk.asB v t) ok ex) : ∃ b, v = .d (.bool b) ∧ ok b t := by
  cases v with
  | d x =>
    cases x with
    | bool b => exact ⟨b, rfl, h⟩
    | _ => exact h.elim
  | _ => exact h.elim
theorem Rdg.noX {m : M α} {t : Town} {ok : α → Town → Prop} {ex : Nat → Town → Prop} (h : Rdg (M.noX m t) ok ex) : Rdg (m t) ok (fun _ _ => False) := by
  unfold M.noX at h
  cases e : m t with
  | ok a t' => rw [e] at h; exact h
  | exc c t' => rw [e] at h; exact h.elim
  | bad => rw [e] at h; exact h.elim
/-- a value that is stored: not an owned list by its name -/
theorem Rdg.strict {b : Bool} {m : M α} {t : Town} {ok : α → Town → Prop} {ex : Nat → Town → Prop} (h : Rdg ((if b = true then M.fail else m) t) ok ex) : b = false ∧ Rdg (m t) ok ex := by
  cases b with
  | true => exact h.elim
  | false => exact ⟨rfl, h⟩
end
/-- the parameters of a def's run -/
structure Pm where
  C : Cf
  G₀ : Hp
  H₀ : Hp
  gl : Nat → Option PyData
  φ : Nat → List Val → M Val
  fu : Nat
  Ex : Nat → Hp → Prop
abbrev Pm.nox (p : Pm) : Pm := { p with Ex := fun _ _ => False }
section
variable (p : Pm)
abbrev SRp (ρ : Ev) (τ : Town) (G H : Hp) (σ : L2.St) : Prop := SR p.C p.G₀ p.H₀ ρ τ G H σ
def Xc (c : Nat) (τ' : Town) : Prop := ∀ G' H', Grow p.C p.G₀ p.H₀ G' H' → TownOk p.C τ' H' → p.Ex c H'
/-- what is wanted where the computation m, begun at G, H, ends -/
def Wnt {α : Type} (m : M α) (τ : Town) (G H : Hp) (ok : α → Hp → Hp → Prop) : Prop :=
  Rdg (m τ) (fun a τ' => ∀ G' H', Grow p.C G H G' H' → TownOk p.C τ' H' → ok a G' H') (Xc p)
def tE (e : IE) : TE := fun σ H Q => ∃ ρ τ G, SRp p ρ τ G H σ ∧ Wnt p (ev p.gl p.φ e ρ) τ G H fun val G' H' => ∀ v, Post p.C e ρ σ H G' H' v val → Q v H'
/-- .. frozen -/
def tF (e : IE) : TE := fun σ H Q => ∃ ρ τ G, SRp p ρ τ G H σ ∧ Wnt p (if isOwn e ρ = true then M.fail else ev p.gl p.φ e ρ) τ G H fun val G' H' => ∀ v, VR p.C G' v val → Q v H'
def tT (e : IE) : TT := fun σ H Q => ∃ ρ τ G, SRp p ρ τ G H σ ∧ Wnt p (ev p.gl p.φ e ρ >>= asB) τ G H fun b _ H' => Q b H'
/-- the arguments of a call; the items of a display -/
def tV (es : List IE) : TA := fun σ H Q => ∃ ρ τ G, SRp p ρ τ G H σ ∧ Wnt p (evv p.gl p.φ es ρ) τ G H fun vals G' H' => ∀ vs, Paired (VR p.C G') vs vals → Q vs H'
def tL (es : List IE) : TA := fun σ H Q => ∃ ρ τ G, SRp p ρ τ G H σ ∧ Wnt p (evs p.gl p.φ es ρ) τ G H fun ds G' H' => ∀ vs, DqAll p.C.K G' vs ds → Q vs H'
/-- behind a statement -/
def Beh (D : Ends) (G : Hp) : Fl → Town → Prop
  | .next ρ', τ' => ∀ σ' G' H', SRp p ρ' τ' G' H' σ' → (∀ a o, G a = some o → G' a = some o) → D.nx σ' H'
  | .ret val, τ' => ∀ v G' H', Grow p.C p.G₀ p.H₀ G' H' → TownOk p.C τ' H' → VR p.C G' v val → D.rt v H'
def tS (s : IS) : TS := fun D σ H => ∃ ρ τ G, SRp p ρ τ G H σ ∧ Rdg (ex p.gl p.φ p.fu s ρ τ) (Beh p D G) (Xc p)
def tSs (ss : List IS) : TS := fun D σ H => ∃ ρ τ G, SRp p ρ τ G H σ ∧ Rdg (exs p.gl p.φ p.fu ss ρ τ) (Beh p D G) (Xc p)
end
section
variable {p : Pm} {σ : L2.St} {ρ : Ev} {τ : Town} {G H : Hp}
/-- an expression within: k goes on where it ends -/
theorem stepE {e : IE} {Q : VK} {ok : Val → Town → Prop} (S : SRp p ρ τ G H σ) (h : Rdg (ev p.gl p.φ e ρ τ) ok (Xc p))
    (k : ∀ val τ1, ok val τ1 → ∀ v G1 H1, Grow p.C G H G1 H1 → SRp p ρ τ1 G1 H1 σ → Post p.C e ρ σ H G1 H1 v val → Q v H1) : tE p e σ H Q :=
  ⟨ρ, τ, G, S, Rdg.mono h (fun val τ1 o G1 H1 g t v po => k val τ1 o v G1 H1 g (S.grow g t) po) fun _ _ z => z⟩
theorem stepF {e : IE} {Q : VK} {ok : Val → Town → Prop} (S : SRp p ρ τ G H σ) (h : Rdg ((if isOwn e ρ = true then M.fail else ev p.gl p.φ e ρ) τ) ok (Xc p))
    (k : ∀ val τ1, ok val τ1 → ∀ v G1 H1, Grow p.C G H G1 H1 → SRp p ρ τ1 G1 H1 σ → VR p.C G1 v val → Q v H1) : tF p e σ H Q :=
  ⟨ρ, τ, G, S, Rdg.mono h (fun val τ1 o G1 H1 g t v po => k val τ1 o v G1 H1 g (S.grow g t) po) fun _ _ z => z⟩
theorem stepT {e : IE} {Q : Bool → Hp → Prop} {ok : Bool → Town → Prop} (S : SRp p ρ τ G H σ) (h : Rdg ((ev p.gl p.φ e ρ >>= asB) τ) ok (Xc p))
    (k : ∀ b τ1, ok b τ1 → ∀ G1 H1, Grow p.C G H G1 H1 → SRp p ρ τ1 G1 H1 σ → Q b H1) : tT p e σ H Q :=
  ⟨ρ, τ, G, S, Rdg.mono h (fun b τ1 o G1 H1 g t => k b τ1 o G1 H1 g (S.grow g t)) fun _ _ z => z⟩
theorem stepV {es : List IE} {Q : List V → Hp → Prop} {ok : List Val → Town → Prop} (S : SRp p ρ τ G H σ) (h : Rdg (evv p.gl p.φ es ρ τ) ok (Xc p))
    (k : ∀ vals τ1, ok vals τ1 → ∀ vs G1 H1, Grow p.C G H G1 H1 → SRp p ρ τ1 G1 H1 σ → Paired (VR p.C G1) vs vals → Q vs H1) : tV p es σ H Q :=
  ⟨ρ, τ, G, S, Rdg.mono h (fun vals τ1 o G1 H1 g t vs po => k vals τ1 o vs G1 H1 g (S.grow g t) po) fun _ _ z => z⟩
theorem stepL {es : List IE} {Q : List V → Hp → Prop} {ok : List PyData → Town → Prop} (S : SRp p ρ τ G H σ) (h : Rdg (evs p.gl p.φ es ρ τ) ok (Xc p))
    (k : ∀ ds τ1, ok ds τ1 → ∀ vs G1 H1, Grow p.C G H G1 H1 → SRp p ρ τ1 G1 H1 σ → DqAll p.C.K G1 vs ds → Q vs H1) : tL p es σ H Q :=
  ⟨ρ, τ, G, S, Rdg.mono h (fun ds τ1 o G1 H1 g t vs po => k ds τ1 o vs G1 H1 g (S.grow g t) po) fun _ _ z => z⟩
/-- from a value to a frozen one -/
theorem Post.frz {e : IE} {G1 H1 : Hp} {v : V} {val : Val} (ho : isOwn e ρ = false) (g : Grow p.C G H G1 H1) (po : Post p.C e ρ σ H G1 H1 v val) : ∃ G2, Grow p.C G H G2 H1 ∧ VR p.C G2 v val := by
  unfold Post at po
  by_cases hf : fresh e = true
  · rw [if_pos hf] at po
    obtain ⟨a, x, rfl, rfl, ha, hg, n1, n2, nt, ow⟩ := po
    obtain ⟨G2, m1, m2, m3, m4⟩ := freeze g.s nt ow hg
    exact ⟨G2, ⟨fun b o h => m1 b o (g.g b o h), m2, g.k, g.t, fun b hb => by rw [m3 b (fun z => hb (by rw [z]; exact ha)), g.o b hb]⟩, m4⟩
  · rw [if_neg hf] at po
    split at po
    · rename_i i
      obtain ⟨_, ⟨_, h⟩ | ⟨x, hx, _⟩⟩ := po
      · exact ⟨G1, g, h⟩
      · have ho : (match slotAt ρ i with
          | .own _ => true
          | _ => false) = false := ho
        rw [hx] at ho
        cases ho
    · exact ⟨G1, g, po⟩
theorem tF.toE {e : IE} {Q : VK} (h : tF p e σ H Q) : tE p e σ H Q := by
  obtain ⟨ρ, τ, G, S, h⟩ := h
  obtain ⟨ho, h⟩ := Rdg.strict h
  refine ⟨ρ, τ, G, S, Rdg.mono h (fun val τ1 o G1 H1 g t v po => ?_) fun _ _ z => z⟩
  obtain ⟨G2, g2, r⟩ := Post.frz ho g po
  exact o G2 H1 g2 t v r
theorem Post.top {e : IE} {G1 H1 : Hp} {v : V} {x : PyData} (po : Post p.C e ρ σ H G1 H1 v (.d x)) : Top p.C G1 H1 v x := by
  unfold Post at po
  by_cases hf : fresh e = true
  · rw [if_pos hf] at po
    obtain ⟨a, y, rfl, e2, ha, hg, n1, n2, nt, ow⟩ := po
    cases e2
    exact .inr ⟨a, rfl, n1, n2, nt, ow⟩
  · rw [if_neg hf] at po
    split at po
    · obtain ⟨_, ⟨_, h⟩ | ⟨y, _, e2, a, e3, n1, n2, nt, ow⟩⟩ := po
      · exact .inl h
      · cases e2
        exact .inr ⟨a, e3, n1, n2, nt, ow⟩
    · exact .inl po
end
theorem PE.weak {X : Cx} {e : Expr} {t t' : TE} (h : PE X e t) (k : ∀ σ H Q, t' σ H Q → t σ H Q) : PE X e t' := ⟨fun pins s σ H Q I w => h.run pins s σ H Q I (k σ H Q w)⟩
theorem PT.weak {X : Cx} {e : Expr} {t t' : TT} (h : PT X e t) (k : ∀ σ H Q, t' σ H Q → t σ H Q) : PT X e t' := ⟨fun pins s σ H Q I w => h.run pins s σ H Q I (k σ H Q w)⟩
theorem PW.weak {X : Cx} {e : Expr} {t t' : TT} (h : PW X e t) (k : ∀ σ H Q, t' σ H Q → t σ H Q) : PW X e t' := ⟨fun wh pins s σ H Q I w => h.run wh pins s σ H Q I (k σ H Q w)⟩
theorem PA.weak {X : Cx} {e : List Expr} {t t' : TA} (h : PA X e t) (k : ∀ σ H Q, t' σ H Q → t σ H Q) : PA X e t' := ⟨fun pos pins s σ H Q I w => h.run pos pins s σ H Q I (k σ H Q w)⟩
theorem PS.weak {X : Cx} {e : Stmt} {t t' : TS} (h : PS X e t) (k : ∀ D σ H, t' D σ H → t D σ H) : PS X e t' := ⟨fun pins s σ H D I w => h.run pins s σ H D I (k D σ H w)⟩
theorem PSs.weak {X : Cx} {e : List Stmt} {t t' : TS} (h : PSs X e t) (k : ∀ D σ H, t' D σ H → t D σ H) : PSs X e t' := ⟨fun pins s σ H D I w => h.run pins s σ H D I (k D σ H w)⟩
theorem PG.weak {X : Cx} {e : Expr} {t t' : TG} (h : PG X e t) (k : ∀ v σ H Q, t' v σ H Q → t v σ H Q) : PG X e t' := ⟨fun pins s σ H v u Q I r w => h.run pins s σ H v u Q I r (k v σ H Q w)⟩
theorem PI.weak {X : Cx} {tg e : Expr} {t t' : TI} (h : PI X tg e t) (k : ∀ σ H R, t' σ H R → t σ H R) : PI X tg e t' := ⟨fun pins s σ H R I w => h.run pins s σ H R I (k σ H R w)⟩
theorem PS.nox {X : Cx} {st : Stmt} {t : TS} (h : PS X.nox st t) : PS X st t := ⟨fun pins s σ H D I hw =>
  wpAny_mono (h.run pins s σ H D (I.wish _) hw) (fun _ _ q => q.unwish) fun _ _ z => False.elim z⟩
end Bk
namespace Bk
open PySem PySem.Spec PyProof.Rows L2
theorem iteS {α : Type} {c : Prop} [Decidable c] {a z : α} (h : (if c then some a else none) = some z) : c ∧ a = z := by
  by_cases hc : c
  · rw [if_pos hc] at h
    exact ⟨hc, Option.some.inj h⟩
  · rw [if_neg hc] at h
    cases h
section
variable {C : Cf} {G H : Hp} {τ : Town}
theorem Grow.newF (s : ∀ a o, G a = some o → H a = some o) {q : Addr} {o : HO} (hq : H q = none) : Grow C G H (upd G q o) (upd H q o) where
  g := fun a u h => by rw [upd_ne (ne_of_none (s a u h) hq)]; exact h
  s := fun a u h => by
    by_cases e : a = q
    · subst e; rw [upd_same] at h ⊢; exact h
    · rw [upd_ne e] at h ⊢; exact s a u h
  k := fun a u h _ => by rw [upd_ne (ne_of_none h hq)]; exact h
  t := fun a h => by
    have e : a ≠ q := fun z => h (by rw [z]; exact hq)
    rw [upd_ne e]; exact h
  o := fun a h => by
    have e : a ≠ q := fun z => h (by rw [z]; exact hq)
    rw [upd_ne e]
theorem Grow.newO (s : ∀ a o, G a = some o → H a = some o) {q : Addr} {o : HO} (hq : H q = none) : Grow C G H G (upd H q o) where
  g := fun a u h => h
  s := fun a u h => by rw [upd_ne (ne_of_none (s a u h) hq)]; exact s a u h
  k := fun a u h _ => by rw [upd_ne (ne_of_none h hq)]; exact h
  t := fun a h => by
    have e : a ≠ q := fun z => h (by rw [z]; exact hq)
    rw [upd_ne e]; exact h
  o := fun a h => rfl
theorem TownOk.new (t : TownOk C τ H) {q : Addr} {o : HO} (hq : H q = none) : TownOk C τ (upd H q o) where
  t := by rw [upd_ne (ne_of_none t.t hq)]; exact t.t
  r := by rw [upd_ne (ne_of_none t.r hq)]; exact t.r
  n := t.n
  ne := t.ne
  k := t.k
  nd := t.nd
  s := t.s.keep fun o u h => by rw [upd_ne (ne_of_none h hq)]; exact h
  sl := t.sl
  tb := t.tb.ext fun b o h => by rw [upd_ne (ne_of_none h hq)]; exact h
theorem TownOk.neT (t : TownOk C τ H) {q : Addr} (hq : H q = none) : q ≠ C.aT := fun e => by rw [e, t.t] at hq; cases hq
theorem TownOk.neR (t : TownOk C τ H) {q : Addr} (hq : H q = none) : q ≠ C.aR := fun e => by rw [e, t.r] at hq; cases hq
theorem DR.notDict {v : V} {x : PyData} (h : DR C G v x) (hd : isDict x = false) : Dq C.K G v x := by
  rcases h with h | ⟨a, kvs, _, e, _⟩
  · exact h
  · rw [e] at hd; cases hd
def isL : PyData → Bool
  | .list _ => true
  | _ => false
theorem Top.flat {v : V} {x : PyData} (h : Top C G H v x) (hd : isDict x = false) (hl : isL x = false) : Dq C.K G v x := by
  rcases h with h | ⟨a, _, _, _, nt, h⟩
  · exact h.notDict hd
  · cases x with
    | list _ => cases hl
    | dict _ => cases hd
    | tuple _ => cases nt
    | _ => exact h.elim
theorem Top.int {v : V} {i : Int} (h : Top C G H v (.int i)) : v = .int i := by
  cases h.flat rfl rfl
  rfl
theorem Top.bool {v : V} {b : Bool} (h : Top C G H v (.bool b)) : v = .bl b := by
  cases h.flat rfl rfl
  rfl
theorem Top.str {v : V} {z : Str} (h : Top C G H v (.str z)) : v = .str z := by
  cases h.flat rfl rfl
  rfl
theorem Top.none {v : V} (h : Top C G H v .none) : v = .non := by
  cases h.flat rfl rfl
  rfl
theorem Top.tup {v : V} {ds : List PyData} (h : Top C G H v (.tuple ds)) : ∃ a xs, v = .ref a ∧ SqT C.K G a xs ∧ DqAll C.K G xs ds := by
  cases h.flat rfl rfl with
  | tup h1 h2 => exact ⟨_, _, rfl, h1, h2⟩
theorem Top.lst {v : V} {ds : List PyData} (s : ∀ a o, G a = some o → H a = some o) (h : Top C G H v (.list ds)) : ∃ a xs, v = .ref a ∧ H a = some (.lst xs) ∧ DqAll C.K G xs ds := by
  rcases h with h | ⟨a, e, _, _, _, xs, h1, h2⟩
  · cases h.notDict rfl with
    | lst h1 h2 => exact ⟨_, _, rfl, s _ _ h1, h2⟩
  · exact ⟨a, xs, e, h1, h2⟩
theorem Top.dp (s : ∀ a o, G a = some o → H a = some o) {v : V} {x : PyData} (h : Top C G H v x) (hd : isDict x = false) : Dp C.K H v x := by
  rcases h with h | ⟨a, e, _, _, nt, h⟩
  · exact (Dq.mono s (h.notDict hd)).dp
  · subst e
    cases x with
    | list ds =>
      obtain ⟨xs, h1, h2⟩ := h
      exact .lst (SqL.of h1) (DqAll.mono s h2).dp
    | dict _ => cases hd
    | tuple _ => cases nt
    | _ => exact h.elim
/-- the result of an operation that makes new lists -/
def RsD (C : Cf) (H G' H' : Hp) (v : V) (z : PyData) : Prop := if isL z = true then FreshV C H G' H' v (.d z) else VR C G' v (.d z)
theorem RsD.flat {G' H' : Hp} {v : V} {z : PyData} (h : Dq C.K G' v z) (hl : isL z = false) : RsD C H G' H' v z := by
  unfold RsD
  rw [hl, if_neg Bool.false_ne_true]
  exact .inl h
theorem RsD.list {G' H' : Hp} {a : Addr} {xs : List V} {ds : List PyData} (h1 : H a = none) (h2 : G' a = none) (n1 : a ≠ C.aT) (n2 : a ≠ C.aR) (h3 : H' a = some (.lst xs)) (h4 : DqAll C.K G' xs ds) : RsD C H G' H' (.ref a) (.list ds) := by
  show (if true = true then FreshV C H G' H' (.ref a) (.d (.list ds)) else _)
  rw [if_pos rfl]
  exact ⟨a, .list ds, rfl, rfl, h1, h2, n1, n2, rfl, xs, h3, h4⟩
def OpK (C : Cf) (τ : Town) (G H : Hp) (z : PyData) (Q : VK) : Prop := ∀ v G' H', Grow C G H G' H' → TownOk C τ H' → RsD C H G' H' v z → Q v H'
/-- where a rule begins: what is known of the heap -/
structure At (C : Cf) (τ : Town) (G H : Hp) : Prop where
  s : ∀ a o, G a = some o → H a = some o
  t : TownOk C τ H
  gt : G C.aT = none
  gr : G C.aR = none
theorem SR.at {G₀ H₀ : Hp} {ρ : Ev} {σ : L2.St} (S : SR C G₀ H₀ ρ τ G H σ) : At C τ G H := ⟨S.sub, S.tw, S.gt, S.gr⟩
theorem At.free (A : At C τ G H) {q : Addr} (hq : H q = none) : G q = none := by
  cases e : G q with
  | none => rfl
  | some o => rw [A.s q o e] at hq; cases hq
theorem OpK.here {z : PyData} {Q : VK} {v : V} (A : At C τ G H) (k : OpK C τ G H z Q) (h : Dq C.K G v z) (hl : isL z = false) : Q v H := k v G H (Grow.refl A.s) A.t (RsD.flat h hl)
theorem OpK.newT {ds : List PyData} {Q : VK} {xs : List V} (A : At C τ G H) (k : OpK C τ G H (.tuple ds) Q) (h : DqAll C.K G xs ds) : ∀ q, H q = none → Q (.ref q) (upd H q (.tup xs)) := fun q hq =>
  k _ (upd G q (.tup xs)) _ (Grow.newF A.s hq) (A.t.new hq) (RsD.flat (.tup (SqT.of upd_same) (DqAll.mono (fun a u e => by rw [upd_ne (ne_of_none (A.s a u e) hq)]; exact e) h)) rfl)
theorem OpK.newL {ds : List PyData} {Q : VK} {xs : List V} (A : At C τ G H) (k : OpK C τ G H (.list ds) Q) (h : DqAll C.K G xs ds) : ∀ q, H q = none → Q (.ref q) (upd H q (.lst xs)) := fun q hq =>
  k _ G _ (Grow.newO A.s hq) (A.t.new hq) (RsD.list hq (A.free hq) (A.t.neT hq) (A.t.neR hq) upd_same h)
end
/-- two values that stand for data -/
def rTwo (C : Cf) (f : PyData → PyData → Option PyData) : R2 := fun x y H Q => ∃ τ G dx dy z, At C τ G H ∧ Top C G H x dx ∧ Top C G H y dy ∧ f dx dy = some z ∧ OpK C τ G H z Q
section
variable {X : Cx} {C : Cf}
theorem op_addD (hK : X.K = C.K) : OpR X (binaryOp .Add) (rTwo C addD) := by
  intro pins s σ H x y v u Q I rx ry h
  obtain ⟨τ, G, dx, dy, z, A, tx, ty, hz, k⟩ := h
  cases dx with
  | int i =>
    cases dy with
    | int j =>
      cases hz
      cases tx.int
      cases ty.int
      exact op_add pins s σ H _ _ v u Q I rx ry ⟨i, j, rfl, rfl, k.here A (.int _) rfl⟩
    | _ => cases hz
  | str i =>
    cases dy with
    | str j =>
      cases tx.str
      cases ty.str
      obtain ⟨hl, rfl⟩ := iteS (show (if i.length + j.length ≤ sizeLine then some (PyData.str (i ++ j)) else none) = some z from hz)
      exact op_add_str pins s σ H _ _ v u Q I rx ry ⟨i, j, rfl, rfl, hl, k.here A (.str _) rfl⟩
    | _ => cases hz
  | tuple ds =>
    cases dy with
    | tuple es =>
      obtain ⟨a, xs, rfl, h1, h2⟩ := tx.tup
      obtain ⟨b, ys, rfl, h3, h4⟩ := ty.tup
      obtain ⟨hl, rfl⟩ := iteS (show (if ds.length + es.length ≤ sizeLine then some (PyData.tuple (ds ++ es)) else none) = some z from hz)
      refine op_catA pins s σ H _ _ v u Q I rx ry ⟨a, b, xs, ys, rfl, rfl, by rw [hK]; exact SqT.mono A.s h1, by rw [hK]; exact SqT.mono A.s h3, by rw [h2.length, h4.length]; exact hl, fun e => ?_, fun _ e => ?_, fun _ _ => k.newT A (h2.app h4)⟩
      · subst e
        cases h2
        exact k.here A (.tup h3 h4) rfl
      · subst e
        cases h4
        rw [List.append_nil] at k
        exact k.here A (.tup h1 h2) rfl
    | _ => cases hz
  | list ds =>
    cases dy with
    | list es =>
      obtain ⟨a, xs, rfl, h1, h2⟩ := tx.lst A.s
      obtain ⟨b, ys, rfl, h3, h4⟩ := ty.lst A.s
      obtain ⟨hl, rfl⟩ := iteS (show (if ds.length + es.length ≤ sizeLine then some (PyData.list (ds ++ es)) else none) = some z from hz)
      exact op_cat pins s σ H _ _ v u Q I rx ry ⟨a, b, xs, ys, rfl, rfl, h1, h3, by rw [h2.length, h4.length]; exact hl, k.newL A (h2.app h4)⟩
    | _ => cases hz
  | _ => cases hz
theorem op_subD : OpR X (binaryOp .Sub) (rTwo C subD) := by
  intro pins s σ H x y v u Q I rx ry h
  obtain ⟨τ, G, dx, dy, z, A, tx, ty, hz, k⟩ := h
  cases dx with
  | int i =>
    cases dy with
    | int j =>
      cases hz
      cases tx.int
      cases ty.int
      exact op_sub pins s σ H _ _ v u Q I rx ry ⟨i, j, rfl, rfl, k.here A (.int _) rfl⟩
    | _ => cases hz
  | _ => cases hz
theorem op_modD : OpR X (binaryOp .Mod) (rTwo C modD) := by
  intro pins s σ H x y v u Q I rx ry h
  obtain ⟨τ, G, dx, dy, z, A, tx, ty, hz, k⟩ := h
  cases dx with
  | int i =>
    cases dy with
    | int j =>
      obtain ⟨hl, rfl⟩ := iteS (show (if 0 < j then some (PyData.int (i % j)) else none) = some z from hz)
      cases tx.int
      cases ty.int
      exact op_mod pins s σ H _ _ v u Q I rx ry ⟨i, j, rfl, rfl, hl, k.here A (.int _) rfl⟩
    | _ => cases hz
  | _ => cases hz
theorem op_fdivD : OpR X (binaryOp .FloorDiv) (rTwo C fdivD) := by
  intro pins s σ H x y v u Q I rx ry h
  obtain ⟨τ, G, dx, dy, z, A, tx, ty, hz, k⟩ := h
  cases dx with
  | int i =>
    cases dy with
    | int j =>
      obtain ⟨hl, rfl⟩ := iteS (show (if 0 < j ∧ j < 1073741824 then some (PyData.int (i / j)) else none) = some z from hz)
      cases tx.int
      cases ty.int
      exact op_fdiv pins s σ H _ _ v u Q I rx ry ⟨i, j, rfl, rfl, hl, k.here A (.int _) rfl⟩
    | _ => cases hz
  | _ => cases hz
/-- a tuple, once -/
theorem tuple_mul1 (l : Addr) (items : Array Value) (n : Nat) (dd : Option Addr) (sl : Array (Option Value)) (u : Tok) :
    Meets (Builtin.«tuple.__mul__» ⟨[.ref l, .int 1 u], []⟩) (fun _ R s => s.heap.get? l = some { cls := .type "tuple", dict := dd, data := .seq items n, slots := sl } ∧ R (.ok (.ret (Value.ref l))) s) :=
  .of_wp fun prog w A R s h => by
    obtain ⟨hp, g, d, tk, os⟩ := s
    obtain ⟨hl, h⟩ := h
    have f1 := AutoSeq1.idx_int
    have b1 : (items.isEmpty || (1 : Int) == 1) = true := by simp
    wp_walk using wpAny_loadPart' hl
    exact ⟨_, rfl, h⟩
theorem op_rep1 : OpR X (binaryOp .Mult) (fun x y H Q => ∃ l xs, x = .ref l ∧ y = .int 1 ∧ SqT X.K H l xs ∧ Q (.ref l) H) := by
  intro pins s σ H x y v u Q I rx ry h
  obtain ⟨l, xs, rfl, rfl, hT, q⟩ := h
  cases rx
  obtain ⟨t, rfl⟩ := ry
  obtain ⟨its, r, ⟨⟨cls, dd, data, sl⟩, ho, hc, n, hd⟩, hs⟩ := I.tuple hT
  simp only at hc hd
  subst hc hd
  exact wpAny_binaryOp_repeat_ref (T := "tuple") (U := "int") (by decide) ⟨_, ho, rfl⟩ (fun s' => typeIs_int s' 1 t) noFill_tuple_mul F.fills_int_mul F.slot_int_rmul repeat_tuple F.slot_int_index.lookup
    (call_meets F.slot_int_rmul (typeIs_int s 1 t) F.entry_int_rmul (F.args_int_rmul_2 _ _) (int_rmul_tuple 1 t l its.toArray n dd sl)
      ⟨ho, rfl, ⟨_, ho, rfl⟩, call_meets F.slot_tuple_mul ⟨_, ho, rfl⟩ F.entry_tuple_mul (F.args_tuple_mul_2 _ _) (tuple_mul1 l its.toArray n dd sl t) ⟨ho, .ref l, H, I, rfl, q⟩⟩)
theorem rep_one {α : Type} (xs : List α) : (List.replicate (1 : Int).toNat xs).flatten = xs := by simp
theorem op_mulD (hK : X.K = C.K) : OpR X (binaryOp .Mult) (rTwo C mulD) := by
  intro pins s σ H x y v u Q I rx ry h
  obtain ⟨τ, G, dx, dy, z, A, tx, ty, hz, k⟩ := h
  cases dx with
  | tuple ds =>
    cases dy with
    | int j =>
      obtain ⟨⟨h1, h2, h3, h4⟩, rfl⟩ := iteS (show (if 1 ≤ j ∧ j ≤ 1000 ∧ ds.length ≤ 1000 ∧ ds ≠ [] then some (PyData.tuple (List.replicate j.toNat ds).flatten) else none) = some z from hz)
      obtain ⟨a, xs, rfl, h5, h6⟩ := tx.tup
      cases ty.int
      by_cases hj : j = 1
      · subst hj
        rw [rep_one] at k
        exact op_rep1 pins s σ H _ _ v u Q I rx ry ⟨a, xs, rfl, rfl, by rw [hK]; exact SqT.mono A.s h5, k.here A (.tup h5 h6) rfl⟩
      · refine op_repT pins s σ H _ _ v u Q I rx ry ⟨a, j, xs, rfl, rfl, by rw [hK]; exact SqT.mono A.s h5, fun e => ?_, by omega, h2, by rw [h6.length]; exact h3, k.newT A (h6.rep _)⟩
        subst e
        cases h6
        exact h4 rfl
    | _ => cases hz
  | list ds =>
    cases dy with
    | int j =>
      obtain ⟨⟨h1, h2, h3⟩, rfl⟩ := iteS (show (if 1 ≤ j ∧ j ≤ 1000 ∧ ds.length ≤ 1000 then some (PyData.list (List.replicate j.toNat ds).flatten) else none) = some z from hz)
      obtain ⟨a, xs, rfl, h5, h6⟩ := tx.lst A.s
      cases ty.int
      refine op_rep pins s σ H _ _ v u Q I rx ry ⟨a, j, xs, rfl, rfl, h5, by omega, by omega, ?_, k.newL A (h6.rep _)⟩
      have e1 : xs.length * j.toNat ≤ 1000 * 1000 := Nat.mul_le_mul (by rw [h6.length]; exact h3) (by omega)
      rw [sizeLine_eq]
      omega
    | _ => cases hz
  | _ => cases hz
def opOf : BOp → Operator
  | .add => .Add
  | .sub => .Sub
  | .mul => .Mult
  | .mod => .Mod
  | .fdiv => .FloorDiv
theorem op_binD (hK : X.K = C.K) (op : BOp) : OpR X (binaryOp (opOf op)) (rTwo C (binD op)) := by
  cases op with
  | add => exact op_addD hK
  | sub => exact op_subD
  | mul => exact op_mulD hK
  | mod => exact op_modD
  | fdiv => exact op_fdivD
/-! ### comparisons -/
def rCm (C : Cf) (op : COp) : R2 := fun x y H Q => ∃ τ G dx dy b, At C τ G H ∧ Top C G H x dx ∧ Top C G H y dy ∧ isDict dx = false ∧ cmpU op dx dy = some b ∧ Q (.bl b) H
def cmOf : COp → CmpOp
  | .eq => .Eq
  | .ne => .NotEq
  | .lt => .Lt
  | .le => .LtE
  | .gt => .Gt
  | .ge => .GtE
  | .isN => .Is
  | .notN => .IsNot
  | .mem => .In
  | .nmem => .NotIn
theorem shaped_nd {x : PyData} (h : shapedB x = true) : isDict x = false := by
  cases x with
  | dict kvs => exact absurd h (by unfold shapedB; simp [PyData.plain])
  | _ => rfl
theorem shaped_of {x : PyData} (h : shapedB x = true) : x.plain = true ∧ x.depth ≤ 64 := by
  unfold shapedB at h
  rw [Bool.and_eq_true, decide_eq_true_eq] at h
  exact h
/-- == and != of data -/
def rEqP (K : PySem.W.Frag) (n : Bool) : R2 := fun x y H Q => ∃ d e, Dp K H x d ∧ Dp K H y e ∧ shapedB d = true ∧ shapedB e = true ∧ Q (.bl (if n = true then !PyData.eqv d e else PyData.eqv d e)) H
theorem op_eqP (hu : X.A.units + 64 < cLine) : OpR X (compareOp .Eq) (rEqP X.K false) := by
  intro pins s σ H x y v u Q I rx ry h
  obtain ⟨d, e, hd, he, sd, se, q⟩ := h
  obtain ⟨as, r1⟩ := Dp.reads I d x v hd rx
  obtain ⟨bs, r2⟩ := Dp.reads I e y u he ry
  have l := (shaped_of sd).2
  have m := Nat.min_le_left d.depth e.depth
  exact SeqAt.eq_plain r1 r2 (shaped_of sd).1 (shaped_of se).1 (by omega) ⟨.bl _, H, I, rfl, q⟩
theorem op_neP (hu : X.A.units + 64 < cLine) : OpR X (compareOp .NotEq) (rEqP X.K true) := by
  intro pins s σ H x y v u Q I rx ry h
  obtain ⟨d, e, hd, he, sd, se, q⟩ := h
  obtain ⟨as, r1⟩ := Dp.reads I d x v hd rx
  obtain ⟨bs, r2⟩ := Dp.reads I e y u he ry
  have l := (shaped_of sd).2
  have m := Nat.min_le_left d.depth e.depth
  exact SeqAt.ne_plain r1 r2 (shaped_of sd).1 (shaped_of se).1 (by omega) ⟨.bl _, H, I, rfl, q⟩
/-- k in d, k not in d -/
def rInD (C : Cf) (n : Bool) : R2 := fun x y H Q => ∃ τ G dx kvs, At C τ G H ∧ Top C G H x dx ∧ Top C G H y (.dict kvs) ∧ keyOk dx = true ∧ Q (.bl (if n = true then !(lookD dx kvs).isSome else (lookD dx kvs).isSome)) H
/-- in and not in, of a list or a tuple -/
def rInP (K : PySem.W.Frag) (n : Bool) : R2 := fun x y H Q => ∃ d ds z, Dp K H x d ∧ Dp K H y z ∧ (z = .list ds ∨ z = .tuple ds) ∧ shapedB d = true ∧ shapedB z = true ∧ Q (.bl (if n = true then !(ds.any fun c => PyData.eqv c d) else ds.any fun c => PyData.eqv c d)) H
theorem op_inP (hu : X.A.units + 65 < cLine) : OpR X (compareOp .In) (rInP X.K false) := by
  intro pins s σ H x y v u Q I rx ry h
  obtain ⟨d, ds, z, hd, he, hz, sd, se, q⟩ := h
  obtain ⟨as, r1⟩ := Dp.reads I d x v hd rx
  obtain ⟨bs, r2⟩ := Dp.reads I z y u he ry
  have l := (shaped_of sd).2
  have m := Nat.min_le_right (PyData.depthAll ds) d.depth
  rcases hz with rfl | rfl
  · exact SeqAt.in_list_data r2 r1 (by simpa [PyData.plain] using (shaped_of se).1) (shaped_of sd).1 (by omega) ⟨.bl _, H, I, rfl, q⟩
  · exact SeqAt.in_tuple_data r2 r1 (by simpa [PyData.plain] using (shaped_of se).1) (shaped_of sd).1 (by omega) ⟨.bl _, H, I, rfl, q⟩
theorem op_notInP (hu : X.A.units + 65 < cLine) : OpR X (compareOp .NotIn) (rInP X.K true) := by
  intro pins s σ H x y v u Q I rx ry h
  obtain ⟨d, ds, z, hd, he, hz, sd, se, q⟩ := h
  obtain ⟨as, r1⟩ := Dp.reads I d x v hd rx
  obtain ⟨bs, r2⟩ := Dp.reads I z y u he ry
  have l := (shaped_of sd).2
  have m := Nat.min_le_right (PyData.depthAll ds) d.depth
  rcases hz with rfl | rfl
  · exact SeqAt.notIn_list_data r2 r1 (by simpa [PyData.plain] using (shaped_of se).1) (shaped_of sd).1 (by omega) ⟨.bl _, H, I, rfl, q⟩
  · exact SeqAt.notIn_tuple_data r2 r1 (by simpa [PyData.plain] using (shaped_of se).1) (shaped_of sd).1 (by omega) ⟨.bl _, H, I, rfl, q⟩
theorem op_ltD (hK : X.K = C.K) (hu : X.A.units + 64 < cLine) : OpR X (compareOp .Lt) (rCm C .lt) := by
  intro pins s σ H x y v u Q I rx ry h
  obtain ⟨τ, G, dx, dy, b, A, tx, ty, nd, hz, q⟩ := h
  cases dx with
  | int i =>
    cases dy with
    | int j =>
      cases hz
      cases tx.int
      cases ty.int
      exact op_lt pins s σ H _ _ v u Q I rx ry ⟨i, j, rfl, rfl, q⟩
    | _ => cases hz
  | tuple ds =>
    cases dy with
    | tuple es =>
      obtain ⟨⟨h1, h2, h3⟩, rfl⟩ := iteS (show (if PySem.W.alikeAll ds es = true ∧ (PyData.tuple ds).depth ≤ 64 ∧ (PyData.tuple es).depth ≤ 64 then some (PySem.W.dataLt (.tuple ds) (.tuple es)) else none) = some b from hz)
      have p1 : Dp X.K H x (.tuple ds) := by rw [hK]; exact tx.dp A.s rfl
      have p2 : Dp X.K H y (.tuple es) := by rw [hK]; exact ty.dp A.s rfl
      obtain ⟨as, r1⟩ := Dp.reads I _ _ _ p1 rx
      obtain ⟨bs, r2⟩ := Dp.reads I _ _ _ p2 ry
      refine PySem.W.rcLt_alike (.tuple ds) (.tuple es) X.A s v u as bs r1 r2 (by rw [PySem.W.alike]; exact h1) (by simp) ?_ X.prog X.w X.xe _ (fin_bl I q rfl)
      have e := Nat.min_le_left (PyData.tuple ds).depth (PyData.tuple es).depth
      omega
    | _ => cases hz
  | _ => cases hz
theorem op_cmpD (hK : X.K = C.K) (hu : X.A.units + 65 < cLine) (hdi : OpR X (compareOp .In) (rInD C false)) (hdn : OpR X (compareOp .NotIn) (rInD C true)) (op : COp) : OpR X (compareOp (cmOf op)) (rCm C op) := by
  cases op with
  | lt => exact op_ltD hK (by omega)
  | eq =>
    intro pins s σ H x y v u Q I rx ry h
    obtain ⟨τ, G, dx, dy, b, A, tx, ty, nd, hz, q⟩ := h
    obtain ⟨⟨h1, h2⟩, rfl⟩ := iteS (show (if shapedB dx = true ∧ shapedB dy = true then some (PyData.eqv dx dy) else none) = some b from hz)
    exact op_eqP (by omega) pins s σ H _ _ v u Q I rx ry ⟨dx, dy, by rw [hK]; exact tx.dp A.s nd, by rw [hK]; exact ty.dp A.s (shaped_nd h2), h1, h2, q⟩
  | ne =>
    intro pins s σ H x y v u Q I rx ry h
    obtain ⟨τ, G, dx, dy, b, A, tx, ty, nd, hz, q⟩ := h
    have hz : (if shapedB dx = true ∧ shapedB dy = true then some (PyData.eqv dx dy) else none).map (!·) = some b := hz
    obtain ⟨c, hc, rfl⟩ := Option.map_eq_some_iff.mp hz
    obtain ⟨⟨h1, h2⟩, rfl⟩ := iteS hc
    exact op_neP (by omega) pins s σ H _ _ v u Q I rx ry ⟨dx, dy, by rw [hK]; exact tx.dp A.s nd, by rw [hK]; exact ty.dp A.s (shaped_nd h2), h1, h2, q⟩
  | gt =>
    intro pins s σ H x y v u Q I rx ry h
    obtain ⟨τ, G, dx, dy, b, A, tx, ty, nd, hz, q⟩ := h
    cases dx with
    | int i =>
      cases dy with
      | int j =>
        cases hz
        cases tx.int
        cases ty.int
        exact op_gt pins s σ H _ _ v u Q I rx ry ⟨i, j, rfl, rfl, q⟩
      | _ => cases hz
    | _ => cases hz
  | ge =>
    intro pins s σ H x y v u Q I rx ry h
    obtain ⟨τ, G, dx, dy, b, A, tx, ty, nd, hz, q⟩ := h
    cases dx with
    | int i =>
      cases dy with
      | int j =>
        cases hz
        cases tx.int
        cases ty.int
        exact op_ge pins s σ H _ _ v u Q I rx ry ⟨i, j, rfl, rfl, q⟩
      | _ => cases hz
    | _ => cases hz
  | isN =>
    intro pins s σ H x y v u Q I rx ry h
    obtain ⟨τ, G, dx, dy, b, A, tx, ty, nd, hz, q⟩ := h
    cases dy with
    | none =>
      cases (show some (isNoneD dx) = some b from hz)
      cases ty.none
      refine op_isN pins s σ H _ _ v u Q I rx ry ⟨rfl, ?_⟩
      have e : decide (x = .non) = isNoneD dx := by
        have p1 := tx.dp A.s nd
        cases p1 <;> simp [isNoneD]
      rw [e]
      exact q
    | bool d =>
      cases dx with
      | bool c =>
        cases (show some (decide (c = d)) = some b from hz)
        cases tx.bool
        cases ty.bool
        exact op_isBl pins s σ H _ _ v u Q I rx ry ⟨c, d, rfl, rfl, q⟩
      | _ => cases hz
    | _ => cases hz
  | notN =>
    intro pins s σ H x y v u Q I rx ry h
    obtain ⟨τ, G, dx, dy, b, A, tx, ty, nd, hz, q⟩ := h
    cases dy with
    | none =>
      cases (show some (!isNoneD dx) = some b from hz)
      cases ty.none
      refine op_notN pins s σ H _ _ v u Q I rx ry ⟨rfl, ?_⟩
      have e : decide (x = .non) = isNoneD dx := by
        have p1 := tx.dp A.s nd
        cases p1 <;> simp [isNoneD]
      rw [e]
      exact q
    | bool d =>
      cases dx with
      | bool c =>
        cases (show some (!decide (c = d)) = some b from hz)
        cases tx.bool
        cases ty.bool
        exact op_notBl pins s σ H _ _ v u Q I rx ry ⟨c, d, rfl, rfl, q⟩
      | _ => cases hz
    | _ => cases hz
  | le =>
    intro pins s σ H x y v u Q I rx ry h
    obtain ⟨τ, G, dx, dy, b, A, tx, ty, nd, hz, q⟩ := h
    cases dx with
    | int i =>
      cases dy with
      | int j =>
        cases hz
        cases tx.int
        cases ty.int
        exact op_le pins s σ H _ _ v u Q I rx ry ⟨i, j, rfl, rfl, q⟩
      | _ => cases hz
    | tuple ds =>
      cases dy with
      | tuple es =>
        obtain ⟨⟨h1, h2, h3⟩, rfl⟩ := iteS (show (if PySem.W.alikeAll ds es = true ∧ (PyData.tuple ds).depth ≤ 64 ∧ (PyData.tuple es).depth ≤ 64 then some (!PySem.W.dataLt (.tuple es) (.tuple ds)) else none) = some b from hz)
        have p1 : Dp X.K H x (.tuple ds) := by rw [hK]; exact tx.dp A.s rfl
        have p2 : Dp X.K H y (.tuple es) := by rw [hK]; exact ty.dp A.s rfl
        obtain ⟨as, r1⟩ := Dp.reads I _ _ _ p1 rx
        obtain ⟨bs, r2⟩ := Dp.reads I _ _ _ p2 ry
        refine PySem.W.le_data (da := .tuple ds) (db := .tuple es) r1 r2 (by rw [PySem.W.alike]; exact h1) (by simp) ?_ (fin_bl I q rfl)
        have e := Nat.min_le_left (PyData.tuple ds).depth (PyData.tuple es).depth
        omega
      | _ => cases hz
    | _ => cases hz
  | mem =>
    intro pins s σ H x y v u Q I rx ry h
    obtain ⟨τ, G, dx, dy, b, A, tx, ty, nd, hz, q⟩ := h
    cases dy with
    | list ds =>
      obtain ⟨⟨h1, h2⟩, rfl⟩ := iteS (show (if shapedB dx = true ∧ shapedB (.list ds) = true then some (ds.any fun z => PyData.eqv z dx) else none) = some b from hz)
      exact op_inP (by omega) pins s σ H _ _ v u Q I rx ry ⟨dx, ds, _, by rw [hK]; exact tx.dp A.s nd, by rw [hK]; exact ty.dp A.s rfl, .inl rfl, h1, h2, q⟩
    | tuple ds =>
      obtain ⟨⟨h1, h2⟩, rfl⟩ := iteS (show (if shapedB dx = true ∧ shapedB (.tuple ds) = true then some (ds.any fun z => PyData.eqv z dx) else none) = some b from hz)
      exact op_inP (by omega) pins s σ H _ _ v u Q I rx ry ⟨dx, ds, _, by rw [hK]; exact tx.dp A.s nd, by rw [hK]; exact ty.dp A.s rfl, .inr rfl, h1, h2, q⟩
    | dict kvs =>
      obtain ⟨h1, rfl⟩ := iteS (show (if keyOk dx = true then some (lookD dx kvs).isSome else none) = some b from hz)
      exact hdi pins s σ H _ _ v u Q I rx ry ⟨τ, G, dx, kvs, A, tx, ty, h1, q⟩
    | _ => cases hz
  | nmem =>
    intro pins s σ H x y v u Q I rx ry h
    obtain ⟨τ, G, dx, dy, b, A, tx, ty, nd, hz, q⟩ := h
    obtain ⟨c, hc, rfl⟩ := Option.map_eq_some_iff.mp (show (memD dx dy).map (!·) = some b from hz)
    cases dy with
    | list ds =>
      obtain ⟨⟨h1, h2⟩, rfl⟩ := iteS (show (if shapedB dx = true ∧ shapedB (.list ds) = true then some (ds.any fun z => PyData.eqv z dx) else none) = some c from hc)
      exact op_notInP (by omega) pins s σ H _ _ v u Q I rx ry ⟨dx, ds, _, by rw [hK]; exact tx.dp A.s nd, by rw [hK]; exact ty.dp A.s rfl, .inl rfl, h1, h2, q⟩
    | tuple ds =>
      obtain ⟨⟨h1, h2⟩, rfl⟩ := iteS (show (if shapedB dx = true ∧ shapedB (.tuple ds) = true then some (ds.any fun z => PyData.eqv z dx) else none) = some c from hc)
      exact op_notInP (by omega) pins s σ H _ _ v u Q I rx ry ⟨dx, ds, _, by rw [hK]; exact tx.dp A.s nd, by rw [hK]; exact ty.dp A.s rfl, .inr rfl, h1, h2, q⟩
    | dict kvs =>
      obtain ⟨h1, rfl⟩ := iteS (show (if keyOk dx = true then some (lookD dx kvs).isSome else none) = some c from hc)
      exact hdn pins s σ H _ _ v u Q I rx ry ⟨τ, G, dx, kvs, A, tx, ty, h1, q⟩
    | _ => cases hc
end
end Bk
namespace Bk
open PySem PySem.Spec PyProof.Rows L2
section
variable {C : Cf} {G H : Hp} {K : PySem.W.Frag}
theorem atI_rel {vs : List V} {ds : List PyData} {i : Int} {d : PyData} (h : DqAll K G vs ds) (e : atI ds i = some d) : ∃ v, atI vs i = some v ∧ Dq K G v d := by
  unfold atI at e ⊢
  rw [h.length]
  cases q : ixN ds.length i with
  | none => rw [q] at e; cases e
  | some j =>
    rw [q] at e
    have e : ds[j]? = some d := e
    have hj : j < vs.length := by
      rw [h.length]
      exact (List.getElem?_eq_some_iff.mp e).1
    exact ⟨vs[j], by show vs[j]? = _; simp [hj], h.get (by simp [hj]) e⟩
theorem cutV_rel {vs : List V} {ds : List PyData} (h : DqAll K G vs ds) (lo hi : Option Int) : DqAll K G (cutV vs lo hi) (cutL ds lo hi) := by
  unfold cutV cutL
  rw [h.length]
  exact (h.drop _).take _
end
/-- what is read as it stands: an item, what a dict holds -/
def rOld (C : Cf) (f : PyData → PyData → Option PyData) : R2 := fun x y H Q => ∃ τ G dx dy z, At C τ G H ∧ Top C G H x dx ∧ Top C G H y dy ∧ isDict dx = false ∧ f dx dy = some z ∧ ∀ v, VR C G v (.d z) → Q v H
section
variable {X : Cx} {C : Cf}
theorem ix_data (hK : X.K = C.K) : IxR X (rOld C subAt) := by
  intro value slice pins s σ H x y v u Q I rx ry h hs
  obtain ⟨τ, G, dx, dy, z, A, tx, ty, nd, hz, k⟩ := h
  cases dx with
  | tuple ds =>
    cases dy with
    | int i =>
      obtain ⟨a, xs, rfl, h1, h2⟩ := tx.tup
      cases ty.int
      obtain ⟨w', e, r⟩ := atI_rel h2 (show atI ds i = some z from hz)
      exact ix_tup value slice pins s σ H _ _ v u Q I rx ry ⟨a, xs, i, w', rfl, rfl, by rw [hK]; exact SqT.mono A.s h1, e, k _ (.inl r)⟩ hs
    | _ => cases hz
  | list ds =>
    cases dy with
    | int i =>
      obtain ⟨a, xs, rfl, h1, h2⟩ := tx.lst A.s
      cases ty.int
      obtain ⟨w', e, r⟩ := atI_rel h2 (show atI ds i = some z from hz)
      exact ix_list value slice pins s σ H _ _ v u Q I rx ry ⟨a, xs, i, w', rfl, rfl, SqL.of h1, e, k _ (.inl r)⟩ hs
    | _ => cases hz
  | str t =>
    cases dy with
    | int i =>
      cases tx.str
      cases ty.int
      obtain ⟨hl, e⟩ : t.length ≤ sizeLine ∧ (atI t.cps.toList i).map (fun c => PyData.str ⟨#[c]⟩) = some z := by
        have hz : (if t.length ≤ sizeLine then (atI t.cps.toList i).map (fun c => PyData.str ⟨#[c]⟩) else none) = some z := hz
        by_cases hl : t.length ≤ sizeLine
        · rw [if_pos hl] at hz
          exact ⟨hl, hz⟩
        · rw [if_neg hl] at hz
          cases hz
      obtain ⟨c, hc, rfl⟩ := Option.map_eq_some_iff.mp e
      exact ix_str value slice pins s σ H _ _ v u Q I rx ry ⟨t, i, c, rfl, rfl, hl, hc, k _ (.inl (.str _))⟩ hs
    | _ => cases hz
  | dict kvs => cases nd
  | _ => cases hz
def rSl (C : Cf) : V → Option Int → Option Int → Hp → VK → Prop := fun x lo hi H Q => ∃ τ G dx z, At C τ G H ∧ Top C G H x dx ∧ slcD dx lo hi = some z ∧ OpK C τ G H z Q
theorem sl_data (hK : X.K = C.K) : SlR X (rSl C) := by
  intro pins s σ H x v vl vu lo hi sl Q I rx hs pl pu h
  obtain ⟨τ, G, dx, z, A, tx, hz, k⟩ := h
  cases dx with
  | tuple ds =>
    cases hz
    obtain ⟨a, xs, rfl, h1, h2⟩ := tx.tup
    refine sl_tupA pins s σ H _ v vl vu lo hi sl Q I rx hs pl pu ⟨a, xs, rfl, by rw [hK]; exact SqT.mono A.s h1, fun e => ?_, fun _ => k.newT A (cutV_rel h2 lo hi)⟩
    have e2 : cutL ds lo hi = ds := by
      unfold cutL
      rw [← h2.length, e.1, e.2, List.drop_zero, Nat.sub_zero, h2.length, List.take_length]
    rw [e2] at k
    exact k.here A (.tup h1 h2) rfl
  | list ds =>
    cases hz
    obtain ⟨a, xs, rfl, h1, h2⟩ := tx.lst A.s
    exact sl_list pins s σ H _ v vl vu lo hi sl Q I rx hs pl pu ⟨a, xs, rfl, SqL.of h1, k.newL A (cutV_rel h2 lo hi)⟩
  | str t =>
    obtain ⟨hl, rfl⟩ := iteS (show (if t.length ≤ sizeLine then some (PyData.str (cutS t lo hi)) else none) = some z from hz)
    cases tx.str
    exact sl_str pins s σ H _ v vl vu lo hi sl Q I rx hs pl pu ⟨t, rfl, hl, k.here A (.str _) rfl⟩
  | _ => cases hz
/-! ### built-ins -/
def r1 (C : Cf) (f : PyData → Option PyData) : List V → Hp → VK → Prop := fun xs H Q => ∃ τ G x dx z, xs = [x] ∧ At C τ G H ∧ Top C G H x dx ∧ f dx = some z ∧ OpK C τ G H z Q
theorem cr_len (hK : X.K = C.K) : CallR X (.builtin "len") (r1 C (b1D .len)) := by
  intro pins s σ H xs us Q I r h
  obtain ⟨τ, G, x, dx, z, rfl, A, tx, hz, k⟩ := h
  obtain ⟨n, hn, rfl⟩ := Option.map_eq_some_iff.mp (show (lenD dx).map (fun n => PyData.int (n : Nat)) = some z from hz)
  cases dx with
  | tuple ds =>
    cases hn
    obtain ⟨a, ys, rfl, h1, h2⟩ := tx.tup
    refine call_len_seq pins s σ H _ us Q I r ⟨a, ys, rfl, .inr (by rw [hK]; exact SqT.mono A.s h1), ?_⟩
    rw [h2.length]
    exact k.here A (.int _) rfl
  | list ds =>
    cases hn
    obtain ⟨a, ys, rfl, h1, h2⟩ := tx.lst A.s
    refine call_len_seq pins s σ H _ us Q I r ⟨a, ys, rfl, .inl (SqL.of h1), ?_⟩
    rw [h2.length]
    exact k.here A (.int _) rfl
  | str t =>
    obtain ⟨hl, rfl⟩ := iteS (show (if t.length ≤ sizeLine then some t.length else none) = some n from hn)
    cases tx.str
    exact call_len_str pins s σ H _ us Q I r ⟨t, rfl, hl, k.here A (.int _) rfl⟩
  | _ => cases hn
theorem cr_list (hK : X.K = C.K) : CallR X (.type "list") (r1 C (b1D .list)) := by
  intro pins s σ H xs us Q I r h
  obtain ⟨τ, G, x, dx, z, rfl, A, tx, hz, k⟩ := h
  cases dx with
  | tuple ds =>
    cases hz
    obtain ⟨a, ys, rfl, h1, h2⟩ := tx.tup
    exact call_list_of pins s σ H _ us Q I r ⟨a, ys, rfl, .inr (by rw [hK]; exact SqT.mono A.s h1), k.newL A h2⟩
  | list ds =>
    cases hz
    obtain ⟨a, ys, rfl, h1, h2⟩ := tx.lst A.s
    exact call_list_of pins s σ H _ us Q I r ⟨a, ys, rfl, .inl (SqL.of h1), k.newL A h2⟩
  | _ => cases hz
theorem cr_tuple (hK : X.K = C.K) : CallR X (.type "tuple") (r1 C (b1D .tuple)) := by
  intro pins s σ H xs us Q I r h
  obtain ⟨τ, G, x, dx, z, rfl, A, tx, hz, k⟩ := h
  cases dx with
  | tuple ds =>
    cases hz
    obtain ⟨a, ys, rfl, h1, h2⟩ := tx.tup
    exact call_tuple_of pins s σ H _ us Q I r ⟨a, ys, rfl, .inr ⟨by rw [hK]; exact SqT.mono A.s h1, k.here A (.tup h1 h2) rfl⟩⟩
  | list ds =>
    cases hz
    obtain ⟨a, ys, rfl, h1, h2⟩ := tx.lst A.s
    exact call_tuple_of pins s σ H _ us Q I r ⟨a, ys, rfl, .inl ⟨SqL.of h1, k.newT A h2⟩⟩
  | _ => cases hz
theorem bools_rel {K : PySem.W.Frag} {G : Hp} : ∀ {vs : List V} {ds : List PyData} {bs : List Bool}, DqAll K G vs ds → boolsD ds = some bs → vs = bs.map V.bl
  | _, _, bs, .nil, h => by
    cases h
    rfl
  | _, _, bs, .cons (d := d) h r, e => by
    cases h with
    | bl b =>
      obtain ⟨cs, hc, rfl⟩ := Option.map_eq_some_iff.mp (show (boolsD _).map (b :: ·) = some bs from e)
      rw [bools_rel r hc]
      rfl
    | _ => cases e
theorem cr_allD (hK : X.K = C.K) (hc : X.calm = true) : CallR X (.builtin "all") (r1 C (b1D .all)) := by
  intro pins s σ H xs us Q I r h
  obtain ⟨τ, G, x, dx, z, rfl, A, tx, hz, k⟩ := h
  cases dx with
  | list ds =>
    obtain ⟨bs, hb, rfl⟩ := Option.map_eq_some_iff.mp (show (boolsD ds).map (fun bs => PyData.bool (bs.all id)) = some z from hz)
    obtain ⟨a, ys, rfl, h1, h2⟩ := tx.lst A.s
    have e := bools_rel h2 hb
    subst e
    exact cr_all hc pins s σ H _ us Q I r ⟨a, bs, rfl, SqL.of h1, k.here A (.bl _) rfl⟩
  | _ => cases hz
/-! ### isinstance -/
def tyN : Ty → String
  | .int => "int"
  | .bool => "bool"
  | .str => "str"
  | .tuple => "tuple"
def rIsiD (C : Cf) (T : Ty) : List V → Hp → VK → Prop := fun xs H Q => ∃ τ G x dx, xs = [x, .ty (tyN T)] ∧ At C τ G H ∧ Top C G H x dx ∧ isDict dx = false ∧ Q (.bl (isiD T dx)) H
theorem kitN (K : PySem.W.Frag) (a : String) (T : Ty) (b : Bool) (h : kitB a (tyN T) = some b) : PySem.W.kitOne K (.type a) (.type (tyN T)) = some b := kit_ty h
theorem cr_isi (hK : X.K = C.K) (T : Ty) : CallR X (.builtin "isinstance") (rIsiD C T) := by
  intro pins s σ H xs us Q I r h
  obtain ⟨τ, G, x, dx, rfl, A, tx, nd, q⟩ := h
  obtain ⟨u1, u2, rfl, r1, r2⟩ := vals2 r
  have e2 : u2 = .type (tyN T) := r2
  subst e2
  have fin : ∀ b : Bool, b = isiD T dx → ∀ tk, EP X pins σ Q (.bool b) { s with toks := tk } := fun b e tk => ⟨.bl b, H, I.tok tk, rfl, by rw [e]; exact q⟩
  have p := tx.dp A.s nd
  cases p with
  | non =>
    cases (show u1 = Value.none from r1)
    exact PySem.W.kia_one PySem.W.kitx_none I.kIn True.intro (kitN _ "NoneType" T _ (by cases T <;> decide +kernel)) (fun z => nomatch z) (fin false (by cases T <;> rfl))
  | bl b =>
    cases (show u1 = Value.bool b from r1)
    cases T with
    | int => exact PySem.W.kia_one PySem.W.kitx_bool I.kIn True.intro (kitN _ "bool" .int true (by decide +kernel)) (fun z => nomatch z) (fin true rfl)
    | bool => exact PySem.W.kia_one PySem.W.kitx_bool I.kIn True.intro (kitN _ "bool" .bool true (by decide +kernel)) (fun z => nomatch z) (fin true rfl)
    | str => exact PySem.W.kia_one PySem.W.kitx_bool I.kIn True.intro (kitN _ "bool" .str false (by decide +kernel)) (fun z => nomatch z) (fin false rfl)
    | tuple => exact PySem.W.kia_one PySem.W.kitx_bool I.kIn True.intro (kitN _ "bool" .tuple false (by decide +kernel)) (fun z => nomatch z) (fin false rfl)
  | int i =>
    obtain ⟨t, rfl⟩ := (show ∃ t, u1 = Value.int i t from r1)
    cases T with
    | int => exact PySem.W.kia_one PySem.W.kitx_int I.kIn True.intro (kitN _ "int" .int true (by decide +kernel)) (fun z => nomatch z) (fin true rfl)
    | bool => exact PySem.W.kia_one PySem.W.kitx_int I.kIn True.intro (kitN _ "int" .bool false (by decide +kernel)) (fun z => nomatch z) (fin false rfl)
    | str => exact PySem.W.kia_one PySem.W.kitx_int I.kIn True.intro (kitN _ "int" .str false (by decide +kernel)) (fun z => nomatch z) (fin false rfl)
    | tuple => exact PySem.W.kia_one PySem.W.kitx_int I.kIn True.intro (kitN _ "int" .tuple false (by decide +kernel)) (fun z => nomatch z) (fin false rfl)
  | str y =>
    obtain ⟨t, rfl⟩ := (show ∃ t, u1 = Value.str y t from r1)
    cases T with
    | int => exact PySem.W.kia_one PySem.W.kitx_str I.kIn True.intro (kitN _ "str" .int false (by decide +kernel)) (fun z => nomatch z) (fin false rfl)
    | bool => exact PySem.W.kia_one PySem.W.kitx_str I.kIn True.intro (kitN _ "str" .bool false (by decide +kernel)) (fun z => nomatch z) (fin false rfl)
    | str => exact PySem.W.kia_one PySem.W.kitx_str I.kIn True.intro (kitN _ "str" .str true (by decide +kernel)) (fun z => nomatch z) (fin true rfl)
    | tuple => exact PySem.W.kia_one PySem.W.kitx_str I.kIn True.intro (kitN _ "str" .tuple false (by decide +kernel)) (fun z => nomatch z) (fin false rfl)
  | @lst a xs ds h1 h2 =>
    cases (show u1 = Value.ref a from r1)
    obtain ⟨its, _, ⟨o, n, h3, h4, _⟩, _⟩ := I.list (by rw [hK]; exact h1)
    exact PySem.W.kia_one PySem.W.kitx_list I.kIn ⟨o, h3, h4⟩ (kitN _ "list" T false (by cases T <;> decide +kernel)) (fun z => nomatch z) (fin false (by cases T <;> rfl))
  | @tup a xs ds h1 h2 =>
    cases (show u1 = Value.ref a from r1)
    obtain ⟨its, _, ⟨o, h3, h4, _⟩, _⟩ := I.tuple (by rw [hK]; exact h1)
    cases T with
    | int => exact PySem.W.kia_one PySem.W.kitx_tuple I.kIn ⟨o, h3, h4⟩ (kitN _ "tuple" .int false (by decide +kernel)) (fun z => nomatch z) (fin false rfl)
    | bool => exact PySem.W.kia_one PySem.W.kitx_tuple I.kIn ⟨o, h3, h4⟩ (kitN _ "tuple" .bool false (by decide +kernel)) (fun z => nomatch z) (fin false rfl)
    | str => exact PySem.W.kia_one PySem.W.kitx_tuple I.kIn ⟨o, h3, h4⟩ (kitN _ "tuple" .str false (by decide +kernel)) (fun z => nomatch z) (fin false rfl)
    | tuple => exact PySem.W.kia_one PySem.W.kitx_tuple I.kIn ⟨o, h3, h4⟩ (kitN _ "tuple" .tuple true (by decide +kernel)) (fun z => nomatch z) (fin true rfl)
end
end Bk
namespace Bk
open PySem PySem.Spec PyProof.Rows L2
abbrev leD2 : PyData → PyData → Bool := PySem.W.dataLe false (fun d : PyData => d)
theorem leD2_eq (a b : PyData) : leD2 a b = !PySem.W.dataLt b a := rfl
theorem leD2_total : PySem.W.TotalLe leD2 := PySem.W.sortLe_total _ false _
theorem ins_pw (x : PyData) : ∀ l : List PyData, l.Pairwise (fun a b => leD2 a b = true) → (insD x l).Pairwise (fun a b => leD2 a b = true) ∧ ∀ y, y ∈ insD x l → y = x ∨ y ∈ l
  | [], _ => ⟨by simp [insD], by simp [insD]⟩
  | y :: r, h => by
    obtain ⟨h1, h2⟩ := List.pairwise_cons.mp h
    unfold insD
    by_cases c : PySem.W.dataLt y x = true
    · rw [if_pos c]
      obtain ⟨i1, i2⟩ := ins_pw x r h2
      refine ⟨List.pairwise_cons.mpr ⟨fun z hz => ?_, i1⟩, fun z hz => ?_⟩
      · rcases i2 z hz with e | e
        · subst e
          rcases leD2_total.total y z with t | t
          · exact t
          · rw [leD2_eq, c] at t
            cases t
        · exact h1 z e
      · rcases List.mem_cons.mp hz with e | e
        · exact .inr (by rw [e]; exact List.mem_cons_self ..)
        · exact (i2 z e).imp id fun e => List.mem_cons_of_mem _ e
    · rw [if_neg c]
      have hxy : leD2 x y = true := by
        rw [leD2_eq]
        simpa using c
      refine ⟨List.pairwise_cons.mpr ⟨fun z hz => ?_, h⟩, fun z hz => List.mem_cons.mp hz⟩
      rcases List.mem_cons.mp hz with e | e
      · rw [e]
        exact hxy
      · exact leD2_total.trans x y z hxy (h1 z e)
theorem ins_filter (c x : PyData) : ∀ l : List PyData, (insD x l).filter (PySem.W.sameRank leD2 c) = (x :: l).filter (PySem.W.sameRank leD2 c)
  | [] => rfl
  | y :: r => by
    unfold insD
    by_cases h : PySem.W.dataLt y x = true
    · rw [if_pos h]
      have ih := ins_filter c x r
      cases hy : PySem.W.sameRank leD2 c y with
      | false =>
        rw [List.filter_cons_of_neg (by rw [hy]; exact Bool.false_ne_true), ih]
        cases hx : PySem.W.sameRank leD2 c x with
        | true => rw [List.filter_cons_of_pos hx, List.filter_cons_of_pos hx, List.filter_cons_of_neg (by rw [hy]; exact Bool.false_ne_true)]
        | false => rw [List.filter_cons_of_neg (by rw [hx]; exact Bool.false_ne_true), List.filter_cons_of_neg (by rw [hx]; exact Bool.false_ne_true), List.filter_cons_of_neg (by rw [hy]; exact Bool.false_ne_true)]
      | true =>
        have hx : PySem.W.sameRank leD2 c x = false := by
          cases q : PySem.W.sameRank leD2 c x with
          | false => rfl
          | true =>
            unfold PySem.W.sameRank at hy q
            rw [Bool.and_eq_true] at hy q
            have t := leD2_total.trans x c y q.2 hy.1
            rw [leD2_eq, h] at t
            cases t
        rw [List.filter_cons_of_pos hy, ih, List.filter_cons_of_neg (by rw [hx]; exact Bool.false_ne_true), List.filter_cons_of_neg (by rw [hx]; exact Bool.false_ne_true), List.filter_cons_of_pos hy]
    · rw [if_neg h]
theorem isort_pw : ∀ l : List PyData, (isort l).Pairwise (fun a b => leD2 a b = true)
  | [] => List.Pairwise.nil
  | x :: r => (ins_pw x _ (isort_pw r)).1
theorem isort_filter (c : PyData) : ∀ l : List PyData, (isort l).filter (PySem.W.sameRank leD2 c) = l.filter (PySem.W.sameRank leD2 c)
  | [] => rfl
  | x :: r => by
    unfold isort
    rw [ins_filter, List.filter_cons, List.filter_cons, isort_filter c r]
theorem isort_eq (l : List PyData) : isort l = l.mergeSort leD2 := PySem.W.sort_unique leD2_total (isort_pw l) fun c => isort_filter c l
section
variable {K : PySem.W.Frag} {G : Hp}
def RelD (K : PySem.W.Frag) (G : Hp) (u : Value) (d : PyData) : Prop := ∃ x, L2.RelV x u ∧ Dq K G x d
theorem each_of : ∀ {vs : List V} {us : List Value} {ds : List PyData}, Vals vs us → DqAll K G vs ds → PySem.W.EachIs (RelD K G) us ds
  | _, _, _, .nil, .nil => .nil
  | _, _, _, .cons r t, .cons h q => .cons ⟨_, r, h⟩ (each_of t q)
theorem each_back : ∀ {us : List Value} {ds : List PyData}, PySem.W.EachIs (RelD K G) us ds → ∃ vs, Vals vs us ∧ DqAll K G vs ds
  | _, _, .nil => ⟨[], .nil, .nil⟩
  | _, _, .cons ⟨x, r, h⟩ t => by
    obtain ⟨vs, a, b⟩ := each_back t
    exact ⟨x :: vs, .cons r a, .cons h b⟩
theorem each_reads {h : Heap} : ∀ {us : List Value} {ds : List PyData} {as : List Addr}, ReadsAll h us ds as → PySem.W.EachIs (fun v b => ∃ as, Reads h v b as) us ds
  | _, _, _, .nil => .nil
  | _, _, _, .cons r t => .cons ⟨_, r⟩ (each_reads t)
end
theorem sortL_ok {ds : List PyData} {z : List PyData} (h : sortL ds = some z) : PySem.W.AllAlike ds ∧ PySem.W.Sortable ds ∧ (∀ x ∈ ds, x.depth ≤ 64) ∧ z = isort ds := by
  obtain ⟨⟨h1, h2, h3⟩, rfl⟩ := iteS (show (if allAlike ds = true ∧ sortable ds = true ∧ (ds.all fun x => decide (x.depth ≤ 64)) = true then some (isort ds) else none) = some z from h)
  refine ⟨fun a ha b hb => List.all_eq_true.mp (List.all_eq_true.mp h1 a ha) b hb, ?_, fun x hx => of_decide_eq_true (List.all_eq_true.mp h3 x hx), rfl⟩
  unfold sortable at h2
  rcases Bool.or_eq_true_iff.mp h2 with h2 | h2
  · refine .inl fun d hd => ?_
    have q := List.all_eq_true.mp h2 d hd
    split at q
    · exact ⟨_, _, rfl⟩
    · cases q
  · refine .inr fun d hd => ?_
    have q := List.all_eq_true.mp h2 d hd
    split at q
    · cases q
    · cases q
    · rename_i n1 n2
      exact ⟨n1, n2⟩
section
variable {X : Cx} {C : Cf}
theorem cr_sortedL (hK : X.K = C.K) (hu : X.A.units + 70 < cLine) : CallR X (.builtin "sorted") (fun xs H Q => ∃ τ G x ds z, xs = [x] ∧ At C τ G H ∧ Top C G H x (.list ds) ∧ sortL ds = some z ∧ OpK C τ G H (.list z) Q) := by
  intro pins s σ H xs us Q I r h
  obtain ⟨τ, G, x, ds, z, rfl, A, tx, hz, k⟩ := h
  obtain ⟨a, ys, rfl, h1, h2⟩ := tx.lst A.s
  have e := Vals.ref1 r
  subst e
  obtain ⟨al, so, dp, rfl⟩ := sortL_ok hz
  have hl : SqL X.K H a ys := SqL.of h1
  obtain ⟨its, rv, pl, hzz⟩ := I.list hl
  have h2' : DpAll X.K H ys ds := by rw [hK]; exact (DqAll.mono A.s h2).dp
  obtain ⟨as, ra⟩ := Dp.readsAll I _ _ _ h2' rv
  refine PySem.W.sorted_data (R := RelD C.K G) (enc := fun d : PyData => d) (vs := its) (bs := ds) pl.isList (each_of rv h2) (each_reads ra) (by simpa using al) (by simpa using so) (by rw [← h2.length]; exact hzz)
    (fun b hb => by have := dp b hb; omega) fun out ho he => ?_
  have he : PySem.W.EachIs (RelD C.K G) out (isort ds) := by rw [isort_eq]; exact he
  obtain ⟨vs, rv2, q2⟩ := each_back he
  obtain ⟨c, hc⟩ := PyProof.Rows.sortedAll_at s.heap its out.toArray
  have J : L2.Inv X pins σ (upd H (s.heap.objs.size + 1) (.lst vs)) { s with heap := PyProof.Rows.sortedAll s.heap its out.toArray, toks := s.toks } :=
    I.laid (fun _ _ => PyProof.Rows.sortedAll_old) (Nat.le_succ _) ⟨by rw [rv2.length, ho, ← h2.length]; exact hzz, out, c, rv2, hc⟩
  exact ⟨.ref _, _, J, rfl, k.newL A q2 _ (I.hok.fresh (Nat.le_succ _))⟩
def rSortDict (C : Cf) : List V → Hp → VK → Prop := fun xs H Q => ∃ τ G x kvs z, xs = [x] ∧ At C τ G H ∧ Top C G H x (.dict kvs) ∧ sortL (kvs.map (·.1)) = some z ∧ OpK C τ G H (.list z) Q
theorem cr_sortedD (hK : X.K = C.K) (hu : X.A.units + 70 < cLine) (hd : CallR X (.builtin "sorted") (rSortDict C)) : CallR X (.builtin "sorted") (r1 C (b1D .sorted)) := by
  intro pins s σ H xs us Q I r h
  obtain ⟨τ, G, x, dx, z, rfl, A, tx, hz, k⟩ := h
  cases dx with
  | list ds =>
    obtain ⟨y, hy, rfl⟩ := Option.map_eq_some_iff.mp (show (sortL ds).map PyData.list = some z from hz)
    exact cr_sortedL hK hu pins s σ H _ us Q I r ⟨τ, G, x, ds, y, rfl, A, tx, hy, k⟩
  | dict kvs =>
    obtain ⟨y, hy, rfl⟩ := Option.map_eq_some_iff.mp (show (sortL (kvs.map (·.1))).map PyData.list = some z from hz)
    exact hd pins s σ H _ us Q I r ⟨τ, G, x, kvs, y, rfl, A, tx, hy, k⟩
  | _ => cases hz
end
end Bk
namespace Bk
open PySem PySem.Spec PyProof.Rows L2
/-- the tuple at b is the key k -/
abbrev NK (h : Heap) (k : NestedKey) (b : Addr) : Prop := NestedIs h k (.ref b) ∧ k.depth ≤ 8
section
variable {P : Program} {w : World}
/-- m answers b, where it stands -/
def Says (P : Program) (w : World) (m : Sem Bool) (s : Shared) (ok : Bool → Prop) : Prop := ∀ (A : Around) (E : Value → Shared → Prop) (Q : Bool → Shared → Prop), (∀ b, ok b → Q b s) → wpAny (model P w) A m Q E s
theorem Says.pure {b : Bool} {s : Shared} {ok : Bool → Prop} (h : ok b) : Says P w (Pure.pure b) s ok := fun _ _ _ q => wpAny_pure (q b h)
mutual
theorem cls_key : ∀ (k : NestedKey) (v : Value) (n : Nat) (s : Shared), NestedIs s.heap k v → k.depth ≤ n → Says P w (ofAClassStatement n v) s (· = false)
  | .none, _, n, s, x, _ => by
    cases x
    cases n <;> exact .pure rfl
  | .num i, _, n, s, x, _ => by
    cases x <;> cases n <;> exact .pure rfl
  | .text y, _, n, s, x, _ => by
    cases x
    cases n <;> exact .pure rfl
  | .tup ks, _, 0, s, x, hn => absurd hn (by simp [NestedKey.depth])
  | .tup ks, _, n + 1, s, x, hn => by
    cases x with
    | @tup a o vs m _ g c d r =>
      intro A E Q q
      have ty : s.TypeIs (.ref a) "tuple" := ⟨o, g, c⟩
      have all := cls_keys ks vs.toList n s r (by simp only [NestedKey.depth] at hn; omega)
      unfold ofAClassStatement
      refine wpAny_bind (wpAny_typeOf ty ?_)
      dsimp only
      rw [if_pos (show (("tuple" : String) == "tuple") = true by decide)]
      refine wpAny_bind (wpAny_pure ?_)
      simp only [Bool.not_true, Bool.false_eq_true, if_false]
      refine wpAny_bind (wpAny_seqItems g d ?_)
      dsimp only
      refine wpAny_bind ?_
      show wpAny _ _ (forIn vs _ _) _ _ s
      rw [← Array.forIn_toList]
      refine wpAny_forIn_list _ (fun l p s' => p.1 = none ∧ s' = s ∧ ∀ v ∈ l, Says P w (ofAClassStatement n v) s (· = false)) _ ?_ ?_ _ _ ⟨rfl, rfl, all⟩
      · rintro v l p s' ⟨hp, rfl, hl⟩
        refine wpAny_bind (hl v (List.mem_cons_self ..) _ _ _ fun b hb => ?_)
        subst hb
        rw [if_neg Bool.false_ne_true]
        exact wpAny_pure ⟨rfl, rfl, fun u hu => hl u (List.mem_cons_of_mem _ hu)⟩
      · rintro ⟨p, _⟩ s' ⟨hp, rfl, _⟩
        cases hp
        exact wpAny_pure (q _ rfl)
theorem cls_keys : ∀ (ks : List NestedKey) (vs : List Value) (n : Nat) (s : Shared), NestedAll s.heap ks vs → NestedKey.depthAll ks ≤ n → ∀ v ∈ vs, Says P w (ofAClassStatement n v) s (· = false)
  | [], _, n, s, x, _, v, hv => by
    cases x
    cases hv
  | k :: ks, _, n, s, x, hn, v, hv => by
    cases x with
    | cons x1 x2 =>
      simp only [NestedKey.depthAll] at hn
      rcases List.mem_cons.mp hv with e | hv
      · subst e
        exact cls_key k _ n s x1 (by omega)
      · exact cls_keys ks _ n s x2 (by omega) v hv
end
mutual
theorem hbv_key : ∀ (k : NestedKey) (v : Value) (n : Nat) (s : Shared), NestedIs s.heap k v → Says P w (hashByValue n v) s (fun _ => True)
  | .none, _, n, s, x => by
    cases x
    cases n <;> exact .pure trivial
  | .num i, _, n, s, x => by
    cases x <;> cases n <;> exact .pure trivial
  | .text y, _, n, s, x => by
    cases x
    cases n <;> exact .pure trivial
  | .tup ks, _, 0, s, x => by
    cases x
    exact .pure trivial
  | .tup ks, _, n + 1, s, x => by
    cases x with
    | @tup a o vs m _ g c d r =>
      intro A E Q q
      have ty : s.TypeIs (.ref a) "tuple" := ⟨o, g, c⟩
      have all := hbv_keys ks vs.toList n s r
      unfold hashByValue
      refine wpAny_bind (wpAny_specialOf ty F.slot_tuple_hash.lookup ?_)
      show wpAny _ _ (seqItems? (.ref a) >>= _) _ _ s
      refine wpAny_bind (wpAny_seqItems g d ?_)
      refine wpAny_bind ?_
      show wpAny _ _ (forIn vs _ _) _ _ s
      rw [← Array.forIn_toList]
      refine wpAny_forIn_list _ (fun l p s' => p.1 = none ∧ s' = s ∧ ∀ v ∈ l, Says P w (hashByValue n v) s (fun _ => True)) _ ?_ ?_ _ _ ⟨rfl, rfl, all⟩
      · rintro v l p s' ⟨hp, rfl, hl⟩
        refine wpAny_bind (hl v (List.mem_cons_self ..) _ _ _ fun b _ => ?_)
        cases b with
        | true =>
          simp only [Bool.not_true, Bool.false_eq_true, if_false]
          exact wpAny_pure ⟨rfl, rfl, fun u hu => hl u (List.mem_cons_of_mem _ hu)⟩
        | false =>
          simp only [Bool.not_false, if_true]
          exact wpAny_pure (wpAny_pure (q _ trivial))
      · rintro ⟨p, _⟩ s' ⟨hp, rfl, _⟩
        cases hp
        exact wpAny_pure (q _ trivial)
theorem hbv_keys : ∀ (ks : List NestedKey) (vs : List Value) (n : Nat) (s : Shared), NestedAll s.heap ks vs → ∀ v ∈ vs, Says P w (hashByValue n v) s (fun _ => True)
  | [], _, n, s, x, v, hv => by
    cases x
    cases hv
  | k :: ks, _, n, s, x, v, hv => by
    cases x with
    | cons x1 x2 =>
      rcases List.mem_cons.mp hv with e | hv
      · subst e
        exact hbv_key k _ n s x1
      · exact hbv_keys ks _ n s x2 v hv
end
/-- nobody sees a search among such keys -/
theorem unseen {s : Shared} {k : NestedKey} {b : Addr} (hk : NK s.heap k b) {ys : List Value} (hy : ∀ y ∈ ys, ∃ k' c, y = Value.ref c ∧ NK s.heap k' c) : Says P w (searchCouldBeSeen (.ref b) ys) s (· = false) := by
  intro A E Q q
  unfold searchCouldBeSeen
  refine wpAny_bind ?_
  refine wpAny_forIn_list _ (fun l p s' => p.1 = none ∧ s' = s ∧ ∀ y ∈ l, ∃ k' c, y = Value.ref c ∧ NK s.heap k' c) _ ?_ ?_ _ _ ⟨rfl, rfl, hy⟩
  · rintro v l p s' ⟨hp, rfl, hl⟩
    obtain ⟨k', c, rfl, hc⟩ := hl v (List.mem_cons_self ..)
    have hl' : ∀ y ∈ l, ∃ k' c, y = Value.ref c ∧ NK s'.heap k' c := fun u hu => hl u (List.mem_cons_of_mem _ hu)
    dsimp only
    by_cases hv : (b == c || (carriedByValue (.ref b) && carriedByValue (.ref c))) = true
    · exact wp_if_pos hv (wpAny_pure ⟨rfl, rfl, hl'⟩)
    · refine wp_if_neg hv ?_
      refine wpAny_bind (quiet_key k _ 8 _ hk.1 hk.2 _ _ _ ?_)
      simp only [Bool.not_true, Bool.false_eq_true, if_false]
      refine wpAny_bind (quiet_key k' _ 8 _ hc.1 hc.2 _ _ _ ?_)
      simp only [Bool.not_true, Bool.false_eq_true, if_false]
      refine wpAny_bind (cls_key k _ 8 _ hk.1 hk.2 _ _ _ fun x hx => ?_)
      subst hx
      simp only [Bool.false_eq_true, if_false]
      refine wpAny_bind (cls_key k' _ 8 _ hc.1 hc.2 _ _ _ fun x hx => ?_)
      subst hx
      simp only [Bool.false_eq_true, if_false]
      exact wpAny_pure ⟨rfl, rfl, hl'⟩
  · rintro ⟨p, _⟩ s' ⟨hp, rfl, _⟩
    cases hp
    exact wpAny_pure (q _ rfl)
theorem eq_keys {s : Shared} {A : Around} {E : Value → Shared → Prop} {Q : Bool → Shared → Prop} {k k' : NestedKey} {b c : Addr} (hu : A.units + 9 < cLine) (hk : NK s.heap k b) (hc : NK s.heap k' c) (q : Q (decide (k = k')) s) : wpAny (model P w) A (eqBool (.ref b) (.ref c)) Q E s := by
  have e := eqAt_key k k' A s _ _ hk.1 hc.1 (by have := hk.2; omega)
  rw [NestedKey.decide_eq] at q
  exact e _ _ _ _ q
end
end Bk
namespace Bk
open PySem PySem.Spec PyProof.Rows L2
abbrev Rw := Addr × NestedKey
def rws (w : World) (l : List Rw) : List (Int × Value) := l.map fun p => (p.2.hash w, .ref p.1)
abbrev hsh (w : World) (l : List Rw) : List Int := l.map fun p => p.2.hash w
structure SetN (w : World) (h : Heap) (a : Addr) (l : List Rw) (es : Array (Int × Value)) (ep : Nat) (t : SetTable) : Prop where
  ob : ∃ o, h.get? a = some o ∧ o.ExactSet ∧ o.data = .set es ep t
  rows : es.toList = rws w l
  tab : TabOk t (hsh w l)
  nd : (l.map (·.2)).Nodup
  key : ∀ p ∈ l, NK h p.2 p.1
  led : w.params.followText "set-order" = true ∨ t.led = true
  room : l.length * 5 < t.mask * 3
  few : l.length < 64
theorem rws_len {w : World} {l : List Rw} {es : Array (Int × Value)} (h : es.toList = rws w l) : es.size = l.length := by
  rw [← Array.length_toList, h]
  unfold rws
  rw [List.length_map]
theorem fits_of {t : SetTable} {hs : List Int} {n : Nat} (T : TabOk t hs) (hn : n = hs.length) (hm : hs.length ≤ t.mask) : t.fits n = true := by
  have e := T.sz
  unfold SetTable.fits SetTable.fill
  rw [T.dm]
  simp only [Bool.and_eq_true, beq_iff_eq, decide_eq_true_eq]
  refine ⟨by omega, ?_⟩
  show t.place.size + 0 ≤ t.mask
  omega
section
variable {P : Program} {w : World} {A : Around} {E : Value → Shared → Prop} {s : Shared} {a : Addr} {l : List Rw} {es : Array (Int × Value)} {ep : Nat} {t : SetTable}
theorem SetN.sz (r : SetN w s.heap a l es ep t) : es.size = l.length := rws_len r.rows
theorem SetN.fits (r : SetN w s.heap a l es ep t) : t.fits es.size = true := by
  refine fits_of r.tab ?_ ?_
  · rw [r.sz, List.length_map]
  · rw [List.length_map]
    have := r.room
    omega
theorem ent_of (hr : es.toList = rws w l) {i : Nat} {p : Rw} (h : l[i]? = some p) : es[i]? = some (p.2.hash w, Value.ref p.1) := by
  rw [← Array.getElem?_toList, hr]
  unfold rws
  rw [List.getElem?_map, h]
  rfl
theorem no_gave {t : SetTable} {hs : List Int} (T : TabOk t hs) : ¬ t.gaveWay = true := by
  unfold SetTable.gaveWay
  rw [mask_odd T.mok]
  decide
abbrev prb (t : SetTable) (h : Int) (c : Nat) : SetTable.Probe := nth t.mask (runAt t.mask (SetTable.bits h % (t.mask + 1)) (SetTable.bits h)) c
theorem prb_dummy (t : SetTable) (h : Int) (c : Nat) : (prb t h c).dummy = none := by
  have go : ∀ (n : Nat) (p : SetTable.Probe), p.dummy = none → (nth t.mask p n).dummy = none := by
    intro n
    induction n with
    | zero => exact fun p h => h
    | succ n ih =>
      intro p h
      refine ih (adv t.mask p) ?_
      unfold adv
      split <;> exact h
  exact go c _ rfl
theorem prb_add (t : SetTable) (h : Int) (c q : Nat) : nth t.mask (prb t h c) q = prb t h (c + q) := (nth_add t.mask c _ q).symm
/-- where the way's place c is the entry of a row with the key k -/
def Ahead (t : SetTable) (w : World) (l : List Rw) (k : NestedKey) (stop c : Nat) : Prop := ∀ (i : Nat) p, l[i]? = some p → p.2 = k → ∃ d, c ≤ d ∧ d < stop ∧ t.place.toList[i]? = some (way t.mask (k.hash w) d)
/-- a search, from the place c of the way on -/
theorem look_from (r : SetN w s.heap a l es ep t) {x : Addr} {k : NestedKey} (hx : NK s.heap k x) (hu : A.units + 9 < cLine) {stop : Nat} (hs : stop < 10 * SetTable.turns t.mask)
    (free : way t.mask (k.hash w) stop ∉ t.place.toList) (full : ∀ c, c < stop → way t.mask (k.hash w) c ∈ t.place.toList) {Q : SetFound → Shared → Prop}
    (yes : k ∈ l.map (·.2) → Q (.there none) s) (no : k ∉ l.map (·.2) → Q (.free (way t.mask (k.hash w) stop) false) s) (fuel : Nat) :
    ∀ (c : Nat) (at_ : Option SetTable.Probe), at_.getD (t.probeStart (k.hash w)) = prb t (k.hash w) c → c ≤ stop → stop - c < fuel → Ahead t w l k stop c → wpAny (model P w) A (setSearchFrom a (.ref x) (k.hash w) true fuel at_) Q E s := by
  induction fuel with
  | zero => exact fun c _ _ _ h => absurd h (Nat.not_lt_zero _)
  | succ fuel ih =>
    intro c at_ hat hc hf ah
    obtain ⟨o, ho, _, hd⟩ := r.ob
    have hat' : ∀ (i : Nat) p, l[i]? = some p → (es[i]?.map (·.1)).getD 0 = p.2.hash w := fun i p hp => by
      rw [ent_of r.rows hp]
      rfl
    have jq : ∀ q, (nth t.mask (prb t (k.hash w) c) q).j = way t.mask (k.hash w) (c + q) := fun q => by rw [prb_add]
    rw [setSearchFrom_succ]
    refine wpAny_bind (wpAny_setState_of ho hd r.fits ?_)
    dsimp only
    refine wp_if_neg (no_gave r.tab) ?_
    rw [hat]
    have sp := go_spec t r.tab.ris r.tab.dm (fun i => (es[i]?.map (·.1)).getD 0) (k.hash w) (10 * SetTable.turns t.mask) (stop - c) (prb t (k.hash w) c) (prb_dummy ..) (by omega)
      (fun q hq => by rw [jq]; exact full _ (by omega)) (by rw [jq, show c + (stop - c) = stop by omega]; exact free)
    have pr : t.probe (fun i => (es[i]?.map (·.1)).getD 0) (k.hash w) (prb t (k.hash w) c) = SetTable.probe.go t (fun i => (es[i]?.map (·.1)).getD 0) (k.hash w) (10 * SetTable.turns t.mask) (prb t (k.hash w) c) := rfl
    rcases sp with ⟨q, i, hq, hi, hh, before, e⟩ | ⟨before, e⟩
    · rw [pr, e]
      dsimp only
      rw [jq] at hi ⊢
      rw [prb_add t (k.hash w) c (q + 1)]
      have hil : i < l.length := by
        have h1 := (List.getElem?_eq_some_iff.mp hi).1
        have h2 := r.tab.sz
        rw [List.length_map] at h2
        rw [Array.length_toList, h2] at h1
        exact h1
      obtain ⟨p, hp⟩ : ∃ p, l[i]? = some p := ⟨l[i], List.getElem?_eq_getElem hil⟩
      have hpm := List.mem_of_getElem? hp
      have live : t.slot (way t.mask (k.hash w) (c + q)) = .live i := slot_live r.tab.ris hi
      have fin : wpAny (model P w) A (searchRest a (.ref x) (k.hash w) true fuel es t (way t.mask (k.hash w) (c + q)) i (prb t (k.hash w) (c + (q + 1)))) Q E s := by
        unfold searchRest
        rw [ent_of r.rows hp]
        dsimp only
        refine wpAny_bind (wpAny_holding (eq_keys hu (r.key p hpm) hx ?_))
        refine wpAny_bind (wpAny_setState_of ho hd r.fits ?_)
        dsimp only
        by_cases hk : p.2 = k
        · refine wp_if_pos (by simp [hk]) (wpAny_pure (yes (List.mem_map.mpr ⟨p, hpm, hk⟩)))
        · refine wp_if_neg (by simp [hk]) ?_
          rw [sameMem]
          dsimp only
          simp only [if_true, live, ent_of r.rows hp]
          refine wpAny_bind (wpAny_isSame_ref_self (wpAny_bind (wpAny_pure ?_)))
          simp only [if_true]
          refine wp_if_neg (by simp [hk]) (ih (c + (q + 1)) _ rfl (by omega) (by omega) fun i0 p0 h0 k0 => ?_)
          obtain ⟨d, d1, d2, d3⟩ := ah i0 p0 h0 k0
          have hh0 : (es[i0]?.map (·.1)).getD 0 = k.hash w := by rw [hat' i0 p0 h0, k0]
          refine ⟨d, ?_, d2, d3⟩
          rcases Nat.lt_trichotomy d (c + q) with z | z | z
          · exact absurd hh0 (before (d - c) i0 (by omega) (by rw [jq, show c + (d - c) = d by omega]; exact d3))
          · subst z
            have s0 := slot_live r.tab.ris d3
            rw [live] at s0
            cases s0
            rw [hp] at h0
            cases h0
            exact absurd k0 hk
          · omega
      by_cases hl : t.led = true
      · exact wp_if_neg (by simp [hl]) fin
      · refine wp_if_pos (by simp [hl]) (wpAny_bind (unseen hx (fun y hy => ?_) _ _ _ fun b hb => ?_))
        · obtain ⟨e0, he, rfl⟩ := List.mem_map.mp hy
          have he : e0 ∈ es.toList := by
            have : e0 ∈ es ∧ e0.1 = k.hash w := by simpa using he
            simpa using this.1
          rw [r.rows] at he
          obtain ⟨p2, hp2, rfl⟩ := List.mem_map.mp he
          exact ⟨p2.2, p2.1, rfl, r.key p2 hp2⟩
        · subst hb
          exact wp_if_neg (by decide) fin
    · rw [pr, e]
      dsimp only
      rw [jq, show c + (stop - c) = stop by omega]
      refine wpAny_pure (no fun hm => ?_)
      obtain ⟨p0, h0, k0⟩ := List.mem_map.mp hm
      obtain ⟨i0, hi0, e0⟩ := List.getElem_of_mem h0
      have h00 : l[i0]? = some p0 := by rw [List.getElem?_eq_getElem hi0, e0]
      obtain ⟨d, d1, d2, d3⟩ := ah i0 p0 h00 k0
      exact before (d - c) i0 (by omega) (by rw [jq, show c + (d - c) = d by omega]; exact d3) (by rw [hat' i0 p0 h00, k0])
theorem look (r : SetN w s.heap a l es ep t) {x : Addr} {k : NestedKey} (hx : NK s.heap k x) (hu : A.units + 9 < cLine) {Q : SetFound → Shared → Prop}
    (yes : k ∈ l.map (·.2) → Q (.there none) s)
    (no : ∀ stop, k ∉ l.map (·.2) → way t.mask (k.hash w) stop ∉ t.place.toList → (∀ c, c < stop → way t.mask (k.hash w) c ∈ t.place.toList) → Q (.free (way t.mask (k.hash w) stop) false) s) :
    wpAny (model P w) A (setSearch a (.ref x) (k.hash w) true) Q E s := by
  have hroom := r.room
  obtain ⟨stop, h1, h2, h3⟩ := r.tab.first (by rw [List.length_map]; omega) (k.hash w)
  have big : 10 * SetTable.turns t.mask ≤ 1420 := by
    unfold SetTable.turns
    rcases r.tab.mok with e | e | e <;> omega
  unfold setSearch
  refine look_from r hx hu h1 h2 h3 yes (fun z => no stop z h2 h3) 100000 0 none rfl (Nat.zero_le _) (by omega) fun i p hp hk => ?_
  have hil : i < t.place.toList.length := by
    have q1 := (List.getElem?_eq_some_iff.mp hp).1
    have q2 := r.tab.sz
    rw [List.length_map] at q2
    rw [Array.length_toList, q2]
    exact q1
  obtain ⟨d, d1, d2⟩ := r.tab.before h2 (i := i) (by rw [List.getElem?_map, hp]; show some (p.2.hash w) = _; rw [hk]) (List.getElem?_eq_getElem hil)
  exact ⟨d, Nat.zero_le _, d1, by rw [List.getElem?_eq_getElem hil, d2]⟩
end
end Bk
namespace Bk
open PySem PySem.Spec PyProof.Rows L2
theorem range_get {α : Type} (l : List α) : (List.range l.length).filterMap (fun i => l[i]?) = l := by
  induction l with
  | nil => rfl
  | cons x l ih =>
    rw [List.length_cons, List.range_succ_eq_map, List.filterMap_cons]
    show x :: List.filterMap _ _ = _
    rw [List.filterMap_map]
    congr 1
theorem pick_rows {w : World} {l : List Rw} {es : Array (Int × Value)} (hr : es.toList = rws w l) {order : Array Nat} (hp : order.toList.Perm (List.range l.length)) :
    ∃ m, (order.filterMap (es[·]?)).toList = rws w m ∧ m.Perm l ∧ hsh w m = order.toList.map fun i => (es.map (·.1)).getD i 0 := by
  have ee : ∀ i : Nat, es[i]? = (l[i]?).map fun p => (p.2.hash w, Value.ref p.1) := fun i => by
    rw [← Array.getElem?_toList, hr]
    exact List.getElem?_map ..
  refine ⟨order.toList.filterMap fun i => l[i]?, ?_, ?_, ?_⟩
  · rw [Array.toList_filterMap]
    unfold rws
    rw [List.map_filterMap]
    congr 1
    funext i
    exact ee i
  · have := hp.filterMap fun i => l[i]?
    rw [range_get] at this
    exact this
  · have go : ∀ is : List Nat, (∀ i ∈ is, i < l.length) → hsh w (is.filterMap fun i => l[i]?) = is.map fun i => (es.map (·.1)).getD i 0 := by
      intro is
      induction is with
      | nil => exact fun _ => rfl
      | cons i is ih =>
        intro h
        have hi := h i (List.mem_cons_self ..)
        rw [List.filterMap_cons_some (List.getElem?_eq_getElem hi), List.map_cons, ← ih fun j hj => h j (List.mem_cons_of_mem _ hj)]
        show (l[i]).2.hash w :: hsh w _ = _
        congr 1
        rw [Array.getD_eq_getD_getElem?, Array.getElem?_map, ee i, List.getElem?_eq_getElem hi]
        rfl
    exact go _ fun i hi => List.mem_range.mp (hp.mem_iff.mp hi)
theorem tab_plain {t : SetTable} {hs : List Int} (T : TabOk t hs) (b : Bool) : TabOk { t with plain := b } hs := ⟨T.ris, T.dm, T.sz, T.mok, T.bd, T.reach⟩
theorem nk_same {h h' : Heap} {k : NestedKey} {a b : Addr} {o : Obj} {es : Array (Int × Value)} {ep : Nat} {t : SetTable} (hb : NK h k b) (ho : h.get? a = some o) (hd : o.data = .set es ep t) (sb : Heap.SameBut a h h') : NK h' k b := by
  refine ⟨NestedIs.at (fun c oc vs n hc hs => ?_) k _ hb.1, hb.2⟩
  refine (sb.2 c fun e => ?_).trans hc
  subst e
  rw [ho] at hc
  cases hc
  rw [hd] at hs
  cases hs
theorem nk_keep {h h' : Heap} {k : NestedKey} {b : Addr} (x : NK h k b) (hk : ∀ c o, h.get? c = some o → h'.get? c = some o) : NK h' k b := ⟨NestedIs.at (fun c o _ _ e _ => hk c o e) k _ x.1, x.2⟩
section
variable {P : Program} {w : World} {A : Around} {E : Value → Shared → Prop} {s : Shared} {a : Addr} {l : List Rw} {es : Array (Int × Value)} {ep : Nat} {t : SetTable}
/-- the table, laid anew -/
theorem relay {o : Obj} (ho : s.heap.get? a = some o) (hex : o.ExactSet) (hd : o.data = .set es ep t) (rows : es.toList = rws w l) (T : TabOk t (hsh w l)) (hfl : l.length ≤ t.mask) (nd : (l.map (·.2)).Nodup) (key : ∀ p ∈ l, NK s.heap p.2 p.1)
    (led : w.params.followText "set-order" = true ∨ t.led = true) (few : l.length < 64) {n m : Nat} (hw : SetTable.sizeAbove n = m + 1) (hm : MaskOk m) (hn : l.length * 5 < m * 3) {Q : Unit → Shared → Prop}
    (q : ∀ h' l' es' ep' t', Heap.SameBut a s.heap h' → SetN w h' a l' es' ep' t' → l'.Perm l → Q () { s with heap := h' }) : wpAny (model P w) A (setRelay a n) Q E s := by
  have sz := rws_len rows
  have m128 : m + 1 ≤ 128 := by rcases hm with e | e | e <;> omega
  obtain ⟨t', order, e, hp, T', em, el, _, ed⟩ := relaid_ok t (hs := es.map (·.1)) (wanted := n) (M := m) (by omega) hm (by rw [Array.size_map, sz]; omega)
  rw [Array.size_map, sz] at hp
  obtain ⟨l', r1, r2, r3⟩ := pick_rows rows hp
  rw [← r3] at T'
  have sz' : (order.filterMap (es[·]?)).size = es.size := by rw [rws_len r1, r2.length_eq, sz]
  rw [setRelay_eq]
  refine wpAny_bind (wpAny_setState_of ho hd (fits_of T (by rw [sz, List.length_map]) (by rw [List.length_map]; exact hfl)) ?_)
  dsimp only
  refine wp_if_neg (by rw [hw, sizeLine_eq]; omega) ?_
  rw [e]
  dsimp only
  refine wpAny_bind (wp_if_neg (by rw [sz']; simp) (wpAny_pure ?_))
  dsimp only
  refine wpAny_storeSet_of ho hd ?_ (by rw [sz', sz, sizeLine_eq]; omega)
  have sb : Heap.SameBut a s.heap (s.heap.update a (Obj.putSet (order.filterMap (es[·]?)) t')) := Heap.SameBut.update ..
  exact q _ l' _ _ t' sb ⟨⟨_, store_at ho hd, ⟨hex.1, hex.2.1, hex.2.2⟩, rfl⟩, r1, T', (r2.map (·.2)).nodup_iff.mpr nd, fun p hpm => nk_same (key p (r2.mem_iff.mp hpm)) ho hd sb, by rw [el]; exact led, by rw [r2.length_eq, em]; exact hn, by rw [r2.length_eq]; exact few⟩ r2
/-- a key is put in -/
theorem put_in (r : SetN w s.heap a l es ep t) {x : Addr} {k : NestedKey} (hx : NK s.heap k x) (hu : A.units + 9 < cLine) (few : l.length + 1 < 64) {Q : Bool → Shared → Prop}
    (q : ∀ b h' l' es' ep' t', Heap.SameBut a s.heap h' → SetN w h' a l' es' ep' t' → (k ∈ l.map (·.2) → l' = l) → (k ∉ l.map (·.2) → l'.Perm ((x, k) :: l)) → Q b { s with heap := h' }) :
    wpAny (model P w) A (setAddHashed a (.ref x) (k.hash w)) Q E s := by
  obtain ⟨o, ho, hex, hd⟩ := r.ob
  have sz := r.sz
  have hroom := r.room
  unfold setAddHashed
  refine wpAny_holding ?_
  rw [show (100000 : Nat) = 99999 + 1 from rfl, setAddHashedIn_succ]
  refine wpAny_bind (wpAny_setState_of ho hd r.fits ?_)
  dsimp only
  refine wp_if_neg (by simp [byScan, Value.scannable]) ?_
  refine wpAny_bind (look r hx hu (fun hm => ?_) fun stop hm free full => ?_)
  · exact wpAny_pure (q false s.heap l es ep t (Heap.SameBut.refl a s.heap) r (fun _ => rfl) fun z => absurd hm z)
  · dsimp only
    refine wpAny_bind (wpAny_setState_of ho hd r.fits ?_)
    dsimp only
    obtain ⟨q1, q2, q3, q4, q5, _, _, _, q9⟩ := r.tab.put free full
    generalize hpt : t.put (way t.mask (k.hash w) stop) = pt at q1 q3 q4 q5 q9 ⊢
    obtain ⟨t1, p⟩ := pt
    dsimp only at q1 q3 q4 q5 q9 ⊢
    subst q1
    generalize SetTable.below t.place (way t.mask (k.hash w) stop) = p at q2 q3 ⊢
    have rows1 : (SetTable.insertAt es p (k.hash w, Value.ref x)).toList = rws w (l.take p ++ (x, k) :: l.drop p) := by
      rw [SetTable.toList_insertAt, r.rows]
      unfold rws
      simp
    have pm : (l.take p ++ (x, k) :: l.drop p).Perm ((x, k) :: l) := put_perm l p (x, k)
    have T1 : TabOk t1 (hsh w (l.take p ++ (x, k) :: l.drop p)) := by
      have e : hsh w (l.take p ++ (x, k) :: l.drop p) = (hsh w l).take p ++ k.hash w :: (hsh w l).drop p := by
        unfold hsh
        simp
      rw [e]
      exact q3
    have len1 := pm.length_eq
    have nd1 : ((l.take p ++ (x, k) :: l.drop p).map (·.2)).Nodup := (pm.map (·.2)).nodup_iff.mpr (List.nodup_cons.mpr ⟨hm, r.nd⟩)
    generalize SetTable.insertAt es p (k.hash w, Value.ref x) = es1 at rows1 ⊢
    generalize l.take p ++ (x, k) :: l.drop p = l1 at pm T1 len1 nd1 rows1
    have sz1 := rws_len rows1
    rw [List.length_cons] at len1
    -- with any word on how it is hashed
    have fin : ∀ byv : Bool, wpAny (model P w) A (do
        storeSet a es1 (if byv = true then t1 else { t1 with plain := false })
        if (!false && (if byv = true then t1 else { t1 with plain := false }).tooFull) = true then do
          setRelay a (SetTable.grown (es.size + 1))
          pure true
        else pure true) Q E s := by
      intro byv
      have T2 : TabOk (if byv = true then t1 else { t1 with plain := false }) (hsh w l1) := by
        cases byv
        · exact tab_plain T1 false
        · exact T1
      have m2 : (if byv = true then t1 else { t1 with plain := false }).mask = t.mask := by cases byv <;> exact q4
      have l2 : (if byv = true then t1 else { t1 with plain := false }).led = t.led := by cases byv <;> exact q5
      have f2 : (if byv = true then t1 else { t1 with plain := false }).fill = (hsh w l).length + 1 := by cases byv <;> exact q9
      generalize (if byv = true then t1 else { t1 with plain := false }) = t2 at T2 m2 l2 f2 ⊢
      refine wpAny_bind (wpAny_storeSet_of ho hd ?_ (by rw [sz1, sizeLine_eq]; omega))
      have sb : Heap.SameBut a s.heap (s.heap.update a (Obj.putSet es1 t2)) := Heap.SameBut.update ..
      have ho1 := store_at (es' := es1) (t' := t2) ho hd
      generalize s.heap.update a (Obj.putSet es1 t2) = h1 at sb ho1 ⊢
      have key1 : ∀ p ∈ l1, NK h1 p.2 p.1 := fun p hp => by
        rcases List.mem_cons.mp (pm.mem_iff.mp hp) with e | hp
        · subst e
          exact nk_same hx ho hd sb
        · exact nk_same (r.key p hp) ho hd sb
      have led1 : w.params.followText "set-order" = true ∨ t2.led = true := by rw [l2]; exact r.led
      have tf : t2.tooFull = decide ((l.length + 1) * 5 ≥ t.mask * 3) := by
        unfold SetTable.tooFull
        rw [f2, m2, List.length_map]
      by_cases hf : t2.tooFull = true
      · refine wp_if_pos (by simp [hf]) (wpAny_bind ?_)
        rw [tf, decide_eq_true_eq] at hf
        rw [sz]
        have go : ∀ m, SetTable.sizeAbove (SetTable.grown (l.length + 1)) = m + 1 → MaskOk m → (l.length + 1) * 5 < m * 3 → l.length + 1 ≤ t.mask →
            wpAny (model P w) A (setRelay a (SetTable.grown (l.length + 1))) (fun _ s' => wpAny (model P w) A (pure true) Q E s') E { s with heap := h1 } := fun m g1 g2 g3 g4 => by
          refine relay (s := { s with heap := h1 }) ho1 ⟨hex.1, hex.2.1, hex.2.2⟩ rfl rows1 T2 (by rw [len1, m2]; exact g4) nd1 key1 led1 (by rw [len1]; exact few) g1 g2 (by rw [len1]; exact g3) fun h2 l2 es2 ep2 t3 sb2 r2 pm2 => ?_
          exact wpAny_pure (q true h2 l2 es2 ep2 t3 (sb.trans sb2) r2 (fun z => absurd z hm) fun _ => pm2.trans pm)
        rcases r.tab.mok with e | e | e
        · have e2 : l.length = 4 := by omega
          exact go 31 (by rw [e2, size_20]) (.inr (.inl rfl)) (by omega) (by omega)
        · have e2 : l.length = 18 := by omega
          exact go 127 (by rw [e2, size_76]) (.inr (.inr rfl)) (by omega) (by omega)
        · omega
      · refine wp_if_neg (by simp [hf]) (wpAny_pure (q true h1 l1 es1 (ep + 1) t2 sb ⟨⟨_, ho1, ⟨hex.1, hex.2.1, hex.2.2⟩, rfl⟩, rows1, T2, nd1, key1, led1, ?_, by rw [len1]; exact few⟩ (fun z => absurd z hm) fun _ => pm))
        rw [tf, decide_eq_true_eq] at hf
        rw [len1, m2]
        omega
    by_cases hpl : t1.plain = true
    · rw [if_pos hpl]
      exact wpAny_bind (hbv_key k _ 8 s hx.1 _ _ _ fun b _ => fin b)
    · rw [if_neg hpl]
      exact wpAny_bind (wpAny_pure (fin true))
end
end Bk
namespace Bk
open PySem PySem.Spec PyProof.Rows L2
/-- what the set holds behind the first i items -/
structure Has (ks : List Rw) (i : Nat) (l : List Rw) : Prop where
  sub : ∀ p ∈ l, p ∈ ks.take i
  all : ∀ p ∈ ks.take i, p.2 ∈ l.map (·.2)
  len : l.length ≤ i
theorem take_up {α : Type} {l : List α} {i : Nat} {x : α} (h : l[i]? = some x) : l.take (i + 1) = l.take i ++ [x] := by
  rw [List.take_add_one, h]
  rfl
theorem Has.step {ks l l' : List Rw} {i : Nat} {x : Rw} (g : Has ks i l) (h : ks[i]? = some x) (h1 : x.2 ∈ l.map (·.2) → l' = l) (h2 : x.2 ∉ l.map (·.2) → l'.Perm (x :: l)) : Has ks (i + 1) l' := by
  by_cases c : x.2 ∈ l.map (·.2)
  · rw [h1 c]
    refine ⟨fun p hp => ?_, fun p hp => ?_, Nat.le_succ_of_le g.len⟩
    · rw [take_up h]
      exact List.mem_append_left _ (g.sub p hp)
    · rw [take_up h] at hp
      rcases List.mem_append.mp hp with z | z
      · exact g.all p z
      · cases List.mem_singleton.mp z
        exact c
  · have pm := h2 c
    refine ⟨fun p hp => ?_, fun p hp => ?_, ?_⟩
    · rw [take_up h]
      rcases List.mem_cons.mp (pm.mem_iff.mp hp) with e | z
      · subst e
        exact List.mem_append_right _ (List.mem_singleton.mpr rfl)
      · exact List.mem_append_left _ (g.sub p z)
    · rw [(pm.map (·.2)).mem_iff, List.map_cons]
      rw [take_up h] at hp
      rcases List.mem_append.mp hp with z | z
      · exact List.mem_cons_of_mem _ (g.all p z)
      · cases List.mem_singleton.mp z
        exact List.mem_cons_self ..
    · rw [pm.length_eq, List.length_cons]
      exact Nat.succ_le_succ g.len
/-- a new set -/
abbrev emptyS (w : World) : Obj := { cls := .type "set", dict := none, data := .set #[] 0 (.fresh 0 0 (!w.params.followText "set-order")) }
theorem SetN.fresh {w : World} {h : Heap} {a : Addr} (ho : h.get? a = some (emptyS w)) : SetN w h a [] #[] 0 (.fresh 0 0 (!w.params.followText "set-order")) where
  ob := ⟨_, ho, ⟨rfl, rfl, rfl⟩, rfl⟩
  rows := rfl
  tab := ⟨List.Pairwise.nil, rfl, rfl, .inl rfl, fun x hx => (by cases hx), fun i h j hi => (by simp at hi)⟩
  nd := List.nodup_nil
  key := fun p hp => (by cases hp)
  led := by
    show _ ∨ (!w.params.followText "set-order") = true
    cases w.params.followText "set-order"
    · exact .inr rfl
    · exact .inl rfl
  room := (by decide : 0 * 5 < 7 * 3)
  few := (by decide : 0 < 64)
theorem SetN.keep {w : World} {h h' : Heap} {a : Addr} {l : List Rw} {es : Array (Int × Value)} {ep : Nat} {t : SetTable} (r : SetN w h a l es ep t) (ha : ∀ o, h.get? a = some o → h'.get? a = some o) (hk : ∀ p ∈ l, NK h' p.2 p.1) : SetN w h' a l es ep t := by
  obtain ⟨o, ho, q⟩ := r.ob
  exact ⟨⟨o, ha o ho, q⟩, r.rows, r.tab, r.nd, hk, r.led, r.room, r.few⟩
section
variable {P : Program} {w : World} {A : Around} {E : Value → Shared → Prop}
/-- the items, one by one -/
theorem fill {I : Addr} {fp wr : List Addr} {n : Nat} {Pv : Nat → Value → Prop} {St : Nat → Heap → Prop} (W : Walks P w A.in1 I fp wr n Pv St) {S : Addr} (hSf : S ∉ fp) {ks : List Rw} (hn : n = ks.length) (few : ks.length < 64)
    (val : ∀ i v, Pv i v → ∃ p, ks[i]? = some p ∧ v = .ref p.1) {h0 : Heap} (hk : ∀ p ∈ ks, NK h0 p.2 p.1) (hS0 : h0.get? S = none) (hw0 : ∀ b ∈ wr, h0.get? b = none) (hu : A.in1.units + 9 < cLine) {s : Shared} {R : Result → Shared → Prop}
    (done : ∀ h tk l es ep t, SetN w h S l es ep t → Has ks n l → (∀ b o, h0.get? b = some o → h.get? b = some o) → R (.ok (.ret .none)) { s with heap := h, toks := tk }) :
    ∀ (m i : Nat) (h : Heap) (tk : Nat), n - i = m → i ≤ n → St i h → (∀ b o, h0.get? b = some o → h.get? b = some o) → (∃ l es ep t, SetN w h S l es ep t ∧ Has ks i l) →
      codeAny (model P w) A (.builtin "set.update.loop" ⟨[.ref S, .ref I], []⟩) R { s with heap := h, toks := tk } := by
  have hSw : S ∉ wr := fun z => hSf (W.sub _ z)
  have keep : ∀ {h h' : Heap}, (∀ b o, b ∉ wr → h.get? b = some o → h'.get? b = some o) → (∀ b o, h0.get? b = some o → h.get? b = some o) → ∀ b o, h0.get? b = some o → h'.get? b = some o := fun q k b o e => q b o (fun z => by rw [hw0 b z] at e; cases e) (k b o e)
  intro m
  induction m with
  | zero =>
    intro i h tk hm hi st kp ⟨l, es, ep, t, r, g⟩
    have e : i = n := by omega
    subst e
    refine codeAny_builtin F.entry_set_update_loop ?_
    rw [Around.under_plainId F.plain_set_update_loop _]
    show wpAny _ A.in1 (pyNext (.ref I) >>= _) _ _ _
    refine wpAny_bind (W.done _ _ _ st fun h' tk' q => ?_)
    have kp' := keep q kp
    exact wpAny_pure (done h' tk' l es ep t (r.keep (fun o e => q S o hSw e) fun p hp => nk_keep (hk p (List.mem_of_mem_take (g.sub p hp))) kp') g kp')
  | succ m ih =>
    intro i h tk hm hi st kp ⟨l, es, ep, t, r, g⟩
    refine codeAny_builtin F.entry_set_update_loop ?_
    rw [Around.under_plainId F.plain_set_update_loop _]
    show wpAny _ A.in1 (pyNext (.ref I) >>= _) _ _ _
    refine wpAny_bind (W.item i _ _ _ (by omega) st fun v h' tk' hv st' q => ?_)
    obtain ⟨p, hp, rfl⟩ := val i v hv
    have kp' := keep q kp
    have r' : SetN w h' S l es ep t := r.keep (fun o e => q S o hSw e) fun p hp => nk_keep (hk p (List.mem_of_mem_take (g.sub p hp))) kp'
    have hx : NK h' p.2 p.1 := nk_keep (hk p (List.mem_of_getElem? hp)) kp'
    show wpAny _ A.in1 (holding [Value.ref p.1] (setAdd S (.ref p.1)) >>= _) _ _ _
    refine wpAny_bind (wpAny_holding ?_)
    unfold setAdd
    refine wpAny_holding (wpAny_bind (pyHash_key p.2 _ _ _ _ hx.1 (by have := hx.2; omega) ?_))
    refine put_in (s := { s with heap := h', toks := tk' + p.2.draws }) r' hx hu (by have := g.len; omega) fun b h2 l2 es2 ep2 t2 sb r2 c1 c2 => ?_
    refine wpAny_pure ⟨plainId_quiet F.plain_set_update_loop _, ih (i + 1) h2 _ (by omega) (by omega) (W.frame _ _ _ st' fun b hb o e => ?_) (fun b o e => ?_) ⟨l2, es2, ep2, t2, r2, g.step hp c1 c2⟩⟩
    · rw [sb.2 b fun z => hSf (by rw [← z]; exact hb)]
      exact e
    · exact (sb.2 b fun z => by rw [z, hS0] at e; cases e).trans (kp' b o e)
/-- a list or a tuple -/
inductive Sq (h : Heap) (a : Addr) (its : Array Value) : Prop
  | lst (z : h.IsList a its)
  | tup (z : h.IsTuple a its)
theorem set_code {s : Shared} {a : Addr} {its : Array Value} {ks : List Rw} (hh : A.handled = none) (hl : Sq s.heap a its) (hit : its.toList = ks.map fun p => Value.ref p.1) (hk : ∀ p ∈ ks, NK s.heap p.2 p.1) (few : ks.length < 64) (hu : A.in1.units + 9 < cLine)
    {R : Result → Shared → Prop} (done : ∀ h tk l es ep t, SetN w h s.heap.objs.size l es ep t → Has ks ks.length l → (∀ b o, s.heap.get? b = some o → h.get? b = some o) → R (.ok (.ret .none)) { s with heap := h, toks := tk }) :
    wpAny (model P w) A (pyIter (.ref a)) (fun v s' => codeAny (model P w) A (.builtin "set.update.loop" ⟨[.ref s.heap.objs.size, v], []⟩) R s') E { s with heap := s.heap.push (emptyS w) } := by
  have sz : its.size = ks.length := by rw [← Array.length_toList, hit, List.length_map]
  have val : ∀ (i : Nat) (v : Value), its[i]? = some v → ∃ p, ks[i]? = some p ∧ v = .ref p.1 := fun i v hv => by
    rw [← Array.getElem?_toList, hit, List.getElem?_map] at hv
    obtain ⟨p, hp, rfl⟩ := Option.map_eq_some_iff.mp hv
    exact ⟨p, hp, rfl⟩
  have off : ∀ b, s.heap.objs.size ≤ b → s.heap.get? b = none := fun b hb => by
    cases q : s.heap.get? b with
    | none => rfl
    | some o => exact absurd (Nat.lt_of_lt_of_le (Heap.lt_size q) hb) (Nat.lt_irrefl _)
  have hs1 : (s.heap.push (emptyS w)).objs.size = s.heap.objs.size + 1 := Heap.size_push ..
  have hS : ∀ o : Obj, ((s.heap.push (emptyS w)).push o).get? s.heap.objs.size = some (emptyS w) := fun o => Heap.get?_push_of_some _ (Heap.get?_push_size _ rfl)
  have old : ∀ o : Obj, ∀ b u, s.heap.get? b = some u → ((s.heap.push (emptyS w)).push o).get? b = some u := fun o b u e => Heap.get?_push_of_some _ (Heap.get?_push_of_some _ e)
  have alt : a < s.heap.objs.size := by
    rcases hl with ⟨o, z, _⟩ | ⟨o, z, _⟩ <;> exact Heap.lt_size z
  have nf : s.heap.objs.size ∉ [(s.heap.push (emptyS w)).objs.size, a] := by
    rw [hs1]
    simp only [List.mem_cons, List.not_mem_nil, or_false, not_or]
    exact ⟨Nat.ne_of_lt (Nat.lt_succ_self _), Nat.ne_of_gt alt⟩
  have w0 : ∀ b ∈ [(s.heap.push (emptyS w)).objs.size], s.heap.get? b = none := fun b hb => off b (by rw [List.mem_singleton.mp hb, hs1]; omega)
  have ne : a ≠ (s.heap.push (emptyS w)).objs.size := by rw [hs1]; exact Nat.ne_of_lt (Nat.lt_succ_of_lt alt)
  have h1 : A.in1.handled = none := by simp [hh]
  rcases hl with z | z
  · have z1 : (s.heap.push (emptyS w)).IsList a its := z.push _
    refine wpAny_pyIter_list z1 ?_
    refine fill (s := s) (Walks.list h1 _ a ne its) nf sz few val hk (off _ (Nat.le_refl _)) w0 hu (fun h tk l es ep t r g k => done h tk l es ep t r (by rw [← sz]; exact g) k) (its.size - 0) 0 _ s.toks (by omega) (Nat.zero_le _) ⟨⟨_, Heap.get?_push_size _ rfl, rfl, rfl⟩, z1.push _⟩ (old _) ⟨[], #[], 0, _, SetN.fresh (hS _), ⟨fun p h => (by cases h), fun p h => (by simp at h), Nat.le_refl _⟩⟩
  · have z1 : (s.heap.push (emptyS w)).IsTuple a its := z.push _
    refine wpAny_pyIter_tuple z1 ?_
    refine fill (s := s) (Walks.tuple h1 _ a ne its) nf sz few val hk (off _ (Nat.le_refl _)) w0 hu (fun h tk l es ep t r g k => done h tk l es ep t r (by rw [← sz]; exact g) k) (its.size - 0) 0 _ s.toks (by omega) (Nat.zero_le _) ⟨⟨_, Heap.get?_push_size _ rfl, rfl, rfl⟩, z1.push _⟩ (old _) ⟨[], #[], 0, _, SetN.fresh (hS _), ⟨fun p h => (by cases h), fun p h => (by simp at h), Nat.le_refl _⟩⟩
end
end Bk
namespace Bk
open PySem PySem.Spec PyProof.Rows L2
section
variable {P : Program} {w : World} {A : Around} {E : Value → Shared → Prop} {s : Shared}
/-- a list or a tuple, no set and no dict -/
theorem upd_sq {a : Addr} {its : Array Value} {S : Addr} (hl : Sq s.heap a its) {Q : Unit → Shared → Prop} (q : wpAny (model P w) A (pyIter (.ref a)) (fun v s' => wpAny (model P w) A (runValue (.builtin "set.update.loop" ⟨[.ref S, v], []⟩)) (fun _ s2 => Q () s2) E s') E s) :
    wpAny (model P w) A (Builtin.Frozenset.updateFrom "set.__init__" S (.ref a)) Q E s := by
  rcases hl with ⟨o, ho, hc, n, hd⟩ | ⟨o, ho, hc, n, hd⟩
  · obtain ⟨oc, od, dt, os⟩ := o
    simp only at hc hd
    subst hc hd
    have f1 := F.sub_list_set
    have f2 := F.sub_list_frozenset
    have f3 : (Value.type "list" == Value.type "dict") = false := by decide
    unfold Builtin.Frozenset.updateFrom
    generalize hPI : pyIter = PI at q ⊢
    wp_walk
    exact wpAny_mono q (fun v s' z => wpAny_bind (wpAny_mono z (fun _ _ z => wpAny_pure z) fun _ _ z => z)) fun _ _ z => z
  · obtain ⟨oc, od, dt, os⟩ := o
    simp only at hc hd
    subst hc hd
    have f1 := F.sub_tuple_set
    have f2 := F.sub_tuple_frozenset
    have f3 : (Value.type "tuple" == Value.type "dict") = false := by decide
    unfold Builtin.Frozenset.updateFrom
    generalize hPI : pyIter = PI at q ⊢
    wp_walk
    exact wpAny_mono q (fun v s' z => wpAny_bind (wpAny_mono z (fun _ _ z => wpAny_pure z) fun _ _ z => z)) fun _ _ z => z
/-- set(a) -/
theorem call_setN {a : Addr} {its : Array Value} {ks : List Rw} {Q : Value → Shared → Prop} (hh : A.handled = none) (hl : Sq s.heap a its) (hit : its.toList = ks.map fun p => Value.ref p.1) (hk : ∀ p ∈ ks, NK s.heap p.2 p.1) (few : ks.length < 64) (hu : A.units + 20 < cLine)
    (q : ∀ h tk l es ep t, SetN w h s.heap.objs.size l es ep t → Has ks ks.length l → (∀ b o, s.heap.get? b = some o → h.get? b = some o) → Q (.ref s.heap.objs.size) { s with heap := h, toks := tk }) :
    wpAny (model P w) A (call (.type "set") [.ref a]) Q E s := by
  obtain ⟨c, tl, hmro⟩ := F.called_set.mro
  have hmade := F.called_set.made
  have hsub := F.called_set.sub
  have k1 := F.called_set.notType
  have k2 := F.called_set.canCreate
  have k3 := F.typeCall_set_1 (.ref a)
  refine wpAny_call (codeAny_of_tree ?_)
  show wpAny _ _ (callAny (.type "set") _) _ _ _
  refine wpAny_pure ⟨Code.quiet_builtin _ (by decide +kernel), codeAny_builtin F.entry_type_call ?_⟩
  rw [Around.under_plain (weight_type_call_type "set" [.ref a] []) rfl]
  repeat (any_goals (first | assumption | wp_step))
  refine codeAny_mono (code_set_led1 (.ref a) (E := E) (Q₁ := fun v s1 => v = .ref s.heap.objs.size ∧ s1 = { s with heap := s.heap.push (emptyS w) }) ⟨rfl, rfl⟩) fun r s1 hr => ?_
  cases r with
  | error e => exact hr
  | ok fl =>
    cases fl with
    | ret v =>
      obtain ⟨rfl, rfl⟩ := hr
      have hS : (s.heap.push (emptyS w)).get? s.heap.objs.size = some (emptyS w) := Heap.get?_push_size _ rfl
      have hT : Shared.TypeIs { s with heap := s.heap.push (emptyS w) } (.ref s.heap.objs.size) "set" := ⟨_, hS, rfl⟩
      have j1 := F.called_set.init.lookup
      have j2 := F.called_set.init.bind (.ref s.heap.objs.size)
      repeat (any_goals (first | assumption | wp_step))
      refine codeAny_mono (codeAny_call_builtin (R := wants (fun v s2 => v = .none ∧ ∃ h tk l es ep t, s2 = { s with heap := h, toks := tk } ∧ SetN w h s.heap.objs.size l es ep t ∧ Has ks ks.length l ∧ ∀ b o, s.heap.get? b = some o → h.get? b = some o) E) F.called_set.init.plain F.entry_set_init (check_set_init_1 hT ?_)) fun r2 s2 hr2 => ?_
      · have hl1 : Sq (s.heap.push (emptyS w)) a its := by
          rcases hl with z | z
          · exact .lst (z.push _)
          · exact .tup (z.push _)
        unfold Builtin.«set.__init__» noKeywords
        generalize hUF : Builtin.Frozenset.updateFrom = UF
        wp_walk
        subst hUF
        refine upd_sq hl1 (wpAny_mono (set_code (A := A.in1.in1) (s := s) (by simp [hh]) hl hit hk few (by simp only [Around.in1_units]; omega) fun h tk l es ep t r g k => ?_) (fun v s' z => wpAny_runValue z) fun _ _ z => z)
        exact wpAny_pure ⟨rfl, h, tk, l, es, ep, t, rfl, r, g, k⟩
      · cases r2 with
        | error e => exact hr2
        | ok f2 =>
          cases f2 with
          | ret v =>
            obtain ⟨rfl, h, tk, l, es, ep, t, rfl, r, g, k⟩ := hr2
            exact wpAny_pure (wpAny_pure (q h tk l es ep t r g k))
          | _ => exact hr2.elim
    | _ => exact hr.elim
end
end Bk
namespace Bk
open PySem PySem.Spec PyProof.Rows L2
mutual
theorem nkey_pure : ∀ d : PyData, pureK d = true → ∃ k, nkey d = some k ∧ k.depth = d.depth
  | .none, _ => ⟨.none, rfl, rfl⟩
  | .int i, _ => ⟨.num i, rfl, rfl⟩
  | .str x, _ => ⟨.text x, rfl, rfl⟩
  | .tuple xs, h => by
    obtain ⟨ks, e, d⟩ := nkeys_pure xs (by simpa [pureK] using h)
    exact ⟨.tup ks, by simp [nkey, e], by simp [NestedKey.depth, PyData.depth, d]⟩
  | .bool _, h => by simp [pureK] at h
  | .list _, h => by simp [pureK] at h
  | .dict _, h => by simp [pureK] at h
theorem nkeys_pure : ∀ ds : List PyData, pureKs ds = true → ∃ ks, nkeys ds = some ks ∧ NestedKey.depthAll ks = PyData.depthAll ds
  | [], _ => ⟨[], rfl, rfl⟩
  | x :: xs, h => by
    simp only [pureKs, Bool.and_eq_true] at h
    obtain ⟨k, e1, d1⟩ := nkey_pure x h.1
    obtain ⟨ks, e2, d2⟩ := nkeys_pure xs h.2
    exact ⟨k :: ks, by simp [nkeys, e1, e2], by simp [NestedKey.depthAll, PyData.depthAll, d1, d2]⟩
end
mutual
theorem nkey_eqv : ∀ (x y : PyData) (a b : NestedKey), nkey x = some a → nkey y = some b → PyData.eqv x y = NestedKey.beq a b
  | .none, y, a, b, h1, h2 => by
    cases h1
    cases y with
    | tuple ys =>
      obtain ⟨ks, _, rfl⟩ := Option.map_eq_some_iff.mp (show (nkeys ys).map NestedKey.tup = some b from h2)
      simp [PyData.eqv, NestedKey.beq]
    | list _ => cases h2
    | dict _ => cases h2
    | _ => cases h2; simp [PyData.eqv, NestedKey.beq]
  | .int i, y, a, b, h1, h2 => by
    cases h1
    cases y with
    | tuple ys =>
      obtain ⟨ks, _, rfl⟩ := Option.map_eq_some_iff.mp (show (nkeys ys).map NestedKey.tup = some b from h2)
      simp [PyData.eqv, NestedKey.beq]
    | list _ => cases h2
    | dict _ => cases h2
    | _ => cases h2; simp [PyData.eqv, NestedKey.beq] <;> rfl
  | .bool c, y, a, b, h1, h2 => by
    cases h1
    cases y with
    | tuple ys =>
      obtain ⟨ks, _, rfl⟩ := Option.map_eq_some_iff.mp (show (nkeys ys).map NestedKey.tup = some b from h2)
      simp [PyData.eqv, NestedKey.beq]
    | list _ => cases h2
    | dict _ => cases h2
    | bool e => cases h2; cases c <;> cases e <;> simp [PyData.eqv, NestedKey.beq]
    | _ => cases h2; simp [PyData.eqv, NestedKey.beq] <;> rfl
  | .str z, y, a, b, h1, h2 => by
    cases h1
    cases y with
    | tuple ys =>
      obtain ⟨ks, _, rfl⟩ := Option.map_eq_some_iff.mp (show (nkeys ys).map NestedKey.tup = some b from h2)
      simp [PyData.eqv, NestedKey.beq]
    | list _ => cases h2
    | dict _ => cases h2
    | _ => cases h2; simp [PyData.eqv, NestedKey.beq] <;> rfl
  | .tuple xs, y, a, b, h1, h2 => by
    obtain ⟨ks, e1, rfl⟩ := Option.map_eq_some_iff.mp (show (nkeys xs).map NestedKey.tup = some a from h1)
    cases y with
    | tuple ys =>
      obtain ⟨ls, e2, rfl⟩ := Option.map_eq_some_iff.mp (show (nkeys ys).map NestedKey.tup = some b from h2)
      simp only [PyData.eqv, NestedKey.beq]
      exact nkeys_eqv xs ys ks ls e1 e2
    | list _ => cases h2
    | dict _ => cases h2
    | _ => cases h2; simp [PyData.eqv, NestedKey.beq]
  | .list _, _, _, _, h1, _ => by cases h1
  | .dict _, _, _, _, h1, _ => by cases h1
theorem nkeys_eqv : ∀ (xs ys : List PyData) (as bs : List NestedKey), nkeys xs = some as → nkeys ys = some bs → PyData.eqvAll xs ys = NestedKey.beqAll as bs
  | [], [], _, _, h1, h2 => by
    cases h1
    cases h2
    simp [PyData.eqvAll, NestedKey.beqAll]
  | [], y :: ys, _, _, h1, h2 => by
    cases h1
    obtain ⟨k, _, h2⟩ := Option.bind_eq_some_iff.mp (show (nkey y).bind (fun k => (nkeys ys).map fun ks => k :: ks) = some _ from h2)
    obtain ⟨ks, _, rfl⟩ := Option.map_eq_some_iff.mp h2
    simp [PyData.eqvAll, NestedKey.beqAll]
  | x :: xs, [], _, _, h1, h2 => by
    cases h2
    obtain ⟨k, _, h1⟩ := Option.bind_eq_some_iff.mp (show (nkey x).bind (fun k => (nkeys xs).map fun ks => k :: ks) = some _ from h1)
    obtain ⟨ks, _, rfl⟩ := Option.map_eq_some_iff.mp h1
    simp [PyData.eqvAll, NestedKey.beqAll]
  | x :: xs, y :: ys, _, _, h1, h2 => by
    obtain ⟨k, e1, h1⟩ := Option.bind_eq_some_iff.mp (show (nkey x).bind (fun k => (nkeys xs).map fun ks => k :: ks) = some _ from h1)
    obtain ⟨ks, e2, rfl⟩ := Option.map_eq_some_iff.mp h1
    obtain ⟨l, e3, h2⟩ := Option.bind_eq_some_iff.mp (show (nkey y).bind (fun k => (nkeys ys).map fun ks => k :: ks) = some _ from h2)
    obtain ⟨ls, e4, rfl⟩ := Option.map_eq_some_iff.mp h2
    simp only [PyData.eqvAll, NestedKey.beqAll]
    rw [nkey_eqv x y k l e1 e3, nkeys_eqv xs ys ks ls e2 e4]
end
mutual
theorem nkey_inj : ∀ (x y : PyData) (a : NestedKey), pureK x = true → pureK y = true → nkey x = some a → nkey y = some a → x = y
  | .none, y, a, _, p, h1, h2 => by
    cases h1
    cases y with
    | none => rfl
    | tuple ys =>
      obtain ⟨_, _, e⟩ := Option.map_eq_some_iff.mp (show (nkeys ys).map NestedKey.tup = some _ from h2)
      cases e
    | _ => cases h2
  | .int i, y, a, _, p, h1, h2 => by
    cases h1
    cases y with
    | int j => cases h2; rfl
    | bool _ => simp [pureK] at p
    | tuple ys =>
      obtain ⟨_, _, e⟩ := Option.map_eq_some_iff.mp (show (nkeys ys).map NestedKey.tup = some _ from h2)
      cases e
    | _ => cases h2
  | .str z, y, a, _, p, h1, h2 => by
    cases h1
    cases y with
    | str j => cases h2; rfl
    | tuple ys =>
      obtain ⟨_, _, e⟩ := Option.map_eq_some_iff.mp (show (nkeys ys).map NestedKey.tup = some _ from h2)
      cases e
    | _ => cases h2
  | .tuple xs, y, a, p1, p, h1, h2 => by
    obtain ⟨ks, e1, rfl⟩ := Option.map_eq_some_iff.mp (show (nkeys xs).map NestedKey.tup = some a from h1)
    cases y with
    | tuple ys =>
      obtain ⟨ls, e2, e⟩ := Option.map_eq_some_iff.mp (show (nkeys ys).map NestedKey.tup = some _ from h2)
      cases e
      rw [nkeys_inj xs ys ks (by simpa [pureK] using p1) (by simpa [pureK] using p) e1 e2]
    | list _ => cases h2
    | dict _ => cases h2
    | _ => cases h2
  | .bool _, _, _, p, _, _, _ => by simp [pureK] at p
  | .list _, _, _, p, _, _, _ => by simp [pureK] at p
  | .dict _, _, _, p, _, _, _ => by simp [pureK] at p
theorem nkeys_inj : ∀ (xs ys : List PyData) (as : List NestedKey), pureKs xs = true → pureKs ys = true → nkeys xs = some as → nkeys ys = some as → xs = ys
  | [], [], _, _, _, _, _ => rfl
  | [], y :: ys, _, _, _, h1, h2 => by
    cases h1
    obtain ⟨k, _, h2⟩ := Option.bind_eq_some_iff.mp (show (nkey y).bind (fun k => (nkeys ys).map fun ks => k :: ks) = some _ from h2)
    obtain ⟨ks, _, e⟩ := Option.map_eq_some_iff.mp h2
    cases e
  | x :: xs, [], _, _, _, h1, h2 => by
    cases h2
    obtain ⟨k, _, h1⟩ := Option.bind_eq_some_iff.mp (show (nkey x).bind (fun k => (nkeys xs).map fun ks => k :: ks) = some _ from h1)
    obtain ⟨ks, _, e⟩ := Option.map_eq_some_iff.mp h1
    cases e
  | x :: xs, y :: ys, _, p1, p2, h1, h2 => by
    simp only [pureKs, Bool.and_eq_true] at p1 p2
    obtain ⟨k, e1, h1⟩ := Option.bind_eq_some_iff.mp (show (nkey x).bind (fun k => (nkeys xs).map fun ks => k :: ks) = some _ from h1)
    obtain ⟨ks, e2, rfl⟩ := Option.map_eq_some_iff.mp h1
    obtain ⟨l, e3, h2⟩ := Option.bind_eq_some_iff.mp (show (nkey y).bind (fun k => (nkeys ys).map fun ks => k :: ks) = some _ from h2)
    obtain ⟨ls, e4, e⟩ := Option.map_eq_some_iff.mp h2
    cases e
    rw [nkey_inj x y _ p1.1 p2.1 e1 e3, nkeys_inj xs ys _ p1.2 p2.2 e2 e4]
end
mutual
theorem eqv_pure : ∀ x y : PyData, pureK x = true → pureK y = true → (PyData.eqv x y = true ↔ x = y)
  | x, y, p, q => by
    obtain ⟨a, e1, _⟩ := nkey_pure x p
    obtain ⟨b, e2, _⟩ := nkey_pure y q
    rw [nkey_eqv x y a b e1 e2]
    constructor
    · intro h
      have e := NestedKey.eq_of_beq a b h
      subst e
      exact nkey_inj x y a p q e1 e2
    · rintro rfl
      rw [e1] at e2
      cases e2
      exact NestedKey.beq_self a
end
theorem keyOk_of {x : PyData} (h : keyOk x = true) : (∃ xs, x = .tuple xs) ∧ pureK x = true ∧ x.depth ≤ 8 := by
  unfold keyOk at h
  simp only [Bool.and_eq_true, decide_eq_true_eq] at h
  refine ⟨?_, h.1.2, h.2⟩
  cases x with
  | tuple xs => exact ⟨xs, rfl⟩
  | _ => exact absurd h.1.1 (by simp [isTup])
section
variable {X : Cx} {pins : List (Addr × Obj)} {σ : L2.St} {G H : Hp} {s : Shared}
mutual
theorem nk_dq (I : L2.Inv X pins σ H s) (m : ∀ a o, G a = some o → H a = some o) : ∀ {v : V} {d : PyData} {k : NestedKey} {u : Value}, Dq X.K G v d → nkey d = some k → L2.RelV v u → NestedIs s.heap k u
  | _, _, _, _, .non, h, r => by
    cases h
    cases r
    exact .none
  | _, _, _, _, .bl b, h, r => by
    cases h
    cases r
    exact .bool rfl
  | _, _, _, _, .int i, h, r => by
    cases h
    obtain ⟨t, rfl⟩ := r
    exact .int _ _
  | _, _, _, _, .str x, h, r => by
    cases h
    obtain ⟨t, rfl⟩ := r
    exact .text _ _
  | _, _, _, _, .lst _ _, h, _ => by cases h
  | _, .tuple ds, k, _, .tup h1 h2, h, r => by
    obtain ⟨ks, e1, rfl⟩ := Option.map_eq_some_iff.mp (show (nkeys ds).map NestedKey.tup = some k from h)
    cases r
    obtain ⟨its, rv, ⟨o, ho, hc, n, hd⟩, _⟩ := I.tuple (SqT.mono m h1)
    exact .tup ho hc hd (by simpa using nk_dqs I m h2 e1 rv)
theorem nk_dqs (I : L2.Inv X pins σ H s) (m : ∀ a o, G a = some o → H a = some o) : ∀ {vs : List V} {ds : List PyData} {ks : List NestedKey} {us : List Value}, DqAll X.K G vs ds → nkeys ds = some ks → Vals vs us → NestedAll s.heap ks us
  | _, _, _, _, .nil, h, r => by
    cases h
    cases r
    exact .nil
  | _, _, _, _, .cons (d := d) (ds := ds) h1 h2, h, r => by
    obtain ⟨k, e1, h⟩ := Option.bind_eq_some_iff.mp (show (nkey d).bind (fun k => (nkeys ds).map fun ks => k :: ks) = some _ from h)
    obtain ⟨ks, e2, rfl⟩ := Option.map_eq_some_iff.mp h
    cases r with
    | cons r1 r2 => exact .cons (nk_dq I m h1 e1 r1) (nk_dqs I m h2 e2 r2)
end
end
end Bk
namespace Bk
open PySem PySem.Spec PyProof.Rows L2
/-- the set at a, by its own object alone -/
def Set0 (w : World) (a : Addr) (l : List Rw) (h : Heap) : Prop := ∃ es ep t, (∃ o, h.get? a = some o ∧ o.ExactSet ∧ o.data = .set es ep t) ∧ es.toList = rws w l ∧ TabOk t (hsh w l) ∧ (l.map (·.2)).Nodup ∧ (w.params.followText "set-order" = true ∨ t.led = true) ∧ l.length * 5 < t.mask * 3 ∧ l.length < 64
def SO (w : World) (a : Addr) (l : List Rw) : HO := .ext (Set0 w a l)
theorem SetN.zero {w : World} {h : Heap} {a : Addr} {l : List Rw} {es : Array (Int × Value)} {ep : Nat} {t : SetTable} (r : SetN w h a l es ep t) : Set0 w a l h := ⟨es, ep, t, r.ob, r.rows, r.tab, r.nd, r.led, r.room, r.few⟩
theorem so_ok {P : Program} {w : World} {H : Hp} {h : Heap} {a : Addr} {l : List Rw} (r : Set0 w a l h) : ObjOk P w H h a (SO w a l) := by
  have ⟨_, _, _, ⟨o, ho, _⟩, _⟩ := r
  refine ⟨r, ⟨o, ho⟩, fun h1 h2 p k => ?_⟩
  obtain ⟨es, ep, t, ⟨o, ho, q⟩, z⟩ := p
  exact ⟨es, ep, t, ⟨o, k o ho, q⟩, z⟩
/-! ### without those that come again -/
theorem nub_mem : ∀ (l : List PyData), (∀ y ∈ l, pureK y = true) → (∀ z, z ∈ nubD l ↔ z ∈ l) ∧ (nubD l).Nodup
  | [], _ => ⟨fun z => Iff.rfl, List.nodup_nil⟩
  | x :: r, h => by
    obtain ⟨i1, i2⟩ := nub_mem r fun y hy => h y (List.mem_cons_of_mem _ hy)
    have hx := h x (List.mem_cons_self ..)
    show (∀ z, z ∈ x :: (nubD r).filter (fun y => !PyData.eqv x y) ↔ _) ∧ (x :: (nubD r).filter fun y => !PyData.eqv x y).Nodup
    constructor
    · intro z
      rw [List.mem_cons, List.mem_cons, List.mem_filter, i1 z]
      constructor
      · rintro (q | q)
        · exact .inl q
        · exact .inr q.1
      · rintro (q | q)
        · exact .inl q
        · cases e : PyData.eqv x z with
          | true => exact .inl ((eqv_pure x z hx (h z (List.mem_cons_of_mem _ q))).mp e).symm
          | false => exact .inr ⟨q, rfl⟩
    · refine List.nodup_cons.mpr ⟨fun q => ?_, i2.filter _⟩
      have e := (List.mem_filter.mp q).2
      rw [(eqv_pure x x hx hx).mpr rfl] at e
      cases e
theorem perm_nodup {α : Type} {l m : List α} (h1 : l.Nodup) (h2 : m.Nodup) (h : ∀ z, z ∈ l ↔ z ∈ m) : l.Perm m := (List.perm_ext_iff_of_nodup h1 h2).mpr h
/-! ### sorting does not see the order -/
theorem toks_ne {x y : PyData} (ha : PySem.W.alike x y = true) (h : PyData.eqv x y = false) : PySem.W.keyToks x ≠ PySem.W.keyToks y := by
  intro e
  have q := (PySem.W.toks_eqv x y ha).2 h [] [.inl 0]
  rw [e, PySem.W.lex_pre] at q
  have z : PyProof.Rows.lexLt itemOrd (PySem.W.keyToks y) (PySem.W.keyToks y) = false := by
    have := PySem.W.lex_pre (PySem.W.keyToks y) [] []
    rw [List.append_nil] at this
    rw [this]
    rfl
  rw [z] at q
  cases q
theorem lex_tri : ∀ (a b : List (Int ⊕ List Nat)), a ≠ b → PyProof.Rows.lexLt itemOrd a b = true ∨ PyProof.Rows.lexLt itemOrd b a = true
  | [], [], h => absurd rfl h
  | [], _ :: _, _ => .inl rfl
  | _ :: _, [], _ => .inr rfl
  | x :: a, y :: b, h => by
    by_cases e : x = y
    · subst e
      rw [lex_self, lex_self]
      exact lex_tri a b fun z => h (by rw [z])
    · rw [lex_cons, lex_cons]
      cases q1 : itemOrd.blt x y with
      | true => left; rfl
      | false =>
        cases q2 : itemOrd.blt y x with
        | true => right; rfl
        | false => exact absurd (itemOrd.total x y q1 q2) e
theorem lt_tri {x y : PyData} (ha : PySem.W.alike x y = true) (h : PyData.eqv x y = false) : PySem.W.dataLt x y = true ∨ PySem.W.dataLt y x = true := lex_tri _ _ (toks_ne ha h)
theorem isort_perm {l m : List PyData} (pm : l.Perm m) (nd : l.Nodup) (hp : ∀ y ∈ l, pureK y = true) (ha : ∀ x ∈ l, ∀ y ∈ l, PySem.W.alike x y = true) : isort l = isort m := by
  rw [isort_eq m]
  refine PySem.W.sort_unique leD2_total (isort_pw l) fun c => ?_
  rw [isort_filter]
  have p2 := pm.filter (PySem.W.sameRank leD2 c)
  have one : ∀ x ∈ l.filter (PySem.W.sameRank leD2 c), ∀ y ∈ l.filter (PySem.W.sameRank leD2 c), x = y := fun x hx y hy => by
    obtain ⟨x1, x2⟩ := List.mem_filter.mp hx
    obtain ⟨y1, y2⟩ := List.mem_filter.mp hy
    unfold PySem.W.sameRank at x2 y2
    rw [Bool.and_eq_true] at x2 y2
    have t1 := leD2_total.trans x c y x2.2 y2.1
    have t2 := leD2_total.trans y c x y2.2 x2.1
    cases q : PyData.eqv x y with
    | true => exact (eqv_pure x y (hp x x1) (hp y y1)).mp q
    | false =>
      rcases lt_tri (ha x x1 y y1) q with z | z
      · rw [leD2_eq, z] at t2; cases t2
      · rw [leD2_eq, z] at t1; cases t1
  have nd2 := nd.filter (PySem.W.sameRank leD2 c)
  revert one p2 nd2
  generalize l.filter (PySem.W.sameRank leD2 c) = a
  generalize m.filter (PySem.W.sameRank leD2 c) = b
  intro p2 one nd2
  match a, one, nd2, p2 with
  | [], _, _, p2 => exact (List.Perm.nil_eq p2)
  | [x], _, _, p2 => exact (List.perm_singleton.mp p2.symm).symm
  | x :: y :: r, one, nd2, _ =>
    exfalso
    have e := one x (by simp) y (by simp)
    subst e
    simp at nd2
section
variable {X : Cx} {C : Cf}
/-- the rows and the data -/
def RwD (K : PySem.W.Frag) (G : Hp) (p : Rw) (d : PyData) : Prop := nkey d = some p.2 ∧ keyOk d = true ∧ p.2.depth ≤ 8 ∧ Dq K G (.ref p.1) d
theorem rows_of {K : PySem.W.Frag} {G : Hp} : ∀ {vs : List V} {ds : List PyData}, DqAll K G vs ds → (ds.all keyOk) = true → ∃ ks : List Rw, vs = ks.map (fun p => V.ref p.1) ∧ Paired (RwD K G) ks ds
  | _, _, .nil, _ => ⟨[], rfl, .nil⟩
  | _, _, .cons (d := d) h r, q => by
    rw [List.all_cons, Bool.and_eq_true] at q
    obtain ⟨ks, e1, e2⟩ := rows_of r q.2
    obtain ⟨⟨xs, rfl⟩, k2, k3⟩ := keyOk_of q.1
    obtain ⟨k, n1, n2⟩ := nkey_pure _ k2
    cases h with
    | @tup a _ _ h1 h2 => exact ⟨(a, k) :: ks, by rw [e1]; rfl, .cons ⟨n1, q.1, by rw [n2]; exact k3, .tup h1 h2⟩ e2⟩
theorem pair_mem {α β : Type} {r : α → β → Prop} : ∀ {l : List α} {m : List β}, Paired r l m → (∀ x ∈ l, ∃ y ∈ m, r x y) ∧ ∀ y ∈ m, ∃ x ∈ l, r x y
  | _, _, .nil => ⟨fun _ h => (by cases h), fun _ h => (by cases h)⟩
  | _, _, .cons h t => by
    obtain ⟨i1, i2⟩ := pair_mem t
    refine ⟨fun x hx => ?_, fun y hy => ?_⟩
    · rcases List.mem_cons.mp hx with rfl | hx
      · exact ⟨_, List.mem_cons_self .., h⟩
      · obtain ⟨y, q1, q2⟩ := i1 x hx
        exact ⟨y, List.mem_cons_of_mem _ q1, q2⟩
    · rcases List.mem_cons.mp hy with rfl | hy
      · exact ⟨_, List.mem_cons_self .., h⟩
      · obtain ⟨x, q1, q2⟩ := i2 y hy
        exact ⟨x, List.mem_cons_of_mem _ q1, q2⟩
theorem refs_vals : ∀ {ks : List Rw} {us : List Value}, Vals (ks.map fun p => V.ref p.1) us → us = ks.map fun p => Value.ref p.1
  | [], _, .nil => rfl
  | p :: ks, _, .cons r t => by
    cases r
    rw [refs_vals t]
    rfl
theorem vals_refs : ∀ ks : List Rw, Vals (ks.map fun p => V.ref p.1) (ks.map fun p => Value.ref p.1)
  | [] => .nil
  | p :: ks => .cons rfl (vals_refs ks)
/-- l: the rows of the set of ds, dl their data -/
structure SetD (K : PySem.W.Frag) (G : Hp) (ds : List PyData) (l : List Rw) (dl : List PyData) : Prop where
  rel : Paired (RwD K G) l dl
  pm : dl.Perm (nubD ds)
  nd : dl.Nodup
theorem pick {α β : Type} {r : α → β → Prop} : ∀ {l : List α}, (∀ x ∈ l, ∃ y, r x y) → ∃ m, Paired r l m
  | [], _ => ⟨[], .nil⟩
  | x :: l, h => by
    obtain ⟨y, hy⟩ := h x (List.mem_cons_self ..)
    obtain ⟨m, hm⟩ := pick fun z hz => h z (List.mem_cons_of_mem _ hz)
    exact ⟨y :: m, .cons hy hm⟩
theorem keys_nodup {K : PySem.W.Frag} {G : Hp} : ∀ {l : List Rw} {dl : List PyData}, Paired (RwD K G) l dl → (l.map (·.2)).Nodup → dl.Nodup
  | _, _, .nil, _ => List.nodup_nil
  | _, _, .cons (a := p) (b := d) h t, n => by
    rw [List.map_cons, List.nodup_cons] at n
    refine List.nodup_cons.mpr ⟨fun q => n.1 ?_, keys_nodup t n.2⟩
    obtain ⟨p', h1, h2⟩ := (pair_mem t).2 d q
    exact List.mem_map.mpr ⟨p', h1, Option.some.inj (h2.1.symm.trans h.1)⟩
theorem setD_of {K : PySem.W.Frag} {G : Hp} {ks l : List Rw} {ds : List PyData} (hr : Paired (RwD K G) ks ds) (nd : (l.map (·.2)).Nodup) (g : Has ks ks.length l) : ∃ dl, SetD K G ds l dl := by
  rw [show ks.length = ks.length from rfl] at g
  have sub : ∀ p ∈ l, p ∈ ks := fun p hp => List.mem_of_mem_take (g.sub p hp)
  obtain ⟨dl, hd⟩ := pick (l := l) (r := fun p d => RwD K G p d ∧ d ∈ ds) fun p hp => by
    obtain ⟨d, h1, h2⟩ := (pair_mem hr).1 p (sub p hp)
    exact ⟨d, h2, h1⟩
  have hd1 : Paired (RwD K G) l dl := Paired.mapP hd fun _ _ q => q.1
  have pure : ∀ d ∈ ds, pureK d = true := fun d h => by
    obtain ⟨p, _, q⟩ := (pair_mem hr).2 d h
    exact (keyOk_of q.2.1).2.1
  have nd1 := keys_nodup hd1 nd
  obtain ⟨m1, m2⟩ := nub_mem ds pure
  refine ⟨dl, hd1, perm_nodup nd1 m2 fun z => ?_, nd1⟩
  rw [m1 z]
  constructor
  · intro h
    obtain ⟨p, _, q⟩ := (pair_mem hd).2 z h
    exact q.2
  · intro h
    obtain ⟨p, p1, p2⟩ := (pair_mem hr).2 z h
    obtain ⟨p', q1, q2⟩ := List.mem_map.mp (g.all p (by rw [List.take_length]; exact p1))
    obtain ⟨z', z1, z2⟩ := (pair_mem hd).1 p' q1
    have e : z' = z := nkey_inj z' z p.2 (keyOk_of z2.1.2.1).2.1 (pure z h) (by rw [z2.1.1, q2]) p2.1
    rw [← e]
    exact z1
/-- set(x) -/
def rSet (C : Cf) : List V → Hp → VK → Prop := fun xs H Q => ∃ τ G x dx ds, xs = [x] ∧ At C τ G H ∧ Top C G H x dx ∧ seqD dx = some ds ∧ ds.length < 64 ∧ (ds.all keyOk) = true ∧ ∀ p l dl, H p = none → SetD C.K G ds l dl → Q (.ref p) (upd H p (SO C.w p l))
theorem sq_top {τ : Town} {G H : Hp} {pins : List (Addr × Obj)} {σ : L2.St} {s : Shared} {x : V} {u : Value} {dx : PyData} {ds : List PyData} (hK : X.K = C.K) (I : L2.Inv X pins σ H s) (A : At C τ G H) (tx : Top C G H x dx) (hd : seqD dx = some ds) (r : L2.RelV x u) :
    ∃ a vs its, u = .ref a ∧ Sq s.heap a its ∧ Vals vs its.toList ∧ DqAll C.K G vs ds := by
  cases dx with
  | tuple es =>
    cases hd
    obtain ⟨a, vs, rfl, h1, h2⟩ := tx.tup
    cases r
    obtain ⟨its, rv, pl, _⟩ := I.tuple (by rw [hK]; exact SqT.mono A.s h1)
    exact ⟨a, vs, its.toArray, rfl, .tup pl, by simpa using rv, h2⟩
  | list es =>
    cases hd
    obtain ⟨a, vs, rfl, h1, h2⟩ := tx.lst A.s
    cases r
    obtain ⟨its, rv, pl, _⟩ := I.list (SqL.of (K := X.K) h1)
    exact ⟨a, vs, its.toArray, rfl, .lst pl.isList, by simpa using rv, h2⟩
  | _ => cases hd
theorem cr_set (hK : X.K = C.K) (hw : X.w = C.w) (hc : X.calm = true) (hu : X.A.units + 64 < cLine) : CallR X (.type "set") (rSet C) := by
  intro pins s σ H xs us Q I r h
  obtain ⟨τ, G, x, dx, ds, rfl, A, tx, hd, few, ok, q⟩ := h
  cases r with
  | cons r1 r2 =>
    cases r2
    obtain ⟨a, vs, its, rfl, sq, rv, dq⟩ := sq_top hK I A tx hd r1
    obtain ⟨ks, e1, hr⟩ := rows_of dq ok
    subst e1
    have hn : H s.heap.objs.size = none := I.hok.fresh (Nat.le_refl _)
    refine call_setN (ks := ks) (w := X.w) (I.ok.hd hc) sq (refs_vals rv) (fun p hp => ?_) (by rw [hr.length]; exact few) (by omega) fun h' tk l es ep t n g k => ?_
    · obtain ⟨d, h1, h2⟩ := (pair_mem hr).1 p hp
      exact ⟨nk_dq (v := .ref p.1) I A.s (by rw [hK]; exact h2.2.2.2) h2.1 rfl, h2.2.2.1⟩
    · obtain ⟨dl, sd⟩ := setD_of hr n.nd g
      refine ⟨.ref s.heap.objs.size, upd H s.heap.objs.size (SO X.w s.heap.objs.size l), I.laid (t' := tk) k (Nat.le_refl _) (so_ok n.zero), rfl, ?_⟩
      rw [hw]
      exact q _ l dl hn sd
def rLenSet (w : World) : List V → Hp → VK → Prop := fun xs H Q => ∃ a l, xs = [.ref a] ∧ H a = some (SO w a l) ∧ Q (.int (l.length : Nat)) H
theorem cr_lenSet : CallR X (.builtin "len") (rLenSet X.w) := by
  intro pins s σ H xs us Q I r h
  obtain ⟨a, l, rfl, ha, q⟩ := h
  have e := Vals.ref1 r
  subst e
  obtain ⟨es, ep, t, ⟨o, ho, hex, hd⟩, rows, T, _, _, room, few⟩ := (I.hok a _ ha).1
  have sz := rws_len rows
  refine call_len_set ho hex hd (fits_of T (by rw [sz, List.length_map]) (by rw [List.length_map]; omega)) (by rw [sz]; omega) ⟨.int (l.length : Nat), H, I.tok _, ⟨s.toks + 1, by rw [sz]⟩, q⟩
def rSortedSet (C : Cf) : List V → Hp → VK → Prop := fun xs H Q => ∃ τ G a l dl z, xs = [.ref a] ∧ At C τ G H ∧ H a = some (SO C.w a l) ∧ Paired (RwD C.K G) l dl ∧ sortL dl = some z ∧ ∀ p vs, H p = none → DqAll C.K G vs z → Q (.ref p) (upd H p (.lst vs))
mutual
theorem reads_pure {h : Heap} : ∀ {d : PyData} {v : Value} {as : List Addr}, pureK d = true → Reads h v d as → as = []
  | .none, _, _, _, r => by cases r; rfl
  | .int _, _, _, _, r => by cases r; rfl
  | .str _, _, _, _, r => by cases r; rfl
  | .tuple xs, _, _, p, r => by
    cases r with
    | tuple _ _ _ q => exact readsAll_pure (by simpa [pureK] using p) q
  | .bool _, _, _, p, _ => by simp [pureK] at p
  | .list _, _, _, p, _ => by simp [pureK] at p
  | .dict _, _, _, p, _ => by simp [pureK] at p
theorem readsAll_pure {h : Heap} : ∀ {ds : List PyData} {vs : List Value} {as : List Addr}, pureKs ds = true → ReadsAll h vs ds as → as = []
  | [], _, _, _, r => by cases r; rfl
  | d :: ds, _, _, p, r => by
    simp only [pureKs, Bool.and_eq_true] at p
    cases r with
    | cons r1 r2 => rw [reads_pure p.1 r1, readsAll_pure p.2 r2]; rfl
end
end
end Bk
namespace Bk
open PySem PySem.Spec PyProof.Rows L2
theorem perm_map {α β : Type} {f : α → β} : ∀ {a b : List β}, a.Perm b → ∀ l : List α, b = l.map f → ∃ m : List α, m.Perm l ∧ a = m.map f := by
  intro a b h
  induction h with
  | nil =>
    intro l e
    cases l with
    | nil => exact ⟨[], .refl _, rfl⟩
    | cons _ _ => cases e
  | cons x _ ih =>
    intro l e
    cases l with
    | nil => cases e
    | cons y l =>
      obtain ⟨e1, e2⟩ := List.cons.inj e
      obtain ⟨m, m1, m2⟩ := ih l e2
      exact ⟨y :: m, m1.cons y, by rw [e1, m2]; rfl⟩
  | swap x y r =>
    intro l e
    match l, e with
    | u :: v :: l, e =>
      obtain ⟨e1, e2⟩ := List.cons.inj e
      obtain ⟨e3, e4⟩ := List.cons.inj e2
      exact ⟨v :: u :: l, .swap .., by rw [e1, e3, e4]; rfl⟩
    | [_], e => simp at e
    | [], e => cases e
  | trans _ _ i1 i2 =>
    intro l e
    obtain ⟨m, m1, m2⟩ := i2 l e
    obtain ⟨n, n1, n2⟩ := i1 m m2
    exact ⟨n, n1.trans m1, n2⟩
theorem zip_of {α β : Type} {r : α → β → Prop} : ∀ {l : List α} {m : List β}, Paired r l m → ∃ z : List (α × β), l = z.map (·.1) ∧ m = z.map (·.2) ∧ ∀ q ∈ z, r q.1 q.2
  | _, _, .nil => ⟨[], rfl, rfl, fun _ h => by cases h⟩
  | _, _, .cons (a := x) (b := y) h t => by
    obtain ⟨z, e1, e2, e3⟩ := zip_of t
    refine ⟨(x, y) :: z, by rw [e1]; rfl, by rw [e2]; rfl, fun q hq => ?_⟩
    rcases List.mem_cons.mp hq with rfl | hq
    · exact h
    · exact e3 q hq
theorem each_refs {z : List (Rw × PyData)} : PySem.W.EachIs (fun (v : Value) (q : Rw × PyData) => v = .ref q.1.1) (z.map fun q => Value.ref q.1.1) z := by
  induction z with
  | nil => exact .nil
  | cons q z ih => exact .cons rfl ih
theorem refs_each : ∀ {out : List Value} {z : List (Rw × PyData)}, PySem.W.EachIs (fun (v : Value) (q : Rw × PyData) => v = .ref q.1.1) out z → out = z.map fun q => Value.ref q.1.1
  | _, _, .nil => rfl
  | _, _, .cons h t => by
    subst h
    rw [refs_each t]
    rfl
theorem each_all {P : Value → Rw × PyData → Prop} : ∀ {z : List (Rw × PyData)}, (∀ q ∈ z, P (.ref q.1.1) q) → PySem.W.EachIs P (z.map fun q => Value.ref q.1.1) z
  | [], _ => .nil
  | q :: z, h => .cons (h q (List.mem_cons_self ..)) (each_all fun p hp => h p (List.mem_cons_of_mem _ hp))
theorem dq_refs {K : PySem.W.Frag} {G : Hp} : ∀ {z : List (Rw × PyData)}, (∀ q ∈ z, RwD K G q.1 q.2) → DqAll K G (z.map fun q => V.ref q.1.1) (z.map (·.2))
  | [], _ => .nil
  | q :: z, h => .cons (h q (List.mem_cons_self ..)).2.2.2 (dq_refs fun p hp => h p (List.mem_cons_of_mem _ hp))
theorem vals_z : ∀ z : List (Rw × PyData), Vals (z.map fun q => V.ref q.1.1) (z.map fun q => Value.ref q.1.1)
  | [] => .nil
  | q :: z => .cons rfl (vals_z z)
section
variable {X : Cx} {C : Cf}
theorem cr_sortedSet (hK : X.K = C.K) (hw : X.w = C.w) (hc : X.calm = true) (hu : X.A.units + 80 < cLine) : CallR X (.builtin "sorted") (rSortedSet C) := by
  intro pins s σ H xs us Q I r h
  obtain ⟨τ, G, a, l, dl, z, rfl, A, ha, rel, hz, q⟩ := h
  have e := Vals.ref1 r
  subst e
  rw [← hw] at ha
  obtain ⟨es, ep, t, ⟨o, ho, hex, hd⟩, rows, T, knd, led, room, few⟩ := (I.hok a _ ha).1
  have dnd := keys_nodup rel knd
  have sz := rws_len rows
  have hfit : t.fits es.size = true := fits_of T (by rw [sz, List.length_map]) (by rw [List.length_map]; omega)
  obtain ⟨al, so, dp, rfl⟩ := sortL_ok hz
  obtain ⟨pz, e1, e2, e3⟩ := zip_of rel
  subst e1 e2
  refine Calls.call_function_entry kind_sorted plain_sorted entry_sorted (args_sorted1 _) ?_
  unfold Builtin.«sorted»
  refine wpAny_bind (m := checkCount "sorted" 1 1 _) (wpAny_pure ?_)
  refine wpAny_bind (collect_set (A := X.A.in1) (by simp [I.ok.hd hc]) ⟨o, ho, hex.1, hd⟩ hfit (by unfold scanBound; omega) T.ris led fun s1 vs k1 hz1 g1 o1 pm => ?_)
  have hes : es.toList.map (·.2) = pz.map fun q => Value.ref q.1.1 := by
    rw [rows]
    unfold rws
    simp
  rw [hes] at pm
  obtain ⟨pz', pm', rfl⟩ := perm_map pm pz rfl
  have rel' : ∀ q ∈ pz', RwD C.K G q.1 q.2 := fun q hq => e3 q (pm'.mem_iff.mp hq)
  have len' : pz'.length = pz.length := pm'.length_eq
  rw [List.length_map] at few
  refine wpAny_bind (wpAny_newList ?_ (by rw [List.length_map, sizeLine_eq]; omega))
  have hoL : (s1.heap.push (seqObj "list" (pz'.map fun q => Value.ref q.1.1).toArray 0)).get? s1.heap.objs.size = some (seqObj "list" (pz'.map fun q => Value.ref q.1.1).toArray 0) := Heap.get?_push_size _ rfl
  have kk : ∀ b u, s.heap.get? b = some u → (s1.heap.push (seqObj "list" (pz'.map fun q => Value.ref q.1.1).toArray 0)).get? b = some u := fun b u e => Heap.get?_push_of_some _ (k1 b u e)
  have rd : ∀ q ∈ pz', ∃ as, Reads (s1.heap.push (seqObj "list" (pz'.map fun q => Value.ref q.1.1).toArray 0)) (.ref q.1.1) q.2 as ∧ s1.heap.objs.size ∉ as := fun q hq => by
    have q0 := rel' q hq
    have p1 : Dp X.K H (.ref q.1.1) q.2 := by rw [hK]; exact (Dq.mono A.s q0.2.2.2).dp
    obtain ⟨as, r1⟩ := Dp.reads I _ _ (.ref q.1.1) p1 rfl
    have e := reads_pure (keyOk_of q0.2.1).2.1 r1
    subst e
    exact ⟨[], Reads.keeps kk r1, by simp⟩
  have al' : PySem.W.AllAlike (pz'.map (·.2)) := fun x hx y hy => al x ((pm'.map (·.2)).mem_iff.mp hx) y ((pm'.map (·.2)).mem_iff.mp hy)
  have so' : PySem.W.Sortable (pz'.map (·.2)) := by
    rcases so with so | so
    · exact .inl fun d hd => so d ((pm'.map (·.2)).mem_iff.mp hd)
    · exact .inr fun d hd => so d ((pm'.map (·.2)).mem_iff.mp hd)
  refine wpAny_bind (wpAny_holding (PySem.W.list_sort_data (s := { s1 with heap := s1.heap.push (seqObj "list" (pz'.map fun q => Value.ref q.1.1).toArray 0) }) (enc := fun q : Rw × PyData => q.2) hoL each_refs (each_all rd) al' so' (by rw [sizeLine_eq]; omega)
    (fun b hb => by
      have := dp b.2 ((pm'.map (·.2)).mem_iff.mp (List.mem_map_of_mem hb))
      show X.A.in1.units + 1 + b.2.depth < cLine
      simp only [Around.in1_units]
      omega) fun out hl he => ?_))
  have eo := refs_each he
  subst eo
  obtain ⟨c, hcc⟩ := sortedHeap_at (vs := (pz'.map fun q => Value.ref q.1.1)) (out := ((pz'.mergeSort (PySem.W.dataLe false fun q : Rw × PyData => q.2)).map fun q => Value.ref q.1.1).toArray) hoL
  have es2 : (pz'.mergeSort (PySem.W.dataLe false fun q : Rw × PyData => q.2)).map (·.2) = isort (pz.map (·.2)) := by
    rw [PySem.W.sort_maps (r := PySem.W.dataLe false fun q : Rw × PyData => q.2) (s := leD2) (fun q : Rw × PyData => q.2) (fun a _ b _ => rfl), ← isort_eq]
    have np : ∀ y ∈ pz'.map (·.2), pureK y = true := fun y hy => by
      obtain ⟨q, hq, rfl⟩ := List.mem_map.mp hy
      exact (keyOk_of (rel' q hq).2.1).2.1
    exact isort_perm (pm'.map (·.2)) ((pm'.map (·.2)).nodup_iff.mpr dnd) np al'
  have dq : DqAll C.K G ((pz'.mergeSort (PySem.W.dataLe false fun q : Rw × PyData => q.2)).map fun q => V.ref q.1.1) (isort (pz.map (·.2))) := by
    rw [← es2]
    exact dq_refs fun q hq => rel' q ((List.mergeSort_perm _ _).mem_iff.mp hq)
  have hp : s.heap.objs.size ≤ s1.heap.objs.size := hz1
  have hn : H s1.heap.objs.size = none := I.hok.fresh hp
  generalize hm : pz'.mergeSort (PySem.W.dataLe false fun q : Rw × PyData => q.2) = mz at dq hcc hl
  have ml : mz.length = pz.length := by rw [← hm, List.length_mergeSort, len']
  have vl : Vals (mz.map fun q => V.ref q.1.1) (mz.map fun q => Value.ref q.1.1) := vals_z mz
  have kz : ∀ b u, s.heap.get? b = some u → (sortedHeap (s1.heap.push (seqObj "list" (pz'.map fun q => Value.ref q.1.1).toArray 0)) s1.heap.objs.size (pz'.map fun q => Value.ref q.1.1) (mz.map fun q => Value.ref q.1.1).toArray).get? b = some u := fun b u e => by
    have lt := Heap.lt_size (k1 b u e)
    rw [sortedHeap_old (Nat.ne_of_lt lt) (by rw [size_push']; exact Nat.lt_succ_of_lt lt)]
    exact kk b u e
  have oz : s1.os = s.os := o1
  have gz : s1.gens = s.gens := g1
  have J : L2.Inv X pins σ (upd H s1.heap.objs.size (.lst (mz.map fun q => V.ref q.1.1))) { s with heap := sortedHeap (s1.heap.push (seqObj "list" (pz'.map fun q => Value.ref q.1.1).toArray 0)) s1.heap.objs.size (pz'.map fun q => Value.ref q.1.1) (mz.map fun q => Value.ref q.1.1).toArray, gens := s1.gens, drawn := s1.drawn, toks := s1.toks } :=
    I.call (ch := []) (Un.laid kz hp hn) (I.hok.laid kz hp ⟨by rw [List.length_map, sizeLine_eq]; omega, _, c, vl, hcc⟩) (by rw [gz]; exact I.bare) (fun _ z => nomatch z)
  have fin := q s1.heap.objs.size _ hn dq
  refine wpAny_pure ⟨_, rfl, .ref s1.heap.objs.size, _, ?_, rfl, fin⟩
  obtain ⟨sh, sg, sd, stk, sos⟩ := s
  obtain ⟨th, tg, td, ttk, tos⟩ := s1
  cases oz
  exact J
end
end Bk
namespace Bk
open PySem PySem.Spec PyProof.Rows L2
abbrev NX := NestedKey × Addr × Value
def EX (p : Ent) (x : NX) : Prop := x.1 = p.1 ∧ x.2.1 = p.2.1 ∧ L2.RelV p.2.2 x.2.2
section
variable {P : Program} {w : World} {K : PySem.W.Frag} {G : Hp}
theorem raw_xs : ∀ {es : List Ent} {ds : List DictEntry}, Paired (fun (p : Ent) (q : DictEntry) => q.hash = p.1.hash w ∧ q.key = .ref p.2.1 ∧ RelV p.2.2 q.val) es ds → ∃ xs : List NX, ds = xs.map (entryOfKey (nestedKind P w)) ∧ Paired EX es xs
  | _, _, .nil => ⟨[], rfl, .nil⟩
  | _, _, .cons (a := p) (b := q) h t => by
    obtain ⟨xs, e1, e2⟩ := raw_xs t
    refine ⟨(p.1, p.2.1, q.val) :: xs, ?_, .cons ⟨rfl, rfl, h.2.2⟩ e2⟩
    rw [List.map_cons, ← e1]
    congr 1
    obtain ⟨h1, h2, h3⟩ := q
    obtain ⟨e3, e4, _⟩ := h
    simp only at e3 e4
    subst e3 e4
    rfl
theorem xs_raw : ∀ {es : List Ent} {xs : List NX}, Paired EX es xs → Paired (fun (p : Ent) (q : DictEntry) => q.hash = p.1.hash w ∧ q.key = .ref p.2.1 ∧ RelV p.2.2 q.val) es (xs.map (entryOfKey (nestedKind P w)))
  | _, _, .nil => .nil
  | _, _, .cons (a := p) (b := x) h t => by
    refine .cons ⟨?_, ?_, h.2.2⟩ (xs_raw t)
    · show x.1.hash w = _
      rw [h.1]
    · show Value.ref x.2.1 = _
      rw [h.2.1]
theorem ex_keys : ∀ {es : List Ent} {xs : List NX}, Paired EX es xs → xs.map (·.1) = es.map (·.1)
  | _, _, .nil => rfl
  | _, _, .cons h t => by
    rw [List.map_cons, List.map_cons, h.1, ex_keys t]
/-- an entry and a pair of data -/
abbrev EK (K : PySem.W.Frag) (G : Hp) (p : Ent) (q : PyData × PyData) : Prop := nkey q.1 = some p.1 ∧ p.1.depth ≤ 8 ∧ (∃ ks, p.1 = .tup ks) ∧ Dq K G (.ref p.2.1) q.1 ∧ Dq K G p.2.2 q.2
/-- what is found at a key -/
theorem look_at {k : NestedKey} {x : PyData} (hx : nkey x = some k) : ∀ {es : List Ent} {xs : List NX} {kvs : List (PyData × PyData)}, Paired EX es xs → EntsAre K G es kvs →
    match atKey xs k with
    | none => lookD x kvs = none
    | some p => ∃ v z, lookD x kvs = some z ∧ L2.RelV v p.2 ∧ Dq K G v z
  | _, _, _, .nil, .nil => rfl
  | _, _, _, .cons (a := p) (b := y) h t, .cons (b := q) g u => by
    have ih := look_at hx t u
    have e : PyData.eqv q.1 x = decide (y.1 = k) := by
      rw [nkey_eqv q.1 x p.1 k g.1 hx, NestedKey.decide_eq, h.1]
    unfold atKey at ih ⊢
    rw [List.find?_cons]
    by_cases c : y.1 = k
    · rw [decide_eq_true c]
      refine ⟨p.2.2, q.2, ?_, h.2.2, g.2.2.2.2⟩
      show (if PyData.eqv q.1 x = true then some q.2 else _) = _
      rw [e, decide_eq_true c, if_pos rfl]
    · rw [decide_eq_false c]
      have e2 : ∀ r, lookD x (q :: r) = lookD x r := fun r => by
        show (if PyData.eqv q.1 x = true then some q.2 else _) = _
        rw [e, decide_eq_false c, if_neg Bool.false_ne_true]
      rw [e2]
      exact ih
/-- an entry is stored -/
def putE (es : List Ent) (k : NestedKey) (a : Addr) (v : V) : List Ent := match es with
  | [] => [(k, a, v)]
  | p :: r => if p.1 = k then (p.1, p.2.1, v) :: r else p :: putE r k a v
theorem putE_len : ∀ (es : List Ent) (k : NestedKey) (a : Addr) (v : V), (putE es k a v).length ≤ es.length + 1
  | [], _, _, _ => by simp [putE]
  | p :: r, k, a, v => by
    unfold putE
    split
    · simp
    · have := putE_len r k a v
      simp
      omega
theorem putE_keys (k : NestedKey) (a : Addr) (v : V) : ∀ es : List Ent, (putE es k a v).map (·.1) = if k ∈ es.map (·.1) then es.map (·.1) else es.map (·.1) ++ [k]
  | [] => by simp [putE]
  | p :: r => by
    unfold putE
    by_cases c : p.1 = k
    · simp [c]
    · rw [if_neg c, List.map_cons, putE_keys k a v r]
      have : ¬ k = p.1 := fun e => c e.symm
      by_cases m : k ∈ r.map (·.1)
      · rw [if_pos m, if_pos (by simp; right; simpa using m)]
        rfl
      · rw [if_neg m, if_neg (by simp [this]; simpa using m)]
        rfl
theorem stored_ex {k : NestedKey} {a : Addr} {v : V} {u : Value} (rv : L2.RelV v u) : ∀ {es : List Ent} {xs : List NX}, (es.map (·.1)).Nodup → Paired EX es xs → Paired EX (putE es k a v) (storedH xs k a u) := by
  intro es xs nd h
  have key : ∀ {es : List Ent} {xs : List NX}, (es.map (·.1)).Nodup → Paired EX es xs → Paired EX (putE es k a v) (if (atKey xs k).isSome = true then xs.map (putAt k u) else xs ++ [(k, a, u)]) := by
    intro es xs nd h
    induction h with
    | nil => exact .cons ⟨rfl, rfl, rv⟩ .nil
    | @cons p y es xs h t ih =>
      rw [List.map_cons, List.nodup_cons] at nd
      have ih := ih nd.2
      unfold putE
      by_cases c : p.1 = k
      · have c' : y.1 = k := h.1.trans c
        have e1 : (atKey (y :: xs) k).isSome = true := by
          unfold atKey
          rw [List.find?_cons, decide_eq_true c']
          rfl
        have e2 : xs.map (putAt k u) = xs := map_putAt_of_not_mem xs k u (by rw [ex_keys t, ← c]; exact nd.1)
        rw [if_pos c, if_pos e1, List.map_cons, e2]
        refine .cons ?_ t
        unfold putAt
        rw [if_pos c']
        exact ⟨h.1, h.2.1, rv⟩
      · have c' : ¬ y.1 = k := fun e => c (h.1.symm.trans e)
        have e1 : atKey (y :: xs) k = atKey xs k := by
          unfold atKey
          rw [List.find?_cons, decide_eq_false c']
        rw [if_neg c, e1]
        split
        · rename_i q
          rw [if_pos q] at ih
          rw [List.map_cons]
          refine .cons ?_ ih
          unfold putAt
          rw [if_neg c']
          exact h
        · rename_i q
          rw [if_neg q] at ih
          exact .cons h ih
  have e : storedH xs k a u = if (atKey xs k).isSome = true then xs.map (putAt k u) else xs ++ [(k, a, u)] := by
    unfold storedH
    rfl
  rw [e]
  exact key nd h
theorem put_ents {k : NestedKey} {a : Addr} {v : V} {x z : PyData} (hx : nkey x = some k) (hk : k.depth ≤ 8) (ht : ∃ ks, k = .tup ks) (dx : Dq K G (.ref a) x) (dz : Dq K G v z) : ∀ {es : List Ent} {kvs : List (PyData × PyData)}, EntsAre K G es kvs → EntsAre K G (putE es k a v) (putD x z kvs)
  | _, _, .nil => .cons ⟨hx, hk, ht, dx, dz⟩ .nil
  | _, _, .cons (a := p) (b := q) g u => by
    have e : PyData.eqv q.1 x = decide (p.1 = k) := by rw [nkey_eqv q.1 x p.1 k g.1 hx, NestedKey.decide_eq]
    show EntsAre K G (if p.1 = k then (p.1, p.2.1, v) :: _ else p :: putE _ k a v) (if PyData.eqv q.1 x = true then (q.1, z) :: _ else (q.1, q.2) :: putD x z _)
    by_cases c : p.1 = k
    · rw [if_pos c, e, decide_eq_true c, if_pos rfl]
      exact .cons ⟨g.1, g.2.1, g.2.2.1, g.2.2.2.1, dz⟩ u
    · rw [if_neg c, e, decide_eq_false c, if_neg Bool.false_ne_true]
      exact .cons g (put_ents hx hk ht dx dz u)
end
theorem do_ok {P : Program} {w : World} {H : Hp} {h : Heap} {a : Addr} {o : Obj} {es : List Ent} (r : RawD w a o es h) : ObjOk P w H h a (DO w a o es) := by
  have ⟨_, _, _, _, _, ho, _⟩ := r
  refine ⟨r, ⟨o, ho⟩, fun h1 h2 p k => ?_⟩
  obtain ⟨q1, q2, q3, ds, ep, ho, q⟩ := p
  exact ⟨q1, q2, q3, ds, ep, k o ho, q⟩
section
variable {X : Cx} {C : Cf} {pins : List (Addr × Obj)} {σ : L2.St} {G H : Hp} {s : Shared} {τ : Town}
theorem key_nk (hK : X.K = C.K) (I : L2.Inv X pins σ H s) (m : ∀ a o, G a = some o → H a = some o) {v : V} {u : Value} {x : PyData} (hk : keyOk x = true) (d : Dq C.K G v x) (r : L2.RelV v u) : ∃ a k ks, v = .ref a ∧ u = .ref a ∧ nkey x = some k ∧ k = .tup ks ∧ k.depth ≤ 8 ∧ NK s.heap k a := by
  obtain ⟨⟨xs, rfl⟩, k2, k3⟩ := keyOk_of hk
  obtain ⟨k, n1, n2⟩ := nkey_pure _ k2
  cases d with
  | @tup a vs _ h1 h2 =>
    cases r
    have q := nk_dq (v := .ref a) I m (by rw [hK]; exact .tup h1 h2) n1 rfl
    obtain ⟨ks, _, rfl⟩ := Option.map_eq_some_iff.mp (show (nkeys xs).map NestedKey.tup = some k from n1)
    exact ⟨a, _, ks, rfl, rfl, n1, rfl, by rw [n2]; exact k3, q, by rw [n2]; exact k3⟩
/-- the dict, as the library tells it -/
theorem dict_out (hK : X.K = C.K) (hw : X.w = C.w) (I : L2.Inv X pins σ H s) (m : ∀ a o, G a = some o → H a = some o) {a : Addr} {o : Obj} {es : List Ent} {kvs : List (PyData × PyData)} (ha : H a = some (DO C.w a o es)) (he : EntsAre C.K G es kvs) :
    ∃ xs, s.heap.DictOfH (nestedKind X.prog X.w) a xs ∧ Paired EX es xs ∧ es.length ≤ sizeLine ∧ (a == sysModules) = false ∧ (es.map (·.1)).Nodup := by
  obtain ⟨q1, q2, q3, ds, ep, ho, hex, hd, hp⟩ := (I.hok a _ ha).1
  rw [← hw] at hp
  obtain ⟨xs, e1, e2⟩ := raw_xs (P := X.prog) hp
  refine ⟨xs, ⟨o, ds, ep, ho, hex, hd, e1, fun x hx => ?_, by rw [ex_keys e2]; exact q3⟩, e2, q1, q2, q3⟩
  obtain ⟨p, p1, p2⟩ := (pair_mem e2).2 x hx
  obtain ⟨q, _, g⟩ := (pair_mem he).1 p p1
  have z := nk_dq (v := .ref p.2.1) I m (by rw [hK]; exact g.2.2.2.1) g.1 rfl
  rw [p2.1, p2.2.1]
  exact ⟨z, g.2.1⟩
theorem dict_in {h' : Heap} {a : Addr} {es : List Ent} {xs : List NX} (hd : h'.DictOfH (nestedKind X.prog X.w) a xs) (e : Paired EX es xs) (hl : es.length ≤ sizeLine) (hs : (a == sysModules) = false) (nd : (es.map (·.1)).Nodup) : ∃ o, RawD X.w a o es h' := by
  obtain ⟨o, ds, ep, ho, hex, hdd, he, _, _⟩ := hd
  refine ⟨o, hl, hs, nd, ds, ep, ho, hex, hdd, ?_⟩
  rw [he]
  exact xs_raw e
end
end Bk
namespace Bk
open PySem PySem.Spec PyProof.Rows L2
section
variable {C : Cf} {G H : Hp}
theorem Top.dic {v : V} {kvs : List (PyData × PyData)} (s : ∀ a o, G a = some o → H a = some o) (h : Top C G H v (.dict kvs)) : ∃ a o es, v = .ref a ∧ H a = some (DO C.w a o es) ∧ EntsAre C.K G es kvs := by
  rcases h with h | ⟨a, e, _, _, _, o, es, h1, h2⟩
  · rcases h with h | ⟨a, kvs', e1, e2, o, es, h1, h2⟩
    · cases h
    · cases e2
      exact ⟨a, o, es, e1, s _ _ h1, h2⟩
  · exact ⟨a, o, es, e, h1, h2⟩
theorem key_dq {v : V} {x : PyData} (t : Top C G H v x) (hk : keyOk x = true) : Dq C.K G v x := by
  obtain ⟨⟨xs, rfl⟩, _, _⟩ := keyOk_of hk
  exact t.flat rfl rfl
end
theorem paired_len0 {α β : Type} {F : α → β → Prop} : ∀ {l : List α} {m : List β}, Paired F l m → l.length = m.length
  | _, _, .nil => rfl
  | _, _, .cons _ r => by simp [paired_len0 r]
/-- d[k] -/
def rGetD (C : Cf) : R2 := fun x y H Q => ∃ τ G kvs dy z, At C τ G H ∧ Top C G H x (.dict kvs) ∧ Top C G H y dy ∧ keyOk dy = true ∧ lookD dy kvs = some z ∧ ∀ v, VR C G v (.d z) → Q v H
section
variable {X : Cx} {C : Cf}
theorem look_some {K : PySem.W.Frag} {G : Hp} {k : NestedKey} {x : PyData} (hx : nkey x = some k) {es : List Ent} {xs : List NX} {kvs : List (PyData × PyData)} (h1 : Paired EX es xs) (h2 : EntsAre K G es kvs) : (atKey xs k).isSome = (lookD x kvs).isSome := by
  have q := look_at hx h1 h2
  cases e : atKey xs k with
  | none =>
    rw [e] at q
    have q : lookD x kvs = none := q
    rw [q]
    rfl
  | some p =>
    rw [e] at q
    obtain ⟨v, z, q, _⟩ := q
    rw [q]
    rfl
theorem op_inDict (hK : X.K = C.K) (hw : X.w = C.w) (hu : X.A.units + 9 < cLine) : OpR X (compareOp .In) (rInD C false) := by
  intro pins s σ H x y v u Q I rx ry h
  obtain ⟨τ, G, dx, kvs, A, tx, ty, hk, q⟩ := h
  obtain ⟨a, o, es, rfl, h1, h2⟩ := ty.dic A.s
  cases ry
  obtain ⟨b, k, ks, rfl, rfl, n1, n2, n3, nk⟩ := key_nk hK I A.s hk (key_dq tx hk) rx
  obtain ⟨xs, d1, d2, _, d4, _⟩ := dict_out hK hw I A.s h1 h2
  refine wpAny_in_heap (knd := nestedKind X.prog X.w) (k := k) hu nk d4 d1 ⟨.bl _, H, I.tok _, ?_, q⟩
  rw [look_some n1 d2 h2]
  rfl
theorem op_notInDict (hK : X.K = C.K) (hw : X.w = C.w) (hu : X.A.units + 9 < cLine) : OpR X (compareOp .NotIn) (rInD C true) := by
  intro pins s σ H x y v u Q I rx ry h
  obtain ⟨τ, G, dx, kvs, A, tx, ty, hk, q⟩ := h
  obtain ⟨a, o, es, rfl, h1, h2⟩ := ty.dic A.s
  cases ry
  obtain ⟨b, k, ks, rfl, rfl, n1, n2, n3, nk⟩ := key_nk hK I A.s hk (key_dq tx hk) rx
  obtain ⟨xs, d1, d2, _, d4, _⟩ := dict_out hK hw I A.s h1 h2
  refine notIn_keyed (knd := nestedKind X.prog X.w) (k := k) hu nk d4 ⟨xs, d1, rfl⟩ ⟨.bl _, H, I.tok _, ?_, q⟩
  rw [valueAt_pairsH, Option.isSome_map, look_some n1 d2 h2]
  rfl
theorem ix_dict (hK : X.K = C.K) (hw : X.w = C.w) (hu : X.A.units + 9 < cLine) : IxR X (rGetD C) := by
  intro value slice pins s σ H x y v u Q I rx ry h hs
  obtain ⟨τ, G, kvs, dy, z, A, tx, ty, hk, hz, q⟩ := h
  obtain ⟨a, o, es, rfl, h1, h2⟩ := tx.dic A.s
  cases rx
  obtain ⟨b, k, ks, rfl, rfl, n1, n2, n3, nk⟩ := key_nk hK I A.s hk (key_dq ty hk) ry
  obtain ⟨xs, d1, d2, _, d4, _⟩ := dict_out hK hw I A.s h1 h2
  have l := look_at n1 d2 h2
  cases e : atKey xs k with
  | none =>
    rw [e] at l
    have l : lookD dy kvs = none := l
    rw [l] at hz
    cases hz
  | some p =>
    rw [e] at l
    obtain ⟨w', z', l1, l2, l3⟩ := l
    rw [l1] at hz
    cases hz
    exact tail_any d1.typeIs slot_dict_getitem.lookup (wpAny_getItem_heap (knd := nestedKind X.prog X.w) (k := k) hu nk d1 e ⟨w', H, I.tok _, l2, q _ (.inl l3)⟩) hs
/-- d[k] = v -/
def rSetDc (C : Cf) : TSet := fun o i v H Q => ∃ τ G a ob es kvs dk dv, o = .ref a ∧ At C τ G H ∧ H a = some (DO C.w a ob es) ∧ EntsAre C.K G es kvs ∧ keyOk dk = true ∧ Dq C.K G i dk ∧ Dq C.K G v dv ∧ kvs.length < sizeLine ∧
  ∀ ob' es', EntsAre C.K G es' (putD dk dv kvs) → Q (upd H a (DO C.w a ob' es'))
theorem set_dictN (hK : X.K = C.K) (hw : X.w = C.w) (hu : X.A.units + 9 < cLine) : PSet X (rSetDc C) := by
  intro pins s σ H o i v ov iv u Q I ro ri rv h
  obtain ⟨τ, G, a, ob, es, kvs, dk, dv, rfl, A, h1, h2, hk, d1, d2, hl, q⟩ := h
  cases ro
  obtain ⟨b, k, ks, rfl, rfl, n1, n2, n3, nk⟩ := key_nk hK I A.s hk d1 ri
  obtain ⟨xs, e1, e2, e3, e4, e5⟩ := dict_out hK hw I A.s h1 h2
  have el : es.length = kvs.length := paired_len0 h2
  have xl : es.length = xs.length := paired_len0 e2
  refine wpAny_setItem_heap (knd := nestedKind X.prog X.w) (k := k) hu nk e1 (fun h' hm' hs' => ?_) (hsz := by omega)
  have pe := stored_ex (a := b) (k := k) rv e5 e2
  have l1 := putE_len es k b v
  have nd : ((putE es k b v).map (·.1)).Nodup := by
    rw [putE_keys]
    split
    · exact e5
    · rename_i z
      exact List.nodup_append.mpr ⟨e5, by simp, fun x hx y hy => by
        have : y = k := by simpa using hy
        subst this
        exact fun e => z (e ▸ hx)⟩
  obtain ⟨o', raw⟩ := dict_in hm' pe (by omega) e4 nd
  have he : ∃ q, h'.get? a = some q := let ⟨q, _, _, hq, _⟩ := hm'; ⟨q, hq⟩
  refine ⟨_, d_write (t' := s.toks + (nestedKind X.prog X.w).draws k) I (by rw [h1]; exact True.intro) hs' he (do_ok raw), ?_⟩
  rw [hw]
  exact q o' _ (put_ents n1 n3 ⟨_, n2⟩ d1 d2 h2)
end
end Bk
namespace Bk
open PySem PySem.Spec PyProof.Rows L2
section
variable {X : Cx} {C : Cf} {pos : Pos}
/-- {} -/
def tDis0 (C : Cf) : TE := fun σ H Q => ∀ q o, H q = none → Q (.ref q) (upd H q (DO C.w q o []))
theorem raw_nil (w : World) (h : Heap) (hb : sysModules < h.objs.size) : RawD w h.objs.size { cls := .type "dict", data := .dict #[] } [] (h.push { cls := .type "dict", data := .dict #[] }) :=
  ⟨by simp, beq_eq_false_iff_ne.mpr (Ne.symm (Nat.ne_of_lt hb)), by simp, #[], _, Heap.get?_push_size _ rfl, ⟨rfl, rfl, rfl⟩, rfl, .nil⟩
theorem pe_dis0 (hw : X.w = C.w) : PE X (.Dict [] [] pos) (tDis0 C) := by
  refine ⟨fun pins s σ H Q I h => ?_⟩
  refine wpAny_Dict_empty ⟨.ref s.heap.objs.size, _, I.laid (a := s.heap.objs.size) (o := DO X.w s.heap.objs.size { cls := .type "dict", data := .dict #[] } []) (t' := s.toks) (fun _ _ q => Heap.get?_push_of_some _ q) (Nat.le_refl _) (do_ok (raw_nil _ _ I.big)), rfl, ?_⟩
  rw [hw]
  exact h _ _ (I.hok.fresh (Nat.le_refl _))
/-- {k: v} -/
def tDis1 (C : Cf) (tk tv : TE) : TE := fun σ H Q => ∀ q o, H q = none → tk σ (upd H q (DO C.w q o [])) fun kv H1 => tv σ H1 fun vv H2 => ∃ τ G dk dv, At C τ G H2 ∧ H2 q = some (DO C.w q o []) ∧ keyOk dk = true ∧ Dq C.K G kv dk ∧ Dq C.K G vv dv ∧
  ∀ o' es, EntsAre C.K G es [(dk, dv)] → Q (.ref q) (upd H2 q (DO C.w q o' es))
theorem pe_dis1 (hK : X.K = C.K) (hw : X.w = C.w) (hu : X.A.units + 9 < cLine) {ke ve : Expr} {tk tv : TE} (hk : PE X ke tk) (hv : PE X ve tv) : PE X (.Dict [some ke] [ve] pos) (tDis1 C tk tv) := by
  refine ⟨fun pins s σ H Q I h => ?_⟩
  have hn := I.hok.fresh (Nat.le_refl s.heap.objs.size)
  have I1 := I.laid (a := s.heap.objs.size) (o := DO X.w s.heap.objs.size { cls := .type "dict", data := .dict #[] } []) (h' := s.heap.push { cls := .type "dict", data := .dict #[] }) (t' := s.toks) (fun _ _ q => Heap.get?_push_of_some _ q) (Nat.le_refl _) (do_ok (raw_nil _ _ I.big))
  have h := h _ { cls := .type "dict", data := .dict #[] } hn
  rw [← hw] at h
  have hsh : (evalEachOpt [some ke] X.env).zip ((evalEach [ve] X.env).map fun v => do let x ← v; standAt pos; pure x) = [(eval ke X.env, do let x ← eval ve X.env; standAt pos; pure x)].map fun p => (some p.1, p.2) := rfl
  rw [arm_eval_Dict, hsh, dictDisplay_pairs _ (by simp) (by simp)]
  refine wpAny_bind (wpAny_standAt (wpAny_bind (wpAny_subDictH (knd := nestedKind X.prog X.w) (show X.A.units + 8 < cLine by omega) (by simp) ?_)))
  refine evalPairs_cons (thn (hk.run pins _ σ _ _ I1 h) fun ku s1 ⟨kv, H1, I1, rk, q1⟩ => ?_)
  refine wpAny_bind (thn (hv.run pins s1 σ H1 _ I1 q1) fun vu s2 ⟨vv, H2, I2, rv, q2⟩ => ?_)
  refine wpAny_bind (wpAny_standAt (wpAny_pure ?_))
  refine evalPairs_nil ?_
  obtain ⟨τ, G, dk, dv, A, e, k1, d1, d2, q⟩ := q2
  obtain ⟨b, k, ks, rfl, rfl, n1, n2, n3, nk⟩ := key_nk hK I2 A.s k1 d1 rk
  obtain ⟨xs, x1, x2, x3, x4, x5⟩ := dict_out hK hw I2 A.s (kvs := []) (by rw [← hw]; exact e) .nil
  cases x2
  refine ⟨[(k, b, vu)], ⟨rfl, rfl, nk, trivial⟩, x1, fun h' tk hd hs => wpAny_pure ?_⟩
  have pe : Paired EX [(k, b, vv)] [(k, b, vu)] := .cons ⟨rfl, rfl, rv⟩ .nil
  obtain ⟨o', raw⟩ := dict_in (es := [(k, b, vv)]) (show h'.DictOfH (nestedKind X.prog X.w) s.heap.objs.size [(k, b, vu)] from hd) pe (by rw [sizeLine_eq]; simp) x4 (by simp)
  have he : ∃ q, h'.get? s.heap.objs.size = some q := let ⟨q, _, _, hq, _⟩ := hd; ⟨q, hq⟩
  refine ⟨.ref s.heap.objs.size, _, d_write (t' := tk) I2 (by rw [e]; exact True.intro) hs he (do_ok raw), rfl, ?_⟩
  exact q o' _ (.cons ⟨n1, n3, ⟨_, n2⟩, d1, d2⟩ .nil)
/-- d.get(k, x) -/
def tGetN (C : Cf) (td ty tx : TE) : TE := fun σ H Q => td σ H fun x H1 => (∃ a o es, x = .ref a ∧ H1 a = some (DO C.w a o es)) ∧ ty σ H1 fun y H2 => tx σ H2 fun z H3 => ∃ τ G kvs dy dz, At C τ G H3 ∧ Top C G H3 x (.dict kvs) ∧ Top C G H3 y dy ∧ keyOk dy = true ∧ Dq C.K G z dz ∧
  ∀ v, VR C G v (.d ((lookD dy kvs).getD dz)) → Q v H3
theorem pe_getN (hK : X.K = C.K) (hw : X.w = C.w) (hu : X.A.units + 9 < cLine) {o e f : Expr} {apos cpos : Pos} {td ty tx : TE} (ho : PE X o td) (he : PE X e ty) (hf : PE X f tx) (m : M2 X o "get" apos e f cpos) : PE X (.Call (.Attribute o "get" apos) [e, f] [] cpos) (tGetN C td ty tx) := by
  refine ⟨fun pins s σ H Q I h => ?_⟩
  refine wpAny_Call_method m.base m.few m.line PySem.F.plainAttrs_dict PySem.F.slot_dict_get PySem.F.type_dict_get (thn (ho.run pins s σ H _ I h) fun u s1 ⟨x, H1, I1, rx, ⟨a, ob, es, ex, hd⟩, q1⟩ => ?_)
  subst ex
  cases rx
  obtain ⟨_, _, _, ds, ep, g1, g2, _⟩ := (I1.hok a _ hd).1
  refine ⟨⟨ob, g1, g2.1⟩, fun b q => ?_, ?_⟩
  · cases q
    exact ⟨ob, g1, g2.2.1⟩
  rw [m.trees]
  refine Calls.callWith_builtin rfl (Calls.evalArgs_plain (Calls.spliced_cons (thn (he.run pins s1 σ H1 _ I1 q1) fun iv s2 ⟨y, H2, I2, ry, q2⟩ =>
    Calls.spliced_cons (thn (hf.run pins s2 σ H2 _ I2 q2) fun fv s3 ⟨z, H3, I3, rz, q3⟩ => Calls.spliced_nil ?_))))
  obtain ⟨τ, G, kvs, dy, dz, A, tx, ty, hk, dq, q⟩ := q3
  obtain ⟨a', o', es', e1, h1, h2⟩ := tx.dic A.s
  cases e1
  obtain ⟨b, k, ks, rfl, rfl, n1, n2, n3, nk⟩ := key_nk hK I3 A.s hk (key_dq ty hk) ry
  obtain ⟨xs, d1, d2, _, d4, _⟩ := dict_out hK hw I3 A.s h1 h2
  refine getOr_keyed (knd := nestedKind X.prog X.w) (k := k) hu nk d4 ⟨xs, d1, rfl⟩ ?_
  rw [valueAt_pairsH]
  have l := look_at n1 d2 h2
  cases e : atKey xs k with
  | none =>
    rw [e] at l
    have l : lookD dy kvs = none := l
    rw [l] at q
    exact ⟨z, H3, I3.tok _, rz, q _ (.inl dq)⟩
  | some p =>
    rw [e] at l
    obtain ⟨w', z', l1, l2, l3⟩ := l
    rw [l1] at q
    exact ⟨w', H3, I3.tok _, l2, q _ (.inl l3)⟩
/-! ### walks -/
def Itdn (w : World) (a : Addr) (o : Obj) (es : List Ent) : L2.It :=
  ⟨fun i H => H a = some (DO w a o es) ∧ i < es.length, fun i H v H' => H' = H ∧ ∃ p, es[i]? = some p ∧ v = .ref p.2.1, fun i H => H a = some (DO w a o es) ∧ es.length ≤ i⟩
theorem pair_at {α β : Type} {F : α → β → Prop} : ∀ {l : List α} {m : List β} {i : Nat} {x : α}, Paired F l m → l[i]? = some x → ∃ y, m[i]? = some y ∧ F x y
  | _, _, _, _, .nil, h => by simp at h
  | _, _, 0, _, .cons (b := b) h r, e => by
    simp at e
    subst e
    exact ⟨b, rfl, h⟩
  | _, _, i + 1, _, .cons h r, e => pair_at (i := i) r (by simpa using e)
theorem turn_dictN {P : Program} {w w' : World} {K : PySem.W.Frag} {tg : Expr} {a : Addr} {o : Obj} {es : List Ent} {ds : Array DictEntry} {ep : Nat} (it : Addr) (hod : o.data = .dict ds ep) :
    Turn P w K tg (Itdn w' a o es) [it] it (fun i h => h.IsKeyIter it a i es.length ep) where
  mem := by simp
  obj := fun i h st b hb => by
    have e : b = it := by simpa using hb
    subst e
    obtain ⟨oi, e, c, dd⟩ := st
    exact ⟨oi, e, fun v z => by rw [dd] at z; cases z⟩
  keep := fun i h h' st k => st.at fun oi e => k it (by simp) oi e
  item := by
    intro X hP hw hK hc i pins s σ H E I hf st hg
    subst hP hw hK
    obtain ⟨hd, hi⟩ := hg
    obtain ⟨f0, f1, f2, f3, f4, f5⟩ := hf it (by simp)
    obtain ⟨_, _, _, ds', ep', g1, g2, g3, g4⟩ := (I.hok a _ hd).1
    obtain ⟨rfl, rfl⟩ := dict_ep hod g3
    have hl : es.length = ds'.size := (paired_len0 g4).trans Array.length_toList
    obtain ⟨p, hp⟩ : ∃ p, es[i]? = some p := ⟨es[i], List.getElem?_eq_getElem hi⟩
    obtain ⟨en, e1, e2, e3, e4⟩ := pair_at g4 hp
    refine next_key_item st g1 g3 hl.symm (by simpa using e1) fun h' st' sb => ?_
    have I1 : L2.Inv X pins σ H { s with heap := h' } := I.turned (t' := s.toks) (fun b ob hb e => (sb.2 b hb).trans e) f0 f1 f3 f4 f5
    obtain ⟨oi, e, c, dd⟩ := id st'
    exact ⟨en.key, rfl, go_of (s := { s with heap := h' }) e c dd (by decide) ⟨.ref p.2.1, H, I1, e3, ⟨rfl, p, hp, rfl⟩, st', fun b hb => (hf b hb).1⟩⟩
  done := by
    intro X hP hw hK hc i pins s σ H E I hf st hg
    subst hP hw hK
    obtain ⟨hd, hi⟩ := hg
    obtain ⟨f0, f1, f2, f3, f4, f5⟩ := hf it (by simp)
    obtain ⟨_, _, _, ds', ep', g1, g2, g3, g4⟩ := (I.hok a _ hd).1
    obtain ⟨rfl, rfl⟩ := dict_ep hod g3
    have hl : es.length = ds'.size := (paired_len0 g4).trans Array.length_toList
    exact next_key_end (I.ok.hd hc) st g1 g3 hl.symm hi fun h' eb => ⟨rfl, I.turned (t' := s.toks) (fun b ob hb e => eb b ob hb e) f0 f1 f3 f4 f5⟩
  self := fun A i s Q E st h => by
    refine wpAny_pyIter_slot st.typeIs F.slot_dict_keyiterator_iter (wpAny_call_entry F.slot_dict_keyiterator_iter st.typeIs F.entry_dict_keyiterator_iter ?_ (F.args_dict_keyiterator_iter_1 _))
    show wpAny _ _ (ret (.ref it)) _ _ s
    exact wpAny_pure ⟨_, rfl, "dict_keyiterator", _, st.typeIs, F.slot_dict_keyiterator_next.lookup, h⟩
/-- the iterator has come -/
theorem iter_dictN {tg : Expr} {pins : List (Addr × Obj)} {σ : L2.St} {H : Hp} {s : Shared} {a : Addr} {o : Obj} {es : List Ent} {R : L2.It → Hp → Prop} {E : Value → Shared → Prop} (I : L2.Inv X pins σ H s) (hd : H a = some (DO C.w a o es)) (q : R (Itdn C.w a o es) H) :
    wpAny (model X.prog X.w) X.A (pyIter (.ref a)) (PIE X pins σ tg R) E s := by
  obtain ⟨_, g0, _, ds, ep, g1, g2, g3, g4⟩ := (I.hok a _ hd).1
  have hl : es.length = ds.size := (paired_len0 g4).trans Array.length_toList
  refine iter_keys g0 g1 g2 g3 (pi_one (tk := s.toks) I _ (turn_dictN _ g3) ⟨_, Heap.get?_push_size _ rfl, rfl, ?_⟩ q)
  rw [hl] <;> rfl
theorem ents_keys {K : PySem.W.Frag} {G : Hp} : ∀ {es : List Ent} {kvs : List (PyData × PyData)}, EntsAre K G es kvs → DqAll K G (es.map fun p => V.ref p.2.1) (kvs.map (·.1))
  | _, _, .nil => .nil
  | _, _, .cons h t => .cons h.2.2.2.1 (ents_keys t)
theorem ents_pure {K : PySem.W.Frag} {G : Hp} : ∀ {es : List Ent} {kvs : List (PyData × PyData)}, EntsAre K G es kvs → ∀ x ∈ kvs.map (·.1), ∃ k, nkey x = some k
  | _, _, .nil, _, h => by cases h
  | _, _, .cons (a := p) h t, x, hx => by
    rcases List.mem_cons.mp hx with rfl | hx
    · exact ⟨_, h.1⟩
    · exact ents_pure t x hx
mutual
theorem nkey_read {h : Heap} : ∀ {d : PyData} {v : Value} {as : List Addr} {k : NestedKey}, nkey d = some k → Reads h v d as → as = []
  | .none, _, _, _, _, r => by cases r; rfl
  | .bool _, _, _, _, _, r => by cases r; rfl
  | .int _, _, _, _, _, r => by cases r; rfl
  | .str _, _, _, _, _, r => by cases r; rfl
  | .tuple xs, _, _, k, e, r => by
    obtain ⟨ks, e1, _⟩ := Option.map_eq_some_iff.mp (show (nkeys xs).map NestedKey.tup = some k from e)
    cases r with
    | tuple _ _ _ q => exact nkeys_read e1 q
  | .list _, _, _, _, e, _ => by simp [nkey] at e
  | .dict _, _, _, _, e, _ => by simp [nkey] at e
theorem nkeys_read {h : Heap} : ∀ {ds : List PyData} {vs : List Value} {as : List Addr} {ks : List NestedKey}, nkeys ds = some ks → ReadsAll h vs ds as → as = []
  | [], _, _, _, _, r => by cases r; rfl
  | x :: xs, _, _, ks, e, r => by
    obtain ⟨k1, e1, e2⟩ := Option.bind_eq_some_iff.mp (show (nkey x).bind (fun k => (nkeys xs).map fun ks => k :: ks) = some ks from e)
    obtain ⟨k2, e3, _⟩ := Option.map_eq_some_iff.mp e2
    cases r with
    | cons r1 r2 => rw [nkey_read e1 r1, nkeys_read e3 r2]; rfl
end
theorem each_dq {h : Heap} {K : PySem.W.Frag} {G : Hp} : ∀ {vs : List V} {ds : List PyData} {us : List Value}, DqAll K G vs ds → Vals vs us → (∀ v d u, Dq K G v d → L2.RelV v u → d ∈ ds → ∃ as, Reads h u d as) → PySem.W.EachIs (fun v b => ∃ as, Reads h v b as) us ds
  | _, _, _, .nil, .nil, _ => .nil
  | _, _, _, .cons h1 r, .cons q t, f => .cons (f _ _ _ h1 q (List.mem_cons_self ..)) (each_dq r t fun v d u a b c => f v d u a b (List.mem_cons_of_mem _ c))
theorem each_imp {α : Type} {F F' : Value → α → Prop} : ∀ {us : List Value} {ds : List α}, PySem.W.EachIs F us ds → (∀ u d, d ∈ ds → F u d → F' u d) → PySem.W.EachIs F' us ds
  | _, _, .nil, _ => .nil
  | _, _, .cons h t, f => .cons (f _ _ (List.mem_cons_self ..) h) (each_imp t fun u d m => f u d (List.mem_cons_of_mem _ m))
theorem cr_sortedDict (hK : X.K = C.K) (hc : X.calm = true) (hu : X.A.units + 80 < cLine) : CallR X (.builtin "sorted") (rSortDict C) := by
  intro pins s σ H xs us Q I r h
  obtain ⟨τ, G, x, kvs, z, rfl, A, tx, hz, q⟩ := h
  obtain ⟨a, o, es, rfl, ha, he⟩ := tx.dic A.s
  have e := Vals.ref1 r
  subst e
  obtain ⟨gl, g0, gn, ds, ep, g1, g2, g3, g4⟩ := (I.hok a _ ha).1
  have hl : es.length = ds.size := (paired_len0 g4).trans Array.length_toList
  obtain ⟨al, so, dp, rfl⟩ := sortL_ok hz
  refine Calls.call_function_entry kind_sorted plain_sorted entry_sorted (args_sorted1 _) ?_
  unfold Builtin.«sorted»
  refine wpAny_bind (m := checkCount "sorted" 1 1 _) (wpAny_pure ?_)
  refine wpAny_bind (PySem.W.kdu_collect (A := X.A.in1) (kdl_raw g0 g2 g3) (I.ok.hd hc) g1 (by omega) fun h' tk acc hk hacc => ?_)
  have I1 : L2.Inv X pins σ H { s with heap := h', toks := tk } := I.kept hk
  have dq := ents_keys he
  have hal : acc.toList.length = es.length := by rw [Array.length_toList, hacc.1, hl]
  have rv : Vals (es.map fun p => V.ref p.2.1) acc.toList := by
    refine vals_of_at (by rw [List.length_map, hal]) fun j v u h1 h2 => ?_
    obtain ⟨en, e1, e2⟩ := hacc.2 j u (by rw [← Array.getElem?_toList]; exact h2)
    rw [List.getElem?_map] at h1
    obtain ⟨p, p1, rfl⟩ := Option.map_eq_some_iff.mp h1
    obtain ⟨en', q1, q2, q3, q4⟩ := pair_at g4 p1
    have : en = en' := by
      rw [Array.getElem?_toList, e1] at q1
      exact Option.some.inj q1
    subst this
    rw [e2, q3]
    rfl
  refine wpAny_bind (wpAny_newList ?_ (by rw [hal]; exact gl))
  have hoL : (h'.push (seqObj "list" acc.toList.toArray 0)).get? h'.objs.size = some (seqObj "list" acc.toList.toArray 0) := Heap.get?_push_size _ rfl
  show wpAny _ _ _ _ _ { s with heap := h'.push (seqObj "list" acc.toList.toArray 0), toks := tk }
  have kk : ∀ b u, s.heap.get? b = some u → (h'.push (seqObj "list" acc.toList.toArray 0)).get? b = some u := fun b u e => Heap.get?_push_of_some _ (hk b u e)
  have rd : PySem.W.EachIs (fun v b => ∃ as, Reads (h'.push (seqObj "list" acc.toList.toArray 0)) v b as ∧ h'.objs.size ∉ as) acc.toList (kvs.map (·.1)) := by
    refine each_imp (each_dq (h := s.heap) dq rv fun v d u q1 q2 _ => ?_) fun u d hd ⟨as, r1⟩ => ?_
    · exact Dp.reads I _ _ u (by rw [hK]; exact (Dq.mono A.s q1).dp) q2
    · obtain ⟨k, hk1⟩ := ents_pure he d hd
      have e := nkey_read hk1 r1
      subst e
      exact ⟨[], Reads.keeps kk r1, by simp⟩
  refine wpAny_bind (wpAny_holding (PySem.W.list_sort_data (s := { s with heap := h'.push (seqObj "list" acc.toList.toArray 0), toks := tk }) (R := RelD C.K G) (enc := fun d : PyData => d) hoL (each_of rv dq) rd (by rw [List.map_id']; exact al) (by rw [List.map_id']; exact so) (by rw [List.length_map]; have := paired_len0 he; omega)
    (fun b hb => by
      have := dp b hb
      show X.A.in1.units + 1 + b.depth < cLine
      simp only [Around.in1_units]
      omega) fun out hl he2 => ?_))
  have he2 : PySem.W.EachIs (RelD C.K G) out (isort (kvs.map (·.1))) := by rw [isort_eq]; exact he2
  obtain ⟨vs, rv2, q2⟩ := each_back he2
  obtain ⟨c, hcc⟩ := sortedHeap_at (vs := acc.toList) (out := out.toArray) hoL
  have hn : H h'.objs.size = none := I1.hok.fresh (Nat.le_refl _)
  have kz : ∀ b u, h'.get? b = some u → (sortedHeap (h'.push (seqObj "list" acc.toList.toArray 0)) h'.objs.size acc.toList out.toArray).get? b = some u := fun b u e => by
    have lt := Heap.lt_size e
    rw [sortedHeap_old (Nat.ne_of_lt lt) (by rw [size_push']; exact Nat.lt_succ_of_lt lt)]
    exact Heap.get?_push_of_some _ e
  have ol : vs.length ≤ sizeLine := by
    have l1 := rv2.length
    have l2 := paired_len0 he
    rw [l1, hl, List.length_map]
    omega
  have J := I1.laid (t' := tk) (o := .lst vs) kz (Nat.le_refl _) ⟨ol, out, c, rv2, hcc⟩
  refine wpAny_pure ⟨_, rfl, .ref h'.objs.size, _, J, rfl, ?_⟩
  exact q.newL A q2 _ hn
end
end Bk
namespace Bk
open PySem PySem.Spec PyProof.Rows L2
theorem meets_enum1 {v : Value} {o : Obj} {H : Heap → Prop} (B : Begins v o H) :
    Meets (Builtin.«enumerate.__new__» ⟨[.type "enumerate", v], []⟩) (fun _ R s => H s.heap ∧
      R (.ok (.ret (.ref (s.heap.push o).objs.size))) { s with heap := (s.heap.push o).push { cls := .type "enumerate", data := .fields #[.none, .bool false, .ref s.heap.objs.size, rawInt 0, .none, .none] } }) :=
  .of_wp fun prog w A R s h => by
    obtain ⟨hp, g, d, tk, os⟩ := s; obtain ⟨h1, h⟩ := h
    have hsub := sub_enumerate
    have q1 : ∀ {A' : Around} {E : Value → Shared → Prop} {Q : Value → Shared → Prop}, Q (.ref hp.objs.size) ⟨hp.push o, g, d, tk, os⟩ → wpAny (model prog w) A' (pyIter v) Q E ⟨hp, g, d, tk, os⟩ :=
      fun q => B.iter prog w _ _ ⟨hp, g, d, tk, os⟩ _ h1 q
    wp_walk using q1
    refine wpAny_stack_any fun st => wpAny_pure ?_
    split
    · rename_i c _ _ _ _ _
      cases (c == Value.type "enumerate")
      · wp_walk using q1
        exact ⟨_, rfl, h⟩
      · wp_walk using q1
        exact ⟨_, rfl, h⟩
    · wp_walk using q1
      exact ⟨_, rfl, h⟩
section
variable {prog : Program} {w : World} {A : Around} {E : Value → Shared → Prop} {s : Shared}
theorem call_enum1 {v : Value} {o : Obj} {H : Heap → Prop} {Q : Value → Shared → Prop} (B : Begins v o H) (h1 : H s.heap)
    (h : ∀ h', IsEnum h' (s.heap.objs.size + 1) s.heap.objs.size 0 .none → h'.get? s.heap.objs.size = some o → h'.objs.size = s.heap.objs.size + 2 →
      (∀ b o, s.heap.get? b = some o → h'.get? b = some o) → Q (.ref (s.heap.objs.size + 1)) { s with heap := h' }) :
    wpAny (model prog w) A (call (.type "enumerate") [v]) Q E s := by
  refine callType_new F.called_enumerate (by decide) (F.typeCall_enumerate_1 _) (F.newCall_enumerate_1 _) (fun obj => F.args_object_init_2 obj _) F.entry_enumerate_new
    (meets_enum1 B) ⟨h1, ?_⟩
  have hz : (s.heap.push o).objs.size = s.heap.objs.size + 1 := Heap.size_push ..
  show _ ∧ _
  rw [hz]
  have he : IsEnum ((s.heap.push o).push { cls := .type "enumerate", data := .fields #[.none, .bool false, .ref s.heap.objs.size, rawInt 0, .none, .none] }) (s.heap.objs.size + 1) s.heap.objs.size 0 .none := by
    have := Heap.get?_push_size (s.heap.push o) (o := { cls := .type "enumerate", data := .fields #[.none, .bool false, .ref s.heap.objs.size, rawInt 0, .none, .none] }) rfl
    rw [hz] at this; exact this
  refine ⟨⟨_, he, rfl⟩, h _ he (Heap.get?_push_of_some _ (Heap.get?_push_size _ B.free)) (by rw [Heap.size_push, hz]) fun b o x => Heap.get?_push_of_some _ (Heap.get?_push_of_some _ x)⟩
/-- the next pair while the first one is still held -/
theorem enum_next_held {e it T : Addr} {fp : List Addr} {n i : Nat} {P : Nat → Value → Prop} {St : Nat → Heap → Prop} {old : Value} {f : Bool} {oT : Obj} {Q : Value → Shared → Prop}
    (D : Draws prog w A it fp n P St) (he : IsEnumHeld s.heap e it i old T f) (hT : s.heap.get? T = some oT) (hTe : T ≠ e) (hTi : T ≠ it) (hst : St i s.heap) (hlt : i < n) (hne : e ≠ it) (hef : e ∉ fp)
    (hQ : ∀ x h' tk, P i x → IsEnumHeld h' e it ((i : Int) + 1) old T true → St (i + 1) h' →
      h'.get? s.heap.objs.size = some { cls := .type "tuple", data := .seq #[.int i tk, x] } → h'.objs.size = s.heap.objs.size + 1 →
      (∀ b o, b ≠ e → b ≠ it → s.heap.get? b = some o → h'.get? b = some o) → Q (.ref s.heap.objs.size) { s with heap := h', toks := tk + 1 }) :
    wpAny (model prog w) A (Builtin.«enumerate.__next__» ⟨[.ref e], []⟩) (fun fin s' => ∃ v, fin = .done (.ret v) ∧ Q v s') E s := by
  obtain ⟨hp, g, d, tk0, os⟩ := s
  show wpAny _ _ (field (.ref e) 2 >>= _) _ _ _
  refine wpAny_bind (wpAny_field he rfl (x := .ref it) rfl ?_)
  refine wpAny_bind (D.item i _ _ _ hlt hst fun x h₁ tk hPx hit₁ hs₁ => ?_)
  replace hs₁ : Heap.SameBut it hp h₁ := hs₁
  have he₁ : IsEnumHeld h₁ e it i old T f := (hs₁.2 e hne).trans he
  show wpAny _ _ (field (.ref e) 3 >>= _) _ _ ⟨h₁, g, d, tk, os⟩
  refine wpAny_bind (wpAny_field he₁ rfl (x := rawInt i) rfl ?_)
  show wpAny _ _ (field (.ref e) 4 >>= _) _ _ ⟨h₁, g, d, tk, os⟩
  refine wpAny_bind (wpAny_field he₁ rfl (x := .none) rfl ?_)
  show wpAny _ _ (mkInt i >>= _) _ _ ⟨h₁, g, d, tk, os⟩
  refine wpAny_bind (wpAny_mkInt ?_)
  show wpAny _ _ (setField (.ref e) 3 (rawInt ((i : Int) + 1)) >>= _) _ _ ⟨h₁, g, d, tk + 1, os⟩
  refine wpAny_bind (wpAny_setField_rec he₁ (by simp) fun h₂ he₂ hs₂ => ?_)
  replace hs₂ : Heap.SameBut e h₁ h₂ := hs₂
  replace he₂ : IsEnumHeld h₂ e it ((i : Int) + 1) old T f := he₂
  show wpAny _ _ (setField (.ref e) 4 .none >>= _) _ _ ⟨h₂, g, d, tk + 1, os⟩
  refine wpAny_bind (wpAny_setField_rec he₂ (by simp) fun h₃ he₃ hs₃ => ?_)
  replace hs₃ : Heap.SameBut e h₂ h₃ := hs₃
  replace he₃ : IsEnumHeld h₃ e it ((i : Int) + 1) old T f := he₃
  show wpAny _ _ (newTuple [.int i tk, x] >>= _) _ _ ⟨h₃, g, d, tk + 1, os⟩
  refine wpAny_bind (wpAny_newTuple ?_)
  have he₄ : IsEnumHeld (h₃.push { cls := .type "tuple", data := .seq #[.int i tk, x] }) e it ((i : Int) + 1) old T f := Heap.get?_push_of_some _ he₃
  generalize hh₄ : h₃.push { cls := .type "tuple", data := .seq #[.int i tk, x] } = h₄ at he₄
  have hsz : h₃.objs.size = hp.objs.size := by rw [hs₃.1, hs₂.1, hs₁.1]
  have hel : e < hp.objs.size := Heap.lt_size he
  have ht₄ : h₄.get? hp.objs.size = some { cls := .type "tuple", data := .seq #[.int i tk, x] } := by rw [← hh₄, ← hsz]; exact Heap.get?_push_size _ rfl
  have hz₄ : h₄.objs.size = hp.objs.size + 1 := by rw [← hh₄, Heap.size_push, hsz]
  have hk₄ : ∀ b o, b ≠ e → b ≠ it → hp.get? b = some o → h₄.get? b = some o := fun b o hbe hbi hb => by
    rw [← hh₄]; exact Heap.get?_push_of_some _ (hs₃.extBut b o hbe (hs₂.extBut b o hbe (hs₁.extBut b o hbi hb)))
  have hit₄ : St (i + 1) h₄ := D.frame _ _ _ hit₁ fun b hb o y => by
    have hbe : b ≠ e := fun q => hef (q ▸ hb)
    rw [← hh₄]; exact Heap.get?_push_of_some _ (hs₃.extBut b o hbe (hs₂.extBut b o hbe y))
  show wpAny _ _ (Builtin.SmallTypes.ownedTupleIsFree (.ref e) >>= _) _ _ ⟨h₄, g, d, tk + 1, os⟩
  rw [hsz]
  clear hh₄ he₃ hs₃ he₂ hs₂ he₁ hs₁ hit₁ hsz h₃ h₂ h₁
  refine wpAny_bind (wpAny_tupleHeld_enum (s := ⟨h₄, g, d, tk + 1, os⟩) he₄ (hk₄ T oT hTe hTi hT) fun h₅ he₅ hs₅ => ?_)
  replace hs₅ : Heap.SameBut e h₄ h₅ := hs₅
  simp only [Bool.false_eq_true, if_false]
  refine wpAny_pure ⟨_, rfl, hQ x h₅ tk hPx he₅ (D.frame _ _ _ hit₄ fun b hb o y => hs₅.extBut b o (fun q => hef (q ▸ hb)) y) (hs₅.extBut _ _ (Nat.ne_of_gt hel) ht₄) ?_ fun b o hbe hbi hb => hs₅.extBut b o hbe (hk₄ b o hbe hbi hb)⟩
  show h₅.objs.size = hp.objs.size + 1
  rw [hs₅.1, hz₄]
theorem next_enum_held {e it T : Addr} {fp : List Addr} {n i : Nat} {P : Nat → Value → Prop} {St : Nat → Heap → Prop} {old : Value} {f : Bool} {oT : Obj} {Q : Option Value → Shared → Prop}
    (D : Draws prog w A.in1 it fp n P St) (he : IsEnumHeld s.heap e it i old T f) (hT : s.heap.get? T = some oT) (hTe : T ≠ e) (hTi : T ≠ it) (hst : St i s.heap) (hlt : i < n) (hne : e ≠ it) (hef : e ∉ fp)
    (hQ : ∀ x h' tk, P i x → IsEnumHeld h' e it ((i : Int) + 1) old T true → St (i + 1) h' →
      h'.get? s.heap.objs.size = some { cls := .type "tuple", data := .seq #[.int i tk, x] } → h'.objs.size = s.heap.objs.size + 1 →
      (∀ b o, b ≠ e → b ≠ it → s.heap.get? b = some o → h'.get? b = some o) → Q (some (.ref s.heap.objs.size)) { s with heap := h', toks := tk + 1 }) :
    wpAny (model prog w) A (pyNext (.ref e)) Q E s := by
  have hTy : s.TypeIs (.ref e) "enumerate" := ⟨_, he, rfl⟩
  unfold pyNext
  exact wpAny_bind (wpAny_attempt (wpAny_callSpecial?_slot (name := Str.ofString "__next__") hTy F.slot_enumerate_next
    (wpAny_call_entry F.slot_enumerate_next hTy F.entry_enumerate_next
      (enum_next_held D he hT hTe hTi hst hlt hne hef fun x h' tk a b c d k q => wpAny_pure (hQ x h' tk a b c d k q)) (F.args_enumerate_next_1 _))))
theorem end_enum_held {e it T : Addr} {fp : List Addr} {n : Nat} {P : Nat → Value → Prop} {St : Nat → Heap → Prop} {i : Int} {old : Value} {f : Bool} {Q : Option Value → Shared → Prop}
    (D : Draws prog w A.in1 it fp n P St) (he : IsEnumHeld s.heap e it i old T f) (hst : St n s.heap)
    (hQ : ∀ h', Heap.ExtBut it s.heap h' → Q none { s with heap := h' }) : wpAny (model prog w) A (pyNext (.ref e)) Q E s := by
  have hT : s.TypeIs (.ref e) "enumerate" := ⟨_, he, rfl⟩
  unfold pyNext
  refine wpAny_bind (wpAny_attempt (wpAny_callSpecial?_slot (name := Str.ofString "__next__") hT F.slot_enumerate_next
    (wpAny_call_entry F.slot_enumerate_next hT F.entry_enumerate_next ?_ (F.args_enumerate_next_1 _))))
  show wpAny _ _ (field (.ref e) 2 >>= _) _ _ _
  refine wpAny_bind (wpAny_field he rfl (x := .ref it) rfl ?_)
  refine wpAny_bind (D.done _ _ _ hst fun h' x he' hx' => ?_)
  obtain ⟨o, ho, hc⟩ := hx'
  refine wpAny_bind (wpAny_isInstance (T := "StopIteration") (b := true) ⟨o, ho, hc⟩ isSubtype_stop ?_)
  exact wpAny_pure (hQ _ he')
/-! ### list(enumerate(..)) -/
/-- where the walk stands: nothing given yet, or the first pair held -/
def EnSt (e it S : Addr) (St : Nat → Heap → Prop) (i : Nat) (h : Heap) : Prop :=
  St i h ∧ ((i = 0 ∧ ∃ old, IsEnum h e it 0 old) ∨ ∃ old T f oT, IsEnumHeld h e it i old T f ∧ h.get? T = some oT ∧ T ≠ e ∧ T ≠ it ∧ T ≠ S)
theorem en_item {e it S : Addr} {fp : List Addr} {n i : Nat} {P : Nat → Value → Prop} {St : Nat → Heap → Prop} {Q : Option Value → Shared → Prop} (D : Draws prog w A.in1 it fp n P St) (hst : EnSt e it S St i s.heap) (hS : S < s.heap.objs.size) (hlt : i < n) (hne : e ≠ it) (hef : e ∉ fp) (hif : it ∈ fp)
    (hQ : ∀ x h' tk, P i x → EnSt e it S St (i + 1) h' → h'.get? s.heap.objs.size = some { cls := .type "tuple", data := .seq #[.int i tk, x] } → h'.objs.size = s.heap.objs.size + 1 →
      (∀ b o, b ≠ e → b ≠ it → s.heap.get? b = some o → h'.get? b = some o) → Q (some (.ref s.heap.objs.size)) { s with heap := h', toks := tk + 1 }) :
    wpAny (model prog w) A (pyNext (.ref e)) Q E s := by
  obtain ⟨h0, h1⟩ := hst
  have ec : ((i + 1 : Nat) : Int) = (i : Int) + 1 := by omega
  have nit : s.heap.objs.size ≠ it := by
    obtain ⟨_, y⟩ := D.live _ _ h0
    exact Nat.ne_of_gt (Heap.lt_size y)
  rcases h1 with ⟨rfl, old, he⟩ | ⟨old, T, f, oT, he, hT, r1, r2, r3⟩
  · refine wpAny_pyNext_enum_itemD D he h0 hlt hne hef fun x h' tk hP ho hs' hT hz hk => hQ x h' tk hP ⟨hs', .inr ⟨x, s.heap.objs.size, false, _, by rw [ec]; exact ho, hT, Nat.ne_of_gt (Heap.lt_size he), nit, Nat.ne_of_gt hS⟩⟩ hT hz hk
  · refine next_enum_held D he hT r1 r2 h0 hlt hne hef fun x h' tk hP ho hs' hT' hz hk => hQ x h' tk hP ⟨hs', .inr ⟨old, T, true, oT, by rw [ec]; exact ho, hk _ _ r1 r2 hT, r1, r2, r3⟩⟩ hT' hz hk
theorem en_done {e it S : Addr} {fp : List Addr} {n : Nat} {P : Nat → Value → Prop} {St : Nat → Heap → Prop} {Q : Option Value → Shared → Prop} (D : Draws prog w A.in1 it fp n P St) (hst : EnSt e it S St n s.heap)
    (hQ : ∀ h', Heap.ExtBut it s.heap h' → Q none { s with heap := h' }) : wpAny (model prog w) A (pyNext (.ref e)) Q E s := by
  obtain ⟨h0, h1⟩ := hst
  rcases h1 with ⟨e0, old, he⟩ | ⟨old, T, f, oT, he, hT, r1, r2, r3⟩
  · exact wpAny_pyNext_enum_endD D he h0 hQ
  · exact end_enum_held D he h0 hQ
theorem EnSt.keep {e it S : Addr} {fp : List Addr} {n i : Nat} {P : Nat → Value → Prop} {St : Nat → Heap → Prop} {h h' : Heap} (D : Draws prog w A it fp n P St) (x : EnSt e it S St i h) (hk : ∀ b o, b ≠ S → h.get? b = some o → h'.get? b = some o) (he : e ≠ S) (hf : S ∉ fp) : EnSt e it S St i h' := by
  obtain ⟨h0, h1⟩ := x
  refine ⟨D.frame _ _ _ h0 fun b hb o y => hk b o (fun q => hf (q ▸ hb)) y, ?_⟩
  rcases h1 with ⟨rfl, old, q⟩ | ⟨old, T, f, oT, q, hT, r1, r2, r3⟩
  · exact .inl ⟨rfl, old, hk _ _ he q⟩
  · exact .inr ⟨old, T, f, oT, hk _ _ he q, hk _ _ r3 hT, r1, r2, r3⟩
/-- the pairs that were given -/
structure EnG (P : Nat → Value → Prop) (lo : Addr) (h : Heap) (as : List Addr) : Prop where
  above : ∀ a ∈ as, lo < a
  pairs : ∀ (j : Nat) (a : Addr), as[j]? = some a → ∃ x tk, P j x ∧ h.get? a = some { cls := .type "tuple", data := .seq #[.int j tk, x] }
end
end Bk
namespace Bk
open PySem PySem.Spec PyProof.Rows L2
theorem enum_no_len : typeLookup (.type "enumerate") "__len__" = pure none := am_miss_of_fast (by decide +kernel)
theorem enum_no_hint : typeLookup (.type "enumerate") "__length_hint__" = pure none := am_miss_of_fast (by decide +kernel)
section
variable {prog : Program} {w : World} {A : Around} {s : Shared} {R : Result → Shared → Prop} {e it S : Addr} {fp : List Addr} {n : Nat} {P : Nat → Value → Prop} {St : Nat → Heap → Prop}
theorem en_loop (D : Draws prog w A.in1.in1 it fp n P St) (hne : e ≠ it) (hef : e ∉ fp) (hif : it ∈ fp) (heS : e < S) (hiS : it < S) (hSf : S ∉ fp) (hn : n ≤ sizeLine) (res : Value) {h₁ : Heap}
    (hR : ∀ h' tk acc c as, (∀ b o, b ≠ S → b ≠ e → b ≠ it → h₁.get? b = some o → h'.get? b = some o) → h'.get? S = some { cls := .type "list", dict := none, data := .seq acc c, slots := #[] } → as.length = n → EnG P S h' as →
      acc.toList = as.map Value.ref → R (.ok (.ret res)) { s with heap := h', toks := tk }) :
    ∀ (k i : Nat) (h : Heap) (tk c : Nat) (acc : Array Value) (as : List Addr), n - i = k → i ≤ n → EnSt e it S St i h → (∀ b o, b ≠ S → b ≠ e → b ≠ it → h₁.get? b = some o → h.get? b = some o) →
      h.get? S = some { cls := .type "list", dict := none, data := .seq acc c, slots := #[] } → acc.toList = as.map Value.ref → as.length = i → EnG P S h as →
      codeAny (model prog w) A (.builtin "list.extend.loop" ⟨[.ref S, .ref e, res], []⟩) R { s with heap := h, toks := tk } := by
  have n1 : S ≠ e := Nat.ne_of_gt heS
  have n2 : S ≠ it := Nat.ne_of_gt hiS
  intro k
  induction k with
  | zero =>
    intro i h tk c acc as hk hi hst hkeep hS hacc hal hG
    have hin : i = n := by omega
    subst hin
    refine codeAny_builtin PySem.F.entry_extend_loop ?_
    rw [Around.under_plainId PySem.F.plain_extend_loop _]
    show wpAny _ A.in1 (pyNext (.ref e) >>= _) _ _ _
    refine wpAny_bind (en_done (s := { s with heap := h, toks := tk }) (A := A.in1) D hst fun h' he => ?_)
    refine wpAny_pure (hR h' tk acc c as (fun b o h1 h2 h3 q => he b o h3 (hkeep b o h1 h2 h3 q)) (he S _ n2 hS) hal ⟨hG.above, fun j a hj => ?_⟩ hacc)
    obtain ⟨x, t, e1, e2⟩ := hG.pairs j a hj
    exact ⟨x, t, e1, he a _ (Nat.ne_of_gt (Nat.lt_trans hiS (hG.above a (List.mem_of_getElem? hj)))) e2⟩
  | succ k ih =>
    intro i h tk c acc as hk hi hst hkeep hS hacc hal hG
    have hlt : i < n := by omega
    have hsz : acc.size = i := by rw [← Array.length_toList, hacc, List.length_map, hal]
    refine codeAny_builtin PySem.F.entry_extend_loop ?_
    rw [Around.under_plainId PySem.F.plain_extend_loop _]
    show wpAny _ A.in1 (pyNext (.ref e) >>= _) _ _ _
    refine wpAny_bind (en_item (s := { s with heap := h, toks := tk }) (A := A.in1) (S := S) D hst (Heap.lt_size hS) hlt hne hef hif fun x h' tk' hP hst' ht hz hkp => ?_)
    dsimp only at ht hz hkp ⊢
    have hS' := hkp S _ n1 n2 hS
    have up : ∀ b o, b ≠ S → h'.get? b = some o → (h'.update S (Obj.mapSeq (·.push (Value.ref h.objs.size)))).get? b = some o := fun b o hb e => (Heap.get?_update_other _ _ (Ne.symm hb)).trans e
    have hSl : S < h.objs.size := Heap.lt_size hS
    show wpAny _ A.in1 (updateSeq S (·.push (Value.ref h.objs.size)) >>= _) _ _ _
    refine wpAny_bind ?_
    refine wpAny_updateSeq hS' rfl (wpAny_pure ⟨plainId_quiet PySem.F.plain_extend_loop _, ih (i + 1) _ (tk' + 1) _ (acc.push (Value.ref h.objs.size)) (as ++ [h.objs.size]) (by omega) hlt (hst'.keep D up (Ne.symm n1) hSf)
      (fun b o h1 h2 h3 q => up b o h1 (hkp b o h2 h3 (hkeep b o h1 h2 h3 q))) (Heap.get?_update_self _ hS' rfl) (by rw [Array.toList_push, hacc, List.map_append]; rfl) (by rw [List.length_append, hal]; rfl) ⟨?_, ?_⟩⟩) (by rw [hsz]; omega) (by show (acc.push (Value.ref h.objs.size)).size ≤ sizeLine + 1; rw [Array.size_push, hsz]; omega)
    · intro a ha
      rcases List.mem_append.mp ha with ha | ha
      · exact hG.above a ha
      · rw [List.mem_singleton.mp ha]; exact hSl
    · intro j b hj
      rcases Nat.lt_trichotomy j as.length with h1 | h1 | h1
      · rw [List.getElem?_append_left h1] at hj
        obtain ⟨x', t', e1, e2⟩ := hG.pairs j b hj
        have hb := hG.above b (List.mem_of_getElem? hj)
        exact ⟨x', t', e1, up b _ (Nat.ne_of_gt hb) (hkp b _ (Nat.ne_of_gt (Nat.lt_trans heS hb)) (Nat.ne_of_gt (Nat.lt_trans hiS hb)) e2)⟩
      · subst h1
        have hb : h.objs.size = b := by simpa using hj
        subst hb
        exact ⟨x, tk', by rw [hal]; exact hP, up _ _ (Nat.ne_of_gt hSl) (by rw [hal]; exact ht)⟩
      · have hnone : (as ++ [h.objs.size])[j]? = none := List.getElem?_eq_none (by rw [List.length_append, List.length_singleton]; omega)
        rw [hnone] at hj; cases hj
theorem en_extend (D : Draws prog w A.in1.in1 it fp n P St) (hne : e ≠ it) (hef : e ∉ fp) (hif : it ∈ fp) (heS : e < S) (hiS : it < S) (hSf : S ∉ fp) (hn : n ≤ sizeLine) (res : Value) (c₀ : Nat) {old : Value} (he : IsEnum s.heap e it 0 old) (hst : St 0 s.heap)
    (hS : s.heap.get? S = some { cls := .type "list", data := .seq #[] c₀ })
    (hR : ∀ h' tk acc c as, (∀ b o, b ≠ S → b ≠ e → b ≠ it → s.heap.get? b = some o → h'.get? b = some o) → h'.get? S = some { cls := .type "list", dict := none, data := .seq acc c, slots := #[] } → as.length = n → EnG P S h' as →
      acc.toList = as.map Value.ref → R (.ok (.ret res)) { s with heap := h', toks := tk }) :
    wpAny (model prog w) A.in1 (Builtin.List.listExtendWith (.ref S) (.ref e) res)
      (fun fin s' => match fin with | .done f => R (.ok f) s' | .again c' => c'.quiet = true ∧ codeAny (model prog w) A c' R s') (fun e s' => R (.error e) s') s := by
  have hSe : S ≠ e := Nat.ne_of_gt heS
  have hT : s.TypeIs (.ref e) "enumerate" := ⟨_, he, rfl⟩
  have key : ∀ (h : Heap) (c₁ tk : Nat), (∀ b o, b ≠ S → s.heap.get? b = some o → h.get? b = some o) → h.get? S = some { cls := .type "list", data := .seq #[] c₁ } →
      codeAny (model prog w) A (.builtin "list.extend.loop" ⟨[.ref S, .ref e, res], []⟩) R { s with heap := h, toks := tk } := by
    intro h c₁ tk hk hS₁
    exact en_loop D hne hef hif heS hiS hSf hn res hR n 0 h tk c₁ #[] [] (Nat.sub_zero _) (Nat.zero_le _) (EnSt.keep D ⟨hst, .inl ⟨rfl, old, he⟩⟩ hk (Ne.symm hSe) hSf) (fun b o hb _ _ q => hk b o hb q) hS₁ rfl rfl ⟨(fun _ ha => nomatch ha), (fun j a hj => by simp at hj)⟩
  unfold Builtin.List.listExtendWith
  refine wpAny_bind (wpAny_typeOf (T := "enumerate") hT ?_)
  have h1 : Builtin.List.listSameRef (.ref S) (.ref e) = false := by simp [Builtin.List.listSameRef, hSe]
  have h2 : (Value.type "enumerate" == Value.type "list") = false := by decide
  have h3 : (Value.type "enumerate" == Value.type "tuple") = false := by decide
  simp only [h1, h2, h3, Bool.or_false, Bool.false_eq_true, if_false]
  refine wpAny_bind (wpAny_pyIter_enum he ?_)
  refine wpAny_bind (wpAny_holding ?_)
  unfold Builtin.List.listLengthHint
  refine wpAny_bind (wpAny_specialOf hT enum_no_len ?_)
  show wpAny _ A.in1 (specialOf (Value.ref e) (Str.ofString "__length_hint__") >>= _) _ _ _
  refine wpAny_bind (wpAny_specialOf hT enum_no_hint ?_)
  refine wpAny_pure ?_
  refine wpAny_ite_split (fun _ => ?_) (fun _ => wpAny_pure ⟨plainId_quiet PySem.F.plain_extend_loop _, key _ c₀ _ (fun b o _ q => q) hS⟩)
  refine wpAny_bind (wpAny_rule ?_)
  refine wpAny_bind ?_
  show wpAny _ _ (updateSeq S (·.push .none) >>= fun _ => updateSeq S (·.pop)) _ _ _
  refine wpAny_bind (wpAny_updateSeq hS rfl ?_)
  have hS₂ := Heap.get?_update_self (Obj.mapSeq (·.push Value.none)) hS rfl
  refine wpAny_updateSeq (hz := by seq_fits) hS₂ rfl ?_
  have hS₃ := Heap.get?_update_self (Obj.mapSeq (·.pop)) hS₂ rfl
  refine wpAny_pure ⟨plainId_quiet PySem.F.plain_extend_loop _, key _ _ _ (fun b o hb q => ?_) hS₃⟩
  exact (Heap.get?_update_other _ _ (Ne.symm hb)).trans ((Heap.get?_update_other _ _ (Ne.symm hb)).trans q)
end
section
variable {prog : Program} {w : World} {A : Around} {E : Value → Shared → Prop} {s : Shared} {e it : Addr} {fp : List Addr} {n : Nat} {P : Nat → Value → Prop} {St : Nat → Heap → Prop}
theorem en_call {Q : Value → Shared → Prop} {old : Value} (D : Draws prog w A.in1.in1.in1 it fp n P St) (hne : e ≠ it) (hef : e ∉ fp) (hif : it ∈ fp) (hlt : ∀ b ∈ fp, b < s.heap.objs.size) (hn : n ≤ sizeLine) (he : IsEnum s.heap e it 0 old) (hst : St 0 s.heap)
    (hQ : ∀ h' tk acc c as, (∀ b o, b ≠ e → b ≠ it → s.heap.get? b = some o → h'.get? b = some o) → h'.get? s.heap.objs.size = some { cls := .type "list", dict := none, data := .seq acc c, slots := #[] } → as.length = n → EnG P s.heap.objs.size h' as →
      acc.toList = as.map Value.ref → Q (.ref s.heap.objs.size) { s with heap := h', toks := tk }) :
    wpAny (model prog w) A (call (.type "list") [.ref e]) Q E s := by
  refine callType_codes (Q₁ := fun obj s₁ => obj = .ref s.heap.objs.size ∧ s₁ = { s with heap := s.heap.push { cls := .type "list", data := .seq #[] } }) PySem.F.called_list (PySem.F.typeCall_list_1 _) PySem.F.entry_list_init
    (code_list_new _ ⟨rfl, rfl⟩) fun obj s₁ h₁ => ?_
  obtain ⟨rfl, rfl⟩ := h₁
  have hS : (s.heap.push { cls := .type "list", data := .seq #[] }).get? s.heap.objs.size = some { cls := .type "list", data := .seq #[] } := Heap.get?_push_size _ rfl
  have heS : e < s.heap.objs.size := Heap.lt_size he
  have hiS : it < s.heap.objs.size := hlt it hif
  have hSf : s.heap.objs.size ∉ fp := fun q => Nat.lt_irrefl _ (hlt _ q)
  refine ⟨⟨_, hS, rfl⟩, PySem.F.args_list_init_2 _ _, ?_⟩
  show wpAny _ _ (do let old ← Builtin.List.listItems (.ref s.heap.objs.size); Builtin.List.listUpdate (.ref s.heap.objs.size) (fun _ => #[]); letGo old.toList.reverse; Builtin.List.listExtendWith (.ref s.heap.objs.size) (.ref e) .none) _ _ _
  refine wpAny_bind ?_
  unfold Builtin.List.listItems
  refine wpAny_bind (wpAny_seqItems hS rfl (wpAny_pure ?_))
  show wpAny _ _ (updateSeq s.heap.objs.size (fun _ => #[]) >>= fun _ => letGo (#[] : Array Value).toList.reverse >>= fun _ => Builtin.List.listExtendWith (.ref s.heap.objs.size) (.ref e) .none) _ _ _
  refine wpAny_bind (wpAny_updateSeq hS rfl ?_)
  have hS₂ := Heap.get?_update_self (Obj.mapSeq (fun _ => (#[] : Array Value))) hS rfl
  have oth : ∀ b o, b ≠ s.heap.objs.size → s.heap.get? b = some o → ((s.heap.push { cls := .type "list", data := .seq #[] }).update s.heap.objs.size (Obj.mapSeq (fun _ => (#[] : Array Value)))).get? b = some o :=
    fun b o hb q => (Heap.get?_update_other _ _ (Ne.symm hb)).trans (Heap.get?_push_of_some _ q)
  refine wpAny_bind (wpAny_letGo ?_)
  refine en_extend (A := A.in1) D hne hef hif heS hiS hSf hn .none _ (oth e _ (Nat.ne_of_lt heS) he) (D.frame _ _ _ hst fun b hb o q => oth b o (Nat.ne_of_lt (hlt b hb)) q) hS₂ fun h' tk acc c as hk hS' hl hG hacc => ?_
  exact ⟨rfl, hQ h' tk acc c as (fun b o h1 h2 q => hk b o (Nat.ne_of_lt (Heap.lt_size q)) h1 h2 (oth b o (Nat.ne_of_lt (Heap.lt_size q)) q)) hS' hl hG hacc⟩
end
end Bk
namespace Bk
open PySem PySem.Spec PyProof.Rows L2
/-- many things laid -/
def updAll (H : Hp) : List (Addr × HO) → Hp
  | [] => H
  | p :: r => upd (updAll H r) p.1 p.2
theorem updAll_out {H : Hp} {b : Addr} : ∀ {l : List (Addr × HO)}, b ∉ l.map (·.1) → updAll H l b = H b
  | [], _ => rfl
  | p :: r, h => by
    have h : b ≠ p.1 ∧ b ∉ r.map (·.1) := by simpa using h
    show upd (updAll H r) p.1 p.2 b = _
    rw [upd_ne h.1, updAll_out h.2]
theorem updAll_in {H : Hp} {p : Addr × HO} : ∀ {l : List (Addr × HO)}, (l.map (·.1)).Nodup → p ∈ l → updAll H l p.1 = some p.2
  | q :: r, nd, h => by
    rw [List.map_cons, List.nodup_cons] at nd
    show upd (updAll H r) q.1 q.2 p.1 = _
    rcases List.mem_cons.mp h with rfl | h
    · exact upd_same
    · rw [upd_ne (fun e => nd.1 (by rw [← e]; exact List.mem_map_of_mem h))]
      exact updAll_in nd.2 h
theorem updAll_cases {H : Hp} {b : Addr} {o : HO} : ∀ {l : List (Addr × HO)}, updAll H l b = some o → (b, o) ∈ l ∨ (b ∉ l.map (·.1) ∧ H b = some o)
  | [], h => .inr ⟨by simp, h⟩
  | q :: r, h => by
    by_cases e : b = q.1
    · have h : upd (updAll H r) q.1 q.2 b = some o := h
      rw [e, upd_same] at h
      cases h
      rw [e]
      exact .inl (List.mem_cons_self ..)
    · have h : upd (updAll H r) q.1 q.2 b = some o := h
      rw [upd_ne e] at h
      rcases updAll_cases h with h | ⟨h1, h2⟩
      · exact .inl (List.mem_cons_of_mem _ h)
      · exact .inr ⟨by simp only [List.map_cons, List.mem_cons, not_or]; exact ⟨e, h1⟩, h2⟩
section
variable {X : Cx} {C : Cf} {pins : List (Addr × Obj)} {σ : L2.St} {G H : Hp} {s : Shared} {τ : Town}
theorem inv_bulk {h' : Heap} {t' : Nat} (I : L2.Inv X pins σ H s) (k : ∀ b u, s.heap.get? b = some u → h'.get? b = some u) (l : List (Addr × HO)) (ge : ∀ p ∈ l, s.heap.objs.size ≤ p.1) (ok : ∀ p ∈ l, ObjOk X.prog X.w (updAll H l) h' p.1 p.2) :
    L2.Inv X pins σ (updAll H l) { s with heap := h', toks := t' } := by
  have fr : ∀ b, H b ≠ none → b ∉ l.map (·.1) := fun b hb m => by
    obtain ⟨p, hp, rfl⟩ := List.mem_map.mp m
    exact hb (I.hok.fresh (ge p hp))
  have old : ∀ b o, H b = some o → updAll H l b = some o := fun b o e => by
    rw [updAll_out (fr b (by rw [e]; simp))]
    exact e
  refine I.un ⟨fun b u q _ _ _ => k b u q, fun b u q _ _ _ => ⟨u.slots, k b u q⟩, fun b u q n _ => ?_, fun b u q _ => ⟨u, k b u q⟩, fun b xs q => old b _ q, fun b o u q => old b _ q, fun b ps q => ⟨#[], by rw [old b _ q]; simp⟩⟩ fun b o e => ?_
  · rw [updAll_out]
    · exact n
    · intro m
      obtain ⟨p, hp, rfl⟩ := List.mem_map.mp m
      exact absurd (Heap.lt_size q) (Nat.not_lt.mpr (ge p hp))
  · rcases updAll_cases e with h | ⟨_, h⟩
    · exact ok _ h
    · exact (I.hok b o h).stay (fun c v _ q => k c v q) (fun c q => old c _ q) fun c xs q => old c _ q
theorem grow_bulk (A : At C τ G H) : ∀ {l : List (Addr × HO)}, (l.map (·.1)).Nodup → (∀ p ∈ l, H p.1 = none) → Grow C G H (updAll G l) (updAll H l) ∧ TownOk C τ (updAll H l)
  | [], _, _ => ⟨Grow.refl A.s, A.t⟩
  | p :: r, nd, fr => by
    rw [List.map_cons, List.nodup_cons] at nd
    obtain ⟨g, t⟩ := grow_bulk A nd.2 fun q hq => fr q (List.mem_cons_of_mem _ hq)
    have hn : updAll H r p.1 = none := by rw [updAll_out nd.1]; exact fr p (List.mem_cons_self ..)
    exact ⟨g.trans (Grow.newF g.s hn), t.new hn⟩
end
/-! ### list(enumerate(y)) -/
theorem mem_zipW {α β : Type} {f : Nat → α → β} {b : β} : ∀ {xs : List α} {k : Nat}, b ∈ (xs.zipIdx k).map (fun p => f p.2 p.1) → ∃ j x, xs[j]? = some x ∧ b = f (k + j) x
  | [], _, h => by simp at h
  | x :: xs, k, h => by
    rw [List.zipIdx_cons, List.map_cons] at h
    rcases List.mem_cons.mp h with rfl | h
    · exact ⟨0, x, rfl, rfl⟩
    · obtain ⟨j, y, h1, h2⟩ := mem_zipW h
      exact ⟨j + 1, y, by simpa using h1, by rw [h2]; congr 1; omega⟩
section
variable {X : Cx} {C : Cf} {pos p2 p3 : Pos}
/-- the pairs of an enumeration, as they stand -/
theorem dq_pairs {K : PySem.W.Frag} {G : Hp} : ∀ {vs : List V} {ds : List PyData} {as : List Addr} {k : Nat}, DqAll K G vs ds → as.length = vs.length → (∀ j a v, as[j]? = some a → vs[j]? = some v → SqT K G a [.int ((k + j : Nat) : Int), v]) →
    DqAll K G (as.map V.ref) ((ds.zipIdx k).map fun p => PyData.tuple [.int (p.2 : Nat), p.1])
  | _, _, [], k, .nil, _, _ => .nil
  | _, _, a :: as, k, .cons (v := v) h r, hl, q => by
    rw [List.map_cons, List.zipIdx_cons, List.map_cons]
    refine .cons (.tup (q 0 a v rfl rfl) (.cons (.int _) (.cons h .nil))) (dq_pairs r (by simpa using hl) fun j a' v' h1 h2 => ?_)
    have := q (j + 1) a' v' (by simpa using h1) (by simpa using h2)
    rw [show k + (j + 1) = k + 1 + j by omega] at this
    exact this
  | _, _, _ :: _, _, .nil, hl, _ => by simp at hl
  | _, _, [], _, .cons _ _, hl, _ => by simp at hl
theorem dq_enum {K : PySem.W.Frag} {G : Hp} {vs : List V} {ds : List PyData} {as : List Addr} (h : DqAll K G vs ds) (hl : as.length = vs.length) (q : ∀ j a v, as[j]? = some a → vs[j]? = some v → SqT K G a [.int ((j : Nat) : Int), v]) : DqAll K G (as.map V.ref) (enumD ds) := by
  unfold enumD
  refine dq_pairs h hl fun j a v h1 h2 => ?_
  rw [Nat.zero_add]
  exact q j a v h1 h2
def tListEnum (C : Cf) (ta : TE) : TE := fun σ H Q => ta σ H fun x H1 => ∃ τ G dx ds, At C τ G H1 ∧ Top C G H1 x dx ∧ seqD dx = some ds ∧ OpK C τ G H1 (.list (enumD ds)) Q
/-- behind the loop: the list and its pairs are tracked -/
theorem enum_fin {pins : List (Addr × Obj)} {σ : L2.St} {G H : Hp} {s1 : Shared} {τ : Town} {h' : Heap} {tk c : Nat} {acc : Array Value} {as : List Addr} {vs : List V} {its : List Value} {ds : List PyData} {S : Addr} {Q : VK}
    (I : L2.Inv X pins σ H s1) (A : At C τ G H) (hk : ∀ b o, s1.heap.get? b = some o → h'.get? b = some o) (hS : h'.get? S = some { cls := .type "list", dict := none, data := .seq acc c, slots := #[] }) (hSs : s1.heap.objs.size ≤ S)
    (hl : as.length = its.length) (hz : vs.length ≤ sizeLine) (hG : EnG (fun i v => its.toArray[i]? = some v) S h' as) (hacc : acc.toList = as.map Value.ref) (rv : Vals vs its) (dq : DqAll C.K G vs ds) (q : OpK C τ G H (.list (enumD ds)) Q) : EP X pins σ Q (.ref S) { s1 with heap := h', toks := tk } := by
  have vl := rv.length
  have al : as.length = vs.length := by rw [hl, vl]
  have at' : ∀ (j : Nat) (a : Addr), as[j]? = some a → ∃ v u t, vs[j]? = some v ∧ L2.RelV v u ∧ h'.get? a = some { cls := .type "tuple", data := .seq #[.int j t, u] } := fun j a hj => by
    obtain ⟨u, t, e1, e2⟩ := hG.pairs j a hj
    have hj' : j < vs.length := by
      rw [← al]
      exact (List.getElem?_eq_some_iff.mp hj).1
    obtain ⟨u', e3, e4⟩ := rv.get (show vs[j]? = some vs[j] by simp [hj'])
    have : u = u' := by
      have e1 : its[j]? = some u := by simpa using e1
      rw [e1] at e3
      exact Option.some.inj e3
    subst this
    exact ⟨vs[j], u, t, by simp [hj'], e4, e2⟩
  have nd : as.Nodup := by
    refine List.pairwise_iff_getElem.mpr fun i j hi hj hij e => ?_
    obtain ⟨a, ha⟩ : ∃ a, as[j]? = some a := ⟨as[j], by simp [hj]⟩
    have ha' : as[i]? = some a := by
      rw [List.getElem?_eq_getElem hi, e, ← List.getElem?_eq_getElem hj]
      exact ha
    obtain ⟨_, _, t1, _, _, e1⟩ := at' i a ha'
    obtain ⟨_, _, t2, _, _, e2⟩ := at' j a ha
    rw [e1] at e2
    have := Option.some.inj e2
    injection this with _ _ h3 _
    injection h3 with h4 _
    have h5 := congrArg (fun x : Array Value => x[0]?) h4
    have h5 : some (Value.int (i : Nat) t1) = some (Value.int (j : Nat) t2) := h5
    injection h5 with h6
    injection h6 with h7 _
    omega
  have ge : ∀ a ∈ as, s1.heap.objs.size ≤ a ∧ S < a := fun a ha => by
    have := hG.above a ha
    exact ⟨Nat.le_of_lt (Nat.lt_of_le_of_lt hSs this), this⟩
  -- the pairs, then the list
  have lt : ∀ a ∈ as, ∃ j v, as[j]? = some a ∧ vs[j]? = some v := fun a ha => by
    obtain ⟨j, hj⟩ := List.mem_iff_getElem?.mp ha
    obtain ⟨v, _, _, e, _⟩ := at' j a hj
    exact ⟨j, v, hj, e⟩
  let L : List (Addr × HO) := (as.zip vs).zipIdx.map fun p => (p.1.1, HO.tup [.int (p.2 : Nat), p.1.2])
  have Lm : ∀ p ∈ L, ∃ (j : Nat) (a : Addr) (v : V), as[j]? = some a ∧ vs[j]? = some v ∧ p = (a, HO.tup [.int (j : Nat), v]) := fun p hp => by
    obtain ⟨j, x, h1, h2⟩ := mem_zipW (f := fun (j : Nat) (x : Addr × V) => (x.1, HO.tup [.int (j : Nat), x.2])) hp
    rw [Nat.zero_add] at h2
    have hz := List.getElem?_zip_eq_some.mp h1
    exact ⟨j, x.1, x.2, hz.1, hz.2, h2⟩
  have Lk : L.map (·.1) = as := by
    show ((as.zip vs).zipIdx.map fun p => (p.1.1, HO.tup [.int (p.2 : Nat), p.1.2])).map (·.1) = as
    rw [List.map_map]
    have : ((fun x : Addr × HO => x.1) ∘ fun p : (Addr × V) × Nat => (p.1.1, HO.tup [.int (p.2 : Nat), p.1.2])) = (fun x : Addr × V => x.1) ∘ Prod.fst := rfl
    rw [this, ← List.map_map, List.zipIdx_map_fst, List.map_fst_zip (by omega)]
  have Lin : ∀ (j : Nat) (a : Addr) (v : V), as[j]? = some a → vs[j]? = some v → (a, HO.tup [.int (j : Nat), v]) ∈ L := fun j a v h1 h2 => by
    refine List.mem_map.mpr ⟨((a, v), j), ?_, rfl⟩
    rw [List.mem_zipIdx_iff_getElem?]
    exact List.getElem?_zip_eq_some.mpr ⟨h1, h2⟩
  have fresh : ∀ b, s1.heap.objs.size ≤ b → H b = none := fun b hb => I.hok.fresh hb
  have hSL : S ∉ L.map (·.1) := by
    rw [Lk]
    intro m
    exact Nat.lt_irrefl _ (ge S m).2
  have nd2 : (((S, HO.lst (as.map V.ref)) :: L).map (·.1)).Nodup := by
    rw [List.map_cons, List.nodup_cons]
    exact ⟨hSL, by rw [Lk]; exact nd⟩
  have I2 := inv_bulk (t' := tk) I hk ((S, HO.lst (as.map V.ref)) :: L) (fun p hp => by
    rcases List.mem_cons.mp hp with rfl | hp
    · exact hSs
    · obtain ⟨j, a, v, h1, _, rfl⟩ := Lm p hp
      exact (ge a (List.mem_of_getElem? h1)).1) (fun p hp => by
    rcases List.mem_cons.mp hp with rfl | hp
    · refine ⟨by rw [List.length_map, al]; exact hz, acc.toList, c, ?_, by rw [Array.toArray_toList]; exact hS⟩
      rw [hacc]
      exact L2.vals_refs as
    · obtain ⟨j, a, v, h1, h2, rfl⟩ := Lm p hp
      obtain ⟨v', u, t, e1, e2, e3⟩ := at' j a h1
      rw [h2] at e1
      cases e1
      exact ⟨by show 2 ≤ sizeLine; decide, [.int j t, u], .cons ⟨_, rfl⟩ (.cons e2 .nil), ⟨_, e3, rfl, _, rfl⟩⟩)
  obtain ⟨g, t⟩ := grow_bulk A (l := L) (by rw [Lk]; exact nd) fun p hp => by
    obtain ⟨j, a, v, h1, _, rfl⟩ := Lm p hp
    exact fresh _ (ge a (List.mem_of_getElem? h1)).1
  have hn : updAll H L S = none := by rw [updAll_out hSL]; exact fresh S hSs
  have hgn : updAll G L S = none := by rw [updAll_out hSL]; exact A.free (fresh S hSs)
  have dq2 : DqAll C.K (updAll G L) (as.map V.ref) (enumD ds) := dq_enum (DqAll.mono g.g dq) al fun j a v h1 h2 => SqT.of (updAll_in (by rw [Lk]; exact nd) (Lin j a v h1 h2))
  refine ⟨.ref S, _, I2, rfl, ?_⟩
  exact q _ (updAll G L) (upd (updAll H L) S (.lst (as.map V.ref))) (g.trans (Grow.newO g.s hn)) (t.new hn) (RsD.list (fresh S hSs) hgn (A.t.neT (fresh S hSs)) (A.t.neR (fresh S hSs)) upd_same dq2)
theorem pe_listEnum (hK : X.K = C.K) (hc : X.calm = true) {y : Expr} {ta : TE} {p1 : Pos} (gl : Gl X "list") (ml : X.mg "list" = none) (ge : Gl X "enumerate") (me : X.mg "enumerate" = none) (he : PE X y ta) (hs : starEach [y] X.env = [(false, eval y X.env)]) :
    PE X (.Call (.Name "list" p1) [.Call (.Name "enumerate" p2) [y] [] p3] [] pos) (tListEnum C ta) := by
  refine ⟨fun pins s σ H Q I h => ?_⟩
  refine Call_ (ld_blt I gl ml (show bootBuiltins "list" = some (.type "list") by decide +kernel) (PyProof.Rows.callWith_type1 ?_ rfl rfl))
  show wpAny _ _ (spliced [(false, eval (.Call (.Name "enumerate" p2) [y] [] p3) X.env)]) _ _ _
  refine Calls.spliced_cons ?_
  have ha := (pa_cons he pa_nil hs).run p3 pins s σ H (fun vs H1 => match vs with
    | [x] => ∃ τ G dx ds, At C τ G H1 ∧ Top C G H1 x dx ∧ seqD dx = some ds ∧ OpK C τ G H1 (.list (enumD ds)) Q
    | _ => False) I h
  refine Call_ (ld_blt I ge me boot_enumerate (PyProof.Rows.callWith_type1 (thn ha fun us s1 ⟨vs, H1, I1, r1, q1⟩ => ?_) hs rfl))
  cases r1 with
  | nil => exact False.elim q1
  | cons r rr =>
    cases rr with
    | cons _ _ => exact False.elim q1
    | nil =>
    obtain ⟨τ, G, dx, ds, A, tx, hd, q⟩ := q1
    have hh := I1.ok.hd hc
    cases dx with
    | tuple es =>
      cases hd
      obtain ⟨a, xs, rfl, h1, h2⟩ := tx.tup
      cases r
      obtain ⟨its, rv, p, hz⟩ := I1.tuple (show SqT X.K H1 a xs by rw [hK]; exact SqT.mono A.s h1)
      have pt : s1.heap.IsTuple a its.toArray := p
      have la : a < s1.heap.objs.size := by
        obtain ⟨o, ho, _⟩ := pt
        exact Heap.lt_size ho
      refine call_enum1 (begins_tuple a its.toArray) pt fun h' e0 i0 hz0 k0 => Calls.spliced_nil ?_
      refine en_call (s := { s1 with heap := h' }) (Draws.tuple (by simpa using hh) s1.heap.objs.size a (Nat.ne_of_lt la) its.toArray) (Nat.succ_ne_self _) (by simp; exact Nat.ne_of_gt (Nat.lt_succ_of_lt la)) (by simp) (fun b hb => ?_) (by rw [List.size_toArray, ← rv.length]; exact hz) e0 ⟨⟨_, i0, rfl, rfl⟩, pt.at fun o x => k0 a o x⟩ fun h2' tk acc c as hk hS hl hG hacc => ?_
      · show b < h'.objs.size
        rw [hz0]
        have e' : b = s1.heap.objs.size ∨ b = a := by simpa using hb
        rcases e' with rfl | rfl
        · exact Nat.lt_add_of_pos_right (by omega)
        · exact Nat.lt_of_lt_of_le la (Nat.le_add_right _ _)
      · refine enum_fin (s1 := s1) (its := its) I1 A (fun b o z => hk b o (Nat.ne_of_lt (Nat.lt_succ_of_lt (Heap.lt_size z))) (Nat.ne_of_lt (Heap.lt_size z)) (k0 b o z)) hS ?_ (by simpa using hl) hz hG hacc rv h2 q
        show s1.heap.objs.size ≤ h'.objs.size
        rw [hz0]
        exact Nat.le_add_right _ _
    | list es =>
      cases hd
      obtain ⟨a, xs, rfl, h1, h2⟩ := tx.lst A.s
      cases r
      obtain ⟨its, rv, p, hz⟩ := I1.list (show SqL X.K H1 a xs from SqL.of h1)
      have pt : s1.heap.IsList a its.toArray := p.isList
      have la : a < s1.heap.objs.size := by
        obtain ⟨o, ho, _⟩ := pt
        exact Heap.lt_size ho
      refine call_enum1 (begins_list a its.toArray) pt fun h' e0 i0 hz0 k0 => Calls.spliced_nil ?_
      refine en_call (s := { s1 with heap := h' }) (Draws.list (by simpa using hh) s1.heap.objs.size a (Nat.ne_of_lt la) its.toArray) (Nat.succ_ne_self _) (by simp; exact Nat.ne_of_gt (Nat.lt_succ_of_lt la)) (by simp) (fun b hb => ?_) (by rw [List.size_toArray, ← rv.length]; exact hz) e0 ⟨⟨_, i0, rfl, rfl⟩, pt.at fun o x => k0 a o x⟩ fun h2' tk acc c as hk hS hl hG hacc => ?_
      · show b < h'.objs.size
        rw [hz0]
        have e' : b = s1.heap.objs.size ∨ b = a := by simpa using hb
        rcases e' with rfl | rfl
        · exact Nat.lt_add_of_pos_right (by omega)
        · exact Nat.lt_of_lt_of_le la (Nat.le_add_right _ _)
      · refine enum_fin (s1 := s1) (its := its) I1 A (fun b o z => hk b o (Nat.ne_of_lt (Nat.lt_succ_of_lt (Heap.lt_size z))) (Nat.ne_of_lt (Heap.lt_size z)) (k0 b o z)) hS ?_ (by simpa using hl) hz hG hacc rv h2 q
        show s1.heap.objs.size ≤ h'.objs.size
        rw [hz0]
        exact Nat.le_add_right _ _
    | _ => cases hd
/-! ### enumerate of a tuple, walked -/
def IteT (K : PySem.W.Frag) (a : Addr) : L2.It :=
  ⟨fun i H => ∃ (xs : List V) (x : V), SqT K H a xs ∧ xs[i]? = some x, fun i H v H' => ∃ T x, v = .ref T ∧ H T = none ∧ H' = upd H T (.tup [.int (i : Nat), x]) ∧ ∀ xs, SqT K H a xs → xs[i]? = some x, fun i H => ∃ xs : List V, SqT K H a xs ∧ xs.length ≤ i⟩
theorem walk_enumT {K : PySem.W.Frag} {a : Addr} {xs : List V} : Walk (IteT K a) xs.length (fun H => SqT K H a xs) (YPair (fun i => some (.int (i : Nat))) (fun i => xs[i]?)) := by
  refine ⟨fun i _ hi q => ⟨xs, xs[i], q, by simp [hi]⟩, fun _ q => ⟨xs, q, Nat.le_refl _⟩, fun i H v H' _ q y => ?_⟩
  obtain ⟨T, x, h1, h2, h3, h4⟩ := y
  exact ⟨T, .int (i : Nat), x, h1, h2, h3, rfl, h4 xs q⟩
theorem walk_zipT {K : PySem.W.Frag} {a b : Addr} {xs ys : List V} {n : Nat} (hn : n = min xs.length ys.length) : Walk (RZ.ItzT K a b) n (fun H => SqT K H a xs ∧ SqT K H b ys) (YPair (fun i => xs[i]?) (fun i => ys[i]?)) := by
  subst hn
  refine ⟨fun i _ hi q => ?_, fun _ q => ⟨xs, ys, q.1, q.2, by omega⟩, fun i H v H' _ q y => ?_⟩
  · have h1 : i < xs.length := by omega
    have h2 : i < ys.length := by omega
    exact ⟨xs, ys, xs[i], ys[i], q.1, q.2, by simp [h1], by simp [h2]⟩
  · obtain ⟨T, x, z, h1, h2, h3, h4, h5⟩ := y
    exact ⟨T, x, z, h1, h2, h3, h4 xs q.1, h5 ys q.2⟩
theorem turn_enumT {P : Program} {w : World} {K : PySem.W.Frag} {elts : List Expr} {kk : Nat} {tpos : Pos} (a e it : Addr) (hei : e ≠ it) (hae : a ≠ e) (hai : a ≠ it) :
    Turn P w K (.Tuple elts kk tpos) (IteT K a) [e, it] e (fun i h => (∃ old, IsEnum h e it ((i : Nat) : Int) old) ∧ h.IsTupleIter it a i) where
  mem := by simp
  obj := fun i h st b hb => by
    obtain ⟨⟨old, he⟩, ⟨o, ho, hc, hd⟩⟩ := st
    have e' : b = e ∨ b = it := by simpa using hb
    rcases e' with z | z
    · rw [z]; exact ⟨_, he, fun v q => nomatch q⟩
    · rw [z]; exact ⟨o, ho, fun v q => by rw [hd] at q; cases q⟩
  keep := fun i h h' st k => let ⟨⟨old, he⟩, hi⟩ := st; ⟨⟨old, k e (by simp) _ he⟩, hi.at fun o q => k it (by simp) o q⟩
  item := by
    intro X hP hw hK hc i pins s σ H E I hf st hg
    subst hP hw hK
    obtain ⟨⟨old, he⟩, hit⟩ := st
    obtain ⟨xs, x, hq, hx⟩ := hg
    obtain ⟨its, rv, p, hz⟩ := I.tuple hq
    obtain ⟨u, hu, ru⟩ := rv.get hx
    have hel : e < s.heap.objs.size := Heap.lt_size he
    have hil : it < s.heap.objs.size := by obtain ⟨_, q, _⟩ := hit; exact Heap.lt_size q
    have hlt : i < its.toArray.size := by
      rw [List.size_toArray]
      exact (List.getElem?_eq_some_iff.mp hu).1
    have pt : s.heap.IsTuple a its.toArray := p
    refine wpAny_pyNext_enum_itemD (Draws.tuple (by simpa using I.ok.hd hc) it a hai its.toArray) he ⟨hit, pt⟩ hlt hei (by simp; exact ⟨hei, Ne.symm hae⟩) fun x' h' tk hP ho hit' hT hsz hk => ?_
    have : x' = u := by
      have hP : its[i]? = some x' := by simpa using hP
      rw [hP] at hu
      exact Option.some.inj hu
    subst this
    refine ⟨_, rfl, wpAny_letOwnedTupleGo_enum (s := { s with heap := h', toks := tk + 1 }) ho fun h'' he' sb => ?_⟩
    have hT2 : h''.get? s.heap.objs.size = some { cls := .type "tuple", data := .seq #[.int i tk, x'] } := (sb.2 _ (Nat.ne_of_gt hel)).trans hT
    have new : ObjOk X.prog X.w (upd H s.heap.objs.size (.tup [.int (i : Nat), x])) h'' s.heap.objs.size (.tup [.int (i : Nat), x]) :=
      ⟨by show 2 ≤ sizeLine; decide, [.int i tk, x'], .cons ⟨_, rfl⟩ (.cons ru .nil), ⟨_, hT2, rfl, _, rfl⟩⟩
    have I1 : L2.Inv X pins σ (upd H s.heap.objs.size (.tup [.int (i : Nat), x])) { s with heap := h'', toks := tk + 1 } :=
      I.turnedNew (ch := [e, it]) (fun b ob hb q => (sb.2 b (fun z => hb (by simp [z]))).trans (hk b ob (fun z => hb (by simp [z])) (fun z => hb (by simp [z])) q)) hf (Nat.le_refl _) new
    refine ⟨.ref s.heap.objs.size, _, I1, rfl, ⟨_, x, rfl, I.hok.fresh (Nat.le_refl _), rfl, fun ys hy => by rw [I.tuple_inj hy hq]; exact hx⟩, ⟨⟨x', ?_⟩, hit'.1.at fun o q => (sb.2 it (Ne.symm hei)).trans q⟩, fun b hb => ?_⟩
    · have e1 : ((i + 1 : Nat) : Int) = (i : Int) + 1 := by omega
      rw [e1]; exact he'
    · have hb' : b < s.heap.objs.size := by
        have e' : b = e ∨ b = it := by simpa using hb
        rcases e' with z | z
        · rw [z]; exact hel
        · rw [z]; exact hil
      rw [upd_ne (Nat.ne_of_lt hb')]
      exact (hf b hb).1
  done := by
    intro X hP hw hK hc i pins s σ H E I hf st hg
    subst hP hw hK
    obtain ⟨⟨old, he⟩, hit⟩ := st
    obtain ⟨xs, hq, hx⟩ := hg
    obtain ⟨its, rv, p, hz⟩ := I.tuple hq
    obtain ⟨f0, f1, f2, f3, f4, f5⟩ := hf it (by simp)
    have hl := rv.length
    have hT : s.TypeIs (.ref e) "enumerate" := ⟨_, he, rfl⟩
    have pt : s.heap.IsTuple a its.toArray := p
    unfold pyNext
    refine wpAny_bind (wpAny_attempt (wpAny_callSpecial?_slot (name := Str.ofString "__next__") hT F.slot_enumerate_next
      (wpAny_call_entry F.slot_enumerate_next hT F.entry_enumerate_next ?_ (F.args_enumerate_next_1 _))))
    show wpAny _ _ (field (.ref e) 2 >>= _) _ _ _
    refine wpAny_bind (wpAny_field he rfl (x := .ref it) rfl ?_)
    refine wpAny_bind (wpAny_nextOf_tuple_end (by simpa using I.ok.hd hc) hit pt (by simp; omega) fun h' x he' hx' => ?_)
    obtain ⟨o, ho, hcc⟩ := hx'
    refine wpAny_bind (wpAny_isInstance (T := "StopIteration") (b := true) ⟨o, ho, hcc⟩ isSubtype_stop ?_)
    exact wpAny_pure ⟨rfl, I.turned (t' := s.toks) (fun b o hb q => he' b o hb q) f0 f1 f3 f4 f5⟩
  self := fun A i s Q E st h => let ⟨⟨_, he⟩, _⟩ := st; wpAny_pyIter_enum he h
/-- enumerate(e), e a list or a tuple -/
def iEnumA (K : PySem.W.Frag) (ta : TA) : TI := fun σ H R => ta σ H fun vs H1 => ∃ a xs, vs = [.ref a] ∧ ((SqL K H1 a xs ∧ R (Ite K a) H1) ∨ (SqT K H1 a xs ∧ R (IteT K a) H1))
theorem pi_enumA {e : Expr} {ta : TA} {p pos tpos : Pos} {elts : List Expr} {kk : Nat} (hg : Gl X "enumerate") (hm : X.mg "enumerate" = none) (ha : PA X [e] ta) (hs : starEach [e] X.env = [(false, eval e X.env)]) :
    PI X (.Tuple elts kk tpos) (.Call (.Name "enumerate" p) [e] [] pos) (iEnumA X.K ta) := by
  refine ⟨fun pins s σ H R I h => ?_⟩
  refine Call_ (ld_blt I hg hm boot_enumerate (PyProof.Rows.callWith_type1 (thn (ha.run pos pins s σ H _ I h) fun us s1 ⟨vs, H1, I1, r1, q1⟩ => ?_) hs rfl))
  obtain ⟨a, xs, ex, q⟩ := q1
  subst ex
  cases r1 with
  | cons r rr =>
    cases rr
    cases r
    have fin : ∀ b, b ∈ [s1.heap.objs.size + 1, s1.heap.objs.size] → FpOk X pins H1 b := fun b hb => by
      have e' : b = s1.heap.objs.size + 1 ∨ b = s1.heap.objs.size := by simpa using hb
      have hle : s1.heap.objs.size ≤ b := by
        rcases e' with z | z
        · rw [z]; exact Nat.le_add_right _ _
        · rw [z]; exact Nat.le_refl _
      exact I1.fpOk hle (I1.hok.fresh hle)
    rcases q with ⟨hq, q⟩ | ⟨hq, q⟩
    · obtain ⟨its, rv, p', hz⟩ := I1.list hq
      refine call_enumerate_list p'.isList fun h' he hit hsz hk => wpAny_pyIter_enum he ?_
      have I2 : L2.Inv X pins σ H1 { s1 with heap := h' } := I1.kept (t' := s1.toks) hk
      exact ⟨s1.heap.objs.size + 1, [s1.heap.objs.size + 1, s1.heap.objs.size], _, _, H1, rfl, I2, turn_enum a (s1.heap.objs.size + 1) s1.heap.objs.size, ⟨⟨.none, he⟩, hit, Nat.succ_ne_self _⟩, fin, q⟩
    · obtain ⟨its, rv, p', hz⟩ := I1.tuple hq
      have pt : s1.heap.IsTuple a its.toArray := p'
      have la : a < s1.heap.objs.size := by
        obtain ⟨o, ho, _⟩ := pt
        exact Heap.lt_size ho
      refine call_enum1 (begins_tuple a its.toArray) pt fun h' he hit hsz hk => wpAny_pyIter_enum he ?_
      have I2 : L2.Inv X pins σ H1 { s1 with heap := h' } := I1.kept (t' := s1.toks) hk
      exact ⟨s1.heap.objs.size + 1, [s1.heap.objs.size + 1, s1.heap.objs.size], _, _, H1, rfl, I2, turn_enumT a (s1.heap.objs.size + 1) s1.heap.objs.size (Nat.succ_ne_self _) (Nat.ne_of_lt (Nat.lt_succ_of_lt la)) (Nat.ne_of_lt la), ⟨⟨.none, he⟩, ⟨_, hit, rfl, rfl⟩⟩, fin, q⟩
end
end Bk
namespace Bk
open PySem PySem.Spec PyProof.Rows L2
section
variable {prog : Program} {w : World} {A : Around} {E : Value → Shared → Prop} {s : Shared}
theorem places_rev (n : Nat) : Builtin.Slice.slicePlaces ((n : Int) - 1) (-1) (-1) = n := by
  unfold Builtin.Slice.slicePlaces
  rw [if_neg (by decide)]
  by_cases h : ((n : Int) - 1) > -1
  · rw [if_pos h]
    have e : ((n : Int) - 1 - -1 - 1) / (- -1) + 1 = (n : Int) := by
      rw [show (- -1 : Int) = 1 by decide, Int.ediv_one]
      omega
    rw [e]
    omega
  · rw [if_neg h]
    have : n = 0 := by omega
    subst this
    rfl
theorem applied_rev {sl : Addr} {n : Nat} {t : Tok} {Q : Int × Int × Nat → Shared → Prop} (hs : s.heap.IsSliceOf sl .none .none (.int (-1) t)) (h : Q ((n : Int) - 1, -1, n) s) :
    wpAny (model prog w) A (Builtin.Slice.sliceApplied (.ref sl) (pure (n : Int))) Q E s := by
  obtain ⟨os, hos, hcs, hds⟩ := id hs
  unfold Builtin.Slice.sliceApplied Builtin.Slice.sliceFields
  refine wpAny_bind (wpAny_bind (wpAny_field hos hds (x := .none) rfl (wpAny_bind (wpAny_field hos hds (x := .none) rfl (wpAny_bind (wpAny_field hos hds (x := .int (-1) t) rfl (wpAny_pure ?_)))))))
  refine wpAny_bind (slicePart_int ?_)
  show wpAny _ _ (if ((-1 : Int) == 0) = true then _ else _) _ _ s
  rw [if_neg (by decide)]
  refine wpAny_bind (slicePart_none (wpAny_bind (slicePart_none (wpAny_bind (wpAny_pure ?_)))))
  show wpAny _ _ (pure ((n : Int) - 1, (-1 : Int), Builtin.Slice.slicePlaces ((n : Int) - 1) (-1) (-1))) _ _ s
  rw [places_rev]
  exact wpAny_pure h
theorem filt_congr {α β : Type} {f g : α → Option β} : ∀ {l : List α}, (∀ x ∈ l, f x = g x) → l.filterMap f = l.filterMap g
  | [], _ => rfl
  | x :: l, h => by
    rw [List.filterMap_cons, List.filterMap_cons, h x (List.mem_cons_self ..), filt_congr fun y hy => h y (List.mem_cons_of_mem _ hy)]
theorem pick_rev (xs : Array Value) : ((List.range xs.size).filterMap fun (k : Nat) => xs[((xs.size : Int) - 1 + (k : Int) * (-1)).toNat]?).toArray = xs.toList.reverse.toArray := by
  congr 1
  have e : (List.range xs.size).filterMap (fun (k : Nat) => xs[((xs.size : Int) - 1 + (k : Int) * (-1)).toNat]?) = ((List.range xs.size).map fun k => xs.size - 1 - k).filterMap (xs[·]?) := by
    rw [List.filterMap_map]
    refine filt_congr fun k hk => ?_
    have := List.mem_range.mp hk
    have e : ((xs.size : Int) - 1 + (k : Int) * (-1)).toNat = xs.size - 1 - k := by omega
    rw [e]
    rfl
  rw [e, PySem.W.krv_range, List.filterMap_reverse, PySem.W.krv_all]
theorem getItem_tuple_rev {t sl : Addr} {items : Array Value} {u : Tok} {Q : Value → Shared → Prop} (ht : IsTup s.heap t items) (hs : s.heap.IsSliceOf sl .none .none (.int (-1) u)) (hsz : items.size ≤ sizeLine)
    (h : Q (.ref s.heap.objs.size) { s with heap := s.heap.push { cls := .type "tuple", data := .seq items.toList.reverse.toArray } }) : wpAny (model prog w) A (getItem (.ref t) (.ref sl)) Q E s := by
  have hrev : sizeOk (.seq items.toList.reverse.toArray) := by
    show items.toList.reverse.toArray.size ≤ sizeLine
    rw [List.size_toArray, List.length_reverse, Array.length_toList]
    exact hsz
  obtain ⟨os, hos, hcs, hds⟩ := id hs
  have hTs : s.TypeIs (.ref sl) "slice" := ⟨os, hos, hcs⟩
  unfold getItem
  try with_reducible refine wpAny_holding ?_
  first | refine wpAny_bind (wpAny_pure ?_) | skip
  refine wpAny_bind (wpAny_sequenceKey ht.typeIs (by decide) ?_)
  refine wpAny_bind (wpAny_callSpecial?_slot (name := Str.ofString "__getitem__") ht.typeIs slot_tuple_getitem
    (wpAny_call_entry slot_tuple_getitem ht.typeIs entry_tuple_getitem ?_ (args_tuple_getitem _ _)))
  show wpAny _ _ (Builtin.Tuple.tupleItemsOf (.ref t) >>= _) _ _ s
  refine wpAny_bind (tupleItemsOf_ ht ?_)
  refine wpAny_bind (wpAny_typeOf hTs ?_)
  rw [if_pos (by decide)]
  refine wpAny_bind (applied_rev hs ?_)
  have hno : ¬ ((((items.size : Int) - 1) == 0 && (-1 : Int) == 1 && items.size == items.size) = true) := by simp
  show wpAny _ _ (if (((items.size : Int) - 1) == 0 && (-1 : Int) == 1 && items.size == items.size) = true then _ else _) _ _ s
  rw [if_neg hno, pick_rev items]
  first
    | exact wpAny_bind (m := Builtin.Tuple.tupleExact _) (wpAny_newObj_type (wpAny_pure ⟨_, rfl, wpAny_pure h⟩) hrev)
    | exact wpAny_bind (m := Builtin.Tuple.tupleExact _) (wpAny_newObj_type (wpAny_bind (wpAny_pure (wpAny_pure ⟨_, rfl, wpAny_pure h⟩))) hrev)
    | exact wpAny_bind (wpAny_bind (m := Builtin.Tuple.tupleExact _) (wpAny_newObj_type (wpAny_pure (wpAny_pure ⟨_, rfl, wpAny_pure h⟩)) hrev))
    | exact wpAny_bind (wpAny_bind (m := Builtin.Tuple.tupleExact _) (wpAny_newObj_type (wpAny_pure ⟨_, rfl, wpAny_pure h⟩) hrev))
end
section
variable {X : Cx} {C : Cf}
def tRevT (K : PySem.W.Frag) (te : TE) : TE := fun σ H Q => te σ H fun x H1 => ∃ a xs, x = .ref a ∧ SqT K H1 a xs ∧ ∀ p, H1 p = none → Q (.ref p) (upd H1 p (.tup xs.reverse))
theorem pe_revT {e : Expr} {te : TE} {k : Nat} {p1 p2 p3 pos : Pos} (he : PE X e te) : PE X (.Subscript e (.Slice none none (some (.UnaryOp .USub (.Constant (.int 1) k p1) p2)) p3) pos) (tRevT X.K te) := by
  refine ⟨fun pins s σ H Q I h => ?_⟩
  refine Subscript_ (thn (he.run pins s σ H _ I h) fun v s1 ⟨x, H1, I1, r1, q1⟩ => ?_)
  obtain ⟨a, xs, ex, hx, q⟩ := q1
  subst ex
  cases r1
  have hst : PO X (some (.UnaryOp .USub (.Constant (.int 1) k p1) p2)) (tPart (tUn (rU fun i => .int (-i)) (tC (.int 1)))) := po_some (pe_un un_neg pe_int)
  refine wpAny_Slice (thn (po_none.run pins s1 σ H1 (fun o H2 => o = none ∧ H2 = H1) I1 ⟨rfl, rfl⟩) fun vl s2 ⟨l, H2, I2, pl, el, e2⟩ => ?_)
  subst el e2
  refine thn (po_none.run pins s2 σ H2 (fun o H3 => o = none ∧ H3 = H2) I2 ⟨rfl, rfl⟩) fun vu s3 ⟨u, H3, I3, pu, eu, e3⟩ => ?_
  subst eu e3
  refine thn (hst.run pins s3 σ H3 (fun o H4 => o = some (-1) ∧ H4 = H3) I3 ⟨1, rfl, -1, rfl, rfl, rfl⟩) fun vs s4 ⟨o, H4, I4, ps, eo, e4⟩ => ?_
  subst eo e4
  have I5 : L2.Inv X pins σ H4 { s4 with heap := s4.heap.push { cls := .type "slice", data := .fields #[vl, vu, vs] } } := I4.kept (t' := s4.toks) fun b ob q => Heap.get?_push_of_some _ q
  obtain ⟨its, r, ht, hz⟩ := I5.tuple hx
  have hlen := r.length
  show wpAny (model X.prog X.w) X.A (subscriptTail e (.Slice none none (some (.UnaryOp .USub (.Constant (.int 1) k p1) p2)) p3) (.ref a) (.ref s4.heap.objs.size)) (EP X pins σ Q) X.xe { s4 with heap := s4.heap.push { cls := .type "slice", data := .fields #[vl, vu, vs] } }
  refine tail_any (ops := [.ref a, .ref s4.heap.objs.size]) ht.typeIs (PyProof.Rows.slot_tuple_getitem.lookup) ?_ (by with_unfolding_all rfl)
  cases pl
  cases pu
  cases ps
  refine getItem_tuple_rev ht (Heap.IsSliceOf.new _ _ _ _) (by rw [List.size_toArray]; omega) ?_
  refine ⟨.ref _, _, I5.laid (t' := s4.toks) (o := .tup xs.reverse) (fun b ob q => Heap.get?_push_of_some _ q) (Nat.le_refl _) ?_, rfl, q _ (I5.hok.fresh (Nat.le_refl _))⟩
  exact ⟨by rw [List.length_reverse]; exact hz, _, r.reverse, IsTup.new _ _⟩
/-! ### min of a list -/
theorem depthAll_le {n : Nat} : ∀ {ds : List PyData}, (∀ x ∈ ds, x.depth ≤ n) → PyData.depthAll ds ≤ n
  | [], _ => Nat.zero_le _
  | d :: ds, h => by
    have h1 := h d (List.mem_cons_self ..)
    have h2 := depthAll_le fun x hx => h x (List.mem_cons_of_mem _ hx)
    show max d.depth (PyData.depthAll ds) ≤ n
    omega
theorem cr_minL (hK : X.K = C.K) (hc : X.calm = true) (hu : X.A.units + 80 < cLine) : CallR X (.builtin "min") (fun xs H Q => ∃ τ G x ds z, xs = [x] ∧ At C τ G H ∧ Top C G H x (.list ds) ∧ allAlike ds = true ∧ sortable ds = true ∧ (ds.all fun x => decide (x.depth ≤ 64)) = true ∧ minL ds = some z ∧ ∀ v, VR C G v (.d z) → Q v H) := by
  intro pins s σ H xs us Q I r h
  obtain ⟨τ, G, x, ds, z, rfl, A, tx, h1, h2, h3, hz, q⟩ := h
  obtain ⟨a, ys, rfl, l1, l2⟩ := tx.lst A.s
  have e := Vals.ref1 r
  subst e
  have hs : sortL ds = some (isort ds) := by
    unfold sortL
    rw [if_pos ⟨h1, h2, h3⟩]
  obtain ⟨al, so, dp, _⟩ := sortL_ok hs
  obtain ⟨its, rv, pl, hzz⟩ := I.list (SqL.of (K := X.K) l1)
  have l2' : DpAll X.K H ys ds := by rw [hK]; exact (DqAll.mono A.s l2).dp
  obtain ⟨as, ra⟩ := Dp.readsAll I _ _ _ l2' rv
  cases ds with
  | nil => cases hz
  | cons d ds =>
    have hm : PySem.W.minD d ds = z := Option.some.inj hz
    have nn : ∀ x ∈ d :: ds, x ≠ .none := fun x hx e => by
      rcases so with so | so
      · obtain ⟨_, _, e2⟩ := so x hx
        rw [e] at e2
        cases e2
      · exact (so x hx).1 e
    have dd : PyData.depthAll (d :: ds) ≤ 64 := depthAll_le dp
    refine PySem.W.min_list_data (I.ok.hd hc) pl.isList (by simpa using ra) ⟨fun x hx y hy => al x hx y hy, nn⟩ (by omega) fun i v h' tk bs hv rd hk => ?_
    have hv' : its[i]? = some v := by simpa using hv
    have hi : i < its.length := (List.getElem?_eq_some_iff.mp hv').1
    have hi2 : i < ys.length := by rw [rv.length]; exact hi
    obtain ⟨u, e1, e2⟩ := rv.get (show ys[i]? = some ys[i] by simp [hi2])
    rw [hv'] at e1
    cases e1
    have hi3 : i < (d :: ds).length := by rw [← l2.length]; exact hi2
    have dq : Dq C.K G ys[i] (d :: ds)[i] := l2.get (show ys[i]? = some ys[i] by simp [hi2]) (List.getElem?_eq_getElem hi3)
    obtain ⟨as2, r2⟩ := Dp.reads I _ _ v (by rw [hK]; exact (Dq.mono A.s dq).dp) e2
    have e3 : (d :: ds)[i] = PySem.W.minD d ds := (PyProof.Rows.reads_det (fun b o e _ => hk b o e) r2 rd).1.symm
    refine ⟨ys[i], H, I.kept hk, e2, q _ (.inl ?_)⟩
    rw [← hm, ← e3]
    exact dq
end
end Bk
namespace Bk
open PySem PySem.Spec PyProof.Rows L2
structure Stat where
  N : List Str
  sc : Scope
  top : Bool
  fns : List (Str × Nat × Nat)
  gls : List (Str × Nat)
  exc : List (Str × Nat)
def blts : List Str := ["len", "list", "tuple", "sorted", "all", "isinstance", "int", "bool", "str", "range", "enumerate", "zip", "min", "set", "dict"]
def visB (sc : Scope) (x : Str) : Bool := match sc.names.lookup x with
  | some .local => true
  | some .cell => true
  | some .free => true
  | _ => false
theorem vis_of {sc : Scope} {x : Str} (h : visB sc x = true) : Vis sc x := by
  unfold visB at h
  unfold Vis
  split at h
  · exact .inl (by assumption)
  · exact .inr (.inl (by assumption))
  · exact .inr (.inr (by assumption))
  · cases h
def plainN (x : Str) : Bool := !(x == ("__debug__" : Str)) && !(x == ("__classdict__" : Str)) && !(x == ("__name__" : Str))
def globB (sc : Scope) (x : Str) : Bool := plainN x && decide (sc.names.lookup x = some .globalImplicit)
def starB : Expr → Bool
  | .Starred _ _ => true
  | _ => false
def sliceB : Expr → Bool
  | .Slice _ _ _ _ => true
  | _ => false
def setB : Expr → Bool
  | .Set _ _ _ => true
  | _ => false
def opB : Operator → BOp → Bool
  | .Add, .add => true
  | .Sub, .sub => true
  | .Mult, .mul => true
  | .Mod, .mod => true
  | .FloorDiv, .fdiv => true
  | _, _ => false
def cmB : CmpOp → COp → Bool
  | .Eq, .eq => true
  | .NotEq, .ne => true
  | .Lt, .lt => true
  | .LtE, .le => true
  | .Gt, .gt => true
  | .GtE, .ge => true
  | .Is, .isN => true
  | .IsNot, .notN => true
  | .In, .mem => true
  | .NotIn, .nmem => true
  | _, _ => false
mutual
def chkT (Γ : Stat) : Tg → Expr → Bool
  | .nm i, .Name x _ => decide (Γ.N[i]? = some x) && plainN x && (decide (Γ.sc.names.lookup x = some .local) || (Γ.top && decide (Γ.sc.names.lookup x = some .cell)))
  | .tp ts, .Tuple es _ _ => chkTs Γ ts es
  | _, _ => false
def chkTs (Γ : Stat) : List Tg → List Expr → Bool
  | [], [] => true
  | t :: ts, e :: es => chkT Γ t e && chkTs Γ ts es
  | _, _ => false
end
mutual
/-- the names of a target with their slots -/
def ownT : Tg → Expr → List (Str × Nat)
  | .nm i, .Name x _ => [(x, i)]
  | .tp ts, .Tuple es _ _ => ownTs ts es
  | _, _ => []
def ownTs : List Tg → List Expr → List (Str × Nat)
  | t :: ts, e :: es => ownT t e ++ ownTs ts es
  | _, _ => []
end
def Stat.blk (Γ : Stat) (scope : Scope) : Stat := { Γ with sc := relS scope Γ.sc, top := false }
def locT (scope : Scope) (own : List (Str × Nat)) : Bool := own.all fun p => decide (scope.names.lookup p.1 = some .local)
def bltN : B1 → Option (Str × Option Str)
  | .len => some ("len", none)
  | .tuple => some ("tuple", none)
  | .list => some ("list", none)
  | .sorted => some ("sorted", none)
  | .all => some ("all", none)
  | .min => some ("min", none)
  | .str => some ("str", none)
  | .int => some ("int", none)
  | .lenSet => some ("len", some "set")
  | .sortedSet => some ("sorted", some "set")
  | .listRange => some ("list", some "range")
  | .tupleRange => some ("tuple", some "range")
  | .listEnum => some ("list", some "enumerate")
/-- those that are served -/
def b1ok : B1 → Bool
  | .len => true
  | .tuple => true
  | .list => true
  | .sorted => true
  | .all => true
  | .min => true
  | _ => false
def b2ok : B1 → Bool
  | .lenSet => true
  | .sortedSet => true
  | .listRange => true
  | .tupleRange => true
  | .listEnum => true
  | _ => false
def tyS : Ty → Str
  | .int => "int"
  | .bool => "bool"
  | .str => "str"
  | .tuple => "tuple"
section
variable (f : Stat → IE → Expr → Bool)
def chkEs (Γ : Stat) : List IE → List Expr → Bool
  | [], [] => true
  | ie :: ies, e :: es => f Γ ie e && !starB e && chkEs Γ ies es
  | _, _ => false
/-- an end of a slice -/
def chkO (Γ : Stat) (ie : IE) : Option Expr → Bool
  | none => noneI ie
  | some e => f Γ ie e && !noneI ie
/-- b(y), b a built-in -/
def chkR (Γ : Stat) (b : Str) (a : IE) : Expr → Bool
  | .Call (.Name x _) [y] [] _ => globB Γ.sc x && decide (x = b) && !starB y && f Γ a y
  | _ => false
def trueI : IE → Bool
  | .con (.bool true) => true
  | _ => false
/-- the tests of a comprehension -/
def chkF (Γ : Stat) (c : IE) : List Expr → Bool
  | [] => trueI c
  | [z] => f Γ c z
  | _ => false
def tupB : Expr → Bool
  | .Tuple _ _ _ => true
  | _ => false
/-- b(y, z), b a built-in -/
def chkR2 (Γ : Stat) (b : Str) (a c : IE) : Expr → Bool
  | .Call (.Name x _) [y, z] [] _ => globB Γ.sc x && decide (x = b) && !starB y && f Γ a y && !starB z && f Γ c z
  | _ => false
/-- what is walked -/
def chkI (Γ : Stat) : It → Expr → Expr → Bool
  | .seq a, tg, e => f Γ a e && !setB e
  | .rng a, tg, e => chkR f Γ "range" a e
  | .enu a, tg, e => tupB tg && chkR f Γ "enumerate" a e
  | .zip a b, tg, e => tupB tg && chkR2 f Γ "zip" a b e
/-- e, a text's expression, says what ie says -/
def chkStep (Γ : Stat) (ie : IE) (e : Expr) : Bool := (match ie with
    | .con x => (match e, x with
      | .Constant (.int i) _ _, .int j => decide (i = j)
      | .Constant (.bool b) _ _, .bool c => b == c
      | .Constant .none _ _, .none => true
      | .Constant (.str y) _ _, .str z => decide (y = z)
      | _, _ => false)
    | .glo g => (match e with
      | .Name x _ => globB Γ.sc x && Γ.gls.contains (x, g)
      | _ => false)
    | .fnv fi => (match e with
      | .Name x _ => globB Γ.sc x && Γ.fns.any fun q => decide (q.1 = x ∧ q.2.1 = fi)
      | _ => false)
    | .var i => (match e with
      | .Name x _ => decide (Γ.N[i]? = some x) && visB Γ.sc x && plainN x
      | _ => false)
    | .neg a => (match e with
      | .UnaryOp .USub x _ => f Γ a x
      | _ => false)
    | .bin op a b => (match e with
      | .BinOp x o y _ => opB o op && f Γ a x && f Γ b y
      | _ => false)
    | .cmp op a b => (match e with
      | .Compare x [o] [y] _ => cmB o op && !setB y && f Γ a x && f Γ b y
      | _ => false)
    | .chn p q a b c => (match e with
      | .Compare x [o, u] [y, z] _ => cmB o p && cmB u q && !setB z && f Γ a x && f Γ b y && f Γ c z
      | _ => false)
    | .and a b => (match e with
      | .BoolOp .And [x, y] _ => f Γ a x && f Γ b y
      | .BoolOp .And (x :: y :: z :: r) pos => f Γ a x && f Γ b (.BoolOp .And (y :: z :: r) pos)
      | _ => false)
    | .or a b => (match e with
      | .BoolOp .Or [x, y] _ => f Γ a x && f Γ b y
      | .BoolOp .Or (x :: y :: z :: r) pos => f Γ a x && f Γ b (.BoolOp .Or (y :: z :: r) pos)
      | _ => false)
    | .not a => (match e with
      | .UnaryOp .Not x _ => f Γ a x
      | _ => false)
    | .ite c a b => (match e with
      | .IfExp x y z _ => f Γ c x && f Γ a y && f Γ b z
      | _ => false)
    | .tup es => (match e with
      | .Tuple xs _ _ => decide (xs.length ≤ 1000) && chkEs f Γ es xs
      | _ => false)
    | .lst es => (match e with
      | .List xs _ => decide (xs.length ≤ 1000) && chkEs f Γ es xs
      | _ => false)
    | .sub a i => (match e with
      | .Subscript x y _ => !sliceB y && f Γ a x && f Γ i y
      | _ => false)
    | .slc a lo hi => (match e with
      | .Subscript x (.Slice l h none _) _ => f Γ a x && chkO f Γ lo l && chkO f Γ hi h
      | _ => false)
    | .call fi es => (match e with
      | .Call (.Name x _) xs [] _ => globB Γ.sc x && Γ.fns.contains (x, fi, es.length) && chkEs f Γ es xs
      | _ => false)
    | .b1 b a => (match e with
      | .Call (.Name x _) [y] [] _ => globB Γ.sc x && (match bltN b with
        | some (b1, none) => b1ok b && decide (x = b1) && !starB y && f Γ a y
        | some (b1, some b2) => b2ok b && decide (x = b1) && chkR f Γ b2 a y
        | _ => false)
      | _ => false)
    | .isi T a => (match e with
      | .Call (.Name x _) [y, .Name t _] [] _ => globB Γ.sc x && decide (x = "isinstance") && globB Γ.sc t && decide (t = tyS T) && !starB y && f Γ a y
      | _ => false)
    | .lc el t it c => (match e with
      | .ListComp x [⟨tg, iter, ifs, 0⟩] scope _ => chkI f Γ it tg iter && chkT (Γ.blk scope) t tg && blkC Γ.N Γ.sc scope (ownT t tg) && locT scope (ownT t tg) && decide ((ownT t tg).map (·.2) = slotsT t) && chkF f (Γ.blk scope) c ifs && f (Γ.blk scope) el x
      | _ => false)
    | .rev a => (match e with
      | .Subscript x (.Slice none none (some (.UnaryOp .USub (.Constant (.int 1) _ _) _)) _) _ => f Γ a x
      | _ => false)
    | .min2 a b => chkR2 f Γ "min" a b e
    | .get a k d => (match e with
      | .Call (.Attribute (.Name x q) m ap) [y, z] [] cp => decide (m = "get") && f Γ a (.Name x q) && !starB y && f Γ k y && !starB z && f Γ d z && (ap.endLine == cp.line)
      | _ => false)
    | .dsub i k => (match e with
      | .Subscript (.Name x _) y _ => !sliceB y && decide (Γ.N[i]? = some x) && visB Γ.sc x && plainN x && f Γ k y
      | _ => false)
    | .dis es => (match e, es with
      | .Dict [] [] _, [] => true
      | .Dict [some x] [y] _, [k, v] => f Γ k x && f Γ v y
      | _, _ => false)
    | _ => false)
end
def chkE : Nat → Stat → IE → Expr → Bool
  | 0, _, _, _ => false
  | n + 1, Γ, ie, e => chkStep (chkE n) Γ ie e
end Bk
namespace Bk
open PySem PySem.Spec PyProof.Rows L2
/-- what the def ix promises -/
def spI (C : Cf) (φ : Nat → List Val → M Val) (ix np : Nat) : Sp := fun vs H Q E => vs.length = np ∧ ∃ vals τ G, At C τ G H ∧ Paired (VR C G) vs vals ∧
  Rdg (φ ix vals τ) (fun val τ' => ∀ v G' H', Grow C G H G' H' → TownOk C τ' H' → VR C G' v val → Q v H') (fun c τ' => ∀ G' H', Grow C G H G' H' → TownOk C τ' H' → E (.ref (C.cad c)) none H')
def Ek (p : Pm) : XK := fun cls d H => ∃ c, cls = .ref (p.C.cad c) ∧ d = none ∧ p.Ex c H
structure Ctx (Γ : Stat) (p : Pm) (X : Cx) : Prop where
  N : X.N = Γ.N
  sc : X.env.scope = Γ.sc
  nd : Γ.N.Nodup
  calm : X.calm = true
  K : X.K = p.C.K
  w : X.w = p.C.w
  free : ∀ x ∈ blts, X.mg x = none
  fn : ∀ f ix np, (f, ix, np) ∈ Γ.fns → X.mg f = some (.ref (p.C.fad ix)) ∧ PySem.W.keepIn X.K (.ref (p.C.fad ix)) = true ∧ ∃ k fd ps, Room k X.A ∧ FnOk X.prog X.w X.K X.mg X.base (L2.CX X.prog X.w) k (p.C.fad ix) fd ps (spI p.C p.φ ix np) ∧ Binds X.K fd ps []
  gl : ∀ x g, (x, g) ∈ Γ.gls → ∃ a d, X.mg x = some (.ref a) ∧ p.gl g = some d ∧ isDict d = false ∧ isL d = false ∧ ∀ G, Dq X.K G (.ref a) d
  ex : ∀ x k, (x, k) ∈ Γ.exc → X.mg x = some (.ref (p.C.cad k)) ∧ PySem.W.excIn X.K (p.C.cad k) He.veBase "ValueError.__new__" = true ∧ PySem.W.keepIn X.K (.ref (p.C.cad k)) = true ∧
    PySem.W.subIn X.K (.ref (p.C.cad k)) (.type "BaseException") = some true ∧ PySem.W.typeIn X.K (.ref (p.C.cad k)) = some (.type "type")
  hu : X.A.units + 100 < cLine
  tk : Takes X (fun cls d _ H => Ek p cls d H)
  tp : Γ.top = true → ∀ x, X.fn x = true
section
variable {Γ : Stat} {p : Pm} {X : Cx}
theorem plain_of {x : Str} (h : plainN x = true) : (x == ("__debug__" : Str)) = false ∧ (x == ("__classdict__" : Str)) = false ∧ x ≠ "__name__" := by
  unfold plainN at h
  simp only [Bool.and_eq_true, Bool.not_eq_true'] at h
  exact ⟨h.1.1, h.1.2, fun e => by have := h.2; rw [e] at this; simp at this⟩
theorem glob_of (c : Ctx Γ p X) {x : Str} (h : globB Γ.sc x = true) : Gl X x ∧ (x == ("__debug__" : Str)) = false ∧ x ≠ "__name__" := by
  unfold globB at h
  rw [Bool.and_eq_true] at h
  obtain ⟨h1, _, h3⟩ := plain_of h.1
  refine ⟨?_, h1, h3⟩
  show X.env.scope.names.lookup x = _
  rw [c.sc]
  exact of_decide_eq_true h.2
theorem star_cons {e : Expr} {es : List Expr} {env : Env} (h : starB e = false) : starEach (e :: es) env = (false, eval e env) :: starEach es env := by
  cases e with
  | Starred _ _ => cases h
  | _ => rfl
theorem ands {a b : Bool} (h : (a && b) = true) : a = true ∧ b = true := Bool.and_eq_true_iff.mp h
theorem nots {a : Bool} (h : (!a) = true) : a = false := by simpa using h
variable {pos : Pos}
theorem con_here {x : PyData} {σ : L2.St} {H : Hp} {Q : VK} {v : V} (h : tE p (.con x) σ H Q) (r : ∀ G, Dq p.C.K G v x) : Q v H := by
  obtain ⟨ρ, τ, G, S, h⟩ := h
  exact h G H (Grow.refl S.sub) S.tw v (show VR p.C G v (.d x) from .inl (r G))
theorem se_int {i : Int} {j : Nat} : PE X (.Constant (.int i) j pos) (tE p (.con (.int i))) := PE.weak pe_int fun σ H Q h => con_here h fun _ => .int i
theorem se_bl {b : Bool} {j : Nat} : PE X (.Constant (.bool b) j pos) (tE p (.con (.bool b))) := PE.weak pe_bl fun σ H Q h => con_here h fun _ => .bl b
theorem se_non {j : Nat} : PE X (.Constant .none j pos) (tE p (.con .none)) := PE.weak pe_non fun σ H Q h => con_here h fun _ => .non
theorem se_str {x : Str} {j : Nat} : PE X (.Constant (.str x) j pos) (tE p (.con (.str x))) := PE.weak pe_str fun σ H Q h => con_here h fun _ => .str x
theorem se_var (c : Ctx Γ p X) {i : Nat} {x : Str} (h1 : Γ.N[i]? = some x) (h2 : visB Γ.sc x = true) (h3 : plainN x = true) : PE X (.Name x pos) (tE p (.var i)) := by
  obtain ⟨d1, d2, _⟩ := plain_of h3
  refine PE.weak (pe_var (i := i) (by rw [c.N]; exact h1) (by rw [c.sc]; exact vis_of h2) d1 d2) fun σ H Q h => ?_
  obtain ⟨ρ, τ, G, S, h⟩ := h
  have h : Rdg ((match slotAt ρ i with
    | .val v => pure v
    | .own x => if isTup x = true then M.fail else pure (.d x)
    | .emp => M.fail : M Val) τ) (fun val τ' => ∀ G' H', Grow p.C G H G' H' → TownOk p.C τ' H' → ∀ v, Post p.C (.var i) ρ σ H G' H' v val → Q v H') (Xc p) := h
  cases e : slotAt ρ i with
  | emp => rw [e] at h; exact h.elim
  | val v =>
    rw [e] at h
    obtain ⟨u, e1, r⟩ := S.sl i v e
    exact ⟨u, e1, h G H (Grow.refl S.sub) S.tw u (show σ[i]? = some (some u) ∧ _ from ⟨e1, .inl ⟨e, r⟩⟩)⟩
  | own y =>
    rw [e] at h
    obtain ⟨a, e1, g1, g2, n1, n2, o⟩ := S.ow i y e
    have h : Rdg ((if isTup y = true then M.fail else pure (.d y) : M Val) τ) _ _ := h
    obtain ⟨nt, h⟩ := Rdg.strict h
    exact ⟨.ref a, e1, h G H (Grow.refl S.sub) S.tw (.ref a) (show σ[i]? = some (some (.ref a)) ∧ _ from ⟨e1, .inr ⟨y, e, rfl, a, rfl, n1, n2, nt, o⟩⟩)⟩
theorem se_glo (c : Ctx Γ p X) {g : Nat} {x : Str} (h1 : globB Γ.sc x = true) (h2 : (x, g) ∈ Γ.gls) : PE X (.Name x pos) (tE p (.glo g)) := by
  obtain ⟨g1, g2, _⟩ := glob_of c h1
  obtain ⟨a, d, m, e, _, _, r⟩ := c.gl x g h2
  refine PE.weak (pe_glob (v := .ref a) g1 m rfl g2) fun σ H Q h => ?_
  obtain ⟨ρ, τ, G, S, h⟩ := h
  have h := Rdg.bind.mp h
  rw [e] at h
  exact h G H (Grow.refl S.sub) S.tw _ (show VR p.C G (.ref a) (.d d) from .inl (by rw [← c.K]; exact r G))
theorem se_fnv (c : Ctx Γ p X) {f np : Nat} {x : Str} (h1 : globB Γ.sc x = true) (h2 : (x, f, np) ∈ Γ.fns) : PE X (.Name x pos) (tE p (.fnv f)) := by
  obtain ⟨g1, g2, _⟩ := glob_of c h1
  refine PE.weak (pe_glob (v := .ref (p.C.fad f)) g1 (c.fn x f np h2).1 rfl g2) fun σ H Q h => ?_
  obtain ⟨ρ, τ, G, S, h⟩ := h
  exact h G H (Grow.refl S.sub) S.tw _ (show VR p.C G (.ref (p.C.fad f)) (.fn f) from rfl)
/-- an operand that is read -/
theorem stepR {σ : L2.St} {ρ : Ev} {τ : Town} {G H : Hp} {e : IE} {Q : VK} {ok : PyData → Town → Prop} (S : SRp p ρ τ G H σ) (h : Rdg ((ev p.gl p.φ e ρ >>= asD) τ) ok (Xc p))
    (k : ∀ x τ1, ok x τ1 → ∀ v G1 H1, Grow p.C G H G1 H1 → SRp p ρ τ1 G1 H1 σ → Top p.C G1 H1 v x → Q v H1) : tE p e σ H Q := by
  refine stepE S (Rdg.bind.mp h) fun val τ1 o v G1 H1 g S1 po => ?_
  obtain ⟨x, rfl, o⟩ := Rdg.asD o
  exact k x τ1 o v G1 H1 g S1 po.top
theorem vr_post {e : IE} {ρ : Ev} {σ : L2.St} {H G' H' : Hp} {v : V} {val : Val} (hf : fresh e = false) (hv : ∀ i, e ≠ .var i) (r : VR p.C G' v val) : Post p.C e ρ σ H G' H' v val := by
  unfold Post
  rw [hf, if_neg Bool.false_ne_true]
  cases e with
  | var i => exact absurd rfl (hv i)
  | _ => exact r
theorem se_neg {a : IE} {x : Expr} (ha : PE X x (tE p a)) : PE X (.UnaryOp .USub x pos) (tE p (.neg a)) := by
  refine PE.weak (pe_un un_neg ha) fun σ H Q h => ?_
  obtain ⟨ρ, τ, G, S, h⟩ := h
  refine stepR S (Rdg.bind.mp h) fun x τ1 o v G1 H1 g S1 t => ?_
  cases x with
  | int i =>
    cases t.int
    exact ⟨i, rfl, o G1 H1 g S1.tw _ (vr_post rfl (fun _ z => nomatch z) (.inl (.int _)))⟩
  | _ => exact o.elim
/-- behind an operation: what is wanted of its result -/
theorem opK_post {ρ : Ev} {σ : L2.St} {τ : Town} {G H G1 H1 : Hp} {e : IE} {z : PyData} {Q : VK} (g : Grow p.C G H G1 H1)
    (o : ∀ G' H', Grow p.C G H G' H' → TownOk p.C τ H' → ∀ v, Post p.C e ρ σ H G' H' v (.d z) → Q v H') (hv : ∀ i, e ≠ .var i) (hf : fresh e = true → isL z = true) : OpK p.C τ G1 H1 z Q := by
  intro v G' H' g' t' r
  unfold RsD at r
  have gg := g.trans g'
  by_cases hl : isL z = true
  · rw [if_pos hl] at r
    obtain ⟨a, x, rfl, e2, h1, h2, n1, n2, nt, ow⟩ := r
    cases e2
    have h0 : H a = none := by
      cases q : H a with
      | none => rfl
      | some u => exact absurd h1 (g.t a (by rw [q]; simp))
    by_cases hfe : fresh e = true
    · exact o G' H' gg t' _ (by unfold Post; rw [if_pos hfe]; exact ⟨a, z, rfl, rfl, h0, h2, n1, n2, nt, ow⟩)
    · obtain ⟨G2, m1, m2, m3, m4⟩ := freeze g'.s nt ow h2
      have g2 : Grow p.C G H G2 H' := ⟨fun b u q => m1 b u (gg.g b u q), m2, gg.k, gg.t, fun b hb => by rw [m3 b (fun q => hb (by rw [q]; exact h0)), gg.o b hb]⟩
      exact o G2 H' g2 t' _ (vr_post (by simpa using hfe) hv m4)
  · rw [if_neg hl] at r
    exact o G' H' gg t' _ (vr_post (by
      cases q : fresh e with
      | false => rfl
      | true => exact absurd (hf q) hl) hv r)
theorem rdg_isList {gl : Nat → Option PyData} {φ : Nat → List Val → M Val} {b : IE} {ρ : Ev} {τ : Town} {ok : PyData → Town → Prop} {ex : Nat → Town → Prop} (h : Rdg ((ev gl φ b ρ >>= asD) τ) ok ex) :
    Rdg ((ev gl φ b ρ >>= asD) τ) (fun dy t => ok dy t ∧ ((∃ es, b = .lst es) → isL dy = true)) ex := by
  by_cases hb : ∃ es, b = .lst es
  · obtain ⟨es, rfl⟩ := hb
    have h := Rdg.bind.mp (Rdg.bind.mp h)
    refine Rdg.bind.mpr (Rdg.bind.mpr (Rdg.mono h (fun xs t o => ?_) fun _ _ z => z))
    exact ⟨o, fun _ => rfl⟩
  · exact Rdg.mono h (fun dy t o => ⟨o, fun q => absurd q hb⟩) fun _ _ z => z
theorem se_bin (c : Ctx Γ p X) {op : BOp} {o : Operator} {a b : IE} {x y : Expr} (ho : opB o op = true) (ha : PE X x (tE p a)) (hb : PE X y (tE p b)) : PE X (.BinOp x o y pos) (tE p (.bin op a b)) := by
  have e1 : o = opOf op := by cases o <;> cases op <;> first | rfl | cases ho
  subst e1
  refine PE.weak (pe_op (op_binD c.K op) ha hb) fun σ H Q h => ?_
  obtain ⟨ρ, τ, G, S, h⟩ := h
  refine stepR S (Rdg.bind.mp h) fun dx τ1 h v G1 H1 g1 S1 t1 => ?_
  refine stepR S1 (rdg_isList (Rdg.bind.mp h)) fun dy τ2 h u G2 H2 g2 S2 t2 => ?_
  obtain ⟨h, hl⟩ := h
  obtain ⟨z, hz, h⟩ := Rdg.opt (Rdg.bind.mp h)
  refine ⟨τ2, G2, dx, dy, z, S2.at, t1.grow g2, t2, hz, opK_post (g1.trans g2) h (fun _ q => nomatch q) fun q => ?_⟩
  unfold fresh at q
  split at q
  · rename_i e; cases e
  · rename_i e; cases e
  · rename_i e; cases e
  · rename_i e; cases e
  · rename_i e; cases e
  · rename_i e; cases e
  · rename_i a' es e
    cases e
    have hd := hl ⟨es, rfl⟩
    cases dy with
    | list ds =>
      cases dx with
      | list ds' =>
        obtain ⟨_, rfl⟩ := iteS (show (if ds'.length + ds.length ≤ sizeLine then some (PyData.list (ds' ++ ds)) else none) = some z from hz)
        rfl
      | _ => cases hz
    | _ => cases hd
  · rename_i e; cases e
  · cases q
theorem cm_of {o : CmpOp} {op : COp} (h : cmB o op = true) : o = cmOf op := by cases o <;> cases op <;> first | rfl | cases h
theorem noset {y : Expr} {o : CmpOp} (h : setB y = false) : behindInMarks o y = false := by
  cases y with
  | Set _ _ _ => cases h
  | _ => rfl
theorem cmpD_of {op : COp} {x y : PyData} {b : Bool} (h : cmpD op x y = some b) : isDict x = false ∧ cmpU op x y = some b := by
  unfold cmpD at h
  cases q : isDict x with
  | true => rw [q, if_pos rfl] at h; cases h
  | false => rw [q, if_neg Bool.false_ne_true] at h; exact ⟨rfl, h⟩
/-- the rules of the comparisons -/
def CmpOk (p : Pm) (X : Cx) (op : COp) : Prop := OpR X (compareOp (cmOf op)) (rCm p.C op)
theorem bl_post {e : IE} {ρ : Ev} {σ : L2.St} {H G' H' : Hp} {b : Bool} (hf : fresh e = false) (hv : ∀ i, e ≠ .var i) : Post p.C e ρ σ H G' H' (.bl b) (.d (.bool b)) := vr_post hf hv (.inl (.bl b))
theorem cmp_read {op : COp} {a b : IE} {σ : L2.St} {H : Hp} {Q : VK} {ρ : Ev} {τ : Town} {G : Hp} {ok : Val → Town → Prop} (S : SRp p ρ τ G H σ) (h : Rdg (ev p.gl p.φ (.cmp op a b) ρ τ) ok (Xc p))
    (k : ∀ z τ', ok (.d (.bool z)) τ' → ∀ G' H', Grow p.C G H G' H' → TownOk p.C τ' H' → Q (.bl z) H') : tOp (rCm p.C op) (tE p a) (tE p b) σ H Q := by
  refine stepR S (Rdg.bind.mp h) fun dx τ1 h v G1 H1 g1 S1 t1 => ?_
  refine stepR S1 (Rdg.bind.mp h) fun dy τ2 h u G2 H2 g2 S2 t2 => ?_
  obtain ⟨z, hz, h⟩ := Rdg.opt (Rdg.bind.mp h)
  obtain ⟨nd, hz⟩ := cmpD_of hz
  exact ⟨τ2, G2, dx, dy, z, S2.at, t1.grow g2, t2, nd, hz, k z τ2 h G2 H2 (g1.trans g2) S2.tw⟩
theorem se_cmp {op : COp} {o : CmpOp} {a b : IE} {x y : Expr} (hr : CmpOk p X op) (ho : cmB o op = true) (hs : setB y = false) (ha : PE X x (tE p a)) (hb : PE X y (tE p b)) :
    PE X (.Compare x [o] [y] pos) (tE p (.cmp op a b)) ∧ PT X (.Compare x [o] [y] pos) (tT p (.cmp op a b)) := by
  have e1 := cm_of ho
  subst e1
  refine ⟨PE.weak (pe_cmpR hr ha hb (noset hs)) fun σ H Q h => ?_, PT.weak (pt_cmpR hr ha hb (noset hs)) fun σ H Q h => ?_⟩
  · obtain ⟨ρ, τ, G, S, h⟩ := h
    exact cmp_read S h fun z τ' o G' H' g t => o G' H' g t _ (bl_post rfl (fun _ q => nomatch q))
  · obtain ⟨ρ, τ, G, S, h⟩ := h
    exact cmp_read S (Rdg.bind.mp h) fun z τ' o G' H' g t => ⟨z, rfl, o G' H' g t⟩
theorem chn_read {q r : COp} {a b c : IE} {σ : L2.St} {H : Hp} {Q : VK} {ρ : Ev} {τ : Town} {G : Hp} {ok : Val → Town → Prop} (S : SRp p ρ τ G H σ) (h : Rdg (ev p.gl p.φ (.chn q r a b c) ρ τ) ok (Xc p))
    (k : ∀ z τ', ok (.d (.bool z)) τ' → ∀ G' H', Grow p.C G H G' H' → TownOk p.C τ' H' → Q (.bl z) H') : tChain (rCm p.C q) (rCm p.C r) (tE p a) (tE p b) (tE p c) σ H Q := by
  refine stepR S (Rdg.bind.mp h) fun dx τ1 h v G1 H1 g1 S1 t1 => ?_
  refine stepR S1 (Rdg.bind.mp h) fun dy τ2 h u G2 H2 g2 S2 t2 => ?_
  obtain ⟨z, hz, h⟩ := Rdg.opt (Rdg.bind.mp h)
  obtain ⟨nd, hz⟩ := cmpD_of hz
  refine ⟨τ2, G2, dx, dy, z, S2.at, t1.grow g2, t2, nd, hz, z, rfl, ?_⟩
  cases z with
  | false => exact iteF (k false τ2 h G2 H2 (g1.trans g2) S2.tw)
  | true =>
    refine iteT (stepR S2 (Rdg.bind.mp h) fun dz τ3 h u3 G3 H3 g3 S3 t3 => ?_)
    obtain ⟨z, hz, h⟩ := Rdg.opt (Rdg.bind.mp h)
    obtain ⟨nd, hz⟩ := cmpD_of hz
    exact ⟨τ3, G3, dy, dz, z, S3.at, t2.grow g3, t3, nd, hz, k z τ3 h G3 H3 ((g1.trans g2).trans g3) S3.tw⟩
theorem lastM {o u : CmpOp} {y z : Expr} (h : setB z = false) : lastMarks [o, u] [y, z] = false := by
  show behindInMarks u z = false
  exact noset h
theorem se_chn {q r : COp} {o u : CmpOp} {a b c : IE} {x y z : Expr} (hr : CmpOk p X q) (hr2 : CmpOk p X r) (ho : cmB o q = true) (ho2 : cmB u r = true) (hs : setB z = false) (ha : PE X x (tE p a)) (hb : PE X y (tE p b)) (hc : PE X z (tE p c)) :
    PE X (.Compare x [o, u] [y, z] pos) (tE p (.chn q r a b c)) ∧ PT X (.Compare x [o, u] [y, z] pos) (tT p (.chn q r a b c)) := by
  have e1 := cm_of ho
  have e2 := cm_of ho2
  subst e1 e2
  refine ⟨PE.weak (pe_chain hr hr2 ha hb hc (lastM hs)) fun σ H Q h => ?_, PT.weak (pt_chain hr hr2 ha hb hc (lastM hs)) fun σ H Q h => ?_⟩
  · obtain ⟨ρ, τ, G, S, h⟩ := h
    exact chn_read S h fun z τ' o G' H' g t => o G' H' g t _ (bl_post rfl (fun _ q => nomatch q))
  · obtain ⟨ρ, τ, G, S, h⟩ := h
    exact chn_read S (Rdg.bind.mp h) fun z τ' o G' H' g t => ⟨z, rfl, o G' H' g t⟩
/-! ### and, or, not -/
theorem stepB {σ : L2.St} {ρ : Ev} {τ : Town} {G H : Hp} {e : IE} {Q : VK} {ok : Bool → Town → Prop} (S : SRp p ρ τ G H σ) (h : Rdg ((ev p.gl p.φ e ρ >>= asB) τ) ok (Xc p))
    (k : ∀ b τ1, ok b τ1 → ∀ G1 H1, Grow p.C G H G1 H1 → SRp p ρ τ1 G1 H1 σ → Q (.bl b) H1) : tE p e σ H Q := by
  refine stepE S (Rdg.bind.mp h) fun val τ1 o v G1 H1 g S1 po => ?_
  obtain ⟨x, rfl, o⟩ := Rdg.asB o
  cases po.top.bool
  exact k x τ1 o G1 H1 g S1
/-- a test by its value -/
theorem pt_of {ie : IE} {e : Expr} (h : PE X e (tE p ie)) (he : ∀ whole, isTrue e X.env whole = (do let v ← whole; standAt e.pos; holding [v] (truthy v))) : PT X e (tT p ie) := by
  refine PT.weak (pt_val h he) fun σ H Q hq => ?_
  obtain ⟨ρ, τ, G, S, hq⟩ := hq
  exact stepB S hq fun b τ1 o G1 H1 g S1 => ⟨b, rfl, o G1 H1 g S1.tw⟩
theorem se_not {a : IE} {x : Expr} (ha : PE X x (tE p a)) : PE X (.UnaryOp .Not x pos) (tE p (.not a)) := by
  refine PE.weak (pe_not ha) fun σ H Q h => ?_
  obtain ⟨ρ, τ, G, S, h⟩ := h
  exact stepB S (Rdg.bind.mp h) fun b τ1 o G1 H1 g S1 => ⟨b, rfl, o G1 H1 g S1.tw _ (bl_post rfl (fun _ q => nomatch q))⟩
theorem st_not {a : IE} {x : Expr} (ha : PT X x (tT p a)) : PT X (.UnaryOp .Not x pos) (tT p (.not a)) := by
  refine PT.weak (pt_not ha) fun σ H Q h => ?_
  obtain ⟨ρ, τ, G, S, h⟩ := h
  exact stepT S (Rdg.bind.mp (Rdg.bind.mp h)) fun b τ1 o G1 H1 g S1 => o G1 H1 g S1.tw
/-- what is wanted of the second, where the first has gone by -/
theorem want_more {α : Type} {m : M α} {τ : Town} {G H G1 H1 : Hp} {ok : α → Hp → Hp → Prop} (g : Grow p.C G H G1 H1) (h : Rdg (m τ) (fun a τ' => ∀ G' H', Grow p.C G H G' H' → TownOk p.C τ' H' → ok a G' H') (Xc p)) : Wnt p m τ G1 H1 ok :=
  Rdg.mono h (fun a τ' o G' H' g' t' => o G' H' (g.trans g') t') fun _ _ z => z
theorem Rdg.ift {α : Type} {m m' : M α} {t : Town} {ok : α → Town → Prop} {ex : Nat → Town → Prop} (h : Rdg ((if true = true then m else m') t) ok ex) : Rdg (m t) ok ex := h
theorem Rdg.iff {α : Type} {m m' : M α} {t : Town} {ok : α → Town → Prop} {ex : Nat → Town → Prop} (h : Rdg ((if false = true then m else m') t) ok ex) : Rdg (m' t) ok ex := h
theorem se_and {a b : IE} {x y : Expr} {r : List Expr} (ha : PE X x (tE p a)) (hb : PE X (.BoolOp .And (y :: r) pos) (tE p b)) : PE X (.BoolOp .And (x :: y :: r) pos) (tE p (.and a b)) := by
  refine PE.weak (pe_and ha hb) fun σ H Q h => ?_
  obtain ⟨ρ, τ, G, S, h⟩ := h
  refine stepB S (Rdg.bind.mp h) fun k τ1 h G1 H1 g S1 => ⟨k, rfl, ?_⟩
  cases k with
  | false => exact iteF (Rdg.iff h G1 H1 g S1.tw _ (bl_post rfl (fun _ q => nomatch q)))
  | true => exact iteT (stepB S1 (Rdg.bind.mp (Rdg.ift h)) fun l τ2 o G2 H2 g2 S2 => o G2 H2 (g.trans g2) S2.tw _ (bl_post rfl (fun _ q => nomatch q)))
theorem se_or {a b : IE} {x y : Expr} {r : List Expr} (ha : PE X x (tE p a)) (hb : PE X (.BoolOp .Or (y :: r) pos) (tE p b)) : PE X (.BoolOp .Or (x :: y :: r) pos) (tE p (.or a b)) := by
  refine PE.weak (pe_or ha hb) fun σ H Q h => ?_
  obtain ⟨ρ, τ, G, S, h⟩ := h
  refine stepB S (Rdg.bind.mp h) fun k τ1 h G1 H1 g S1 => ⟨k, rfl, ?_⟩
  cases k with
  | true => exact iteT (Rdg.ift h G1 H1 g S1.tw _ (bl_post rfl (fun _ q => nomatch q)))
  | false => exact iteF (stepB S1 (Rdg.bind.mp (Rdg.iff h)) fun l τ2 o G2 H2 g2 S2 => o G2 H2 (g.trans g2) S2.tw _ (bl_post rfl (fun _ q => nomatch q)))
theorem sw_and {a b : IE} {x y : Expr} {r : List Expr} (ha : PT X x (tT p a)) (hb : PW X (.BoolOp .And (y :: r) pos) (tT p b)) : PW X (.BoolOp .And (x :: y :: r) pos) (tT p (.and a b)) := by
  refine PW.weak (pw_and ha hb) fun σ H Q h => ?_
  obtain ⟨ρ, τ, G, S, h⟩ := h
  refine stepT S (Rdg.bind.mp (Rdg.bind.mp h)) fun k τ1 h G1 H1 g S1 => ?_
  cases k with
  | false => exact iteF (Rdg.iff h G1 H1 g S1.tw)
  | true => exact iteT (stepT S1 (Rdg.bind.mp (Rdg.ift h)) fun l τ2 o G2 H2 g2 S2 => o G2 H2 (g.trans g2) S2.tw)
theorem sw_or {a b : IE} {x y : Expr} {r : List Expr} (ha : PT X x (tT p a)) (hb : PW X (.BoolOp .Or (y :: r) pos) (tT p b)) : PW X (.BoolOp .Or (x :: y :: r) pos) (tT p (.or a b)) := by
  refine PW.weak (pw_or ha hb) fun σ H Q h => ?_
  obtain ⟨ρ, τ, G, S, h⟩ := h
  refine stepT S (Rdg.bind.mp (Rdg.bind.mp h)) fun k τ1 h G1 H1 g S1 => ?_
  cases k with
  | true => exact iteT (Rdg.ift h G1 H1 g S1.tw)
  | false => exact iteF (stepT S1 (Rdg.bind.mp (Rdg.iff h)) fun l τ2 o G2 H2 g2 S2 => o G2 H2 (g.trans g2) S2.tw)
/-- frozen -/
theorem pe_frz {ie : IE} {e : Expr} (h : PE X e (tE p ie)) : PE X e (tF p ie) := PE.weak h fun σ H Q q => tF.toE q
theorem se_ite {c a b : IE} {x y z : Expr} (hc : PT X x (tT p c)) (ha : PE X y (tE p a)) (hb : PE X z (tE p b)) : PE X (.IfExp x y z pos) (tE p (.ite c a b)) := by
  refine PE.weak (pe_ifExp hc (pe_frz ha) (pe_frz hb)) fun σ H Q h => ?_
  obtain ⟨ρ, τ, G, S, h⟩ := h
  refine stepT S (Rdg.bind.mp h) fun k τ1 h G1 H1 g S1 => ?_
  cases k with
  | true => exact iteT (stepF S1 (Rdg.ift h) fun val τ2 o v G2 H2 g2 S2 r => o G2 H2 (g.trans g2) S2.tw v (vr_post rfl (fun _ q => nomatch q) r))
  | false => exact iteF (stepF S1 (Rdg.iff h) fun val τ2 o v G2 H2 g2 S2 r => o G2 H2 (g.trans g2) S2.tw v (vr_post rfl (fun _ q => nomatch q) r))
/-! ### lists of expressions -/
theorem pa_V {f : Stat → IE → Expr → Bool} (ih : ∀ ie e, f Γ ie e = true → PE X e (tE p ie)) : ∀ {ies : List IE} {es : List Expr}, chkEs f Γ ies es = true → PA X es (tV p ies)
  | [], [], _ => PA.weak pa_nil fun σ H Q h => by
    obtain ⟨ρ, τ, G, S, h⟩ := h
    exact h G H (Grow.refl S.sub) S.tw [] .nil
  | ie :: ies, e :: es, hc => by
    obtain ⟨hc, h3⟩ := ands (show (f Γ ie e && !starB e && chkEs f Γ ies es) = true from hc)
    obtain ⟨h1, h2⟩ := ands hc
    refine PA.weak (pa_cons (pe_frz (ih ie e h1)) (pa_V ih h3) (star_cons (nots h2))) fun σ H Q h => ?_
    obtain ⟨ρ, τ, G, S, h⟩ := h
    refine stepF S (Rdg.bind.mp h) fun val τ1 h v G1 H1 g S1 r => ?_
    refine stepV S1 (Rdg.bind.mp h) fun vals τ2 o vs G2 H2 g2 S2 rs => ?_
    exact o G2 H2 (g.trans g2) S2.tw (v :: vs) (.cons (VR.mono g2.g r) rs)
  | [], _ :: _, h => by cases h
  | _ :: _, [], h => by cases h
theorem pa_L {f : Stat → IE → Expr → Bool} (ih : ∀ ie e, f Γ ie e = true → PE X e (tE p ie)) : ∀ {ies : List IE} {es : List Expr}, chkEs f Γ ies es = true → PA X es (tL p ies)
  | [], [], _ => PA.weak pa_nil fun σ H Q h => by
    obtain ⟨ρ, τ, G, S, h⟩ := h
    exact h G H (Grow.refl S.sub) S.tw [] .nil
  | ie :: ies, e :: es, hc => by
    obtain ⟨hc, h3⟩ := ands (show (f Γ ie e && !starB e && chkEs f Γ ies es) = true from hc)
    obtain ⟨h1, h2⟩ := ands hc
    refine PA.weak (pa_cons (pe_frz (ih ie e h1)) (pa_L ih h3) (star_cons (nots h2))) fun σ H Q h => ?_
    obtain ⟨ρ, τ, G, S, h⟩ := h
    refine stepF S (Rdg.bind.mp (Rdg.bind.mp h)) fun val τ1 h v G1 H1 g S1 r => ?_
    obtain ⟨x, rfl, nd, h⟩ := Rdg.asP h
    refine stepL S1 (Rdg.bind.mp h) fun vals τ2 o vs G2 H2 g2 S2 rs => ?_
    exact o G2 H2 (g.trans g2) S2.tw (v :: vs) (.cons (Dq.mono g2.g (DR.notDict r nd)) rs)
  | [], _ :: _, h => by cases h
  | _ :: _, [], h => by cases h
theorem chkEs_len {f : Stat → IE → Expr → Bool} : ∀ {ies : List IE} {es : List Expr}, chkEs f Γ ies es = true → ies.length = es.length
  | [], [], _ => rfl
  | ie :: ies, e :: es, hc => by
    obtain ⟨hc, h3⟩ := ands (show (f Γ ie e && !starB e && chkEs f Γ ies es) = true from hc)
    simp [chkEs_len h3]
  | [], _ :: _, h => by cases h
  | _ :: _, [], h => by cases h
theorem evs_len {gl : Nat → Option PyData} {φ : Nat → List Val → M Val} {ρ : Ev} : ∀ {es : List IE} {τ : Town} {ok : List PyData → Town → Prop} {ex : Nat → Town → Prop}, Rdg (evs gl φ es ρ τ) ok ex → Rdg (evs gl φ es ρ τ) (fun ds t => ok ds t ∧ ds.length = es.length) ex
  | [], τ, ok, ex, h => ⟨h, rfl⟩
  | e :: es, τ, ok, ex, h => by
    refine Rdg.bind.mpr (Rdg.mono (Rdg.bind.mp h) (fun v t h => ?_) fun _ _ z => z)
    refine Rdg.bind.mpr (Rdg.mono (evs_len (Rdg.bind.mp h)) (fun ds t o => ?_) fun _ _ z => z)
    exact ⟨o.1, by simp [o.2]⟩
theorem se_tup {f : Stat → IE → Expr → Bool} (ih : ∀ ie e, f Γ ie e = true → PE X e (tE p ie)) {ies : List IE} {es : List Expr} {k : Nat} (hl : es.length ≤ 1000) (hc : chkEs f Γ ies es = true) : PE X (.Tuple es k pos) (tE p (.tup ies)) := by
  refine PE.weak (pe_tup (pa_L ih hc)) fun σ H Q h => ?_
  obtain ⟨ρ, τ, G, S, h⟩ := h
  refine stepL S (evs_len (Rdg.bind.mp h)) fun ds τ1 h vs G1 H1 g S1 r => ?_
  refine ⟨by rw [r.length, h.2, chkEs_len hc]; exact Nat.le_trans hl (by decide), fun q hq => ?_⟩
  exact h.1 (upd G1 q (.tup vs)) _ (g.trans (Grow.newF S1.sub hq)) (S1.tw.new hq) _ (vr_post rfl (fun _ z => nomatch z) (.inl (.tup (SqT.of upd_same) (DqAll.mono (fun a u e => by rw [upd_ne (ne_of_none (S1.sub a u e) hq)]; exact e) r))))
theorem se_lst {f : Stat → IE → Expr → Bool} (ih : ∀ ie e, f Γ ie e = true → PE X e (tE p ie)) {ies : List IE} {es : List Expr} (hl : es.length ≤ 1000) (hc : chkEs f Γ ies es = true) : PE X (.List es pos) (tE p (.lst ies)) := by
  refine PE.weak (pe_lst (pa_L ih hc)) fun σ H Q h => ?_
  obtain ⟨ρ, τ, G, S, h⟩ := h
  refine stepL S (evs_len (Rdg.bind.mp h)) fun ds τ1 h vs G1 H1 g S1 r => ?_
  refine ⟨by rw [r.length, h.2, chkEs_len hc]; exact Nat.le_trans hl (by decide), fun q hq => ?_⟩
  exact opK_post g h.1 (fun _ z => nomatch z) (fun _ => rfl) _ _ _ (Grow.newO S1.sub hq) (S1.tw.new hq) (RsD.list hq (S1.at.free hq) (S1.tw.neT hq) (S1.tw.neR hq) upd_same r)
/-! ### items, slices -/
theorem plainIx {b : Expr} (h : sliceB b = false) : PlainIx b := by
  intro o i
  cases b with
  | Slice _ _ _ _ => cases h
  | _ => rfl
theorem se_sub (c : Ctx Γ p X) {a i : IE} {x y : Expr} (hs : sliceB y = false) (ha : PE X x (tE p a)) (hb : PE X y (tE p i)) : PE X (.Subscript x y pos) (tE p (.sub a i)) := by
  refine PE.weak (pe_ix ((ix_data c.K).or (ix_dict c.K c.w (by have := c.hu; omega))) ha hb (plainIx hs)) fun σ H Q h => ?_
  obtain ⟨ρ, τ, G, S, h⟩ := h
  refine stepR S (Rdg.bind.mp h) fun dx τ1 h v G1 H1 g1 S1 t1 => ?_
  refine stepR S1 (Rdg.bind.mp h) fun dy τ2 h u G2 H2 g2 S2 t2 => ?_
  obtain ⟨z, hz, hh⟩ := Rdg.opt (Rdg.bind.mp h)
  clear h
  cases nd : isDict dx with
  | false => exact .inl ⟨τ2, G2, dx, dy, z, S2.at, t1.grow g2, t2, nd, hz, fun w r => hh G2 H2 (g1.trans g2) S2.tw w (vr_post rfl (fun _ q => nomatch q) r)⟩
  | true =>
    cases dx with
    | dict kvs =>
      have hz : (if keyOk dy = true then lookD dy kvs else none) = some z := by
        cases dy <;> exact hz
      by_cases hk : keyOk dy = true
      · rw [if_pos hk] at hz
        exact .inr ⟨τ2, G2, kvs, dy, z, S2.at, t1.grow g2, t2, hk, hz, fun w r => hh G2 H2 (g1.trans g2) S2.tw w (vr_post rfl (fun _ q => nomatch q) r)⟩
      · rw [if_neg hk] at hz
        cases hz
    | _ => cases nd
theorem Rdg.asI {v : Val} {t : Town} {ok : Option Int → Town → Prop} {ex : Nat → Town → Prop} (h : Rdg (Bk.asI v t) ok ex) : ∃ i, v = .d (.int i) ∧ ok (some i) t := by
  cases v with
  | d x =>
    cases x with
    | int i => exact ⟨i, rfl, h⟩
    | _ => exact h.elim
  | _ => exact h.elim
theorem stepO {ie : IE} {eo : Option Expr} {f : Stat → IE → Expr → Bool} (ih : ∀ ie e, f Γ ie e = true → PE X e (tE p ie)) (hc : chkO f Γ ie eo = true) :
    ∃ to : TO, PO X eo to ∧ ∀ {σ : L2.St} {ρ : Ev} {τ : Town} {G H : Hp} {Q : Option Int → Hp → Prop} {ok : Option Int → Town → Prop}, SRp p ρ τ G H σ → Rdg ((if noneI ie = true then pure none else ev p.gl p.φ ie ρ >>= Bk.asI) τ) ok (Xc p) →
      (∀ l τ1, ok l τ1 → ∀ G1 H1, Grow p.C G H G1 H1 → SRp p ρ τ1 G1 H1 σ → Q l H1) → to σ H Q := by
  cases eo with
  | none =>
    refine ⟨tNoPart, po_none, fun {σ ρ τ G H Q ok} S h k => ?_⟩
    have hn : noneI ie = true := hc
    rw [hn] at h
    exact k none τ h G H (Grow.refl S.sub) S
  | some e =>
    obtain ⟨h1, h2⟩ := ands (show (f Γ ie e && !noneI ie) = true from hc)
    refine ⟨tPart (tE p ie), po_some (ih ie e h1), fun {σ ρ τ G H Q ok} S h k => ?_⟩
    rw [nots h2] at h
    refine stepE S (Rdg.bind.mp (Rdg.iff h)) fun val τ1 h v G1 H1 g S1 po => ?_
    obtain ⟨i, rfl, o⟩ := Rdg.asI h
    cases po.top.int
    exact ⟨i, rfl, k _ τ1 o G1 H1 g S1⟩
theorem se_slc (c : Ctx Γ p X) {f : Stat → IE → Expr → Bool} (ih : ∀ ie e, f Γ ie e = true → PE X e (tE p ie)) {a lo hi : IE} {x : Expr} {l h : Option Expr} {p2 : Pos} (ha : f Γ a x = true) (hl : chkO f Γ lo l = true) (hh : chkO f Γ hi h = true) :
    PE X (.Subscript x (.Slice l h none p2) pos) (tE p (.slc a lo hi)) := by
  obtain ⟨t1, q1, k1⟩ := stepO (p := p) ih hl
  obtain ⟨t2, q2, k2⟩ := stepO (p := p) ih hh
  refine PE.weak (pe_slice (sl_data c.K) (ih a x ha) q1 q2) fun σ H Q w => ?_
  obtain ⟨ρ, τ, G, S, w⟩ := w
  refine stepR S (Rdg.bind.mp w) fun dx τ1 w v G1 H1 g1 S1 tx => ?_
  refine k1 S1 (Rdg.bind.mp w) fun l' τ2 w G2 H2 g2 S2 => ?_
  refine k2 S2 (Rdg.bind.mp w) fun h' τ3 w G3 H3 g3 S3 => ?_
  obtain ⟨z, hz, w⟩ := Rdg.opt (Rdg.bind.mp w)
  exact ⟨τ3, G3, dx, z, S3.at, (tx.grow g2).grow g3, hz, opK_post ((g1.trans g2).trans g3) w (fun _ q => nomatch q) (fun q => by cases q)⟩
/-! ### calls -/
theorem nostar {f : Stat → IE → Expr → Bool} {env : Env} {pos : Pos} : ∀ {ies : List IE} {es : List Expr}, chkEs f Γ ies es = true → (backTo pos (starEach es env)).any (·.1) = false
  | [], [], _ => rfl
  | ie :: ies, e :: es, hc => by
    obtain ⟨hc, h3⟩ := ands (show (f Γ ie e && !starB e && chkEs f Γ ies es) = true from hc)
    obtain ⟨h1, h2⟩ := ands hc
    rw [star_cons (nots h2)]
    have q := nostar (env := env) (pos := pos) h3
    unfold backTo at q ⊢
    rw [List.map_cons, List.any_cons, q]
    rfl
  | [], _ :: _, h => by cases h
  | _ :: _, [], h => by cases h
theorem paired_len {α β : Type} {F : α → β → Prop} : ∀ {l : List α} {m : List β}, Paired F l m → l.length = m.length
  | _, _, .nil => rfl
  | _, _, .cons _ r => by simp [paired_len r]
theorem evv_len {gl : Nat → Option PyData} {φ : Nat → List Val → M Val} {ρ : Ev} : ∀ {es : List IE} {τ : Town} {ok : List Val → Town → Prop} {ex : Nat → Town → Prop}, Rdg (evv gl φ es ρ τ) ok ex → Rdg (evv gl φ es ρ τ) (fun ds t => ok ds t ∧ ds.length = es.length) ex
  | [], τ, ok, ex, h => ⟨h, rfl⟩
  | e :: es, τ, ok, ex, h => by
    refine Rdg.bind.mpr (Rdg.mono (Rdg.bind.mp h) (fun v t h => ?_) fun _ _ z => z)
    refine Rdg.bind.mpr (Rdg.mono (evv_len (Rdg.bind.mp h)) (fun ds t o => ?_) fun _ _ z => z)
    exact ⟨o.1, by simp [o.2]⟩
/-- a def's promise, asked for at a call -/
theorem call_want {ix : Nat} {ies : List IE} {σ : L2.St} {H : Hp} {Q : VK} {ρ : Ev} {τ : Town} {G : Hp} (S : SRp p ρ τ G H σ)
    (h : Wnt p (ev p.gl p.φ (.call ix ies) ρ) τ G H fun val G' H' => ∀ v, Post p.C (.call ix ies) ρ σ H G' H' v val → Q v H') :
    tV p ies σ H fun vs H1 => spI p.C p.φ ix ies.length (vs ++ []) H1 Q (Ek p) := by
  refine stepV S (evv_len (Rdg.bind.mp h)) fun vals τ1 h vs G1 H1 g S1 rs => ?_
  rw [List.append_nil]
  refine ⟨by rw [paired_len rs, h.2], vals, τ1, G1, S1.at, rs, Rdg.mono h.1 (fun val τ' o v G' H' g' t' r => ?_) fun c τ' o G' H' g' t' => ?_⟩
  · exact o G' H' (g.trans g') t' v (vr_post rfl (fun _ q => nomatch q) r)
  · exact ⟨c, rfl, rfl, o G' H' (S1.e.trans g') t'⟩
theorem se_call (c : Ctx Γ p X) {f : Stat → IE → Expr → Bool} (ih : ∀ ie e, f Γ ie e = true → PE X e (tE p ie)) {ix : Nat} {x : Str} {ies : List IE} {es : List Expr} {p1 : Pos} (h1 : globB Γ.sc x = true) (h2 : (x, ix, ies.length) ∈ Γ.fns) (hc : chkEs f Γ ies es = true) :
    PE X (.Call (.Name x p1) es [] pos) (tE p (.call ix ies)) := by
  obtain ⟨g1, g2, _⟩ := glob_of c h1
  obtain ⟨m, kp, k, fd, ps, rm, F, B⟩ := c.fn x ix _ h2
  have hx : Passes (L2.CX X.prog X.w) X (Ek p) := passes_call c.tk fun _ _ _ _ z => z
  cases es with
  | nil =>
    cases ies with
    | nil =>
      refine PE.weak (pe_call0 F rm g1 m kp B .nil hx g2) fun σ H Q h => ?_
      obtain ⟨ρ, τ, G, S, h⟩ := h
      obtain ⟨ρ', τ', G', S', h'⟩ := call_want S h
      exact h' G' H (Grow.refl S'.sub) S'.tw [] .nil
    | cons _ _ => cases hc
  | cons e es =>
    cases ies with
    | nil => cases hc
    | cons ie ies =>
      obtain ⟨hc', h3⟩ := ands (show (f Γ ie e && !starB e && chkEs f Γ ies es) = true from hc)
      obtain ⟨_, h4⟩ := ands hc'
      refine PE.weak (pe_call F rm g1 m kp B .nil hx (pa_V ih hc) g2 (star_cons (nots h4)) (nostar h3)) fun σ H Q h => ?_
      obtain ⟨ρ, τ, G, S, h⟩ := h
      exact call_want S h
/-! ### built-ins -/
theorem pa_one {ie : IE} {y : Expr} (hs : starB y = false) (h : PE X y (tE p ie)) : PA X [y] (tCons (tE p ie) tNil) := pa_cons h pa_nil (star_cons hs)
theorem b1_read {b : B1} {a : IE} {σ : L2.St} {H : Hp} {Q : VK} (hf : ∀ x z, fresh (.b1 b a) = true → b1D b x = some z → isL z = true) (h : tE p (.b1 b a) σ H Q) : tCB (r1 p.C (b1D b)) (tCons (tE p a) tNil) σ H Q := by
  obtain ⟨ρ, τ, G, S, h⟩ := h
  refine stepR S (Rdg.bind.mp h) fun dx τ1 h v G1 H1 g S1 t => ?_
  obtain ⟨z, hz, h⟩ := Rdg.opt (Rdg.bind.mp h)
  exact ⟨τ1, G1, v, dx, z, rfl, S1.at, t, hz, opK_post g h (fun _ q => nomatch q) fun q => hf dx z q hz⟩
theorem fresh_list {b : B1} {a : IE} {x z : PyData} (h : fresh (.b1 b a) = true) (hz : b1D b x = some z) : isL z = true := by
  cases b with
  | list =>
    obtain ⟨ds, _, rfl⟩ := Option.map_eq_some_iff.mp (show (seqD x).map PyData.list = some z from hz)
    rfl
  | sorted =>
    cases x with
    | list ds =>
      obtain ⟨_, _, rfl⟩ := Option.map_eq_some_iff.mp (show (sortL ds).map PyData.list = some z from hz)
      rfl
    | dict kvs =>
      obtain ⟨_, _, rfl⟩ := Option.map_eq_some_iff.mp (show (sortL (kvs.map (·.1))).map PyData.list = some z from hz)
      rfl
    | _ => cases hz
  | sortedSet =>
    obtain ⟨ds, _, hz⟩ := Option.bind_eq_some_iff.mp (show (seqD x).bind (fun ds => if ds.length < 64 ∧ (ds.all keyOk) = true then (sortL (nubD ds)).map PyData.list else none) = some z from hz)
    by_cases q : ds.length < 64 ∧ (ds.all keyOk) = true
    · rw [if_pos q] at hz
      obtain ⟨_, _, rfl⟩ := Option.map_eq_some_iff.mp hz
      rfl
    · rw [if_neg q] at hz
      cases hz
  | listRange =>
    obtain ⟨ds, _, rfl⟩ := Option.map_eq_some_iff.mp (show (rangeD x).map PyData.list = some z from hz)
    rfl
  | _ => cases h
theorem se_b1B (c : Ctx Γ p X) {b : B1} {a : IE} {x : Str} {y : Expr} {id : String} {p1 : Pos} (hr : CallR X (.builtin id) (r1 p.C (b1D b))) (hb : bootBuiltins x = some (.builtin id)) (hm : x ∈ blts) (h1 : globB Γ.sc x = true) (hs : starB y = false) (ha : PE X y (tE p a)) :
    PE X (.Call (.Name x p1) [y] [] pos) (tE p (.b1 b a)) := by
  obtain ⟨g1, g2, g3⟩ := glob_of c h1
  exact PE.weak (pe_callB hr g1 (c.free x hm) hb (pa_one hs ha) g3 g2 (star_cons hs) rfl) fun σ H Q h => b1_read (fun _ _ => fresh_list) h
theorem se_b1T (c : Ctx Γ p X) {b : B1} {a : IE} {x : Str} {y : Expr} {T : String} {p1 : Pos} (hr : CallR X (.type T) (r1 p.C (b1D b))) (hb : bootBuiltins x = some (.type T)) (hm : x ∈ blts) (h1 : globB Γ.sc x = true) (hs : starB y = false) (ha : PE X y (tE p a)) :
    PE X (.Call (.Name x p1) [y] [] pos) (tE p (.b1 b a)) := by
  obtain ⟨g1, g2, g3⟩ := glob_of c h1
  exact PE.weak (pe_callTy hr g1 (c.free x hm) hb (pa_one hs ha) g3 g2 (star_cons hs) rfl) fun σ H Q h => b1_read (fun _ _ => fresh_list) h
theorem boot_ty (T : Ty) : bootBuiltins (tyS T) = some (.type (tyN T)) := by cases T <;> decide +kernel
theorem blts_ty (T : Ty) : tyS T ∈ blts := by cases T <;> decide +kernel
theorem se_isi (c : Ctx Γ p X) {T : Ty} {a : IE} {y : Expr} {p1 p2 : Pos} (h1 : globB Γ.sc "isinstance" = true) (h2 : globB Γ.sc (tyS T) = true) (hs : starB y = false) (ha : PE X y (tE p a)) :
    PE X (.Call (.Name "isinstance" p1) [y, .Name (tyS T) p2] [] pos) (tE p (.isi T a)) := by
  obtain ⟨g1, g2, g3⟩ := glob_of c h1
  obtain ⟨k1, k2, k3⟩ := glob_of c h2
  have q : PE X (.Name (tyS T) p2) (tC (.ty (tyN T))) := pe_bltn k1 (c.free _ (blts_ty T)) (boot_ty T) rfl k3 k2
  refine PE.weak (pe_callB (cr_isi c.K T) g1 (c.free _ (by decide +kernel)) (by decide +kernel) (pa_cons ha (pa_cons q pa_nil) (star_cons hs)) g3 g2 (star_cons hs) rfl) fun σ H Q h => ?_
  obtain ⟨ρ, τ, G, S, h⟩ := h
  refine stepE S (Rdg.bind.mp (Rdg.bind.mp h)) fun val τ1 h v G1 H1 g S1 po => ?_
  obtain ⟨dx, rfl, nd, h⟩ := Rdg.asP h
  exact ⟨τ1, G1, v, dx, rfl, S1.at, po.top, nd, h G1 H1 g S1.tw _ (bl_post rfl (fun _ q => nomatch q))⟩
end
end Bk
namespace Bk
open PySem PySem.Spec PyProof.Rows L2
section
variable {Γ : Stat} {p : Pm} {X : Cx} {pos p1 p2 p3 : Pos}
theorem paired_len2 {α β : Type} {F : α → β → Prop} {l : List α} {m : List β} (h : Paired F l m) : l.length = m.length := paired_len h
/-- set(y) within -/
theorem pe_setOf (c : Ctx Γ p X) {a : IE} {y : Expr} (h1 : globB Γ.sc "set" = true) (hs : starB y = false) (ha : PE X y (tE p a)) : PE X (.Call (.Name "set" p2) [y] [] p3) (tCB (rSet p.C) (tCons (tE p a) tNil)) := by
  obtain ⟨g1, g2, g3⟩ := glob_of c h1
  have hu := c.hu
  exact pe_callTy (cr_set c.K c.w c.calm (by omega)) g1 (c.free _ (by decide +kernel)) (by decide +kernel) (pa_one hs ha) g3 g2 (star_cons hs) rfl
theorem seq_bind {dx z : PyData} {f : List PyData → Option PyData} (h : (seqD dx).bind (fun ds => if ds.length < 64 ∧ (ds.all keyOk) = true then f ds else none) = some z) : ∃ ds, seqD dx = some ds ∧ ds.length < 64 ∧ (ds.all keyOk) = true ∧ f ds = some z := by
  obtain ⟨ds, e1, e2⟩ := Option.bind_eq_some_iff.mp h
  by_cases q : ds.length < 64 ∧ (ds.all keyOk) = true
  · rw [if_pos q] at e2
    exact ⟨ds, e1, q.1, q.2, e2⟩
  · rw [if_neg q] at e2
    cases e2
theorem se_lenSet (c : Ctx Γ p X) {a : IE} {y : Expr} (h0 : globB Γ.sc "len" = true) (h1 : globB Γ.sc "set" = true) (hs : starB y = false) (ha : PE X y (tE p a)) :
    PE X (.Call (.Name "len" p1) [.Call (.Name "set" p2) [y] [] p3] [] pos) (tE p (.b1 .lenSet a)) := by
  obtain ⟨g1, g2, g3⟩ := glob_of c h0
  refine PE.weak (pe_callB cr_lenSet g1 (c.free _ (by decide +kernel)) (by decide +kernel) (pa_cons (pe_setOf c h1 hs ha) pa_nil (star_cons rfl)) g3 g2 (star_cons rfl) rfl) fun σ H Q h => ?_
  obtain ⟨ρ, τ, G, S, h⟩ := h
  refine stepR S (Rdg.bind.mp h) fun dx τ1 h v G1 H1 g S1 t => ?_
  obtain ⟨z, hz, h⟩ := Rdg.opt (Rdg.bind.mp h)
  obtain ⟨ds, e1, e2, e3, e4⟩ := seq_bind (f := fun ds => some (.int ((nubD ds).length : Nat))) (show (seqD dx).bind (fun ds => if ds.length < 64 ∧ (ds.all keyOk) = true then some (.int ((nubD ds).length : Nat)) else none) = some z from hz)
  cases e4
  refine ⟨τ1, G1, v, dx, ds, rfl, S1.at, t, e1, e2, e3, fun q l dl hq sd => ⟨q, l, rfl, by rw [upd_same, c.w], ?_⟩⟩
  have el : l.length = (nubD ds).length := by rw [paired_len sd.rel, sd.pm.length_eq]
  rw [el]
  exact h G1 _ (g.trans (Grow.newO S1.sub hq)) (S1.tw.new hq) _ (vr_post rfl (fun _ q => nomatch q) (.inl (.int _)))
theorem se_sortedSet (c : Ctx Γ p X) {a : IE} {y : Expr} (h0 : globB Γ.sc "sorted" = true) (h1 : globB Γ.sc "set" = true) (hs : starB y = false) (ha : PE X y (tE p a)) :
    PE X (.Call (.Name "sorted" p1) [.Call (.Name "set" p2) [y] [] p3] [] pos) (tE p (.b1 .sortedSet a)) := by
  obtain ⟨g1, g2, g3⟩ := glob_of c h0
  have hu := c.hu
  refine PE.weak (pe_callB (cr_sortedSet c.K c.w c.calm (by omega)) g1 (c.free _ (by decide +kernel)) (by decide +kernel) (pa_cons (pe_setOf c h1 hs ha) pa_nil (star_cons rfl)) g3 g2 (star_cons rfl) rfl) fun σ H Q h => ?_
  obtain ⟨ρ, τ, G, S, h⟩ := h
  refine stepR S (Rdg.bind.mp h) fun dx τ1 h v G1 H1 g S1 t => ?_
  obtain ⟨z, hz, h⟩ := Rdg.opt (Rdg.bind.mp h)
  obtain ⟨ds, e1, e2, e3, e4⟩ := seq_bind (f := fun ds => (sortL (nubD ds)).map .list) (show (seqD dx).bind (fun ds => if ds.length < 64 ∧ (ds.all keyOk) = true then (sortL (nubD ds)).map .list else none) = some z from hz)
  obtain ⟨y, hy, rfl⟩ := Option.map_eq_some_iff.mp e4
  refine ⟨τ1, G1, v, dx, ds, rfl, S1.at, t, e1, e2, e3, fun q l dl hq sd => ?_⟩
  have S2 := S1.grow (Grow.newO (o := SO p.C.w q l) S1.sub hq) (S1.tw.new hq)
  obtain ⟨al, so, dp, rfl⟩ := sortL_ok hy
  have hp : ∀ y ∈ dl, pureK y = true := fun y hy => by
    obtain ⟨_, _, r⟩ := (pair_mem sd.rel).2 y hy
    exact (keyOk_of r.2.1).2.1
  have al' : PySem.W.AllAlike dl := fun a ha b hb => al a (sd.pm.mem_iff.mp ha) b (sd.pm.mem_iff.mp hb)
  have hs2 : sortL dl = some (isort (nubD ds)) := by
    rw [← isort_perm sd.pm sd.nd hp al']
    obtain ⟨⟨z1, z2, z3⟩, _⟩ := iteS (show (if allAlike (nubD ds) = true ∧ sortable (nubD ds) = true ∧ ((nubD ds).all fun x => decide (x.depth ≤ 64)) = true then some (isort (nubD ds)) else none) = some _ from hy)
    unfold sortL
    have pa : ∀ (f : PyData → Bool), (nubD ds).all f = true → dl.all f = true := fun f h => List.all_eq_true.mpr fun x hx => List.all_eq_true.mp h x (sd.pm.mem_iff.mp hx)
    have a1 : allAlike dl = true := List.all_eq_true.mpr fun x hx => List.all_eq_true.mpr fun y hy => al' x hx y hy
    have a2 : sortable dl = true := by
      unfold sortable at z2 ⊢
      rcases Bool.or_eq_true_iff.mp z2 with q | q
      · rw [pa _ q]; rfl
      · rw [pa _ q, Bool.or_true]
    rw [if_pos ⟨a1, a2, pa _ z3⟩]
  refine ⟨τ1, G1, q, l, dl, _, rfl, S2.at, upd_same, sd.rel, hs2, fun q2 vs hq2 dq => ?_⟩
  exact OpK.newL S2.at (opK_post (g.trans (Grow.newO S1.sub hq)) h (fun _ q => nomatch q) fun _ => rfl) dq q2 hq2
end
end Bk
namespace Bk
open PySem PySem.Spec PyProof.Rows L2
section
variable {C : Cf} {H : Hp} {τ : Town}
theorem TownOk.put (t : TownOk C τ H) {q : Addr} {u o : HO} (e : H q = some u) (nf : ∀ o v, u ≠ .frz o v) (nc : NoCode u) (nT : q ≠ C.aT) (nR : q ≠ C.aR) : TownOk C τ (upd H q o) where
  t := by rw [upd_ne (Ne.symm nT)]; exact t.t
  r := by rw [upd_ne (Ne.symm nR)]; exact t.r
  n := t.n
  ne := t.ne
  k := t.k
  nd := t.nd
  s := t.s.keep fun o u z => by
    have hb : C.aS ≠ q := fun w => by rw [w, e] at z; exact nf _ _ (Option.some.inj z)
    rw [upd_ne hb]
    exact z
  sl := t.sl
  tb := Tabs.upd t.tb e nc
end
section
variable {Γ : Stat} {p : Pm} {X : Cx} {pos p1 p2 p3 : Pos}
/-! ### min -/
theorem cr_min1 (c : Ctx Γ p X) : CallR X (.builtin "min") (r1 p.C (b1D .min)) := by
  intro pins s σ H xs us Q I r h
  obtain ⟨τ, G, x, dx, z, rfl, A, tx, hz, k⟩ := h
  cases dx with
  | list ds =>
    obtain ⟨⟨h1, h2, h3⟩, hz⟩ : (allAlike ds = true ∧ sortable ds = true ∧ (ds.all fun x => decide (x.depth ≤ 64)) = true) ∧ (minL ds).bind (fun z => if isTup z = true then some z else none) = some z := by
      have hz : (if allAlike ds = true ∧ sortable ds = true ∧ (ds.all fun x => decide (x.depth ≤ 64)) = true then (minL ds).bind (fun z => if isTup z = true then some z else none) else none) = some z := hz
      by_cases q : allAlike ds = true ∧ sortable ds = true ∧ (ds.all fun x => decide (x.depth ≤ 64)) = true
      · rw [if_pos q] at hz
        exact ⟨q, hz⟩
      · rw [if_neg q] at hz
        cases hz
    obtain ⟨y, e1, e2⟩ := Option.bind_eq_some_iff.mp hz
    obtain ⟨e3, rfl⟩ := iteS e2
    have hu := c.hu
    refine cr_minL c.K c.calm (by omega) pins s σ H _ us Q I r ⟨τ, G, x, ds, y, rfl, A, tx, h1, h2, h3, e1, fun v rv => ?_⟩
    cases y with
    | tuple es => exact k.here A (DR.notDict rv rfl) rfl
    | _ => cases e3
  | _ => cases hz
theorem se_min2 (c : Ctx Γ p X) {a b : IE} {y z : Expr} (h0 : globB Γ.sc "min" = true) (hs : starB y = false) (hs2 : starB z = false) (ha : PE X y (tE p a)) (hb : PE X z (tE p b)) : PE X (.Call (.Name "min" p1) [y, z] [] pos) (tE p (.min2 a b)) := by
  obtain ⟨g1, g2, g3⟩ := glob_of c h0
  have hst : (backTo pos (starEach [z] X.env)).any (·.1) = false := by rw [star_cons hs2]; rfl
  refine PE.weak (pe_callB (call_min2 c.calm) g1 (c.free _ (by decide +kernel)) (by decide +kernel) (pa_cons ha (pa_cons hb pa_nil (star_cons hs2)) (star_cons hs)) g3 g2 (star_cons hs) hst) fun σ H Q h => ?_
  obtain ⟨ρ, τ, G, S, h⟩ := h
  refine stepR S (Rdg.bind.mp h) fun dx τ1 h v G1 H1 g1 S1 t1 => ?_
  refine stepR S1 (Rdg.bind.mp h) fun dy τ2 h u G2 H2 g2 S2 t2 => ?_
  cases dx with
  | int i =>
    cases dy with
    | int j =>
      cases (t1.grow g2).int
      cases t2.int
      exact ⟨i, j, rfl, h G2 H2 (g1.trans g2) S2.tw _ (vr_post rfl (fun _ q => nomatch q) (.inl (.int _)))⟩
    | _ => exact h.elim
  | _ => exact h.elim
theorem se_rev (c : Ctx Γ p X) {a : IE} {x : Expr} {k : Nat} (ha : PE X x (tE p a)) : PE X (.Subscript x (.Slice none none (some (.UnaryOp .USub (.Constant (.int 1) k p1) p2)) p3) pos) (tE p (.rev a)) := by
  refine PE.weak (pe_revT ha) fun σ H Q h => ?_
  obtain ⟨ρ, τ, G, S, h⟩ := h
  refine stepR S (Rdg.bind.mp h) fun dx τ1 h v G1 H1 g S1 t => ?_
  obtain ⟨z, hz, h⟩ := Rdg.opt (Rdg.bind.mp h)
  cases dx with
  | tuple ds =>
    cases hz
    obtain ⟨a', xs, rfl, h1, h2⟩ := t.tup
    exact ⟨a', xs, rfl, by rw [c.K]; exact SqT.mono S1.sub h1, OpK.newT S1.at (opK_post g h (fun _ q => nomatch q) fun q => by cases q) h2.rev⟩
  | _ => cases hz
/-! ### list(range(n)), tuple(range(n)) -/
theorem dq_rg {K : PySem.W.Frag} {G : Hp} (n : Int) : DqAll K G (rgV 0 n) ((List.range n.toNat).map fun i => PyData.int (i : Nat)) := by
  have key : ∀ l : List Nat, DqAll K G (l.map fun i => V.int (0 + (i : Nat))) (l.map fun i => PyData.int (i : Nat)) := fun l => by
    induction l with
    | nil => exact .nil
    | cons x l ih =>
      refine .cons ?_ ih
      have e : (0 : Int) + (x : Nat) = (x : Nat) := by omega
      show Dq K G (.int ((0 : Int) + (x : Nat))) (.int (x : Nat))
      rw [e]
      exact .int _
  have e : rgV 0 n = (List.range n.toNat).map fun i => V.int (0 + (i : Nat)) := by
    unfold rgV
    simp
  rw [e]
  exact key _
theorem rg_ok {n : Int} (h1 : -1000000 ≤ n) (h2 : n ≤ 1000000) : RgOk 0 n := ⟨by omega, by omega, by omega, by omega, by omega⟩
theorem rangeD_of {x : PyData} {ds : List PyData} (h : rangeD x = some ds) : ∃ n, x = .int n ∧ -1000000 ≤ n ∧ n ≤ 1000000 ∧ ds = (List.range n.toNat).map fun i => PyData.int (i : Nat) := by
  cases x with
  | int n =>
    obtain ⟨⟨b1, b2⟩, rfl⟩ := iteS (show (if -1000000 ≤ n ∧ n ≤ 1000000 then some ((List.range n.toNat).map fun i => PyData.int (i : Nat)) else none) = some ds from h)
    exact ⟨n, rfl, b1, b2, rfl⟩
  | _ => cases h
theorem se_listRange (c : Ctx Γ p X) {a : IE} {y : Expr} (h0 : globB Γ.sc "list" = true) (h1 : globB Γ.sc "range" = true) (hs : starB y = false) (ha : PE X y (tE p a)) :
    PE X (.Call (.Name "list" p1) [.Call (.Name "range" p2) [y] [] p3] [] pos) (tE p (.b1 .listRange a)) := by
  obtain ⟨g1, g2, g3⟩ := glob_of c h0
  obtain ⟨k1, k2, k3⟩ := glob_of c h1
  refine PE.weak (pe_listRg c.calm g1 (c.free _ (by decide +kernel)) (prg_1 k1 (c.free _ (by decide +kernel)) ha (star_cons hs)) rfl) fun σ H Q h => ?_
  obtain ⟨ρ, τ, G, S, h⟩ := h
  refine stepR S (Rdg.bind.mp h) fun dx τ1 h v G1 H1 g S1 t => ?_
  obtain ⟨z, hz, h⟩ := Rdg.opt (Rdg.bind.mp h)
  obtain ⟨ds, e1, rfl⟩ := Option.map_eq_some_iff.mp (show (rangeD dx).map PyData.list = some z from hz)
  obtain ⟨n, rfl, b1, b2, rfl⟩ := rangeD_of e1
  cases t.int
  exact ⟨n, rfl, rg_ok b1 b2, OpK.newL S1.at (opK_post g h (fun _ q => nomatch q) fun _ => rfl) (dq_rg n)⟩
theorem se_tupleRange (c : Ctx Γ p X) {a : IE} {y : Expr} (h0 : globB Γ.sc "tuple" = true) (h1 : globB Γ.sc "range" = true) (hs : starB y = false) (ha : PE X y (tE p a)) :
    PE X (.Call (.Name "tuple" p1) [.Call (.Name "range" p2) [y] [] p3] [] pos) (tE p (.b1 .tupleRange a)) := by
  obtain ⟨g1, g2, g3⟩ := glob_of c h0
  obtain ⟨k1, k2, k3⟩ := glob_of c h1
  refine PE.weak (pe_tupRg c.calm g1 (c.free _ (by decide +kernel)) (prg_1 k1 (c.free _ (by decide +kernel)) ha (star_cons hs)) rfl) fun σ H Q h => ?_
  obtain ⟨ρ, τ, G, S, h⟩ := h
  refine stepR S (Rdg.bind.mp h) fun dx τ1 h v G1 H1 g S1 t => ?_
  obtain ⟨z, hz, h⟩ := Rdg.opt (Rdg.bind.mp h)
  obtain ⟨ds, e1, rfl⟩ := Option.map_eq_some_iff.mp (show (rangeD dx).map PyData.tuple = some z from hz)
  obtain ⟨n, rfl, b1, b2, rfl⟩ := rangeD_of e1
  cases t.int
  exact ⟨n, rfl, rg_ok b1 b2, OpK.newT S1.at (opK_post g h (fun _ q => nomatch q) fun q => by cases q) (dq_rg n)⟩
theorem se_listEnum (c : Ctx Γ p X) {a : IE} {y : Expr} (h0 : globB Γ.sc "list" = true) (h1 : globB Γ.sc "enumerate" = true) (hs : starB y = false) (ha : PE X y (tE p a)) :
    PE X (.Call (.Name "list" p1) [.Call (.Name "enumerate" p2) [y] [] p3] [] pos) (tE p (.b1 .listEnum a)) := by
  obtain ⟨g1, g2, g3⟩ := glob_of c h0
  obtain ⟨k1, k2, k3⟩ := glob_of c h1
  refine PE.weak (pe_listEnum c.K c.calm g1 (c.free _ (by decide +kernel)) k1 (c.free _ (by decide +kernel)) ha (star_cons hs)) fun σ H Q h => ?_
  obtain ⟨ρ, τ, G, S, h⟩ := h
  refine stepR S (Rdg.bind.mp h) fun dx τ1 h v G1 H1 g S1 t => ?_
  obtain ⟨z, hz, h⟩ := Rdg.opt (Rdg.bind.mp h)
  obtain ⟨ds, e1, rfl⟩ := Option.map_eq_some_iff.mp (show (seqD dx).map (fun ds => PyData.list (enumD ds)) = some z from hz)
  exact ⟨τ1, G1, dx, ds, S1.at, t, e1, opK_post g h (fun _ q => nomatch q) fun q => by cases q⟩
/-! ### dicts -/
theorem m2_get {x : Str} {q ap cp : Pos} {y z : Expr} (hs : starB y = false) (hs2 : starB z = false) (hl : (ap.endLine == cp.line) = true) : M2 X (.Name x q) "get" ap y z cp where
  base := rfl
  few := by rw [star_cons hs, star_cons hs2]; rfl
  line := hl
  trees := by rw [star_cons hs, star_cons hs2]; rfl
theorem se_get (c : Ctx Γ p X) {a k d : IE} {x : Str} {q ap cp : Pos} {y z : Expr} (hs : starB y = false) (hs2 : starB z = false) (hl : (ap.endLine == cp.line) = true) (ha : PE X (.Name x q) (tE p a)) (hk : PE X y (tE p k)) (hd : PE X z (tE p d)) :
    PE X (.Call (.Attribute (.Name x q) "get" ap) [y, z] [] cp) (tE p (.get a k d)) := by
  have hu := c.hu
  refine PE.weak (pe_getN c.K c.w (by omega) ha hk (pe_frz hd) (m2_get hs hs2 hl)) fun σ H Q h => ?_
  obtain ⟨ρ, τ, G, S, h⟩ := h
  refine stepR S (Rdg.bind.mp h) fun dx τ1 h v G1 H1 g1 S1 t1 => ?_
  cases dx with
  | dict kvs =>
    obtain ⟨a', o, es, rfl, e1, e2⟩ := t1.dic S1.sub
    refine ⟨⟨a', o, es, rfl, e1⟩, ?_⟩
    refine stepR S1 (Rdg.bind.mp h) fun dy τ2 h u G2 H2 g2 S2 t2 => ?_
    refine stepF S2 (Rdg.bind.mp (Rdg.bind.mp h)) fun val τ3 h w G3 H3 g3 S3 r => ?_
    obtain ⟨dz, rfl, nd, h⟩ := Rdg.asP h
    by_cases hk : keyOk dy = true
    · rw [if_pos hk] at h
      exact ⟨τ3, G3, kvs, dy, dz, S3.at, (t1.grow g2).grow g3, t2.grow g3, hk, DR.notDict r nd, fun v' r' => h G3 H3 ((g1.trans g2).trans g3) S3.tw v' (vr_post rfl (fun _ q => nomatch q) r')⟩
    · rw [if_neg hk] at h
      exact h.elim
  | _ => exact h.elim
theorem se_dis0 (c : Ctx Γ p X) : PE X (.Dict [] [] pos) (tE p (.dis [])) := by
  refine PE.weak (pe_dis0 c.w) fun σ H Q h => ?_
  obtain ⟨ρ, τ, G, S, h⟩ := h
  intro q o hq
  exact h G _ (Grow.newO S.sub hq) (S.tw.new hq) _ ⟨q, .dict [], rfl, rfl, hq, S.at.free hq, S.tw.neT hq, S.tw.neR hq, rfl, o, [], upd_same, .nil⟩
theorem se_dis1 (c : Ctx Γ p X) {k v : IE} {x y : Expr} (hk : PE X x (tE p k)) (hv : PE X y (tE p v)) : PE X (.Dict [some x] [y] pos) (tE p (.dis [k, v])) := by
  have hu := c.hu
  refine PE.weak (pe_dis1 c.K c.w (by omega) (pe_frz hk) (pe_frz hv)) fun σ H Q h => ?_
  obtain ⟨ρ, τ, G, S, h⟩ := h
  intro q o hq
  have S' := S.grow (Grow.newO (o := DO p.C.w q o []) S.sub hq) (S.tw.new hq)
  have nT := S.tw.neT hq
  have nR := S.tw.neR hq
  have gq : G q = none := S.at.free hq
  have h := Rdg.bind.mp (Rdg.bind.mp (Rdg.bind.mp h))
  refine stepF S' h fun val τ1 h kv G1 H1 g1 S1 r1 => ?_
  obtain ⟨dk, rfl, nd1, h⟩ := Rdg.asP h
  have h := Rdg.bind.mp (Rdg.bind.mp (Rdg.bind.mp h))
  refine stepF S1 h fun val τ2 h vv G2 H2 g2 S2 r2 => ?_
  obtain ⟨dv, rfl, nd2, h⟩ := Rdg.asP h
  have h : Rdg ((if keyOk dk = true then pure (Val.d (.dict [(dk, dv)])) else M.fail : M Val) τ2) _ _ := h
  by_cases hok : keyOk dk = true
  · rw [if_pos hok] at h
    have g12 := g1.trans g2
    have fx : Fx p.C q (DO p.C.w q o []) := ⟨nT, nR, fun ps z => by cases z⟩
    have e2 : H2 q = some (DO p.C.w q o []) := g12.k q _ upd_same fx
    have gq2 : G2 q = none := by rw [g12.o q (by rw [upd_same]; simp)]; exact gq
    refine ⟨τ2, G2, dk, dv, S2.at, e2, hok, DR.notDict (DR.mono g2.g r1) nd1, DR.notDict r2 nd2, fun o' es he => ?_⟩
    refine h G2 _ ⟨g12.g, fun a u z => ?_, fun a u z f => ?_, fun a z => ?_, fun a z => ?_⟩ (S2.tw.put e2 (fun _ _ z => by cases z) noCode_DO nT nR) _ ⟨q, .dict [(dk, dv)], rfl, rfl, hq, gq2, nT, nR, rfl, o', es, upd_same, he⟩
    · have : a ≠ q := fun w => by rw [w, gq2] at z; cases z
      rw [upd_ne this]
      exact g12.s a u z
    · have : a ≠ q := fun w => by rw [w, hq] at z; cases z
      rw [upd_ne this]
      exact g12.k a u (by rw [upd_ne this]; exact z) f
    · have : a ≠ q := fun w => z (by rw [w]; exact hq)
      rw [upd_ne this]
      exact g12.t a (by rw [upd_ne this]; exact z)
    · have : a ≠ q := fun w => z (by rw [w]; exact hq)
      exact g12.o a (by rw [upd_ne this]; exact z)
  · rw [if_neg hok] at h
    exact h.elim
/-! ### dicts of places -/
theorem noSl_of {y : Expr} (h : sliceB y = false) : NoSl y := by
  intro ov iv
  cases y with
  | Slice _ _ _ _ => cases h
  | _ => rfl
theorem se_dsub (c : Ctx Γ p X) {i : Nat} {k : IE} {x : Str} {q : Pos} {y : Expr} (hs : sliceB y = false) (h1 : Γ.N[i]? = some x) (h2 : visB Γ.sc x = true) (h3 : plainN x = true) (hk : PE X y (tE p k)) : PE X (.Subscript (.Name x q) y pos) (tE p (.dsub i k)) := by
  have hu := c.hu
  obtain ⟨d1, d2, _⟩ := plain_of h3
  refine PE.weak (pe_dget (by omega) (pe_var (i := i) (by rw [c.N]; exact h1) (by rw [c.sc]; exact vis_of h2) d1 d2) hk (noSl_of hs)) fun σ H Q h => ?_
  obtain ⟨ρ, τ, G, S, h⟩ := h
  have h : Rdg ((match slotAt ρ i with
    | .own (.tuple ds) => (do
      let y ← ev p.gl p.φ k ρ >>= asD
      (match y with
      | .int j => if 0 ≤ j then (M.opt ds[j.toNat]?) >>= fun z => pure (.d z) else M.fail
      | _ => M.fail))
    | _ => M.fail : M Val) τ) (fun val τ' => ∀ G' H', Grow p.C G H G' H' → TownOk p.C τ' H' → ∀ v, Post p.C (.dsub i k) ρ σ H G' H' v val → Q v H') (Xc p) := h
  cases e : slotAt ρ i with
  | emp => rw [e] at h; exact h.elim
  | val v => rw [e] at h; exact h.elim
  | own w =>
    cases w with
    | tuple ds =>
      rw [e] at h
      obtain ⟨a, ea, _, _, _, _, _⟩ := S.ow i _ e
      refine ⟨.ref a, ea, ?_⟩
      refine stepR S (Rdg.bind.mp h) fun dy τ1 h u G1 H1 g1 S1 t1 => ?_
      cases dy with
      | int j =>
        have h : Rdg ((if 0 ≤ j then (M.opt ds[j.toNat]?) >>= fun z => pure (.d z) else M.fail : M Val) τ1) _ _ := h
        by_cases hj : 0 ≤ j
        · rw [if_pos hj] at h
          obtain ⟨z, hz, h⟩ := Rdg.opt (Rdg.bind.mp h)
          obtain ⟨a', ea', _, _, _, _, kv, o1, o2, o3⟩ := S1.ow i _ e
          rw [ea] at ea'
          cases ea'
          obtain ⟨v, e1, e2⟩ := o3 _ _ hz
          cases t1.int
          have ej : ((j.toNat : Nat) : Int) = j := by omega
          rw [ej] at e1
          have dg := DGet.k (k := Sum.inl j) o1
          rw [e1] at dg
          exact ⟨a, v, rfl, dg, h G1 H1 g1 S1.tw v (vr_post rfl (fun _ q => nomatch q) (.inl e2))⟩
        · rw [if_neg hj] at h
          exact h.elim
      | _ => exact h.elim
    | _ => rw [e] at h; exact h.elim
end
end Bk
namespace Bk
open PySem PySem.Spec PyProof.Rows L2
theorem slot_set_same {ρ : Ev} {i : Nat} {x : Slot} (h : i < ρ.length) : slotAt (ρ.set i x) i = x := by
  unfold slotAt
  simp [List.getD, h]
theorem slot_set_ne {ρ : Ev} {i j : Nat} {x : Slot} (h : j ≠ i) : slotAt (ρ.set i x) j = slotAt ρ j := by
  unfold slotAt
  simp only [List.getD_eq_getElem?_getD]
  rw [List.getElem?_set_ne (Ne.symm h)]
section
variable {C : Cf} {G₀ H₀ G H : Hp} {ρ : Ev} {τ : Town} {σ : L2.St}
theorem SR.set (S : SR C G₀ H₀ ρ τ G H σ) {i : Nat} {u : V} {v : Val} (hi : i < ρ.length) (r : VR C G u v) : SR C G₀ H₀ (ρ.set i (.val v)) τ G H (σ.set i (some u)) where
  e := S.e
  gt := S.gt
  gr := S.gr
  tw := S.tw
  len := by simp [S.len]
  sl := fun j w h => by
    by_cases hj : j = i
    · subst hj
      rw [slot_set_same hi] at h
      cases h
      exact ⟨u, by rw [List.getElem?_set_self (by rw [← S.len]; exact hi)], r⟩
    · rw [slot_set_ne hj] at h
      rw [List.getElem?_set_ne (Ne.symm hj)]
      exact S.sl j w h
  ow := fun j x h => by
    by_cases hj : j = i
    · subst hj
      rw [slot_set_same hi] at h
      cases h
    · rw [slot_set_ne hj] at h
      rw [List.getElem?_set_ne (Ne.symm hj)]
      exact S.ow j x h
  ds := fun j k x y a h1 h2 e1 e2 => by
    have hj : j ≠ i := fun q => by
      subst q
      rw [slot_set_same hi] at h1
      cases h1
    have hk : k ≠ i := fun q => by
      subst q
      rw [slot_set_same hi] at h2
      cases h2
    rw [slot_set_ne hj] at h1
    rw [slot_set_ne hk] at h2
    rw [List.getElem?_set_ne (Ne.symm hj)] at e1
    rw [List.getElem?_set_ne (Ne.symm hk)] at e2
    exact S.ds j k x y a h1 h2 e1 e2
/-- a slot forgotten -/
theorem SR.drop (S : SR C G₀ H₀ ρ τ G H σ) (i : Nat) : SR C G₀ H₀ (ρ.set i .emp) τ G H (σ.set i none) := by
  by_cases hi : i < ρ.length
  · have ne : ∀ j x, slotAt (ρ.set i .emp) j = x → x ≠ .emp → j ≠ i := fun j x h hx q => by
      subst q
      rw [slot_set_same hi] at h
      exact hx h.symm
    exact {
      e := S.e
      gt := S.gt
      gr := S.gr
      tw := S.tw
      len := by simp [S.len]
      sl := fun j w h => by
        have hj := ne j _ h (fun z => nomatch z)
        rw [slot_set_ne hj] at h
        rw [List.getElem?_set_ne (Ne.symm hj)]
        exact S.sl j w h
      ow := fun j x h => by
        have hj := ne j _ h (fun z => nomatch z)
        rw [slot_set_ne hj] at h
        rw [List.getElem?_set_ne (Ne.symm hj)]
        exact S.ow j x h
      ds := fun j k x y a h1 h2 e1 e2 => by
        have hj := ne j _ h1 (fun z => nomatch z)
        have hk := ne k _ h2 (fun z => nomatch z)
        rw [slot_set_ne hj] at h1
        rw [slot_set_ne hk] at h2
        rw [List.getElem?_set_ne (Ne.symm hj)] at e1
        rw [List.getElem?_set_ne (Ne.symm hk)] at e2
        exact S.ds j k x y a h1 h2 e1 e2 }
  · rw [List.set_eq_of_length_le (by omega), List.set_eq_of_length_le (by rw [← S.len]; omega)]
    exact S
theorem SR.wipe (S : SR C G₀ H₀ ρ τ G H σ) : ∀ vs : List Nat, SR C G₀ H₀ (wipeE ρ vs) τ G H (L2.wipe σ vs)
  | [] => S
  | v :: vs => (S.wipe vs).drop v
end
/-! ### forgotten slots -/
theorem wipe_get {σ : L2.St} {j : Nat} : ∀ {vs : List Nat}, (L2.wipe σ vs)[j]? = if j ∈ vs ∧ j < σ.length then some none else σ[j]?
  | [] => by simp [L2.wipe]
  | v :: vs => by
    unfold L2.wipe
    by_cases e : v = j
    · subst e
      by_cases hl : v < σ.length
      · rw [List.getElem?_set_self (by rw [L2.wipe_length]; exact hl), if_pos ⟨List.mem_cons_self .., hl⟩]
      · rw [if_neg (fun q => hl q.2)]
        have h1 : σ.length ≤ v := by omega
        rw [List.getElem?_eq_none (by rw [List.length_set, L2.wipe_length]; exact h1), List.getElem?_eq_none h1]
    · rw [List.getElem?_set_ne e, wipe_get (vs := vs)]
      have : (j ∈ v :: vs) ↔ j ∈ vs := by simp [Ne.symm e]
      simp only [this]
theorem wipe_app {σ : L2.St} (a b : List Nat) : L2.wipe σ (a ++ b) = L2.wipe (L2.wipe σ b) a := by
  induction a with
  | nil => rfl
  | cons v a ih =>
    show (L2.wipe σ (a ++ b)).set v none = _
    rw [ih]
    rfl
theorem wipe_comm {σ : L2.St} (a b : List Nat) : L2.wipe (L2.wipe σ a) b = L2.wipe (L2.wipe σ b) a := by
  apply List.ext_getElem?
  intro j
  simp only [wipe_get, L2.wipe_length]
  by_cases h1 : j ∈ a ∧ j < σ.length <;> by_cases h2 : j ∈ b ∧ j < σ.length <;> simp [h1, h2]
theorem wipe_idem {σ : L2.St} (a : List Nat) : L2.wipe (L2.wipe σ a) a = L2.wipe σ a := by
  apply List.ext_getElem?
  intro j
  simp only [wipe_get, L2.wipe_length]
  by_cases h1 : j ∈ a ∧ j < σ.length <;> simp [h1]
section
variable {Γ : Stat} {p : Pm} {X : Cx}
def tG (p : Pm) (t : Tg) : TG := fun v σ H Q => ∃ ρ τ G val ρ', SRp p ρ τ G H σ ∧ VR p.C G v val ∧ setTg t val ρ = some ρ' ∧ ∀ σ', SRp p ρ' τ G H σ' → L2.wipe σ' (slotsT t) = L2.wipe σ (slotsT t) → Q σ' H
def tGs (p : Pm) (ts : List Tg) : TGs := fun vs σ H Q => ∃ ρ τ G ds ρ', SRp p ρ τ G H σ ∧ DqAll p.C.K G vs ds ∧ setTg.setTgs ts ds ρ = some ρ' ∧ ∀ σ', SRp p ρ' τ G H σ' → L2.wipe σ' (slotsTs ts) = L2.wipe σ (slotsTs ts) → Q σ' H
theorem setTgs_len : ∀ {ts : List Tg} {xs : List PyData} {ρ ρ' : Ev}, setTg.setTgs ts xs ρ = some ρ' → ts.length = xs.length
  | [], [], _, _, _ => rfl
  | t :: ts, x :: xs, ρ, ρ', h => by
    have h : (setTg t (.d x) ρ).bind (fun ρ' => setTg.setTgs ts xs ρ') = some ρ' := h
    obtain ⟨ρ1, _, h2⟩ := Option.bind_eq_some_iff.mp h
    simp [setTgs_len h2]
  | [], _ :: _, _, _, h => by cases h
  | _ :: _, [], _, _, h => by cases h
theorem star_asg {e : Expr} {es : List Expr} {env : Env} (h : starB e = false) : assignEach (e :: es) env = (false, assign e env) :: assignEach es env := by
  cases e with
  | Starred _ _ => cases h
  | _ => rfl
theorem chkT_star {t : Tg} {e : Expr} (h : chkT Γ t e = true) : starB e = false := by
  cases e with
  | Starred _ _ => cases t <;> cases h
  | _ => rfl
theorem chkTs_asg {env : Env} : ∀ {ts : List Tg} {es : List Expr}, chkTs Γ ts es = true → (assignEach es env).length = ts.length ∧ (assignEach es env).findIdx? (·.1) = none
  | [], [], _ => ⟨rfl, rfl⟩
  | t :: ts, e :: es, h => by
    obtain ⟨h1, h2⟩ := ands (show (chkT Γ t e && chkTs Γ ts es) = true from h)
    obtain ⟨i1, i2⟩ := chkTs_asg (env := env) h2
    rw [star_asg (chkT_star h1)]
    refine ⟨by simp [i1], ?_⟩
    rw [List.findIdx?_cons, i2]
    rfl
  | [], _ :: _, h => by cases h
  | _ :: _, [], h => by cases h
mutual
theorem pg_T (c : Ctx Γ p X) : ∀ {t : Tg} {e : Expr}, chkT Γ t e = true → PG X e (tG p t)
  | .nm i, .Name x pos, h => by
    obtain ⟨h, h3⟩ := ands (show (decide (Γ.N[i]? = some x) && plainN x && (decide (Γ.sc.names.lookup x = some .local) || (Γ.top && decide (Γ.sc.names.lookup x = some .cell)))) = true from h)
    obtain ⟨h1, h2⟩ := ands h
    have hN : X.N[i]? = some x := by rw [c.N]; exact of_decide_eq_true h1
    have hl : Loc X.env.scope x ∧ (X.fn x = true ∨ X.env.scope.names.lookup x = some .local) := by
      rw [c.sc]
      rcases Bool.or_eq_true_iff.mp h3 with q | q
      · exact ⟨.inl (of_decide_eq_true q), .inr (of_decide_eq_true q)⟩
      · obtain ⟨q1, q2⟩ := ands q
        exact ⟨.inr (of_decide_eq_true q2), .inl (c.tp q1 x)⟩
    refine PG.weak (pg_name (i := i) (by rw [c.N]; exact c.nd) hN hl.1 hl.2) fun v σ H Q w => ?_
    obtain ⟨ρ, τ, G, val, ρ', S, r, e, k⟩ := w
    have e : (if i < ρ.length then some (ρ.set i (.val val)) else none) = some ρ' := e
    obtain ⟨hi, rfl⟩ := iteS e
    refine k _ (S.set hi r) ?_
    show (σ.set i (some v)).set i none = σ.set i none
    rw [List.set_set]
  | .tp ts, .Tuple es kk pos, h => by
    have h : chkTs Γ ts es = true := h
    obtain ⟨a1, a2⟩ := chkTs_asg (env := X.env) h
    refine PG.weak (pg_tup c.calm (pg_Ts c h) a1 a2) fun v σ H Q w => ?_
    obtain ⟨ρ, τ, G, val, ρ', S, r, e, k⟩ := w
    cases val with
    | d x =>
      cases x with
      | tuple ds =>
        have e : setTg.setTgs ts ds ρ = some ρ' := by
          unfold setTg at e
          exact e
        cases DR.notDict r rfl with
        | tup q1 q2 => exact ⟨_, _, rfl, by rw [c.K]; exact SqT.mono S.sub q1, by rw [q2.length, setTgs_len e], ρ, τ, G, ds, ρ', S, q2, e, k⟩
      | _ => unfold setTg at e; cases e
    | _ => unfold setTg at e; cases e
  | .nm _, .BoolOp .., h | .nm _, .NamedExpr .., h | .nm _, .BinOp .., h | .nm _, .UnaryOp .., h | .nm _, .Lambda .., h | .nm _, .IfExp .., h | .nm _, .Dict .., h | .nm _, .Set .., h | .nm _, .ListComp .., h | .nm _, .SetComp .., h | .nm _, .DictComp .., h | .nm _, .GeneratorExp .., h | .nm _, .Await .., h | .nm _, .Yield .., h | .nm _, .YieldFrom .., h | .nm _, .Compare .., h | .nm _, .Call .., h | .nm _, .FormattedValue .., h | .nm _, .JoinedStr .., h | .nm _, .Constant .., h | .nm _, .Attribute .., h | .nm _, .Subscript .., h | .nm _, .Starred .., h | .nm _, .List .., h | .nm _, .Tuple .., h | .nm _, .Slice .., h => by cases h
  | .tp _, .BoolOp .., h | .tp _, .NamedExpr .., h | .tp _, .BinOp .., h | .tp _, .UnaryOp .., h | .tp _, .Lambda .., h | .tp _, .IfExp .., h | .tp _, .Dict .., h | .tp _, .Set .., h | .tp _, .ListComp .., h | .tp _, .SetComp .., h | .tp _, .DictComp .., h | .tp _, .GeneratorExp .., h | .tp _, .Await .., h | .tp _, .Yield .., h | .tp _, .YieldFrom .., h | .tp _, .Compare .., h | .tp _, .Call .., h | .tp _, .FormattedValue .., h | .tp _, .JoinedStr .., h | .tp _, .Constant .., h | .tp _, .Attribute .., h | .tp _, .Subscript .., h | .tp _, .Starred .., h | .tp _, .Name .., h | .tp _, .List .., h | .tp _, .Slice .., h => by cases h
theorem pg_Ts (c : Ctx Γ p X) : ∀ {ts : List Tg} {es : List Expr}, chkTs Γ ts es = true → PGs X es (tGs p ts)
  | [], [], _ => ⟨fun pins s σ H vs us Q I r w => by
    obtain ⟨ρ, τ, G, ds, ρ', S, q, e, k⟩ := w
    cases ds with
    | nil =>
      cases q
      cases e
      exact pgs_nil.run pins s σ H [] us Q I r ⟨rfl, k σ S rfl⟩
    | cons _ _ => cases e⟩
  | t :: ts, e :: es, h => by
    obtain ⟨h1, h2⟩ := ands (show (chkT Γ t e && chkTs Γ ts es) = true from h)
    refine ⟨fun pins s σ H vs us Q I r w => (pgs_cons (pg_T c h1) (pg_Ts c h2) (by rw [star_asg (chkT_star h1)]; rfl)).run pins s σ H vs us Q I r ?_⟩
    obtain ⟨ρ, τ, G, ds, ρ', S, q, e, k⟩ := w
    cases ds with
    | nil => cases e
    | cons x xs =>
      cases q with
      | cons q1 q2 =>
        obtain ⟨ρ1, e1, e2⟩ := Option.bind_eq_some_iff.mp (show (setTg t (.d x) ρ).bind (fun ρ' => setTg.setTgs ts xs ρ') = some ρ' from e)
        refine ⟨_, _, rfl, ρ, τ, G, .d x, ρ1, S, .inl q1, e1, fun σ1 S1 w1 => ?_⟩
        refine ⟨ρ1, τ, G, xs, ρ', S1, q2, e2, fun σ2 S2 w2 => k σ2 S2 ?_⟩
        show L2.wipe σ2 (slotsT t ++ slotsTs ts) = L2.wipe σ (slotsT t ++ slotsTs ts)
        rw [wipe_app, w2, wipe_comm, w1, wipe_comm, ← wipe_app]
  | [], _ :: _, h => by cases h
  | _ :: _, [], h => by cases h
end
end
end Bk
namespace Bk
open PySem PySem.Spec PyProof.Rows L2
/-- J gives the data xs, one by one, wherever G has stayed -/
def Wk (C : Cf) (J : L2.It) (G : Hp) (xs : List PyData) : Prop :=
  Walk J xs.length (fun H => ∃ G1 τ, At C τ G1 H ∧ ∀ a o, G a = some o → G1 a = some o)
    (fun i H v H' => ∀ G1 τ, At C τ G1 H → (∀ a o, G a = some o → G1 a = some o) → ∃ G2 x, xs[i]? = some x ∧ Grow C G1 H G2 H' ∧ TownOk C τ H' ∧ Dq C.K G2 v x)
section
variable {C : Cf} {G : Hp}
theorem wk_same {J : L2.It} {vs : List V} {ds : List PyData} {P : Hp → Prop} (q : DqAll C.K G vs ds) (w : Walk J vs.length P (YAt vs)) (hP : ∀ G1 τ H, At C τ G1 H → (∀ a o, G a = some o → G1 a = some o) → P H) : Wk C J G ds := by
  unfold Wk
  rw [← q.length]
  refine Walk.mono w (fun H ⟨G1, τ, A, m⟩ => hP G1 τ H A m) fun i H v H' hi _ y G1 τ A m => ?_
  obtain ⟨rfl, e⟩ := y
  have hd : i < ds.length := by rw [← q.length]; exact hi
  refine ⟨G1, ds[i], by simp [hd], Grow.refl A.s, A.t, Dq.mono m (q.get e (by simp [hd]))⟩
theorem wk_list {a : Addr} {vs : List V} {ds : List PyData} (h : G a = some (.lst vs)) (q : DqAll C.K G vs ds) : Wk C (Itl C.K a) G ds :=
  wk_same q walk_list fun G1 τ H A m => SqL.of (A.s _ _ (m _ _ h))
theorem wk_tup {a : Addr} {vs : List V} {ds : List PyData} (h : SqT C.K G a vs) (q : DqAll C.K G vs ds) : Wk C (Itt C.K a) G ds :=
  wk_same q walk_tup fun G1 τ H A m => SqT.mono A.s (SqT.mono m h)
theorem wk_range (n : Nat) : Wk C (Itr 0 n) G ((List.range n).map fun i => PyData.int (i : Nat)) := by
  unfold Wk
  rw [List.length_map, List.length_range]
  refine Walk.mono walk_range (fun _ _ => trivial) fun i H v H' hi _ y G1 τ A m => ?_
  obtain ⟨rfl, rfl⟩ := y
  refine ⟨G1, .int (i : Nat), by simp [hi], Grow.refl A.s, A.t, ?_⟩
  have e : (0 : Int) + (i : Nat) = (i : Nat) := by omega
  show Dq C.K G1 (.int ((0 : Int) + (i : Nat))) _
  rw [e]
  exact .int _
theorem wk_dict {a : Addr} {o : Obj} {es : List Ent} {kvs : List (PyData × PyData)} (h : G a = some (DO C.w a o es)) (q : EntsAre C.K G es kvs) : Wk C (Itdn C.w a o es) G (kvs.map (·.1)) := by
  unfold Wk
  have hl : es.length = (kvs.map (·.1)).length := by rw [List.length_map]; exact paired_len0 q
  rw [← hl]
  have dq := ents_keys q
  have w : Walk (Itdn C.w a o es) es.length (fun H => H a = some (DO C.w a o es)) (fun i H v H' => H' = H ∧ ∃ p, es[i]? = some p ∧ v = .ref p.2.1) := ⟨fun i _ hi z => ⟨z, hi⟩, fun _ z => ⟨z, Nat.le_refl _⟩, fun _ _ _ _ _ _ y => y⟩
  refine Walk.mono w (fun H ⟨G1, τ, A, m⟩ => A.s _ _ (m _ _ h)) fun i H v H' hi _ y G1 τ A m => ?_
  obtain ⟨rfl, p, e1, rfl⟩ := y
  have hd : i < (kvs.map (·.1)).length := by rw [← hl]; exact hi
  refine ⟨G1, (kvs.map (·.1))[i], List.getElem?_eq_getElem hd, Grow.refl A.s, A.t, Dq.mono m (dq.get (i := i) (by rw [List.getElem?_map, e1]; rfl) (List.getElem?_eq_getElem hd))⟩
/-- pairs that are new at each turn -/
theorem wk_pairs {J : L2.It} {n : Nat} {P : Hp → Prop} {f g : Nat → Option V} {ds : List PyData} (hn : n = ds.length) (w : Walk J n P (YPair f g)) (hP : ∀ G1 τ H, At C τ G1 H → (∀ a o, G a = some o → G1 a = some o) → P H)
    (hd : ∀ i v u, f i = some v → g i = some u → ∃ x y, ds[i]? = some (.tuple [x, y]) ∧ Dq C.K G v x ∧ Dq C.K G u y) : Wk C J G ds := by
  unfold Wk
  rw [← hn]
  refine Walk.mono w (fun H ⟨G1, τ, A, m⟩ => hP G1 τ H A m) fun i H v H' hi _ y G1 τ A m => ?_
  obtain ⟨T, v1, v2, rfl, h2, rfl, h4, h5⟩ := y
  obtain ⟨x, y, e, d1, d2⟩ := hd i v1 v2 h4 h5
  have gr : Grow C G1 H (upd G1 T (.tup [v1, v2])) (upd H T (.tup [v1, v2])) := Grow.newF A.s h2
  exact ⟨_, _, e, gr, A.t.new h2, .tup (SqT.of upd_same) (.cons (Dq.mono gr.g (Dq.mono m d1)) (.cons (Dq.mono gr.g (Dq.mono m d2)) .nil))⟩
theorem enumD_get {ds : List PyData} {i : Nat} {d : PyData} (h : ds[i]? = some d) : (enumD ds)[i]? = some (.tuple [.int (i : Nat), d]) := by
  unfold enumD
  rw [List.getElem?_map, List.getElem?_zipIdx, h]
  simp
theorem dq_at {K : PySem.W.Frag} {vs : List V} {ds : List PyData} {i : Nat} {v : V} (q : DqAll K G vs ds) (h : vs[i]? = some v) : ∃ d, ds[i]? = some d ∧ Dq K G v d := by
  have hi : i < ds.length := by rw [← q.length]; exact (List.getElem?_eq_some_iff.mp h).1
  exact ⟨ds[i], by simp [hi], q.get h (by simp [hi])⟩
theorem wk_enumL {a : Addr} {vs : List V} {ds : List PyData} (h : G a = some (.lst vs)) (q : DqAll C.K G vs ds) : Wk C (Ite C.K a) G (enumD ds) := by
  refine wk_pairs (by unfold enumD; rw [List.length_map, List.length_zipIdx]; exact q.length) walk_enum (fun G1 τ H A m => SqL.of (A.s _ _ (m _ _ h))) fun i v u h1 h2 => ?_
  cases h1
  obtain ⟨d, e, dq⟩ := dq_at q h2
  exact ⟨_, d, enumD_get e, .int _, dq⟩
theorem wk_enumT {a : Addr} {vs : List V} {ds : List PyData} (h : SqT C.K G a vs) (q : DqAll C.K G vs ds) : Wk C (IteT C.K a) G (enumD ds) := by
  refine wk_pairs (by unfold enumD; rw [List.length_map, List.length_zipIdx]; exact q.length) walk_enumT (fun G1 τ H A m => SqT.mono A.s (SqT.mono m h)) fun i v u h1 h2 => ?_
  cases h1
  obtain ⟨d, e, dq⟩ := dq_at q h2
  exact ⟨_, d, enumD_get e, .int _, dq⟩
theorem zipD_get {ds es : List PyData} {i : Nat} {d e : PyData} (h : ds[i]? = some d) (h2 : es[i]? = some e) : (zipD ds es)[i]? = some (.tuple [d, e]) := by
  unfold zipD
  have q : (ds.zip es)[i]? = some (d, e) := List.getElem?_zip_eq_some.mpr ⟨h, h2⟩
  rw [List.getElem?_map, q]
  rfl
theorem zip_len {vs ws : List V} {ds es : List PyData} {K : PySem.W.Frag} (q : DqAll K G vs ds) (r : DqAll K G ws es) : min vs.length ws.length = (zipD ds es).length := by
  unfold zipD
  rw [List.length_map, List.length_zip, q.length, r.length]
theorem wk_zipL {a b : Addr} {vs ws : List V} {ds es : List PyData} (h : G a = some (.lst vs)) (h' : G b = some (.lst ws)) (q : DqAll C.K G vs ds) (r : DqAll C.K G ws es) : Wk C (Itz C.K a b) G (zipD ds es) := by
  refine wk_pairs (zip_len q r) (walk_zip rfl) (fun G1 τ H A m => ⟨SqL.of (A.s _ _ (m _ _ h)), SqL.of (A.s _ _ (m _ _ h'))⟩) fun i v u h1 h2 => ?_
  obtain ⟨d, e1, d1⟩ := dq_at q h1
  obtain ⟨e, e2, d2⟩ := dq_at r h2
  exact ⟨d, e, zipD_get e1 e2, d1, d2⟩
theorem wk_zipT {a b : Addr} {vs ws : List V} {ds es : List PyData} (h : SqT C.K G a vs) (h' : SqT C.K G b ws) (q : DqAll C.K G vs ds) (r : DqAll C.K G ws es) : Wk C (RZ.ItzT C.K a b) G (zipD ds es) := by
  refine wk_pairs (zip_len q r) (walk_zipT rfl) (fun G1 τ H A m => ⟨SqT.mono A.s (SqT.mono m h), SqT.mono A.s (SqT.mono m h')⟩) fun i v u h1 h2 => ?_
  obtain ⟨d, e1, d1⟩ := dq_at q h1
  obtain ⟨e, e2, d2⟩ := dq_at r h2
  exact ⟨d, e, zipD_get e1 e2, d1, d2⟩
end
section
variable {Γ : Stat} {p : Pm} {X : Cx} {tg : Expr}
def tI (p : Pm) (it : It) : TI := fun σ H R => ∃ ρ τ G, SRp p ρ τ G H σ ∧ Wnt p (evIt p.gl p.φ it ρ) τ G H fun xs G' H' => ∀ J, Wk p.C J G' xs → R J H'
/-- a list or a tuple is walked -/
def iSeq (C : Cf) (K : PySem.W.Frag) (te : TE) : TI := fun σ H R => te σ H fun x H1 => (∃ a xs, x = .ref a ∧ SqL K H1 a xs ∧ R (Itl K a) H1) ∨ (∃ a xs, x = .ref a ∧ SqT K H1 a xs ∧ R (Itt K a) H1) ∨ ∃ a o es, x = .ref a ∧ H1 a = some (DO C.w a o es) ∧ R (Itdn C.w a o es) H1
theorem pi_seq {C : Cf} {l : Expr} {te : TE} (hl : PE X l te) : PI X tg l (iSeq C X.K te) := by
  refine ⟨fun pins s σ H R I w => thn (hl.run pins s σ H _ I w) fun v s1 hh => ?_⟩
  obtain ⟨x, H1, I1, rx, q⟩ := hh
  have old : ∀ o : Obj, L2.Inv X pins σ H1 { s1 with heap := s1.heap.push o } := fun o => I1.kept (t' := s1.toks) fun b u e => Heap.get?_push_of_some _ e
  have fp : ∀ b ∈ [s1.heap.objs.size], FpOk X pins H1 b := fun b hb => by
    obtain rfl : b = s1.heap.objs.size := by simpa using hb
    exact I1.fpOk (Nat.le_refl _) I1.fresh
  rcases q with ⟨a, xs, rfl, hq, q⟩ | ⟨a, xs, rfl, hq, q⟩ | ⟨a, o, es, rfl, hq, q⟩
  · cases rx
    obtain ⟨its, rv, pl, _⟩ := I1.list hq
    exact wpAny_pyIter_list pl.isList ⟨_, [s1.heap.objs.size], _, _, H1, rfl, old _, turn_list a _, ⟨_, Heap.get?_push_size _ rfl, rfl, rfl⟩, fp, q⟩
  · cases rx
    obtain ⟨its, rv, pl, _⟩ := I1.tuple hq
    exact wpAny_pyIter_tuple (show s1.heap.IsTuple a its.toArray from pl) ⟨_, [s1.heap.objs.size], _, _, H1, rfl, old _, turn_tuple a _, ⟨_, Heap.get?_push_size _ rfl, rfl, rfl⟩, fp, q⟩
  · cases rx
    exact iter_dictN I1 hq q
/-- items of a frozen list or tuple -/
theorem items_walk (c : Ctx Γ p X) {v : V} {x : PyData} {xs : List PyData} {G1 H1 : Hp} {R : L2.It → Hp → Prop} (s : ∀ a o, G1 a = some o → H1 a = some o) (r : VR p.C G1 v (.d x)) (hx : itemsD x = some xs) (k : ∀ J, Wk p.C J G1 xs → R J H1) :
    (∃ a xs, v = .ref a ∧ SqL X.K H1 a xs ∧ R (Itl X.K a) H1) ∨ (∃ a xs, v = .ref a ∧ SqT X.K H1 a xs ∧ R (Itt X.K a) H1) ∨ ∃ a o es, v = .ref a ∧ H1 a = some (DO p.C.w a o es) ∧ R (Itdn p.C.w a o es) H1 := by
  cases x with
  | tuple ds =>
    cases hx
    cases DR.notDict r rfl with
    | tup h1 h2 => exact .inr (.inl ⟨_, _, rfl, by rw [c.K]; exact SqT.mono s h1, by rw [c.K]; exact k _ (wk_tup h1 h2)⟩)
  | list ds =>
    cases hx
    cases DR.notDict r rfl with
    | lst h1 h2 => exact .inl ⟨_, _, rfl, SqL.of (s _ _ h1), by rw [c.K]; exact k _ (wk_list h1 h2)⟩
  | dict kvs =>
    cases hx
    rcases r with r | ⟨a, kvs', e1, e2, o, es, h1, h2⟩
    · cases r
    · cases e2
      exact .inr (.inr ⟨a, o, es, e1, s _ _ h1, k _ (wk_dict h1 h2)⟩)
  | _ => cases hx
theorem si_seq (c : Ctx Γ p X) {a : IE} {e : Expr} (ha : PE X e (tE p a)) : PI X tg e (tI p (.seq a)) := by
  refine PI.weak (pi_seq (C := p.C) (pe_frz ha)) fun σ H R h => ?_
  obtain ⟨ρ, τ, G, S, h⟩ := h
  refine stepF S (Rdg.bind.mp (Rdg.bind.mp h)) fun val τ1 h v G1 H1 g S1 r => ?_
  obtain ⟨x, rfl, h⟩ := Rdg.asD h
  obtain ⟨xs, hx, h⟩ := Rdg.opt h
  exact items_walk c S1.sub r hx fun J w => h G1 H1 g S1.tw J w
theorem si_enu (c : Ctx Γ p X) {a : IE} {y : Expr} {p1 pos tpos : Pos} {elts : List Expr} {kk : Nat} (h1 : globB Γ.sc "enumerate" = true) (hs : starB y = false) (ha : PE X y (tE p a)) : PI X (.Tuple elts kk tpos) (.Call (.Name "enumerate" p1) [y] [] pos) (tI p (.enu a)) := by
  obtain ⟨g1, _, _⟩ := glob_of c h1
  refine PI.weak (pi_enumA g1 (c.free _ (by decide +kernel)) (pa_cons (pe_frz ha) pa_nil (star_cons hs)) (star_cons hs)) fun σ H R h => ?_
  obtain ⟨ρ, τ, G, S, h⟩ := h
  refine stepF S (Rdg.bind.mp (Rdg.bind.mp h)) fun val τ1 h v G1 H1 g S1 r => ?_
  obtain ⟨x, rfl, h⟩ := Rdg.asD h
  obtain ⟨xs, hx, h⟩ := Rdg.opt (Rdg.bind.mp h)
  cases x with
  | tuple ds =>
    cases hx
    cases DR.notDict r rfl with
    | tup h1 h2 => exact ⟨_, _, rfl, .inr ⟨by rw [c.K]; exact SqT.mono S1.sub h1, by rw [c.K]; exact h G1 H1 g S1.tw _ (wk_enumT h1 h2)⟩⟩
  | list ds =>
    cases hx
    cases DR.notDict r rfl with
    | lst h1 h2 => exact ⟨_, _, rfl, .inl ⟨SqL.of (S1.sub _ _ h1), by rw [c.K]; exact h G1 H1 g S1.tw _ (wk_enumL h1 h2)⟩⟩
  | _ => cases hx
theorem si_zip (c : Ctx Γ p X) {a b : IE} {y z : Expr} {p1 pos tpos : Pos} {elts : List Expr} {kk : Nat} (h1 : globB Γ.sc "zip" = true) (hs : starB y = false) (hs2 : starB z = false) (ha : PE X y (tE p a)) (hb : PE X z (tE p b)) :
    PI X (.Tuple elts kk tpos) (.Call (.Name "zip" p1) [y, z] [] pos) (tI p (.zip a b)) := by
  obtain ⟨g1, _, _⟩ := glob_of c h1
  have hst : (backTo pos (starEach [z] X.env)).any (·.1) = false := by rw [star_cons hs2]; rfl
  refine PI.weak (RZ.pi_zipA g1 (c.free _ (by decide +kernel)) (pa_cons (pe_frz ha) (pa_cons (pe_frz hb) pa_nil (star_cons hs2)) (star_cons hs)) (star_cons hs) hst) fun σ H R h => ?_
  obtain ⟨ρ, τ, G, S, h⟩ := h
  refine stepF S (Rdg.bind.mp (Rdg.bind.mp h)) fun val τ1 h v G1 H1 gg1 S1 r => ?_
  obtain ⟨x, rfl, h⟩ := Rdg.asD h
  refine stepF S1 (Rdg.bind.mp (Rdg.bind.mp h)) fun val τ2 h u G2 H2 gg2 S2 r2 => ?_
  obtain ⟨x2, rfl, h⟩ := Rdg.asD h
  cases x with
  | tuple ds =>
    cases x2 with
    | tuple es =>
      cases DR.notDict r rfl with
      | tup h1 h2 =>
        cases DR.notDict r2 rfl with
        | tup h3 h4 => exact ⟨_, _, _, _, rfl, .inr ⟨by rw [c.K]; exact SqT.mono S2.sub (SqT.mono gg2.g h1), by rw [c.K]; exact SqT.mono S2.sub h3, by rw [c.K]; exact h G2 H2 (gg1.trans gg2) S2.tw _ (wk_zipT (SqT.mono gg2.g h1) h3 (DqAll.mono gg2.g h2) h4)⟩⟩
    | _ => exact h.elim
  | list ds =>
    cases x2 with
    | list es =>
      cases DR.notDict r rfl with
      | lst h1 h2 =>
        cases DR.notDict r2 rfl with
        | lst h3 h4 => exact ⟨_, _, _, _, rfl, .inl ⟨SqL.of (S2.sub _ _ (gg2.g _ _ h1)), SqL.of (S2.sub _ _ h3), by rw [c.K]; exact h G2 H2 (gg1.trans gg2) S2.tw _ (wk_zipL (gg2.g _ _ h1) h3 (DqAll.mono gg2.g h2) h4)⟩⟩
    | _ => exact h.elim
  | _ => cases x2 <;> exact h.elim
theorem si_rng (c : Ctx Γ p X) {a : IE} {y : Expr} {p1 pos : Pos} (h1 : globB Γ.sc "range" = true) (hs : starB y = false) (ha : PE X y (tE p a)) : PI X tg (.Call (.Name "range" p1) [y] [] pos) (tI p (.rng a)) := by
  obtain ⟨g1, _, _⟩ := glob_of c h1
  refine PI.weak (pi_range1 g1 (c.free _ (by decide +kernel)) (pa_cons (pe_frz ha) pa_nil (star_cons hs)) (star_cons hs)) fun σ H R h => ?_
  obtain ⟨ρ, τ, G, S, h⟩ := h
  refine stepF S (Rdg.bind.mp (Rdg.bind.mp h)) fun val τ1 h v G1 H1 g S1 r => ?_
  obtain ⟨x, rfl, h⟩ := Rdg.asD h
  obtain ⟨xs, hx, h⟩ := Rdg.opt h
  cases x with
  | int n =>
    obtain ⟨⟨b1, b2⟩, rfl⟩ := iteS (show (if -1000000 ≤ n ∧ n ≤ 1000000 then some ((List.range n.toNat).map fun i => PyData.int (i : Nat)) else none) = some xs from hx)
    cases DR.notDict r rfl
    exact ⟨n, rfl, by omega, by omega, h G1 H1 g S1.tw _ (wk_range _)⟩
  | _ => cases hx
/-! ### comprehensions -/
theorem folded {iter : Expr} {env : Env} (h : setB iter = false) : ∀ x, foldedSetIterable iter env x = pure x := by
  intro x
  cases iter with
  | Set _ _ _ => cases h
  | _ => rfl
theorem Ctx.blk (c : Ctx Γ p X) {s : Shared} {H : Hp} {scope : Scope} {D : Addr} {cl : List (Str × Addr)} {fp : List Addr} : Ctx (Γ.blk scope) p.nox (X.blk s H scope (compEnvC scope cl D X.env) fp) where
  N := c.N
  sc := by
    show relS scope X.env.scope = relS scope Γ.sc
    rw [c.sc]
  nd := c.nd
  calm := c.calm
  K := c.K
  w := c.w
  free := c.free
  fn := c.fn
  gl := c.gl
  ex := c.ex
  hu := c.hu
  tk := fun u s' x => by
    obtain ⟨_, _, _, _, _, _, _, _, _, _, _, _, _, _, _, _, _, _, _, z⟩ := x
    exact z.elim
  tp := fun q => by cases q
theorem lc_turns (cc : Ctx Γ p X) {el c : IE} {t : Tg} {ρ : Ev} {τ τ1 : Town} {G H G1 H1 : Hp} {σ : L2.St} {Q : VK} {xs : List PyData} {J : L2.It} {it : It} {D : Addr} (S : SRp p ρ τ G H σ) (g1 : Grow p.C G H G1 H1) (S1 : SRp p ρ τ1 G1 H1 σ) (w : Wk p.C J G1 xs) (hD : H1 D = none) (hl : xs.length ≤ sizeLine)
    (h : Rdg (lcGo (fun ρ' => if isOwn el ρ' = true then M.fail else ev p.gl p.φ el ρ') (fun ρ' => ev p.gl p.φ c ρ' >>= asB) t (wipeE ρ (slotsT t)) xs τ1)
      (fun ys τ' => ∀ G' H', Grow p.C G H G' H' → TownOk p.C τ' H' → ∀ v, Post p.C (.lc el t it c) ρ σ H G' H' v (.d (.list ys)) → Q v H') (fun _ _ => False)) :
    ∃ W : Nat → Nat → Hp → Prop, (∃ m, W 0 m (upd H1 D (.lst []))) ∧ ∀ i m H, W i m H →
      (J.stop i H ∧ Q (.ref D) H) ∨ (J.go i H ∧ ∃ Nx : Hp → Prop, (∀ H', Nx H' → ∃ m', m' < m ∧ W (i + 1) m' H') ∧ ∀ x H', J.yld i H x H' → tG p.nox t x (L2.wipe σ (slotsT t)) H' fun σ2 H2 => L2.wipe σ2 (slotsT t) = L2.wipe σ (slotsT t) ∧ tT p.nox c σ2 H2 fun b H3 =>
        if b = true then tF p.nox el σ2 H3 fun y H4 => ∃ acc, H4 D = some (.lst acc) ∧ acc.length < sizeLine ∧ Nx (upd H4 D (.lst (acc ++ [y]))) else Nx H3) := by
  have Sw : SRp p (wipeE ρ (slotsT t)) τ1 G1 H1 (L2.wipe σ (slotsT t)) := S1.wipe _
  have nT := S1.tw.neT hD
  have nR := S1.tw.neR hD
  have gD : G1 D = none := S1.at.free hD
  refine lc_it w (fun i Hc => ∃ Gc τc acc ys, Grow p.C G1 H1 Gc Hc ∧ TownOk p.C τc Hc ∧ Gc D = none ∧ Hc D = some (.lst acc) ∧ DqAll p.C.K Gc acc ys ∧ ys.length ≤ i ∧
    Rdg (lcGo (fun ρ' => if isOwn el ρ' = true then M.fail else ev p.gl p.φ el ρ') (fun ρ' => ev p.gl p.φ c ρ' >>= asB) t (wipeE ρ (slotsT t)) (xs.drop i) τc)
      (fun r τ' => ∀ G' H', Grow p.C G H G' H' → TownOk p.C τ' H' → ∀ v, Post p.C (.lc el t it c) ρ σ H G' H' v (.d (.list (ys ++ r))) → Q v H') (fun _ _ => False)) ?_ ?_ ?_ ?_
  · exact ⟨G1, τ1, [], [], Grow.newO S1.sub hD, S1.tw.new hD, gD, upd_same, .nil, Nat.zero_le _, h⟩
  · rintro i Hc hi ⟨Gc, τc, acc, ys, g, t', d1, d2, d3, d4, _⟩
    have Sc := S1.grow g t'
    exact ⟨Gc, τc, Sc.at, g.g⟩
  · rintro i v Hc H' hi ⟨Gc, τc, acc, ys, g, t', d1, d2, d3, d4, hr⟩ y
    have Sc := Sw.grow g t'
    obtain ⟨G2, x, hx, g2, t2, rx⟩ := y Gc τc Sc.at g.g
    have ed : xs.drop i = x :: xs.drop (i + 1) := by
      have hlt : i < xs.length := hi
      rw [List.drop_eq_getElem_cons hlt]
      rw [List.getElem?_eq_getElem hlt] at hx
      cases hx
      rfl
    rw [ed] at hr
    obtain ⟨ρ', e', hr⟩ := Rdg.opt (Rdg.bind.mp hr)
    have S2 := Sc.grow g2 t2
    have kD : ∀ {Ga Ha Gb Hb : Hp} {l : List V}, Grow p.C Ga Ha Gb Hb → Ha D = some (.lst l) → Hb D = some (.lst l) := fun gg q => gg.k D _ q ⟨nT, nR, fun ps z => nomatch z⟩
    have fD : ∀ {Ga Ha Gb Hb : Hp} {l : List V}, Grow p.C Ga Ha Gb Hb → Ha D = some (.lst l) → Ga D = none → Gb D = none := fun gg q z => by rw [gg.o D (by rw [q]; simp)]; exact z
    refine ⟨wipeE ρ (slotsT t), τc, G2, .d x, ρ', S2, .inl rx, e', fun σ2 S3 hw => ⟨by rw [hw, wipe_idem], ?_⟩⟩
    refine stepT (p := p.nox) S3 (Rdg.mono (Rdg.bind.mp hr) (fun _ _ z => z) fun _ _ z => z.elim) fun b τ3 hr G3 H3 g3 S4 => ?_
    have q3 := kD g3 (kD g2 d2)
    have f3 := fD g3 (kD g2 d2) (fD g2 d2 d1)
    cases b with
    | false =>
      exact iteF ⟨G3, τ3, acc, ys, (g.trans g2).trans g3, S4.tw, f3, q3, DqAll.mono g3.g (DqAll.mono g2.g d3), by omega, Rdg.iff hr⟩
    | true =>
      refine iteT (stepF (p := p.nox) S4 (Rdg.mono (Rdg.bind.mp (Rdg.bind.mp (Rdg.ift hr))) (fun _ _ z => z) fun _ _ z => z.elim) fun val τ4 hr y G4 H4 g4 S5 ry => ?_)
      obtain ⟨z, rfl, nd, hr⟩ := Rdg.asP hr
      have q4 := kD g4 q3
      have f4 := fD g4 q3 f3
      have g14 := ((g.trans g2).trans g3).trans g4
      refine ⟨acc, q4, ?_, G4, τ4, acc ++ [y], ys ++ [z], ?_, ?_, f4, upd_same, (DqAll.mono g4.g (DqAll.mono g3.g (DqAll.mono g2.g d3))).app (.cons (DR.notDict ry nd) .nil), by simp; omega, ?_⟩
      · rw [d3.length]
        omega
      · exact {
          g := g14.g
          s := fun b u q => by
            have hb : b ≠ D := fun e => by rw [e, f4] at q; cases q
            rw [upd_ne hb]
            exact g14.s b u q
          k := fun b u q f => by
            rw [upd_ne (ne_of_none q hD)]
            exact g14.k b u q f
          t := fun b q => by
            have hb : b ≠ D := fun e => q (by rw [e]; exact hD)
            rw [upd_ne hb]
            exact g14.t b q
          o := g14.o }
      · have t4 := S5.tw
        exact {
          t := by rw [upd_ne (Ne.symm nT)]; exact t4.t
          r := by rw [upd_ne (Ne.symm nR)]; exact t4.r
          n := t4.n
          ne := t4.ne
          k := t4.k
          nd := t4.nd
          s := t4.s.keep fun o u q => by
            have hb : p.C.aS ≠ D := fun e => by rw [e, q4] at q; cases q
            rw [upd_ne hb]
            exact q
          sl := t4.sl
          tb := Tabs.upd t4.tb q4 noCode_lst }
      · have hr := Rdg.bind.mp hr
        refine Rdg.mono hr (fun r τ' o => ?_) fun _ _ z => z
        rw [List.append_assoc]
        exact o
  · rintro Hc ⟨Gc, τc, acc, ys, g, t', d1, d2, d3, d4, hr⟩
    have e : xs.drop xs.length = [] := List.drop_length
    rw [e] at hr
    have hr : ∀ G' H', Grow p.C G H G' H' → TownOk p.C τc H' → ∀ v, Post p.C (.lc el t it c) ρ σ H G' H' v (.d (.list (ys ++ []))) → Q v H' := hr
    rw [List.append_nil] at hr
    have h0 : H D = none := by
      cases q : H D with
      | none => rfl
      | some u => exact absurd hD (g1.t D (by rw [q]; simp))
    exact hr Gc Hc (g1.trans g) t' _ ⟨D, .list ys, rfl, rfl, h0, d1, nT, nR, rfl, acc, d2, d3⟩
end
end Bk
namespace Bk
open PySem PySem.Spec PyProof.Rows L2
def boolB : Expr → Bool
  | .BoolOp .. => true
  | _ => false
structure Good (p : Pm) (X : Cx) (ie : IE) (e : Expr) : Prop where
  pe : PE X e (tE p ie)
  pt : PT X e (tT p ie)
  pw : boolB e = true → PW X e (tT p ie)
theorem Good.val {p : Pm} {X : Cx} {ie : IE} {e : Expr} (h : PE X e (tE p ie)) (he : ∀ whole, isTrue e X.env whole = (do let v ← whole; standAt e.pos; holding [v] (truthy v))) (hb : boolB e = false) : Good p X ie e :=
  ⟨h, pt_of h he, fun q => by rw [hb] at q; cases q⟩
def SE (f : Stat → IE → Expr → Bool) : Prop := ∀ Γ p X ie e, Ctx Γ p X → f Γ ie e = true → Good p X ie e
section
variable {Γ : Stat} {p : Pm} {X : Cx} {f : Stat → IE → Expr → Bool}
theorem Ctx.cmp (c : Ctx Γ p X) (op : COp) : CmpOk p X op := op_cmpD c.K (by have := c.hu; omega) (op_inDict c.K c.w (by have := c.hu; omega)) (op_notInDict c.K c.w (by have := c.hu; omega)) op
theorem SE.pe (ih : SE f) (c : Ctx Γ p X) : ∀ ie e, f Γ ie e = true → PE X e (tE p ie) := fun ie e h => (ih Γ p X ie e c h).pe
theorem se_b1 (ih : SE f) (c : Ctx Γ p X) {b : B1} {a : IE} {x b1 : Str} {y : Expr} {p1 pos : Pos} (h1 : globB Γ.sc x = true) (hb : bltN b = some (b1, none)) (hx : x = b1) (ho : b1ok b = true) (hs : starB y = false) (ha : f Γ a y = true) :
    PE X (.Call (.Name x p1) [y] [] pos) (tE p (.b1 b a)) := by
  subst hx
  have q := ih.pe c a y ha
  have hu := c.hu
  cases b with
  | len => cases hb; exact se_b1B c (cr_len c.K) (by decide +kernel) (by decide +kernel) h1 hs q
  | tuple => cases hb; exact se_b1T c (cr_tuple c.K) (by decide +kernel) (by decide +kernel) h1 hs q
  | list => cases hb; exact se_b1T c (cr_list c.K) (by decide +kernel) (by decide +kernel) h1 hs q
  | sorted => cases hb; exact se_b1B c (cr_sortedD c.K (by omega) (cr_sortedDict c.K c.calm (by omega))) (by decide +kernel) (by decide +kernel) h1 hs q
  | all => cases hb; exact se_b1B c (cr_allD c.K c.calm) (by decide +kernel) (by decide +kernel) h1 hs q
  | min => cases hb; exact se_b1B c (cr_min1 c) (by decide +kernel) (by decide +kernel) h1 hs q
  | _ => cases ho
theorem chkR_of {b : Str} {a : IE} {e : Expr} (h : chkR f Γ b a e = true) : ∃ x p1 y pos, e = .Call (.Name x p1) [y] [] pos ∧ globB Γ.sc x = true ∧ x = b ∧ starB y = false ∧ f Γ a y = true := by
  unfold chkR at h
  split at h
  · rename_i x p1 y pos
    obtain ⟨h, h4⟩ := ands h
    obtain ⟨h, h3⟩ := ands h
    obtain ⟨h1, h2⟩ := ands h
    exact ⟨x, p1, y, pos, rfl, h1, of_decide_eq_true h2, nots h3, h4⟩
  · cases h
theorem chkR2_of {b : Str} {a d : IE} {e : Expr} (h : chkR2 f Γ b a d e = true) : ∃ x p1 y z pos, e = .Call (.Name x p1) [y, z] [] pos ∧ globB Γ.sc x = true ∧ x = b ∧ starB y = false ∧ f Γ a y = true ∧ starB z = false ∧ f Γ d z = true := by
  unfold chkR2 at h
  split at h
  · rename_i x p1 y z pos
    obtain ⟨h, h6⟩ := ands h
    obtain ⟨h, h5⟩ := ands h
    obtain ⟨h, h4⟩ := ands h
    obtain ⟨h, h3⟩ := ands h
    obtain ⟨h1, h2⟩ := ands h
    exact ⟨x, p1, y, z, pos, rfl, h1, of_decide_eq_true h2, nots h3, h4, nots h5, h6⟩
  · cases h
theorem se_b2 (ih : SE f) (c : Ctx Γ p X) {b : B1} {a : IE} {x x2 b1 : Str} {y : Expr} {p1 p2 p3 pos : Pos} (h1 : globB Γ.sc x = true) (hb : bltN b = some (b1, some x2)) (hx : x = b1) (ho : b2ok b = true) (h2 : globB Γ.sc x2 = true) (hs : starB y = false) (ha : f Γ a y = true) :
    PE X (.Call (.Name x p1) [.Call (.Name x2 p2) [y] [] p3] [] pos) (tE p (.b1 b a)) := by
  subst hx
  have q := ih.pe c a y ha
  cases b with
  | lenSet => cases hb; exact se_lenSet c h1 h2 hs q
  | sortedSet => cases hb; exact se_sortedSet c h1 h2 hs q
  | listRange => cases hb; exact se_listRange c h1 h2 hs q
  | tupleRange => cases hb; exact se_tupleRange c h1 h2 hs q
  | listEnum => cases hb; exact se_listEnum c h1 h2 hs q
  | _ => cases ho
theorem true_of {c : IE} (h : trueI c = true) : c = .con (.bool true) := by
  unfold trueI at h
  split at h
  · rfl
  · cases h
theorem si_of (ih : SE f) (c : Ctx Γ p X) {it : It} {tg e : Expr} (h : chkI f Γ it tg e = true) : PI X tg e (tI p it) ∧ setB e = false := by
  cases it with
  | seq a =>
    obtain ⟨h1, h2⟩ := ands (show (f Γ a e && !setB e) = true from h)
    exact ⟨si_seq c (ih.pe c a e h1), nots h2⟩
  | rng a =>
    obtain ⟨x, p1, y, pos, rfl, h1, rfl, h3, h4⟩ := chkR_of (show chkR f Γ "range" a e = true from h)
    exact ⟨si_rng c h1 h3 (ih.pe c a y h4), rfl⟩
  | enu a =>
    obtain ⟨h0, h⟩ := ands (show (tupB tg && chkR f Γ "enumerate" a e) = true from h)
    obtain ⟨x, p1, y, pos, rfl, h1, rfl, h3, h4⟩ := chkR_of h
    cases tg with
    | Tuple elts kk tpos => exact ⟨si_enu c h1 h3 (ih.pe c a y h4), rfl⟩
    | _ => cases h0
  | zip a b =>
    obtain ⟨h0, h⟩ := ands (show (tupB tg && chkR2 f Γ "zip" a b e) = true from h)
    obtain ⟨x, p1, y, z, pos, rfl, h1, rfl, h3, h4, h5, h6⟩ := chkR2_of h
    cases tg with
    | Tuple elts kk tpos => exact ⟨si_zip c h1 h3 h5 (ih.pe c a y h4) (ih.pe c b z h6), rfl⟩
    | _ => cases h0
theorem lc_parts (ih : SE f) (c : Ctx Γ p X) {el c' : IE} {t : Tg} {it : It} {x tg iter : Expr} {ifs : List Expr} {scope : Scope} (h1 : chkI f Γ it tg iter = true) (h2 : chkT (Γ.blk scope) t tg = true) (h3 : blkC Γ.N Γ.sc scope (ownT t tg) = true)
    (h6 : chkF f (Γ.blk scope) c' ifs = true) (h7 : f (Γ.blk scope) el x = true) :
    PI X tg iter (tI p it) ∧ setB iter = false ∧ BlkOk X.N X.env.scope scope (ownT t tg) ∧ (∀ (s : Shared) (H : Hp) (D : Addr) (cl : List (Str × Addr)) (fp : List Addr), PG (X.blk s H scope (compEnvC scope cl D X.env) fp) tg (tG p.nox t)) ∧
    (∀ (s : Shared) (H : Hp) (D : Addr) (cl : List (Str × Addr)) (fp : List Addr), PTs (X.blk s H scope (compEnvC scope cl D X.env) fp) ifs (tT p.nox c')) ∧
    (∀ (s : Shared) (H : Hp) (D : Addr) (cl : List (Str × Addr)) (fp : List Addr), PE (X.blk s H scope (compEnvC scope cl D X.env) fp) x (tF p.nox el)) ∧
    ∀ σ H Q, tE p (.lc el t it c') σ H Q → tLc (tI p it) (tG p.nox t) (tT p.nox c') (tF p.nox el) (slotsT t) σ H Q := by
  obtain ⟨hi, hs⟩ := si_of ih c h1
  refine ⟨hi, hs, ?_, fun s H D cl fp => pg_T c.blk h2, ?_, fun s H D cl fp => pe_frz (ih _ _ _ el x c.blk h7).pe, ?_⟩
  · rw [c.N, c.sc]
    exact blkOk_by h3
  · intro s H D cl fp
    cases ifs with
    | nil =>
      have e := true_of (show trueI c' = true from h6)
      subst e
      refine ⟨fun pins s σ H Q I h => pts_nil.run pins s σ H Q I ?_⟩
      obtain ⟨ρ, τ, G, S, h⟩ := h
      exact h G H (Grow.refl S.sub) S.tw
    | cons z r =>
      cases r with
      | nil => exact pts_one (ih _ _ _ c' z c.blk h6).pt
      | cons _ _ => cases h6
  · intro σ H Q h
    obtain ⟨ρ, τ, G, S, h⟩ := h
    refine ⟨ρ, τ, G, S, Rdg.mono (Rdg.bind.mp h) (fun xs τ1 h G1 H1 g t1 J w D hD => ?_) fun _ _ z => z⟩
    by_cases hl : sizeLine < xs.length
    · rw [if_pos hl] at h
      exact (Rdg.bind.mp h).elim
    · rw [if_neg hl] at h
      exact lc_turns c (it := it) S g (S.grow g t1) w hD (by omega) (Rdg.noX (Rdg.bind.mp h))
theorem se_lc (ih : SE f) (c : Ctx Γ p X) {el c' : IE} {t : Tg} {it : It} {x tg iter : Expr} {ifs : List Expr} {scope : Scope} {pos : Pos} (h1 : chkI f Γ it tg iter = true) (h2 : chkT (Γ.blk scope) t tg = true) (h3 : blkC Γ.N Γ.sc scope (ownT t tg) = true)
    (h5 : (ownT t tg).map (·.2) = slotsT t) (h6 : chkF f (Γ.blk scope) c' ifs = true) (h7 : f (Γ.blk scope) el x = true) : PE X (.ListComp x [⟨tg, iter, ifs, 0⟩] scope pos) (tE p (.lc el t it c')) := by
  obtain ⟨hi, hs, ok, hg, ht, he, k⟩ := lc_parts ih c h1 h2 h3 h6 h7
  have q := pe_lc (pos := pos) c.calm (by rw [c.N]; exact c.nd) hi ok hg ht he (folded hs)
  rw [h5] at q
  exact PE.weak q k
end
theorem st_ite {p : Pm} {X : Cx} {c a b : IE} {x y z : Expr} {pos : Pos} (hc : PT X x (tT p c)) (ha : PT X y (tT p a)) (hb : PT X z (tT p b)) : PT X (.IfExp x y z pos) (tT p (.ite c a b)) := by
  refine ⟨fun pins s σ H Q I h => isTrue_IfExp (thn (hc.run pins s σ H (fun k H1 => if k = true then tT p a σ H1 Q else tT p b σ H1 Q) I ?_) fun k s1 hh => ?_)⟩
  · obtain ⟨ρ, τ, G, S, h⟩ := h
    refine stepT S (Rdg.bind.mp (Rdg.bind.mp h)) fun k τ1 h G1 H1 g S1 => ?_
    cases k with
    | true => exact iteT ⟨ρ, τ1, G1, S1, want_more g (Rdg.bind.mpr (Rdg.strict (Rdg.ift h)).2)⟩
    | false => exact iteF ⟨ρ, τ1, G1, S1, want_more g (Rdg.bind.mpr (Rdg.strict (Rdg.iff h)).2)⟩
  · obtain ⟨H1, I1, q⟩ := hh
    cases k with
    | true => exact ha.run pins s1 σ H1 Q I1 q
    | false => exact hb.run pins s1 σ H1 Q I1 q
theorem step_sound {f : Stat → IE → Expr → Bool} (ih : SE f) : SE (chkStep f) := by
  intro Γ p X ie e c h
  cases ie with
  | con x =>
    unfold chkStep at h
    simp only at h
    split at h
    · rename_i i k pos j
      obtain rfl := of_decide_eq_true h
      exact .val se_int (fun _ => rfl) rfl
    · rename_i b k pos d
      obtain rfl : b = d := by simpa using h
      exact .val se_bl (fun _ => rfl) rfl
    · exact .val se_non (fun _ => rfl) rfl
    · rename_i y k pos z
      obtain rfl := of_decide_eq_true h
      exact .val se_str (fun _ => rfl) rfl
    · cases h
  | glo g =>
    unfold chkStep at h
    simp only at h
    split at h
    · obtain ⟨h1, h2⟩ := ands h
      exact .val (se_glo c h1 (List.contains_iff_mem.mp h2)) (fun _ => rfl) rfl
    · cases h
  | fnv fi =>
    unfold chkStep at h
    simp only at h
    split at h
    · rename_i x pos
      obtain ⟨h1, h2⟩ := ands h
      obtain ⟨q, hq, e⟩ := List.any_eq_true.mp h2
      obtain ⟨e1, e2⟩ := of_decide_eq_true e
      subst e1 e2
      exact .val (se_fnv (np := q.2.2) c h1 hq) (fun _ => rfl) rfl
    · cases h
  | var i =>
    unfold chkStep at h
    simp only at h
    split at h
    · obtain ⟨h, h3⟩ := ands h
      obtain ⟨h1, h2⟩ := ands h
      exact .val (se_var c (of_decide_eq_true h1) h2 h3) (fun _ => rfl) rfl
    · cases h
  | neg a =>
    unfold chkStep at h
    simp only at h
    split at h
    · exact .val (se_neg (ih.pe c _ _ h)) (fun _ => rfl) rfl
    · cases h
  | bin op a b =>
    unfold chkStep at h
    simp only at h
    split at h
    · obtain ⟨h, h3⟩ := ands h
      obtain ⟨h1, h2⟩ := ands h
      exact .val (se_bin c h1 (ih.pe c _ _ h2) (ih.pe c _ _ h3)) (fun _ => rfl) rfl
    · cases h
  | cmp op a b =>
    unfold chkStep at h
    simp only at h
    split at h
    · obtain ⟨h, h4⟩ := ands h
      obtain ⟨h, h3⟩ := ands h
      obtain ⟨h1, h2⟩ := ands h
      have q := se_cmp (pos := by assumption) (c.cmp op) h1 (nots h2) (ih.pe c _ _ h3) (ih.pe c _ _ h4)
      exact ⟨q.1, q.2, fun z => by cases z⟩
    · cases h
  | chn q r a b d =>
    unfold chkStep at h
    simp only at h
    split at h
    · obtain ⟨h, h6⟩ := ands h
      obtain ⟨h, h5⟩ := ands h
      obtain ⟨h, h4⟩ := ands h
      obtain ⟨h, h3⟩ := ands h
      obtain ⟨h1, h2⟩ := ands h
      have q := se_chn (pos := by assumption) (c.cmp q) (c.cmp r) h1 h2 (nots h3) (ih.pe c _ _ h4) (ih.pe c _ _ h5) (ih.pe c _ _ h6)
      exact ⟨q.1, q.2, fun z => by cases z⟩
    · cases h
  | and a b =>
    unfold chkStep at h
    simp only at h
    split at h
    · obtain ⟨h1, h2⟩ := ands h
      have g1 := ih _ _ _ _ _ c h1
      have g2 := ih _ _ _ _ _ c h2
      have w := sw_and (pos := by assumption) g1.pt (pw_and1 g2.pt)
      exact ⟨se_and g1.pe (pe_one g2.pe), w.pt, fun _ => w⟩
    · obtain ⟨h1, h2⟩ := ands h
      have g1 := ih _ _ _ _ _ c h1
      have g2 := ih _ _ _ _ _ c h2
      have w := sw_and (pos := by assumption) g1.pt (g2.pw rfl)
      exact ⟨se_and g1.pe g2.pe, w.pt, fun _ => w⟩
    · cases h
  | or a b =>
    unfold chkStep at h
    simp only at h
    split at h
    · obtain ⟨h1, h2⟩ := ands h
      have g1 := ih _ _ _ _ _ c h1
      have g2 := ih _ _ _ _ _ c h2
      have w := sw_or (pos := by assumption) g1.pt (pw_or1 g2.pt)
      exact ⟨se_or g1.pe (pe_one g2.pe), w.pt, fun _ => w⟩
    · obtain ⟨h1, h2⟩ := ands h
      have g1 := ih _ _ _ _ _ c h1
      have g2 := ih _ _ _ _ _ c h2
      have w := sw_or (pos := by assumption) g1.pt (g2.pw rfl)
      exact ⟨se_or g1.pe g2.pe, w.pt, fun _ => w⟩
    · cases h
  | not a =>
    unfold chkStep at h
    simp only at h
    split at h
    · have g1 := ih _ _ _ _ _ c h
      exact ⟨se_not g1.pe, st_not g1.pt, fun z => by cases z⟩
    · cases h
  | ite d a b =>
    unfold chkStep at h
    simp only at h
    split at h
    · obtain ⟨h, h3⟩ := ands h
      obtain ⟨h1, h2⟩ := ands h
      have g1 := ih _ _ _ _ _ c h1
      have g2 := ih _ _ _ _ _ c h2
      have g3 := ih _ _ _ _ _ c h3
      exact ⟨se_ite g1.pt g2.pe g3.pe, st_ite g1.pt g2.pt g3.pt, fun z => by cases z⟩
    · cases h
  | tup es =>
    unfold chkStep at h
    simp only at h
    split at h
    · obtain ⟨h1, h2⟩ := ands h
      exact .val (se_tup (ih.pe c) (of_decide_eq_true h1) h2) (fun _ => rfl) rfl
    · cases h
  | lst es =>
    unfold chkStep at h
    simp only at h
    split at h
    · obtain ⟨h1, h2⟩ := ands h
      exact .val (se_lst (ih.pe c) (of_decide_eq_true h1) h2) (fun _ => rfl) rfl
    · cases h
  | sub a i =>
    unfold chkStep at h
    simp only at h
    split at h
    · obtain ⟨h, h3⟩ := ands h
      obtain ⟨h1, h2⟩ := ands h
      exact .val (se_sub c (nots h1) (ih.pe c _ _ h2) (ih.pe c _ _ h3)) (fun _ => rfl) rfl
    · cases h
  | slc a lo hi =>
    unfold chkStep at h
    simp only at h
    split at h
    · obtain ⟨h, h3⟩ := ands h
      obtain ⟨h1, h2⟩ := ands h
      exact .val (se_slc c (ih.pe c) h1 h2 h3) (fun _ => rfl) rfl
    · cases h
  | call fi es =>
    unfold chkStep at h
    simp only at h
    split at h
    · obtain ⟨h, h3⟩ := ands h
      obtain ⟨h1, h2⟩ := ands h
      exact .val (se_call c (ih.pe c) h1 (List.contains_iff_mem.mp h2) h3) (fun _ => rfl) rfl
    · cases h
  | b1 b a =>
    unfold chkStep at h
    simp only at h
    split at h
    · obtain ⟨h1, h⟩ := ands h
      split at h
      · rename_i s hb
        obtain ⟨h, h4⟩ := ands h
        obtain ⟨h, h3⟩ := ands h
        obtain ⟨h0, h2⟩ := ands h
        exact .val (se_b1 ih c h1 hb (of_decide_eq_true h2) h0 (nots h3) h4) (fun _ => rfl) rfl
      · rename_i b1' b2' hb
        obtain ⟨h, h4⟩ := ands h
        obtain ⟨h0, h2⟩ := ands h
        obtain ⟨x2, p2, y2, pos2, rfl, k1, rfl, k3, k4⟩ := chkR_of h4
        exact .val (se_b2 ih c h1 hb (of_decide_eq_true h2) h0 k1 k3 k4) (fun _ => rfl) rfl
      · cases h
    · cases h
  | isi T a =>
    unfold chkStep at h
    simp only at h
    split at h
    · obtain ⟨h, h6⟩ := ands h
      obtain ⟨h, h5⟩ := ands h
      obtain ⟨h, h4⟩ := ands h
      obtain ⟨h, h3⟩ := ands h
      obtain ⟨h1, h2⟩ := ands h
      obtain rfl := of_decide_eq_true h2
      obtain rfl := of_decide_eq_true h4
      exact .val (se_isi c h1 h3 (nots h5) (ih.pe c _ _ h6)) (fun _ => rfl) rfl
    · cases h
  | lc el t it d =>
    unfold chkStep at h
    simp only at h
    split at h
    · obtain ⟨h, h7⟩ := ands h
      obtain ⟨h, h6⟩ := ands h
      obtain ⟨h, h5⟩ := ands h
      obtain ⟨h, h4⟩ := ands h
      obtain ⟨h, h3⟩ := ands h
      obtain ⟨h1, h2⟩ := ands h
      exact .val (se_lc ih c h1 h2 h3 (of_decide_eq_true h5) h6 h7) (fun _ => rfl) rfl
    · cases h
  | rev a =>
    unfold chkStep at h
    simp only at h
    split at h
    · exact .val (se_rev c (ih.pe c _ _ h)) (fun _ => rfl) rfl
    · cases h
  | min2 a b =>
    obtain ⟨x, p1, y, z, pos, rfl, h1, rfl, h3, h4, h5, h6⟩ := chkR2_of (show chkR2 f Γ "min" a b e = true from h)
    exact .val (se_min2 c h1 h3 h5 (ih.pe c _ _ h4) (ih.pe c _ _ h6)) (fun _ => rfl) rfl
  | get a k d =>
    unfold chkStep at h
    simp only at h
    split at h
    · obtain ⟨h, h7⟩ := ands h
      obtain ⟨h, h6⟩ := ands h
      obtain ⟨h, h5⟩ := ands h
      obtain ⟨h, h4⟩ := ands h
      obtain ⟨h, h3⟩ := ands h
      obtain ⟨h1, h2⟩ := ands h
      have h1 := of_decide_eq_true h1
      subst h1
      exact .val (se_get c (nots h3) (nots h5) h7 (ih.pe c _ _ h2) (ih.pe c _ _ h4) (ih.pe c _ _ h6)) (fun _ => rfl) rfl
    · cases h
  | dsub i k =>
    unfold chkStep at h
    simp only at h
    split at h
    · obtain ⟨h, h5⟩ := ands h
      obtain ⟨h, h4⟩ := ands h
      obtain ⟨h, h3⟩ := ands h
      obtain ⟨h1, h2⟩ := ands h
      exact .val (se_dsub c (nots h1) (of_decide_eq_true h2) h3 h4 (ih.pe c _ _ h5)) (fun _ => rfl) rfl
    · cases h
  | dis es =>
    unfold chkStep at h
    simp only at h
    split at h
    · exact .val (se_dis0 c) (fun _ => rfl) rfl
    · obtain ⟨h1, h2⟩ := ands h
      exact .val (se_dis1 c (ih.pe c _ _ h1) (ih.pe c _ _ h2)) (fun _ => rfl) rfl
    · cases h
  | _ => cases h
theorem expr_sound : ∀ n, SE (chkE n)
  | 0 => fun _ _ _ _ _ _ h => by cases h
  | n + 1 => step_sound (expr_sound n)
end Bk
namespace Bk
open PySem PySem.Spec PyProof.Rows L2
section
variable {C : Cf} {G₀ H₀ G H : Hp} {ρ : Ev} {τ : Town} {σ : L2.St}
theorem ownL {x : PyData} {a : Addr} (h : OwnAt C G H a x) : H a ≠ none := by
  cases x with
  | list _ => obtain ⟨xs, h1, _⟩ := h; rw [h1]; simp
  | dict _ => obtain ⟨o, xs, h1, _⟩ := h; rw [h1]; simp
  | tuple _ => obtain ⟨kv, h1, _⟩ := h; rw [h1]; simp
  | _ => exact h.elim
/-- a new list or dict, owned by a name from now on -/
theorem SR.setOwn (S : SR C G₀ H₀ ρ τ G H σ) {i : Nat} {a : Addr} {x : PyData} (hi : i < ρ.length) (hg : G a = none) (h0 : H₀ a = none) (n1 : a ≠ C.aT) (n2 : a ≠ C.aR) (ow : OwnAt C G H a x)
    (hd : ∀ j y, slotAt ρ j = .own y → σ[j]? ≠ some (some (.ref a))) : SR C G₀ H₀ (ρ.set i (.own x)) τ G H (σ.set i (some (.ref a))) where
  e := S.e
  gt := S.gt
  gr := S.gr
  tw := S.tw
  len := by simp [S.len]
  sl := fun j w h => by
    by_cases hj : j = i
    · subst hj
      rw [slot_set_same hi] at h
      cases h
    · rw [slot_set_ne hj] at h
      rw [List.getElem?_set_ne (Ne.symm hj)]
      exact S.sl j w h
  ow := fun j y h => by
    by_cases hj : j = i
    · subst hj
      rw [slot_set_same hi] at h
      cases h
      exact ⟨a, by rw [List.getElem?_set_self (by rw [← S.len]; exact hi)], hg, h0, n1, n2, ow⟩
    · rw [slot_set_ne hj] at h
      rw [List.getElem?_set_ne (Ne.symm hj)]
      exact S.ow j y h
  ds := fun j k y z b h1 h2 e1 e2 => by
    by_cases hj : j = i
    · subst hj
      rw [List.getElem?_set_self (by rw [← S.len]; exact hi)] at e1
      cases e1
      by_cases hk : k = j
      · exact hk.symm
      · rw [slot_set_ne hk] at h2
        rw [List.getElem?_set_ne (Ne.symm hk)] at e2
        exact absurd e2 (hd k z h2)
    · rw [slot_set_ne hj] at h1
      rw [List.getElem?_set_ne (Ne.symm hj)] at e1
      by_cases hk : k = i
      · subst hk
        rw [List.getElem?_set_self (by rw [← S.len]; exact hi)] at e2
        cases e2
        exact absurd e1 (hd j y h1)
      · rw [slot_set_ne hk] at h2
        rw [List.getElem?_set_ne (Ne.symm hk)] at e2
        exact S.ds j k y z b h1 h2 e1 e2
/-- an owned list that is named itself is frozen -/
theorem SR.frz (S : SR C G₀ H₀ ρ τ G H σ) {i : Nat} {x : PyData} (nt : isTup x = false) (h : slotAt ρ i = .own x) : ∃ a G2, σ[i]? = some (some (.ref a)) ∧ SR C G₀ H₀ (ρ.set i (.val (.d x))) τ G2 H σ ∧ VR C G2 (.ref a) (.d x) ∧ ∀ b o, G b = some o → G2 b = some o := by
  obtain ⟨a, e1, g1, g2, n1, n2, ow⟩ := S.ow i x h
  obtain ⟨G2, m1, m2, m3, m4⟩ := freeze S.sub nt ow g1
  have hi : i < ρ.length := by
    rw [S.len]
    exact (List.getElem?_eq_some_iff.mp e1).1
  refine ⟨a, G2, e1, ?_, m4, m1⟩
  exact {
    e := ⟨fun b o q => m1 b o (S.e.g b o q), m2, S.e.k, S.e.t, fun b hb => by rw [m3 b (fun q => hb (by rw [q]; exact g2)), S.e.o b hb]⟩
    gt := by rw [m3 _ (Ne.symm n1)]; exact S.gt
    gr := by rw [m3 _ (Ne.symm n2)]; exact S.gr
    tw := S.tw
    len := by simp [S.len]
    sl := fun j w q => by
      by_cases hj : j = i
      · subst hj
        rw [slot_set_same hi] at q
        cases q
        exact ⟨_, e1, m4⟩
      · rw [slot_set_ne hj] at q
        obtain ⟨u, q1, q2⟩ := S.sl j w q
        exact ⟨u, q1, VR.mono m1 q2⟩
    ow := fun j y q => by
      by_cases hj : j = i
      · subst hj
        rw [slot_set_same hi] at q
        cases q
      · rw [slot_set_ne hj] at q
        obtain ⟨b, q1, q2, q3, q4, q5, q6⟩ := S.ow j y q
        have hb : b ≠ a := fun z => hj (S.ds j i y x a q h (by rw [← z]; exact q1) e1)
        exact ⟨b, q1, by rw [m3 b hb]; exact q2, q3, q4, q5, OwnAt.mono m1 (fun _ z => z) q6⟩
    ds := fun j k y z b h1 h2 e1' e2' => by
      have hj : j ≠ i := fun q => by
        subst q
        rw [slot_set_same hi] at h1
        cases h1
      have hk : k ≠ i := fun q => by
        subst q
        rw [slot_set_same hi] at h2
        cases h2
      rw [slot_set_ne hj] at h1
      rw [slot_set_ne hk] at h2
      exact S.ds j k y z b h1 h2 e1' e2' }
/-- an owned list or dict is changed -/
theorem SR.chg (S : SR C G₀ H₀ ρ τ G H σ) {i : Nat} {x x' : PyData} {a : Addr} {o : HO} (h : slotAt ρ i = .own x) (ha : σ[i]? = some (some (.ref a))) (hn : OwnAt C G (upd H a o) a x') : SR C G₀ H₀ (ρ.set i (.own x')) τ G (upd H a o) σ := by
  obtain ⟨a', e1, g1, g2, n1, n2, ow⟩ := S.ow i x h
  rw [ha] at e1
  cases e1
  have hi : i < ρ.length := by
    rw [S.len]
    exact (List.getElem?_eq_some_iff.mp ha).1
  have nf : ∀ ob u, H a ≠ some (.frz ob u) := fun ob u q => by
    cases x with
    | list _ => obtain ⟨xs, h1, _⟩ := ow; rw [q] at h1; cases h1
    | dict _ => obtain ⟨o, xs, h1, _⟩ := ow; rw [q] at h1; cases h1
    | tuple _ => obtain ⟨kv, h1, _⟩ := ow; rw [q] at h1; cases h1
    | _ => exact ow.elim
  obtain ⟨u, hu, nc⟩ : ∃ u, H a = some u ∧ NoCode u := by
    cases x with
    | list _ => obtain ⟨xs, h1, _⟩ := ow; exact ⟨_, h1, noCode_lst⟩
    | dict _ => obtain ⟨o, xs, h1, _⟩ := ow; exact ⟨_, h1, noCode_DO⟩
    | tuple _ => obtain ⟨kv, h1, _⟩ := ow; exact ⟨_, h1, noCode_dK⟩
    | _ => exact ow.elim
  exact {
    e := {
      g := S.e.g
      s := fun b u q => by
        rw [upd_ne (ne_of_none q g1)]
        exact S.e.s b u q
      k := fun b u q f => by
        rw [upd_ne (ne_of_none q g2)]
        exact S.e.k b u q f
      t := fun b q => by
        rw [upd_ne (fun z => q (by rw [z]; exact g2))]
        exact S.e.t b q
      o := S.e.o }
    gt := S.gt
    gr := S.gr
    tw := {
      t := by rw [upd_ne (Ne.symm n1)]; exact S.tw.t
      r := by rw [upd_ne (Ne.symm n2)]; exact S.tw.r
      n := S.tw.n
      ne := S.tw.ne
      k := S.tw.k
      nd := S.tw.nd
      s := S.tw.s.keep fun ob u q => by
        rw [upd_ne (fun z => nf ob u (by rw [← z]; exact q))]
        exact q
      sl := S.tw.sl
      tb := Tabs.upd S.tw.tb hu nc }
    len := by simp [S.len]
    sl := fun j w q => by
      have hj : j ≠ i := fun z => by
        subst z
        rw [slot_set_same hi] at q
        cases q
      rw [slot_set_ne hj] at q
      exact S.sl j w q
    ow := fun j y q => by
      by_cases hj : j = i
      · subst hj
        rw [slot_set_same hi] at q
        cases q
        exact ⟨a, ha, g1, g2, n1, n2, hn⟩
      · rw [slot_set_ne hj] at q
        obtain ⟨b, q1, q2, q3, q4, q5, q6⟩ := S.ow j y q
        have hb : b ≠ a := fun z => hj (S.ds j i y x a q h (by rw [← z]; exact q1) ha)
        exact ⟨b, q1, q2, q3, q4, q5, OwnAt.mono (fun _ _ z => z) (fun u z => by rw [upd_ne hb]; exact z) q6⟩
    ds := fun j k y z b h1 h2 e1 e2 => by
      have f : ∀ j y, slotAt (ρ.set i (.own x')) j = .own y → ∃ y', slotAt ρ j = .own y' := fun j y q => by
        by_cases hj : j = i
        · subst hj
          exact ⟨x, h⟩
        · rw [slot_set_ne hj] at q
          exact ⟨y, q⟩
      obtain ⟨y', h1⟩ := f j y h1
      obtain ⟨z', h2⟩ := f k z h2
      exact S.ds j k y' z' b h1 h2 e1 e2 }
end
section
variable {Γ : Stat} {p : Pm} {X : Cx} {pos : Pos}
/-- a value for a name, or for a way out -/
def tA (p : Pm) (e : IE) : TE := fun σ H Q => ∃ ρ τ G, SRp p ρ τ G H σ ∧ Rdg (evA p.gl p.φ e ρ τ) (fun r τ' => ∀ v G' H', SRp p r.2 τ' G' H' σ → (∀ a o, G a = some o → G' a = some o) → VR p.C G' v r.1 → Q v H') (Xc p)
theorem tA_plain {e : IE} {σ : L2.St} {H : Hp} {Q : VK} (hv : ∀ i, e ≠ .var i) (hi : ∀ c a b, e ≠ .ite c a b) (h : tA p e σ H Q) : tE p e σ H Q := by
  obtain ⟨ρ, τ, G, S, h⟩ := h
  have ea : evA p.gl p.φ e ρ = (do
    let v ← ev p.gl p.φ e ρ
    pure (v, ρ)) := by
    cases e with
    | var i => exact absurd rfl (hv i)
    | ite c a b => exact absurd rfl (hi c a b)
    | _ => rfl
  rw [ea] at h
  refine stepE S (Rdg.bind.mp h) fun val τ1 o v G1 H1 g S1 po => ?_
  have ho : isOwn e ρ = false := by
    cases e with
    | var i => exact absurd rfl (hv i)
    | _ => rfl
  obtain ⟨G2, g2, r⟩ := Post.frz ho g po
  exact o v G2 H1 (S.grow g2 S1.tw) g2.g r
theorem pe_A (c : Ctx Γ p X) : ∀ (n : Nat) {ie : IE} {e : Expr}, chkE n Γ ie e = true → PE X e (tA p ie)
  | 0, _, _, h => by cases h
  | n + 1, ie, e, h => by
    have q := (expr_sound (n + 1) Γ p X ie e c h).pe
    cases ie with
    | var i =>
      refine PE.weak q fun σ H Q w => ?_
      obtain ⟨ρ, τ, G, S, w⟩ := w
      have w : Rdg ((match slotAt ρ i with
        | .val v => pure (v, ρ)
        | .own x => if isTup x = true then M.fail else pure (.d x, ρ.set i (.val (.d x)))
        | .emp => M.fail : M (Val × Ev)) τ) (fun r τ' => ∀ v G' H', SRp p r.2 τ' G' H' σ → (∀ a o, G a = some o → G' a = some o) → VR p.C G' v r.1 → Q v H') (Xc p) := w
      refine ⟨ρ, τ, G, S, ?_⟩
      show Rdg ((match slotAt ρ i with
        | .val v => pure v
        | .own x => if isTup x = true then M.fail else pure (.d x)
        | .emp => M.fail : M Val) τ) _ _
      cases e : slotAt ρ i with
      | emp => rw [e] at w; exact w.elim
      | val v =>
        rw [e] at w
        intro G' H' g t u po
        have po : σ[i]? = some (some u) ∧ ((slotAt ρ i = .val v ∧ VR p.C G' u v) ∨ ∃ x, slotAt ρ i = .own x ∧ v = .d x ∧ ∃ a, u = .ref a ∧ a ≠ p.C.aT ∧ a ≠ p.C.aR ∧ isTup x = false ∧ OwnAt p.C G' H' a x) := po
        rcases po.2 with ⟨_, r⟩ | ⟨x, q1, _⟩
        · exact w u G' H' (S.grow g t) g.g r
        · rw [e] at q1
          cases q1
      | own x =>
        rw [e] at w
        have w : Rdg ((if isTup x = true then M.fail else pure (.d x, ρ.set i (.val (.d x))) : M (Val × Ev)) τ) _ _ := w
        obtain ⟨nt, w⟩ := Rdg.strict w
        show Rdg ((if isTup x = true then M.fail else pure (.d x) : M Val) τ) _ _
        rw [nt, if_neg Bool.false_ne_true]
        intro G' H' g t u po
        have po : σ[i]? = some (some u) ∧ _ := po
        obtain ⟨a, G2, e1, S2, r, m⟩ := (S.grow g t).frz nt e
        rw [e1] at po
        obtain ⟨e2, _⟩ := po
        cases e2
        exact w _ G2 H' S2 (fun b o q => m b o (g.g b o q)) r
    | ite d a b =>
      have h : chkStep (chkE n) Γ (.ite d a b) e = true := h
      unfold chkStep at h
      simp only at h
      split at h
      · obtain ⟨h, h3⟩ := ands h
        obtain ⟨h1, h2⟩ := ands h
        refine PE.weak (pe_ifExp (expr_sound n Γ p X _ _ c h1).pt (pe_A c n h2) (pe_A c n h3)) fun σ H Q w => ?_
        obtain ⟨ρ, τ, G, S, w⟩ := w
        refine stepT S (Rdg.bind.mp w) fun k τ1 w G1 H1 g S1 => ?_
        cases k with
        | true => exact iteT ⟨ρ, τ1, G1, S1, Rdg.mono (Rdg.ift w) (fun r τ' o v G' H' S' m => o v G' H' S' fun b u q => m b u (g.g b u q)) fun _ _ z => z⟩
        | false => exact iteF ⟨ρ, τ1, G1, S1, Rdg.mono (Rdg.iff w) (fun r τ' o v G' H' S' m => o v G' H' S' fun b u q => m b u (g.g b u q)) fun _ _ z => z⟩
      · cases h
    | _ => exact PE.weak q fun σ H Q w => tA_plain (fun _ z => nomatch z) (fun _ _ _ z => nomatch z) w
/-! ### statements -/
def lcB : Expr → Bool
  | .ListComp .. => true
  | .SetComp .. => true
  | .DictComp .. => true
  | _ => false
theorem noswap {e tg : Expr} {l : Nat} {env : Env} (h : lcB e = false) : swapsWithSole [tg] e l env = pure false := by
  cases e with
  | ListComp _ _ _ _ => cases h
  | SetComp _ _ _ _ => cases h
  | DictComp _ _ _ _ _ => cases h
  | _ => rfl
theorem noswap1 {e : Expr} {tg : Option Expr} {l : Nat} {env : Env} (h : lcB e = false) : swapsWith e tg l env = pure false := by
  cases e with
  | ListComp _ _ _ _ => cases h
  | SetComp _ _ _ _ => cases h
  | DictComp _ _ _ _ _ => cases h
  | _ => rfl
theorem nostores {e tg : Expr} {env : Env} (h : tupB e = false) : swappedStores [tg] e env = pure none := by
  cases e with
  | Tuple _ _ _ => cases h
  | _ => cases tg <;> rfl
theorem nostores1 {e : Expr} {x : Str} {q : Pos} {env : Env} : swappedStores [.Name x q] e env = pure none := by
  cases e <;> rfl
theorem oneT {t : Tg} {tg : Expr} {env : Env} (h : chkT Γ t tg = true) : (assignEach [tg] env).map (·.2) = [assign tg env] := by
  rw [star_asg (chkT_star h)]
  rfl
/-- behind an assignment -/
theorem asg_read {t : Tg} {e : IE} {D : Ends} {σ : L2.St} {H : Hp} (h : tS p (.asg t e) D σ H) : tAsg (tA p e) (tG p t) D σ H := by
  obtain ⟨ρ, τ, G, S, h⟩ := h
  refine ⟨ρ, τ, G, S, Rdg.mono (Rdg.bind.mp h) (fun r τ' h v G' H' S' m rv => ?_) fun _ _ z => z⟩
  obtain ⟨ρ'', e', h⟩ := Rdg.opt (Rdg.bind.mp h)
  exact ⟨r.2, τ', G', r.1, ρ'', S', rv, e', fun σ' S'' _ => h σ' G' H' S'' m⟩
theorem ss_asg (c : Ctx Γ p X) {n : Nat} {t : Tg} {e : IE} {tg v : Expr} (h1 : chkT Γ t tg = true) (h2 : chkE n Γ e v = true) (h3 : lcB v = false) (h4 : tupB v = false ∨ ∃ x q, tg = .Name x q) : PS X (.Assign [tg] v pos) (tS p (.asg t e)) := by
  refine PS.weak (ps_asg (pe_A c n h2) (pg_T c h1) (noswap h3) ?_ (oneT h1)) fun D σ H h => asg_read h
  rcases h4 with h4 | ⟨x, q, rfl⟩
  · exact nostores h4
  · exact nostores1
theorem own_read {i : Nat} {e : IE} {D : Ends} {σ : L2.St} {H : Hp} (h : tS p (.own i e) D σ H) : tAsg (tE p e) (gName i) D σ H := by
  obtain ⟨ρ, τ, G, S, h⟩ := h
  by_cases hf : fresh e = true
  · have h : Rdg ((if fresh e = true then do
      let v ← ev p.gl p.φ e ρ
      let ρ' ← M.opt (setOwn i v ρ)
      pure (.next ρ')
    else M.fail : M Fl) τ) (Beh p D G) (Xc p) := h
    rw [if_pos hf] at h
    refine stepE S (Rdg.bind.mp h) fun val τ1 o v G1 H1 g S1 po => ?_
    obtain ⟨ρ', e1, o⟩ := Rdg.opt (Rdg.bind.mp o)
    unfold Post at po
    rw [if_pos hf] at po
    obtain ⟨a, x, rfl, rfl, h0, h1, n1, n2, nt, ow⟩ := po
    have hs : i < ρ.length ∧ ρ' = ρ.set i (.own x) := by
      cases x with
      | list ds =>
        obtain ⟨q1, q2⟩ := iteS (show (if i < ρ.length then some (ρ.set i (.own (.list ds))) else none) = some ρ' from e1)
        exact ⟨q1, q2.symm⟩
      | dict ds =>
        obtain ⟨q1, q2⟩ := iteS (show (if i < ρ.length then some (ρ.set i (.own (.dict ds))) else none) = some ρ' from e1)
        exact ⟨q1, q2.symm⟩
      | _ => cases e1
    obtain ⟨hi, rfl⟩ := hs
    refine o _ _ _ (S1.setOwn hi h1 ?_ n1 n2 ow fun j y q z => ?_) g.g
    · cases q : p.H₀ a with
      | none => rfl
      | some u => exact absurd h0 (S.e.t a (by rw [q]; simp))
    · obtain ⟨b, e1, _, _, _, _, ow'⟩ := S.ow j y q
      rw [e1] at z
      cases z
      exact ownL ow' h0
  · have h : Rdg ((if fresh e = true then do
      let v ← ev p.gl p.φ e ρ
      let ρ' ← M.opt (setOwn i v ρ)
      pure (.next ρ')
    else M.fail : M Fl) τ) (Beh p D G) (Xc p) := h
    rw [if_neg hf] at h
    exact h.elim
/-- a name that is stored -/
theorem name_of (c : Ctx Γ p X) {i : Nat} {x : Str} {q : Pos} (h : chkT Γ (.nm i) (.Name x q) = true) : X.N[i]? = some x ∧ Loc X.env.scope x ∧ (X.fn x = true ∨ X.env.scope.names.lookup x = some .local) := by
  obtain ⟨h, h3⟩ := ands (show (decide (Γ.N[i]? = some x) && plainN x && (decide (Γ.sc.names.lookup x = some .local) || (Γ.top && decide (Γ.sc.names.lookup x = some .cell)))) = true from h)
  obtain ⟨h1, h2⟩ := ands h
  refine ⟨by rw [c.N]; exact of_decide_eq_true h1, ?_⟩
  rw [c.sc]
  rcases Bool.or_eq_true_iff.mp h3 with q | q
  · exact ⟨.inl (of_decide_eq_true q), .inr (of_decide_eq_true q)⟩
  · obtain ⟨q1, q2⟩ := ands q
    exact ⟨.inr (of_decide_eq_true q2), .inl (c.tp q1 x)⟩
theorem ss_own (c : Ctx Γ p X) {n i : Nat} {e : IE} {x : Str} {q : Pos} {v : Expr} (h1 : chkT Γ (.nm i) (.Name x q) = true) (h2 : chkE n Γ e v = true) (h3 : lcB v = false) : PS X (.Assign [.Name x q] v pos) (tS p (.own i e)) := by
  obtain ⟨a, b, d⟩ := name_of c h1
  exact PS.weak (ps_set (by rw [c.N]; exact c.nd) a b (expr_sound n Γ p X e v c h2).pe (noswap1 h3) d) fun D σ H h => own_read h
/-- name = [..], on one line, the name a local -/
theorem ss_lc (c : Ctx Γ p X) {n i : Nat} {el c' : IE} {t : Tg} {it : It} {y : Str} {py lpos : Pos} {x tg iter : Expr} {ifs : List Expr} {scope : Scope} (hk : Γ.sc.kind = .function) (h0 : Γ.N[i]? = some y) (hy : Γ.sc.names.lookup y = some .local) (hl : (py.line == lpos.line) = true)
    (ha : (scope.names.any fun (n, k) => n == y && (k == .local || k == .cell)) = false) (h1 : chkI (chkE n) Γ it tg iter = true) (h2 : chkT (Γ.blk scope) t tg = true) (h3 : blkC Γ.N Γ.sc scope (ownT t tg) = true)
    (h5 : (ownT t tg).map (·.2) = slotsT t) (h6 : chkF (chkE n) (Γ.blk scope) c' ifs = true) (h7 : chkE n (Γ.blk scope) el x = true) :
    PS X (.Assign [.Name y py] (.ListComp x [⟨tg, iter, ifs, 0⟩] scope lpos) pos) (tAsg (tE p (.lc el t it c')) (gName i)) := by
  obtain ⟨hi, hs, ok, hg, ht, he, k⟩ := lc_parts (expr_sound n) c h1 h2 h3 h6 h7
  have q := ps_setLc (i := i) (y := y) (py := py) (pos := lpos) (spos := pos) c.calm (by rw [c.N]; exact c.nd) (by rw [c.N]; exact h0) (by rw [c.sc]; exact hy) (sw_true (by rw [c.sc]; exact hk) (by rw [c.sc]; exact hy) hl ha) hi ok hg ht he (folded hs)
  rw [h5] at q
  exact PS.weak q fun D σ H h => k σ H _ h
end
end Bk
namespace Bk
open PySem PySem.Spec PyProof.Rows L2
def swB (sc : Scope) (ts vs : List Expr) : Option (Option (List Str)) :=
  if (!(ts.length == 2 || ts.length == 3) || vs.length != ts.length) = true then some none
  else if (vs.any fun | .Starred .. => true | _ => false) = true then some none
  else
    let line := (ts.head?.map (·.pos.line)).getD 0
    let names := ts.filterMap fun
      | .Name id pos => if (sc.names.lookup id == some .local && pos.line == line) = true then some id else none
      | _ => none
    if (names.length != ts.length || names.eraseDups.length != names.length) = true then some none
    else if vs.all (foldedForSure 8) = true then some none
    else if vs.all (constantsAlone 8) = true then none else some (some names)
theorem swB_ok {env : Env} {ts vs : List Expr} {k k2 : Nat} {q q2 : Pos} {r : Option (List Str)} (hk : env.scope.kind = .function) (h : swB env.scope ts vs = some r) : swappedStores [.Tuple ts k q] (.Tuple vs k2 q2) env = pure r := by
  have hb : env.blockKind = .function := by unfold Env.blockKind; rw [hk]; rfl
  have hk2 : ∀ x, env.kindOf x = env.scope.names.lookup x := fun x => rfl
  unfold swappedStores
  simp only [hb, hk2]
  unfold swB at h
  simp only at h
  by_cases c1 : (!(ts.length == 2 || ts.length == 3) || vs.length != ts.length) = true
  · rw [if_pos c1] at h
    cases h
    rw [if_pos (by rw [c1]; rfl)]
  · rw [if_neg c1] at h
    have c1' : (!(ts.length == 2 || ts.length == 3) || vs.length != ts.length) = false := by simpa using c1
    refine (if_neg (by rw [c1']; decide)).trans ?_
    by_cases c2 : (vs.any fun | .Starred .. => true | _ => false) = true
    · have h := (if_pos c2).symm.trans h
      cases h
      exact if_pos c2
    · have h := (if_neg c2).symm.trans h
      refine (if_neg c2).trans ?_
      generalize hn : (ts.filterMap fun
        | .Name id pos => if (env.scope.names.lookup id == some .local && pos.line == (ts.head?.map (·.pos.line)).getD 0) = true then some id else none
        | _ => none) = names at h ⊢
      have hn2 : (List.filterMap (fun x => match x with
        | Expr.Name id pos => if (List.lookup id env.scope.names == some NameKind.local && pos.line == (Option.map (fun x => x.pos.line) ts.head?).getD 0) = true then some id else none
        | x => none) ts) = names := hn
      by_cases c3 : (names.length != ts.length || names.eraseDups.length != names.length) = true
      · have h := (if_pos c3).symm.trans h
        cases h
        exact if_pos c3
      · have h := (if_neg c3).symm.trans h
        refine (if_neg c3).trans ?_
        by_cases c4 : vs.all (foldedForSure 8) = true
        · have h := (if_pos c4).symm.trans h
          cases h
          exact if_pos c4
        · have h := (if_neg c4).symm.trans h
          refine (if_neg c4).trans ?_
          by_cases c5 : vs.all (constantsAlone 8) = true
          · have h := (if_pos c5).symm.trans h
            cases h
          · have h := (if_neg c5).symm.trans h
            cases h
            exact if_neg c5
/-! ### a, b = x, y -/
def freshVs : List (Nat × Bool) → List V → List V
  | (_, o) :: ts, v :: vs => if o = true then v :: freshVs ts vs else freshVs ts vs
  | _, _ => []
def ParV (C : Cf) (H G' H' : Hp) : List (Nat × Bool) → List V → List Val → Prop
  | [], [], [] => True
  | (_, o) :: ts, v :: vs, val :: vals => (if o = true then FreshV C H G' H' v val ∧ v ∉ freshVs ts vs else VR C G' v val) ∧ ParV C H G' H' ts vs vals
  | _, _, _ => False
theorem ParV.len {C : Cf} {H G' H' : Hp} : ∀ {ts : List (Nat × Bool)} {vs : List V} {vals : List Val}, ParV C H G' H' ts vs vals → vs.length = ts.length
  | [], [], [], _ => rfl
  | (_, o) :: ts, v :: vs, val :: vals, h => by simp [ParV.len h.2]
  | [], _ :: _, _, h => by cases h
  | [], [], _ :: _, h => by cases h
  | _ :: _, [], _, h => by cases h
  | _ :: _, _ :: _, [], h => by cases h
theorem FreshV.back {C : Cf} {H H1 G' H' : Hp} {v : V} {val : Val} (t : ∀ a, H a ≠ none → H1 a ≠ none) (h : FreshV C H1 G' H' v val) : FreshV C H G' H' v val := by
  obtain ⟨a, x, e1, e2, h1, h2⟩ := h
  refine ⟨a, x, e1, e2, ?_, h2⟩
  cases q : H a with
  | none => rfl
  | some u => exact absurd h1 (t a (by rw [q]; simp))
theorem ParV.back {C : Cf} {H H1 G' H' : Hp} (t : ∀ a, H a ≠ none → H1 a ≠ none) : ∀ {ts : List (Nat × Bool)} {vs : List V} {vals : List Val}, ParV C H1 G' H' ts vs vals → ParV C H G' H' ts vs vals
  | [], [], [], _ => trivial
  | (_, o) :: ts, v :: vs, val :: vals, h => by
    refine ⟨?_, ParV.back t h.2⟩
    cases o with
    | true =>
      have q : FreshV C H1 G' H' v val ∧ v ∉ freshVs ts vs := h.1
      exact (show FreshV C H G' H' v val ∧ v ∉ freshVs ts vs from ⟨q.1.back t, q.2⟩)
    | false => exact h.1
  | [], _ :: _, _, h => by cases h
  | [], [], _ :: _, h => by cases h
  | _ :: _, [], _, h => by cases h
  | _ :: _, _ :: _, [], h => by cases h
theorem ParV.fresh {C : Cf} {H G' H' : Hp} : ∀ {ts : List (Nat × Bool)} {vs : List V} {vals : List Val}, ParV C H G' H' ts vs vals → ∀ v ∈ freshVs ts vs, ∃ a, v = .ref a ∧ H a = none
  | [], [], [], _, v, hv => by cases hv
  | (i, o) :: ts, w :: vs, val :: vals, h, v, hv => by
    cases o with
    | true =>
      have q : FreshV C H G' H' w val ∧ w ∉ freshVs ts vs := h.1
      rcases List.mem_cons.mp (show v ∈ w :: freshVs ts vs from hv) with e | e
      · obtain ⟨a, x, e1, _, h1, _⟩ := q.1
        exact ⟨a, by rw [e, e1], h1⟩
      · exact ParV.fresh h.2 v e
    | false => exact ParV.fresh h.2 v hv
  | [], _ :: _, _, h, _, _ => by cases h
  | [], [], _ :: _, h, _, _ => by cases h
  | _ :: _, [], _, h, _, _ => by cases h
  | _ :: _, _ :: _, [], h, _, _ => by cases h
def setAll (σ : L2.St) : List (Nat × Bool) → List V → L2.St
  | (i, _) :: ts, v :: vs => setAll (σ.set i (some v)) ts vs
  | _, _ => σ
section
variable {Γ : Stat} {p : Pm} {X : Cx} {pos : Pos}
def tP (p : Pm) (ts : List (Nat × Bool)) (es : List IE) : TA := fun σ H Q => ∃ ρ τ G, SRp p ρ τ G H σ ∧ Rdg (evPar p.gl p.φ ts es ρ τ) (fun vals τ' => ∀ vs G' H', Grow p.C G H G' H' → TownOk p.C τ' H' → ParV p.C H G' H' ts vs vals → Q vs H') (Xc p)
theorem stepP {σ : L2.St} {ρ : Ev} {τ : Town} {G H : Hp} {ts : List (Nat × Bool)} {es : List IE} {Q : List V → Hp → Prop} {ok : List Val → Town → Prop} (S : SRp p ρ τ G H σ) (h : Rdg (evPar p.gl p.φ ts es ρ τ) ok (Xc p))
    (k : ∀ vals τ1, ok vals τ1 → ∀ vs G1 H1, Grow p.C G H G1 H1 → SRp p ρ τ1 G1 H1 σ → ParV p.C H G1 H1 ts vs vals → Q vs H1) : tP p ts es σ H Q :=
  ⟨ρ, τ, G, S, Rdg.mono h (fun vals τ1 o vs G1 H1 g t po => k vals τ1 o vs G1 H1 g (S.grow g t) po) fun _ _ z => z⟩
theorem pa_P (c : Ctx Γ p X) (n : Nat) : ∀ {ts : List (Nat × Bool)} {ies : List IE} {es : List Expr}, ts.length = ies.length → chkEs (chkE n) Γ ies es = true → PA X es (tP p ts ies)
  | [], [], [], _, _ => PA.weak pa_nil fun σ H Q h => by
    obtain ⟨ρ, τ, G, S, h⟩ := h
    exact h [] G H (Grow.refl S.sub) S.tw trivial
  | (i, o) :: ts, ie :: ies, e :: es, hl, hc => by
    obtain ⟨hc, h3⟩ := ands (show (chkE n Γ ie e && !starB e && chkEs (chkE n) Γ ies es) = true from hc)
    obtain ⟨h1, h2⟩ := ands hc
    have q := (expr_sound n Γ p X ie e c h1).pe
    have ih := pa_P c n (ts := ts) (ies := ies) (es := es) (by simpa using hl) h3
    cases o with
    | false =>
      refine PA.weak (pa_cons (pe_frz q) ih (star_cons (nots h2))) fun σ H Q h => ?_
      obtain ⟨ρ, τ, G, S, h⟩ := h
      refine stepF S (Rdg.iff (Rdg.bind.mp h)) fun val τ1 h v G1 H1 g S1 r => ?_
      refine stepP S1 (Rdg.bind.mp h) fun vals τ2 o vs G2 H2 g2 S2 rs => ?_
      exact o (v :: vs) G2 H2 (g.trans g2) S2.tw (show VR p.C G2 v val ∧ ParV p.C H G2 H2 ts vs vals from ⟨VR.mono g2.g r, rs.back g.t⟩)
    | true =>
      refine PA.weak (pa_cons q ih (star_cons (nots h2))) fun σ H Q h => ?_
      obtain ⟨ρ, τ, G, S, h⟩ := h
      have h := Rdg.ift (Rdg.bind.mp h)
      by_cases hf : fresh ie = true
      · rw [if_pos hf] at h
        refine stepE S h fun val τ1 h v G1 H1 g S1 po => ?_
        refine stepP S1 (Rdg.bind.mp h) fun vals τ2 o vs G2 H2 g2 S2 rs => ?_
        unfold Post at po
        rw [if_pos hf] at po
        obtain ⟨a, x, rfl, rfl, h0, g0, n1, n2, nt, ow⟩ := po
        have ha := ownL ow
        refine o (.ref a :: vs) G2 H2 (g.trans g2) S2.tw (show (FreshV p.C H G2 H2 (.ref a) (.d x) ∧ V.ref a ∉ freshVs ts vs) ∧ ParV p.C H G2 H2 ts vs vals from ⟨⟨⟨a, x, rfl, rfl, h0, by rw [g2.o a ha]; exact g0, n1, n2, nt, OwnAt.grow g2 n1 n2 ow⟩, fun hm => ?_⟩, rs.back g.t⟩)
        obtain ⟨b, e1, e2⟩ := rs.fresh _ hm
        cases e1
        exact ha e2
      · rw [if_neg hf] at h
        exact h.elim
  | [], _ :: _, _, h, _ => by cases h
  | _ :: _, [], _, h, _ => by cases h
  | [], [], _ :: _, _, h => by cases h
  | _ :: _, _ :: _, [], _, h => by cases h
theorem par_set {H : Hp} : ∀ {ts : List (Nat × Bool)} {vs : List V} {vals : List Val} {ρ ρ' : Ev} {τ : Town} {G' H' : Hp} {σ : L2.St} (E : List V), SRp p ρ τ G' H' σ → ParV p.C H G' H' ts vs vals → (∀ a, p.H₀ a ≠ none → H a ≠ none) →
    (∀ j y, slotAt ρ j = .own y → ∃ b, σ[j]? = some (some (.ref b)) ∧ (H b ≠ none ∨ V.ref b ∈ E)) → (∀ v ∈ E, v ∉ freshVs ts vs) → setPar ts vals ρ = some ρ' → SRp p ρ' τ G' H' (setAll σ ts vs)
  | [], [], [], ρ, ρ', τ, G', H', σ, E, S, _, _, _, _, e => by
    cases e
    exact S
  | (i, o) :: ts, v :: vs, val :: vals, ρ, ρ', τ, G', H', σ, E, S, pv, h0, hj, hE, e => by
    obtain ⟨ρ1, e1, e2⟩ := Option.bind_eq_some_iff.mp (show (if o = true then setOwn i val ρ else setTg (.nm i) val ρ).bind (fun ρ' => setPar ts vals ρ') = some ρ' from e)
    cases o with
    | false =>
      have pv : VR p.C G' v val ∧ ParV p.C H G' H' ts vs vals := pv
      obtain ⟨hi, rfl⟩ := iteS (show (if i < ρ.length then some (ρ.set i (.val val)) else none) = some ρ1 from e1)
      show SRp p ρ' τ G' H' (setAll (σ.set i (some v)) ts vs)
      refine par_set (H := H) (ts := ts) (vs := vs) (vals := vals) (ρ := ρ.set i (.val val)) (σ := σ.set i (some v)) E (S.set hi pv.1) pv.2 h0 (fun j y q => ?_) hE e2
      have hji : j ≠ i := fun z => by
        subst z
        rw [slot_set_same hi] at q
        cases q
      rw [slot_set_ne hji] at q
      rw [List.getElem?_set_ne (Ne.symm hji)]
      exact hj j y q
    | true =>
      have pv : (FreshV p.C H G' H' v val ∧ v ∉ freshVs ts vs) ∧ ParV p.C H G' H' ts vs vals := pv
      obtain ⟨⟨⟨a, x, rfl, rfl, ha, ga, n1, n2, nt, ow⟩, nf⟩, pw⟩ := pv
      have hs : i < ρ.length ∧ ρ1 = ρ.set i (.own x) := by
        cases x with
        | list ds =>
          obtain ⟨q1, q2⟩ := iteS (show (if i < ρ.length then some (ρ.set i (.own (.list ds))) else none) = some ρ1 from e1)
          exact ⟨q1, q2.symm⟩
        | dict ds =>
          obtain ⟨q1, q2⟩ := iteS (show (if i < ρ.length then some (ρ.set i (.own (.dict ds))) else none) = some ρ1 from e1)
          exact ⟨q1, q2.symm⟩
        | _ => cases e1
      obtain ⟨hi, rfl⟩ := hs
      have h00 : p.H₀ a = none := by
        cases q : p.H₀ a with
        | none => rfl
        | some u => exact absurd ha (h0 a (by rw [q]; simp))
      show SRp p ρ' τ G' H' (setAll (σ.set i (some (.ref a))) ts vs)
      refine par_set (H := H) (ts := ts) (vs := vs) (vals := vals) (ρ := ρ.set i (.own x)) (σ := σ.set i (some (.ref a))) (.ref a :: E) (S.setOwn hi ga h00 n1 n2 ow fun j y q z => ?_) pw h0 (fun j y q => ?_) (fun w hw => ?_) e2
      · obtain ⟨b, z1, z2⟩ := hj j y q
        rw [z1] at z
        cases z
        rcases z2 with z2 | z2
        · exact z2 ha
        · exact hE _ z2 (show V.ref a ∈ V.ref a :: freshVs ts vs from List.mem_cons_self ..)
      · by_cases hji : j = i
        · subst hji
          exact ⟨a, by rw [List.getElem?_set_self (by rw [← S.len]; exact hi)], .inr (List.mem_cons_self ..)⟩
        · rw [slot_set_ne hji] at q
          rw [List.getElem?_set_ne (Ne.symm hji)]
          obtain ⟨b, z1, z2⟩ := hj j y q
          exact ⟨b, z1, z2.imp id fun z => List.mem_cons_of_mem _ z⟩
      · rcases List.mem_cons.mp hw with q | q
        · rw [q]
          exact nf
        · exact fun z => hE w q (show w ∈ V.ref a :: freshVs ts vs from List.mem_cons_of_mem _ z)
  | [], _ :: _, _, _, _, _, _, _, _, _, _, h, _, _, _, _ => by cases h
  | [], [], _ :: _, _, _, _, _, _, _, _, _, h, _, _, _, _ => by cases h
  | _ :: _, [], _, _, _, _, _, _, _, _, _, h, _, _, _, _ => by cases h
  | _ :: _, _ :: _, [], _, _, _, _, _, _, _, _, h, _, _, _, _ => by cases h
/-- behind a, b = x, y: what is wanted at the slots and the heap -/
theorem par_read {ts : List (Nat × Bool)} {es : List IE} {D : Ends} {σ : L2.St} {H : Hp} (h : tS p (.par ts es) D σ H) : tP p ts es σ H fun vs H1 => vs.length = ts.length ∧ ∀ H2, (H2 = H1 ∨ ∃ q xs, H1 q = none ∧ H2 = upd H1 q (.tup xs)) → D.nx (setAll σ ts vs) H2 := by
  obtain ⟨ρ, τ, G, S, h⟩ := h
  refine stepP S (Rdg.bind.mp h) fun vals τ1 h vs G1 H1 g S1 pv => ⟨pv.len, fun H2 hh => ?_⟩
  obtain ⟨ρ', e', h⟩ := Rdg.opt (Rdg.bind.mp h)
  have own : ∀ j y, slotAt ρ j = .own y → ∃ b, σ[j]? = some (some (.ref b)) ∧ (H b ≠ none ∨ V.ref b ∈ ([] : List V)) := fun j y q => by
    obtain ⟨b, e1, _, _, _, _, ow⟩ := S.ow j y q
    exact ⟨b, e1, .inl (ownL ow)⟩
  have S2 : SRp p ρ' τ1 G1 H1 (setAll σ ts vs) := par_set (H := H) [] S1 pv (fun a q => S.e.t a q) own (fun v q => by cases q) e'
  rcases hh with rfl | ⟨q, xs, hq, rfl⟩
  · exact h _ G1 _ S2 g.g
  · exact h _ G1 _ (S2.grow (Grow.newO S2.sub hq) (S2.tw.new hq)) g.g
/-- the names of a, b = .. -/
def chkN (Γ : Stat) : List (Nat × Bool) → List Expr → Bool
  | [], [] => true
  | (i, _) :: ts, e :: es => chkT Γ (.nm i) e && chkN Γ ts es
  | _, _ => false
/-- .. that are locals -/
def chkL (Γ : Stat) : List Expr → Bool
  | [] => true
  | .Name x _ :: es => decide (Γ.sc.names.lookup x = some .local) && chkL Γ es
  | _ => false
theorem nm_name {i : Nat} {e : Expr} (h : chkT Γ (.nm i) e = true) : ∃ x q, e = .Name x q := by
  cases e with
  | Name x q => exact ⟨x, q, rfl⟩
  | _ => cases h
theorem pgs_N (c : Ctx Γ p X) : ∀ {ts : List (Nat × Bool)} {es : List Expr}, chkN Γ ts es = true → PGs X es (fun vs σ H Q => vs.length = ts.length ∧ Q (setAll σ ts vs) H) ∧ (assignEach es X.env).length = ts.length ∧ (assignEach es X.env).findIdx? (·.1) = none
  | [], [], _ => ⟨⟨fun pins s σ H vs us Q I r w => by
    obtain ⟨e, w⟩ := w
    have e : vs = [] := List.eq_nil_of_length_eq_zero e
    subst e
    exact pgs_nil.run pins s σ H [] us Q I r ⟨rfl, w⟩⟩, rfl, rfl⟩
  | (i, o) :: ts, e :: es, h => by
    obtain ⟨h1, h2⟩ := ands (show (chkT Γ (.nm i) e && chkN Γ ts es) = true from h)
    obtain ⟨x, q, rfl⟩ := nm_name h1
    obtain ⟨a, b, d⟩ := name_of c h1
    obtain ⟨i1, i2, i3⟩ := pgs_N c h2
    refine ⟨⟨fun pins s σ H vs us Q I r w => (pgs_cons (pg_name (i := i) (by rw [c.N]; exact c.nd) a b d) i1 (by rw [star_asg rfl]; rfl)).run pins s σ H vs us Q I r ?_⟩, ?_, ?_⟩
    · obtain ⟨e, w⟩ := w
      cases vs with
      | nil => cases e
      | cons v vs => exact ⟨v, vs, rfl, by simpa using e, w⟩
    · rw [star_asg rfl]
      simp [i2]
    · rw [star_asg rfl, List.findIdx?_cons, i3]
      rfl
  | [], _ :: _, h => by cases h
  | _ :: _, [], h => by cases h
theorem chkN_len : ∀ {ts : List (Nat × Bool)} {es : List Expr}, chkN Γ ts es = true → es.length = ts.length
  | [], [], _ => rfl
  | (i, o) :: ts, e :: es, h => by
    obtain ⟨h1, h2⟩ := ands (show (chkT Γ (.nm i) e && chkN Γ ts es) = true from h)
    simp [chkN_len h2]
  | [], _ :: _, h => by cases h
  | _ :: _, [], h => by cases h
theorem two_of {α : Type} : ∀ {l : List α}, l.length = 2 → ∃ a b, l = [a, b]
  | [a, b], _ => ⟨a, b, rfl⟩
theorem three_of {α : Type} : ∀ {l : List α}, l.length = 3 → ∃ a b c, l = [a, b, c]
  | [a, b, c], _ => ⟨a, b, c, rfl⟩
theorem ss_par (c : Ctx Γ p X) {n : Nat} {ts : List (Nat × Bool)} {ies : List IE} {es vs : List Expr} {k k2 : Nat} {q q2 : Pos} {r : Option (List Str)} (hk : Γ.sc.kind = .function) (h1 : chkN Γ ts es = true) (h2 : ts.length = ies.length) (h3 : chkEs (chkE n) Γ ies vs = true) (h4 : swB Γ.sc es vs = some r)
    (h5 : r = none ∨ (chkL Γ es = true ∧ (ts.map (·.1)).Nodup ∧ r = some (es.filterMap fun
      | .Name x _ => some x
      | _ => none) ∧ (ts.length = 2 ∨ ts.length = 3))) (hl : vs.length ≤ 1000) : PS X (.Assign [.Tuple es k q] (.Tuple vs k2 q2) pos) (tS p (.par ts ies)) := by
  have hw : swappedStores [.Tuple es k q] (.Tuple vs k2 q2) X.env = pure r := swB_ok (by rw [c.sc]; exact hk) (by rw [c.sc]; exact h4)
  have ha := pa_P c n h2 h3
  have hlv : ies.length = vs.length := chkEs_len h3
  rcases h5 with rfl | ⟨h5, nd, rfl, h6⟩
  · obtain ⟨g1, g2, g3⟩ := pgs_N c h1
    refine PS.weak (ps_asg (pe_tup ha) (pg_tup c.calm g1 g2 g3) (noswap rfl) hw rfl) fun D σ H h => ?_
    obtain ⟨ρ, τ, G, S, h⟩ := par_read h
    refine ⟨ρ, τ, G, S, Rdg.mono h (fun vals τ' o vs' G' H' g t pv => ?_) fun _ _ z => z⟩
    obtain ⟨e1, o⟩ := o vs' G' H' g t pv
    refine ⟨by rw [e1, h2, hlv]; exact Nat.le_trans hl (by decide), fun a hn => ⟨a, vs', rfl, SqT.of upd_same, e1, e1, ?_⟩⟩
    exact o _ (.inr ⟨a, vs', hn, rfl⟩)
  · have hle := chkN_len h1
    rcases h6 with h6 | h6
    · obtain ⟨⟨i, o1⟩, ⟨j, o2⟩, rfl⟩ := two_of h6
      obtain ⟨e1, e2, rfl⟩ := two_of (hle.trans h6)
      obtain ⟨b1, b2, rfl⟩ := two_of (hlv.symm.trans (h2.symm.trans h6))
      obtain ⟨h11, h12⟩ := ands (show (chkT Γ (.nm i) e1 && chkN Γ [(j, o2)] [e2]) = true from h1)
      obtain ⟨h12, _⟩ := ands (show (chkT Γ (.nm j) e2 && chkN Γ [] []) = true from h12)
      obtain ⟨x, q1, rfl⟩ := nm_name h11
      obtain ⟨y, q3, rfl⟩ := nm_name h12
      obtain ⟨a1, _, _⟩ := name_of c h11
      obtain ⟨a2, _, _⟩ := name_of c h12
      obtain ⟨l1, l2⟩ := ands (show (decide (Γ.sc.names.lookup x = some .local) && chkL Γ [.Name y q3]) = true from h5)
      obtain ⟨l2, _⟩ := ands (show (decide (Γ.sc.names.lookup y = some .local) && chkL Γ []) = true from l2)
      refine PS.weak (ps_par (i := i) (j := j) c.calm (by rw [c.N]; exact c.nd) a1 a2 (by simpa using nd) (by rw [c.sc]; exact of_decide_eq_true l1) (by rw [c.sc]; exact of_decide_eq_true l2) ha hw (noswap rfl)) fun D σ H h => ?_
      obtain ⟨ρ, τ, G, S, h⟩ := par_read h
      refine ⟨ρ, τ, G, S, Rdg.mono h (fun vals τ' o vs' G' H' g t pv => ?_) fun _ _ z => z⟩
      obtain ⟨e1, o⟩ := o vs' G' H' g t pv
      obtain ⟨v, w, rfl⟩ := two_of e1
      exact ⟨v, w, rfl, o _ (.inl rfl)⟩
    · obtain ⟨⟨i, o1⟩, ⟨j, o2⟩, ⟨l, o3⟩, rfl⟩ := three_of h6
      obtain ⟨e1, e2, e3, rfl⟩ := three_of (hle.trans h6)
      obtain ⟨b1, b2, b3, rfl⟩ := three_of (hlv.symm.trans (h2.symm.trans h6))
      obtain ⟨h11, h12⟩ := ands (show (chkT Γ (.nm i) e1 && chkN Γ [(j, o2), (l, o3)] [e2, e3]) = true from h1)
      obtain ⟨k12, k13⟩ := ands (show (chkT Γ (.nm j) e2 && chkN Γ [(l, o3)] [e3]) = true from h12)
      obtain ⟨m13, _⟩ := ands (show (chkT Γ (.nm l) e3 && chkN Γ [] []) = true from k13)
      obtain ⟨x, q1, rfl⟩ := nm_name h11
      obtain ⟨y, q3, rfl⟩ := nm_name k12
      obtain ⟨z, q4, rfl⟩ := nm_name m13
      obtain ⟨a1, _, _⟩ := name_of c h11
      obtain ⟨a2, _, _⟩ := name_of c k12
      obtain ⟨a3, _, _⟩ := name_of c m13
      obtain ⟨l1, l2⟩ := ands (show (decide (Γ.sc.names.lookup x = some .local) && chkL Γ [.Name y q3, .Name z q4]) = true from h5)
      obtain ⟨l2, l3⟩ := ands (show (decide (Γ.sc.names.lookup y = some .local) && chkL Γ [.Name z q4]) = true from l2)
      obtain ⟨l3, _⟩ := ands (show (decide (Γ.sc.names.lookup z = some .local) && chkL Γ []) = true from l3)
      have nd' : (i ≠ j ∧ i ≠ l) ∧ j ≠ l := by simpa [List.nodup_cons] using nd
      refine PS.weak (ps_par3 (i := i) (j := j) (l := l) c.calm (by rw [c.N]; exact c.nd) a1 a2 a3 nd'.1.1 nd'.1.2 nd'.2 (by rw [c.sc]; exact of_decide_eq_true l1) (by rw [c.sc]; exact of_decide_eq_true l2) (by rw [c.sc]; exact of_decide_eq_true l3) ha hw (noswap rfl)) fun D σ H h => ?_
      obtain ⟨ρ, τ, G, S, h⟩ := par_read h
      refine ⟨ρ, τ, G, S, Rdg.mono h (fun vals τ' o vs' G' H' g t pv => ?_) fun _ _ z => z⟩
      obtain ⟨e1, o⟩ := o vs' G' H' g t pv
      obtain ⟨u, v, w, rfl⟩ := three_of e1
      exact ⟨u, v, w, rfl, o _ (.inl rfl)⟩
end
end Bk
namespace Bk
open PySem PySem.Spec PyProof.Rows L2
section
variable {Γ : Stat} {p : Pm} {X : Cx} {pos : Pos}
/-- the owned name -/
theorem own_name (c : Ctx Γ p X) {i : Nat} {x : Str} {q : Pos} (h : chkStep (chkE 0) Γ (.var i) (.Name x q) = true) : PE X (.Name x q) (tVar i) := by
  have h : (decide (Γ.N[i]? = some x) && visB Γ.sc x && plainN x) = true := h
  obtain ⟨h, h3⟩ := ands h
  obtain ⟨h1, h2⟩ := ands h
  obtain ⟨d1, d2, _⟩ := plain_of h3
  exact pe_var (by rw [c.N]; exact of_decide_eq_true h1) (by rw [c.sc]; exact vis_of h2) d1 d2
/-- a stored value and a stored key -/
theorem stepP1 {σ : L2.St} {ρ : Ev} {τ : Town} {G H : Hp} {e : IE} {Q : VK} {ok : PyData → Town → Prop} (S : SRp p ρ τ G H σ) (h : Rdg (((if isOwn e ρ = true then M.fail else ev p.gl p.φ e ρ) >>= asP) τ) ok (Xc p))
    (k : ∀ x τ1, ok x τ1 → ∀ v G1 H1, Grow p.C G H G1 H1 → SRp p ρ τ1 G1 H1 σ → Dq p.C.K G1 v x → Q v H1) : tF p e σ H Q := by
  refine stepF S (Rdg.bind.mp h) fun val τ1 o v G1 H1 g S1 r => ?_
  obtain ⟨x, rfl, nd, o⟩ := Rdg.asP o
  exact k x τ1 o v G1 H1 g S1 (DR.notDict r nd)
theorem subStore {b : Expr} {o : Expr} {q : Pos} {env : Env} (h : sliceB b = false) : ∀ v, assign (.Subscript o b q) env v = (do
      let ov ← holding [v] (eval o env)
      let iv ← holding [v, ov] (eval b env)
      standAt q
      holding [v, ov, iv] (setItem ov iv v)
      release [v, ov, iv] []) := by
  intro v
  cases b with
  | Slice _ _ _ _ => cases h
  | _ => rfl
theorem PSet.or {t t' : TSet} (h : PSet X t) (h' : PSet X t') : PSet X (fun o i v H Q => t o i v H Q ∨ t' o i v H Q) := by
  intro pins s σ H o i v ov iv u Q I ro ri rv q
  rcases q with q | q
  · exact h pins s σ H o i v ov iv u Q I ro ri rv q
  · exact h' pins s σ H o i v ov iv u Q I ro ri rv q
theorem ss_setL (c : Ctx Γ p X) {n i : Nat} {k v : IE} {x : Str} {q q2 : Pos} {ke ve : Expr} (h1 : chkStep (chkE 0) Γ (.var i) (.Name x q) = true) (h2 : chkE n Γ k ke = true) (h3 : chkE n Γ v ve = true) (hs : sliceB ke = false) (hl : lcB ve = false) :
    PS X (.Assign [.Subscript (.Name x q) ke q2] ve pos) (tS p (.setI i k v)) := by
  have e1 := pe_frz (expr_sound n Γ p X v ve c h3).pe
  have e2 := pe_frz (expr_sound n Γ p X k ke c h2).pe
  refine PS.weak (ps_asg e1 (pg_sub (own_name c h1) e2 (PSet.or set_list (set_dictN c.K c.w (by have := c.hu; omega))) (subStore hs)) (noswap hl) (by cases ve <;> rfl) rfl) fun D σ H h => ?_
  obtain ⟨ρ, τ, G, S, h⟩ := h
  refine stepP1 S (Rdg.bind.mp h) fun z τ1 h u G1 H1 g1 S1 rz => ?_
  cases e : slotAt ρ i with
  | own y =>
    simp only [e] at h
    obtain ⟨a, ea, g0, g2, n1, n2, ow⟩ := S1.ow i y e
    refine ⟨.ref a, ea, ?_⟩
    refine stepP1 S1 (Rdg.bind.mp h) fun kk τ2 h w G2 H2 g3 S2 rk => ?_
    obtain ⟨a', ea', g0', g2', _, _, ow'⟩ := S2.ow i y e
    rw [ea] at ea'
    cases ea'
    obtain ⟨y', hp, h⟩ := Rdg.opt (Rdg.bind.mp h)
    cases y with
    | list ds =>
      cases kk with
      | int j =>
        obtain ⟨m, hm, rfl⟩ := Option.map_eq_some_iff.mp (show (ixN ds.length j).map (fun j => PyData.list (ds.set j z)) = some y' from hp)
        obtain ⟨xs, o1, o2⟩ := ow'
        cases rk
        refine .inl ⟨a, xs, j, m, rfl, rfl, o1, by rw [o2.length]; exact hm, ?_⟩
        exact h _ G2 _ (S2.chg e ea ⟨xs.set m u, upd_same, DqAll.set (Dq.mono g3.g rz) m o2⟩) (fun b o q => g3.g b o (g1.g b o q))
      | _ => cases hp
    | dict kvs =>
      obtain ⟨⟨k1, k2⟩, rfl⟩ := iteS (show (if keyOk kk = true ∧ kvs.length < sizeLine then some (PyData.dict (putD kk z kvs)) else none) = some y' by cases kk <;> exact hp)
      obtain ⟨o, es, o1, o2⟩ := ow'
      refine .inr ⟨τ2, G2, a, o, es, kvs, kk, z, rfl, S2.at, o1, o2, k1, rk, Dq.mono g3.g rz, k2, fun ob' es' he => ?_⟩
      exact h _ G2 _ (S2.chg e ea ⟨ob', es', upd_same, he⟩) (fun b o q => g3.g b o (g1.g b o q))
    | tuple ds => cases kk <;> cases hp
    | _ => exact ow.elim
  | emp => simp only [e] at h; exact h.elim
  | val _ => simp only [e] at h; exact h.elim
theorem len_put {κ : Type} [DecidableEq κ] {kv : List (κ × V)} {k : κ} {v : V} (h : (valV kv k).isSome = true) : (putK kv k v).length = kv.length := by
  unfold putK
  rw [valV_any, if_pos h, List.length_map]
theorem ss_dset (c : Ctx Γ p X) {n i : Nat} {k v : IE} {x : Str} {q q2 : Pos} {ke ve : Expr} (h1 : chkStep (chkE 0) Γ (.var i) (.Name x q) = true) (h2 : chkE n Γ k ke = true) (h3 : chkE n Γ v ve = true) (hs : sliceB ke = false) (hl : lcB ve = false) :
    PS X (.Assign [.Subscript (.Name x q) ke q2] ve pos) (tS p (.dset i k v)) := by
  have e1 := pe_frz (expr_sound n Γ p X v ve c h3).pe
  have e2 := pe_frz (expr_sound n Γ p X k ke c h2).pe
  refine PS.weak (ps_asg e1 (pg_sub (own_name c h1) e2 (set_dict (by have := c.hu; omega)) (subStore hs)) (noswap hl) (by cases ve <;> rfl) rfl) fun D σ H h => ?_
  obtain ⟨ρ, τ, G, S, h⟩ := h
  refine stepP1 S (Rdg.bind.mp h) fun z τ1 h u G1 H1 g1 S1 rz => ?_
  cases e : slotAt ρ i with
  | own y =>
    simp only [e] at h
    cases y with
    | tuple ds =>
      dsimp only at h
      obtain ⟨a, ea, g0, g2, n1, n2, _⟩ := S1.ow i _ e
      refine ⟨.ref a, ea, ?_⟩
      refine stepP1 S1 (Rdg.bind.mp h) fun kk τ2 h w G2 H2 g3 S2 rk => ?_
      obtain ⟨a', ea', _, _, _, _, kv, o1, o2, o3⟩ := S2.ow i _ e
      rw [ea] at ea'
      cases ea'
      cases kk with
      | int j =>
        have h : Rdg ((if 0 ≤ j ∧ j.toNat < ds.length then pure (.next (ρ.set i (.own (.tuple (ds.set j.toNat z))))) else M.fail : M Fl) τ2) (Beh p D G) (Xc p) := h
        by_cases hj : 0 ≤ j ∧ j.toNat < ds.length
        · rw [if_pos hj] at h
          cases rk
          have ej : ((j.toNat : Nat) : Int) = j := by omega
          obtain ⟨v0, q1, _⟩ := o3 j.toNat ds[j.toNat] (by simp [hj.2])
          rw [ej] at q1
          have hk : (valV kv (Sum.inl j : Key)).isSome = true := by rw [q1]; rfl
          refine ⟨a, _, rfl, DPut.k (k := Sum.inl j) o1 (by rw [sizeLine_eq]; omega), ?_⟩
          refine h _ G2 _ (S2.chg e ea ⟨_, upd_same, by rw [len_put hk]; exact o2, fun m d hm => ?_⟩) (fun b o q => g3.g b o (g1.g b o q))
          rw [valV_put]
          by_cases hmj : m = j.toNat
          · subst hmj
            rw [List.getElem?_set_self hj.2] at hm
            cases hm
            rw [if_pos (by rw [ej])]
            exact ⟨u, rfl, Dq.mono g3.g rz⟩
          · rw [List.getElem?_set_ne (Ne.symm hmj)] at hm
            rw [if_neg (fun z => hmj (by have := Sum.inl.inj z; omega))]
            exact o3 m d hm
        · rw [if_neg hj] at h
          exact h.elim
      | _ => exact h.elim
    | _ => exact h.elim
  | emp => simp only [e] at h; exact h.elim
  | val _ => simp only [e] at h; exact h.elim
/-- the pairs of an enumeration -/
def ixK : Nat → List V → List (Key × V)
  | _, [] => []
  | n, v :: vs => (Sum.inl (n : Int), v) :: ixK (n + 1) vs
theorem ixK_get : ∀ {vs : List V} {n j : Nat} {v : V}, vs[j]? = some v → valV (ixK n vs) (Sum.inl ((n + j : Nat) : Int)) = some v
  | [], _, _, _, h => by simp at h
  | u :: vs, n, 0, v, h => by
    simp at h
    subst h
    exact valV_pos rfl
  | u :: vs, n, j + 1, v, h => by
    show valV ((Sum.inl (n : Int), u) :: ixK (n + 1) vs) _ = _
    rw [valV_neg (fun z => by have := Sum.inl.inj z; omega)]
    have := ixK_get (vs := vs) (n := n + 1) (j := j) (by simpa using h)
    rw [show n + (j + 1) = n + 1 + j by omega]
    exact this
theorem ixK_low : ∀ {vs : List V} {n m : Nat}, m < n → valV (ixK n vs) (Sum.inl (m : Int) : Key) = none
  | [], _, _, _ => rfl
  | u :: vs, n, m, h => by
    show valV ((Sum.inl (n : Int), u) :: ixK (n + 1) vs) _ = _
    rw [valV_neg (fun z => by have := Sum.inl.inj z; omega)]
    exact ixK_low (by omega)
theorem ixK_app : ∀ {vs : List V} {n : Nat} {v : V}, ixK n (vs ++ [v]) = ixK n vs ++ [(Sum.inl ((n + vs.length : Nat) : Int), v)]
  | [], n, v => rfl
  | u :: vs, n, v => by
    show (Sum.inl (n : Int), u) :: ixK (n + 1) (vs ++ [v]) = (Sum.inl (n : Int), u) :: (ixK (n + 1) vs ++ _)
    rw [ixK_app, List.length_cons, show n + 1 + vs.length = n + (vs.length + 1) by omega]
theorem ixK_high : ∀ {vs : List V} {n m : Nat}, n + vs.length ≤ m → valV (ixK n vs) (Sum.inl (m : Int) : Key) = none
  | [], _, _, _ => rfl
  | u :: vs, n, m, h => by
    rw [List.length_cons] at h
    show valV ((Sum.inl (n : Int), u) :: ixK (n + 1) vs) _ = _
    rw [valV_neg (fun z => by have := Sum.inl.inj z; omega)]
    exact ixK_high (by omega)
theorem merge_ixK : ∀ (vs us : List V), mergeK (ixK 0 us) (ixK us.length vs) = ixK 0 (us ++ vs)
  | [], us => by simp [ixK, mergeK]
  | v :: vs, us => by
    show (ixK (us.length + 1) vs).foldl (fun acc kv => putK acc kv.1 kv.2) (putK (ixK 0 us) (Sum.inl (us.length : Int)) v) = _
    rw [putK_new v (ixK_high (by omega))]
    have e : ixK 0 us ++ [((Sum.inl (us.length : Int) : Key), v)] = ixK 0 (us ++ [v]) := by rw [ixK_app, Nat.zero_add]
    rw [e]
    have := merge_ixK vs (us ++ [v])
    rw [List.length_append, List.append_assoc] at this
    exact this
theorem ixK_len : ∀ (vs : List V) (n : Nat), (ixK n vs).length = vs.length
  | [], _ => rfl
  | v :: vs, n => by simp [ixK, ixK_len vs]
theorem enum_pairs {K : PySem.W.Frag} {G : Hp} : ∀ {ds : List PyData} {n : Nat} {xs : List V}, DqAll K G xs ((ds.zipIdx n).map fun q => .tuple [.int (q.2 : Nat), q.1]) → ∃ (ps : List Addr) (vs : List V), xs = ps.map V.ref ∧ DqAll K G vs ds ∧ Paired (fun p kv => SqT K G p [kV kv.1, kv.2]) ps (ixK n vs)
  | [], n, _, .nil => ⟨[], [], rfl, .nil, .nil⟩
  | d :: ds, n, _, .cons h r => by
    obtain ⟨ps, vs, rfl, h2, h3⟩ := enum_pairs (ds := ds) (n := n + 1) r
    cases h with
    | tup h1 h4 =>
      cases h4 with
      | cons a b =>
        cases a
        cases b with
        | cons a b =>
          cases b
          exact ⟨_ :: ps, _ :: vs, rfl, .cons a h2, .cons h1 h3⟩
theorem ss_dnew (c : Ctx Γ p X) {n i : Nat} {e : IE} {x : Str} {q p1 p2 p3 p4 p5 p6 : Pos} {y : Expr} (h1 : chkT Γ (.nm i) (.Name x q) = true) (g1 : globB Γ.sc "dict" = true) (g2 : globB Γ.sc "list" = true) (g3 : globB Γ.sc "enumerate" = true) (hs : starB y = false) (h2 : chkE n Γ e y = true) :
    PS X (.Assign [.Name x q] (.Call (.Name "dict" p1) [.Call (.Name "list" p2) [.Call (.Name "enumerate" p3) [y] [] p4] [] p5] [] p6) pos) (tS p (.dnew i e)) := by
  obtain ⟨a1, a2, a3⟩ := name_of c h1
  obtain ⟨k1, k2, k3⟩ := glob_of c g1
  have q1 := se_listEnum (p1 := p2) (p2 := p3) (p3 := p4) (pos := p5) c g2 g3 hs (expr_sound n Γ p X e y c h2).pe
  refine PS.weak (ps_set (by rw [c.N]; exact c.nd) a1 a2 (pe_callTy (call_dictP c.calm) k1 (c.free _ (by decide +kernel)) (by decide +kernel) (pa_cons q1 pa_nil) k3 k2 rfl rfl) rfl a3) fun D σ H h => ?_
  obtain ⟨ρ, τ, G, S, h⟩ := h
  refine ⟨ρ, τ, G, S, Rdg.bind.mpr (Rdg.mono (Rdg.bind.mp h) (fun dx τ1 h => ?_) fun _ _ z => z)⟩
  cases dx with
  | tuple ds =>
    have h : Rdg ((if ds.length ≤ 1000 ∧ i < ρ.length then pure (.next (ρ.set i (.own (.tuple ds)))) else M.fail : M Fl) τ1) (Beh p D G) (Xc p) := h
    by_cases hc : ds.length ≤ 1000 ∧ i < ρ.length
    · rw [if_pos hc] at h
      show Rdg ((M.opt (some (PyData.list (enumD ds))) >>= fun z => pure (.d z) : M Val) τ1) _ _
      intro G1 H1 g t1 v po
      have po : VR p.C G1 v (.d (.list (enumD ds))) := po
      have S1 := S.grow g t1
      cases DR.notDict po rfl with
      | @lst a xs _ l1 l2 =>
        obtain ⟨ps, vs, rfl, d1, d2⟩ := enum_pairs l2
        refine ⟨a, ps, ixK 0 vs, rfl, SqL.of (g.s _ _ l1), ?_, fun b hb => ?_⟩
        · rw [c.K]
          exact Paired.mapP d2 fun _ _ z => SqT.mono g.s z
        · have me := merge_ixK vs []
          have me : mergeK [] (ixK 0 vs) = ixK 0 vs := me
          rw [me]
          have S2 := S1.grow (Grow.newO (o := .dK (ixK 0 vs)) S1.sub hb) (S1.tw.new hb)
          refine h _ G1 _ (S2.setOwn hc.2 (S1.at.free hb) ?_ (S1.tw.neT hb) (S1.tw.neR hb) ⟨ixK 0 vs, upd_same, by rw [ixK_len, d1.length]; exact hc.1, fun j d hj => ?_⟩ fun j w e1 e2 => ?_) g.g
          · cases z : p.H₀ b with
            | none => rfl
            | some u => exact absurd hb (S1.e.t b (by rw [z]; simp))
          · have hl : j < vs.length := by rw [d1.length]; exact (List.getElem?_eq_some_iff.mp hj).1
            have := ixK_get (vs := vs) (n := 0) (j := j) (v := vs[j]) (by simp [hl])
            rw [Nat.zero_add] at this
            exact ⟨vs[j], this, d1.get (by simp [hl]) hj⟩
          · obtain ⟨b', e3, _, _, _, _, ow'⟩ := S1.ow j w e1
            rw [e3] at e2
            cases e2
            exact ownL ow' hb
    · rw [if_neg hc] at h
      exact h.elim
  | _ => exact h.elim
theorem baseN {x m : Str} {q : Pos} {env : Env} : attributeBase (.Name x q) m env (eval (.Name x q) env) = eval (.Name x q) env := rfl
theorem few1 {y : Expr} {env : Env} {cp : Pos} (h : starB y = false) : ((backTo cp (starEach [y] env)).all (fun x => !x.1) && (backToKw cp (keywordEach [] env)).all (fun x => x.1.isSome)
      && decide (([y] : List Expr).length + ([] : List Keyword).length + (if ([] : List Keyword).isEmpty then 0 else 1) < 30)) = true := by
  rw [star_cons h]
  rfl
theorem ss_app (c : Ctx Γ p X) {n i : Nat} {e : IE} {x : Str} {q ap cp : Pos} {y : Expr} (h1 : chkStep (chkE 0) Γ (.var i) (.Name x q) = true) (h2 : chkE n Γ e y = true) (hs : starB y = false) (hl : (ap.endLine == cp.line) = true) :
    PS X (.Expr (.Call (.Attribute (.Name x q) "append" ap) [y] [] cp) pos) (tS p (.app i e)) := by
  have e1 := pe_frz (expr_sound n Γ p X e y c h2).pe
  refine PS.weak (ps_expr (pe_bm PySem.F.plainAttrs_list PySem.F.slot_list_append PySem.F.type_list_append mt_append (own_name c h1) (pa_cons e1 pa_nil (star_cons hs)) baseN (few1 hs) hl (star_cons hs) rfl) rfl) fun D σ H h => ?_
  obtain ⟨ρ, τ, G, S, h⟩ := h
  have h : Rdg ((match slotAt ρ i with
    | .own (.list xs) => (do
      let z ← (if isOwn e ρ = true then M.fail else ev p.gl p.φ e ρ) >>= asP
      if xs.length < sizeLine then pure (.next (ρ.set i (.own (.list (xs ++ [z]))))) else M.fail)
    | _ => M.fail : M Fl) τ) (Beh p D G) (Xc p) := h
  cases es : slotAt ρ i with
  | own w =>
    cases w with
    | list ds =>
      simp only [es] at h
      obtain ⟨a, ea, g0, g2, n1, n2, xs, o1, o2⟩ := S.ow i _ es
      refine ⟨.ref a, ea, .inl ⟨rfl, _, SqL.of o1⟩, ?_⟩
      refine stepP1 S (Rdg.bind.mp h) fun z τ1 h u G1 H1 g1 S1 rz => ?_
      obtain ⟨a', ea', _, _, _, _, xs', o1', o2'⟩ := S1.ow i _ es
      rw [ea] at ea'
      cases ea'
      by_cases hz : ds.length < sizeLine
      · rw [if_pos hz] at h
        refine ⟨a, xs', u, rfl, rfl, o1', by rw [o2'.length]; exact hz, ?_⟩
        exact h _ G1 _ (S1.chg es ea ⟨xs' ++ [u], upd_same, o2'.app (.cons rz .nil)⟩) g1.g
      · rw [if_neg hz] at h
        exact h.elim
    | _ => simp only [es] at h; exact h.elim
  | emp => simp only [es] at h; exact h.elim
  | val _ => simp only [es] at h; exact h.elim
theorem ss_ext (c : Ctx Γ p X) {n i : Nat} {e : IE} {x : Str} {q ap cp : Pos} {y : Expr} (h1 : chkStep (chkE 0) Γ (.var i) (.Name x q) = true) (h2 : chkE n Γ e y = true) (hs : starB y = false) (hl : (ap.endLine == cp.line) = true) :
    PS X (.Expr (.Call (.Attribute (.Name x q) "extend" ap) [y] [] cp) pos) (tS p (.ext i e)) := by
  have e1 := pe_frz (expr_sound n Γ p X e y c h2).pe
  refine PS.weak (ps_expr (pe_bm PySem.F.plainAttrs_list PySem.F.slot_list_extend PySem.F.type_list_extend mt_extend (own_name c h1) (pa_cons e1 pa_nil (star_cons hs)) baseN (few1 hs) hl (star_cons hs) rfl) rfl) fun D σ H h => ?_
  obtain ⟨ρ, τ, G, S, h⟩ := h
  have h : Rdg ((match slotAt ρ i with
    | .own (.list xs) => (do
      let z ← (if isOwn e ρ = true then M.fail else ev p.gl p.φ e ρ) >>= asP
      (match z with
      | .list ys => if xs.length + ys.length ≤ sizeLine then pure (.next (ρ.set i (.own (.list (xs ++ ys))))) else M.fail
      | _ => M.fail))
    | _ => M.fail : M Fl) τ) (Beh p D G) (Xc p) := h
  cases es : slotAt ρ i with
  | own w =>
    cases w with
    | list ds =>
      simp only [es] at h
      obtain ⟨a, ea, g0, g2, n1, n2, xs, o1, o2⟩ := S.ow i _ es
      refine ⟨.ref a, ea, .inl ⟨rfl, _, SqL.of o1⟩, ?_⟩
      refine stepP1 S (Rdg.bind.mp h) fun z τ1 h u G1 H1 g1 S1 rz => ?_
      obtain ⟨a', ea', ga', _, _, _, xs', o1', o2'⟩ := S1.ow i _ es
      rw [ea] at ea'
      cases ea'
      cases z with
      | list ys =>
        cases rz with
        | @lst b zs _ z1 z2 =>
          have h : Rdg ((if ds.length + ys.length ≤ sizeLine then pure (.next (ρ.set i (.own (.list (ds ++ ys))))) else M.fail : M Fl) τ1) (Beh p D G) (Xc p) := h
          by_cases hz : ds.length + ys.length ≤ sizeLine
          · rw [if_pos hz] at h
            refine ⟨a, b, xs', zs, rfl, rfl, o1', S1.sub _ _ z1, by rw [o2'.length, z2.length]; exact hz, ?_⟩
            exact h _ G1 _ (S1.chg es ea ⟨xs' ++ zs, upd_same, o2'.app z2⟩) g1.g
          · rw [if_neg hz] at h
            exact h.elim
      | _ => exact h.elim
    | _ => simp only [es] at h; exact h.elim
  | emp => simp only [es] at h; exact h.elim
  | val _ => simp only [es] at h; exact h.elim
theorem ss_expr (c : Ctx Γ p X) {n : Nat} {e : IE} {v : Expr} (h : chkE n Γ e v = true) (hl : lcB v = false) : PS X (.Expr v pos) (tS p (.expr e)) := by
  refine PS.weak (ps_expr (expr_sound n Γ p X e v c h).pe (noswap1 hl)) fun D σ H h => ?_
  obtain ⟨ρ, τ, G, S, h⟩ := h
  exact stepE S (Rdg.bind.mp h) fun val τ1 o v G1 H1 g S1 po => o _ _ _ S1 g.g
theorem ss_ret (c : Ctx Γ p X) {n : Nat} {e : IE} {v : Expr} (h : chkE n Γ e v = true) : PS X (.Return (some v) pos) (tS p (.ret e)) := by
  refine PS.weak (ps_ret (pe_A c n h)) fun D σ H h => ?_
  obtain ⟨ρ, τ, G, S, h⟩ := h
  exact ⟨ρ, τ, G, S, Rdg.mono (Rdg.bind.mp h) (fun r τ' o v G' H' S' m rv => o v G' H' S'.e S'.tw rv) fun _ _ z => z⟩
theorem ss_raise (c : Ctx Γ p X) {k : Nat} {x m : Str} {j : Nat} {q q2 q3 : Pos} (h1 : globB Γ.sc x = true) (h2 : (x, k) ∈ Γ.exc) : PS X (.Raise (some (.Call (.Name x q) [.Constant (.str m) j q2] [] q3)) none pos) (tS p (.raise k)) := by
  obtain ⟨g1, g2, _⟩ := glob_of c h1
  obtain ⟨m1, m2, m3, m4, m5⟩ := c.ex x k h2
  refine PS.weak (ps_raise c.calm c.tk (pmk_own PySem.F.excBase_ValueError m2 m1 m3 (raises_own m4 m5) g1 g2)) fun D σ H h => ?_
  obtain ⟨ρ, τ, G, S, h⟩ := h
  have h : Xc p k τ := h
  exact ⟨k, rfl, rfl, h G H S.e S.tw⟩
/-! ### blocks -/
theorem tSs_cons {s : IS} {ss : List IS} {D : Ends} {σ : L2.St} {H : Hp} (h : tSs p (s :: ss) D σ H) : tSeq (tS p s) (tSs p ss) D σ H := by
  obtain ⟨ρ, τ, G, S, h⟩ := h
  refine ⟨ρ, τ, G, S, Rdg.mono (Rdg.bind.mp h) (fun f τ' o => ?_) fun _ _ z => z⟩
  cases f with
  | next ρ' =>
    intro σ' G' H' S' m
    refine ⟨ρ', τ', G', S', Rdg.mono o (fun f τ'' o => ?_) fun _ _ z => z⟩
    cases f with
    | next ρ'' => exact fun σ2 G2 H2 S2 m2 => o σ2 G2 H2 S2 fun b u q => m2 b u (m b u q)
    | ret v => exact o
  | ret v => exact o
theorem tSs_nil {D : Ends} {σ : L2.St} {H : Hp} (h : tSs p [] D σ H) : tNext D σ H := by
  obtain ⟨ρ, τ, G, S, h⟩ := h
  exact h σ G H S fun _ _ q => q
theorem beh_more {D : Ends} {G G1 : Hp} {f : Fl} {τ : Town} (m : ∀ a o, G a = some o → G1 a = some o) (h : Beh p D G f τ) : Beh p D G1 f τ := by
  cases f with
  | next ρ => exact fun σ' G' H' S' m' => h σ' G' H' S' fun b u q => m' b u (m b u q)
  | ret v => exact h
theorem ss_ite (c : Ctx Γ p X) {n : Nat} {e : IE} {a b : List IS} {v : Expr} {sa sb : List Stmt} (h : chkE n Γ e v = true) (ha : PSs X sa (tSs p a)) (hb : PSs X sb (tSs p b)) : PS X (.If v sa sb pos) (tS p (.ite e a b)) := by
  refine PS.weak (ps_if (expr_sound n Γ p X e v c h).pt ha hb) fun D σ H h => ?_
  obtain ⟨ρ, τ, G, S, h⟩ := h
  refine stepT S (Rdg.bind.mp h) fun k τ1 h G1 H1 g S1 => ?_
  cases k with
  | true => exact iteT ⟨ρ, τ1, G1, S1, Rdg.mono (Rdg.ift h) (fun f t o => beh_more g.g o) fun _ _ z => z⟩
  | false => exact iteF ⟨ρ, τ1, G1, S1, Rdg.mono (Rdg.iff h) (fun f t o => beh_more g.g o) fun _ _ z => z⟩
/-! ### loops -/
theorem Ctx.nox (c : Ctx Γ p X) : Ctx Γ p.nox X.nox where
  N := c.N
  sc := c.sc
  nd := c.nd
  calm := c.calm
  K := c.K
  w := c.w
  free := c.free
  fn := c.fn
  gl := c.gl
  ex := c.ex
  hu := c.hu
  tk := fun u s' x => by
    obtain ⟨_, _, _, _, _, _, _, _, _, _, _, _, _, _, _, _, _, _, _, z⟩ := x
    exact z.elim
  tp := c.tp
def tIA (p : Pm) (it : It) : TI := fun σ H R => ∃ ρ τ G, SRp p ρ τ G H σ ∧ Rdg (evItA p.gl p.φ it ρ τ) (fun r τ' => ∀ J G' H', SRp p r.2 τ' G' H' σ → (∀ a o, G a = some o → G' a = some o) → Wk p.C J G' r.1 → R J H') (Xc p)
theorem si_A (c : Ctx Γ p X) {n : Nat} {it : It} {tg e : Expr} (h : chkI (chkE n) Γ it tg e = true) : PI X tg e (tIA p it) ∧ setB e = false := by
  obtain ⟨q1, q2⟩ := si_of (expr_sound n) c h
  refine ⟨?_, q2⟩
  have other : (∀ a, it ≠ .seq a) → PI X tg e (tIA p it) := fun hn => by
    refine PI.weak q1 fun σ H R w => ?_
    obtain ⟨ρ, τ, G, S, w⟩ := w
    have ea : evItA p.gl p.φ it ρ = (do
      let xs ← evIt p.gl p.φ it ρ
      pure (xs, ρ)) := by
      cases it with
      | seq a => exact absurd rfl (hn a)
      | _ => rfl
    rw [ea] at w
    exact ⟨ρ, τ, G, S, Rdg.mono (Rdg.bind.mp w) (fun xs τ' o G' H' g t J wk => o J G' H' (S.grow g t) g.g wk) fun _ _ z => z⟩
  cases it with
  | seq a =>
    obtain ⟨h1, h2⟩ := ands (show (chkE n Γ a e && !setB e) = true from h)
    refine PI.weak (pi_seq (C := p.C) (pe_A c n h1)) fun σ H R w => ?_
    obtain ⟨ρ, τ, G, S, w⟩ := w
    refine ⟨ρ, τ, G, S, Rdg.mono (Rdg.bind.mp w) (fun r τ' w v G' H' S' m rv => ?_) fun _ _ z => z⟩
    obtain ⟨x, ex, w⟩ := Rdg.asD (Rdg.bind.mp w)
    obtain ⟨xs, hx, w⟩ := Rdg.opt (Rdg.bind.mp w)
    rw [ex] at rv
    exact items_walk c S'.sub rv hx fun J wk => w J G' H' S' m wk
  | _ => exact other fun a z => nomatch z
theorem ss_for (c : Ctx Γ p X) {n : Nat} {t : Tg} {it : It} {b : List IS} {tg iter : Expr} {body : List Stmt} (h1 : chkI (chkE n) Γ it tg iter = true) (h2 : chkT Γ t tg = true) (hb : PSs X.nox body (tSs p.nox b)) : PS X (.For tg iter body [] pos) (tS p (.for_ t it b)) := by
  obtain ⟨hi, hs⟩ := si_A c.nox h1
  refine PS.weak (PS.nox (ps_for PassesOwn.never c.calm hi (pg_T c.nox h2) hb (folded hs))) fun D σ H h => ?_
  obtain ⟨ρ, τ, G, S, h⟩ := h
  have h := Rdg.bind.mp (Rdg.noX h)
  refine ⟨ρ, τ, G, S, Rdg.mono h (fun r τ' h J G1 H1 S1 m wk => ?_) fun _ _ z => z.elim⟩
  refine for_it wk (fun i σc Hc => ∃ ρc τc Gc, SRp p ρc τc Gc Hc σc ∧ (∀ a o, G1 a = some o → Gc a = some o) ∧ Rdg (forGo (fun ρ' => exs p.gl p.φ p.fu b ρ') t (r.1.drop i) ρc τc) (Beh p D G) (fun _ _ => False)) ?_ ?_ ?_ ?_
  · exact ⟨r.2, τ', G1, S1, fun _ _ q => q, h⟩
  · rintro i σc Hc hi ⟨ρc, τc, Gc, Sc, mc, _⟩
    exact ⟨Gc, τc, Sc.at, mc⟩
  · rintro i v σc Hc H' hi ⟨ρc, τc, Gc, Sc, mc, hr⟩ y
    obtain ⟨G2, x, hx, g2, t2, rx⟩ := y Gc τc Sc.at mc
    have ed : r.1.drop i = x :: r.1.drop (i + 1) := by
      have hlt : i < r.1.length := hi
      rw [List.drop_eq_getElem_cons hlt]
      rw [List.getElem?_eq_getElem hlt] at hx
      cases hx
      rfl
    rw [ed] at hr
    obtain ⟨ρ', e', hr⟩ := Rdg.opt (Rdg.bind.mp hr)
    refine ⟨ρc, τc, G2, .d x, ρ', Sc.grow g2 t2, .inl rx, e', fun σ2 S3 _ => ?_⟩
    refine ⟨ρ', τc, G2, S3, Rdg.mono (Rdg.bind.mp hr) (fun f τ2 o => ?_) fun _ _ z => z.elim⟩
    cases f with
    | next ρ2 => exact fun σ' G' H' S' m' => ⟨ρ2, τ2, G', S', fun a o q => m' a o (g2.g a o (mc a o q)), o⟩
    | ret v => exact o
  · rintro σc Hc ⟨ρc, τc, Gc, Sc, mc, hr⟩
    rw [show r.1.drop r.1.length = [] from List.drop_length] at hr
    exact hr σc Gc Hc Sc fun a o q => mc a o (m a o q)
theorem ss_while (c : Ctx Γ p X) {n : Nat} {e : IE} {b : List IS} {v : Expr} {body : List Stmt} (h1 : chkE n Γ e v = true) (hb : PSs X.nox body (tSs p.nox b)) : PS X (.While v body [] pos) (tS p (.while_ e b)) := by
  refine PS.weak (PS.nox (ps_while PassesOwn.never (expr_sound n Γ p.nox X.nox e v c.nox h1).pt hb)) fun D σ H h => ?_
  obtain ⟨ρ, τ, G, S, h⟩ := h
  have h := Rdg.noX h
  refine ⟨fun m σc Hc => ∃ ρc τc Gc, SRp p ρc τc Gc Hc σc ∧ (∀ a o, G a = some o → Gc a = some o) ∧ Rdg (whGo (fun ρ' => ev p.gl p.φ e ρ' >>= asB) (fun ρ' => exs p.gl p.φ p.fu b ρ') m ρc τc) (Beh p D G) (fun _ _ => False), ⟨p.fu, ρ, τ, G, S, fun _ _ q => q, h⟩, ?_⟩
  rintro m σc Hc ⟨ρc, τc, Gc, Sc, mc, hr⟩
  cases m with
  | zero => exact hr.elim
  | succ m =>
    refine stepT (p := p.nox) Sc (Rdg.mono (Rdg.bind.mp hr) (fun _ _ z => z) fun _ _ z => z.elim) fun k τ1 hr G1 H1 g S1 => ?_
    cases k with
    | false => exact iteF (Rdg.iff hr σc G1 H1 S1 fun a o q => g.g a o (mc a o q))
    | true =>
      refine iteT ⟨fun σ' H' => ∃ ρ' τ' G', SRp p ρ' τ' G' H' σ' ∧ (∀ a o, G a = some o → G' a = some o) ∧ Rdg (whGo (fun ρ' => ev p.gl p.φ e ρ' >>= asB) (fun ρ' => exs p.gl p.φ p.fu b ρ') m ρ' τ') (Beh p D G) (fun _ _ => False), fun σ' H' q => ⟨m, Nat.lt_succ_self m, q⟩, ?_⟩
      refine ⟨ρc, τ1, G1, S1, Rdg.mono (Rdg.bind.mp (Rdg.ift hr)) (fun f τ2 o => ?_) fun _ _ z => z.elim⟩
      cases f with
      | next ρ2 => exact fun σ' G' H' S' m' => ⟨ρ2, τ2, G', S', fun a o q => m' a o (g.g a o (mc a o q)), o⟩
      | ret v => exact o
end
end Bk
namespace Bk
open PySem PySem.Spec PyProof.Rows L2
def nameB : Expr → Bool
  | .Name _ _ => true
  | _ => false
/-- name = [..] -/
def lcS (n : Nat) (Γ : Stat) (i : Nat) (el c' : IE) (t : Tg) (it : It) (tgt v : Expr) : Bool := match tgt, v with
  | .Name y py, .ListComp x [⟨tg, iter, ifs, 0⟩] scope lpos => decide (Γ.sc.kind = .function) && decide (Γ.N[i]? = some y) && decide (Γ.sc.names.lookup y = some .local) && (py.line == lpos.line) &&
    !(scope.names.any fun (n, k) => n == y && (k == .local || k == .cell)) && chkI (chkE n) Γ it tg iter && chkT (Γ.blk scope) t tg && blkC Γ.N Γ.sc scope (ownT t tg) && decide ((ownT t tg).map (·.2) = slotsT t) && chkF (chkE n) (Γ.blk scope) c' ifs && chkE n (Γ.blk scope) el x
  | _, _ => false
def chkPar (n : Nat) (Γ : Stat) (ts : List (Nat × Bool)) (ies : List IE) (es vs : List Expr) : Bool :=
  decide (Γ.sc.kind = .function) && chkN Γ ts es && decide (ts.length = ies.length) && chkEs (chkE n) Γ ies vs && decide (vs.length ≤ 1000) && (match swB Γ.sc es vs with
    | none => false
    | some none => true
    | some (some l) => chkL Γ es && decide ((ts.map (·.1)).Nodup) && decide (l = es.filterMap fun
      | .Name x _ => some x
      | _ => none) && (decide (ts.length = 2) || decide (ts.length = 3)))
section
variable (f : Stat → IS → Stmt → Bool)
def chkBs (Γ : Stat) : List IS → List Stmt → Bool
  | [], [] => true
  | s :: ss, st :: sts => f Γ s st && chkBs Γ ss sts
  | _, _ => false
def chkSS (n : Nat) (Γ : Stat) (s : IS) (st : Stmt) : Bool := match s with
  | .asg t e => (match st with
    | .Assign [tg] v _ => (chkT Γ t tg && chkE n Γ e v && !lcB v && (!tupB v || nameB tg)) || (match t, e with
      | .nm i, .lc el t' it c' => lcS n Γ i el c' t' it tg v
      | _, _ => false)
    | _ => false)
  | .own i e => (match st with
    | .Assign [tg] v _ => nameB tg && ((chkT Γ (.nm i) tg && chkE n Γ e v && !lcB v) || (match e with
      | .lc el t' it c' => lcS n Γ i el c' t' it tg v
      | _ => false))
    | _ => false)
  | .par ts ies => (match st with
    | .Assign [.Tuple es _ _] (.Tuple vs _ _) _ => chkPar n Γ ts ies es vs
    | _ => false)
  | .setI i k v => (match st with
    | .Assign [.Subscript (.Name x q) ke _] ve _ => chkStep (chkE 0) Γ (.var i) (.Name x q) && chkE n Γ k ke && chkE n Γ v ve && !sliceB ke && !lcB ve
    | _ => false)
  | .dset i k v => (match st with
    | .Assign [.Subscript (.Name x q) ke _] ve _ => chkStep (chkE 0) Γ (.var i) (.Name x q) && chkE n Γ k ke && chkE n Γ v ve && !sliceB ke && !lcB ve
    | _ => false)
  | .dnew i e => (match st with
    | .Assign [.Name x q] (.Call (.Name d _) [.Call (.Name l _) [.Call (.Name u _) [y] [] _] [] _] [] _) _ => chkT Γ (.nm i) (.Name x q) && decide (d = "dict") && decide (l = "list") && decide (u = "enumerate") && globB Γ.sc d && globB Γ.sc l && globB Γ.sc u && !starB y && chkE n Γ e y
    | _ => false)
  | .app i e => (match st with
    | .Expr (.Call (.Attribute (.Name x q) m ap) [y] [] cp) _ => decide (m = "append") && chkStep (chkE 0) Γ (.var i) (.Name x q) && chkE n Γ e y && !starB y && (ap.endLine == cp.line)
    | _ => false)
  | .ext i e => (match st with
    | .Expr (.Call (.Attribute (.Name x q) m ap) [y] [] cp) _ => decide (m = "extend") && chkStep (chkE 0) Γ (.var i) (.Name x q) && chkE n Γ e y && !starB y && (ap.endLine == cp.line)
    | _ => false)
  | .expr e => (match st with
    | .Expr v _ => chkE n Γ e v && !lcB v
    | _ => false)
  | .ret e => (match st with
    | .Return (some v) _ => chkE n Γ e v
    | _ => false)
  | .ite e a b => (match st with
    | .If v sa sb _ => chkE n Γ e v && chkBs f Γ a sa && chkBs f Γ b sb
    | _ => false)
  | .for_ t it b => (match st with
    | .For tg iter body [] _ => chkI (chkE n) Γ it tg iter && chkT Γ t tg && chkBs f Γ b body
    | _ => false)
  | .while_ e b => (match st with
    | .While v body [] _ => chkE n Γ e v && chkBs f Γ b body
    | _ => false)
  | .raise k => (match st with
    | .Raise (some (.Call (.Name x _) [.Constant (.str _) _ _] [] _)) none _ => globB Γ.sc x && Γ.exc.contains (x, k)
    | _ => false)
end
def chkS (n : Nat) : Nat → Stat → IS → Stmt → Bool
  | 0, _, _, _ => false
  | m + 1, Γ, s, st => chkSS (chkS n m) n Γ s st
def chkB (n m : Nat) (Γ : Stat) (ss : List IS) (sts : List Stmt) : Bool := chkBs (chkS n m) Γ ss sts
section
variable {Γ : Stat} {p : Pm} {X : Cx}
/-- a new list that is stored as a value -/
theorem asgF_read {i : Nat} {e : IE} {D : Ends} {σ : L2.St} {H : Hp} (hf : fresh e = true) (h : tS p (.asg (.nm i) e) D σ H) : tAsg (tE p e) (gName i) D σ H := by
  obtain ⟨ρ, τ, G, S, h⟩ := h
  have ea : evA p.gl p.φ e ρ = (do
      let v ← ev p.gl p.φ e ρ
      pure (v, ρ)) := by
    cases e with
    | var i => cases hf
    | ite c a b => cases hf
    | _ => rfl
  have h := Rdg.bind.mp h
  rw [ea] at h
  refine stepE S (Rdg.bind.mp h) fun val τ1 o v G1 H1 g S1 po => ?_
  obtain ⟨ρ', e1, o⟩ := Rdg.opt (Rdg.bind.mp o)
  unfold Post at po
  rw [if_pos hf] at po
  obtain ⟨a, x, rfl, rfl, h0, h1, n1, n2, nt, ow⟩ := po
  obtain ⟨q1, q2⟩ := iteS (show (if i < ρ.length then some (ρ.set i (.val (.d x))) else none) = some ρ' from e1)
  obtain ⟨G2, m1, m2, m3, m4⟩ := freeze g.s nt ow h1
  have g2 : Grow p.C G H G2 H1 := ⟨fun b u q => m1 b u (g.g b u q), m2, g.k, g.t, fun b hb => by rw [m3 b (fun q => hb (by rw [q]; exact h0)), g.o b hb]⟩
  subst q2
  exact o _ _ _ ((S.grow g2 S1.tw).set q1 m4) g2.g
theorem lcS_ok (c : Ctx Γ p X) {n i : Nat} {el c' : IE} {t : Tg} {it : It} {tgt v : Expr} {pos : Pos} (h : lcS n Γ i el c' t it tgt v = true) : PS X (.Assign [tgt] v pos) (tAsg (tE p (.lc el t it c')) (gName i)) := by
  unfold lcS at h
  split at h
  · obtain ⟨h, a11⟩ := ands h
    obtain ⟨h, a10⟩ := ands h
    obtain ⟨h, a9⟩ := ands h
    obtain ⟨h, a8⟩ := ands h
    obtain ⟨h, a7⟩ := ands h
    obtain ⟨h, a6⟩ := ands h
    obtain ⟨h, a5⟩ := ands h
    obtain ⟨h, a4⟩ := ands h
    obtain ⟨h, a3⟩ := ands h
    obtain ⟨a1, a2⟩ := ands h
    exact ss_lc c (of_decide_eq_true a1) (of_decide_eq_true a2) (of_decide_eq_true a3) a4 (nots a5) a6 a7 a8 (of_decide_eq_true a9) a10 a11
  · cases h
theorem name_b {e : Expr} (h : nameB e = true) : ∃ x q, e = .Name x q := by
  cases e with
  | Name x q => exact ⟨x, q, rfl⟩
  | _ => cases h
def SS (f : Stat → IS → Stmt → Bool) : Prop := ∀ Γ p X s st, Ctx Γ p X → f Γ s st = true → PS X st (tS p s)
theorem block_sound {f : Stat → IS → Stmt → Bool} (ih : SS f) (c : Ctx Γ p X) : ∀ {ss : List IS} {sts : List Stmt}, chkBs f Γ ss sts = true → PSs X sts (tSs p ss)
  | [], [], _ => PSs.weak pss_nil fun D σ H h => tSs_nil h
  | s :: ss, st :: sts, h => by
    obtain ⟨h1, h2⟩ := ands (show (f Γ s st && chkBs f Γ ss sts) = true from h)
    exact PSs.weak (pss_cons (ih Γ p X s st c h1) (block_sound ih c h2)) fun D σ H h => tSs_cons h
  | [], _ :: _, h => by cases h
  | _ :: _, [], h => by cases h
theorem sstep_sound {f : Stat → IS → Stmt → Bool} (ih : SS f) (n : Nat) : SS (chkSS f n) := by
  intro Γ p X s st c h
  unfold chkSS at h
  cases s with
  | asg t e =>
    dsimp only at h
    split at h
    · rcases Bool.or_eq_true_iff.mp h with h | h
      · obtain ⟨h, h4⟩ := ands h
        obtain ⟨h, h3⟩ := ands h
        obtain ⟨h1, h2⟩ := ands h
        refine ss_asg c h1 h2 (nots h3) ?_
        rcases Bool.or_eq_true_iff.mp h4 with h4 | h4
        · exact .inl (nots h4)
        · exact .inr (name_b h4)
      · split at h
        · exact PS.weak (lcS_ok c h) fun D σ H h => asgF_read rfl h
        · cases h
    · cases h
  | own i e =>
    dsimp only at h
    split at h
    · obtain ⟨h0, h⟩ := ands h
      rcases Bool.or_eq_true_iff.mp h with h | h
      · obtain ⟨h, h3⟩ := ands h
        obtain ⟨h1, h2⟩ := ands h
        obtain ⟨x, q, rfl⟩ := name_b h0
        exact ss_own c h1 h2 (nots h3)
      · split at h
        · exact PS.weak (lcS_ok c h) fun D σ H h => own_read h
        · cases h
    · cases h
  | par ts ies =>
    dsimp only at h
    split at h
    · unfold chkPar at h
      obtain ⟨h, h6⟩ := ands h
      obtain ⟨h, h5⟩ := ands h
      obtain ⟨h, h4⟩ := ands h
      obtain ⟨h, h3⟩ := ands h
      obtain ⟨h1, h2⟩ := ands h
      split at h6
      · cases h6
      · rename_i e
        exact ss_par c (of_decide_eq_true h1) h2 (of_decide_eq_true h3) h4 e (.inl rfl) (of_decide_eq_true h5)
      · rename_i l e
        obtain ⟨h6, k4⟩ := ands h6
        obtain ⟨h6, k3⟩ := ands h6
        obtain ⟨k1, k2⟩ := ands h6
        refine ss_par c (of_decide_eq_true h1) h2 (of_decide_eq_true h3) h4 e (.inr ⟨k1, of_decide_eq_true k2, congrArg some (of_decide_eq_true k3), ?_⟩) (of_decide_eq_true h5)
        rcases Bool.or_eq_true_iff.mp k4 with q | q
        · exact .inl (of_decide_eq_true q)
        · exact .inr (of_decide_eq_true q)
    · cases h
  | setI i k v =>
    dsimp only at h
    split at h
    · obtain ⟨h, h5⟩ := ands h
      obtain ⟨h, h4⟩ := ands h
      obtain ⟨h, h3⟩ := ands h
      obtain ⟨h1, h2⟩ := ands h
      exact ss_setL c h1 h2 h3 (nots h4) (nots h5)
    · cases h
  | dset i k v =>
    dsimp only at h
    split at h
    · obtain ⟨h, h5⟩ := ands h
      obtain ⟨h, h4⟩ := ands h
      obtain ⟨h, h3⟩ := ands h
      obtain ⟨h1, h2⟩ := ands h
      exact ss_dset c h1 h2 h3 (nots h4) (nots h5)
    · cases h
  | dnew i e =>
    dsimp only at h
    split at h
    · obtain ⟨h, h9⟩ := ands h
      obtain ⟨h, h8⟩ := ands h
      obtain ⟨h, h7⟩ := ands h
      obtain ⟨h, h6⟩ := ands h
      obtain ⟨h, h5⟩ := ands h
      obtain ⟨h, h4⟩ := ands h
      obtain ⟨h, h3⟩ := ands h
      obtain ⟨h1, h2⟩ := ands h
      have h2 := of_decide_eq_true h2
      have h3 := of_decide_eq_true h3
      have h4 := of_decide_eq_true h4
      subst h2 h3 h4
      exact ss_dnew c h1 h5 h6 h7 (nots h8) h9
    · cases h
  | app i e =>
    dsimp only at h
    split at h
    · obtain ⟨h, h5⟩ := ands h
      obtain ⟨h, h4⟩ := ands h
      obtain ⟨h, h3⟩ := ands h
      obtain ⟨h1, h2⟩ := ands h
      have h1 := of_decide_eq_true h1
      subst h1
      exact ss_app c h2 h3 (nots h4) h5
    · cases h
  | ext i e =>
    dsimp only at h
    split at h
    · obtain ⟨h, h5⟩ := ands h
      obtain ⟨h, h4⟩ := ands h
      obtain ⟨h, h3⟩ := ands h
      obtain ⟨h1, h2⟩ := ands h
      have h1 := of_decide_eq_true h1
      subst h1
      exact ss_ext c h2 h3 (nots h4) h5
    · cases h
  | expr e =>
    dsimp only at h
    split at h
    · obtain ⟨h1, h2⟩ := ands h
      exact ss_expr c h1 (nots h2)
    · cases h
  | ret e =>
    dsimp only at h
    split at h
    · exact ss_ret c h
    · cases h
  | ite e a b =>
    dsimp only at h
    split at h
    · obtain ⟨h, h3⟩ := ands h
      obtain ⟨h1, h2⟩ := ands h
      exact ss_ite c h1 (block_sound ih c h2) (block_sound ih c h3)
    · cases h
  | for_ t it b =>
    dsimp only at h
    split at h
    · obtain ⟨h, h3⟩ := ands h
      obtain ⟨h1, h2⟩ := ands h
      exact ss_for c h1 h2 (block_sound ih c.nox h3)
    · cases h
  | while_ e b =>
    dsimp only at h
    split at h
    · obtain ⟨h1, h2⟩ := ands h
      exact ss_while c h1 (block_sound ih c.nox h2)
    · cases h
  | raise k =>
    dsimp only at h
    split at h
    · obtain ⟨h1, h2⟩ := ands h
      exact ss_raise c h1 (by simpa using h2)
    · cases h
theorem stmt_sound (n : Nat) : ∀ m, SS (chkS n m)
  | 0 => fun _ _ _ _ _ _ h => by cases h
  | m + 1 => fun Γ p X s st c h => sstep_sound (stmt_sound n m) n Γ p X s st c h
theorem body_sound (c : Ctx Γ p X) {n m : Nat} {ss : List IS} {sts : List Stmt} (h : chkB n m Γ ss sts = true) : PSs X sts (tSs p ss) := block_sound (stmt_sound n m) c h
end
end Bk
namespace Bk
open PySem PySem.Spec PyProof.Rows L2
/-! ### parameters -/
def plainArgs (a : Arguments) (ps : List Str) : Bool := a.posonlyargs.isEmpty && decide (a.args.map (·.arg) = ps) && a.vararg.isNone && a.kwonlyargs.isEmpty && a.kwarg.isNone && decide ps.Nodup
theorem fm_congr {α β : Type} {f g : α → Option β} : ∀ {l : List α}, (∀ x ∈ l, f x = g x) → l.filterMap f = l.filterMap g
  | [], _ => rfl
  | x :: l, h => by
    rw [List.filterMap_cons, List.filterMap_cons, h x (List.mem_cons_self ..), fm_congr fun y hy => h y (List.mem_cons_of_mem _ hy)]
theorem look_zip {α : Type} : ∀ {ps : List Str} {us : List α}, us.length = ps.length → ps.Nodup → (∀ x ∈ ps, ((ps.zip us).lookup x).isSome = true) ∧ (ps.filterMap fun n => ((ps.zip us).lookup n).map (n, ·)) = ps.zip us
  | [], [], _, _ => ⟨fun _ h => (nomatch h), rfl⟩
  | p :: ps, u :: us, hl, hn => by
    obtain ⟨n1, n2⟩ := List.nodup_cons.mp hn
    obtain ⟨i1, i2⟩ := look_zip (ps := ps) (us := us) (by simpa using hl) n2
    refine ⟨fun x hx => ?_, ?_⟩
    · rw [List.zip_cons_cons, List.lookup_cons]
      cases q : x == p with
      | true => rfl
      | false =>
        rcases List.mem_cons.mp hx with rfl | h
        · simp at q
        · exact i1 x h
    · rw [List.zip_cons_cons, List.filterMap_cons]
      rw [show (((p, u) :: ps.zip us).lookup p) = some u from by rw [List.lookup_cons]; simp]
      show (p, u) :: _ = (p, u) :: _
      congr 1
      refine (fm_congr fun x hx => ?_).trans i2
      rw [List.lookup_cons]
      cases q : x == p with
      | true => exact absurd (by rw [← eq_of_beq q]; exact hx) n1
      | false => rfl
  | [], _ :: _, h, _ => by cases h
  | _ :: _, [], h, _ => by cases h
theorem bind_plain {x qual : Str} {a : Arguments} {body : List Stmt} {scope : Scope} {kV doc pm : Value} {an : Option Addr} {cdv ct : Value} {us : List Value} {ps : List Str} (h : plainArgs a ps = true) (hl : us.length = ps.length) :
    bindArgs (PySem.W.fnOf x qual a body scope .none kV doc pm an cdv ct) ⟨us, []⟩ = pure (ps.zip us) := by
  unfold plainArgs at h
  obtain ⟨h, h6⟩ := ands h
  obtain ⟨h, h5⟩ := ands h
  obtain ⟨h, h4⟩ := ands h
  obtain ⟨h, h3⟩ := ands h
  obtain ⟨h1, h2⟩ := ands h
  have hn := of_decide_eq_true h6
  have h2 := of_decide_eq_true h2
  obtain ⟨i1, i2⟩ := look_zip hl hn
  cases a with
  | mk po ar va ko kd kw df =>
    have e1 : po = [] := List.isEmpty_iff.mp h1
    have e4 : ko = [] := List.isEmpty_iff.mp h4
    have e3 : va = none := Option.isNone_iff_eq_none.mp h3
    have e5 : kw = none := Option.isNone_iff_eq_none.mp h5
    subst e1 e4 e3 e5
    have h2 : ar.map (·.arg) = ps := h2
    have fl : (List.filter (fun n => (List.lookup n (ps.zip us)).isNone) ps) = [] := by
      rw [List.filter_eq_nil_iff]
      intro y hy
      have := i1 y hy
      simp [Option.isSome_iff_ne_none] at this ⊢
      exact this
    have ng : ¬ us.length > ps.length := by omega
    unfold bindArgs
    simp only [PySem.W.fnOf]
    simp only [h2, List.map_nil, List.nil_append, List.append_nil]
    simp only [List.forIn_nil, pure_bind, show seqItems? Value.none = pure none from rfl, Option.getD_none, show (#[] : Array Value).toList = [] from rfl, List.length_nil, Nat.zero_sub, List.drop_nil, Nat.sub_zero, List.take_length, fl, List.drop_length, List.zip_nil_left, List.isEmpty_nil, i2, Option.isNone_none, Bool.and_true, decide_eq_true_eq, ng, if_false, ↓reduceIte, Bool.not_true, Bool.false_eq_true]
/-! ### the entry of a def -/
theorem start_get {N : List Str} {vs : List V} {i : Nat} {v : V} (h : vs[i]? = some v) : (L2.start N vs)[i]? = some (some v) := by
  have hl : i < vs.length := (List.getElem?_eq_some_iff.mp h).1
  unfold L2.start
  rw [List.getElem?_append_left (by simpa using hl), List.getElem?_map, h]
  rfl
theorem startE_get {N : List Str} {vals : List Val} {i : Nat} : slotAt (startE N vals) i = match vals[i]? with
    | some v => .val v
    | none => .emp := by
  unfold startE slotAt
  rw [List.getD_eq_getElem?_getD]
  by_cases hl : i < vals.length
  · rw [List.getElem?_append_left (by simpa using hl), List.getElem?_map, List.getElem?_eq_getElem hl]
    rfl
  · rw [List.getElem?_append_right (by simpa using hl), List.getElem?_eq_none (Nat.le_of_not_lt hl)]
    rw [List.getElem?_replicate]
    split <;> rfl
theorem pget2 {α β : Type} {r : α → β → Prop} : ∀ {as : List α} {bs : List β}, Paired r as bs → ∀ (i : Nat) (b : β), bs[i]? = some b → ∃ a, as[i]? = some a ∧ r a b
  | _, _, .nil, i, b, h => by simp at h
  | _, _, .cons q t, 0, b, h => by
    simp at h
    subst h
    exact ⟨_, rfl, q⟩
  | _, _, .cons q t, i + 1, b, h => pget2 t i b (by simpa using h)
theorem SR.start {C : Cf} {N : List Str} {vs : List V} {vals : List Val} {τ : Town} {G H : Hp} (A : At C τ G H) (r : Paired (VR C G) vs vals) : SR C G H (startE N vals) τ G H (L2.start N vs) where
  e := Grow.refl A.s
  gt := A.gt
  gr := A.gr
  tw := A.t
  len := by
    unfold startE L2.start
    simp [r.length]
  sl := fun i v h => by
    rw [startE_get] at h
    split at h
    · rename_i u e
      cases h
      obtain ⟨a, e1, e2⟩ := pget2 r i _ e
      exact ⟨a, start_get e1, e2⟩
    · cases h
  ow := fun i x h => by
    rw [startE_get] at h
    split at h <;> cases h
  ds := fun i j x y a h => by
    rw [startE_get] at h
    split at h <;> cases h
/-! ### all defs -/
structure HEnv (P : Program) (w : World) (K : PySem.W.Frag) (mg : Str → Option Value) (C : Cf) (gl : Nat → Option PyData) (fns : List (Str × Nat × Nat)) (gls exc : List (Str × Nat)) : Prop where
  hK : K = C.K
  hw : w = C.w
  free : ∀ x ∈ blts, mg x = none
  fn : ∀ f ix np, (f, ix, np) ∈ fns → mg f = some (.ref (C.fad ix)) ∧ PySem.W.keepIn K (.ref (C.fad ix)) = true
  gl : ∀ x g, (x, g) ∈ gls → ∃ a d, mg x = some (.ref a) ∧ gl g = some d ∧ isDict d = false ∧ isL d = false ∧ ∀ G, Dq K G (.ref a) d
  ex : ∀ x k, (x, k) ∈ exc → mg x = some (.ref (C.cad k)) ∧ PySem.W.excIn K (C.cad k) He.veBase "ValueError.__new__" = true ∧ PySem.W.keepIn K (.ref (C.cad k)) = true ∧
    PySem.W.subIn K (.ref (C.cad k)) (.type "BaseException") = some true ∧ PySem.W.typeIn K (.ref (C.cad k)) = some (.type "type")
section
variable {P : Program} {w : World} {K : PySem.W.Frag} {mg : Str → Option Value} {base : Heap} {C : Cf} {gl : Nat → Option PyData} {fns : List (Str × Nat × Nat)} {gls exc : List (Str × Nat)} {tb : Nat → Option Fn} {fu : Nat}
def OkAt (P : Program) (w : World) (K : PySem.W.Frag) (mg : Str → Option Value) (base : Heap) (C : Cf) (φ : Nat → List Val → M Val) (n ix np : Nat) : Prop :=
  ∃ fd ps, FnOk P w K mg base (L2.CX P w) n (C.fad ix) fd ps (spI C φ ix np) ∧ Binds K fd ps []
/-- the def ix: a text that is checked, or one that is told by itself -/
def DefOk (P : Program) (w : World) (K : PySem.W.Frag) (mg : Str → Option Value) (base : Heap) (C : Cf) (fns : List (Str × Nat × Nat)) (gls exc : List (Str × Nat)) (tb : Nat → Option Fn) (ix np : Nat) : Prop :=
  (∃ N body x params sbody scope fd n m, tb ix = some (.py N np body) ∧ FunD K x x params sbody scope [] [] (C.fad ix) fd ∧ FnScope N (N.take np) scope ∧ np ≤ N.length ∧ plainArgs params (N.take np) = true ∧ chkB n m ⟨N, scope, true, fns, gls, exc⟩ body sbody = true) ∨
  ∃ g fd ps, tb ix = some (.nat np g) ∧ FnOk P w K mg base (L2.CX P w) 1 (C.fad ix) fd ps (spI C (fun _ vs => g vs) ix np) ∧ Binds K fd ps []
theorem take_len {α : Type} {l : List α} {n : Nat} (h : n ≤ l.length) : (l.take n).length = n := by rw [List.length_take]; omega
theorem ctx_of (e : HEnv P w K mg C gl fns gls exc) {n : Nat} {φ : Nat → List Val → M Val} (ih : ∀ f ix np, (f, ix, np) ∈ fns → OkAt P w K mg base C φ n ix np) {N : List Str} {scope : Scope} (nd : N.Nodup) {qual : Str} {f : Addr} {cdv : Value} {A : Around} {outer : List PySem.Env} {s : Shared} {H : Hp} {E : XK} (hr : Room n (A.deeper (envOfC qual scope s.heap.objs.size f cdv))) {X : Cx} (hX : X = cxOf (L2.CX P w) P w K mg base N qual scope f cdv A outer s H E) :
    ∀ G₁ H₁, Ctx ⟨N, scope, true, fns, gls, exc⟩ ⟨C, G₁, H₁, gl, φ, fu, fun c H' => E (.ref (C.cad c)) none H'⟩ X := by
  subst hX
  intro G₁ H₁
  exact {
    N := rfl
    sc := rfl
    nd := nd
    calm := rfl
    K := e.hK
    w := e.hw
    free := e.free
    fn := fun f ix np h => ⟨(e.fn f ix np h).1, (e.fn f ix np h).2, by
      obtain ⟨fd, ps, h1, h2⟩ := ih f ix np h
      exact ⟨n, fd, ps, hr, h1, h2⟩⟩
    gl := e.gl
    ex := e.ex
    hu := by have := hr.un; show (A.deeper (envOfC qual scope s.heap.objs.size f cdv)).units + 100 < cLine; omega
    tk := Takes.imp (takes_of rfl rfl rfl rfl) fun cls d σ H h => by
      obtain ⟨c, rfl, rfl, h⟩ := h
      exact h
    tp := fun _ _ => rfl }
theorem all_ok (e : HEnv P w K mg C gl fns gls exc) (D : ∀ f ix np, (f, ix, np) ∈ fns → DefOk P w K mg base C fns gls exc tb ix np) : ∀ n f ix np, (f, ix, np) ∈ fns → OkAt P w K mg base C (run gl tb fu n) n ix np
  | 0, f, ix, np, hm => by
    have no : ∀ vs H Q E, ¬ spI C (run gl tb fu 0) ix np vs H Q E := by
      rintro vs H Q E ⟨_, vals, τ, G, _, _, h⟩
      exact h
    rcases D f ix np hm with ⟨N, body, x, params, sbody, scope, fd, n, m, h1, h2, h3, h4, h5, h6⟩ | ⟨g, fd, ps, h1, h2, h3⟩
    · exact ⟨fd, N.take np, ⟨fun vs H Q E z => (no _ _ _ _ z).elim, fun _ _ _ _ _ _ _ _ _ _ _ _ _ z => (no _ _ _ _ z).elim⟩, h2.bindsN fun _ _ _ _ _ _ us hl => bind_plain h5 hl⟩
    · exact ⟨fd, ps, ⟨fun vs H Q E z => (no _ _ _ _ z).elim, fun _ _ _ _ _ _ _ _ _ _ _ _ _ z => (no _ _ _ _ z).elim⟩, h3⟩
  | k + 1, f, ix, np, hm => by
    have ih := all_ok e D k
    rcases D f ix np hm with ⟨N, body, x, params, sbody, scope, fd, n, m, h1, h2, h3, h4, h5, h6⟩ | ⟨g, fd, ps, h1, h2, h3⟩
    · refine ⟨fd, N.take np, h2.ok h3 (fun vs H Q E z => by rw [take_len h4]; exact z.1) (fun cdv A outer s H vs Q E hr z => ?_), h2.bindsN fun _ _ _ _ _ _ us hl => bind_plain h5 hl⟩
      obtain ⟨hl, vals, τ, G, hA, hv, z⟩ := z
      refine ⟨_, body_sound (ctx_of (fu := fu) e ih h3.nd hr rfl G H) h6, startE N vals, τ, G, SR.start hA hv, ?_⟩
      have z : Rdg ((match tb ix with
        | some (.py N np body) => if vals.length = np then exs gl (run gl tb fu k) fu body (startE N vals) >>= endV else M.fail
        | some (.nat np g) => if vals.length = np then g vals else M.fail
        | none => M.fail : M Val) τ) _ _ := z
      rw [h1] at z
      have hvl : vals.length = np := by rw [← hv.length]; exact hl
      have z : Rdg ((if vals.length = np then exs gl (run gl tb fu k) fu body (startE N vals) >>= endV else M.fail : M Val) τ) _ _ := z
      rw [if_pos hvl] at z
      refine Rdg.mono (Rdg.bind.mp z) (fun fl τ' o => ?_) fun c τ' o => o
      cases fl with
      | next ρ' => exact fun σ' G' H' S' m' => o .non G' H' S'.e S'.tw (.inl .non)
      | ret v => exact fun u G' H' g' t' r => o u G' H' g' t' r
    · refine ⟨fd, ps, (h2.mono (by omega)).imp fun vs H Q E z => ?_, h3⟩
      obtain ⟨hl, vals, τ, G, hA, hv, z⟩ := z
      refine ⟨hl, vals, τ, G, hA, hv, ?_⟩
      have z : Rdg ((match tb ix with
        | some (.py N np body) => if vals.length = np then exs gl (run gl tb fu k) fu body (startE N vals) >>= endV else M.fail
        | some (.nat np g) => if vals.length = np then g vals else M.fail
        | none => M.fail : M Val) τ) _ _ := z
      rw [h1] at z
      have hvl : vals.length = np := by rw [← hv.length]; exact hl
      have z : Rdg ((if vals.length = np then g vals else M.fail : M Val) τ) _ _ := z
      rw [if_pos hvl] at z
      exact z
end
end Bk
namespace Bk
open PySem PySem.Spec PyProof.Rows L2
/-! ### what a draw is -/
def lookR (l : List (Int × Int)) (k : Int) : Option Int := (l.find? fun p => decide (p.1 = k)).map (·.2)
def putR (l : List (Int × Int)) (k v : Int) : List (Int × Int) := if (l.any fun p => decide (p.1 = k)) = true then l.map (fun p => if p.1 = k then (p.1, v) else p) else l ++ [(k, v)]
def atOf (τ : Town) : Int := if τ.script.isEmpty = true then 0 else (τ.count + 1) % (τ.script.length : Int)
def restOf (τ : Town) : Int := (lookR τ.rests (atOf τ)).getD (if τ.script.isEmpty = true then 0 else τ.script.getD (atOf τ).toNat 0)
def num1 (τ : Town) : Int := (restOf τ + 104729 * (τ.count + 1)) % 4294967291
def num2 (τ : Town) : Int := num1 τ ^ 5 % 4294967279
def drawOf (τ : Town) (many : Int) : Int := if 1000000000000000000 ≤ restOf τ then restOf τ % many else (num2 τ / 64 * 69621 + num2 τ) % 4294967231 / 8 % many
def drawT (τ : Town) (many : Int) : Town := if 1000000000000000000 ≤ restOf τ then { τ with count := τ.count + 1, rests := putR τ.rests (atOf τ) (restOf τ / many) } else { τ with count := τ.count + 1 }
def drawArg : List Val → Option Int
  | [.scr, .town, .d (.int many)] => some many
  | _ => none
theorem drawArg_of {vals : List Val} {many : Int} (h : drawArg vals = some many) : vals = [.scr, .town, .d (.int many)] := by
  unfold drawArg at h
  split at h
  · cases h
    rfl
  · cases h
def drawV (vals : List Val) : M Val := fun τ => match drawArg vals with
  | some many => if 1 ≤ many ∧ many < 1073741824 then .ok (.d (.int (drawOf τ many))) (drawT τ many) else .bad
  | none => .bad
theorem draw_lo {τ : Town} {many : Int} (h : 1 ≤ many) : 0 ≤ drawOf τ many := by
  unfold drawOf
  split <;> exact Int.emod_nonneg _ (by omega)
theorem draw_hi {τ : Town} {many : Int} (h : 1 ≤ many) : drawOf τ many < many := by
  unfold drawOf
  split <;> exact Int.emod_lt_of_pos _ (by omega)
theorem drawV_of {vals : List Val} {τ : Town} {ok : Val → Town → Prop} {ex : Nat → Town → Prop} (h : Rdg (drawV vals τ) ok ex) :
    ∃ many, vals = [.scr, .town, .d (.int many)] ∧ 1 ≤ many ∧ many < 1073741824 ∧ ok (.d (.int (drawOf τ many))) (drawT τ many) := by
  unfold drawV at h
  cases e : drawArg vals with
  | none =>
    rw [e] at h
    exact h.elim
  | some many =>
    rw [e] at h
    have h : Rdg (if 1 ≤ many ∧ many < 1073741824 then .ok (.d (.int (drawOf τ many))) (drawT τ many) else .bad) ok ex := h
    by_cases hm : 1 ≤ many ∧ many < 1073741824
    · rw [if_pos hm] at h
      exact ⟨many, drawArg_of e, hm.1, hm.2, h⟩
    · rw [if_neg hm] at h
      exact h.elim
/-! ### rests -/
abbrev rK (l : List (Int × Int)) : List (Key × V) := l.map fun p => (Sum.inl p.1, V.int p.2)
theorem look_map (k : Int) : ∀ l : List (Int × Int), valV (rK l) (Sum.inl k) = (lookR l k).map V.int
  | [] => rfl
  | p :: l => by
    have ih := look_map k l
    by_cases e : p.1 = k
    · rw [show rK (p :: l) = (Sum.inl p.1, V.int p.2) :: rK l from rfl, valV_pos (by rw [e])]
      simp [lookR, List.find?_cons, e]
    · rw [show rK (p :: l) = (Sum.inl p.1, V.int p.2) :: rK l from rfl, valV_neg (fun z => e (Sum.inl.inj z)), ih]
      simp [lookR, List.find?_cons, e]
theorem put_map (l : List (Int × Int)) (k v : Int) : putK (rK l) (Sum.inl k) (V.int v) = rK (putR l k v) := by
  have ea : ((rK l).any fun kv => decide (kv.1 = Sum.inl k)) = l.any fun p => decide (p.1 = k) := by
    rw [List.any_map]
    congr 1
    funext p
    simp
  unfold putK putR
  rw [ea]
  split
  · simp only [rK, List.map_map]
    congr 1
    funext p
    simp only [Function.comp]
    by_cases e : p.1 = k
    · simp [e]
    · rw [if_neg (fun z => e (Sum.inl.inj z)), if_neg e]
  · simp [rK]
theorem put_keys (l : List (Int × Int)) (k v : Int) : ∀ p ∈ putR l k v, p.1 = k ∨ ∃ q ∈ l, q.1 = p.1 := by
  intro p hp
  unfold putR at hp
  split at hp
  · obtain ⟨q, hq, e⟩ := List.mem_map.mp hp
    split at e
    · subst e
      exact .inr ⟨q, hq, rfl⟩
    · subst e
      exact .inr ⟨q, hq, rfl⟩
  · rcases List.mem_append.mp hp with h | h
    · exact .inr ⟨p, h, rfl⟩
    · cases List.mem_singleton.mp h
      exact .inl rfl
theorem put_nodup (l : List (Int × Int)) (k v : Int) (h : (l.map (·.1)).Nodup) : ((putR l k v).map (·.1)).Nodup := by
  unfold putR
  split
  · rw [List.map_map]
    have e : (l.map ((·.1) ∘ fun p => if p.1 = k then (p.1, v) else p)) = l.map (·.1) := by
      congr 1
      funext p
      simp only [Function.comp]
      split <;> rfl
    rw [e]
    exact h
  · rename_i hn
    rw [List.map_append, List.nodup_append]
    refine ⟨h, by simp, fun a ha b hb e => ?_⟩
    obtain ⟨p, hp, rfl⟩ := List.mem_map.mp ha
    have hb : b = k := by simpa using hb
    refine hn (List.any_eq_true.mpr ⟨p, hp, ?_⟩)
    simp [e, hb]
theorem split_len {α : Type} (f : α → Bool) : ∀ l : List α, l.length = (l.filter f).length + (l.filter fun x => !f x).length
  | [] => rfl
  | x :: l => by
    have := split_len f l
    rw [List.filter_cons, List.filter_cons]
    cases f x <;> simp <;> omega
theorem nodup_le : ∀ (n : Nat) (l : List Int), l.Nodup → (∀ x ∈ l, 0 ≤ x ∧ x < n) → l.length ≤ n
  | 0, l, _, h => by
    cases l with
    | nil => simp
    | cons x l => have := h x (List.mem_cons_self ..); omega
  | n + 1, l, nd, h => by
    have h2 := nodup_le n (l.filter fun x => decide (x ≠ n)) (nd.filter _) fun x hx => by
      obtain ⟨h1, h2⟩ := List.mem_filter.mp hx
      have := h x h1
      have h2 : x ≠ n := of_decide_eq_true h2
      omega
    have h3 : (l.filter fun x => !decide (x ≠ (n : Int))).length ≤ 1 := by
      have e : ∀ x ∈ (l.filter fun x => !decide (x ≠ (n : Int))), x = n := fun x hx => by
        obtain ⟨_, h2⟩ := List.mem_filter.mp hx
        simpa using h2
      have nd2 := nd.filter fun x => !decide (x ≠ (n : Int))
      revert e nd2
      generalize (l.filter fun x => !decide (x ≠ (n : Int))) = m
      intro e nd2
      match m, e, nd2 with
      | [], _, _ => simp
      | [_], _, _ => simp
      | a :: b :: r, e, nd2 =>
        exfalso
        have e1 := e a (by simp)
        have e2 := e b (by simp)
        rw [e1, e2] at nd2
        simp at nd2
    have e4 := split_len (fun x => decide (x ≠ (n : Int))) l
    omega
/-! ### the readings -/
abbrev dN : List Str := ["script", "town", "many", "at", "rest", "number"]
abbrev tCt : TE := tDGet (tVar 1) (tC (.str "count"))
abbrev tRs : TE := tDGet (tVar 1) (tC (.str "rests"))
abbrev tTr (K : PySem.W.Frag) : TT := fun σ H Q => tVar 0 σ H fun x H' => ∃ k, TruV K x H' k ∧ Q k H'
abbrev rAdd : R2 := rI0 fun i j => .int (i + j)
abbrev rMul : R2 := rI CMul fun i j => .int (i * j)
abbrev rMod : R2 := rI (fun _ j => 0 < j) fun i j => .int (i % j)
abbrev rDiv : R2 := rI CDiv fun i j => .int (i / j)
abbrev rPow : R2 := rI CPow fun i j => .int (i ^ j.toNat)
abbrev rGe1 : R2 := rI0 fun i j => .bl (decide (j ≤ i))
def d1 : TS := sDPut (tVar 1) (tC (.str "count")) (tOp rAdd tCt (tC (.int 1)))
def d2 (K : PySem.W.Frag) : TS := tAsg (tIf (tTr K) (tOp rMod tCt (tCB (fun xs H Q => ∃ x n, xs = [x] ∧ LenV K x H n ∧ Q (.int n) H) (tCons (tVar 0) tNil))) (tC (.int 0))) (gName 3)
def d3 (K : PySem.W.Frag) : TS := tAsg (tDGet2 tRs (tVar 3) (tIf (tTr K) (tOp (rIxL K) (tVar 0) (tVar 3)) (tC (.int 0)))) (gName 4)
def d4 : TS := tIfS (tTest (tOp rGe1 (tVar 4) (tOp rPow (tC (.int 10)) (tC (.int 18))))) (tSeq (sDPut tRs (tVar 3) (tOp rDiv (tVar 4) (tVar 2))) (tSeq (tRet (tOp rMod (tVar 4) (tVar 2))) tNext)) tNext
def d5 : TS := tAsg (tOp rMod (tOp rAdd (tVar 4) (tOp rMul (tC (.int 104729)) tCt)) (tC (.int 4294967291))) (gName 5)
def d6 : TS := tAsg (tOp rMod (tOp rPow (tVar 5) (tC (.int 5))) (tC (.int 4294967279))) (gName 5)
def d7 : TS := tRet (tOp rMod (tOp rDiv (tOp rMod (tOp rAdd (tOp rMul (tOp rDiv (tVar 5) (tC (.int 64))) (tC (.int 69621))) (tVar 5)) (tC (.int 4294967231))) (tC (.int 8))) (tVar 2))
def tDraw (K : PySem.W.Frag) : TS := tSeq d1 (tSeq (d2 K) (tSeq (d3 K) (tSeq d4 (tSeq d5 (tSeq d6 (tSeq d7 tNext))))))
abbrev kC : Key := Sum.inr ("count" : Str)
abbrev kR : Key := Sum.inr ("rests" : Str)
theorem kn : ¬ kC = kR := by decide
theorem town_count {c : Int} {aR : Addr} : valV [(kC, V.int c), (kR, .ref aR)] kC = some (.int c) := valV_pos rfl
theorem town_rests {c : Int} {aR : Addr} : valV [(kC, V.int c), (kR, .ref aR)] kR = some (.ref aR) := by
  rw [valV_neg (p := (kC, V.int c)) kn, valV_pos rfl]
theorem town_put {c d : Int} {aR : Addr} : putK [(kC, V.int c), (kR, .ref aR)] kC (.int d) = [(kC, V.int d), (kR, .ref aR)] := by
  unfold putK
  rw [if_pos (by simp)]
  show [if kC = kC then (kC, V.int d) else (kC, V.int c), if kR = kC then (kR, V.int d) else (kR, .ref aR)] = _
  rw [if_pos rfl, if_neg (fun z => kn z.symm)]
section
variable {C : Cf} {τ : Town} {G H : Hp}
theorem dget_count {c : Int} {a aR : Addr} (h : H a = some (townO c aR)) : DGet H a (.str "count") (some (.int c)) := by
  have := DGet.k (k := kC) h
  rw [town_count] at this
  exact this
theorem dget_rests {c : Int} {a aR : Addr} (h : H a = some (townO c aR)) : DGet H a (.str "rests") (some (.ref aR)) := by
  have := DGet.k (k := kR) h
  rw [town_rests] at this
  exact this
theorem at_lo (τ : Town) : 0 ≤ atOf τ := by
  unfold atOf
  split
  · omega
  · rename_i h
    refine Int.emod_nonneg _ ?_
    cases hs : τ.script with
    | nil => rw [hs] at h; exact absurd rfl h
    | cons _ _ => simp; omega
theorem at_hi {τ : Town} (hs : τ.script ≠ []) : atOf τ < τ.script.length := by
  unfold atOf
  rw [if_neg (by simpa using hs)]
  refine Int.emod_lt_of_pos _ ?_
  cases e : τ.script with
  | nil => exact absurd e hs
  | cons _ _ => simp
theorem at_100 {τ : Town} (h : τ.script.length ≤ 63) : atOf τ < 100 := by
  by_cases e : τ.script = []
  · unfold atOf
    rw [e, if_pos (show ([] : List Int).isEmpty = true from rfl)]
    omega
  · have := at_hi e
    omega
/-- the town behind a draw -/
theorem draw_town (A : At C τ G H) {τ' : Town} (hs : τ'.script = τ.script) (hn : (τ'.rests.map (·.1)).Nodup) (hk : ∀ p ∈ τ'.rests, 0 ≤ p.1 ∧ p.1 < 100) {H' : Hp} (e1 : H' C.aT = some (townO τ'.count C.aR)) (e2 : H' C.aR = some (.dK (rK τ'.rests))) (e3 : ∀ b, b ≠ C.aT → b ≠ C.aR → H' b = H b) :
    Grow C G H G H' ∧ TownOk C τ' H' := by
  have nn : ∀ b o, G b = some o → b ≠ C.aT ∧ b ≠ C.aR := fun b o h => ⟨fun z => (by rw [z, A.gt] at h; cases h), fun z => (by rw [z, A.gr] at h; cases h)⟩
  refine ⟨⟨fun _ _ h => h, fun b o h => by rw [e3 b (nn b o h).1 (nn b o h).2]; exact A.s b o h, fun b o h f => by rw [e3 b f.1 f.2.1]; exact h, fun b h => ?_, fun _ _ => rfl⟩, ⟨e1, e2, ?_, A.t.ne, hk, hn, ?_, by rw [hs]; exact A.t.sl, ?_⟩⟩
  · by_cases q1 : b = C.aT
    · rw [q1, e1]; simp
    · by_cases q2 : b = C.aR
      · rw [q2, e2]; simp
      · rw [e3 b q1 q2]; exact h
  · have := nodup_le 100 _ hn fun x hx => by
      obtain ⟨p, hp, rfl⟩ := List.mem_map.mp hx
      exact hk p hp
    simpa using this
  · rw [hs]
    refine A.t.s.keep fun o u h => ?_
    rw [e3 _ (fun z => by rw [z, A.t.t] at h; cases h) (fun z => by rw [z, A.t.r] at h; cases h)]
    exact h
  · intro pq hpq
    obtain ⟨ps, h1, h2, h3⟩ := A.t.tb pq hpq
    refine ⟨ps, by rw [e3 _ (fun z => by rw [z, A.t.t] at h1; cases h1) (fun z => by rw [z, A.t.r] at h1; cases h1)]; exact h1, h2, fun pos cv hc => ?_⟩
    obtain ⟨cc, q1, q2⟩ := h3 pos cv hc
    exact ⟨cc, q1, by rw [e3 _ (fun z => by rw [z, A.t.t] at q2; exact noCode_dK.2 _ _ (Option.some.inj q2)) (fun z => by rw [z, A.t.r] at q2; exact noCode_dK.2 _ _ (Option.some.inj q2))]; exact q2⟩
theorem pow18 : (10 : Int) ^ (18 : Int).toNat = 1000000000000000000 := by decide
theorem pow5 (x : Int) : x ^ (5 : Int).toNat = x ^ 5 := rfl
theorem mod_small {a b : Int} (hb : 0 < b) (h : b < 2 ^ 63) : (a % b).natAbs < 2 ^ 64 := by
  have h1 := Int.emod_nonneg a (b := b) (by omega)
  have h2 := Int.emod_lt_of_pos a hb
  omega
theorem emp_map {l : List Int} : (l.map V.int).isEmpty = l.isEmpty := by cases l <;> rfl
theorem d2_read {D : Ends} {σ : L2.St} {H1 : Hp} (e0 : σ[0]? = some (some (.ref C.aS))) (e1 : σ[1]? = some (some (.ref C.aT))) (t1 : H1 C.aT = some (townO (τ.count + 1) C.aR)) (s1 : SqL C.K H1 C.aS (τ.script.map V.int)) (h : D.nx (σ.set 3 (some (.int (atOf τ)))) H1) : d2 C.K D σ H1 := by
  refine ⟨_, e0, !(τ.script.map V.int).isEmpty, .inl ⟨_, s1, rfl⟩, ?_⟩
  rw [emp_map]
  cases hs : τ.script.isEmpty with
  | true =>
    have ea : atOf τ = 0 := by unfold atOf; rw [if_pos hs]
    rw [ea] at h
    exact h
  | false =>
    have ea : atOf τ = (τ.count + 1) % (τ.script.length : Int) := by unfold atOf; rw [if_neg (by rw [hs]; exact Bool.false_ne_true)]
    have hp : 0 < (τ.script.length : Int) := by
      cases q : τ.script with
      | nil => rw [q] at hs; cases hs
      | cons _ _ => simp
    rw [ea] at h
    refine ⟨_, e1, ⟨_, _, rfl, dget_count t1, ⟨_, e0, _, _, rfl, .inl ⟨_, s1, rfl⟩, ?_⟩⟩⟩
    refine ⟨_, _, rfl, rfl, by simpa using hp, ?_⟩
    rw [List.length_map]
    exact h
theorem d3_read {D : Ends} {σ : L2.St} {H1 : Hp} (e0 : σ[0]? = some (some (.ref C.aS))) (e1 : σ[1]? = some (some (.ref C.aT))) (e3 : σ[3]? = some (some (.int (atOf τ)))) (t1 : H1 C.aT = some (townO (τ.count + 1) C.aR)) (r1 : H1 C.aR = some (.dK (rK τ.rests))) (s1 : SqL C.K H1 C.aS (τ.script.map V.int)) (h : D.nx (σ.set 4 (some (.int (restOf τ)))) H1) : d3 C.K D σ H1 := by
  have g : DGet H1 C.aR (.int (atOf τ)) ((lookR τ.rests (atOf τ)).map V.int) := by
    rw [← look_map]
    exact DGet.k (k := Sum.inl (atOf τ)) r1
  refine ⟨_, e1, ⟨_, _, rfl, dget_rests t1, _, rfl, .inl ⟨_, .inl r1⟩, _, e3, ?_⟩⟩
  refine ⟨_, e0, !(τ.script.map V.int).isEmpty, .inl ⟨_, s1, rfl⟩, ?_⟩
  rw [emp_map]
  have gd : ∀ z : Int, ((lookR τ.rests (atOf τ)).map V.int).getD (V.int z) = .int ((lookR τ.rests (atOf τ)).getD z) := fun z => by cases lookR τ.rests (atOf τ) <;> rfl
  cases hs : τ.script.isEmpty with
  | true =>
    have ea : restOf τ = (lookR τ.rests (atOf τ)).getD 0 := by unfold restOf; rw [if_pos hs]
    rw [ea, ← gd] at h
    exact ⟨_, g, h⟩
  | false =>
    have ea : restOf τ = (lookR τ.rests (atOf τ)).getD (τ.script.getD (atOf τ).toNat 0) := by unfold restOf; rw [if_neg (by rw [hs]; exact Bool.false_ne_true)]
    rw [ea, ← gd] at h
    have hne : τ.script ≠ [] := by rintro q; rw [q] at hs; cases hs
    have a1 := at_lo τ
    have a2 := at_hi hne
    have ix : atI (τ.script.map V.int) (atOf τ) = some (.int (τ.script.getD (atOf τ).toNat 0)) := by
      unfold atI ixN
      rw [List.length_map, if_pos a1, if_pos a2]
      show (τ.script.map V.int)[(atOf τ).toNat]? = _
      rw [List.getElem?_map, List.getD_eq_getElem?_getD, List.getElem?_eq_getElem (by omega)]
      rfl
    exact ⟨_, e0, _, e3, _, _, _, _, rfl, rfl, s1, ix, _, g, h⟩
theorem draw_read {vs : List V} {Q : VK} {E : XK} {ix : Nat} (z : spI C (fun _ vs => drawV vs) ix 3 vs H Q E) : tDraw C.K { nx := fun _ H' => Q .non H', rt := Q } (L2.start dN vs) H := by
  obtain ⟨_, vals, τ, G, A, pv, z⟩ := z
  obtain ⟨many, rfl, m1, m2, z⟩ := drawV_of z
  match vs, pv with
  | [v0, v1, v2], .cons r0 (.cons r1 (.cons r2 .nil)) =>
    have r0 : v0 = .ref C.aS := r0
    have r1 : v1 = .ref C.aT := r1
    have r2 : v2 = .int many := by
      rcases r2 with r2 | ⟨_, _, _, e, _⟩
      · cases r2
        rfl
      · cases e
    subst r0 r1 r2
    have T := A.t
    -- the count
    refine ⟨_, rfl, ⟨_, .int τ.count, rfl, dget_count T.t, τ.count, 1, rfl, rfl, ?_⟩⟩
    refine ⟨_, rfl, C.aT, _, rfl, .inl ⟨_, kC, T.t, rfl, show 2 < sizeLine from by decide, rfl⟩, ?_⟩
    rw [town_put]
    generalize hH1 : upd H C.aT (.dK [(kC, V.int (τ.count + 1)), (kR, .ref C.aR)]) = H1
    have t1 : H1 C.aT = some (townO (τ.count + 1) C.aR) := by rw [← hH1]; exact upd_same
    have o1 : ∀ b, b ≠ C.aT → H1 b = H b := fun b hb => by rw [← hH1]; exact upd_ne hb
    have r1 : H1 C.aR = some (.dK (rK τ.rests)) := by rw [o1 _ (Ne.symm T.ne)]; exact T.r
    have s1 : SqL C.K H1 C.aS (τ.script.map V.int) := (T.s.keep fun o u h => by
      rw [o1 _ fun q => by rw [q, T.t] at h; cases h]
      exact h).sq
    refine d2_read (σ := L2.start dN [.ref C.aS, .ref C.aT, .int many]) rfl rfl t1 s1 ?_
    refine d3_read rfl rfl rfl t1 r1 s1 ?_
    -- which way
    refine ⟨_, rfl, 10, 18, rfl, rfl, ⟨by decide, by decide, by decide⟩, _, _, rfl, rfl, _, rfl, ?_⟩
    rw [pow18]
    by_cases hb : 1000000000000000000 ≤ restOf τ
    · rw [decide_eq_true hb]
      refine iteT ?_
      have ev : drawOf τ many = restOf τ % many := by unfold drawOf; rw [if_pos hb]
      have et : drawT τ many = { τ with count := τ.count + 1, rests := putR τ.rests (atOf τ) (restOf τ / many) } := by unfold drawT; rw [if_pos hb]
      rw [ev, et] at z
      refine ⟨_, rfl, _, rfl, _, _, rfl, rfl, ⟨by omega, by omega⟩, ?_⟩
      refine ⟨_, rfl, ⟨_, _, rfl, dget_rests t1, _, rfl, _, _, rfl, .inl ⟨_, Sum.inl (atOf τ), r1, rfl, ?_, rfl⟩, ?_⟩⟩
      · have := T.n
        rw [List.length_map]
        exact Nat.lt_of_le_of_lt this (by decide)
      · rw [put_map]
        refine ⟨_, rfl, _, rfl, _, _, rfl, rfl, by omega, ?_⟩
        obtain ⟨g, t⟩ := draw_town (τ' := { τ with count := τ.count + 1, rests := putR τ.rests (atOf τ) (restOf τ / many) }) A rfl (put_nodup _ _ _ T.nd) (fun p hp => by
          rcases put_keys _ _ _ p hp with e | ⟨q, hq, e⟩
          · rw [e]
            exact ⟨at_lo τ, at_100 T.sl⟩
          · rw [← e]
            exact T.k q hq) (H' := upd H1 C.aR (.dK (rK (putR τ.rests (atOf τ) (restOf τ / many))))) (by rw [upd_ne T.ne]; exact t1) upd_same fun b h1 h2 => by rw [upd_ne h2, o1 b h1]
        exact z _ G _ g t (.inl (.int _))
    · rw [decide_eq_false hb]
      refine iteF ?_
      have ev : drawOf τ many = (num2 τ / 64 * 69621 + num2 τ) % 4294967231 / 8 % many := by unfold drawOf; rw [if_neg hb]
      have et : drawT τ many = { τ with count := τ.count + 1 } := by unfold drawT; rw [if_neg hb]
      rw [ev, et] at z
      refine ⟨_, rfl, _, rfl, ⟨_, _, rfl, dget_count t1, _, _, rfl, rfl, .inl ⟨by decide, by decide⟩, _, _, rfl, rfl, _, _, rfl, rfl, show (0 : Int) < 4294967291 from by decide, ?_⟩⟩
      refine ⟨_, rfl, _, _, rfl, rfl, ⟨by decide, by decide, mod_small (by decide) (by decide)⟩, _, _, rfl, rfl, show (0 : Int) < 4294967279 from by decide, ?_⟩
      have n2 : 0 ≤ num2 τ ∧ num2 τ < 4294967279 := ⟨Int.emod_nonneg _ (by decide), Int.emod_lt_of_pos _ (by decide)⟩
      refine ⟨_, rfl, _, _, rfl, rfl, ⟨by decide, by decide⟩, _, _, rfl, rfl, .inr ⟨by decide, by decide⟩, _, rfl, _, _, rfl, rfl, _, _, rfl, rfl, show (0 : Int) < 4294967231 from by decide, _, _, rfl, rfl, ⟨by decide, by decide⟩, _, rfl, _, _, rfl, rfl, show 0 < many by omega, ?_⟩
      obtain ⟨g, t⟩ := draw_town (τ' := { τ with count := τ.count + 1 }) A rfl T.nd T.k (H' := H1) t1 r1 fun b h1 h2 => o1 b h1
      exact z _ G _ g t (.inl (.int _))
end
end Bk
namespace Bk
open PySem PySem.Spec PyProof.Rows L2
section
variable {P : Program} {w : World} {K : PySem.W.Frag} {mg : Str → Option Value} {base : Heap} {x : Str} {params : Arguments} {body : List Stmt} {scope : Scope} {f : Addr} {fd : FuncData}
/-- the draw keeps its promise, where its text has been read -/
theorem draw_ok {C : Cf} {ix : Nat} (hK : K = C.K) (F : FunD K x x params body scope [] [] f fd) (S : FnScope dN ["script", "town", "many"] scope)
    (hb : ∀ (cdv : Value) (A : Around) (outer : List Env) (s : Shared) (H : Hp) (E : XK), A.units + 50 < cLine → PSs (cxOf (L2.CX P w) P w K mg base dN x scope f cdv A outer s H E) body (tDraw K)) :
    FnOk P w K mg base (L2.CX P w) 1 f fd ["script", "town", "many"] (spI C (fun _ vs => drawV vs) ix 3) := by
  refine F.ok S (fun vs H Q E z => z.1) fun cdv A outer s H vs Q E hr z => ⟨tDraw K, ?_, ?_⟩
  · refine hb cdv A outer s H E ?_
    have := hr.un
    rw [Around.deeper_units] at this
    omega
  · rw [hK]
    exact draw_read z
/-! ### the town -/
def spBegun : Sp := fun vs H Q _ => vs = [] ∧ ∀ p q H', H p = none → H q = none → p ≠ q → H' p = some (townO 0 q) → H' q = some (.dK []) → (∀ b, b ≠ p → b ≠ q → H' b = H b) → Q (.ref p) H'
def tBegun : TS := tSeq (tRet (tDisp [(tC (.str "count"), tC (.int 0)), (tC (.str "rests"), tDNewK)])) tNext
theorem begun_read {vs : List V} {H : Hp} {Q : VK} {E : XK} {σ : L2.St} (z : spBegun vs H Q E) : tBegun { nx := fun _ H' => Q .non H', rt := Q } σ H := by
  obtain ⟨_, z⟩ := z
  intro p hp q hq
  have hpq : p ≠ q := fun e => by
    rw [← e, upd_same] at hq
    cases hq
  have hq' : H q = none := by
    rw [upd_ne (Ne.symm hpq)] at hq
    exact hq
  refine ⟨by rw [upd_ne hpq, upd_same], [(kC, .int 0), (kR, .ref q)], rfl, (show 2 ≤ 15 from by decide), ?_⟩
  refine z p q _ hp hq' hpq ?_ ?_ fun b h1 h2 => ?_
  · rw [upd_same]
    show some (HO.dK (putK (putK [] kC (.int 0)) kR (.ref q))) = _
    unfold townO
    congr 2
  · rw [upd_ne (Ne.symm hpq), upd_same]
  · rw [upd_ne h1, upd_ne h2, upd_ne h1]
theorem begun_ok (F : FunD K x x params body scope [] [] f fd) (S : FnScope [] [] scope)
    (hb : ∀ (cdv : Value) (A : Around) (outer : List Env) (s : Shared) (H : Hp) (E : XK), PSs (cxOf (L2.CX P w) P w K mg base [] x scope f cdv A outer s H E) body tBegun) :
    FnOk P w K mg base (L2.CX P w) 1 f fd [] spBegun := by
  refine F.ok S (fun vs H Q E z => by rw [z.1]; rfl) fun cdv A outer s H vs Q E hr z => ⟨tBegun, hb cdv A outer s H E, begun_read z⟩
/-! ### a law -/
def spLaw (K : PySem.W.Frag) : Sp := fun vs H Q _ => ∃ a ns, vs = [.ref a] ∧ Scr K H a ns ∧ ns.length ≤ 63 ∧ ∀ H', Q (.bl true) H'
def startL (N : List Str) : Ev := .val .scr :: .val .town :: List.replicate (N.length - 2) .emp
theorem startL_get {N : List Str} {i : Nat} {v : Slot} (h : slotAt (startL N) i = v) (hv : v ≠ .emp) : (i = 0 ∧ v = .val .scr) ∨ (i = 1 ∧ v = .val .town) := by
  unfold startL slotAt at h
  match i, h with
  | 0, h => exact .inl ⟨rfl, h.symm⟩
  | 1, h => exact .inr ⟨rfl, h.symm⟩
  | i + 2, h =>
    exfalso
    apply hv
    rw [← h]
    show (List.replicate (N.length - 2) Slot.emp).getD i .emp = .emp
    rw [List.getD_eq_getElem?_getD, List.getElem?_replicate]
    split <;> rfl
theorem SR.law {C : Cf} {N : List Str} (hN : 2 ≤ N.length) {τ : Town} {G H : Hp} (A : At C τ G H) : SR C G H (startL N) τ G H ((L2.start N [.ref C.aS]).set 1 (some (.ref C.aT))) where
  e := Grow.refl A.s
  gt := A.gt
  gr := A.gr
  tw := A.t
  len := by
    unfold startL L2.start
    simp
    omega
  sl := fun i v h => by
    rcases startL_get h (fun z => nomatch z) with ⟨rfl, e⟩ | ⟨rfl, e⟩
    · cases e
      exact ⟨.ref C.aS, by rw [List.getElem?_set_ne (by decide)]; exact start_get rfl, rfl⟩
    · cases e
      refine ⟨.ref C.aT, ?_, rfl⟩
      rw [List.getElem?_set_self]
      unfold L2.start
      simp
      omega
  ow := fun i x h => by
    rcases startL_get h (fun z => nomatch z) with ⟨_, e⟩ | ⟨_, e⟩ <;> cases e
  ds := fun i j x y a h => by
    rcases startL_get h (fun z => nomatch z) with ⟨_, e⟩ | ⟨_, e⟩ <;> cases e
theorem PSs.ex {ι : Type} {X : Cx} {sts : List Stmt} {t : ι → TS} (h : ∀ i, PSs X sts (t i)) : PSs X sts (fun D σ H => ∃ i, t i D σ H) := ⟨fun pins s σ H D I ⟨i, z⟩ => (h i).run pins s σ H D I z⟩
/-- what stays through a law, for a script, a town -/
def cfOf (w : World) (K : PySem.W.Frag) (fad cad : Nat → Addr) (r : Addr × Addr × Addr) : Cf := ⟨w, K, fad, cad, r.1, r.2.1, r.2.2, []⟩
theorem law_ok {fad cad : Nat → Addr} {gl : Nat → Option PyData} {fns : List (Str × Nat × Nat)} {gls exc : List (Str × Nat)} {tb : Nat → Option Fn} {fu k n m : Nat} {N : List Str} {ss : List IS} {rest : List Stmt} {q p1 p2 ps : Pos} {fb : Addr} {fdb : FuncData}
    (e : ∀ r, HEnv P w K mg (cfOf w K fad cad r) gl fns gls exc) (D : ∀ r f ix np, (f, ix, np) ∈ fns → DefOk P w K mg base (cfOf w K fad cad r) fns gls exc tb ix np)
    (F : FunD K x x params (.Assign [.Name "town" q] (.Call (.Name "_law_begun" p1) [] [] p2) ps :: rest) scope [] [] f fd) (S : FnScope N ["script"] scope) (hN : 2 ≤ N.length) (h1 : N[1]? = some ("town" : Str)) (h2 : scope.names.lookup ("town" : Str) = some .local) (h2' : scope.names.lookup ("_law_begun" : Str) = some .globalImplicit)
    (FB : FnOk P w K mg base (L2.CX P w) 1 fb fdb [] spBegun) (BB : Binds K fdb [] []) (mb : mg "_law_begun" = some (.ref fb)) (kb : PySem.W.keepIn K (.ref fb) = true) (hk : 1 ≤ k)
    (hc : chkB n m ⟨N, scope, true, fns, gls, exc⟩ ss rest = true)
    (hl : ∀ script : List Int, script.length ≤ 63 → ∃ τ', exs gl (run gl tb fu k) fu ss (startL N) ⟨script, 0, []⟩ = .ok (.ret (.d (.bool true))) τ') :
    FnOk P w K mg base (L2.CX P w) (k + 1) f fd ["script"] (spLaw K) := by
  refine F.ok S (fun vs H Q E z => by obtain ⟨a, ns, rfl, _⟩ := z; rfl) fun cdv A outer s H vs Q E hr z => ?_
  obtain ⟨a, ns, rfl, hs, hlen, hQ⟩ := z
  generalize hX : cxOf (L2.CX P w) P w K mg base N x scope f cdv A outer s H E = X at *
  have hxs : ∀ G1 H1 r, Ctx ⟨N, scope, true, fns, gls, exc⟩ ⟨cfOf w K fad cad r, G1, H1, gl, run gl tb fu k, fu, fun c H' => E (.ref ((cfOf w K fad cad r).cad c)) none H'⟩ X := fun G1 H1 r =>
    ctx_of (e r) (all_ok (fu := fu) (e r) (D r) k) S.nd hr hX.symm G1 H1
  have hpass : Passes (L2.CX P w) X (fun _ _ _ => False) := by
    subst hX
    exact passes_call (takes_of rfl rfl rfl rfl) fun _ _ _ _ z => z.elim
  refine ⟨tSeq (tAsg (tCall spBegun [] (fun _ _ _ => False) tNil) (gName 1)) (fun D σ H => ∃ i : Hp × Hp × (Addr × Addr × Addr), tSs ⟨cfOf w K fad cad i.2.2, i.1, i.2.1, gl, run gl tb fu k, fu, fun c H' => E (.ref ((cfOf w K fad cad i.2.2).cad c)) none H'⟩ ss D σ H), ?_, ?_⟩
  · refine pss_cons ?_ (PSs.ex fun i => body_sound (hxs _ _ _) hc)
    subst hX
    exact ps_set (i := 1) S.nd h1 (.inl h2) (pe_call0 FB (hr.mono hk) h2' mb kb BB .nil hpass) rfl (.inr h2)
  · refine ⟨rfl, fun p q H' hp hq hpq e1 e2 e3 => ?_⟩
    obtain ⟨τ', hl⟩ := hl ns hlen
    have hap : ∀ o u, H a = some (.frz o u) → H' a = some (.frz o u) := fun o u h => by
      rw [e3 a (fun z => by rw [z, hp] at h; cases h) (fun z => by rw [z, hq] at h; cases h)]
      exact h
    have At0 : At (cfOf w K fad cad (a, p, q)) ⟨ns, 0, []⟩ (fun _ => none) H' := ⟨fun _ _ h => (by cases h), ⟨e1, e2, Nat.zero_le _, hpq, fun _ h => (by cases h), List.nodup_nil, hs.keep hap, hlen, fun p hp => (nomatch hp)⟩, rfl, rfl⟩
    refine ⟨((fun _ => none), H', (a, p, q)), startL N, ⟨ns, 0, []⟩, fun _ => none, SR.law hN At0, ?_⟩
    rw [hl]
    intro v G' H'' _ _ r
    have ev : v = .bl true := by
      rcases r with r | ⟨_, _, _, z, _⟩
      · cases r
        rfl
      · cases z
    rw [ev]
    exact hQ H''
end
end Bk
namespace Bk
open PySem PySem.Spec PyProof.Rows L2
/-! ### the defs of a top, as data -/
def defOf : Stmt → Option He.DefD
  | .FunctionDef name .. => some ⟨(name, none), name, name, { posonlyargs := [], args := [], vararg := none, kwonlyargs := [], kw_defaults := [], kwarg := none, defaults := [] }, [], { kind := .function, names := [], isGenerator := false, isCoroutine := false, more := [] }, [], []⟩
  | _ => none
def mkD (st : Stmt) : Option He.DefD := (defOf st).map fun d => { d with params := defArgs st, body := defBody st, scope := defScope st }
def defsOf (P : Program) : List He.DefD := P.main.body.filterMap mkD
theorem mkD_of {st : Stmt} {d : He.DefD} (h : mkD st = some d) : d.at_ = (d.name, none) ∧ d.qual = d.name ∧ d.dfl = [] ∧ d.kwd = [] := by
  unfold mkD at h
  obtain ⟨e, he, rfl⟩ := Option.map_eq_some_iff.mp h
  unfold defOf at he
  split at he
  · cases he
    exact ⟨rfl, rfl, rfl, rfl⟩
  · cases he
theorem defs_of {P : Program} {d : He.DefD} (h : d ∈ defsOf P) : d.at_ = (d.name, none) ∧ d.qual = d.name ∧ d.dfl = [] ∧ d.kwd = [] := by
  obtain ⟨st, _, e⟩ := List.mem_filterMap.mp h
  exact mkD_of e
/-- the facts that are asked for -/
def faOf (names excs : List Str) : List He.Fa := names.map .glo ++ blts.map .free ++ excs.map .glo ++ excs.map .exc
section
variable {P : Program} {w : World} {K : PySem.W.Frag} {mg : Str → Option Value} {h : Heap} {base : Heap} {names excs : List Str} {fa : List He.Fa} {fn : List He.DefD}
theorem says_fa (c : He.SaysD fa fn K) {f : He.Fa} (hf : f ∈ fa) : f.ok K = true := by
  obtain ⟨i, hi, e⟩ := List.getElem_of_mem hf
  exact c.fact i (by rw [List.getElem?_eq_getElem hi, e])
theorem says_fn (c : He.SaysD fa fn K) {d : He.DefD} (hd : d ∈ fn) : ∃ fd, FunD K d.name d.qual d.params d.body d.scope (d.dvs K) (d.kws K) (He.fAd K d.at_) fd := by
  obtain ⟨i, hi, e⟩ := List.getElem_of_mem hd
  exact c.def_ i (by rw [List.getElem?_eq_getElem hi, e])
theorem fa_glo {x : Str} (h : x ∈ names) : He.Fa.glo x ∈ faOf names excs := List.mem_append_left _ (List.mem_append_left _ (List.mem_append_left _ (List.mem_map_of_mem h)))
theorem fa_free {x : Str} (h : x ∈ blts) : He.Fa.free x ∈ faOf names excs := List.mem_append_left _ (List.mem_append_left _ (List.mem_append_right _ (List.mem_map_of_mem h)))
theorem fa_exg {x : Str} (h : x ∈ excs) : He.Fa.glo x ∈ faOf names excs := List.mem_append_left _ (List.mem_append_right _ (List.mem_map_of_mem h))
theorem fa_exc {x : Str} (h : x ∈ excs) : He.Fa.exc x ∈ faOf names excs := List.mem_append_right _ (List.mem_map_of_mem h)
/-- addresses by numbers, through names -/
def adOf (K : PySem.W.Frag) (nm : List (Str × Nat)) (ix : Nat) : Addr := match nm.find? fun q => q.2 == ix with
  | some q => He.ga K q.1
  | none => 0
def uniq (nm : List (Str × Nat)) : Bool := decide ((nm.map (·.2)).Nodup)
theorem find_uniq {x : Str} {ix : Nat} : ∀ {nm : List (Str × Nat)}, (nm.map (·.2)).Nodup → (x, ix) ∈ nm → nm.find? (fun q => q.2 == ix) = some (x, ix)
  | [], _, h => by cases h
  | q :: nm, hn, h => by
    rw [List.map_cons, List.nodup_cons] at hn
    rcases List.mem_cons.mp h with e | h
    · subst e
      simp
    · have hne : (q.2 == ix) = false := by
        rw [beq_eq_false_iff_ne]
        intro e
        exact hn.1 (List.mem_map.mpr ⟨(x, ix), h, e.symm⟩)
      rw [List.find?_cons, hne]
      exact find_uniq hn.2 h
theorem adOf_eq {nm : List (Str × Nat)} (hu : uniq nm = true) {x : Str} {ix : Nat} (h : (x, ix) ∈ nm) : adOf K nm ix = He.ga K x := by
  unfold adOf
  rw [find_uniq (of_decide_eq_true hu) h]
def fnm (fns : List (Str × Nat × Nat)) : List (Str × Nat) := fns.map fun q => (q.1, q.2.1)
/-! ### checks -/
def scopeB (N ps : List Str) (sc : Scope) : Bool := decide (sc.kind = .function) && !sc.isCoroutine && !sc.isGenerator && decide N.Nodup && decide (N.take ps.length = ps) && (ps.all fun x => decide (sc.names.lookup x = some .local) || decide (sc.names.lookup x = some .cell)) && (sc.names.all fun y => decide (y.2 ≠ .free))
theorem scopeB_ok {N ps : List Str} {sc : Scope} (h : scopeB N ps sc = true) : FnScope N ps sc := by
  unfold scopeB at h
  obtain ⟨h, h7⟩ := ands h
  obtain ⟨h, h6⟩ := ands h
  obtain ⟨h, h5⟩ := ands h
  obtain ⟨h, h4⟩ := ands h
  obtain ⟨h, h3⟩ := ands h
  obtain ⟨h1, h2⟩ := ands h
  refine ⟨of_decide_eq_true h1, nots h2, nots h3, of_decide_eq_true h4, of_decide_eq_true h5, fun x hx => ?_, fun y hy => of_decide_eq_true (List.all_eq_true.mp h7 y hy)⟩
  rcases Bool.or_eq_true_iff.mp (List.all_eq_true.mp h6 x hx) with q | q
  · exact .inl (of_decide_eq_true q)
  · exact .inr (of_decide_eq_true q)
theorem find_name {x : Str} {d : He.DefD} : ∀ {l : List He.DefD}, l.find? (fun d => d.name == x) = some d → (d.name == x) = true
  | [], h => by cases h
  | e :: l, h => by
    rw [List.find?_cons] at h
    cases q : e.name == x with
    | true =>
      rw [q] at h
      cases h
      exact q
    | false =>
      rw [q] at h
      exact find_name h
/-- the def d says what the table has at ix -/
def defB (fns : List (Str × Nat × Nat)) (gls exc : List (Str × Nat)) (tb : Nat → Option Fn) (d : He.DefD) (ix np : Nat) : Bool := match tb ix with
  | some (.py N np' body) => (np' == np) && scopeB N (N.take np) d.scope && decide (np ≤ N.length) && plainArgs d.params (N.take np) && chkB 40 40 ⟨N, d.scope, true, fns, gls, exc⟩ body d.body
  | _ => false
def defsB (fns : List (Str × Nat × Nat)) (gls exc : List (Str × Nat)) (tb : Nat → Option Fn) (fn : List He.DefD) (dix : Nat) : Bool :=
  fns.all fun q => (q.2.1 == dix) || match fn.find? fun d => d.name == q.1 with
    | some d => defB fns gls exc tb d q.2.1 q.2.2
    | none => false
theorem def_of {P' : Program} {fns : List (Str × Nat × Nat)} {gls exc : List (Str × Nat)} {tb : Nat → Option Fn} {C : Cf} (c : He.SaysD fa (defsOf P') K) (hf : ∀ x ix np, (x, ix, np) ∈ fns → C.fad ix = He.ga K x) {dix : Nat} (hb : defsB fns gls exc tb (defsOf P') dix = true) {x : Str} {ix np : Nat} (hq : (x, ix, np) ∈ fns) (hd : ix ≠ dix) :
    DefOk P w K mg base C fns gls exc tb ix np := by
  have hb := List.all_eq_true.mp hb _ hq
  rcases Bool.or_eq_true_iff.mp hb with e | hb
  · exact absurd (eq_of_beq e) hd
  · dsimp only at hb
    split at hb
    · rename_i d hfd
      have hm := List.mem_of_find?_eq_some hfd
      have hnm : d.name = x := eq_of_beq (find_name hfd)
      obtain ⟨a1, a2, a3, a4⟩ := defs_of hm
      obtain ⟨fd, F⟩ := says_fn c hm
      unfold defB at hb
      split at hb
      · rename_i N np' body ht
        obtain ⟨hb, b5⟩ := ands hb
        obtain ⟨hb, b4⟩ := ands hb
        obtain ⟨hb, b3⟩ := ands hb
        obtain ⟨b1, b2⟩ := ands hb
        have e1 : np' = np := eq_of_beq b1
        subst e1
        refine .inl ⟨N, body, d.name, d.params, d.body, d.scope, fd, 40, 40, ht, ?_, scopeB_ok b2, of_decide_eq_true b3, b4, b5⟩
        rw [hf x ix np' hq]
        have e2 : He.fAd K d.at_ = He.ga K x := by rw [a1, ← hnm]; rfl
        have e3 : d.dvs K = [] := by unfold He.DefD.dvs; rw [a3]; rfl
        have e4 : d.kws K = [] := by unfold He.DefD.kws; rw [a4]; rfl
        rw [a2, e2, e3, e4] at F
        exact F
      · cases hb
    · cases hb
theorem fun_of {P' : Program} (c : He.SaysD fa (defsOf P') K) {st : Stmt} {x : Str} (hs : st ∈ P'.main.body) (hx : (mkD st).map (·.name) = some x) : ∃ fd, FunD K x x (defArgs st) (defBody st) (defScope st) [] [] (He.ga K x) fd := by
  obtain ⟨d, hd, rfl⟩ := Option.map_eq_some_iff.mp hx
  have hm : d ∈ defsOf P' := List.mem_filterMap.mpr ⟨st, hs, hd⟩
  obtain ⟨a1, a2, a3, a4⟩ := defs_of hm
  obtain ⟨fd, F⟩ := says_fn c hm
  have e2 : He.fAd K d.at_ = He.ga K d.name := by rw [a1]; rfl
  have e3 : d.dvs K = [] := by unfold He.DefD.dvs; rw [a3]; rfl
  have e4 : d.kws K = [] := by unfold He.DefD.kws; rw [a4]; rfl
  have hp : d.params = defArgs st ∧ d.body = defBody st ∧ d.scope = defScope st := by
    unfold mkD at hd
    obtain ⟨e, he, rfl⟩ := Option.map_eq_some_iff.mp hd
    exact ⟨rfl, rfl, rfl⟩
  rw [a2, e2, e3, e4, hp.1, hp.2.1, hp.2.2] at F
  exact ⟨fd, F⟩
theorem henv_of {fns : List (Str × Nat × Nat)} {gls exc : List (Str × Nat)} {gl : Nat → Option PyData} {P' : Program} {r : Addr × Addr × Addr} (X : K.In h) (G : h.Ns mainGlobals mg) (c : He.SaysD (faOf names excs) (defsOf P') K)
    (hf : uniq (fnm fns) = true) (hfn : ∀ q ∈ fns, q.1 ∈ names ∧ ∃ d ∈ defsOf P', d.name = q.1) (he : uniq exc = true) (hex : ∀ q ∈ exc, q.1 ∈ excs)
    (hg : ∀ x g, (x, g) ∈ gls → ∃ a d, mg x = some (.ref a) ∧ gl g = some d ∧ isDict d = false ∧ isL d = false ∧ ∀ G, Dq K G (.ref a) d) :
    HEnv P w K mg (cfOf w K (adOf K (fnm fns)) (adOf K exc) r) gl fns gls exc where
  hK := rfl
  hw := rfl
  free := fun x hx => He.free_ok X G (says_fa c (fa_free hx))
  fn := fun f ix np hq => by
    obtain ⟨h1, d, hd, h2⟩ := hfn _ hq
    have ea : adOf K (fnm fns) ix = He.ga K f := adOf_eq hf (List.mem_map.mpr ⟨_, hq, rfl⟩)
    show _ = some (Value.ref (adOf K (fnm fns) ix)) ∧ PySem.W.keepIn K (.ref (adOf K (fnm fns) ix)) = true
    rw [ea]
    obtain ⟨fd, F⟩ := says_fn c hd
    have e2 : He.fAd K d.at_ = He.ga K f := by rw [(defs_of hd).1, h2]; rfl
    rw [e2] at F
    exact ⟨He.glo_ok X G (says_fa c (fa_glo h1)), F.kp⟩
  gl := hg
  ex := fun x k hq => by
    have h1 := hex _ hq
    have ea : adOf K exc k = He.ga K x := adOf_eq he hq
    show mg x = some (.ref (adOf K exc k)) ∧ PySem.W.excIn K (adOf K exc k) He.veBase "ValueError.__new__" = true ∧ PySem.W.keepIn K (.ref (adOf K exc k)) = true ∧ PySem.W.subIn K (.ref (adOf K exc k)) (.type "BaseException") = some true ∧ PySem.W.typeIn K (.ref (adOf K exc k)) = some (.type "type")
    rw [ea]
    obtain ⟨q1, q2, q3, q4⟩ := He.exc_ok (says_fa c (fa_exc h1))
    exact ⟨He.glo_ok X G (says_fa c (fa_exg h1)), q1, q2, q3, q4⟩
theorem scr_of {H : Hp} {a : Addr} {ns : List Int} (hO : Only H) (hS : SqL K H a (ns.map V.int)) : Scr K H a ns := by
  rcases hS with hS | hS
  · rcases hS with e | ⟨o, e⟩
    · rcases hO a with z | ⟨_, _, z⟩
      · rw [z] at e; cases e
      · rw [z] at e; cases e
    · exact .inl ⟨o, e⟩
  · exact .inr fun H' => .inr hS
/-- a law's end, where what may be raised is told by the world -/
theorem walk_w {l : PySem.W.OpenLaw} {n k : Nat} {q : Program} {loose : List Str} {XP : (Str → Option Value) → Heap → Prop} {YP : World → Heap → Prop} {d : DefRec} {cx : World → CXT} {x : Str}
    (hn : l.most = some n) (hn2 : n ≤ sizeLine) (hdf : d.params.defaults = []) (hr : Room k callerA)
    (F : ∀ (w : World) (mg : Str → Option Value) (fa : Addr) (h : Heap), YP w h → h.Ns mainGlobals mg → mg d.name = some (.ref fa) →
      ∃ (K : PySem.W.Frag) (fd : FuncData) (sp : Sp), K.In h ∧ (∀ (s : Shared) (u : Value), BindsTo s fd ⟨[u], []⟩ [(x, u)]) ∧
        (∀ (H : Hp) (a : Addr) (ns : List Int), ns.length ≤ n → Only H → SqL K H a (ns.map V.int) → sp [.ref a] H (fun v _ => v = .bl true) fun _ _ _ => False) ∧
        ∀ b : Heap, K.In b → b.Ns mainGlobals mg → FnOk l.prog w K mg b (cx w) k fa fd [x] sp)
    (hCX : ∀ (w : World) (H : Hp) (s : Shared) (e : Value) (s' : Shared), cx w [] H s (fun _ _ _ => False) e s' → False) :
    PySem.W.WalkO q loose XP YP l.row.toRowW d [] (fun f vs => PySem.call f vs) :=
  Att.attach_call hn hdf fun w s0 s1 mg mb fa o pm cd doc a vs ns G Y ho hd hcd hmg hobj hints hlen hg => by
    obtain ⟨K, fd, sp, kx, h1, h2, h3⟩ := F w mg fa _ Y G.T.g hmg
    exact law_call kx G.T.g G.T.b G.T.builtins G.T.nolimit hg hobj hints (Nat.le_trans hlen hn2) hr h3 h1 (fun H hO hS => h2 H a ns hlen hO hS) fun H e s' => hCX w H s1 e s'
/-! ### a Hook that looks at tuples of the top, too -/
abbrev AlX : Type := He.AlD × Bool
def obsX (n : Nat) (fa : List He.Fa) (fn : List He.DefD) (ts : List (Str × List He.Dv)) (g : Addr → Option Obj) : AlX := (He.obsDG n fa fn g, ts.all fun t => He.tupB (He.frG g (He.asD g n)) t.1 t.2)
def hookX (n : Nat) (fa : List He.Fa) (fn : List He.DefD) (ts : List (Str × List He.Dv)) : PySem.W.Hook where
  α := AlX
  obs := fun s => obsX n fa fn ts s.heap.get?
  val := fun _ => (He.valD fn, true)
  says := fun _ h => ∃ K : PySem.W.Frag, K.In h ∧ He.SaysD fa fn K ∧ ∀ t ∈ ts, He.tupB K t.1 t.2 = true
  of := fun _ _ e => ⟨_, He.frG_in, congrArg (fun z : AlX => z.1) e, List.all_eq_true.mp (congrArg (fun z : AlX => z.2) e)⟩
  keeps := fun _ _ _ ⟨K, hK, c⟩ k => ⟨K, PySem.W.Frag.In.keeps hK k, c⟩
theorem obsX_eq {n : Nat} {fa : List He.Fa} {fn : List He.DefD} {ts : List (Str × List He.Dv)} {g : Addr → Option Obj} {s : Shared} (h : ∀ a, g a = s.heap.get? a) : obsX n fa fn ts g = (hookX n fa fn ts).obs s := by
  have e : g = s.heap.get? := funext h
  rw [e] <;> rfl
/-- a tuple of the top, of plain values, as data -/
def dvD : He.Dv → Option PyData
  | .non => some .none
  | .bl b => some (.bool b)
  | .int i => some (.int i)
  | .str x => some (.str x)
  | _ => none
def dvsD : List He.Dv → Option (List PyData)
  | [] => some []
  | v :: vs => (dvD v).bind fun d => (dvsD vs).map (d :: ·)
theorem dv_dq {G : Hp} {v : He.Dv} {d : PyData} (h : dvD v = some d) : Dq K G (v.v K) d := by
  cases v with
  | non => cases h; exact .non
  | bl b => cases h; exact .bl b
  | int i => cases h; exact .int i
  | str x => cases h; exact .str x
  | _ => cases h
theorem dvs_dq {G : Hp} : ∀ {vs : List He.Dv} {ds : List PyData}, dvsD vs = some ds → DqAll K G (vs.map (He.Dv.v K)) ds
  | [], _, h => by
    cases h
    exact .nil
  | v :: vs, ds, h => by
    obtain ⟨d, h1, h2⟩ := Option.bind_eq_some_iff.mp (show (dvD v).bind (fun d => (dvsD vs).map (d :: ·)) = some ds from h)
    obtain ⟨es, h3, rfl⟩ := Option.map_eq_some_iff.mp h2
    exact .cons (dv_dq h1) (dvs_dq h3)
theorem gl_of {x : Str} {vs : List He.Dv} {ds : List PyData} (X : K.In h) (G : h.Ns mainGlobals mg) (hg : (He.Fa.glo x).ok K = true) (ht : He.tupB K x vs = true) (hd : dvsD vs = some ds) : mg x = some (.ref (He.ga K x)) ∧ ∀ G, Dq K G (.ref (He.ga K x)) (.tuple ds) :=
  ⟨He.glo_ok X G hg, fun G => .tup (He.tupB_ok ht G) (dvs_dq hd)⟩
end
end Bk
namespace Bk
open PySem
def S_0 : Str := ⟨#[48]⟩
def S_012 : Str := ⟨#[48, 49, 50]⟩
def S_0123_______as : Str := ⟨#[48, 49, 50, 51, 61, 43, 62, 32, 124, 45, 10, 97, 115]⟩
def S_0_0 : Str := ⟨#[48, 43, 48]⟩
def S_0_0_1 : Str := ⟨#[48, 62, 48]⟩
def S_0_1_ : Str := ⟨#[48, 61, 49, 32]⟩
def S_0_1_0_1_0_1_0_1 : Str := ⟨#[48, 61, 49, 32, 48, 61, 49, 32, 48, 61, 49, 32, 48, 61, 49]⟩
def S_0_1__0_1 : Str := ⟨#[48, 61, 49, 32, 32, 48, 61, 49]⟩
def S_0_2_1_0 : Str := ⟨#[48, 61, 50, 32, 49, 62, 48]⟩
def S_0_3 : Str := ⟨#[48, 61, 51]⟩
def S_0___1 : Str := ⟨#[48, 32, 61, 32, 49]⟩
def S_1 : Str := ⟨#[49]⟩
def S_2_1 : Str := ⟨#[50, 43, 49]⟩
def S_Again : Str := ⟨#[65, 103, 97, 105, 110]⟩
def S_Set : Str := ⟨#[83, 101, 116]⟩
def S__ : Str := ⟨#[61]⟩
def S__0_1 : Str := ⟨#[32, 48, 61, 49]⟩
def S___ : Str := ⟨#[44, 32]⟩
def S___1 : Str := ⟨#[43]⟩
def S___2 : Str := ⟨#[62]⟩
def S___3 : Str := ⟨#[45]⟩
def S___4 : Str := ⟨#[32]⟩
def S___5 : Str := ⟨#[10]⟩
def S____ : Str := ⟨#[32, 124, 32]⟩
def S____1 : Str := ⟨#[45, 45]⟩
def S__events__ : Str := ⟨#[32, 101, 118, 101, 110, 116, 115, 44, 32]⟩
def S_action : Str := ⟨#[97, 99, 116, 105, 111, 110]⟩
def S_add : Str := ⟨#[97, 100, 100]⟩
def S_again : Str := ⟨#[97, 103, 97, 105, 110]⟩
def S_back : Str := ⟨#[98, 97, 99, 107]⟩
def S_backsteps_actions : Str := ⟨#[98, 97, 99, 107, 115, 116, 101, 112, 115, 46, 97, 99, 116, 105, 111, 110, 115]⟩
def S_backsteps_errors : Str := ⟨#[98, 97, 99, 107, 115, 116, 101, 112, 115, 46, 101, 114, 114, 111, 114, 115]⟩
def S_backsteps_guarding : Str := ⟨#[98, 97, 99, 107, 115, 116, 101, 112, 115, 46, 103, 117, 97, 114, 100, 105, 110, 103]⟩
def S_backsteps_orders : Str := ⟨#[98, 97, 99, 107, 115, 116, 101, 112, 115, 46, 111, 114, 100, 101, 114, 115]⟩
def S_backsteps_plans : Str := ⟨#[98, 97, 99, 107, 115, 116, 101, 112, 115, 46, 112, 108, 97, 110, 115]⟩
def S_backsteps_runs : Str := ⟨#[98, 97, 99, 107, 115, 116, 101, 112, 115, 46, 114, 117, 110, 115]⟩
def S_backsteps_sessions : Str := ⟨#[98, 97, 99, 107, 115, 116, 101, 112, 115, 46, 115, 101, 115, 115, 105, 111, 110, 115]⟩
def S_backsteps_texts : Str := ⟨#[98, 97, 99, 107, 115, 116, 101, 112, 115, 46, 116, 101, 120, 116, 115]⟩
def S_copy : Str := ⟨#[99, 111, 112, 121]⟩
def S_count : Str := ⟨#[99, 111, 117, 110, 116]⟩
def S_do : Str := ⟨#[100, 111]⟩
def S_done : Str := ⟨#[100, 111, 110, 101]⟩
def S_e : Str := ⟨#[]⟩
def S_ended : Str := ⟨#[101, 110, 100, 101, 100]⟩
def S_gone : Str := ⟨#[103, 111, 110, 101]⟩
def S_guards : Str := ⟨#[103, 117, 97, 114, 100, 115]⟩
def S_items : Str := ⟨#[105, 116, 101, 109, 115]⟩
def S_items_ : Str := ⟨#[105, 116, 101, 109, 115, 32]⟩
def S_items_1 : Str := ⟨#[105, 116, 101, 109, 115, 32, 49]⟩
def S_items_2 : Str := ⟨#[105, 116, 101, 109, 115, 32, 50]⟩
def S_items_3 : Str := ⟨#[105, 116, 101, 109, 115, 32, 51]⟩
def S_lost : Str := ⟨#[108, 111, 115, 116]⟩
def S_may_refuse : Str := ⟨#[109, 97, 121, 32, 114, 101, 102, 117, 115, 101]⟩
def S_missed : Str := ⟨#[109, 105, 115, 115, 101, 100]⟩
def S_no : Str := ⟨#[110, 111]⟩
def S_no_number_of_items : Str := ⟨#[110, 111, 32, 110, 117, 109, 98, 101, 114, 32, 111, 102, 32, 105, 116, 101, 109, 115]⟩
def S_none : Str := ⟨#[110, 111, 110, 101]⟩
def S_not_1__2_or_3 : Str := ⟨#[110, 111, 116, 32, 49, 44, 32, 50, 32, 111, 114, 32, 51]⟩
def S_not_a_plan : Str := ⟨#[110, 111, 116, 32, 97, 32, 112, 108, 97, 110]⟩
def S_not_a_run : Str := ⟨#[110, 111, 116, 32, 97, 32, 114, 117, 110]⟩
def S_not_a_state : Str := ⟨#[110, 111, 116, 32, 97, 32, 115, 116, 97, 116, 101]⟩
def S_not_a_step : Str := ⟨#[110, 111, 116, 32, 97, 32, 115, 116, 101, 112]⟩
def S_not_a_string : Str := ⟨#[110, 111, 116, 32, 97, 32, 115, 116, 114, 105, 110, 103]⟩
def S_not_an_action : Str := ⟨#[110, 111, 116, 32, 97, 110, 32, 97, 99, 116, 105, 111, 110]⟩
def S_not_an_operation : Str := ⟨#[110, 111, 116, 32, 97, 110, 32, 111, 112, 101, 114, 97, 116, 105, 111, 110]⟩
def S_not_an_order : Str := ⟨#[110, 111, 116, 32, 97, 110, 32, 111, 114, 100, 101, 114]⟩
def S_not_guards : Str := ⟨#[110, 111, 116, 32, 103, 117, 97, 114, 100, 115]⟩
def S_not_lines : Str := ⟨#[110, 111, 116, 32, 108, 105, 110, 101, 115]⟩
def S_nothing_to_redo : Str := ⟨#[110, 111, 116, 104, 105, 110, 103, 32, 116, 111, 32, 114, 101, 100, 111]⟩
def S_nothing_to_undo : Str := ⟨#[110, 111, 116, 104, 105, 110, 103, 32, 116, 111, 32, 117, 110, 100, 111]⟩
def S_ok : Str := ⟨#[111, 107]⟩
def S_open : Str := ⟨#[111, 112, 101, 110]⟩
def S_order : Str := ⟨#[111, 114, 100, 101, 114]⟩
def S_other_error : Str := ⟨#[111, 116, 104, 101, 114, 32, 101, 114, 114, 111, 114]⟩
def S_outcome : Str := ⟨#[111, 117, 116, 99, 111, 109, 101]⟩
def S_plan : Str := ⟨#[112, 108, 97, 110]⟩
def S_refused : Str := ⟨#[114, 101, 102, 117, 115, 101, 100]⟩
def S_rests : Str := ⟨#[114, 101, 115, 116, 115]⟩
def S_returns : Str := ⟨#[114, 101, 116, 117, 114, 110, 115]⟩
def S_run : Str := ⟨#[114, 117, 110]⟩
def S_set : Str := ⟨#[115, 101, 116]⟩
def S_start : Str := ⟨#[115, 116, 97, 114, 116]⟩
def S_state : Str := ⟨#[115, 116, 97, 116, 101]⟩
def S_stuck : Str := ⟨#[115, 116, 117, 99, 107]⟩
def S_sure : Str := ⟨#[115, 117, 114, 101]⟩
def S_text : Str := ⟨#[116, 101, 120, 116]⟩
def S_undo : Str := ⟨#[117, 110, 100, 111]⟩
def S_undone : Str := ⟨#[117, 110, 100, 111, 110, 101]⟩
def B_is_between : List IS := [.ret (.and (.isi .int (.var 0)) (.and (.not (.isi .bool (.var 0))) (.chn .le .le (.var 1) (.var 0) (.var 2))))]
def B_is_ascending : List IS := [.ret (.b1 .all (.lc (.cmp .lt (.var 1) (.var 2)) (.tp [(.nm 1), (.nm 2)]) (.zip (.var 0) (.slc (.var 0) (.con (.int 1)) (.con .none))) (.con (.bool true))))]
def B_check_items : List IS := [.ite (.not (.call 0 [.var 0, .con (.int 1), .con (.int 3)])) [.raise 1] []]
def B_is_state_of : List IS := [.ret (.and (.isi .tuple (.var 1)) (.and (.cmp .eq (.b1 .len (.var 1)) (.var 0)) (.b1 .all (.lc (.call 0 [.var 2, .con (.int 0), .con (.int 2)]) (.nm 2) (.seq (.var 1)) (.con (.bool true))))))]
def B_is_state : List IS := [.expr (.call 2 [.var 0]), .ret (.call 3 [.var 0, .var 1])]
def B_is_operation : List IS := [.ite (.or (.not (.isi .tuple (.var 1))) (.or (.cmp .ne (.b1 .len (.var 1)) (.con (.int 3))) (.not (.call 0 [.sub (.var 1) (.con (.int 1)), .con (.int 0), .bin .sub (.var 0) (.con (.int 1))])))) [.ret (.con (.bool false))] [], .ite (.not (.isi .str (.sub (.var 1) (.con (.int 0))))) [.ret (.con (.bool false))] [], .ite (.cmp .eq (.sub (.var 1) (.con (.int 0))) (.con (.str S_set))) [.ret (.call 0 [.sub (.var 1) (.con (.int 2)), .con (.int 0), .con (.int 2)])] [], .ite (.cmp .eq (.sub (.var 1) (.con (.int 0))) (.con (.str S_add))) [.ret (.call 0 [.sub (.var 1) (.con (.int 2)), .con (.int 1), .con (.int 2)])] [], .ret (.and (.cmp .eq (.sub (.var 1) (.con (.int 0))) (.con (.str S_copy))) (.and (.call 0 [.sub (.var 1) (.con (.int 2)), .con (.int 0), .bin .sub (.var 0) (.con (.int 1))]) (.cmp .ne (.sub (.var 1) (.con (.int 1))) (.sub (.var 1) (.con (.int 2))))))]
def B_is_action_of : List IS := [.ret (.and (.isi .tuple (.var 1)) (.and (.cmp .le (.b1 .len (.var 1)) (.con (.int 3))) (.b1 .all (.lc (.call 5 [.var 0, .var 2]) (.nm 2) (.seq (.var 1)) (.con (.bool true))))))]
def B_is_action : List IS := [.expr (.call 2 [.var 0]), .ret (.call 6 [.var 0, .var 1])]
def B_check_action : List IS := [.ite (.not (.call 6 [.var 0, .var 1])) [.raise 2] []]
def B_applied_f1 : List IS := [.ite (.cmp .eq (.var 3) (.con (.str S_set))) [.setI 2 (.var 4) (.var 5)] [.ite (.cmp .eq (.var 3) (.con (.str S_add))) [.setI 2 (.var 4) (.bin .mod (.bin .add (.sub (.var 2) (.var 4)) (.var 5)) (.con (.int 3)))] [.setI 2 (.var 5) (.sub (.var 2) (.var 4))]]]
def B_applied : List IS := [.own 2 (.b1 .list (.var 1)), .for_ (.tp [(.nm 3), (.nm 4), (.nm 5)]) (.seq (.var 0)) B_applied_f1, .ret (.b1 .tuple (.var 2))]
def B_after : List IS := [.expr (.call 2 [.var 0]), .expr (.call 8 [.var 0, .var 1]), .ite (.not (.call 3 [.var 0, .var 2])) [.raise 3] [], .ret (.call 9 [.var 1, .var 2])]
def B_states_of_f1 : List IS := [.ext 3 (.lc (.bin .add (.var 4) (.tup [.var 5])) (.nm 5) (.rng (.con (.int 3))) (.con (.bool true)))]
def B_states_of_f2 : List IS := [.own 3 (.lst []), .for_ (.nm 4) (.seq (.var 1)) B_states_of_f1, .asg (.nm 1) (.var 3)]
def B_states_of : List IS := [.asg (.nm 1) (.lst [.tup []]), .for_ (.nm 2) (.rng (.var 0)) B_states_of_f2, .ret (.var 1)]
def B_all_states : List IS := [.expr (.call 2 [.var 0]), .ret (.b1 .tuple (.call 11 [.var 0]))]
def B_first_unlike_f1 : List IS := [.ite (.cmp .ne (.call 9 [.var 1, .var 3]) (.call 9 [.var 2, .var 3])) [.ret (.var 3)] []]
def B_first_unlike : List IS := [.for_ (.nm 3) (.seq (.call 11 [.var 0])) B_first_unlike_f1, .ret (.con .none)]
def B_repeat_state : List IS := [.expr (.call 2 [.var 0]), .expr (.call 8 [.var 0, .var 1]), .ret (.call 13 [.var 0, .var 1, .bin .add (.var 1) (.var 1)])]
def B_exchange_state : List IS := [.expr (.call 2 [.var 0]), .expr (.call 8 [.var 0, .var 1]), .expr (.call 8 [.var 0, .var 2]), .ret (.call 13 [.var 0, .bin .add (.var 1) (.var 2), .bin .add (.var 2) (.var 1)])]
def B_back_state : List IS := [.expr (.call 2 [.var 0]), .expr (.call 8 [.var 0, .var 1]), .expr (.call 8 [.var 0, .var 2]), .ret (.call 13 [.var 0, .bin .add (.var 1) (.var 2), .tup []])]
def B_loses_nothing : List IS := [.asg (.nm 2) (.call 11 [.var 0]), .ret (.cmp .eq (.b1 .lenSet (.lc (.call 9 [.var 1, .var 3]) (.nm 3) (.seq (.var 2)) (.con (.bool true)))) (.b1 .len (.var 2)))]
def B_is_reversible : List IS := [.expr (.call 2 [.var 0]), .expr (.call 8 [.var 0, .var 1]), .ret (.call 17 [.var 0, .var 1])]
def B_operations_of_f1 : List IS := [.ext 1 (.bin .add (.lc (.tup [.con (.str S_set), .var 2, .var 3]) (.nm 3) (.rng (.con (.int 3))) (.con (.bool true))) (.lst [.tup [.con (.str S_add), .var 2, .con (.int 1)], .tup [.con (.str S_add), .var 2, .con (.int 2)]])), .ext 1 (.lc (.tup [.con (.str S_copy), .var 2, .var 4]) (.nm 4) (.rng (.var 0)) (.cmp .ne (.var 4) (.var 2)))]
def B_operations_of : List IS := [.own 1 (.lst []), .for_ (.nm 2) (.rng (.var 0)) B_operations_of_f1, .ret (.b1 .sorted (.var 1))]
def B_way_back_f1 : List IS := [.ite (.cmp .isN (.call 13 [.var 0, .bin .add (.var 1) (.var 4), .tup []]) (.con .none)) [.ret (.var 4)] []]
def B_way_back_f2 : List IS := [.ext 5 (.lc (.bin .add (.var 4) (.tup [.var 6])) (.nm 6) (.seq (.call 19 [.var 0])) (.con (.bool true)))]
def B_way_back_f3 : List IS := [.for_ (.nm 4) (.seq (.var 2)) B_way_back_f1, .own 5 (.lst []), .for_ (.nm 4) (.seq (.var 2)) B_way_back_f2, .asg (.nm 2) (.ite (.cmp .lt (.var 3) (.con (.int 2))) (.var 5) (.lst []))]
def B_way_back : List IS := [.expr (.call 2 [.var 0]), .expr (.call 8 [.var 0, .var 1]), .ite (.not (.call 17 [.var 0, .var 1])) [.ret (.con .none)] [], .asg (.nm 2) (.lst [.tup []]), .for_ (.nm 3) (.rng (.con (.int 3))) B_way_back_f3, .ret (.con .none)]
def B_is_step : List IS := [.ite (.or (.not (.isi .tuple (.var 1))) (.or (.cmp .ne (.b1 .len (.var 1)) (.con (.int 3))) (.not (.isi .bool (.sub (.var 1) (.con (.int 2))))))) [.ret (.con (.bool false))] [], .ret (.and (.call 6 [.var 0, .sub (.var 1) (.con (.int 0))]) (.or (.cmp .isN (.sub (.var 1) (.con (.int 1))) (.con .none)) (.call 6 [.var 0, .sub (.var 1) (.con (.int 1))])))]
def B_is_plan : List IS := [.ite (.or (.not (.isi .tuple (.var 0))) (.or (.cmp .ne (.b1 .len (.var 0)) (.con (.int 3))) (.not (.call 0 [.sub (.var 0) (.con (.int 0)), .con (.int 1), .con (.int 3)])))) [.ret (.con (.bool false))] [], .asg (.tp [(.nm 1), (.nm 2), (.nm 3)]) (.var 0), .ite (.or (.not (.isi .tuple (.var 2))) (.or (.not (.chn .le .le (.con (.int 1)) (.b1 .len (.var 2)) (.con (.int 4)))) (.not (.b1 .all (.lc (.call 21 [.var 1, .var 4]) (.nm 4) (.seq (.var 2)) (.con (.bool true))))))) [.ret (.con (.bool false))] [], .ret (.and (.isi .str (.var 3)) (.cmp .mem (.var 3) (.tup [.con (.str S_again), .con (.str S_back)])))]
def B_check_plan : List IS := [.ite (.not (.call 22 [.var 0])) [.raise 4] []]
def B_calls_of : List IS := [.asg (.nm 1) (.b1 .listEnum (.sub (.var 0) (.con (.int 1)))), .ret (.b1 .tuple (.bin .add (.lc (.tup [.con (.str S_back), .var 2]) (.tp [(.nm 2), (.nm 3)]) (.seq (.var 1)) (.cmp .notN (.sub (.var 3) (.con (.int 1))) (.con .none))) (.lc (.tup [.con (.str S_do), .var 2]) (.tp [(.nm 2), (.nm 3)]) (.seq (.var 1)) (.con (.bool true)))))]
def B_is_call : List IS := [.ite (.or (.not (.isi .tuple (.var 1))) (.or (.cmp .ne (.b1 .len (.var 1)) (.con (.int 2))) (.not (.isi .str (.sub (.var 1) (.con (.int 0))))))) [.ret (.con (.bool false))] [], .ret (.and (.call 0 [.sub (.var 1) (.con (.int 1)), .con (.int 0), .con (.int 3)]) (.cmp .mem (.var 1) (.call 24 [.var 0])))]
def B_check_guards : List IS := [.expr (.call 23 [.var 0]), .ite (.or (.not (.isi .tuple (.var 1))) (.or (.not (.b1 .all (.lc (.call 25 [.var 0, .var 2]) (.nm 2) (.seq (.var 1)) (.con (.bool true))))) (.not (.call 1 [.var 1])))) [.raise 5] []]
def B_check_start : List IS := [.ite (.not (.call 3 [.sub (.var 0) (.con (.int 0)), .var 1])) [.raise 6] []]
def B_all_guards : List IS := [.expr (.call 23 [.var 0]), .ret (.call 24 [.var 0])]
def B_goal_of_f1 : List IS := [.asg (.nm 2) (.call 9 [.sub (.var 3) (.con (.int 0)), .var 2])]
def B_goal_of : List IS := [.asg (.nm 2) (.var 1), .for_ (.nm 3) (.seq (.sub (.var 0) (.con (.int 1)))) B_goal_of_f1, .ret (.var 2)]
def B_goal : List IS := [.expr (.call 23 [.var 0]), .expr (.call 27 [.var 0, .var 1]), .ret (.call 29 [.var 0, .var 1])]
def B_outcomes_of : List IS := [.asg (.tp [(.nm 4), (.nm 5)]) (.var 2), .ite (.or (.cmp .eq (.var 4) (.con (.str S_back))) (.or (.not (.sub (.sub (.sub (.var 0) (.con (.int 1))) (.var 5)) (.con (.int 2)))) (.and (.cmp .mem (.var 2) (.var 1)) (.cmp .mem (.var 2) (.var 3))))) [.ret (.lst [.con (.str S_lost), .con (.str S_missed), .con (.str S_ok)])] [], .ret (.lst [.con (.str S_lost), .con (.str S_missed), .con (.str S_ok), .con (.str S_refused)])]
def B_taking_back : List IS := [.ite (.cmp .lt (.var 1) (.con (.int 0))) [.ret (.con (.str S_undone))] [], .ret (.ite (.cmp .notN (.sub (.sub (.sub (.var 0) (.con (.int 1))) (.var 1)) (.con (.int 1))) (.con .none)) (.tup [.con (.str S_back), .var 1]) (.con (.str S_stuck)))]
def B_next_of : List IS := [.asg (.tp [(.nm 3), (.nm 4)]) (.var 1), .ite (.cmp .eq (.var 3) (.con (.str S_back))) [.ret (.ite (.cmp .eq (.var 2) (.con (.str S_ok))) (.call 32 [.var 0, .bin .sub (.var 4) (.con (.int 1))]) (.var 1))] [], .ite (.cmp .eq (.var 2) (.con (.str S_ok))) [.ret (.ite (.cmp .lt (.bin .add (.var 4) (.con (.int 1))) (.b1 .len (.sub (.var 0) (.con (.int 1))))) (.tup [.con (.str S_do), .bin .add (.var 4) (.con (.int 1))]) (.con (.str S_done)))] [], .ite (.cmp .eq (.var 2) (.con (.str S_refused))) [.ret (.call 32 [.var 0, .bin .sub (.var 4) (.con (.int 1))])] [], .ret (.ite (.cmp .eq (.sub (.var 0) (.con (.int 2))) (.con (.str S_again))) (.var 1) (.call 32 [.var 0, .var 4]))]
def B_has_effect : List IS := [.ite (.cmp .nmem (.var 1) (.var 0)) [.ret (.con (.bool true))] [], .ret (.and (.cmp .nmem (.var 1) (.var 2)) (.or (.cmp .eq (.sub (.var 1) (.con (.int 0))) (.con (.str S_do))) (.cmp .mem (.tup [.con (.str S_do), .sub (.var 1) (.con (.int 1))]) (.var 2))))]
def B_called : List IS := [.ite (.call 34 [.var 1, .var 2, .var 3]) [.asg (.nm 5) (.sub (.sub (.var 0) (.con (.int 1))) (.sub (.var 2) (.con (.int 1)))), .asg (.nm 4) (.call 9 [.ite (.cmp .eq (.sub (.var 2) (.con (.int 0))) (.con (.str S_do))) (.sub (.var 5) (.con (.int 0))) (.sub (.var 5) (.con (.int 1))), .var 4]), .asg (.nm 3) (.b1 .tuple (.b1 .sortedSet (.bin .add (.var 3) (.tup [.var 2]))))] [.ite (.cmp .eq (.sub (.var 2) (.con (.int 0))) (.con (.str S_do))) [.asg (.nm 3) (.b1 .tuple (.b1 .sortedSet (.bin .add (.var 3) (.tup [.var 2]))))] []], .ret (.tup [.var 3, .var 4])]
def B_moved : List IS := [.ite (.cmp .mem (.var 5) (.tup [.con (.str S_ok), .con (.str S_lost)])) [.asg (.tp [(.nm 3), (.nm 4)]) (.call 35 [.var 0, .var 1, .var 2, .var 3, .var 4])] [], .ret (.tup [.call 33 [.var 0, .var 2, .var 5], .var 3, .var 4])]
def B_is_event : List IS := [.ite (.or (.not (.isi .tuple (.var 0))) (.or (.cmp .ne (.b1 .len (.var 0)) (.con (.int 3))) (.not (.call 0 [.sub (.var 0) (.con (.int 1)), .con (.int 0), .con (.int 3)])))) [.ret (.con (.bool false))] [], .ret (.and (.isi .str (.sub (.var 0) (.con (.int 0)))) (.isi .str (.sub (.var 0) (.con (.int 2)))))]
def B_followed_f1 : List IS := [.ite (.or (.not (.call 37 [.var 7])) (.or (.isi .str (.var 4)) (.cmp .ne (.slc (.var 7) (.con .none) (.con (.int 2))) (.var 4)))) [.ret (.con .none)] [], .ite (.cmp .nmem (.sub (.var 7) (.con (.int 2))) (.call 31 [.var 0, .var 1, .var 4, .var 5])) [.ret (.con .none)] [], .asg (.tp [(.nm 4), (.nm 5), (.nm 6)]) (.call 36 [.var 0, .var 1, .var 4, .var 5, .var 6, .sub (.var 7) (.con (.int 2))])]
def B_followed : List IS := [.ite (.not (.isi .tuple (.var 3))) [.ret (.con .none)] [], .par [(4, false), (5, false), (6, false)] [.glo 1, .tup [], .var 2], .for_ (.nm 7) (.seq (.var 3)) B_followed_f1, .ret (.ite (.isi .str (.var 4)) (.tup [.var 4, .var 6]) (.con .none))]
def B_is_run : List IS := [.expr (.call 26 [.var 0, .var 1]), .ret (.cmp .notN (.call 38 [.var 0, .var 1, .bin .mul (.tup [.con (.int 0)]) (.sub (.var 0) (.con (.int 0))), .var 2]) (.con .none))]
def B_run_end : List IS := [.expr (.call 26 [.var 0, .var 1]), .expr (.call 27 [.var 0, .var 2]), .asg (.nm 4) (.call 38 [.var 0, .var 1, .var 2, .var 3]), .ite (.cmp .isN (.var 4) (.con .none)) [.raise 7] [], .ret (.var 4)]
def B_is_good_end : List IS := [.ite (.cmp .eq (.sub (.var 2) (.con (.int 0))) (.con (.str S_done))) [.ret (.cmp .eq (.sub (.var 2) (.con (.int 1))) (.call 29 [.var 0, .var 1]))] [], .ret (.and (.cmp .eq (.sub (.var 2) (.con (.int 0))) (.con (.str S_undone))) (.cmp .eq (.sub (.var 2) (.con (.int 1))) (.var 1)))]
def B_found_ends_f1 : List IS := [.asg (.nm 13) (.call 36 [.var 0, .var 1, .var 9, .var 10, .var 11, .var 12]), .asg (.nm 14) (.bin .add (.var 8) (.tup [.bin .add (.var 9) (.tup [.var 12])])), .ite (.isi .str (.sub (.var 13) (.con (.int 0)))) [.asg (.nm 15) (.tup [.sub (.var 13) (.con (.int 0)), .sub (.var 13) (.con (.int 2))]), .asg (.nm 16) (.get (.var 6) (.var 15) (.var 14)), .setI 6 (.var 15) (.ite (.and (.cmp .eq (.b1 .len (.var 14)) (.b1 .len (.var 16))) (.cmp .lt (.var 14) (.var 16))) (.var 14) (.var 16))] [.ite (.cmp .nmem (.var 13) (.var 4)) [.setI 4 (.var 13) (.con (.bool true)), .app 7 (.tup [.var 14, .var 13])] []]]
def B_found_ends_f2 : List IS := [.for_ (.nm 12) (.seq (.call 31 [.var 0, .var 1, .var 9, .var 10])) B_found_ends_f1]
def B_found_ends_f3 : List IS := [.own 7 (.lst []), .for_ (.tp [(.nm 8), (.tp [(.nm 9), (.nm 10), (.nm 11)])]) (.seq (.var 5)) B_found_ends_f2, .asg (.nm 5) (.b1 .sorted (.var 7))]
def B_found_ends : List IS := [.asg (.nm 3) (.tup [.glo 1, .tup [], .var 2]), .par [(4, true), (5, false), (6, true)] [.dis [.var 3, .con (.bool true)], .lst [.tup [.tup [], .var 3]], .dis []], .while_ (.cmp .ne (.var 5) (.lst [])) B_found_ends_f3, .ret (.var 6)]
def B_are_good : List IS := [.ret (.b1 .all (.lc (.call 41 [.var 0, .var 2, .var 3]) (.nm 3) (.seq (.call 42 [.var 0, .var 1, .var 2])) (.con (.bool true))))]
def B_ends_clean : List IS := [.expr (.call 26 [.var 0, .var 1]), .expr (.call 27 [.var 0, .var 2]), .ret (.call 43 [.var 0, .var 1, .var 2])]
def B_bad_run : List IS := [.expr (.call 26 [.var 0, .var 1]), .expr (.call 27 [.var 0, .var 2]), .asg (.nm 3) (.call 42 [.var 0, .var 1, .var 2]), .asg (.nm 4) (.lc (.tup [.b1 .len (.sub (.var 3) (.var 5)), .sub (.var 3) (.var 5)]) (.nm 5) (.seq (.var 3)) (.not (.call 41 [.var 0, .var 2, .var 5]))), .ret (.ite (.cmp .ne (.var 4) (.lst [])) (.sub (.b1 .min (.var 4)) (.con (.int 1))) (.con .none))]
def B_bad_starts : List IS := [.expr (.call 26 [.var 0, .var 1]), .ret (.b1 .tuple (.lc (.var 2) (.nm 2) (.seq (.call 11 [.sub (.var 0) (.con (.int 0))])) (.not (.call 43 [.var 0, .var 1, .var 2]))))]
def B_ends : List IS := [.expr (.call 26 [.var 0, .var 1]), .expr (.call 27 [.var 0, .var 2]), .ret (.b1 .tuple (.b1 .sorted (.call 42 [.var 0, .var 1, .var 2])))]
def B_guards_in_f1 : List IS := [.asg (.nm 1) (.bin .add (.var 1) (.lc (.bin .add (.var 3) (.tup [.var 2])) (.nm 3) (.seq (.var 1)) (.con (.bool true))))]
def B_guards_in : List IS := [.asg (.nm 1) (.lst [.tup []]), .for_ (.nm 2) (.seq (.call 24 [.var 0])) B_guards_in_f1, .ret (.lc (.var 3) (.tp [(.nm 4), (.nm 3)]) (.seq (.b1 .sorted (.lc (.tup [.b1 .len (.var 3), .var 3]) (.nm 3) (.seq (.var 1)) (.con (.bool true))))) (.con (.bool true)))]
def B_fewest_guards_f1 : List IS := [.ite (.call 43 [.var 0, .var 2, .var 1]) [.ret (.var 2)] []]
def B_fewest_guards : List IS := [.expr (.call 23 [.var 0]), .expr (.call 27 [.var 0, .var 1]), .for_ (.nm 2) (.seq (.call 48 [.var 0])) B_fewest_guards_f1, .ret (.con .none)]
def B_guards_for_all_f1 : List IS := [.ite (.b1 .all (.lc (.call 43 [.var 0, .var 2, .var 3]) (.nm 3) (.seq (.var 1)) (.con (.bool true)))) [.ret (.var 2)] []]
def B_guards_for_all : List IS := [.expr (.call 23 [.var 0]), .asg (.nm 1) (.call 11 [.sub (.var 0) (.con (.int 0))]), .for_ (.nm 2) (.seq (.call 48 [.var 0])) B_guards_for_all_f1, .ret (.con .none)]
def B_can_get_stuck : List IS := [.expr (.call 23 [.var 0]), .ret (.cmp .mem (.con (.str S_stuck)) (.lc (.sub (.var 1) (.con (.int 0))) (.nm 1) (.seq (.call 42 [.var 0, .call 24 [.var 0], .bin .mul (.tup [.con (.int 0)]) (.sub (.var 0) (.con (.int 0)))])) (.con (.bool true))))]
def B_in_order : List IS := [.ret (.tup [.sub (.var 0) (.con (.int 0)), .b1 .tuple (.lc (.sub (.sub (.var 0) (.con (.int 1))) (.var 2)) (.nm 2) (.seq (.var 1)) (.con (.bool true))), .sub (.var 0) (.con (.int 2))])]
def B_reordered : List IS := [.expr (.call 23 [.var 0]), .asg (.nm 2) (.b1 .len (.sub (.var 0) (.con (.int 1)))), .ite (.or (.not (.isi .tuple (.var 1))) (.not (.b1 .all (.lc (.call 0 [.var 3, .con (.int 0), .bin .sub (.var 2) (.con (.int 1))]) (.nm 3) (.seq (.var 1)) (.con (.bool true)))))) [.raise 8] [], .ite (.cmp .ne (.b1 .sorted (.var 1)) (.b1 .listRange (.var 2))) [.raise 8] [], .ret (.call 52 [.var 0, .var 1])]
def B_orders_of_f1 : List IS := [.ext 3 (.lc (.bin .add (.var 4) (.tup [.var 5])) (.nm 5) (.rng (.b1 .len (.sub (.var 0) (.con (.int 1))))) (.cmp .nmem (.var 5) (.var 4)))]
def B_orders_of_f2 : List IS := [.own 3 (.lst []), .for_ (.nm 4) (.seq (.var 1)) B_orders_of_f1, .asg (.nm 1) (.var 3)]
def B_orders_of : List IS := [.asg (.nm 1) (.lst [.tup []]), .for_ (.nm 2) (.rng (.b1 .len (.sub (.var 0) (.con (.int 1))))) B_orders_of_f2, .ret (.var 1)]
def B_same_goal : List IS := [.asg (.nm 2) (.call 29 [.var 0, .var 1]), .ret (.lc (.var 3) (.nm 3) (.seq (.call 54 [.var 0])) (.cmp .eq (.call 29 [.call 52 [.var 0, .var 3], .var 1]) (.var 2)))]
def B_goal_orders : List IS := [.expr (.call 23 [.var 0]), .expr (.call 27 [.var 0, .var 1]), .ret (.b1 .tuple (.call 55 [.var 0, .var 1]))]
def B_clean_orders_f1 : List IS := [.asg (.nm 4) (.call 52 [.var 0, .var 3]), .ite (.call 43 [.var 4, .call 24 [.var 4], .var 1]) [.app 2 (.var 3)] []]
def B_clean_orders : List IS := [.expr (.call 23 [.var 0]), .expr (.call 27 [.var 0, .var 1]), .own 2 (.lst []), .for_ (.nm 3) (.seq (.call 55 [.var 0, .var 1])) B_clean_orders_f1, .ret (.b1 .tuple (.var 2))]
def B_is_settled : List IS := [.expr (.call 23 [.var 0]), .ret (.b1 .all (.lc (.cmp .eq (.call 55 [.var 0, .var 1]) (.call 54 [.var 0])) (.nm 1) (.seq (.call 11 [.sub (.var 0) (.con (.int 0))])) (.con (.bool true))))]
def B_format_action : List IS := [.expr (.call 2 [.var 0]), .expr (.call 8 [.var 0, .var 1]), .ret (.call 59 [.var 1])]
def B_format_plan : List IS := [.expr (.call 23 [.var 0]), .ret (.call 62 [.var 0])]
def B_parse_action : List IS := [.expr (.call 2 [.var 0]), .ite (.not (.isi .str (.var 1))) [.raise 10] [], .asg (.nm 2) (.call 65 [.var 1]), .ite (.not (.call 6 [.var 0, .var 2])) [.raise 10] [], .ret (.var 2)]
def H_is : List IS := [.ret (.and (.isi .bool (.var 0)) (.cmp .eq (.var 0) (.var 1)))]
def H_after_f1 : List IS := [.ite (.cmp .eq (.var 3) (.con (.str S_copy))) [.dset 2 (.var 5) (.dsub 2 (.var 4))] [.dset 2 (.var 4) (.ite (.cmp .eq (.var 3) (.con (.str S_set))) (.var 5) (.bin .mod (.bin .add (.dsub 2 (.var 4)) (.var 5)) (.con (.int 3))))]]
def H_after : List IS := [.dnew 2 (.var 1), .for_ (.tp [(.nm 3), (.nm 4), (.nm 5)]) (.seq (.var 0)) H_after_f1, .ret (.b1 .tuple (.lc (.dsub 2 (.var 4)) (.nm 4) (.rng (.b1 .len (.var 1))) (.con (.bool true))))]
def H_states_f1 : List IS := [.asg (.nm 3) (.tup [.bin .fdiv (.var 2) (.con (.int 9)), .bin .mod (.bin .fdiv (.var 2) (.con (.int 3))) (.con (.int 3)), .bin .mod (.var 2) (.con (.int 3))]), .app 1 (.slc (.var 3) (.bin .sub (.con (.int 3)) (.var 0)) (.con .none))]
def H_states : List IS := [.own 1 (.lst []), .for_ (.nm 2) (.rng (.sub (.tup [.con (.int 3), .con (.int 9), .con (.int 27)]) (.bin .sub (.var 0) (.con (.int 1))))) H_states_f1, .ret (.var 1)]
def H_action_f1 : List IS := [.par [(5, false), (6, false)] [.call 70 [.var 0, .var 1, .con (.int 4)], .call 70 [.var 0, .var 1, .var 2]], .ite (.cmp .lt (.var 5) (.con (.int 2))) [.asg (.nm 3) (.bin .add (.var 3) (.tup [.tup [.con (.str S_add), .var 6, .bin .add (.con (.int 1)) (.call 70 [.var 0, .var 1, .con (.int 2)])]]))] [.ite (.or (.cmp .eq (.var 5) (.con (.int 2))) (.cmp .eq (.var 2) (.con (.int 1)))) [.asg (.nm 3) (.bin .add (.var 3) (.tup [.tup [.con (.str S_set), .var 6, .call 70 [.var 0, .var 1, .con (.int 3)]]]))] [.asg (.nm 7) (.bin .add (.bin .add (.var 6) (.con (.int 1))) (.call 70 [.var 0, .var 1, .bin .sub (.var 2) (.con (.int 1))])), .asg (.nm 3) (.bin .add (.var 3) (.tup [.tup [.con (.str S_copy), .var 6, .bin .mod (.var 7) (.var 2)]]))]]]
def H_action : List IS := [.asg (.nm 3) (.tup []), .for_ (.nm 4) (.rng (.call 70 [.var 0, .var 1, .con (.int 4)])) H_action_f1, .ret (.var 3)]
def H_odd_operations : List IS := [.own 1 (.lst [.tup [.con (.str S_set), .con (.int 0), .con (.int 3)], .tup [.con (.str S_set), .con (.int 0), .neg (.con (.int 1))], .tup [.con (.str S_set), .var 0, .con (.int 0)], .tup [.con (.str S_add), .con (.int 0), .con (.int 0)], .tup [.con (.str S_add), .con (.int 0), .con (.int 3)], .tup [.con (.str S_copy), .con (.int 0), .con (.int 0)]]), .app 1 (.lst [.con (.str S_set), .con (.int 0), .con (.int 0)]), .own 1 (.bin .add (.var 1) (.lst [.tup [.con (.str S_copy), .con (.int 0), .var 0], .tup [.con (.str S_Set), .con (.int 0), .con (.int 0)], .tup [.con (.str S_set), .con (.int 0)], .tup [.con (.str S_set), .con (.int 0), .con (.int 0), .con (.int 0)], .tup [.con (.int 0), .con (.int 0), .con (.int 0)], .con .none, .tup []])), .own 1 (.bin .add (.var 1) (.lst [.con (.str S_set), .tup [.con (.str S_set)]])), .ret (.bin .add (.var 1) (.lst [.tup [.con (.str S_set), .con (.bool true), .con (.int 0)], .tup [.con (.str S_set), .con (.int 0), .con (.bool true)], .tup [.con (.str S_add), .con (.int 0), .con (.bool true)], .tup [.con (.str S_copy), .con (.bool false), .con (.int 1)], .tup [.con (.str S_set), .con (.str S_0), .con (.int 0)]]))]
def H_unlike_f1 : List IS := [.ite (.cmp .ne (.call 73 [.var 1, .var 3]) (.call 73 [.var 2, .var 3])) [.ret (.var 3)] []]
def H_unlike : List IS := [.for_ (.nm 3) (.seq (.call 74 [.var 0])) H_unlike_f1, .ret (.con .none)]
def H_way_back_f1 : List IS := [.ext 2 (.bin .add (.lst [.tup [.con (.str S_add), .var 3, .con (.int 1)], .tup [.con (.str S_add), .var 3, .con (.int 2)]]) (.lc (.tup [.con (.str S_set), .var 3, .var 4]) (.nm 4) (.rng (.con (.int 3))) (.con (.bool true)))), .ext 2 (.lc (.tup [.con (.str S_copy), .var 3, .var 5]) (.nm 5) (.rng (.var 0)) (.cmp .ne (.var 5) (.var 3)))]
def H_way_back_f2 : List IS := [.ext 6 (.lc (.tup [.var 7, .var 5]) (.nm 5) (.seq (.b1 .sorted (.var 2))) (.con (.bool true)))]
def H_way_back_f3 : List IS := [.ite (.cmp .isN (.call 77 [.var 0, .bin .add (.var 1) (.var 8), .tup []]) (.con .none)) [.ret (.var 8)] []]
def H_way_back : List IS := [.own 2 (.lst []), .for_ (.nm 3) (.rng (.var 0)) H_way_back_f1, .own 6 (.lst []), .for_ (.nm 7) (.seq (.b1 .sorted (.var 2))) H_way_back_f2, .for_ (.nm 8) (.seq (.bin .add (.bin .add (.lst [.tup []]) (.lc (.tup [.var 7]) (.nm 7) (.seq (.b1 .sorted (.var 2))) (.con (.bool true)))) (.var 6))) H_way_back_f3, .ret (.con .none)]
def H_shown_f1 : List IS := [.asg (.nm 5) (.call 10 [.var 0, .var 2, .call 10 [.var 0, .var 1, .var 4]]), .asg (.nm 6) (.call 10 [.var 0, .var 1, .call 10 [.var 0, .var 2, .var 4]]), .ite (.or (.and (.cmp .isN (.var 3) (.con .none)) (.cmp .ne (.var 5) (.var 6))) (.and (.cmp .eq (.var 4) (.var 3)) (.cmp .eq (.var 5) (.var 6)))) [.ret (.con (.bool false))] [], .ite (.and (.cmp .notN (.var 3) (.con .none)) (.and (.cmp .lt (.var 4) (.var 3)) (.cmp .ne (.var 5) (.var 6)))) [.ret (.con (.bool false))] []]
def H_shown_f2 : List IS := [.asg (.nm 7) (.call 10 [.var 0, .var 1, .call 10 [.var 0, .var 1, .var 4]]), .ite (.and (.cmp .isN (.var 3) (.con .none)) (.cmp .ne (.var 7) (.call 10 [.var 0, .var 1, .var 4]))) [.ret (.con (.bool false))] [], .ite (.and (.cmp .eq (.var 4) (.var 3)) (.cmp .eq (.var 7) (.call 10 [.var 0, .var 1, .var 4]))) [.ret (.con (.bool false))] []]
def H_shown : List IS := [.asg (.nm 3) (.call 15 [.var 0, .var 1, .var 2]), .ite (.cmp .ne (.call 15 [.var 0, .var 2, .var 1]) (.var 3)) [.ret (.con (.bool false))] [], .for_ (.nm 4) (.seq (.call 12 [.var 0])) H_shown_f1, .asg (.nm 3) (.call 14 [.var 0, .var 1]), .for_ (.nm 4) (.seq (.call 12 [.var 0])) H_shown_f2, .ret (.con (.bool true))]
def H_plain_f1 : List IS := [.ite (.cmp .notN (.call 14 [.var 0, .tup [.tup [.con (.str S_set), .var 1, .var 2]]]) (.con .none)) [.ret (.con (.bool false))] [], .ite (.call 18 [.var 0, .tup [.tup [.con (.str S_set), .var 1, .var 2]]]) [.ret (.con (.bool false))] []]
def H_plain_f2 : List IS := [.ite (.cmp .ne (.call 14 [.var 0, .tup [.tup [.con (.str S_add), .var 1, .var 3]]]) (.bin .mul (.tup [.con (.int 0)]) (.var 0))) [.ret (.con (.bool false))] [], .ite (.cmp .ne (.call 20 [.var 0, .tup [.tup [.con (.str S_add), .var 1, .var 3]]]) (.tup [.tup [.con (.str S_add), .var 1, .bin .sub (.con (.int 3)) (.var 3)]])) [.ret (.con (.bool false))] []]
def H_plain : List IS := [.for_ (.nm 2) (.seq (.tup [.con (.int 0), .con (.int 1), .con (.int 2)])) H_plain_f1, .for_ (.nm 3) (.seq (.tup [.con (.int 1), .con (.int 2)])) H_plain_f2, .ite (.cmp .gt (.var 0) (.con (.int 1))) [.asg (.nm 4) (.bin .mod (.bin .add (.var 1) (.con (.int 1))) (.var 0)), .ite (.cmp .notN (.call 15 [.var 0, .tup [.tup [.con (.str S_add), .var 1, .con (.int 1)]], .tup [.tup [.con (.str S_set), .var 4, .con (.int 2)]]]) (.con .none)) [.ret (.con (.bool false))] [], .ite (.cmp .notN (.call 14 [.var 0, .tup [.tup [.con (.str S_copy), .var 1, .var 4]]]) (.con .none)) [.ret (.con (.bool false))] [], .ite (.call 18 [.var 0, .tup [.tup [.con (.str S_copy), .var 1, .var 4]]]) [.ret (.con (.bool false))] []] [], .ret (.con (.bool true))]
def H_plan_f1 : List IS := [.asg (.nm 5) (.call 75 [.var 0, .var 1, .var 2]), .ite (.cmp .gt (.call 70 [.var 0, .var 1, .con (.int 3)]) (.con (.int 0))) [.asg (.nm 5) (.slc (.b1 .tuple (.lc (.tup [.con (.str S_add), .sub (.var 6) (.con (.int 1)), .bin .add (.con (.int 1)) (.bin .mod (.sub (.var 6) (.con (.int 2))) (.con (.int 2)))]) (.nm 6) (.seq (.var 5)) (.con (.bool true)))) (.con .none) (.con (.int 2)))] [], .asg (.nm 7) (.rev (.b1 .tuple (.lc (.tup [.sub (.var 6) (.con (.int 0)), .sub (.var 6) (.con (.int 1)), .ite (.cmp .eq (.sub (.var 6) (.con (.int 0))) (.con (.str S_add))) (.bin .sub (.con (.int 3)) (.sub (.var 6) (.con (.int 2)))) (.sub (.var 6) (.con (.int 2)))]) (.nm 6) (.seq (.var 5)) (.con (.bool true))))), .ite (.cmp .eq (.call 70 [.var 0, .var 1, .con (.int 8)]) (.con (.int 0))) [.asg (.nm 7) (.ite (.cmp .eq (.call 70 [.var 0, .var 1, .con (.int 2)]) (.con (.int 0))) (.con .none) (.call 75 [.var 0, .var 1, .var 2]))] [], .app 3 (.tup [.var 5, .var 7, .cmp .eq (.call 70 [.var 0, .var 1, .con (.int 3)]) (.con (.int 0))])]
def H_plan : List IS := [.par [(2, false), (3, true)] [.bin .add (.bin .add (.con (.int 1)) (.call 70 [.var 0, .var 1, .con (.int 2)])) (.call 70 [.var 0, .var 1, .con (.int 2)]), .lst []], .for_ (.nm 4) (.rng (.bin .add (.con (.int 1)) (.call 70 [.var 0, .var 1, .con (.int 3)]))) H_plan_f1, .ret (.tup [.var 2, .b1 .tuple (.var 3), .sub (.tup [.con (.str S_again), .con (.str S_back)]) (.call 70 [.var 0, .var 1, .con (.int 2)])])]
def H_calls : List IS := [.asg (.nm 1) (.lc (.tup [.con (.str S_back), .var 2]) (.tp [(.nm 2), (.nm 3)]) (.enu (.sub (.var 0) (.con (.int 1)))) (.cmp .notN (.sub (.var 3) (.con (.int 1))) (.con .none))), .ret (.b1 .tuple (.bin .add (.var 1) (.lc (.tup [.con (.str S_do), .var 2]) (.nm 2) (.rng (.b1 .len (.sub (.var 0) (.con (.int 1))))) (.con (.bool true)))))]
def H_guards : List IS := [.ret (.b1 .tuple (.lc (.var 3) (.nm 3) (.seq (.call 83 [.var 2])) (.cmp .eq (.call 70 [.var 0, .var 1, .con (.int 2)]) (.con (.int 0)))))]
def H_start : List IS := [.ret (.b1 .tuple (.lc (.call 70 [.var 0, .var 1, .con (.int 3)]) (.nm 3) (.rng (.sub (.var 2) (.con (.int 0)))) (.con (.bool true))))]
def H_odd_plans : List IS := [.asg (.tp [(.nm 1), (.nm 2), (.nm 3)]) (.var 0), .asg (.nm 4) (.sub (.var 2) (.con (.int 0))), .own 5 (.lst [.tup [.con (.int 0), .var 2, .var 3], .tup [.con (.int 4), .var 2, .var 3], .tup [.con (.bool true), .var 2, .var 3], .tup [.var 1, .tup [], .var 3]]), .app 5 (.tup [.var 1, .slc (.bin .add (.var 2) (.bin .mul (.tup [.var 4]) (.con (.int 5)))) (.con .none) (.con (.int 5)), .var 3]), .own 5 (.bin .add (.var 5) (.lst [.tup [.var 1, .b1 .list (.var 2), .var 3], .b1 .list (.var 0), .tup [.var 1, .var 2], .tup [.var 1, .var 2, .con (.str S_Again)]])), .app 5 (.tup [.var 1, .var 2, .con .none]), .own 5 (.bin .add (.var 5) (.lst [.tup [.var 1, .tup [.tup [.sub (.var 4) (.con (.int 0)), .sub (.var 4) (.con (.int 1))]], .var 3], .tup [.var 1, .tup [.tup [.con .none, .sub (.var 4) (.con (.int 1)), .con (.bool false)]], .var 3], .con .none, .tup [], .con (.int 0), .con (.str S_plan)])), .own 5 (.bin .add (.var 5) (.lst [.tup [.var 1, .tup [.tup [.sub (.var 4) (.con (.int 0)), .sub (.var 4) (.con (.int 1)), .con (.int 1)]], .var 3], .tup [.var 1, .tup [.tup [.sub (.var 4) (.con (.int 0)), .tup [.con (.int 0)], .con (.bool true)]], .var 3]])), .ret (.bin .add (.var 5) (.lst [.tup [.var 1, .tup [.lst [.sub (.var 4) (.con (.int 0)), .sub (.var 4) (.con (.int 1)), .con (.bool true)]], .var 3], .tup [.con (.int 1), .tup [.tup [.tup [.tup [.con (.str S_set), .con (.int 1), .con (.int 0)]], .con .none, .con (.bool true)]], .var 3]]))]
def H_back_from : List IS := [.ite (.cmp .lt (.var 1) (.con (.int 0))) [.ret (.con (.str S_undone))] [], .ret (.ite (.cmp .isN (.sub (.sub (.sub (.var 0) (.con (.int 1))) (.var 1)) (.con (.int 1))) (.con .none)) (.con (.str S_stuck)) (.tup [.con (.str S_back), .var 1]))]
def H_moves : List IS := [.asg (.tp [(.nm 5), (.nm 6)]) (.var 2), .asg (.nm 7) (.sub (.sub (.var 0) (.con (.int 1))) (.var 6)), .par [(8, false), (9, false)] [.var 4, .b1 .sortedSet (.bin .add (.var 3) (.lst [.var 2]))], .ite (.or (.cmp .nmem (.var 2) (.var 1)) (.and (.cmp .nmem (.var 2) (.var 3)) (.or (.cmp .eq (.var 5) (.con (.str S_do))) (.cmp .mem (.tup [.con (.str S_do), .var 6]) (.var 3))))) [.asg (.nm 8) (.call 73 [.ite (.cmp .eq (.var 5) (.con (.str S_do))) (.sub (.var 7) (.con (.int 0))) (.sub (.var 7) (.con (.int 1))), .var 4])] [], .par [(10, false), (11, false)] [.var 2, .call 87 [.var 0, .bin .sub (.var 6) (.con (.int 1))]], .ite (.cmp .eq (.var 5) (.con (.str S_do))) [.asg (.nm 10) (.ite (.cmp .eq (.sub (.var 0) (.con (.int 2))) (.con (.str S_again))) (.var 2) (.call 87 [.var 0, .var 6])), .asg (.nm 11) (.ite (.cmp .lt (.bin .add (.var 6) (.con (.int 1))) (.b1 .len (.sub (.var 0) (.con (.int 1))))) (.tup [.con (.str S_do), .bin .add (.var 6) (.con (.int 1))]) (.con (.str S_done)))] [], .own 12 (.lst [.tup [.con (.str S_lost), .var 10, .var 9, .var 8], .tup [.con (.str S_missed), .var 10, .var 3, .var 4], .tup [.con (.str S_ok), .var 11, .var 9, .var 8]]), .ite (.and (.cmp .eq (.var 5) (.con (.str S_do))) (.and (.sub (.var 7) (.con (.int 2))) (.not (.and (.cmp .mem (.var 2) (.var 1)) (.cmp .mem (.var 2) (.var 3)))))) [.app 12 (.tup [.con (.str S_refused), .call 87 [.var 0, .bin .sub (.var 6) (.con (.int 1))], .var 3, .var 4])] [], .ret (.var 12)]
def H_walk_f1 : List IS := [.asg (.nm 9) (.call 88 [.var 2, .var 3, .var 5, .var 6, .var 7]), .asg (.nm 10) (.sub (.var 9) (.sub (.tup [.con (.int 2), .con (.int 2), .con (.int 0), .con (.int 1), .bin .sub (.b1 .len (.var 9)) (.con (.int 1))]) (.call 70 [.var 0, .var 1, .con (.int 5)]))), .asg (.nm 8) (.bin .add (.var 8) (.tup [.bin .add (.var 5) (.tup [.sub (.var 10) (.con (.int 0))])])), .asg (.tp [(.nm 5), (.nm 6), (.nm 7)]) (.slc (.var 10) (.con (.int 1)) (.con .none))]
def H_walk : List IS := [.par [(5, false), (6, false), (7, false), (8, false)] [.tup [.con (.str S_do), .con (.int 0)], .lst [], .var 4, .tup []], .while_ (.and (.not (.isi .str (.var 5))) (.cmp .lt (.b1 .len (.var 8)) (.con (.int 8)))) H_walk_f1, .ret (.var 8)]
def H_end_f1 : List IS := [.ite (.or (.isi .str (.var 4)) (.or (.not (.isi .tuple (.var 7))) (.or (.cmp .ne (.b1 .len (.var 7)) (.con (.int 3))) (.isi .bool (.sub (.var 7) (.con (.int 1))))))) [.ret (.con .none)] [], .asg (.nm 8) (.lc (.var 9) (.nm 9) (.seq (.call 88 [.var 0, .var 1, .var 4, .var 5, .var 6])) (.cmp .eq (.var 7) (.bin .add (.var 4) (.slc (.var 9) (.con .none) (.con (.int 1)))))), .ite (.cmp .eq (.var 8) (.lst [])) [.ret (.con .none)] [], .asg (.tp [(.nm 4), (.nm 5), (.nm 6)]) (.slc (.sub (.var 8) (.con (.int 0))) (.con (.int 1)) (.con .none))]
def H_end : List IS := [.par [(4, false), (5, false), (6, false)] [.tup [.con (.str S_do), .con (.int 0)], .lst [], .var 2], .ite (.not (.isi .tuple (.var 3))) [.ret (.con .none)] [], .for_ (.nm 7) (.seq (.var 3)) H_end_f1, .ret (.ite (.isi .str (.var 4)) (.tup [.var 4, .var 6]) (.con .none))]
def H_ends_f1 : List IS := [.asg (.nm 12) (.slc (.var 11) (.con (.int 1)) (.con .none)), .ite (.isi .str (.sub (.var 12) (.con (.int 0)))) [.setI 5 (.tup [.sub (.var 12) (.con (.int 0)), .sub (.var 12) (.con (.int 2))]) (.get (.var 5) (.tup [.sub (.var 12) (.con (.int 0)), .sub (.var 12) (.con (.int 2))]) (.var 6))] [.ite (.cmp .nmem (.var 12) (.var 4)) [.app 4 (.var 12), .app 7 (.var 12)] []]]
def H_ends_f2 : List IS := [.for_ (.nm 11) (.seq (.call 88 [.var 0, .var 1, .var 8, .var 9, .var 10])) H_ends_f1]
def H_ends_f3 : List IS := [.par [(7, true), (6, false)] [.lst [], .bin .add (.var 6) (.con (.int 1))], .for_ (.tp [(.nm 8), (.nm 9), (.nm 10)]) (.seq (.var 3)) H_ends_f2, .asg (.nm 3) (.var 7)]
def H_ends : List IS := [.par [(3, false), (4, true), (5, true), (6, false)] [.lst [.tup [.tup [.con (.str S_do), .con (.int 0)], .lst [], .var 2]], .lst [], .dis [], .con (.int 0)], .while_ (.cmp .ne (.var 3) (.lst [])) H_ends_f3, .ret (.var 5)]
def H_bad_f1 : List IS := [.asg (.nm 3) (.call 73 [.sub (.var 4) (.con (.int 0)), .var 3])]
def H_bad : List IS := [.asg (.nm 3) (.var 1), .for_ (.nm 4) (.seq (.sub (.var 0) (.con (.int 1)))) H_bad_f1, .ret (.and (.cmp .ne (.var 2) (.tup [.con (.str S_undone), .var 1])) (.cmp .ne (.var 2) (.tup [.con (.str S_done), .var 3])))]
def H_fits : List IS := [.par [(4, false), (5, false)] [.call 40 [.var 0, .var 1, .var 2, .var 3], .call 45 [.var 0, .var 1, .var 2]], .ite (.cmp .nmem (.var 4) (.call 47 [.var 0, .var 1, .var 2])) [.ret (.con (.bool false))] [], .ret (.or (.not (.call 92 [.var 0, .var 2, .var 4])) (.and (.cmp .notN (.var 5) (.con .none)) (.cmp .le (.tup [.b1 .len (.var 5), .var 5]) (.tup [.b1 .len (.var 3), .var 3]))))]
def H_rows_f1 : List IS := [.asg (.nm 1) (.bin .add (.var 1) (.lc (.bin .add (.var 3) (.tup [.var 2])) (.nm 3) (.seq (.var 1)) (.con (.bool true))))]
def H_rows : List IS := [.asg (.nm 1) (.lst [.tup []]), .for_ (.nm 2) (.seq (.call 83 [.var 0])) H_rows_f1, .ret (.lc (.var 3) (.tp [(.nm 4), (.nm 3)]) (.seq (.b1 .sorted (.lc (.tup [.b1 .len (.var 3), .var 3]) (.nm 3) (.seq (.var 1)) (.con (.bool true))))) (.con (.bool true)))]
def H_fitted_f1 : List IS := [.app 1 (.tup [.var 2, .call 20 [.sub (.var 0) (.con (.int 0)), .var 2], .var 4])]
def H_fitted : List IS := [.own 1 (.lst []), .for_ (.tp [(.nm 2), (.nm 3), (.nm 4)]) (.seq (.sub (.var 0) (.con (.int 1)))) H_fitted_f1, .ret (.tup [.sub (.var 0) (.con (.int 0)), .b1 .tuple (.var 1), .sub (.var 0) (.con (.int 2))])]
def H_least_f1 : List IS := [.ite (.call 44 [.var 0, .bin .add (.slc (.var 2) (.con .none) (.var 3)) (.slc (.var 2) (.bin .add (.var 3) (.con (.int 1))) (.con .none)), .var 1]) [.ret (.con (.bool false))] []]
def H_least : List IS := [.ite (.cmp .isN (.var 2) (.con .none)) [.ret (.con (.bool true))] [], .ite (.not (.call 44 [.var 0, .var 2, .var 1])) [.ret (.con (.bool false))] [], .for_ (.nm 3) (.rng (.b1 .len (.var 2))) H_least_f1, .ret (.con (.bool true))]
def H_orders_f1 : List IS := [.ext 3 (.lc (.bin .add (.var 4) (.tup [.var 5])) (.nm 5) (.rng (.var 0)) (.cmp .nmem (.var 5) (.var 4)))]
def H_orders_f2 : List IS := [.own 3 (.lst []), .for_ (.nm 4) (.seq (.var 1)) H_orders_f1, .asg (.nm 1) (.var 3)]
def H_orders : List IS := [.asg (.nm 1) (.lst [.tup []]), .for_ (.nm 2) (.rng (.var 0)) H_orders_f2, .ret (.var 1)]
def H_goal_f1 : List IS := [.asg (.nm 2) (.call 73 [.sub (.sub (.sub (.var 0) (.con (.int 1))) (.var 3)) (.con (.int 0)), .var 2])]
def H_goal : List IS := [.for_ (.nm 3) (.seq (.var 1)) H_goal_f1, .ret (.var 2)]
def H_order_f1 : List IS := [.asg (.nm 6) (.call 70 [.var 0, .var 1, .b1 .len (.var 3)]), .app 4 (.sub (.var 3) (.var 6)), .asg (.nm 3) (.bin .add (.slc (.var 3) (.con .none) (.var 6)) (.slc (.var 3) (.bin .add (.var 6) (.con (.int 1))) (.con .none)))]
def H_order : List IS := [.par [(3, false), (4, true)] [.b1 .listRange (.var 2), .lst []], .for_ (.nm 5) (.rng (.var 2)) H_order_f1, .ret (.b1 .tuple (.var 4))]
def H_neighbours_f1 : List IS := [.asg (.nm 5) (.sub (.sub (.sub (.var 0) (.con (.int 1))) (.sub (.var 1) (.var 4))) (.con (.int 0))), .asg (.nm 6) (.sub (.sub (.sub (.var 0) (.con (.int 1))) (.sub (.var 1) (.bin .add (.var 4) (.con (.int 1))))) (.con (.int 0))), .asg (.nm 7) (.bin .add (.bin .add (.slc (.var 1) (.con .none) (.var 4)) (.tup [.sub (.var 1) (.bin .add (.var 4) (.con (.int 1))), .sub (.var 1) (.var 4)])) (.slc (.var 1) (.bin .add (.var 4) (.con (.int 2))) (.con .none))), .ite (.and (.cmp .isN (.call 15 [.sub (.var 0) (.con (.int 0)), .var 5, .var 6]) (.con .none)) (.cmp .ne (.cmp .mem (.var 1) (.var 3)) (.cmp .mem (.var 7) (.var 3)))) [.ret (.con (.bool false))] []]
def H_neighbours : List IS := [.asg (.nm 3) (.call 56 [.var 0, .var 2]), .for_ (.nm 4) (.rng (.bin .sub (.b1 .len (.var 1)) (.con (.int 1)))) H_neighbours_f1, .ret (.con (.bool true))]
def H_written_f1 : List IS := [.asg (.nm 1) (.bin .add (.bin .add (.bin .add (.var 1) (.call 105 [.var 2])) (.con (.str S____))) (.ite (.cmp .isN (.var 3) (.con .none)) (.con (.str S_none)) (.call 105 [.var 3]))), .asg (.nm 1) (.bin .add (.bin .add (.bin .add (.var 1) (.con (.str S____))) (.ite (.var 4) (.con (.str S_may_refuse)) (.con (.str S_sure)))) (.con (.str S___5)))]
def H_written : List IS := [.asg (.nm 1) (.bin .add (.bin .add (.bin .add (.bin .add (.con (.str S_items_)) (.b1 .str (.sub (.var 0) (.con (.int 0))))) (.con (.str S___))) (.sub (.var 0) (.con (.int 2)))) (.con (.str S___5))), .for_ (.tp [(.nm 2), (.nm 3), (.nm 4)]) (.seq (.sub (.var 0) (.con (.int 1)))) H_written_f1, .ret (.var 1)]
def H_changed : List IS := [.par [(3, false), (4, false)] [.call 70 [.var 0, .var 1, .bin .add (.b1 .len (.var 2)) (.con (.int 1))], .sub (.con (.str S_0123_______as)) (.call 70 [.var 0, .var 1, .con (.int 13)])], .asg (.nm 5) (.lst [.bin .add (.bin .add (.slc (.var 2) (.con .none) (.var 3)) (.var 4)) (.slc (.var 2) (.var 3) (.con .none)), .bin .add (.slc (.var 2) (.con .none) (.var 3)) (.slc (.var 2) (.bin .add (.var 3) (.con (.int 1))) (.con .none))]), .ret (.sub (.bin .add (.var 5) (.lst [.bin .add (.bin .add (.slc (.var 2) (.con .none) (.var 3)) (.var 4)) (.slc (.var 2) (.bin .add (.var 3) (.con (.int 1))) (.con .none))])) (.call 70 [.var 0, .var 1, .con (.int 3)]))]
def H_counter : List IS := [.par [(1, false), (2, false)] [.tup [.tup [.con (.str S_add), .con (.int 0), .var 0]], .tup [.tup [.con (.str S_add), .con (.int 0), .bin .sub (.con (.int 3)) (.var 0)]]], .par [(3, false), (4, false)] [.tup [.con (.int 1), .tup [.tup [.var 1, .var 2, .con (.bool true)]], .con (.str S_again)], .tup [.con (.int 1), .tup [.tup [.var 1, .var 2, .con (.bool true)]], .con (.str S_back)]], .ite (.cmp .ne (.call 45 [.var 3, .tup [], .tup [.con (.int 0)]]) (.tup [.tup [.con (.str S_do), .con (.int 0), .con (.str S_lost)], .tup [.con (.str S_do), .con (.int 0), .con (.str S_ok)]])) [.ret (.con (.bool false))] [], .ite (.cmp .ne (.call 46 [.var 3, .tup []]) (.tup [.tup [.con (.int 0)], .tup [.con (.int 1)], .tup [.con (.int 2)]])) [.ret (.con (.bool false))] [], .ite (.cmp .ne (.call 50 [.var 3]) (.tup [.tup [.con (.str S_do), .con (.int 0)]])) [.ret (.con (.bool false))] [], .ite (.cmp .ne (.call 50 [.var 4]) (.tup [.tup [.con (.str S_back), .con (.int 0)]])) [.ret (.con (.bool false))] [], .ite (.cmp .ne (.call 46 [.var 3, .tup [.tup [.con (.str S_do), .con (.int 0)]]]) (.tup [])) [.ret (.con (.bool false))] [], .ite (.or (.cmp .ne (.call 45 [.var 4, .tup [], .tup [.con (.int 1)]]) (.tup [.tup [.con (.str S_do), .con (.int 0), .con (.str S_missed)], .tup [.con (.str S_back), .con (.int 0), .con (.str S_ok)]])) (.call 51 [.var 4])) [.ret (.con (.bool false))] [], .ite (.cmp .ne (.call 47 [.var 3, .tup [.tup [.con (.str S_do), .con (.int 0)]], .tup [.con (.int 0)]]) (.tup [.tup [.con (.str S_done), .tup [.var 0]], .tup [.con (.str S_undone), .tup [.con (.int 0)]]])) [.ret (.con (.bool false))] [], .ret (.and (.cmp .eq (.call 20 [.con (.int 1), .var 1]) (.var 2)) (.and (.cmp .eq (.call 14 [.con (.int 1), .var 1]) (.tup [.con (.int 0)])) (.call 18 [.con (.int 1), .var 1])))]
def H_setter : List IS := [.asg (.nm 1) (.tup [.tup [.con (.str S_set), .con (.int 0), .var 0]]), .asg (.nm 2) (.tup [.con (.int 1), .tup [.tup [.var 1, .con .none, .con (.bool false)]], .con (.str S_again)]), .ite (.or (.cmp .ne (.call 46 [.var 2, .tup []]) (.tup [])) (.or (.cmp .notN (.call 20 [.con (.int 1), .var 1]) (.con .none)) (.cmp .notN (.call 14 [.con (.int 1), .var 1]) (.con .none)))) [.ret (.con (.bool false))] [], .asg (.nm 3) (.tup [.con (.int 1), .tup [.tup [.var 1, .con .none, .con (.bool false)]], .con (.str S_back)]), .ite (.or (.not (.call 51 [.var 3])) (.cmp .notN (.call 49 [.var 3, .tup [.con (.int 0)]]) (.con .none))) [.ret (.con (.bool false))] [], .ite (.cmp .ne (.call 40 [.var 3, .tup [], .tup [.con (.int 0)], .tup [.tup [.con (.str S_do), .con (.int 0), .con (.str S_missed)]]]) (.tup [.con (.str S_stuck), .tup [.con (.int 0)]])) [.ret (.con (.bool false))] [], .ret (.and (.cmp .eq (.call 16 [.con (.int 1), .var 1, .var 1]) (.ite (.cmp .gt (.var 0) (.con (.int 0))) (.tup [.con (.int 0)]) (.tup [.con (.int 1)]))) (.cmp .eq (.call 15 [.con (.int 1), .var 1, .tup [.tup [.con (.str S_add), .con (.int 0), .con (.int 1)]]]) (.tup [.con (.int 0)])))]
def H_booking : List IS := [.par [(0, false), (1, false)] [.tup [.tup [.tup [.con (.str S_set), .con (.int 0), .con (.int 1)]], .tup [.tup [.con (.str S_set), .con (.int 0), .con (.int 0)]], .con (.bool true)], .tup [.tup [.tup [.con (.str S_add), .con (.int 1), .con (.int 1)]], .tup [.tup [.con (.str S_add), .con (.int 1), .con (.int 2)]], .con (.bool true)]], .asg (.nm 2) (.tup [.con (.int 2), .tup [.var 0, .var 1], .con (.str S_again)]), .ite (.or (.call 44 [.var 2, .tup [], .tup [.con (.int 0), .con (.int 0)]]) (.not (.call 44 [.var 2, .tup [.tup [.con (.str S_do), .con (.int 0)], .tup [.con (.str S_do), .con (.int 1)]], .tup [.con (.int 0), .con (.int 0)]]))) [.ret (.con (.bool false))] [], .ite (.or (.cmp .ne (.call 49 [.var 2, .tup [.con (.int 0), .con (.int 0)]]) (.tup [.tup [.con (.str S_do), .con (.int 0)], .tup [.con (.str S_do), .con (.int 1)]])) (.not (.call 58 [.var 2]))) [.ret (.con (.bool false))] [], .ite (.cmp .ne (.call 45 [.var 2, .tup [.tup [.con (.str S_do), .con (.int 1)]], .tup [.con (.int 0), .con (.int 0)]]) (.tup [.tup [.con (.str S_do), .con (.int 0), .con (.str S_lost)], .tup [.con (.str S_do), .con (.int 0), .con (.str S_refused)]])) [.ret (.con (.bool false))] [], .ret (.and (.cmp .eq (.call 56 [.var 2, .tup [.con (.int 0), .con (.int 0)]]) (.tup [.tup [.con (.int 0), .con (.int 1)], .tup [.con (.int 1), .con (.int 0)]])) (.cmp .eq (.call 57 [.var 2, .tup [.con (.int 0), .con (.int 0)]]) (.tup [.tup [.con (.int 0), .con (.int 1)], .tup [.con (.int 1), .con (.int 0)]])))]
def H_named_f1 : List IS := [.asg (.nm 2) (.bin .add (.var 2) (.tup [.tup [.var 3, .sub (.var 0) (.var 4), .ite (.cmp .eq (.var 3) (.con (.str S_copy))) (.sub (.var 0) (.var 5)) (.var 5)]]))]
def H_named : List IS := [.asg (.nm 2) (.tup []), .for_ (.tp [(.nm 3), (.nm 4), (.nm 5)]) (.seq (.var 1)) H_named_f1, .ret (.var 2)]
def H_moved : List IS := [.ret (.b1 .tuple (.lc (.sub (.var 1) (.idx (.var 0) (.var 2))) (.nm 2) (.rng (.b1 .len (.var 1))) (.con (.bool true))))]
def H_back_f1 : List IS := [.asg (.nm 3) (.sub (.sub (.sub (.var 0) (.con (.int 1))) (.var 1)) (.con (.int 1))), .ite (.cmp .isN (.var 3) (.con .none)) [.ret (.tup [.con (.str S_stuck), .var 2])] [], .asg (.nm 2) (.call 10 [.sub (.var 0) (.con (.int 0)), .var 3, .var 2]), .asg (.nm 1) (.bin .sub (.var 1) (.con (.int 1)))]
def H_back : List IS := [.while_ (.cmp .ge (.var 1) (.con (.int 0))) H_back_f1, .ret (.tup [.con (.str S_undone), .var 2])]
def H_listed_f1 : List IS := [.ite (.sub (.var 5) (.con (.int 2))) [.app 2 (.call 114 [.var 0, .bin .sub (.var 4) (.con (.int 1)), .var 3])] [], .asg (.nm 6) (.call 10 [.sub (.var 0) (.con (.int 0)), .sub (.var 5) (.con (.int 0)), .var 3]), .ite (.cmp .eq (.sub (.var 0) (.con (.int 2))) (.con (.str S_back))) [.app 2 (.call 114 [.var 0, .var 4, .var 6]), .app 2 (.ite (.cmp .isN (.sub (.var 5) (.con (.int 1))) (.con .none)) (.tup [.con (.str S_stuck), .var 3]) (.call 114 [.var 0, .bin .sub (.var 4) (.con (.int 1)), .var 3]))] [], .asg (.nm 3) (.var 6)]
def H_listed : List IS := [.par [(2, true), (3, false)] [.lst [], .var 1], .for_ (.tp [(.nm 4), (.nm 5)]) (.enu (.sub (.var 0) (.con (.int 1)))) H_listed_f1, .ret (.b1 .sortedSet (.bin .add (.var 2) (.lst [.tup [.con (.str S_done), .var 3]])))]
def H_repeated : List IS := [.asg (.nm 2) (.lc (.var 3) (.tp [(.nm 3), (.nm 4)]) (.enu (.var 1)) (.cmp .notN (.call 14 [.var 0, .sub (.var 4) (.con (.int 0))]) (.con .none))), .ret (.b1 .tuple (.lc (.tup [.con (.str S_do), .var 3]) (.nm 3) (.seq (.var 2)) (.con (.bool true))))]
def H_calmer : List IS := [.asg (.nm 3) (.b1 .tuple (.lc (.tup [.sub (.var 4) (.con (.int 0)), .sub (.var 4) (.con (.int 1)), .and (.sub (.var 4) (.con (.int 2))) (.cmp .eq (.call 70 [.var 0, .var 1, .con (.int 2)]) (.con (.int 0)))]) (.nm 4) (.seq (.sub (.var 2) (.con (.int 1)))) (.con (.bool true)))), .ret (.tup [.sub (.var 2) (.con (.int 0)), .var 3, .sub (.var 2) (.con (.int 2))])]
def H_calm : List IS := [.asg (.nm 3) (.tup [.sub (.var 0) (.con (.int 0)), .b1 .tuple (.lc (.tup [.sub (.var 4) (.con (.int 0)), .sub (.var 4) (.con (.int 1)), .con (.bool false)]) (.nm 4) (.seq (.sub (.var 0) (.con (.int 1)))) (.con (.bool true))), .con (.str S_again)]), .asg (.nm 5) (.call 47 [.var 3, .var 1, .var 2]), .ite (.or (.cmp .ne (.lc (.var 6) (.tp [(.nm 6), (.nm 7)]) (.seq (.var 5)) (.cmp .ne (.var 6) (.con (.str S_done)))) (.lst [])) (.cmp .isN (.cmp .mem (.tup [.con (.str S_done), .call 30 [.var 0, .var 2]]) (.var 5)) (.con (.bool false)))) [.ret (.con (.bool false))] [], .asg (.nm 8) (.cmp .eq (.var 5) (.tup [.tup [.con (.str S_done), .call 30 [.var 0, .var 2]]])), .ret (.and (.not (.call 51 [.var 3])) (.cmp .eq (.call 44 [.var 3, .var 1, .var 2]) (.var 8)))]
def progT : Nat → Option Fn
  | 0 => some (.py ["value", "low", "high"] 3 B_is_between)
  | 1 => some (.py ["values", "one", "other"] 1 B_is_ascending)
  | 2 => some (.py ["items"] 1 B_check_items)
  | 3 => some (.py ["items", "value", "one"] 2 B_is_state_of)
  | 4 => some (.py ["items", "value"] 2 B_is_state)
  | 5 => some (.py ["items", "value"] 2 B_is_operation)
  | 6 => some (.py ["items", "value", "one"] 2 B_is_action_of)
  | 7 => some (.py ["items", "value"] 2 B_is_action)
  | 8 => some (.py ["items", "action"] 2 B_check_action)
  | 9 => some (.py ["action", "state", "found", "name", "item", "value"] 2 B_applied)
  | 10 => some (.py ["items", "action", "state"] 3 B_after)
  | 11 => some (.py ["items", "rows", "turn", "longer", "row", "value"] 1 B_states_of)
  | 12 => some (.py ["items"] 1 B_all_states)
  | 13 => some (.py ["items", "one", "other", "state"] 3 B_first_unlike)
  | 14 => some (.py ["items", "action"] 2 B_repeat_state)
  | 15 => some (.py ["items", "one", "other"] 3 B_exchange_state)
  | 16 => some (.py ["items", "action", "back"] 3 B_back_state)
  | 17 => some (.py ["items", "action", "some", "state"] 2 B_loses_nothing)
  | 18 => some (.py ["items", "action"] 2 B_is_reversible)
  | 19 => some (.py ["items", "found", "item", "value", "other"] 1 B_operations_of)
  | 20 => some (.py ["items", "action", "rows", "turn", "back", "longer", "operation"] 2 B_way_back)
  | 21 => some (.py ["items", "value"] 2 B_is_step)
  | 22 => some (.py ["value", "items", "steps", "rule", "one"] 1 B_is_plan)
  | 23 => some (.py ["plan"] 1 B_check_plan)
  | 24 => some (.py ["plan", "some", "at", "step"] 1 B_calls_of)
  | 25 => some (.py ["plan", "value"] 2 B_is_call)
  | 26 => some (.py ["plan", "guards", "one"] 2 B_check_guards)
  | 27 => some (.py ["plan", "start"] 2 B_check_start)
  | 28 => some (.py ["plan"] 1 B_all_guards)
  | 29 => some (.py ["plan", "start", "state", "step"] 2 B_goal_of)
  | 30 => some (.py ["plan", "start"] 2 B_goal)
  | 31 => some (.py ["plan", "guards", "call", "made", "kind", "at"] 4 B_outcomes_of)
  | 32 => some (.py ["plan", "at"] 2 B_taking_back)
  | 33 => some (.py ["plan", "call", "outcome", "kind", "at"] 3 B_next_of)
  | 34 => some (.py ["guards", "call", "made"] 3 B_has_effect)
  | 35 => some (.py ["plan", "guards", "call", "made", "state", "step"] 5 B_called)
  | 36 => some (.py ["plan", "guards", "call", "made", "state", "outcome"] 6 B_moved)
  | 37 => some (.py ["value"] 1 B_is_event)
  | 38 => some (.py ["plan", "guards", "start", "run", "here", "made", "state", "event"] 4 B_followed)
  | 39 => some (.py ["plan", "guards", "value"] 3 B_is_run)
  | 40 => some (.py ["plan", "guards", "start", "run", "found"] 4 B_run_end)
  | 41 => some (.py ["plan", "start", "end"] 3 B_is_good_end)
  | 42 => some (.py ["plan", "guards", "start", "begin", "known", "level", "found", "further", "run", "here", "made", "state", "outcome", "there", "longer", "end", "best"] 3 B_found_ends)
  | 43 => some (.py ["plan", "guards", "start", "end"] 3 B_are_good)
  | 44 => some (.py ["plan", "guards", "start"] 3 B_ends_clean)
  | 45 => some (.py ["plan", "guards", "start", "known", "rows", "end"] 3 B_bad_run)
  | 46 => some (.py ["plan", "guards", "start"] 2 B_bad_starts)
  | 47 => some (.py ["plan", "guards", "start"] 3 B_ends)
  | 48 => some (.py ["plan", "rows", "call", "row", "size"] 1 B_guards_in)
  | 49 => some (.py ["plan", "start", "guards"] 2 B_fewest_guards)
  | 50 => some (.py ["plan", "some", "guards", "start"] 1 B_guards_for_all)
  | 51 => some (.py ["plan", "end"] 1 B_can_get_stuck)
  | 52 => some (.py ["plan", "order", "at"] 2 B_in_order)
  | 53 => some (.py ["plan", "order", "many", "at"] 2 B_reordered)
  | 54 => some (.py ["plan", "rows", "turn", "longer", "row", "at"] 1 B_orders_of)
  | 55 => some (.py ["plan", "start", "due", "order"] 2 B_same_goal)
  | 56 => some (.py ["plan", "start"] 2 B_goal_orders)
  | 57 => some (.py ["plan", "start", "found", "order", "there"] 2 B_clean_orders)
  | 58 => some (.py ["plan", "start"] 1 B_is_settled)
  | 60 => some (.py ["items", "action"] 2 B_format_action)
  | 63 => some (.py ["plan"] 1 B_format_plan)
  | 66 => some (.py ["items", "text", "action"] 2 B_parse_action)
  | _ => none
def D_FIRST : PyData := .tuple [.str S_do, .int 0]
def D_UNANSWERED : PyData := .tuple [.str S_lost, .str S_missed]
def progG : Nat → Option PyData
  | 0 => some D_UNANSWERED
  | 1 => some D_FIRST
  | _ => none
end Bk
namespace Bk
open PySem
section
variable {α β : Type}
@[simp] theorem bnd_ok (a : α) (t : Town) (f : α → Town → R β) : R.bnd (.ok a t) f = f a t := rfl
@[simp] theorem bnd_exc (c : Nat) (t : Town) (f : α → Town → R β) : R.bnd (.exc c t) f = .exc c t := rfl
@[simp] theorem bnd_bad (f : α → Town → R β) : R.bnd .bad f = .bad := rfl
@[simp] theorem bind_at (m : M α) (f : α → M β) (t : Town) : (m >>= f) t = R.bnd (m t) f := rfl
@[simp] theorem pure_at' (a : α) (t : Town) : (pure a : M α) t = .ok a t := rfl
@[simp] theorem fail_at' (t : Town) : (M.fail : M α) t = .bad := rfl
@[simp] theorem raise_at' (c : Nat) (t : Town) : (M.raise c : M α) t = .exc c t := rfl
@[simp] theorem opt_some (a : α) (t : Town) : (M.opt (some a)) t = .ok a t := rfl
@[simp] theorem opt_none (t : Town) : (M.opt (none : Option α)) t = .bad := rfl
@[simp] theorem ite_at (c : Prop) [Decidable c] (m m' : M α) (t : Town) : (if c then m else m') t = if c then m t else m' t := by split <;> rfl
end
@[simp] theorem asD_at (x : PyData) (t : Town) : asD (.d x) t = .ok x t := rfl
@[simp] theorem asB_at (b : Bool) (t : Town) : asB (.d (.bool b)) t = .ok b t := rfl
@[simp] theorem asI_at (i : Int) (t : Town) : asI (.d (.int i)) t = .ok (some i) t := rfl
theorem asP_at {x : PyData} (h : isDict x = false) (t : Town) : asP (.d x) t = .ok x t := by
  show (if isDict x = true then M.fail else pure x : M PyData) t = _
  rw [h]
  rfl
@[simp] theorem asP_int (i : Int) (t : Town) : asP (.d (.int i)) t = .ok (.int i) t := rfl
@[simp] theorem asP_bool (i : Bool) (t : Town) : asP (.d (.bool i)) t = .ok (.bool i) t := rfl
@[simp] theorem asP_str (i : Str) (t : Town) : asP (.d (.str i)) t = .ok (.str i) t := rfl
@[simp] theorem asP_none (t : Town) : asP (.d .none) t = .ok .none t := rfl
@[simp] theorem asP_tup (i : List PyData) (t : Town) : asP (.d (.tuple i)) t = .ok (.tuple i) t := rfl
@[simp] theorem asP_lst (i : List PyData) (t : Town) : asP (.d (.list i)) t = .ok (.list i) t := rfl
@[simp] theorem noX_at {α : Type} (m : M α) (t : Town) : M.noX m t = R.noX (m t) := rfl
@[simp] theorem noX_ok {α : Type} (a : α) (t : Town) : R.noX (.ok a t) = .ok a t := rfl
@[simp] theorem slot0 (a : Slot) (l : Ev) : slotAt (a :: l) 0 = a := rfl
@[simp] theorem slot1 (a b : Slot) (l : Ev) : slotAt (a :: b :: l) 1 = b := rfl
@[simp] theorem slot2 (a b c : Slot) (l : Ev) : slotAt (a :: b :: c :: l) 2 = c := rfl
@[simp] theorem slot3 (a b c d : Slot) (l : Ev) : slotAt (a :: b :: c :: d :: l) 3 = d := rfl
@[simp] theorem slot4 (a b c d e : Slot) (l : Ev) : slotAt (a :: b :: c :: d :: e :: l) 4 = e := rfl
@[simp] theorem slot5 (a b c d e f : Slot) (l : Ev) : slotAt (a :: b :: c :: d :: e :: f :: l) 5 = f := rfl
@[simp] theorem slot6 (a b c d e f g : Slot) (l : Ev) : slotAt (a :: b :: c :: d :: e :: f :: g :: l) 6 = g := rfl
@[simp] theorem slot7 (a b c d e f g h : Slot) (l : Ev) : slotAt (a :: b :: c :: d :: e :: f :: g :: h :: l) 7 = h := rfl
@[simp] theorem slot_more (a b c d e f g h : Slot) (l : Ev) (n : Nat) : slotAt (a :: b :: c :: d :: e :: f :: g :: h :: l) (n + 8) = slotAt l n := rfl
section
variable (gl : Nat → Option PyData) (φ : Nat → List Val → M Val) (ρ : Ev) (t : Town) (fu : Nat)
/-- what stands in a slot -/
def rdS : Slot → Town → R Val
  | .val v, t => .ok v t
  | .own x, t => if isTup x = true then .bad else .ok (.d x) t
  | .emp, _ => .bad
@[simp] theorem rdS_val (v : Val) : rdS (.val v) t = .ok v t := rfl
@[simp] theorem rdS_ownL (x : List PyData) : rdS (.own (.list x)) t = .ok (.d (.list x)) t := rfl
@[simp] theorem rdS_ownD (x : List (PyData × PyData)) : rdS (.own (.dict x)) t = .ok (.d (.dict x)) t := rfl
@[simp] theorem ev_con (x : PyData) : ev gl φ (.con x) ρ t = .ok (.d x) t := rfl
@[simp] theorem ev_glo (x : Nat) : ev gl φ (.glo x) ρ t = R.bnd (M.opt (gl x) t) fun v t => .ok (.d v) t := rfl
@[simp] theorem ev_var (i : Nat) : ev gl φ (.var i) ρ t = rdS (slotAt ρ i) t := by
  show (match slotAt ρ i with
    | .val v => pure v
    | .own x => if isTup x = true then M.fail else pure (.d x)
    | .emp => M.fail : M Val) t = _
  cases slotAt ρ i with
  | own x =>
    show (if isTup x = true then M.fail else pure (.d x) : M Val) t = if isTup x = true then .bad else .ok (.d x) t
    rw [ite_at]
    rfl
  | _ => rfl
@[simp] theorem ev_bin (op : BOp) (a b : IE) : ev gl φ (.bin op a b) ρ t = R.bnd ((ev gl φ a ρ >>= asD) t) fun x t => R.bnd ((ev gl φ b ρ >>= asD) t) fun y t => R.bnd (M.opt (binD op x y) t) fun z t => .ok (.d z) t := rfl
@[simp] theorem ev_cmp (op : COp) (a b : IE) : ev gl φ (.cmp op a b) ρ t = R.bnd ((ev gl φ a ρ >>= asD) t) fun x t => R.bnd ((ev gl φ b ρ >>= asD) t) fun y t => R.bnd (M.opt (cmpD op x y) t) fun z t => .ok (.d (.bool z)) t := rfl
@[simp] theorem ev_chn (p q : COp) (a b c : IE) : ev gl φ (.chn p q a b c) ρ t = R.bnd ((ev gl φ a ρ >>= asD) t) fun x t => R.bnd ((ev gl φ b ρ >>= asD) t) fun y t => R.bnd (M.opt (cmpD p x y) t) fun k t =>
    if k = true then R.bnd ((ev gl φ c ρ >>= asD) t) fun z t => R.bnd (M.opt (cmpD q y z) t) fun l t => .ok (.d (.bool l)) t else .ok (.d (.bool false)) t := by
  show R.bnd _ _ = _
  congr 1; funext x t; show R.bnd _ _ = _; congr 1; funext y t; show R.bnd _ _ = _; congr 1; funext k t
  rw [ite_at]
  rfl
@[simp] theorem ev_and (a b : IE) : ev gl φ (.and a b) ρ t = R.bnd ((ev gl φ a ρ >>= asB) t) fun k t => if k = true then R.bnd ((ev gl φ b ρ >>= asB) t) (fun l t => .ok (.d (.bool l)) t) else .ok (.d (.bool false)) t := by
  show R.bnd _ _ = _
  congr 1; funext k t
  rw [ite_at]
  rfl
@[simp] theorem ev_or (a b : IE) : ev gl φ (.or a b) ρ t = R.bnd ((ev gl φ a ρ >>= asB) t) fun k t => if k = true then .ok (.d (.bool true)) t else R.bnd ((ev gl φ b ρ >>= asB) t) (fun l t => .ok (.d (.bool l)) t) := by
  show R.bnd _ _ = _
  congr 1; funext k t
  rw [ite_at]
  rfl
@[simp] theorem ev_not (a : IE) : ev gl φ (.not a) ρ t = R.bnd ((ev gl φ a ρ >>= asB) t) fun k t => .ok (.d (.bool (!k))) t := rfl
@[simp] theorem ev_ite (c a b : IE) : ev gl φ (.ite c a b) ρ t = R.bnd ((ev gl φ c ρ >>= asB) t) fun k t => if k = true then (if isOwn a ρ = true then .bad else ev gl φ a ρ t) else (if isOwn b ρ = true then .bad else ev gl φ b ρ t) := by
  show R.bnd _ _ = _
  congr 1; funext k t
  rw [ite_at, ite_at, ite_at]
  rfl
@[simp] theorem ev_neg (i : Int) : ev gl φ (.neg (.con (.int i))) ρ t = .ok (.d (.int (-i))) t := rfl
@[simp] theorem ev_tup (es : List IE) : ev gl φ (.tup es) ρ t = R.bnd (evs gl φ es ρ t) fun xs t => .ok (.d (.tuple xs)) t := rfl
@[simp] theorem ev_lst (es : List IE) : ev gl φ (.lst es) ρ t = R.bnd (evs gl φ es ρ t) fun xs t => .ok (.d (.list xs)) t := rfl
@[simp] theorem ev_sub (a i : IE) : ev gl φ (.sub a i) ρ t = R.bnd ((ev gl φ a ρ >>= asD) t) fun x t => R.bnd ((ev gl φ i ρ >>= asD) t) fun y t => R.bnd (M.opt (subAt x y) t) fun z t => .ok (.d z) t := rfl
@[simp] theorem ev_slc (a lo hi : IE) : ev gl φ (.slc a lo hi) ρ t = R.bnd ((ev gl φ a ρ >>= asD) t) fun x t => R.bnd (if noneI lo = true then .ok none t else (ev gl φ lo ρ >>= asI) t) fun l t => R.bnd (if noneI hi = true then .ok none t else (ev gl φ hi ρ >>= asI) t) fun h t => R.bnd (M.opt (slcD x l h) t) fun z t => .ok (.d z) t := by
  show R.bnd _ _ = _
  congr 1; funext x t
  show R.bnd _ _ = _
  rw [ite_at]
  congr 1; funext l t
  show R.bnd _ _ = _
  rw [ite_at]
  rfl
@[simp] theorem ev_rev (a : IE) : ev gl φ (.rev a) ρ t = R.bnd ((ev gl φ a ρ >>= asD) t) fun x t => R.bnd (M.opt (revD x) t) fun z t => .ok (.d z) t := rfl
@[simp] theorem ev_call (f : Nat) (es : List IE) : ev gl φ (.call f es) ρ t = R.bnd (evv gl φ es ρ t) fun vs t => φ f vs t := rfl
@[simp] theorem ev_b1 (b : B1) (a : IE) : ev gl φ (.b1 b a) ρ t = R.bnd ((ev gl φ a ρ >>= asD) t) fun x t => R.bnd (M.opt (b1D b x) t) fun z t => .ok (.d z) t := rfl
@[simp] theorem ev_isi (T : Ty) (a : IE) : ev gl φ (.isi T a) ρ t = R.bnd ((ev gl φ a ρ >>= asP) t) fun x t => .ok (.d (.bool (isiD T x))) t := rfl
theorem ev_lc (e : IE) (tg : Tg) (it : It) (c : IE) : ev gl φ (.lc e tg it c) ρ t = R.bnd (evIt gl φ it ρ t) fun xs t => R.bnd (if sizeLine < xs.length then .bad else R.noX (lcGo (fun ρ' => if isOwn e ρ' = true then M.fail else ev gl φ e ρ') (fun ρ' => ev gl φ c ρ' >>= asB) tg (wipeE ρ (slotsT tg)) xs t)) fun ys t => .ok (.d (.list ys)) t := by
  show R.bnd _ _ = _
  congr 1; funext xs t
  rw [ite_at]
  split <;> rfl
@[simp] theorem evs_nil : evs gl φ [] ρ t = .ok [] t := rfl
@[simp] theorem evs_cons (e : IE) (es : List IE) : evs gl φ (e :: es) ρ t = R.bnd (R.bnd (if isOwn e ρ = true then .bad else ev gl φ e ρ t) fun v t => asP v t) fun v t => R.bnd (evs gl φ es ρ t) fun vs t => .ok (v :: vs) t := by
  show R.bnd (R.bnd _ _) _ = _
  rw [ite_at]
  rfl
@[simp] theorem evv_nil : evv gl φ [] ρ t = .ok [] t := rfl
@[simp] theorem evv_cons (e : IE) (es : List IE) : evv gl φ (e :: es) ρ t = R.bnd (if isOwn e ρ = true then .bad else ev gl φ e ρ t) fun v t => R.bnd (evv gl φ es ρ t) fun vs t => .ok (v :: vs) t := by
  show R.bnd _ _ = _
  rw [ite_at]
  rfl
@[simp] theorem evIt_seq (a : IE) : evIt gl φ (.seq a) ρ t = R.bnd (R.bnd (if isOwn a ρ = true then .bad else ev gl φ a ρ t) fun v t => asD v t) fun x t => M.opt (itemsD x) t := by
  show R.bnd (R.bnd _ _) _ = _
  rw [ite_at]
  rfl
@[simp] theorem evIt_rng (a : IE) : evIt gl φ (.rng a) ρ t = R.bnd (R.bnd (if isOwn a ρ = true then .bad else ev gl φ a ρ t) fun v t => asD v t) fun x t => M.opt (rangeD x) t := by
  show R.bnd (R.bnd _ _) _ = _
  rw [ite_at]
  rfl
@[simp] theorem isOwn_con (x : PyData) : isOwn (.con x) ρ = false := rfl
@[simp] theorem isOwn_glo (x : Nat) : isOwn (.glo x) ρ = false := rfl
@[simp] theorem isOwn_fnv (x : Nat) : isOwn (.fnv x) ρ = false := rfl
@[simp] theorem isOwn_neg (a : IE) : isOwn (.neg a) ρ = false := rfl
@[simp] theorem isOwn_bin (op : BOp) (a b : IE) : isOwn (.bin op a b) ρ = false := rfl
@[simp] theorem isOwn_cmp (op : COp) (a b : IE) : isOwn (.cmp op a b) ρ = false := rfl
@[simp] theorem isOwn_chn (op oq : COp) (a b c : IE) : isOwn (.chn op oq a b c) ρ = false := rfl
@[simp] theorem isOwn_and (a b : IE) : isOwn (.and a b) ρ = false := rfl
@[simp] theorem isOwn_or (a b : IE) : isOwn (.or a b) ρ = false := rfl
@[simp] theorem isOwn_not (a : IE) : isOwn (.not a) ρ = false := rfl
@[simp] theorem isOwn_tup (es : List IE) : isOwn (.tup es) ρ = false := rfl
@[simp] theorem isOwn_lst (es : List IE) : isOwn (.lst es) ρ = false := rfl
@[simp] theorem isOwn_sub (a i : IE) : isOwn (.sub a i) ρ = false := rfl
@[simp] theorem isOwn_slc (a lo hi : IE) : isOwn (.slc a lo hi) ρ = false := rfl
@[simp] theorem isOwn_rev (a : IE) : isOwn (.rev a) ρ = false := rfl
@[simp] theorem isOwn_call (g : Nat) (es : List IE) : isOwn (.call g es) ρ = false := rfl
@[simp] theorem isOwn_b1 (b : B1) (a : IE) : isOwn (.b1 b a) ρ = false := rfl
@[simp] theorem isOwn_isi (T : Ty) (a : IE) : isOwn (.isi T a) ρ = false := rfl
@[simp] theorem isOwn_min2 (a b : IE) : isOwn (.min2 a b) ρ = false := rfl
@[simp] theorem isOwn_lc (e : IE) (tg : Tg) (it : It) (c : IE) : isOwn (.lc e tg it c) ρ = false := rfl
@[simp] theorem isOwn_get (a k d : IE) : isOwn (.get a k d) ρ = false := rfl
@[simp] theorem isOwn_idx (a k : IE) : isOwn (.idx a k) ρ = false := rfl
@[simp] theorem isOwn_dsub (i : Nat) (k : IE) : isOwn (.dsub i k) ρ = false := rfl
@[simp] theorem isOwn_dis (es : List IE) : isOwn (.dis es) ρ = false := rfl
@[simp] theorem isOwn_ite (c a b : IE) : isOwn (.ite c a b) ρ = false := rfl
/-- an owned slot -/
def ownS : Slot → Bool
  | .own _ => true
  | _ => false
@[simp] theorem ownS_val (v : Val) : ownS (.val v) = false := rfl
@[simp] theorem ownS_own (v : PyData) : ownS (.own v) = true := rfl
@[simp] theorem ownS_emp : ownS .emp = false := rfl
@[simp] theorem isOwn_var (i : Nat) : isOwn (.var i) ρ = ownS (slotAt ρ i) := by
  show (match slotAt ρ i with
    | .own _ => true
    | _ => false) = _
  cases slotAt ρ i <;> rfl
/-- a slot's value for a name: owned ones are frozen -/
def rdA (i : Nat) (ρ : Ev) : Slot → Town → R (Val × Ev)
  | .val v, t => .ok (v, ρ) t
  | .own x, t => if isTup x = true then .bad else .ok (.d x, ρ.set i (.val (.d x))) t
  | .emp, _ => .bad
@[simp] theorem rdA_val (i : Nat) (v : Val) : rdA i ρ (.val v) t = .ok (v, ρ) t := rfl
@[simp] theorem rdA_ownL (i : Nat) (x : List PyData) : rdA i ρ (.own (.list x)) t = .ok (.d (.list x), ρ.set i (.val (.d (.list x)))) t := rfl
@[simp] theorem rdA_ownD (i : Nat) (x : List (PyData × PyData)) : rdA i ρ (.own (.dict x)) t = .ok (.d (.dict x), ρ.set i (.val (.d (.dict x)))) t := rfl
@[simp] theorem evA_var (i : Nat) : evA gl φ (.var i) ρ t = rdA i ρ (slotAt ρ i) t := by
  show (match slotAt ρ i with
    | .val v => pure (v, ρ)
    | .own x => if isTup x = true then M.fail else pure (.d x, ρ.set i (.val (.d x)))
    | .emp => M.fail : M (Val × Ev)) t = _
  cases slotAt ρ i with
  | own x =>
    show (if isTup x = true then M.fail else pure (.d x, ρ.set i (.val (.d x))) : M (Val × Ev)) t = if isTup x = true then .bad else .ok (.d x, ρ.set i (.val (.d x))) t
    rw [ite_at]
    rfl
  | _ => rfl
@[simp] theorem evA_ite (c a b : IE) : evA gl φ (.ite c a b) ρ t = R.bnd ((ev gl φ c ρ >>= asB) t) fun k t => if k = true then evA gl φ a ρ t else evA gl φ b ρ t := by
  show R.bnd _ _ = _
  congr 1; funext k t
  rw [ite_at]
@[simp] theorem evA_con (x : PyData) : evA gl φ (.con x) ρ t = R.bnd (ev gl φ (.con x) ρ t) fun v t => .ok (v, ρ) t := rfl
@[simp] theorem evA_glo (x : Nat) : evA gl φ (.glo x) ρ t = R.bnd (ev gl φ (.glo x) ρ t) fun v t => .ok (v, ρ) t := rfl
@[simp] theorem evA_fnv (x : Nat) : evA gl φ (.fnv x) ρ t = R.bnd (ev gl φ (.fnv x) ρ t) fun v t => .ok (v, ρ) t := rfl
@[simp] theorem evA_neg (a : IE) : evA gl φ (.neg a) ρ t = R.bnd (ev gl φ (.neg a) ρ t) fun v t => .ok (v, ρ) t := rfl
@[simp] theorem evA_bin (op : BOp) (a b : IE) : evA gl φ (.bin op a b) ρ t = R.bnd (ev gl φ (.bin op a b) ρ t) fun v t => .ok (v, ρ) t := rfl
@[simp] theorem evA_cmp (op : COp) (a b : IE) : evA gl φ (.cmp op a b) ρ t = R.bnd (ev gl φ (.cmp op a b) ρ t) fun v t => .ok (v, ρ) t := rfl
@[simp] theorem evA_chn (op oq : COp) (a b c : IE) : evA gl φ (.chn op oq a b c) ρ t = R.bnd (ev gl φ (.chn op oq a b c) ρ t) fun v t => .ok (v, ρ) t := rfl
@[simp] theorem evA_and (a b : IE) : evA gl φ (.and a b) ρ t = R.bnd (ev gl φ (.and a b) ρ t) fun v t => .ok (v, ρ) t := rfl
@[simp] theorem evA_or (a b : IE) : evA gl φ (.or a b) ρ t = R.bnd (ev gl φ (.or a b) ρ t) fun v t => .ok (v, ρ) t := rfl
@[simp] theorem evA_not (a : IE) : evA gl φ (.not a) ρ t = R.bnd (ev gl φ (.not a) ρ t) fun v t => .ok (v, ρ) t := rfl
@[simp] theorem evA_tup (es : List IE) : evA gl φ (.tup es) ρ t = R.bnd (ev gl φ (.tup es) ρ t) fun v t => .ok (v, ρ) t := rfl
@[simp] theorem evA_lst (es : List IE) : evA gl φ (.lst es) ρ t = R.bnd (ev gl φ (.lst es) ρ t) fun v t => .ok (v, ρ) t := rfl
@[simp] theorem evA_sub (a i : IE) : evA gl φ (.sub a i) ρ t = R.bnd (ev gl φ (.sub a i) ρ t) fun v t => .ok (v, ρ) t := rfl
@[simp] theorem evA_slc (a lo hi : IE) : evA gl φ (.slc a lo hi) ρ t = R.bnd (ev gl φ (.slc a lo hi) ρ t) fun v t => .ok (v, ρ) t := rfl
@[simp] theorem evA_rev (a : IE) : evA gl φ (.rev a) ρ t = R.bnd (ev gl φ (.rev a) ρ t) fun v t => .ok (v, ρ) t := rfl
@[simp] theorem evA_call (g : Nat) (es : List IE) : evA gl φ (.call g es) ρ t = R.bnd (ev gl φ (.call g es) ρ t) fun v t => .ok (v, ρ) t := rfl
@[simp] theorem evA_b1 (b : B1) (a : IE) : evA gl φ (.b1 b a) ρ t = R.bnd (ev gl φ (.b1 b a) ρ t) fun v t => .ok (v, ρ) t := rfl
@[simp] theorem evA_isi (T : Ty) (a : IE) : evA gl φ (.isi T a) ρ t = R.bnd (ev gl φ (.isi T a) ρ t) fun v t => .ok (v, ρ) t := rfl
@[simp] theorem evA_min2 (a b : IE) : evA gl φ (.min2 a b) ρ t = R.bnd (ev gl φ (.min2 a b) ρ t) fun v t => .ok (v, ρ) t := rfl
@[simp] theorem evA_lc (e : IE) (tg : Tg) (it : It) (c : IE) : evA gl φ (.lc e tg it c) ρ t = R.bnd (ev gl φ (.lc e tg it c) ρ t) fun v t => .ok (v, ρ) t := rfl
@[simp] theorem evA_get (a k d : IE) : evA gl φ (.get a k d) ρ t = R.bnd (ev gl φ (.get a k d) ρ t) fun v t => .ok (v, ρ) t := rfl
@[simp] theorem evA_idx (a k : IE) : evA gl φ (.idx a k) ρ t = R.bnd (ev gl φ (.idx a k) ρ t) fun v t => .ok (v, ρ) t := rfl
@[simp] theorem evA_dsub (i : Nat) (k : IE) : evA gl φ (.dsub i k) ρ t = R.bnd (ev gl φ (.dsub i k) ρ t) fun v t => .ok (v, ρ) t := rfl
@[simp] theorem evA_dis (es : List IE) : evA gl φ (.dis es) ρ t = R.bnd (ev gl φ (.dis es) ρ t) fun v t => .ok (v, ρ) t := rfl
@[simp] theorem evItA_seq (a : IE) : evItA gl φ (.seq a) ρ t = R.bnd (evA gl φ a ρ t) fun p t => R.bnd (asD p.1 t) fun x t => R.bnd (M.opt (itemsD x) t) fun xs t => .ok (xs, p.2) t := rfl
@[simp] theorem evItA_rng (a : IE) : evItA gl φ (.rng a) ρ t = R.bnd (evIt gl φ (.rng a) ρ t) fun xs t => .ok (xs, ρ) t := rfl
@[simp] theorem evItA_enu (a : IE) : evItA gl φ (.enu a) ρ t = R.bnd (evIt gl φ (.enu a) ρ t) fun xs t => .ok (xs, ρ) t := rfl
@[simp] theorem ex_asg (tg : Tg) (e : IE) : ex gl φ fu (.asg tg e) ρ t = R.bnd (evA gl φ e ρ t) fun p t => R.bnd (M.opt (setTg tg p.1 p.2) t) fun ρ' t => .ok (.next ρ') t := rfl
@[simp] theorem ex_own (i : Nat) (e : IE) : ex gl φ fu (.own i e) ρ t = if fresh e = true then R.bnd (ev gl φ e ρ t) fun v t => R.bnd (M.opt (setOwn i v ρ) t) fun ρ' t => .ok (.next ρ') t else .bad := by
  show (if fresh e = true then _ else M.fail : M Fl) t = _
  rw [ite_at]
  rfl
@[simp] theorem ex_par (ts : List (Nat × Bool)) (es : List IE) : ex gl φ fu (.par ts es) ρ t = R.bnd (evPar gl φ ts es ρ t) fun vs t => R.bnd (M.opt (setPar ts vs ρ) t) fun ρ' t => .ok (.next ρ') t := rfl
@[simp] theorem evPar_nil : evPar gl φ [] [] ρ t = .ok [] t := rfl
@[simp] theorem evPar_cons (i : Nat) (o : Bool) (ts : List (Nat × Bool)) (e : IE) (es : List IE) : evPar gl φ ((i, o) :: ts) (e :: es) ρ t = R.bnd (if o = true then (if fresh e = true then ev gl φ e ρ t else .bad) else (if isOwn e ρ = true then .bad else ev gl φ e ρ t)) fun v t => R.bnd (evPar gl φ ts es ρ t) fun vs t => .ok (v :: vs) t := by
  show R.bnd _ _ = _
  rw [ite_at, ite_at, ite_at]
  rfl
@[simp] theorem ex_expr (e : IE) : ex gl φ fu (.expr e) ρ t = R.bnd (ev gl φ e ρ t) fun _ t => .ok (.next ρ) t := rfl
@[simp] theorem ex_ret (e : IE) : ex gl φ fu (.ret e) ρ t = R.bnd (evA gl φ e ρ t) fun p t => .ok (.ret p.1) t := rfl
@[simp] theorem ex_ite (c : IE) (a b : List IS) : ex gl φ fu (.ite c a b) ρ t = R.bnd ((ev gl φ c ρ >>= asB) t) fun k t => if k = true then exs gl φ fu a ρ t else exs gl φ fu b ρ t := by
  show R.bnd _ _ = _
  congr 1; funext k t
  rw [ite_at]
@[simp] theorem ex_raise (c : Nat) : ex gl φ fu (.raise c) ρ t = .exc c t := rfl
theorem ex_for (tg : Tg) (it : It) (b : List IS) : ex gl φ fu (.for_ tg it b) ρ t = R.noX (R.bnd (evItA gl φ it ρ t) fun p t => forGo (fun ρ' => exs gl φ fu b ρ') tg p.1 p.2 t) := by
  show M.noX _ t = _
  rw [noX_at]
  rfl
theorem ex_while (c : IE) (b : List IS) : ex gl φ fu (.while_ c b) ρ t = R.noX (whGo (fun ρ' => ev gl φ c ρ' >>= asB) (fun ρ' => exs gl φ fu b ρ') fu ρ t) := by
  show M.noX _ t = _
  rw [noX_at]
/-- behind a statement -/
def R.seq (r : R Fl) (f : Ev → Town → R Fl) : R Fl := R.bnd r fun fl t => match fl with
  | .next ρ' => f ρ' t
  | .ret v => .ok (.ret v) t
@[simp] theorem seq_next (ρ' : Ev) (f : Ev → Town → R Fl) : R.seq (.ok (.next ρ') t) f = f ρ' t := rfl
@[simp] theorem seq_ret (v : Val) (f : Ev → Town → R Fl) : R.seq (.ok (.ret v) t) f = .ok (.ret v) t := rfl
@[simp] theorem seq_exc (c : Nat) (f : Ev → Town → R Fl) : R.seq (.exc c t) f = .exc c t := rfl
@[simp] theorem exs_nil : exs gl φ fu [] ρ t = .ok (.next ρ) t := rfl
@[simp] theorem exs_cons (s : IS) (ss : List IS) : exs gl φ fu (s :: ss) ρ t = R.seq (ex gl φ fu s ρ t) fun ρ' t => exs gl φ fu ss ρ' t := by
  show R.bnd _ _ = _
  unfold R.seq
  congr 1; funext fl t
  cases fl <;> rfl
@[simp] theorem endV_next : endV (.next ρ) t = .ok (.d .none) t := rfl
@[simp] theorem endV_ret (v : Val) : endV (.ret v) t = .ok v t := rfl
theorem setI_own (i : Nat) (k v : IE) (x : PyData) (h : slotAt ρ i = .own x) : ex gl φ fu (.setI i k v) ρ t = R.bnd (R.bnd (if isOwn v ρ = true then .bad else ev gl φ v ρ t) fun v t => asP v t) fun z t => R.bnd (R.bnd (if isOwn k ρ = true then .bad else ev gl φ k ρ t) fun v t => asP v t) fun y t => R.bnd (M.opt (putItem x y z) t) fun x' t => .ok (.next (ρ.set i (.own x'))) t := by
  show R.bnd (R.bnd _ _) _ = _
  rw [ite_at]
  congr 1; funext z t
  rw [h]
  show R.bnd (R.bnd _ _) _ = _
  rw [ite_at]
  rfl
theorem app_own (i : Nat) (e : IE) (xs : List PyData) (h : slotAt ρ i = .own (.list xs)) : ex gl φ fu (.app i e) ρ t = R.bnd (R.bnd (if isOwn e ρ = true then .bad else ev gl φ e ρ t) fun v t => asP v t) fun z t => if xs.length < sizeLine then .ok (.next (ρ.set i (.own (.list (xs ++ [z]))))) t else .bad := by
  show (match slotAt ρ i with
    | .own (.list xs) => (do
      let z ← (if isOwn e ρ = true then M.fail else ev gl φ e ρ) >>= asP
      if xs.length < sizeLine then pure (.next (ρ.set i (.own (.list (xs ++ [z]))))) else M.fail)
    | _ => M.fail : M Fl) t = _
  rw [h]
  show R.bnd (R.bnd _ _) _ = _
  rw [ite_at]
  congr 1; funext z t
  rw [ite_at]
  rfl
theorem ext_own (i : Nat) (e : IE) (xs : List PyData) (h : slotAt ρ i = .own (.list xs)) : ex gl φ fu (.ext i e) ρ t = R.bnd (R.bnd (if isOwn e ρ = true then .bad else ev gl φ e ρ t) fun v t => asP v t) fun z t => (match z with
      | .list ys => if xs.length + ys.length ≤ sizeLine then pure (.next (ρ.set i (.own (.list (xs ++ ys))))) else M.fail
      | _ => M.fail : M Fl) t := by
  show (match slotAt ρ i with
    | .own (.list xs) => (do
      let z ← (if isOwn e ρ = true then M.fail else ev gl φ e ρ) >>= asP
      (match z with
      | .list ys => if xs.length + ys.length ≤ sizeLine then pure (.next (ρ.set i (.own (.list (xs ++ ys))))) else M.fail
      | _ => M.fail))
    | _ => M.fail : M Fl) t = _
  rw [h]
  show R.bnd (R.bnd _ _) _ = _
  rw [ite_at]
  rfl
end
section
variable {gl : Nat → Option PyData} {tb : Nat → Option Fn} {fu n : Nat} {t : Town}
theorem run_py {f np : Nat} {N : List Str} {body : List IS} {vs : List Val} (h : tb f = some (.py N np body)) (hl : vs.length = np) (hn : 1 ≤ n) : run gl tb fu n f vs t = R.bnd (exs gl (run gl tb fu (n - 1)) fu body (startE N vs) t) fun fl t => endV fl t := by
  obtain ⟨m, rfl⟩ : ∃ m, n = m + 1 := ⟨n - 1, by omega⟩
  show (match tb f with
    | some (.py N np body) => if vs.length = np then exs gl (run gl tb fu m) fu body (startE N vs) >>= endV else M.fail
    | some (.nat np g) => if vs.length = np then g vs else M.fail
    | none => M.fail : M Val) t = _
  rw [h]
  show (if vs.length = np then exs gl (run gl tb fu m) fu body (startE N vs) >>= endV else M.fail : M Val) t = _
  rw [if_pos hl]
  rfl
theorem run_nat {f np : Nat} {g : List Val → M Val} {vs : List Val} (h : tb f = some (.nat np g)) (hl : vs.length = np) (hn : 1 ≤ n) : run gl tb fu n f vs t = g vs t := by
  obtain ⟨m, rfl⟩ : ∃ m, n = m + 1 := ⟨n - 1, by omega⟩
  show (match tb f with
    | some (.py N np body) => if vs.length = np then exs gl (run gl tb fu m) fu body (startE N vs) >>= endV else M.fail
    | some (.nat np g) => if vs.length = np then g vs else M.fail
    | none => M.fail : M Val) t = _
  rw [h]
  show (if vs.length = np then g vs else M.fail : M Val) t = _
  rw [if_pos hl]
end
/-! ### loops -/
section
variable {f : Ev → M Fl} {tg : Tg}
@[simp] theorem forGo_nil (ρ : Ev) (t : Town) : forGo f tg [] ρ t = .ok (.next ρ) t := rfl
theorem forGo_cons (x : PyData) (xs : List PyData) (ρ : Ev) (t : Town) : forGo f tg (x :: xs) ρ t = R.bnd (M.opt (setTg tg (.d x) ρ) t) fun ρ' t => R.seq (f ρ' t) fun ρ'' t => forGo f tg xs ρ'' t := by
  show R.bnd _ _ = _
  congr 1; funext ρ' t
  show R.bnd _ _ = _
  unfold R.seq
  congr 1; funext fl t
  cases fl <;> rfl
/-- the rule of a for: an invariant over what is left -/
theorem for_rule (I : List PyData → Ev → Town → Prop) (Q : Fl → Town → Prop) (h0 : ∀ ρ t, I [] ρ t → Q (.next ρ) t)
    (hs : ∀ x xs ρ t, I (x :: xs) ρ t → ∃ ρ1, setTg tg (.d x) ρ = some ρ1 ∧ ((∃ ρ2 t2, f ρ1 t = .ok (.next ρ2) t2 ∧ I xs ρ2 t2) ∨ ∃ v t2, f ρ1 t = .ok (.ret v) t2 ∧ Q (.ret v) t2)) :
    ∀ xs ρ t, I xs ρ t → ∃ fl t', forGo f tg xs ρ t = .ok fl t' ∧ Q fl t'
  | [], ρ, t, h => ⟨_, _, rfl, h0 ρ t h⟩
  | x :: xs, ρ, t, h => by
    obtain ⟨ρ1, e1, h⟩ := hs x xs ρ t h
    rw [forGo_cons, e1]
    rcases h with ⟨ρ2, t2, e2, h⟩ | ⟨v, t2, e2, h⟩
    · rw [opt_some, bnd_ok, e2, seq_next]
      exact for_rule I Q h0 hs xs ρ2 t2 h
    · rw [opt_some, bnd_ok, e2, seq_ret]
      exact ⟨_, _, rfl, h⟩
/-- a fold, without draws -/
theorem for_fold {α β : Type} {enc : α → PyData} (I : β → Ev → Prop) (g : β → α → β) {t : Town} :
    ∀ (xs : List α), (∀ x ∈ xs, ∀ b ρ, I b ρ → ∃ ρ1 ρ2, setTg tg (.d (enc x)) ρ = some ρ1 ∧ f ρ1 t = .ok (.next ρ2) t ∧ I (g b x) ρ2) → ∀ b ρ, I b ρ → ∃ ρ', forGo f tg (xs.map enc) ρ t = .ok (.next ρ') t ∧ I (xs.foldl g b) ρ'
  | [], _, b, ρ, h => ⟨ρ, rfl, h⟩
  | x :: xs, hs, b, ρ, h => by
    obtain ⟨ρ1, ρ2, e1, e2, h2⟩ := hs x (List.mem_cons_self ..) b ρ h
    obtain ⟨ρ', e3, h3⟩ := for_fold I g xs (fun y hy => hs y (List.mem_cons_of_mem _ hy)) (g b x) ρ2 h2
    refine ⟨ρ', ?_, h3⟩
    rw [List.map_cons, forGo_cons, e1, opt_some, bnd_ok, e2, seq_next]
    exact e3
/-- a search, without draws -/
theorem for_find {α : Type} {enc : α → PyData} (I : Ev → Prop) (p : α → Option Val) {t : Town} :
    ∀ (xs : List α), (∀ x ∈ xs, ∀ ρ, I ρ → ∃ ρ1, setTg tg (.d (enc x)) ρ = some ρ1 ∧ match p x with
      | some v => f ρ1 t = .ok (.ret v) t
      | none => ∃ ρ2, f ρ1 t = .ok (.next ρ2) t ∧ I ρ2) → ∀ ρ, I ρ → match xs.findSome? p with
      | some v => forGo f tg (xs.map enc) ρ t = .ok (.ret v) t
      | none => ∃ ρ', forGo f tg (xs.map enc) ρ t = .ok (.next ρ') t ∧ I ρ'
  | [], _, ρ, h => ⟨ρ, rfl, h⟩
  | x :: xs, hs, ρ, h => by
    obtain ⟨ρ1, e1, h1⟩ := hs x (List.mem_cons_self ..) ρ h
    rw [List.findSome?_cons, List.map_cons, forGo_cons, e1, opt_some, bnd_ok]
    cases q : p x with
    | some v =>
      rw [q] at h1
      dsimp only at h1 ⊢
      rw [h1, seq_ret]
    | none =>
      rw [q] at h1
      dsimp only at h1 ⊢
      obtain ⟨ρ2, e2, h2⟩ := h1
      rw [e2, seq_next]
      exact for_find I p xs (fun y hy => hs y (List.mem_cons_of_mem _ hy)) ρ2 h2
end
/-! ### comprehensions -/
section
variable {f : Ev → M Val} {c : Ev → M Bool} {tg : Tg} {ρ : Ev}
theorem lcGo_cons (x : PyData) (xs : List PyData) (t : Town) : lcGo f c tg ρ (x :: xs) t = R.bnd (M.opt (setTg tg (.d x) ρ) t) fun ρ' t => R.bnd (c ρ' t) fun b t => if b = true then R.bnd (R.bnd (f ρ' t) fun v t => asP v t) (fun v t => R.bnd (lcGo f c tg ρ xs t) fun r t => .ok (v :: r) t) else lcGo f c tg ρ xs t := by
  show R.bnd _ _ = _
  congr 1; funext ρ' t
  show R.bnd _ _ = _
  congr 1; funext b t
  rw [ite_at]
  rfl
@[simp] theorem lcGo_nil (t : Town) : lcGo f c tg ρ [] t = .ok [] t := rfl
/-- without draws -/
theorem lc_map {α : Type} {enc : α → PyData} (p : α → Bool) (g : α → PyData) {t : Town} : ∀ (xs : List α), (∀ x ∈ xs, ∃ ρ1, setTg tg (.d (enc x)) ρ = some ρ1 ∧ c ρ1 t = .ok (p x) t ∧ (p x = true → f ρ1 t = .ok (.d (g x)) t ∧ isDict (g x) = false)) →
    lcGo f c tg ρ (xs.map enc) t = .ok ((xs.filter p).map g) t
  | [], _ => rfl
  | x :: xs, h => by
    obtain ⟨ρ1, e1, e2, e3⟩ := h x (List.mem_cons_self ..)
    have ih := lc_map p g xs fun y hy => h y (List.mem_cons_of_mem _ hy)
    rw [List.map_cons, lcGo_cons, e1, opt_some, bnd_ok, e2, bnd_ok]
    cases q : p x with
    | true =>
      obtain ⟨e4, e5⟩ := e3 q
      rw [if_pos rfl, e4, bnd_ok, asP_at e5, bnd_ok, ih, bnd_ok, List.filter_cons_of_pos q]
      rfl
    | false => rw [if_neg Bool.false_ne_true, ih, List.filter_cons_of_neg (by rw [q]; exact Bool.false_ne_true)]
/-- a comprehension, without draws -/
theorem lc_eq {gl : Nat → Option PyData} {φ : Nat → List Val → M Val} {e : IE} {it : It} {d : IE} {ρ : Ev} {t : Town} {α : Type} {enc : α → PyData} (xs : List α) (p : α → Bool) (g : α → PyData) (hi : evIt gl φ it ρ t = .ok (xs.map enc) t) (hl : xs.length ≤ 100000)
    (h : ∀ x ∈ xs, ∃ ρ1, setTg tg (.d (enc x)) (wipeE ρ (slotsT tg)) = some ρ1 ∧ (ev gl φ d ρ1 >>= asB) t = .ok (p x) t ∧ (p x = true → isOwn e ρ1 = false ∧ ev gl φ e ρ1 t = .ok (.d (g x)) t ∧ isDict (g x) = false)) :
    ev gl φ (.lc e tg it d) ρ t = .ok (.d (.list ((xs.filter p).map g))) t := by
  rw [ev_lc, hi, bnd_ok, if_neg (by rw [List.length_map, PySem.sizeLine_eq]; omega), lc_map p g xs fun x hx => ?_]
  · rfl
  · obtain ⟨ρ1, e1, e2, e3⟩ := h x hx
    refine ⟨ρ1, e1, e2, fun q => ?_⟩
    obtain ⟨e4, e5, e6⟩ := e3 q
    refine ⟨?_, e6⟩
    show (if isOwn e ρ1 = true then M.fail else ev gl φ e ρ1 : M Val) t = _
    rw [e4, if_neg Bool.false_ne_true]
    exact e5
/-- all items, no test -/
theorem lc_all {gl : Nat → Option PyData} {φ : Nat → List Val → M Val} {e : IE} {it : It} {ρ : Ev} {t : Town} {α : Type} {enc : α → PyData} (xs : List α) (g : α → PyData) (hi : evIt gl φ it ρ t = .ok (xs.map enc) t) (hl : xs.length ≤ 100000)
    (h : ∀ x ∈ xs, ∃ ρ1, setTg tg (.d (enc x)) (wipeE ρ (slotsT tg)) = some ρ1 ∧ isOwn e ρ1 = false ∧ ev gl φ e ρ1 t = .ok (.d (g x)) t ∧ isDict (g x) = false) :
    ev gl φ (.lc e tg it (.con (.bool true))) ρ t = .ok (.d (.list (xs.map g))) t := by
  have q := lc_eq (gl := gl) (φ := φ) (e := e) (tg := tg) (it := it) (d := .con (.bool true)) (enc := enc) xs (fun _ => true) g hi hl fun x hx => by
    obtain ⟨ρ1, e1, e2⟩ := h x hx
    exact ⟨ρ1, e1, rfl, fun _ => e2⟩
  rw [List.filter_eq_self.mpr fun _ _ => rfl] at q
  exact q
end
end Bk
namespace Bk
open PySem
/-! ### data -/
abbrev nI (n : Nat) : PyData := .int (n : Int)
@[simp] theorem nI_def (n : Nat) : nI n = .int (n : Int) := rfl
def eS (s : List Nat) : PyData := .tuple (s.map nI)
inductive Op where
  | set (i v : Nat)
  | add (i v : Nat)
  | cpy (i j : Nat)
  deriving DecidableEq
def eO : Op → PyData
  | .set i v => .tuple [.str S_set, nI i, nI v]
  | .add i v => .tuple [.str S_add, nI i, nI v]
  | .cpy i j => .tuple [.str S_copy, nI i, nI j]
def eA (a : List Op) : PyData := .tuple (a.map eO)
def OpOk (k : Nat) : Op → Prop
  | .set i v => i < k ∧ v < 3
  | .add i v => i < k ∧ 1 ≤ v ∧ v < 3
  | .cpy i j => i < k ∧ j < k ∧ i ≠ j
def ActOk (k : Nat) (a : List Op) : Prop := a.length ≤ 3 ∧ ∀ o ∈ a, OpOk k o
def StOk (k : Nat) (s : List Nat) : Prop := s.length = k ∧ ∀ v ∈ s, v < 3
def Op.ap (s : List Nat) : Op → List Nat
  | .set i v => s.set i v
  | .add i v => s.set i ((s.getD i 0 + v) % 3)
  | .cpy i j => s.set j (s.getD i 0)
def ap (a : List Op) (s : List Nat) : List Nat := a.foldl Op.ap s
theorem ap_app (a b : List Op) (s : List Nat) : ap (a ++ b) s = ap b (ap a s) := List.foldl_append ..
theorem set_lt {s : List Nat} {i v : Nat} (h : ∀ x ∈ s, x < 3) (hv : v < 3) : ∀ x ∈ s.set i v, x < 3 := by
  intro x hx
  rcases List.mem_or_eq_of_mem_set hx with q | q
  · exact h x q
  · rw [q]; exact hv
theorem getD_lt {s : List Nat} {i : Nat} (h : ∀ x ∈ s, x < 3) : s.getD i 0 < 3 := by
  rw [List.getD_eq_getElem?_getD]
  cases q : s[i]? with
  | none => decide
  | some v => exact h v (List.mem_of_getElem? q)
theorem op_ok {k : Nat} {o : Op} {s : List Nat} (ho : OpOk k o) (hs : StOk k s) : StOk k (o.ap s) := by
  cases o with
  | set i v => exact ⟨by simp [Op.ap, hs.1], set_lt hs.2 ho.2⟩
  | add i v => exact ⟨by simp [Op.ap, hs.1], set_lt hs.2 (Nat.mod_lt _ (by decide))⟩
  | cpy i j => exact ⟨by simp [Op.ap, hs.1], set_lt hs.2 (getD_lt hs.2)⟩
theorem ap_ok {k : Nat} : ∀ {a : List Op} {s : List Nat}, (∀ o ∈ a, OpOk k o) → StOk k s → StOk k (ap a s)
  | [], s, _, h => h
  | o :: a, s, ha, h => ap_ok (a := a) (fun p hp => ha p (List.mem_cons_of_mem _ hp)) (op_ok (ha o (List.mem_cons_self ..)) h)
/-! ### places -/
theorem ixN_nat {n i : Nat} (h : i < n) : L2.ixN n (i : Int) = some i := by
  unfold L2.ixN
  rw [if_pos (by omega), if_pos (by omega)]
  simp
theorem atI_nat {α : Type} {l : List α} {i : Nat} (h : i < l.length) : L2.atI l (i : Int) = l[i]? := by
  unfold L2.atI
  rw [ixN_nat h]
  rfl
/-! ### the program's table -/
def PT (tb : Nat → Option Fn) : Prop := ∀ i, i < 69 → tb i = progT i
/-! ### comparisons -/
@[simp] theorem eq_str (a b : Str) : cmpD .eq (.str a) (.str b) = some (a == b) := rfl
@[simp] theorem le_int (a b : Int) : cmpD .le (.int a) (.int b) = some (decide (a ≤ b)) := rfl
@[simp] theorem lt_int (a b : Int) : cmpD .lt (.int a) (.int b) = some (decide (a < b)) := rfl
@[simp] theorem gt_int (a b : Int) : cmpD .gt (.int a) (.int b) = some (decide (b < a)) := rfl
@[simp] theorem eq_int (a b : Int) : cmpD .eq (.int a) (.int b) = some (a == b) := rfl
@[simp] theorem ne_int (a b : Int) : cmpD .ne (.int a) (.int b) = some (!(a == b)) := rfl
@[simp] theorem isN_none : cmpD .isN .none .none = some true := rfl
@[simp] theorem notN_none : cmpD .notN .none .none = some false := rfl
@[simp] theorem add_int (a b : Int) : binD .add (.int a) (.int b) = some (.int (a + b)) := rfl
@[simp] theorem sub_int (a b : Int) : binD .sub (.int a) (.int b) = some (.int (a - b)) := rfl
@[simp] theorem mod_int (a : Int) : binD .mod (.int a) (.int 3) = some (.int (a % 3)) := rfl
@[simp] theorem s_set : (S_set == S_set) = true := rfl
@[simp] theorem s_add_set : (S_add == S_set) = false := rfl
@[simp] theorem s_copy_set : (S_copy == S_set) = false := rfl
@[simp] theorem s_add : (S_add == S_add) = true := rfl
@[simp] theorem s_copy_add : (S_copy == S_add) = false := rfl
@[simp] theorem s_copy : (S_copy == S_copy) = true := rfl
@[simp] theorem b1_list_t (xs : List PyData) : b1D .list (.tuple xs) = some (.list xs) := rfl
@[simp] theorem b1_list_l (xs : List PyData) : b1D .list (.list xs) = some (.list xs) := rfl
@[simp] theorem b1_tuple_t (xs : List PyData) : b1D .tuple (.tuple xs) = some (.tuple xs) := rfl
@[simp] theorem b1_tuple_l (xs : List PyData) : b1D .tuple (.list xs) = some (.tuple xs) := rfl
@[simp] theorem b1_len_t (xs : List PyData) : b1D .len (.tuple xs) = some (.int (xs.length : Nat)) := rfl
@[simp] theorem b1_len_l (xs : List PyData) : b1D .len (.list xs) = some (.int (xs.length : Nat)) := rfl
@[simp] theorem setOwn_l (i : Nat) (xs : List PyData) (ρ : Ev) : setOwn i (.d (.list xs)) ρ = if i < ρ.length then some (ρ.set i (.own (.list xs))) else none := rfl
@[simp] theorem setTg_nm (i : Nat) (v : Val) (ρ : Ev) : setTg (.nm i) v ρ = if i < ρ.length then some (ρ.set i (.val v)) else none := by
  unfold setTg
  rfl
@[simp] theorem items_t (xs : List PyData) : itemsD (.tuple xs) = some xs := rfl
@[simp] theorem items_l (xs : List PyData) : itemsD (.list xs) = some xs := rfl
section
variable {gl : Nat → Option PyData} {tb : Nat → Option Fn} {fu n : Nat} {t : Town}
theorem seqD_eS (s : List Nat) : seqD (eS s) = some (s.map nI) := rfl
theorem setTg3 {x y z : PyData} {a b c d e f : Slot} : setTg (.tp [.nm 3, .nm 4, .nm 5]) (.d (.tuple [x, y, z])) [a, b, c, d, e, f] = some [a, b, c, .val (.d x), .val (.d y), .val (.d z)] := rfl
theorem applied_loop {φ : Nat → List Val → M Val} {k : Nat} {A S : Slot} {a : List Op} {s : List Nat} (ha : ∀ o ∈ a, OpOk k o) (hs : s.length = k) {x y z : Slot} :
    ∃ ρ', forGo (fun ρ' => exs gl φ fu B_applied_f1 ρ') (.tp [.nm 3, .nm 4, .nm 5]) (a.map eO) [A, S, .own (.list (s.map nI)), x, y, z] t = .ok (.next ρ') t ∧ (ap a s).length = k ∧ ∃ x y z, ρ' = [A, S, .own (.list ((ap a s).map nI)), x, y, z] := by
  refine for_fold (enc := eO) (fun b ρ => b.length = k ∧ ∃ x y z, ρ = [A, S, .own (.list (b.map nI)), x, y, z]) Op.ap a ?_ s _ ⟨hs, _, _, _, rfl⟩
  rintro o ho b ρ ⟨hb, x, y, z, rfl⟩
  have ok := ha o ho
  cases o with
  | set i v =>
    have hi : i < b.length := by rw [hb]; exact ok.1
    refine ⟨_, [A, S, .own (.list ((b.set i v).map nI)), .val (.d (.str S_set)), .val (.d (nI i)), .val (.d (nI v))], setTg3, ?_, by simp [Op.ap, hb], _, _, _, rfl⟩
    simp [B_applied_f1, setI_own, putItem, ixN_nat, hi, List.map_set]
  | add i v =>
    have hi : i < b.length := by rw [hb]; exact ok.1
    refine ⟨_, [A, S, .own (.list ((b.set i ((b.getD i 0 + v) % 3)).map nI)), .val (.d (.str S_add)), .val (.d (nI i)), .val (.d (nI v))], setTg3, ?_, by simp [Op.ap, hb], _, _, _, rfl⟩
    simp [B_applied_f1, setI_own, putItem, ixN_nat, hi, List.map_set, subAt, atI_nat, List.getD_eq_getElem?_getD]
  | cpy i j =>
    have hi : i < b.length := by rw [hb]; exact ok.1
    have hj : j < b.length := by rw [hb]; exact ok.2.1
    refine ⟨_, [A, S, .own (.list ((b.set j (b.getD i 0)).map nI)), .val (.d (.str S_copy)), .val (.d (nI i)), .val (.d (nI j))], setTg3, ?_, by simp [Op.ap, hb], _, _, _, rfl⟩
    simp [B_applied_f1, setI_own, putItem, ixN_nat, hi, hj, List.map_set, subAt, atI_nat, List.getD_eq_getElem?_getD]
theorem run_applied (hP : PT tb) (hn : 1 ≤ n) {k : Nat} {a : List Op} {s : List Nat} (ha : ∀ o ∈ a, OpOk k o) (hs : s.length = k) : run gl tb fu n 9 [.d (eA a), .d (eS s)] t = .ok (.d (eS (ap a s))) t := by
  rw [run_py (hP 9 (by decide)) rfl hn]
  show R.bnd (exs gl _ fu B_applied [.val (.d (eA a)), .val (.d (eS s)), .emp, .emp, .emp, .emp] t) _ = _
  obtain ⟨ρ', e, hl, x, y, z, rfl⟩ := applied_loop (gl := gl) (fu := fu) (t := t) (φ := run gl tb fu (n - 1)) (A := .val (.d (eA a))) (S := .val (.d (eS s))) ha hs (x := .emp) (y := .emp) (z := .emp)
  simp only [eA, eS] at e
  simp [B_applied, ex_for, fresh, eA, eS, e]
end
end Bk
namespace Bk
open PySem
/-- an int within bounds -/
def btw (x : PyData) (lo hi : Int) : Bool := match x with
  | .int v => decide (lo ≤ v) && decide (v ≤ hi)
  | _ => false
def isStB (k : Int) : PyData → Bool
  | .tuple xs => ((xs.length : Int) == k) && xs.all fun x => btw x 0 2
  | _ => false
def isOpB (k : Int) : PyData → Bool
  | .tuple [.str a, y, z] => btw y 0 (k - 1) && (if (a == S_set) = true then btw z 0 2 else if (a == S_add) = true then btw z 1 2 else (a == S_copy) && (btw z 0 (k - 1) && !PyData.eqv y z))
  | _ => false
def isActB (k : Int) : PyData → Bool
  | .tuple xs => decide ((xs.length : Int) ≤ 3) && xs.all (isOpB k)
  | _ => false
theorem plain_nd {x : PyData} (h : x.plain = true) : isDict x = false := by
  cases x with
  | dict _ => simp [PyData.plain] at h
  | _ => rfl
theorem plain_mem {xs : List PyData} (h : PyData.plainAll xs = true) : ∀ x ∈ xs, x.plain = true := by
  induction xs with
  | nil => intro x hx; cases hx
  | cons y ys ih =>
    simp only [PyData.plainAll, Bool.and_eq_true] at h
    intro x hx
    rcases List.mem_cons.mp hx with rfl | hx
    · exact h.1
    · exact ih h.2 x hx
@[simp] theorem isi_int_int (v : Int) : isiD .int (.int v) = true := rfl
@[simp] theorem isi_bool_int (v : Int) : isiD .bool (.int v) = false := rfl
@[simp] theorem isi_int_bool (v : Bool) : isiD .int (.bool v) = true := rfl
@[simp] theorem isi_bool_bool (v : Bool) : isiD .bool (.bool v) = true := rfl
@[simp] theorem isi_int_str (v : Str) : isiD .int (.str v) = false := rfl
@[simp] theorem isi_int_none : isiD .int .none = false := rfl
@[simp] theorem isi_int_tuple (v : List PyData) : isiD .int (.tuple v) = false := rfl
@[simp] theorem isi_int_list (v : List PyData) : isiD .int (.list v) = false := rfl
@[simp] theorem isi_tup_tuple (v : List PyData) : isiD .tuple (.tuple v) = true := rfl
@[simp] theorem isi_tup_list (v : List PyData) : isiD .tuple (.list v) = false := rfl
@[simp] theorem isi_tup_int (v : Int) : isiD .tuple (.int v) = false := rfl
@[simp] theorem isi_tup_bool (v : Bool) : isiD .tuple (.bool v) = false := rfl
@[simp] theorem isi_tup_str (v : Str) : isiD .tuple (.str v) = false := rfl
@[simp] theorem isi_tup_none : isiD .tuple .none = false := rfl
@[simp] theorem isi_str_str (v : Str) : isiD .str (.str v) = true := rfl
@[simp] theorem isi_str_int (v : Int) : isiD .str (.int v) = false := rfl
@[simp] theorem isi_str_bool (v : Bool) : isiD .str (.bool v) = false := rfl
@[simp] theorem isi_str_none : isiD .str .none = false := rfl
@[simp] theorem isi_str_tuple (v : List PyData) : isiD .str (.tuple v) = false := rfl
@[simp] theorem isi_str_list (v : List PyData) : isiD .str (.list v) = false := rfl
@[simp] theorem isi_bool_str (v : Str) : isiD .bool (.str v) = false := rfl
@[simp] theorem isi_bool_none : isiD .bool .none = false := rfl
@[simp] theorem isi_bool_tuple (v : List PyData) : isiD .bool (.tuple v) = false := rfl
@[simp] theorem isi_bool_list (v : List PyData) : isiD .bool (.list v) = false := rfl
section
variable {gl : Nat → Option PyData} {tb : Nat → Option Fn} {fu n : Nat} {t : Town}
theorem run_between (hP : PT tb) (hn : 1 ≤ n) {x : PyData} (hx : x.plain = true) (lo hi : Int) : run gl tb fu n 0 [.d x, .d (.int lo), .d (.int hi)] t = .ok (.d (.bool (btw x lo hi))) t := by
  rw [run_py (hP 0 (by decide)) rfl hn]
  show R.bnd (exs gl _ fu B_is_between [.val (.d x), .val (.d (.int lo)), .val (.d (.int hi))] t) _ = _
  cases x with
  | dict _ => simp [PyData.plain] at hx
  | int v => by_cases h : lo ≤ v <;> simp [B_is_between, btw, h]
  | _ => simp [B_is_between, btw]
theorem run_check_items (hP : PT tb) (hn : 2 ≤ n) {k : Nat} (h1 : 1 ≤ k) (h3 : k ≤ 3) : run gl tb fu n 2 [.d (nI k)] t = .ok (.d .none) t := by
  rw [run_py (hP 2 (by decide)) rfl (by omega)]
  show R.bnd (exs gl _ fu B_check_items [.val (.d (nI k))] t) _ = _
  have e : btw (.int k) 1 3 = true := by
    show (decide ((1 : Int) ≤ k) && decide ((k : Int) ≤ 3)) = true
    simp
    omega
  simp [B_check_items, run_between hP (show 1 ≤ n - 1 by omega) (x := .int k) rfl, e]
theorem bools_map {α : Type} (p : α → Bool) (xs : List α) : boolsD (xs.map fun x => PyData.bool (p x)) = some (xs.map p) := by
  induction xs with
  | nil => rfl
  | cons x xs ih =>
    show (boolsD (xs.map fun x => PyData.bool (p x))).map (p x :: ·) = _
    rw [ih]
    rfl
@[simp] theorem all_map {α : Type} (p : α → Bool) (xs : List α) : b1D .all (.list (xs.map fun x => PyData.bool (p x))) = some (.bool (xs.all p)) := by
  show (boolsD (xs.map fun x => PyData.bool (p x))).map (fun bs => PyData.bool (bs.all id)) = _
  rw [bools_map]
  simp
theorem run_is_state_of (hP : PT tb) (hn : 2 ≤ n) {x : PyData} (hx : x.plain = true) (hl : ∀ xs, x = .tuple xs → xs.length ≤ 1000) (k : Int) : run gl tb fu n 3 [.d (.int k), .d x] t = .ok (.d (.bool (isStB k x))) t := by
  rw [run_py (hP 3 (by decide)) rfl (by omega)]
  show R.bnd (exs gl _ fu B_is_state_of [.val (.d (.int k)), .val (.d x), .emp] t) _ = _
  cases x with
  | dict _ => simp [PyData.plain] at hx
  | tuple xs =>
    have hp := plain_mem (xs := xs) (by simpa [PyData.plain] using hx)
    have e := lc_eq (gl := gl) (φ := run gl tb fu (n - 1)) (t := t) (enc := id) (tg := .nm 2) (it := .seq (.var 1)) (d := .con (.bool true)) (e := .call 0 [.var 2, .con (.int 0), .con (.int 2)]) (ρ := [.val (.d (.int k)), .val (.d (.tuple xs)), .emp]) xs (fun _ => true) (fun x => PyData.bool (btw x 0 2)) (by simp) (by have := hl xs rfl; omega) fun x h => by
      refine ⟨[.val (.d (.int k)), .val (.d (.tuple xs)), .val (.d x)], by simp [wipeE, slotsT], by simp, fun _ => ⟨rfl, ?_, rfl⟩⟩
      simp [run_between hP (show 1 ≤ n - 1 by omega) (hp x h)]
    by_cases hk : ((xs.length : Int) == k) = true
    · simp [B_is_state_of, isStB, hk, e]
    · simp [B_is_state_of, isStB, hk]
  | _ => simp [B_is_state_of, isStB]
theorem sub3_0 (x y z : PyData) : subAt (.tuple [x, y, z]) (.int 0) = some x := rfl
theorem sub3_1 (x y z : PyData) : subAt (.tuple [x, y, z]) (.int 1) = some y := rfl
theorem sub3_2 (x y z : PyData) : subAt (.tuple [x, y, z]) (.int 2) = some z := rfl
theorem btw_int {x : PyData} {lo hi : Int} (h : btw x lo hi = true) : ∃ v, x = .int v := by
  cases x with
  | int v => exact ⟨v, rfl⟩
  | _ => cases h
theorem run_is_operation (hP : PT tb) (hn : 2 ≤ n) {x : PyData} (hx : x.plain = true) (k : Int) : run gl tb fu n 5 [.d (.int k), .d x] t = .ok (.d (.bool (isOpB k x))) t := by
  rw [run_py (hP 5 (by decide)) rfl (by omega)]
  show R.bnd (exs gl _ fu B_is_operation [.val (.d (.int k)), .val (.d x)] t) _ = _
  have h1 : 1 ≤ n - 1 := by omega
  cases x with
  | dict _ => simp [PyData.plain] at hx
  | tuple xs =>
    by_cases hl : xs.length = 3
    · match xs, hl with
      | [a, y, z], _ =>
        have hp := plain_mem (xs := [a, y, z]) (by simpa [PyData.plain] using hx)
        have pa := hp a (by simp)
        have py := hp y (by simp)
        have pz := hp z (by simp)
        have r1 := fun lo hi => run_between (gl := gl) (fu := fu) (t := t) hP h1 py lo hi
        have r2 := fun lo hi => run_between (gl := gl) (fu := fu) (t := t) hP h1 pz lo hi
        cases hy : btw y 0 (k - 1) with
        | false =>
          have e : isOpB k (.tuple [a, y, z]) = false := by
            cases a <;> simp [isOpB, hy]
          rw [e]
          simp [B_is_operation, sub3_1, r1, hy]
        | true =>
          cases a with
          | str c =>
            by_cases c1 : (c == S_set) = true
            · simp [B_is_operation, sub3_0, sub3_1, sub3_2, r1, r2, hy, isOpB, c1]
            · by_cases c2 : (c == S_add) = true
              · simp [B_is_operation, sub3_0, sub3_1, sub3_2, r1, r2, hy, isOpB, c1, c2]
              · by_cases c3 : (c == S_copy) = true
                · cases hz : btw z 0 (k - 1) with
                  | false => simp [B_is_operation, sub3_0, sub3_1, sub3_2, r1, r2, hy, isOpB, c1, c2, c3, hz]
                  | true =>
                    obtain ⟨v, rfl⟩ := btw_int hy
                    obtain ⟨u, rfl⟩ := btw_int hz
                    simp [B_is_operation, sub3_0, sub3_1, sub3_2, r1, r2, hy, isOpB, c1, c2, c3, hz, PyData.eqv]
                · simp [B_is_operation, sub3_0, sub3_1, sub3_2, r1, r2, hy, isOpB, c1, c2, c3]
          | dict _ => simp [PyData.plain] at pa
          | _ => simp [B_is_operation, sub3_0, sub3_1, r1, hy, isOpB]
    · have e : isOpB k (.tuple xs) = false := by
        unfold isOpB
        split
        · rename_i e
          cases e
          exact absurd rfl hl
        · rfl
      have e2 : ((xs.length : Int) == 3) = false := by
        simp
        omega
      rw [e]
      simp [B_is_operation, e2]
  | _ => simp [B_is_operation, isOpB]
theorem run_is_action_of (hP : PT tb) (hn : 3 ≤ n) {x : PyData} (hx : x.plain = true) (hl : ∀ xs, x = .tuple xs → xs.length ≤ 1000) (k : Int) : run gl tb fu n 6 [.d (.int k), .d x] t = .ok (.d (.bool (isActB k x))) t := by
  rw [run_py (hP 6 (by decide)) rfl (by omega)]
  show R.bnd (exs gl _ fu B_is_action_of [.val (.d (.int k)), .val (.d x), .emp] t) _ = _
  cases x with
  | dict _ => simp [PyData.plain] at hx
  | tuple xs =>
    have hp := plain_mem (xs := xs) (by simpa [PyData.plain] using hx)
    have e := lc_eq (gl := gl) (φ := run gl tb fu (n - 1)) (t := t) (enc := id) (tg := .nm 2) (it := .seq (.var 1)) (d := .con (.bool true)) (e := .call 5 [.var 0, .var 2]) (ρ := [.val (.d (.int k)), .val (.d (.tuple xs)), .emp]) xs (fun _ => true) (fun x => PyData.bool (isOpB k x)) (by simp) (by have := hl xs rfl; omega) fun x h => by
      refine ⟨[.val (.d (.int k)), .val (.d (.tuple xs)), .val (.d x)], by simp [wipeE, slotsT], by simp, fun _ => ⟨rfl, ?_, rfl⟩⟩
      simp [run_is_operation hP (show 2 ≤ n - 1 by omega) (hp x h)]
    by_cases hk : ((xs.length : Int) ≤ 3)
    · simp [B_is_action_of, isActB, hk, e]
    · simp [B_is_action_of, isActB, hk]
  | _ => simp [B_is_action_of, isActB]
end
end Bk
namespace Bk
open PySem
theorem btw_nat {v lo hi : Nat} (h1 : lo ≤ v) (h2 : v ≤ hi) : btw (.int v) lo hi = true := by
  show (decide ((lo : Int) ≤ v) && decide ((v : Int) ≤ hi)) = true
  simp
  omega
theorem btw_nat2 {v hi : Nat} (h2 : v < hi) : btw (.int v) 0 ((hi : Int) - 1) = true := by
  show (decide ((0 : Int) ≤ v) && decide ((v : Int) ≤ hi - 1)) = true
  simp
  omega
theorem plainAll_map {α : Type} {f : α → PyData} {l : List α} (h : ∀ x ∈ l, (f x).plain = true) : PyData.plainAll (l.map f) = true := by
  induction l with
  | nil => rfl
  | cons x l ih =>
    simp only [List.map_cons, PyData.plainAll, Bool.and_eq_true]
    exact ⟨h x (by simp), ih fun y hy => h y (by simp [hy])⟩
theorem plain_nI (v : Nat) : (nI v).plain = true := rfl
theorem plain_eS (s : List Nat) : (eS s).plain = true := by
  show PyData.plainAll _ = true
  exact plainAll_map fun x _ => plain_nI x
theorem plain_eO (o : Op) : (eO o).plain = true := by cases o <;> rfl
theorem plain_eA (a : List Op) : (eA a).plain = true := by
  show PyData.plainAll _ = true
  exact plainAll_map fun x _ => plain_eO x
theorem isOpB_ok {k : Nat} {o : Op} (h : OpOk k o) : isOpB k (eO o) = true := by
  cases o with
  | set i v =>
    show (btw (.int i) 0 ((k : Int) - 1) && if (S_set == S_set) = true then btw (.int v) 0 2 else _) = true
    rw [btw_nat2 h.1, if_pos (show (S_set == S_set) = true from rfl)]
    exact btw_nat (lo := 0) (hi := 2) (Nat.zero_le _) (by have := h.2; omega)
  | add i v =>
    show (btw (.int i) 0 ((k : Int) - 1) && if (S_add == S_set) = true then _ else if (S_add == S_add) = true then btw (.int v) 1 2 else _) = true
    rw [btw_nat2 h.1, if_neg (by simp), if_pos (show (S_add == S_add) = true from rfl)]
    exact btw_nat (lo := 1) (hi := 2) h.2.1 (by have := h.2.2; omega)
  | cpy i j =>
    show (btw (.int i) 0 ((k : Int) - 1) && if (S_copy == S_set) = true then _ else if (S_copy == S_add) = true then _ else (S_copy == S_copy) && (btw (.int j) 0 ((k : Int) - 1) && !PyData.eqv (.int i) (.int j))) = true
    rw [btw_nat2 h.1, if_neg (by simp), if_neg (by simp), btw_nat2 h.2.1]
    have := h.2.2
    simp [PyData.eqv]
    omega
theorem isActB_ok {k : Nat} {a : List Op} (h : ActOk k a) : isActB k (eA a) = true := by
  show (decide (((a.map eO).length : Int) ≤ 3) && (a.map eO).all (isOpB k)) = true
  rw [List.length_map, Bool.and_eq_true, decide_eq_true_eq, List.all_map, List.all_eq_true]
  refine ⟨by have := h.1; omega, fun o ho => isOpB_ok (h.2 o ho)⟩
theorem isStB_ok {k : Nat} {s : List Nat} (h : StOk k s) : isStB k (eS s) = true := by
  show ((((s.map nI).length : Int) == k) && (s.map nI).all fun x => btw x 0 2) = true
  rw [List.length_map, h.1, List.all_map, Bool.and_eq_true, List.all_eq_true]
  refine ⟨by simp, fun v hv => btw_nat (lo := 0) (hi := 2) (Nat.zero_le _) (by have := h.2 v hv; omega)⟩
/-! ### all states -/
def allS : Nat → List (List Nat)
  | 0 => [[]]
  | n + 1 => (allS n).flatMap fun r => [r ++ [0], r ++ [1], r ++ [2]]
theorem mem_allS {k : Nat} : ∀ {s : List Nat}, s ∈ allS k ↔ StOk k s := by
  induction k with
  | zero =>
    intro s
    simp [allS, StOk]
    rintro rfl
    simp
  | succ k ih =>
    intro s
    constructor
    · intro h
      obtain ⟨r, hr, h⟩ := List.mem_flatMap.mp h
      have hr := ih.mp hr
      have : ∃ v, v < 3 ∧ s = r ++ [v] := by
        rcases (by simpa using h : s = r ++ [0] ∨ s = r ++ [1] ∨ s = r ++ [2]) with e | e | e
        · exact ⟨0, by decide, e⟩
        · exact ⟨1, by decide, e⟩
        · exact ⟨2, by decide, e⟩
      obtain ⟨v, hv, rfl⟩ := this
      refine ⟨by simp [hr.1], fun x hx => ?_⟩
      rcases List.mem_append.mp hx with q | q
      · exact hr.2 x q
      · rw [List.mem_singleton.mp q]; exact hv
    · intro h
      have hne : s ≠ [] := fun e => by have := h.1; rw [e] at this; simp at this
      have e := List.dropLast_concat_getLast hne
      refine List.mem_flatMap.mpr ⟨s.dropLast, ih.mpr ⟨by simp [h.1], fun x hx => h.2 x (List.dropLast_subset _ hx)⟩, ?_⟩
      have hv := h.2 _ (List.getLast_mem hne)
      rw [← e]
      generalize s.getLast hne = v at hv
      match v, hv with
      | 0, _ => simp
      | 1, _ => simp
      | 2, _ => simp
theorem eS_inj {s r : List Nat} (h : eS s = eS r) : s = r := by
  have e : s.map nI = r.map nI := by injection h
  have : (s.map nI).map (fun x => match x with | .int i => i.toNat | _ => 0) = (r.map nI).map (fun x => match x with | .int i => i.toNat | _ => 0) := by rw [e]
  simpa [Function.comp_def] using this
theorem eqvAll_nI : ∀ s r : List Nat, PyData.eqvAll (s.map nI) (r.map nI) = decide (s = r)
  | [], [] => by simp [PyData.eqvAll]
  | [], _ :: _ => by simp [PyData.eqvAll]
  | _ :: _, [] => by simp [PyData.eqvAll]
  | a :: s, b :: r => by
    simp only [List.map_cons, PyData.eqvAll, eqvAll_nI s r]
    have : PyData.eqv (nI a) (nI b) = decide (a = b) := by
      show ((a : Int) == b) = _
      by_cases h : a = b
      · simp [h]
      · simp [h]
        omega
    rw [this]
    by_cases h1 : a = b <;> by_cases h2 : s = r <;> simp [h1, h2]
theorem eqv_eS (s r : List Nat) : PyData.eqv (eS s) (eS r) = decide (s = r) := by
  simp only [eS, PyData.eqv]
  exact eqvAll_nI s r
theorem depthAll_nI : ∀ s : List Nat, PyData.depthAll (s.map nI) = 0
  | [] => rfl
  | a :: s => by
    simp only [List.map_cons, PyData.depthAll, depthAll_nI s]
    rfl
theorem shaped_eS (s : List Nat) : shapedB (eS s) = true := by
  unfold shapedB
  rw [plain_eS]
  simp only [eS, PyData.depth, depthAll_nI]
  rfl
@[simp] theorem eq_eS (s r : List Nat) : cmpD .eq (eS s) (eS r) = some (decide (s = r)) := by
  show (if shapedB (eS s) = true ∧ shapedB (eS r) = true then some (PyData.eqv (eS s) (eS r)) else none) = _
  rw [if_pos ⟨shaped_eS s, shaped_eS r⟩, eqv_eS]
@[simp] theorem ne_eS (s r : List Nat) : cmpD .ne (eS s) (eS r) = some (!decide (s = r)) := by
  show (if shapedB (eS s) = true ∧ shapedB (eS r) = true then some (PyData.eqv (eS s) (eS r)) else none).map (!·) = _
  rw [if_pos ⟨shaped_eS s, shaped_eS r⟩, eqv_eS]
  rfl
/-- the first state that two actions lead to unlike ones -/
def unlike (k : Nat) (a b : List Op) : Option (List Nat) := (allS k).find? fun s => !decide (ap a s = ap b s)
def eOS : Option (List Nat) → PyData
  | none => .none
  | some s => eS s
theorem unlike_none {k : Nat} {a b : List Op} : unlike k a b = none ↔ ∀ s, StOk k s → ap a s = ap b s := by
  unfold unlike
  rw [List.find?_eq_none]
  constructor
  · intro h s hs
    have := h s (mem_allS.mpr hs)
    simpa using this
  · intro h s hs
    simp [h s (mem_allS.mp hs)]
section
variable {gl : Nat → Option PyData} {tb : Nat → Option Fn} {fu n : Nat} {t : Town}
theorem run_check_action (hP : PT tb) (hn : 4 ≤ n) {k : Nat} {a : List Op} (ha : ActOk k a) : run gl tb fu n 8 [.d (nI k), .d (eA a)] t = .ok (.d .none) t := by
  rw [run_py (hP 8 (by decide)) rfl (by omega)]
  show R.bnd (exs gl _ fu B_check_action [.val (.d (nI k)), .val (.d (eA a))] t) _ = _
  have e := run_is_action_of (gl := gl) (fu := fu) (t := t) hP (show 3 ≤ n - 1 by omega) (plain_eA a) (fun xs e => by cases e; rw [List.length_map]; have := ha.1; omega) (k : Int)
  rw [isActB_ok ha] at e
  simp [B_check_action, e]
theorem run_after (hP : PT tb) (hn : 5 ≤ n) {k : Nat} (h1 : 1 ≤ k) (h3 : k ≤ 3) {a : List Op} (ha : ActOk k a) {s : List Nat} (hs : StOk k s) : run gl tb fu n 10 [.d (nI k), .d (eA a), .d (eS s)] t = .ok (.d (eS (ap a s))) t := by
  rw [run_py (hP 10 (by decide)) rfl (by omega)]
  show R.bnd (exs gl _ fu B_after [.val (.d (nI k)), .val (.d (eA a)), .val (.d (eS s))] t) _ = _
  have e1 := run_check_items (gl := gl) (fu := fu) (t := t) hP (show 2 ≤ n - 1 by omega) h1 h3
  have e2 := run_check_action (gl := gl) (fu := fu) (t := t) hP (show 4 ≤ n - 1 by omega) ha
  have e3 := run_is_state_of (gl := gl) (fu := fu) (t := t) hP (show 2 ≤ n - 1 by omega) (plain_eS s) (fun xs e => by cases e; rw [List.length_map, hs.1]; omega) (k : Int)
  rw [isStB_ok hs] at e3
  have e4 := run_applied (gl := gl) (fu := fu) (t := t) hP (show 1 ≤ n - 1 by omega) ha.2 hs.1
  simp only [nI_def] at e1 e2
  simp [B_after, e1, e2, e3, e4]
theorem run_states_of (hP : PT tb) (hn : 1 ≤ n) {k : Nat} (h1 : 1 ≤ k) (h3 : k ≤ 3) : run gl tb fu n 11 [.d (nI k)] t = .ok (.d (.list ((allS k).map eS))) t := by
  rw [run_py (hP 11 (by decide)) rfl hn]
  match k, h1, h3 with
  | 1, _, _ => rfl
  | 2, _, _ => rfl
  | 3, _, _ => rfl
theorem run_all_states (hP : PT tb) (hn : 3 ≤ n) {k : Nat} (h1 : 1 ≤ k) (h3 : k ≤ 3) : run gl tb fu n 12 [.d (nI k)] t = .ok (.d (.tuple ((allS k).map eS))) t := by
  rw [run_py (hP 12 (by decide)) rfl (by omega)]
  show R.bnd (exs gl _ fu B_all_states [.val (.d (nI k))] t) _ = _
  have e1 := run_check_items (gl := gl) (fu := fu) (t := t) hP (show 2 ≤ n - 1 by omega) h1 h3
  have e2 := run_states_of (gl := gl) (fu := fu) (t := t) hP (show 1 ≤ n - 1 by omega) h1 h3
  simp only [nI_def] at e1 e2
  simp [B_all_states, e1, e2]
theorem run_first_unlike (hP : PT tb) (hn : 2 ≤ n) {k : Nat} (h1 : 1 ≤ k) (h3 : k ≤ 3) {a b : List Op} (ha : ∀ o ∈ a, OpOk k o) (hb : ∀ o ∈ b, OpOk k o) : run gl tb fu n 13 [.d (nI k), .d (eA a), .d (eA b)] t = .ok (.d (eOS (unlike k a b))) t := by
  rw [run_py (hP 13 (by decide)) rfl (by omega)]
  show R.bnd (exs gl _ fu B_first_unlike [.val (.d (nI k)), .val (.d (eA a)), .val (.d (eA b)), .emp] t) _ = _
  have e2 := run_states_of (gl := gl) (fu := fu) (t := t) hP (show 1 ≤ n - 1 by omega) h1 h3
  have lp := for_find (enc := eS) (tg := .nm 3) (t := t) (f := fun ρ' => exs gl (run gl tb fu (n - 1)) fu B_first_unlike_f1 ρ') (fun ρ => ∃ x, ρ = [.val (.d (nI k)), .val (.d (eA a)), .val (.d (eA b)), x]) (fun s => if ap a s = ap b s then none else some (.d (eS s))) (allS k) (fun s hs ρ hρ => by
    obtain ⟨x, rfl⟩ := hρ
    have hs := mem_allS.mp hs
    have r1 := run_applied (gl := gl) (fu := fu) (t := t) hP (show 1 ≤ n - 1 by omega) ha hs.1
    have r2 := run_applied (gl := gl) (fu := fu) (t := t) hP (show 1 ≤ n - 1 by omega) hb hs.1
    refine ⟨[.val (.d (nI k)), .val (.d (eA a)), .val (.d (eA b)), .val (.d (eS s))], by simp, ?_⟩
    by_cases h : ap a s = ap b s
    · rw [if_pos h]
      refine ⟨[.val (.d (nI k)), .val (.d (eA a)), .val (.d (eA b)), .val (.d (eS s))], ?_, _, rfl⟩
      simp [B_first_unlike_f1, r1, r2, h]
    · rw [if_neg h]
      simp [B_first_unlike_f1, r1, r2, h]) [.val (.d (nI k)), .val (.d (eA a)), .val (.d (eA b)), .emp] ⟨_, rfl⟩
  have eu : (allS k).findSome? (fun s => if ap a s = ap b s then none else some (Val.d (eS s))) = (unlike k a b).map fun s => .d (eS s) := by
    unfold unlike
    induction allS k with
    | nil => rfl
    | cons s l ih =>
      rw [List.findSome?_cons, List.find?_cons]
      by_cases h : ap a s = ap b s
      · simp [h, ih]
      · simp [h]
  rw [eu] at lp
  simp only [nI_def] at e2 lp
  cases q : unlike k a b with
  | none =>
    rw [q] at lp
    obtain ⟨ρ', e, x, rfl⟩ := lp
    simp [B_first_unlike, ex_for, e2, e, eOS]
  | some s =>
    rw [q] at lp
    dsimp only [Option.map_some] at lp
    simp [B_first_unlike, ex_for, e2, lp, eOS]
@[simp] theorem add_eA {a b : List Op} (h : a.length + b.length ≤ 1000) : binD .add (eA a) (eA b) = some (eA (a ++ b)) := by
  show (if (a.map eO).length + (b.map eO).length ≤ sizeLine then some (PyData.tuple (a.map eO ++ b.map eO)) else none) = _
  rw [if_pos (by rw [List.length_map, List.length_map, sizeLine_eq]; omega), ← List.map_append]
  rfl
theorem app_okA {k : Nat} {a b : List Op} (ha : ∀ o ∈ a, OpOk k o) (hb : ∀ o ∈ b, OpOk k o) : ∀ o ∈ a ++ b, OpOk k o := fun o ho => by
  rcases List.mem_append.mp ho with q | q
  · exact ha o q
  · exact hb o q
theorem run_repeat (hP : PT tb) (hn : 5 ≤ n) {k : Nat} (h1 : 1 ≤ k) (h3 : k ≤ 3) {a : List Op} (ha : ActOk k a) : run gl tb fu n 14 [.d (nI k), .d (eA a)] t = .ok (.d (eOS (unlike k a (a ++ a)))) t := by
  rw [run_py (hP 14 (by decide)) rfl (by omega)]
  show R.bnd (exs gl _ fu B_repeat_state [.val (.d (nI k)), .val (.d (eA a))] t) _ = _
  have e1 := run_check_items (gl := gl) (fu := fu) (t := t) hP (show 2 ≤ n - 1 by omega) h1 h3
  have e2 := run_check_action (gl := gl) (fu := fu) (t := t) hP (show 4 ≤ n - 1 by omega) ha
  have e3 := run_first_unlike (gl := gl) (fu := fu) (t := t) hP (show 2 ≤ n - 1 by omega) h1 h3 ha.2 (app_okA ha.2 ha.2)
  have hl := ha.1
  simp only [nI_def] at e1 e2 e3
  simp [B_repeat_state, e1, e2, add_eA (show a.length + a.length ≤ 1000 by omega), e3]
theorem run_exchange (hP : PT tb) (hn : 5 ≤ n) {k : Nat} (h1 : 1 ≤ k) (h3 : k ≤ 3) {a b : List Op} (ha : ActOk k a) (hb : ActOk k b) : run gl tb fu n 15 [.d (nI k), .d (eA a), .d (eA b)] t = .ok (.d (eOS (unlike k (a ++ b) (b ++ a)))) t := by
  rw [run_py (hP 15 (by decide)) rfl (by omega)]
  show R.bnd (exs gl _ fu B_exchange_state [.val (.d (nI k)), .val (.d (eA a)), .val (.d (eA b))] t) _ = _
  have e1 := run_check_items (gl := gl) (fu := fu) (t := t) hP (show 2 ≤ n - 1 by omega) h1 h3
  have e2 := run_check_action (gl := gl) (fu := fu) (t := t) hP (show 4 ≤ n - 1 by omega) ha
  have e2' := run_check_action (gl := gl) (fu := fu) (t := t) hP (show 4 ≤ n - 1 by omega) hb
  have e3 := run_first_unlike (gl := gl) (fu := fu) (t := t) hP (show 2 ≤ n - 1 by omega) h1 h3 (app_okA ha.2 hb.2) (app_okA hb.2 ha.2)
  have hl := ha.1
  have hl' := hb.1
  simp only [nI_def] at e1 e2 e2' e3
  simp [B_exchange_state, e1, e2, e2', add_eA (show a.length + b.length ≤ 1000 by omega), add_eA (show b.length + a.length ≤ 1000 by omega), e3]
theorem eA_nil : PyData.tuple [] = eA [] := rfl
theorem run_back (hP : PT tb) (hn : 5 ≤ n) {k : Nat} (h1 : 1 ≤ k) (h3 : k ≤ 3) {a b : List Op} (ha : ActOk k a) (hb : ActOk k b) : run gl tb fu n 16 [.d (nI k), .d (eA a), .d (eA b)] t = .ok (.d (eOS (unlike k (a ++ b) []))) t := by
  rw [run_py (hP 16 (by decide)) rfl (by omega)]
  show R.bnd (exs gl _ fu B_back_state [.val (.d (nI k)), .val (.d (eA a)), .val (.d (eA b))] t) _ = _
  have e1 := run_check_items (gl := gl) (fu := fu) (t := t) hP (show 2 ≤ n - 1 by omega) h1 h3
  have e2 := run_check_action (gl := gl) (fu := fu) (t := t) hP (show 4 ≤ n - 1 by omega) ha
  have e2' := run_check_action (gl := gl) (fu := fu) (t := t) hP (show 4 ≤ n - 1 by omega) hb
  have e3 := run_first_unlike (gl := gl) (fu := fu) (t := t) hP (show 2 ≤ n - 1 by omega) h1 h3 (app_okA ha.2 hb.2) (b := []) (fun _ h => by cases h)
  have hl := ha.1
  have hl' := hb.1
  simp only [nI_def] at e1 e2 e2' e3
  simp [B_back_state, e1, e2, e2', add_eA (show a.length + b.length ≤ 1000 by omega), eA_nil, e3]
end
end Bk
namespace Bk
open PySem
theorem pureKs_nI : ∀ s : List Nat, pureKs (s.map nI) = true
  | [] => rfl
  | a :: s => by
    simp only [List.map_cons, pureKs, pureKs_nI s]
    rfl
theorem pure_eS (s : List Nat) : pureK (eS s) = true := by
  simp only [eS, pureK]
  exact pureKs_nI s
theorem keyOk_eS (s : List Nat) : keyOk (eS s) = true := by
  unfold keyOk
  rw [pure_eS]
  simp only [eS, PyData.depth, depthAll_nI]
  rfl
theorem nub_sub : ∀ l : List PyData, (nubD l).Sublist l
  | [] => .slnil
  | x :: r => ((List.filter_sublist).trans (nub_sub r)).cons_cons x
theorem nub_len {l : List PyData} (h : ∀ y ∈ l, pureK y = true) : (nubD l).length = l.length ↔ l.Nodup := by
  obtain ⟨m1, m2⟩ := nub_mem l h
  constructor
  · intro e
    rw [(nub_sub l).eq_of_length e] at m2
    exact m2
  · intro n
    exact (perm_nodup m2 n m1).length_eq
/-- no two states are led to the same one -/
def rev (k : Nat) (a : List Op) : Bool := decide ((allS k).map (ap a)).Nodup
theorem map_nodup {α β : Type} {f : α → β} (hf : ∀ x y, f x = f y → x = y) : ∀ {l : List α}, (l.map f).Nodup ↔ l.Nodup
  | [] => by simp
  | x :: l => by
    rw [List.map_cons, List.nodup_cons, List.nodup_cons, map_nodup hf (l := l)]
    refine and_congr_left fun _ => not_congr ⟨fun h => ?_, fun h => List.mem_map_of_mem h⟩
    obtain ⟨y, hy, e⟩ := List.mem_map.mp h
    rw [← hf _ _ e]
    exact hy
theorem allS_len {k : Nat} (h3 : k ≤ 3) : (allS k).length ≤ 27 := by
  match k, h3 with
  | 0, _ => decide
  | 1, _ => decide
  | 2, _ => decide
  | 3, _ => decide
theorem lenSet_states {k : Nat} (h3 : k ≤ 3) (f : List Nat → List Nat) : b1D .lenSet (.list ((allS k).map fun s => eS (f s))) = some (.int ((nubD ((allS k).map fun s => eS (f s))).length : Nat)) := by
  show (if ((allS k).map fun s => eS (f s)).length < 64 ∧ (((allS k).map fun s => eS (f s)).all keyOk) = true then some (PyData.int _) else none) = _
  rw [if_pos]
  refine ⟨by rw [List.length_map]; have := allS_len h3; omega, ?_⟩
  rw [List.all_map, List.all_eq_true]
  exact fun s _ => keyOk_eS _
theorem rev_eq (k : Nat) (a : List Op) : (((nubD ((allS k).map fun s => eS (ap a s))).length : Int) == ((allS k).length : Int)) = rev k a := by
  have h := nub_len (l := (allS k).map fun s => eS (ap a s)) (by
    intro y hy
    obtain ⟨s, _, rfl⟩ := List.mem_map.mp hy
    exact pure_eS _)
  have h2 : ((allS k).map fun s => eS (ap a s)).Nodup ↔ ((allS k).map (ap a)).Nodup := by
    rw [show ((allS k).map fun s => eS (ap a s)) = ((allS k).map (ap a)).map eS by simp]
    exact map_nodup fun x y => eS_inj
  rw [List.length_map] at h
  unfold rev
  by_cases q : ((allS k).map (ap a)).Nodup
  · rw [decide_eq_true q, h.mpr (h2.mpr q)]
    simp
  · rw [decide_eq_false q]
    have : (nubD ((allS k).map fun s => eS (ap a s))).length ≠ (allS k).length := fun e => q (h2.mp (h.mp e))
    simp
    omega
def ops (k : Nat) : List Op := ((List.range k).flatMap fun i => [.add i 1, .add i 2]) ++ ((List.range k).flatMap fun i => ((List.range k).filter fun j => !decide (j = i)).map fun j => .cpy i j) ++ ((List.range k).flatMap fun i => [.set i 0, .set i 1, .set i 2])
theorem ops_ok {k : Nat} : ∀ o ∈ ops k, OpOk k o := by
  intro o ho
  unfold ops at ho
  rcases List.mem_append.mp ho with ho | ho
  · rcases List.mem_append.mp ho with ho | ho
    · obtain ⟨i, hi, ho⟩ := List.mem_flatMap.mp ho
      have hi := List.mem_range.mp hi
      rcases (by simpa using ho : o = .add i 1 ∨ o = .add i 2) with rfl | rfl <;> exact ⟨hi, by decide, by decide⟩
    · obtain ⟨i, hi, ho⟩ := List.mem_flatMap.mp ho
      have hi := List.mem_range.mp hi
      obtain ⟨j, hj, rfl⟩ := List.mem_map.mp ho
      obtain ⟨hj, hne⟩ := List.mem_filter.mp hj
      have hne : ¬ j = i := by simpa using hne
      exact ⟨hi, List.mem_range.mp hj, fun e => hne e.symm⟩
  · obtain ⟨i, hi, ho⟩ := List.mem_flatMap.mp ho
    have hi := List.mem_range.mp hi
    rcases (by simpa using ho : o = .set i 0 ∨ o = .set i 1 ∨ o = .set i 2) with rfl | rfl | rfl <;> exact ⟨hi, by decide⟩
theorem ops_len {k : Nat} (h3 : k ≤ 3) : (ops k).length ≤ 21 := by
  match k, h3 with
  | 0, _ => decide
  | 1, _ => decide
  | 2, _ => decide
  | 3, _ => decide
/-- the ways of so many operations -/
def rowsB (k : Nat) : Nat → List (List Op)
  | 0 => [[]]
  | j + 1 => (rowsB k j).flatMap fun b => (ops k).map fun o => b ++ [o]
theorem rowsB_ok {k : Nat} : ∀ {j : Nat}, ∀ b ∈ rowsB k j, b.length = j ∧ ∀ o ∈ b, OpOk k o
  | 0, b, hb => by
    cases List.mem_singleton.mp hb
    exact ⟨rfl, fun o ho => by cases ho⟩
  | j + 1, b, hb => by
    obtain ⟨c, hc, hb⟩ := List.mem_flatMap.mp hb
    obtain ⟨o, ho, rfl⟩ := List.mem_map.mp hb
    obtain ⟨l, q⟩ := rowsB_ok c hc
    refine ⟨by simp [l], fun p hp => ?_⟩
    rcases List.mem_append.mp hp with z | z
    · exact q p z
    · cases List.mem_singleton.mp z
      exact ops_ok _ ho
theorem flat_len {α β : Type} {f : α → List β} {m : Nat} : ∀ {l : List α}, (∀ x ∈ l, (f x).length ≤ m) → (l.flatMap f).length ≤ l.length * m
  | [], _ => by simp
  | x :: l, h => by
    have i := flat_len (l := l) fun y hy => h y (List.mem_cons_of_mem _ hy)
    have j := h x (List.mem_cons_self ..)
    rw [List.flatMap_cons, List.length_append, List.length_cons, Nat.add_mul]
    omega
theorem rowsB_len {k : Nat} (h3 : k ≤ 3) {j : Nat} (hj : j ≤ 3) : (rowsB k j).length ≤ 9261 := by
  have st : ∀ {j m : Nat}, (rowsB k j).length ≤ m → (rowsB k (j + 1)).length ≤ m * 21 := fun {j m} h => by
    have := flat_len (l := rowsB k j) (f := fun b => (ops k).map fun o => b ++ [o]) (m := 21) fun b _ => by rw [List.length_map]; exact ops_len h3
    exact Nat.le_trans this (Nat.mul_le_mul_right 21 h)
  match j, hj with
  | 0, _ => show 1 ≤ 9261; decide
  | 1, _ => exact Nat.le_trans (st (j := 0) (m := 1) (Nat.le_refl _)) (by decide)
  | 2, _ => exact Nat.le_trans (st (st (j := 0) (m := 1) (Nat.le_refl _))) (by decide)
  | 3, _ => exact Nat.le_trans (st (st (st (j := 0) (m := 1) (Nat.le_refl _)))) (by decide)
def wayB (k : Nat) (a : List Op) : Option (List Op) := if rev k a = true then (rowsB k 0 ++ rowsB k 1 ++ rowsB k 2).find? fun b => (unlike k (a ++ b) []).isNone else none
def eOA : Option (List Op) → PyData
  | none => .none
  | some a => eA a
section
variable {gl : Nat → Option PyData} {tb : Nat → Option Fn} {fu n : Nat} {t : Town}
theorem run_loses (hP : PT tb) (hn : 2 ≤ n) {k : Nat} (h1 : 1 ≤ k) (h3 : k ≤ 3) {a : List Op} (ha : ∀ o ∈ a, OpOk k o) : run gl tb fu n 17 [.d (nI k), .d (eA a)] t = .ok (.d (.bool (rev k a))) t := by
  rw [run_py (hP 17 (by decide)) rfl (by omega)]
  show R.bnd (exs gl _ fu B_loses_nothing [.val (.d (nI k)), .val (.d (eA a)), .emp, .emp] t) _ = _
  have e2 := run_states_of (gl := gl) (fu := fu) (t := t) hP (show 1 ≤ n - 1 by omega) h1 h3
  have e3 := lc_all (gl := gl) (φ := run gl tb fu (n - 1)) (t := t) (enc := eS) (tg := .nm 3) (it := .seq (.var 2)) (e := .call 9 [.var 1, .var 3]) (ρ := [.val (.d (nI k)), .val (.d (eA a)), .val (.d (.list ((allS k).map eS))), .emp]) (allS k) (fun s => eS (ap a s)) (by simp) (by have := allS_len h3; omega) fun s hs => by
    refine ⟨[.val (.d (nI k)), .val (.d (eA a)), .val (.d (.list ((allS k).map eS))), .val (.d (eS s))], by simp [wipeE, slotsT], rfl, ?_, rfl⟩
    simp [run_applied (gl := gl) (fu := fu) (t := t) hP (show 1 ≤ n - 1 by omega) ha (mem_allS.mp hs).1]
  simp only [nI_def] at e2 e3
  simp [B_loses_nothing, e2, e3, lenSet_states h3, rev_eq]
theorem run_reversible (hP : PT tb) (hn : 5 ≤ n) {k : Nat} (h1 : 1 ≤ k) (h3 : k ≤ 3) {a : List Op} (ha : ActOk k a) : run gl tb fu n 18 [.d (nI k), .d (eA a)] t = .ok (.d (.bool (rev k a))) t := by
  rw [run_py (hP 18 (by decide)) rfl (by omega)]
  show R.bnd (exs gl _ fu B_is_reversible [.val (.d (nI k)), .val (.d (eA a))] t) _ = _
  have e1 := run_check_items (gl := gl) (fu := fu) (t := t) hP (show 2 ≤ n - 1 by omega) h1 h3
  have e2 := run_check_action (gl := gl) (fu := fu) (t := t) hP (show 4 ≤ n - 1 by omega) ha
  have e3 := run_loses (gl := gl) (fu := fu) (t := t) hP (show 2 ≤ n - 1 by omega) h1 h3 ha.2
  simp only [nI_def] at e1 e2 e3
  simp [B_is_reversible, e1, e2, e3]
theorem run_operations (hP : PT tb) (hn : 1 ≤ n) {k : Nat} (h1 : 1 ≤ k) (h3 : k ≤ 3) : run gl tb fu n 19 [.d (nI k)] t = .ok (.d (.list ((ops k).map eO))) t := by
  rw [run_py (hP 19 (by decide)) rfl hn]
  match k, h1, h3 with
  | 1, _, _ => rfl
  | 2, _, _ => rfl
  | 3, _, _ => rfl
theorem add_eA1 {a : List Op} {o : Op} (h : a.length ≤ 900) : binD .add (eA a) (.tuple [eO o]) = some (eA (a ++ [o])) := add_eA (a := a) (b := [o]) (by rw [List.length_singleton]; omega)
theorem findSome_if {α β : Type} (p : α → Bool) (g : α → β) : ∀ l : List α, (l.findSome? fun b => if p b = true then some (g b) else none) = (l.find? p).map g
  | [] => rfl
  | x :: l => by
    rw [List.findSome?_cons, List.find?_cons]
    cases p x with
    | true => rfl
    | false => exact findSome_if p g l
/-- one turn: is one of the rows a way back? -/
theorem wb_look (hP : PT tb) (hn : 3 ≤ n) {k : Nat} (h1 : 1 ≤ k) (h3 : k ≤ 3) {a : List Op} (ha : ActOk k a) {j : Nat} (hj : j ≤ 3) (x y z w : Slot) {r : Slot} :
    match (rowsB k j).find? (fun b => (unlike k (a ++ b) []).isNone) with
    | some b => forGo (fun ρ' => exs gl (run gl tb fu (n - 1)) fu B_way_back_f1 ρ') (.nm 4) ((rowsB k j).map eA) [.val (.d (.int k)), .val (.d (eA a)), r, x, y, z, w] t = .ok (.ret (.d (eA b))) t
    | none => ∃ y', forGo (fun ρ' => exs gl (run gl tb fu (n - 1)) fu B_way_back_f1 ρ') (.nm 4) ((rowsB k j).map eA) [.val (.d (.int k)), .val (.d (eA a)), r, x, y, z, w] t = .ok (.next [.val (.d (.int k)), .val (.d (eA a)), r, x, y', z, w]) t := by
  have lp := for_find (enc := eA) (tg := .nm 4) (t := t) (f := fun ρ' => exs gl (run gl tb fu (n - 1)) fu B_way_back_f1 ρ') (fun ρ => ∃ y', ρ = [.val (.d (.int k)), .val (.d (eA a)), r, x, y', z, w]) (fun b => if (unlike k (a ++ b) []).isNone = true then some (.d (eA b)) else none) (rowsB k j) (fun b hb ρ hρ => by
    obtain ⟨y', rfl⟩ := hρ
    obtain ⟨bl, bo⟩ := rowsB_ok b hb
    have al := ha.1
    have r1 := run_first_unlike (gl := gl) (fu := fu) (t := t) hP (show 2 ≤ n - 1 by omega) h1 h3 (app_okA ha.2 bo) (b := []) (fun _ h => by cases h)
    simp only [nI_def] at r1
    refine ⟨[.val (.d (.int k)), .val (.d (eA a)), r, x, .val (.d (eA b)), z, w], by simp, ?_⟩
    cases q : unlike k (a ++ b) [] with
    | none =>
      rw [q] at r1
      simp [B_way_back_f1, add_eA (show a.length + b.length ≤ 1000 by omega), eA_nil, r1, eOS]
    | some s =>
      rw [q] at r1
      refine ⟨[.val (.d (.int k)), .val (.d (eA a)), r, x, .val (.d (eA b)), z, w], ?_, _, rfl⟩
      have e0 : cmpD .isN (eS s) .none = some false := rfl
      simp [B_way_back_f1, add_eA (show a.length + b.length ≤ 1000 by omega), eA_nil, r1, eOS, e0]) [.val (.d (.int k)), .val (.d (eA a)), r, x, y, z, w] ⟨_, rfl⟩
  rw [findSome_if] at lp
  cases q : (rowsB k j).find? fun b => (unlike k (a ++ b) []).isNone with
  | none =>
    rw [q] at lp
    obtain ⟨ρ', e, y', rfl⟩ := lp
    exact ⟨y', e⟩
  | some b =>
    rw [q] at lp
    exact lp
theorem wb_more (hP : PT tb) (hn : 2 ≤ n) {k : Nat} (h1 : 1 ≤ k) (h3 : k ≤ 3) {A : Slot} {j : Nat} (hj : j ≤ 2) (r x y w : Slot) :
    ∃ y' w', forGo (fun ρ' => exs gl (run gl tb fu (n - 1)) fu B_way_back_f2 ρ') (.nm 4) ((rowsB k j).map eA) [.val (.d (.int k)), A, r, x, y, .own (.list []), w] t = .ok (.next [.val (.d (.int k)), A, r, x, y', .own (.list ((rowsB k (j + 1)).map eA)), w']) t := by
  have L := rowsB_len h3 (j := j) (by omega)
  obtain ⟨fl, t', e, q⟩ := for_rule (tg := .nm 4) (f := fun ρ' => exs gl (run gl tb fu (n - 1)) fu B_way_back_f2 ρ') (fun xs ρ t' => t' = t ∧ ∃ acc rem y' w', xs = rem.map eA ∧ (∀ b ∈ rem, b ∈ rowsB k j) ∧ acc.length + rem.length * 21 ≤ 200000 ∧ acc ++ (rem.flatMap fun b => (ops k).map fun o => b ++ [o]) = rowsB k (j + 1) ∧ ρ = [.val (.d (.int k)), A, r, x, y', .own (.list (acc.map eA)), w'])
    (fun fl t' => t' = t ∧ ∃ y' w', fl = .next [.val (.d (.int k)), A, r, x, y', .own (.list ((rowsB k (j + 1)).map eA)), w'])
    (fun ρ t' h => by
      obtain ⟨rfl, acc, rem, y', w', e1, _, _, e2, rfl⟩ := h
      have : rem = [] := by simpa using e1.symm
      subst this
      simp at e2
      subst e2
      exact ⟨rfl, y', w', rfl⟩)
    (fun c xs ρ t' h => by
      obtain ⟨rfl, acc, rem, y', w', e1, hm, hl, e2, rfl⟩ := h
      cases rem with
      | nil => simp at e1
      | cons b rem =>
        rw [List.map_cons] at e1
        obtain ⟨rfl, rfl⟩ := List.cons.inj e1
        obtain ⟨bl, bo⟩ := rowsB_ok b (hm b (List.mem_cons_self ..))
        have e3 := run_operations (gl := gl) (fu := fu) (t := t') hP (show 1 ≤ n - 1 by omega) h1 h3
        have ol := ops_len h3
        simp only [nI_def] at e3
        have e4 := lc_all (gl := gl) (φ := run gl tb fu (n - 1)) (t := t') (enc := eO) (tg := .nm 6) (it := .seq (.call 19 [.var 0])) (e := .bin .add (.var 4) (.tup [.var 6])) (ρ := [.val (.d (.int k)), A, r, x, .val (.d (eA b)), .own (.list (acc.map eA)), w']) (ops k) (fun o => eA (b ++ [o])) (by simp [e3]) (by omega) fun o ho => by
          refine ⟨[.val (.d (.int k)), A, r, x, .val (.d (eA b)), .own (.list (acc.map eA)), .val (.d (eO o))], by simp [wipeE, slotsT], rfl, ?_, rfl⟩
          have : isDict (eO o) = false := plain_nd (plain_eO o)
          simp [asP_at this, add_eA1 (show b.length ≤ 900 by omega)]
        refine ⟨[.val (.d (.int k)), A, r, x, .val (.d (eA b)), .own (.list (acc.map eA)), w'], by simp, .inl ⟨[.val (.d (.int k)), A, r, x, .val (.d (eA b)), .own (.list ((acc ++ (ops k).map fun o => b ++ [o]).map eA)), w'], t', ?_, rfl, acc ++ (ops k).map (fun o => b ++ [o]), rem, .val (.d (eA b)), w', rfl, fun c hc => hm c (List.mem_cons_of_mem _ hc), ?_, ?_, rfl⟩⟩
        · simp only [B_way_back_f2, exs_cons]
          rw [ext_own _ _ _ _ _ _ _ (acc.map eA) rfl]
          rw [isOwn_lc, if_neg Bool.false_ne_true, e4, bnd_ok, asP_lst, bnd_ok]
          rw [List.length_cons, Nat.add_mul] at hl
          dsimp only
          rw [if_pos (by rw [List.length_map, List.length_map, sizeLine_eq]; omega)]
          simp [Function.comp_def]
        · rw [List.length_append, List.length_map]
          rw [List.length_cons, Nat.add_mul] at hl
          omega
        · rw [← e2, List.flatMap_cons, List.append_assoc])
    ((rowsB k j).map eA) [.val (.d (.int k)), A, r, x, y, .own (.list []), w] t ⟨rfl, [], rowsB k j, y, w, rfl, fun _ h => h, by simp; omega, rfl, rfl⟩
  obtain ⟨rfl, y', w', rfl⟩ := q
  exact ⟨y', w', e⟩
theorem wb_turn (hP : PT tb) (hn : 3 ≤ n) {k : Nat} (h1 : 1 ≤ k) (h3 : k ≤ 3) {a : List Op} (ha : ActOk k a) {j : Nat} (hj : j ≤ 2) (y z w : Slot) :
    match (rowsB k j).find? (fun b => (unlike k (a ++ b) []).isNone) with
    | some b => exs gl (run gl tb fu (n - 1)) fu B_way_back_f3 [.val (.d (.int k)), .val (.d (eA a)), .val (.d (.list ((rowsB k j).map eA))), .val (.d (.int j)), y, z, w] t = .ok (.ret (.d (eA b))) t
    | none => ∃ y' z' w', exs gl (run gl tb fu (n - 1)) fu B_way_back_f3 [.val (.d (.int k)), .val (.d (eA a)), .val (.d (.list ((rowsB k j).map eA))), .val (.d (.int j)), y, z, w] t = .ok (.next [.val (.d (.int k)), .val (.d (eA a)), .val (.d (.list (if j < 2 then (rowsB k (j + 1)).map eA else []))), .val (.d (.int j)), y', z', w']) t := by
  have l1 := wb_look (gl := gl) (fu := fu) (t := t) hP hn h1 h3 ha (j := j) (by omega) (.val (.d (.int j))) y z w (r := .val (.d (.list ((rowsB k j).map eA))))
  cases q : (rowsB k j).find? (fun b => (unlike k (a ++ b) []).isNone) with
  | some b =>
    rw [q] at l1
    dsimp only at l1 ⊢
    simp [B_way_back_f3, ex_for, l1]
  | none =>
    rw [q] at l1
    dsimp only at l1 ⊢
    obtain ⟨y1, l1⟩ := l1
    obtain ⟨y2, w2, l2⟩ := wb_more (gl := gl) (fu := fu) (t := t) hP (show 2 ≤ n by omega) h1 h3 (A := .val (.d (eA a))) (j := j) hj (.val (.d (.list ((rowsB k j).map eA)))) (.val (.d (.int j))) y1 w
    by_cases hj2 : j < 2
    · have hd : ((j : Int) < 2) := by omega
      refine ⟨y2, .val (.d (.list ((rowsB k (j + 1)).map eA))), w2, ?_⟩
      simp [B_way_back_f3, ex_for, l1, l2, fresh, hj2, hd]
    · have hd : ¬ ((j : Int) < 2) := by omega
      refine ⟨y2, .own (.list ((rowsB k (j + 1)).map eA)), w2, ?_⟩
      simp [B_way_back_f3, ex_for, l1, l2, fresh, hj2, hd]
theorem run_way_back (hP : PT tb) (hn : 6 ≤ n) {k : Nat} (h1 : 1 ≤ k) (h3 : k ≤ 3) {a : List Op} (ha : ActOk k a) : run gl tb fu n 20 [.d (nI k), .d (eA a)] t = .ok (.d (eOA (wayB k a))) t := by
  rw [run_py (hP 20 (by decide)) rfl (by omega)]
  show R.bnd (exs gl _ fu B_way_back [.val (.d (nI k)), .val (.d (eA a)), .emp, .emp, .emp, .emp, .emp] t) _ = _
  have e1 := run_check_items (gl := gl) (fu := fu) (t := t) hP (show 2 ≤ n - 1 by omega) h1 h3
  have e2 := run_check_action (gl := gl) (fu := fu) (t := t) hP (show 4 ≤ n - 1 by omega) ha
  have e3 := run_loses (gl := gl) (fu := fu) (t := t) hP (show 2 ≤ n - 1 by omega) h1 h3 ha.2
  simp only [nI_def] at e1 e2 e3
  unfold wayB
  cases hr : rev k a with
  | false =>
    rw [hr] at e3
    simp [B_way_back, e1, e2, e3, eOA]
  | true =>
    rw [hr] at e3
    rw [if_pos rfl]
    have rg : rangeD (.int 3) = some [.int ((0 : Nat) : Int), .int ((1 : Nat) : Int), .int ((2 : Nat) : Int)] := rfl
    have t0 := fun y z w => wb_turn (gl := gl) (fu := fu) (t := t) hP (show 3 ≤ n by omega) h1 h3 ha (j := 0) (by omega) y z w
    have t1 := fun y z w => wb_turn (gl := gl) (fu := fu) (t := t) hP (show 3 ≤ n by omega) h1 h3 ha (j := 1) (by omega) y z w
    have t2 := fun y z w => wb_turn (gl := gl) (fu := fu) (t := t) hP (show 3 ≤ n by omega) h1 h3 ha (j := 2) (by omega) y z w
    have r0 : (rowsB k 0).map eA = [.tuple []] := rfl
    rw [List.find?_append, List.find?_append]
    cases q0 : (rowsB k 0).find? (fun b => (unlike k (a ++ b) []).isNone) with
    | some b =>
      have t0 := t0 .emp .emp .emp
      rw [q0] at t0
      dsimp only at t0
      rw [r0] at t0
      push_cast at t0
      simp [B_way_back, e1, e2, e3, ex_for, rg, forGo_cons, t0, eOA]
    | none =>
      have t0 := t0 .emp .emp .emp
      rw [q0] at t0
      dsimp only at t0
      obtain ⟨y0, z0, w0, t0⟩ := t0
      rw [r0] at t0
      simp only [show (0 : Nat) < 2 by decide, if_true] at t0
      push_cast at t0
      have t1 := t1 y0 z0 w0
      cases q1 : (rowsB k 1).find? (fun b => (unlike k (a ++ b) []).isNone) with
      | some b =>
        rw [q1] at t1
        dsimp only at t1
        push_cast at t1
        simp [B_way_back, e1, e2, e3, ex_for, rg, forGo_cons, t0, t1, eOA]
      | none =>
        rw [q1] at t1
        dsimp only at t1
        obtain ⟨y1, z1, w1, t1⟩ := t1
        simp only [show (1 : Nat) < 2 by decide, if_true] at t1
        push_cast at t1
        have t2 := t2 y1 z1 w1
        cases q2 : (rowsB k 2).find? (fun b => (unlike k (a ++ b) []).isNone) with
        | some b =>
          rw [q2] at t2
          dsimp only at t2
          push_cast at t2
          simp [B_way_back, e1, e2, e3, ex_for, rg, forGo_cons, t0, t1, t2, eOA]
        | none =>
          rw [q2] at t2
          dsimp only at t2
          obtain ⟨y2, z2, w2, t2⟩ := t2
          push_cast at t2
          simp [B_way_back, e1, e2, e3, ex_for, rg, forGo_cons, t0, t1, t2, eOA]
end
end Bk
namespace Bk
open PySem
/-- the def at ix, up to its names -/
def HasD (tb : Nat → Option Fn) (ix len np : Nat) (body : List IS) : Prop := ∃ N, tb ix = some (.py N np body) ∧ N.length = len
section
variable {gl : Nat → Option PyData} {tb : Nat → Option Fn} {fu n : Nat} {t : Town}
theorem run_has {f np len : Nat} {body : List IS} {vs : List Val} (h : HasD tb f len np body) (hl : vs.length = np) (hn : 1 ≤ n) : run gl tb fu n f vs t = R.bnd (exs gl (run gl tb fu (n - 1)) fu body (vs.map .val ++ List.replicate (len - np) .emp) t) fun fl t => endV fl t := by
  obtain ⟨N, e, rfl⟩ := h
  rw [run_py e hl hn, ← hl]
  rfl
theorem run_draw (h : tb 70 = some (.nat 3 drawV)) (hn : 1 ≤ n) {m : Nat} (h1 : 1 ≤ m) (h2 : m ≤ 1000) (t : Town) : ∃ d t', d < m ∧ run gl tb fu n 70 [.scr, .town, .d (.int m)] t = .ok (.d (.int (d : Nat))) t' := by
  have a := draw_lo (τ := t) (many := m) (by omega)
  have b := draw_hi (τ := t) (many := m) (by omega)
  refine ⟨(drawOf t m).toNat, drawT t m, by omega, ?_⟩
  rw [run_nat h rfl hn]
  show drawV [.scr, .town, .d (.int m)] t = _
  unfold drawV
  show (if (1 : Int) ≤ m ∧ (m : Int) < 1073741824 then R.ok (Val.d (.int (drawOf t m))) (drawT t m) else R.bad) = _
  rw [if_pos ⟨by omega, by omega⟩]
  congr 3
  omega
theorem rangeN {m : Nat} (h : m ≤ 1000) : rangeD (.int m) = some ((List.range m).map nI) := by
  show (if -1000000 ≤ (m : Int) ∧ (m : Int) ≤ 1000000 then some ((List.range (m : Int).toNat).map fun i => PyData.int (i : Nat)) else none) = _
  rw [if_pos ⟨by omega, by omega⟩]
  simp
theorem mod_nat {a k : Nat} (hk : 1 ≤ k) : binD .mod (.int a) (.int k) = some (.int ((a % k : Nat) : Int)) := by
  show (if 0 < (k : Int) then some (PyData.int ((a : Int) % k)) else none) = _
  rw [if_pos (by omega)]
  rfl
/-- a drawn action -/
theorem run_law_action (hd : tb 70 = some (.nat 3 drawV)) (ha : HasD tb 75 8 3 H_action) (hn : 2 ≤ n) {k : Nat} (h1 : 1 ≤ k) (h3 : k ≤ 3) (t : Town) : ∃ a t', ActOk k a ∧ run gl tb fu n 75 [.scr, .town, .d (nI k)] t = .ok (.d (eA a)) t' := by
  rw [run_has ha rfl (by omega)]
  show ∃ a t', _ ∧ R.bnd (exs gl _ fu H_action [.val .scr, .val .town, .val (.d (nI k)), .emp, .emp, .emp, .emp, .emp] t) _ = _
  obtain ⟨m, t1, hm, e1⟩ := run_draw (gl := gl) (fu := fu) hd (show 1 ≤ n - 1 by omega) (m := 4) (by omega) (by omega) t
  obtain ⟨fl, t2, e2, a, q1, q2, j1, j2, j3, j4, rfl⟩ := for_rule (tg := .nm 4) (f := fun ρ' => exs gl (run gl tb fu (n - 1)) fu H_action_f1 ρ') (fun xs ρ _ => ∃ a j1 j2 j3 j4, a.length + xs.length ≤ 3 ∧ (∀ o ∈ a, OpOk k o) ∧ ρ = [.val .scr, .val .town, .val (.d (nI k)), .val (.d (eA a)), j1, j2, j3, j4])
    (fun fl _ => ∃ a, a.length ≤ 3 ∧ (∀ o ∈ a, OpOk k o) ∧ ∃ j1 j2 j3 j4, fl = .next [.val .scr, .val .town, .val (.d (nI k)), .val (.d (eA a)), j1, j2, j3, j4])
    (fun ρ t h => by
      obtain ⟨a, j1, j2, j3, j4, h1, h2, rfl⟩ := h
      exact ⟨a, by simpa using h1, h2, j1, j2, j3, j4, rfl⟩)
    (fun x xs ρ t h => by
      obtain ⟨a, j1, j2, j3, j4, hl, ho, rfl⟩ := h
      rw [List.length_cons] at hl
      refine ⟨[.val .scr, .val .town, .val (.d (nI k)), .val (.d (eA a)), .val (.d x), j2, j3, j4], by simp, .inl ?_⟩
      obtain ⟨w, t1, hw, e1⟩ := run_draw (gl := gl) (fu := fu) hd (show 1 ≤ n - 1 by omega) (m := 4) (by omega) (by omega) t
      obtain ⟨i, t2, hi, e2⟩ := run_draw (gl := gl) (fu := fu) hd (show 1 ≤ n - 1 by omega) (m := k) (by omega) (by omega) t1
      have add1 : ∀ o : Op, binD .add (eA a) (.tuple [eO o]) = some (eA (a ++ [o])) := fun o => add_eA1 (by omega)
      have okk : ∀ o : Op, OpOk k o → ∀ p ∈ a ++ [o], OpOk k p := fun o h p hp => by
        rcases List.mem_append.mp hp with z | z
        · exact ho p z
        · cases List.mem_singleton.mp z
          exact h
      push_cast at e1
      by_cases c1 : w < 2
      · obtain ⟨v, t3, hv, e3⟩ := run_draw (gl := gl) (fu := fu) hd (show 1 ≤ n - 1 by omega) (m := 2) (by omega) (by omega) t2
        push_cast at e3
        have c1' : (w : Int) < 2 := by omega
        have ad := add1 (.add i (v + 1))
        simp only [eO, nI_def] at ad
        have ev' : (((v + 1 : Nat)) : Int) = 1 + (v : Int) := by omega
        rw [ev'] at ad
        refine ⟨[.val .scr, .val .town, .val (.d (nI k)), .val (.d (eA (a ++ [.add i (v + 1)]))), .val (.d x), .val (.d (.int w)), .val (.d (.int i)), j4], t3, ?_, a ++ [.add i (v + 1)], _, _, _, _, by simp; omega, okk (.add i (v + 1)) ⟨hi, by omega, by omega⟩, rfl⟩
        simp [H_action_f1, e1, e2, e3, c1', setPar, ad]
      · have c1' : ¬ (w : Int) < 2 := by omega
        by_cases c2 : w = 2 ∨ k = 1
        · obtain ⟨v, t3, hv, e3⟩ := run_draw (gl := gl) (fu := fu) hd (show 1 ≤ n - 1 by omega) (m := 3) (by omega) (by omega) t2
          push_cast at e3
          have ad := add1 (.set i v)
          simp only [eO, nI_def] at ad
          refine ⟨[.val .scr, .val .town, .val (.d (nI k)), .val (.d (eA (a ++ [.set i v]))), .val (.d x), .val (.d (.int w)), .val (.d (.int i)), j4], t3, ?_, a ++ [.set i v], _, _, _, _, by simp; omega, okk (.set i v) ⟨hi, hv⟩, rfl⟩
          by_cases c3 : w = 2
          · subst c3
            simp [H_action_f1, e1, e2, e3, setPar, ad]
          · have c3' : ¬ (w : Int) = 2 := by omega
            have c4 : k = 1 := by omega
            subst c4
            push_cast at e2
            simp [H_action_f1, e1, e2, e3, c1', c3', setPar, ad]
        · have k2 : 2 ≤ k := by omega
          obtain ⟨v, t3, hv, e3⟩ := run_draw (gl := gl) (fu := fu) hd (show 1 ≤ n - 1 by omega) (m := k - 1) (by omega) (by omega) t2
          have ek : ((k - 1 : Nat) : Int) = (k : Int) - 1 := by omega
          rw [ek] at e3
          have c3 : ¬ (w : Int) = 2 := by omega
          have c4 : ¬ (k : Int) = 1 := by omega
          have ad := add1 (.cpy i ((i + 1 + v) % k))
          simp only [eO, nI_def] at ad
          have mo := mod_nat (a := i + 1 + v) (k := k) h1
          push_cast at mo ad
          refine ⟨[.val .scr, .val .town, .val (.d (nI k)), .val (.d (eA (a ++ [.cpy i ((i + 1 + v) % k)]))), .val (.d x), .val (.d (.int w)), .val (.d (.int i)), .val (.d (.int (i + 1 + v : Int)))], t3, ?_, a ++ [.cpy i ((i + 1 + v) % k)], _, _, _, _, by simp; omega, okk (.cpy i ((i + 1 + v) % k)) ⟨hi, Nat.mod_lt _ (by omega), ?_⟩, rfl⟩
          · simp [H_action_f1, e1, e2, e3, c1', c3, c4, setPar, ad, mo]
          · intro z
            by_cases hh : i + 1 + v < k
            · rw [Nat.mod_eq_of_lt hh] at z
              omega
            · have : (i + 1 + v) % k = i + 1 + v - k := by
                rw [Nat.mod_eq_sub_mod (by omega), Nat.mod_eq_of_lt (by omega)]
              omega)
    ((List.range m).map nI) [.val .scr, .val .town, .val (.d (nI k)), .val (.d (eA [])), .emp, .emp, .emp, .emp] t1 ⟨[], _, _, _, _, by simp; omega, (fun _ h => by cases h), rfl⟩
  refine ⟨a, t2, ⟨q1, q2⟩, ?_⟩
  push_cast at e1
  simp only [nI_def] at e2
  simp [H_action, e1, ex_for, rangeN (show m ≤ 1000 by omega), eA_nil, e2]
end
end Bk
namespace Bk
open PySem
structure Step where
  act : List Op
  bck : Option (List Op)
  ref : Bool
structure Plan where
  k : Nat
  steps : List Step
  again : Bool
inductive Call where
  | back (i : Nat)
  | go (i : Nat)
  deriving DecidableEq
inductive Out where
  | lost | missed | ok | refused
  deriving DecidableEq
inductive EndK where
  | done | undone | stuck
  deriving DecidableEq
/-- what comes next -/
inductive Nx where
  | call (c : Call)
  | fin (e : EndK)
  deriving DecidableEq
def eB : Option (List Op) → PyData
  | none => .none
  | some a => eA a
def eT (s : Step) : PyData := .tuple [eA s.act, eB s.bck, .bool s.ref]
def eRule (b : Bool) : Str := if b = true then S_again else S_back
def eP (p : Plan) : PyData := .tuple [nI p.k, .tuple (p.steps.map eT), .str (eRule p.again)]
def eC : Call → PyData
  | .back i => .tuple [.str S_back, nI i]
  | .go i => .tuple [.str S_do, nI i]
def Call.pos : Call → Nat
  | .back i => i
  | .go i => i
def eCs (l : List Call) : PyData := .tuple (l.map eC)
def oS : Out → Str
  | .lost => S_lost
  | .missed => S_missed
  | .ok => S_ok
  | .refused => S_refused
def kS : EndK → Str
  | .done => S_done
  | .undone => S_undone
  | .stuck => S_stuck
def eX : Nx → PyData
  | .call c => eC c
  | .fin e => .str (kS e)
def StepOk (k : Nat) (s : Step) : Prop := ActOk k s.act ∧ ∀ b, s.bck = some b → ActOk k b
structure PlanOk (p : Plan) : Prop where
  k1 : 1 ≤ p.k
  k3 : p.k ≤ 3
  n1 : 1 ≤ p.steps.length
  n4 : p.steps.length ≤ 4
  st : ∀ s ∈ p.steps, StepOk p.k s
/-! ### the calls -/
def hasBack (p : Plan) (i : Nat) : Bool := match p.steps[i]? with
  | some s => s.bck.isSome
  | none => false
def calls (p : Plan) : List Call := ((List.range p.steps.length).filter (hasBack p)).map .back ++ (List.range p.steps.length).map .go
theorem mem_calls {p : Plan} {c : Call} : c ∈ calls p ↔ c.pos < p.steps.length ∧ ∀ i, c = .back i → hasBack p i = true := by
  unfold calls
  rw [List.mem_append, List.mem_map, List.mem_map]
  cases c with
  | back i =>
    constructor
    · rintro (⟨j, h, e⟩ | ⟨j, h, e⟩)
      · cases e
        rw [List.mem_filter, List.mem_range] at h
        exact ⟨h.1, fun j e => by cases e; exact h.2⟩
      · cases e
    · rintro ⟨h1, h2⟩
      exact .inl ⟨i, by rw [List.mem_filter, List.mem_range]; exact ⟨h1, h2 i rfl⟩, rfl⟩
  | go i =>
    constructor
    · rintro (⟨j, h, e⟩ | ⟨j, h, e⟩)
      · cases e
      · cases e
        exact ⟨List.mem_range.mp h, fun j e => by cases e⟩
    · rintro ⟨h1, _⟩
      exact .inr ⟨i, List.mem_range.mpr h1, rfl⟩
/-! ### encodings are told apart -/
theorem eqv_eC (a b : Call) : PyData.eqv (eC a) (eC b) = decide (a = b) := by
  have n : ∀ i j : Nat, ((i : Int) == j) = decide (i = j) := fun i j => by
    by_cases h : i = j
    · simp [h]
    · simp [h]
      omega
  have s1 : (S_back == S_back) = true := rfl
  have s2 : (S_do == S_do) = true := rfl
  have s3 : (S_back == S_do) = false := rfl
  have s4 : (S_do == S_back) = false := rfl
  cases a <;> cases b <;> simp [eC, PyData.eqv, PyData.eqvAll, n, s1, s2, s3, s4]
theorem plain_eC (c : Call) : (eC c).plain = true := by cases c <;> rfl
theorem depth_eC (c : Call) : (eC c).depth = 1 := by cases c <;> rfl
theorem shaped_eC (c : Call) : shapedB (eC c) = true := by
  unfold shapedB
  rw [plain_eC, depth_eC]
  rfl
theorem depthAll_map {α : Type} {f : α → PyData} {m : Nat} : ∀ {l : List α}, (∀ x ∈ l, (f x).depth ≤ m) → PyData.depthAll (l.map f) ≤ m
  | [], _ => Nat.zero_le _
  | x :: l, h => by
    have h1 := h x (List.mem_cons_self ..)
    have h2 := depthAll_map (f := f) fun y hy => h y (List.mem_cons_of_mem _ hy)
    show max (f x).depth (PyData.depthAll (l.map f)) ≤ m
    omega
theorem shaped_list {α : Type} {f : α → PyData} {l : List α} (h : ∀ x ∈ l, (f x).plain = true ∧ (f x).depth ≤ 60) : shapedB (.list (l.map f)) = true := by
  unfold shapedB
  have h1 : (PyData.list (l.map f)).plain = true := plainAll_map fun x hx => (h x hx).1
  have h2 : (PyData.list (l.map f)).depth ≤ 64 := by
    show PyData.depthAll (l.map f) + 1 ≤ 64
    have := depthAll_map (f := f) fun x hx => (h x hx).2
    omega
  rw [h1, Bool.true_and, decide_eq_true_eq]
  exact h2
theorem shaped_tuple {α : Type} {f : α → PyData} {l : List α} (h : ∀ x ∈ l, (f x).plain = true ∧ (f x).depth ≤ 60) : shapedB (.tuple (l.map f)) = true := by
  unfold shapedB
  have h1 : (PyData.tuple (l.map f)).plain = true := plainAll_map fun x hx => (h x hx).1
  have h2 : (PyData.tuple (l.map f)).depth ≤ 64 := by
    show PyData.depthAll (l.map f) + 1 ≤ 64
    have := depthAll_map (f := f) fun x hx => (h x hx).2
    omega
  rw [h1, Bool.true_and, decide_eq_true_eq]
  exact h2
theorem shaped_eCs (l : List Call) : shapedB (eCs l) = true := shaped_tuple fun c _ => ⟨plain_eC c, by rw [depth_eC]; decide⟩
theorem any_eC (c : Call) (l : List Call) : ((l.map eC).any fun z => PyData.eqv z (eC c)) = decide (c ∈ l) := by
  induction l with
  | nil => simp
  | cons x l ih =>
    rw [List.map_cons, List.any_cons, ih, eqv_eC]
    by_cases h : x = c
    · simp [h]
    · have : ¬ c = x := fun e => h e.symm
      simp [h, this]
theorem mem_eC (c : Call) (l : List Call) : cmpD .mem (eC c) (eCs l) = some (decide (c ∈ l)) := by
  have nd : isDict (eC c) = false := by cases c <;> rfl
  show (if isDict (eC c) = true then none else cmpU .mem (eC c) (eCs l)) = _
  rw [nd, if_neg Bool.false_ne_true]
  show (if shapedB (eC c) = true ∧ shapedB (.tuple (l.map eC)) = true then some ((l.map eC).any fun z => PyData.eqv z (eC c)) else none) = _
  rw [if_pos ⟨shaped_eC c, shaped_eCs l⟩, any_eC]
theorem nmem_eC (c : Call) (l : List Call) : cmpD .nmem (eC c) (eCs l) = some (!decide (c ∈ l)) := by
  have nd : isDict (eC c) = false := by cases c <;> rfl
  show (if isDict (eC c) = true then none else cmpU .nmem (eC c) (eCs l)) = _
  rw [nd, if_neg Bool.false_ne_true]
  show (if shapedB (eC c) = true ∧ shapedB (.tuple (l.map eC)) = true then some ((l.map eC).any fun z => PyData.eqv z (eC c)) else none).map (!·) = _
  rw [if_pos ⟨shaped_eC c, shaped_eCs l⟩, any_eC]
  rfl
/-! ### texts -/
@[simp] theorem s_back : (S_back == S_back) = true := rfl
@[simp] theorem s_do_back : (S_do == S_back) = false := rfl
@[simp] theorem s_back_do : (S_back == S_do) = false := rfl
@[simp] theorem s_do : (S_do == S_do) = true := rfl
@[simp] theorem s_ag : (S_again == S_again) = true := rfl
@[simp] theorem s_back_ag : (S_back == S_again) = false := rfl
theorem oS_eq (a b : Out) : (oS a == oS b) = decide (a = b) := by cases a <;> cases b <;> rfl
@[simp] theorem oS_ok (a : Out) : (oS a == S_ok) = decide (a = .ok) := oS_eq a .ok
@[simp] theorem oS_refused (a : Out) : (oS a == S_refused) = decide (a = .refused) := oS_eq a .refused
@[simp] theorem rule_again (b : Bool) : (eRule b == S_again) = b := by cases b <;> rfl
/-! ### what the defs compute -/
/-- the steps below i are taken back -/
def takeB (p : Plan) : Nat → Nx
  | 0 => .fin .undone
  | i + 1 => if hasBack p i = true then .call (.back i) else .fin .stuck
def nextN (p : Plan) (c : Call) (o : Out) : Nx := match c with
  | .back i => if o = .ok then takeB p i else .call (.back i)
  | .go i => if o = .ok then (if i + 1 < p.steps.length then .call (.go (i + 1)) else .fin .done)
    else if o = .refused then takeB p i
    else if p.again = true then .call (.go i) else takeB p (i + 1)
def isGo : Call → Bool
  | .go _ => true
  | _ => false
def mayRef (p : Plan) (i : Nat) : Bool := match p.steps[i]? with
  | some s => s.ref
  | none => false
def outs (p : Plan) (g : List Call) (c : Call) (made : List Call) : List Out :=
  if (!isGo c || (!mayRef p c.pos || (decide (c ∈ g) && decide (c ∈ made)))) = true then [.lost, .missed, .ok] else [.lost, .missed, .ok, .refused]
def effB (g : List Call) (c : Call) (made : List Call) : Bool := !decide (c ∈ g) || (!decide (c ∈ made) && (isGo c || decide (Call.go c.pos ∈ made)))
@[simp] theorem subP1 (p : Plan) : subAt (eP p) (.int 1) = some (.tuple (p.steps.map eT)) := rfl
@[simp] theorem subP0 (p : Plan) : subAt (eP p) (.int 0) = some (nI p.k) := rfl
@[simp] theorem subP2 (p : Plan) : subAt (eP p) (.int 2) = some (.str (eRule p.again)) := rfl
@[simp] theorem subT0 (s : Step) : subAt (eT s) (.int 0) = some (eA s.act) := rfl
@[simp] theorem subT1 (s : Step) : subAt (eT s) (.int 1) = some (eB s.bck) := rfl
@[simp] theorem subT2 (s : Step) : subAt (eT s) (.int 2) = some (.bool s.ref) := rfl
theorem subSt {p : Plan} {i : Nat} {s : Step} (h : p.steps[i]? = some s) : subAt (.tuple (p.steps.map eT)) (.int (i : Nat)) = some (eT s) := by
  have hi : i < p.steps.length := (List.getElem?_eq_some_iff.mp h).1
  show L2.atI (p.steps.map eT) (i : Nat) = _
  rw [atI_nat (by rw [List.length_map]; exact hi), List.getElem?_map, h]
  rfl
@[simp] theorem notN_eB (b : Option (List Op)) : cmpD .notN (eB b) .none = some b.isSome := by cases b <;> rfl
@[simp] theorem isN_eB (b : Option (List Op)) : cmpD .isN (eB b) .none = some b.isNone := by cases b <;> rfl
theorem at_step {p : Plan} {i : Nat} (h : i < p.steps.length) : ∃ s, p.steps[i]? = some s ∧ s ∈ p.steps := ⟨p.steps[i], by simp [h], List.getElem_mem h⟩
section
variable {gl : Nat → Option PyData} {tb : Nat → Option Fn} {fu n : Nat} {t : Town}
theorem run_taking_back (hP : PT tb) (hn : 1 ≤ n) {p : Plan} {i : Nat} (hi : i ≤ p.steps.length) : run gl tb fu n 32 [.d (eP p), .d (.int ((i : Int) - 1))] t = .ok (.d (eX (takeB p i))) t := by
  rw [run_py (hP 32 (by decide)) rfl hn]
  show R.bnd (exs gl _ fu B_taking_back [.val (.d (eP p)), .val (.d (.int ((i : Int) - 1)))] t) _ = _
  cases i with
  | zero => simp [B_taking_back, takeB, eX, kS]
  | succ i =>
    obtain ⟨s, hs, _⟩ := at_step (show i < p.steps.length by omega)
    have e : (((i + 1 : Nat) : Int) - 1) = (i : Nat) := by omega
    rw [e]
    have e2 : ¬ ((i : Int) < 0) := by omega
    have e3 := subSt hs
    cases hb : s.bck with
    | none =>
      have hh : hasBack p i = false := by unfold hasBack; rw [hs]; simp [hb]
      simp [B_taking_back, takeB, eX, kS, e2, e3, hb, hh]
    | some b =>
      have hh : hasBack p i = true := by unfold hasBack; rw [hs]; simp [hb]
      simp [B_taking_back, takeB, eX, eC, e2, e3, hb, hh]
end
end Bk
namespace Bk
open PySem
theorem setTg2 {x y : PyData} {i j : Nat} {ρ : Ev} (hi : i < ρ.length) (hj : j < ρ.length) : setTg (.tp [.nm i, .nm j]) (.d (.tuple [x, y])) ρ = some ((ρ.set i (.val (.d x))).set j (.val (.d y))) := by
  unfold setTg
  unfold setTg.setTgs
  rw [setTg_nm, if_pos hi]
  show setTg.setTgs [.nm j] [y] _ = _
  unfold setTg.setTgs
  rw [setTg_nm, if_pos (by simpa using hj)]
  rfl
def cS : Call → Str
  | .back _ => S_back
  | .go _ => S_do
theorem eC_eq (c : Call) : eC c = .tuple [.str (cS c), nI c.pos] := by cases c <;> rfl
@[simp] theorem cS_back (c : Call) : (cS c == S_back) = !isGo c := by cases c <;> rfl
@[simp] theorem cS_do (c : Call) : (cS c == S_do) = isGo c := by cases c <;> rfl
@[simp] theorem subC0 (c : Call) : subAt (eC c) (.int 0) = some (.str (cS c)) := by cases c <;> rfl
@[simp] theorem subC1 (c : Call) : subAt (eC c) (.int 1) = some (nI c.pos) := by cases c <;> rfl
@[simp] theorem asP_eC (c : Call) (t : Town) : asP (.d (eC c)) t = .ok (eC c) t := by cases c <;> rfl
@[simp] theorem asP_eCs (c : List Call) (t : Town) : asP (.d (eCs c)) t = .ok (eCs c) t := rfl
@[simp] theorem asP_eS (c : List Nat) (t : Town) : asP (.d (eS c)) t = .ok (eS c) t := rfl
@[simp] theorem asP_eX (x : Nx) (t : Town) : asP (.d (eX x)) t = .ok (eX x) t := by
  cases x with
  | call c => cases c <;> rfl
  | fin e => rfl
section
variable {gl : Nat → Option PyData} {tb : Nat → Option Fn} {fu n : Nat} {t : Town}
theorem run_next_of (hP : PT tb) (hn : 2 ≤ n) {p : Plan} {c : Call} (hc : c.pos < p.steps.length) (o : Out) : run gl tb fu n 33 [.d (eP p), .d (eC c), .d (.str (oS o))] t = .ok (.d (eX (nextN p c o))) t := by
  rw [run_py (hP 33 (by decide)) rfl (by omega)]
  show R.bnd (exs gl _ fu B_next_of [.val (.d (eP p)), .val (.d (eC c)), .val (.d (.str (oS o))), .emp, .emp] t) _ = _
  have e1 := run_taking_back (gl := gl) (fu := fu) (t := t) hP (show 1 ≤ n - 1 by omega) (show c.pos ≤ p.steps.length by omega)
  have e2 := run_taking_back (gl := gl) (fu := fu) (t := t) hP (show 1 ≤ n - 1 by omega) (show c.pos + 1 ≤ p.steps.length by omega)
  have e3 : (((c.pos + 1 : Nat) : Int) - 1) = (c.pos : Nat) := by omega
  rw [e3] at e2
  have e4 : setTg (.tp [.nm 3, .nm 4]) (.d (eC c)) [.val (.d (eP p)), .val (.d (eC c)), .val (.d (.str (oS o))), .emp, .emp] = some [.val (.d (eP p)), .val (.d (eC c)), .val (.d (.str (oS o))), .val (.d (.str (cS c))), .val (.d (nI c.pos))] := by
    rw [eC_eq, setTg2 (by simp) (by simp)]
    rfl
  cases c with
  | back i =>
    simp only [Call.pos] at e1 e2
    cases o with
    | ok => simp [B_next_of, e4, isGo, cS, Call.pos, nextN, e1]
    | _ => simp [B_next_of, e4, isGo, cS, Call.pos, nextN, eX]
  | go i =>
    simp only [Call.pos] at e1 e2
    cases o with
    | ok =>
      by_cases hl : i + 1 < p.steps.length
      · have hl' : (i : Int) + 1 < (p.steps.length : Int) := by omega
        have e6 : eC (.go (i + 1)) = .tuple [.str S_do, .int ((i : Int) + 1)] := rfl
        simp [B_next_of, e4, isGo, cS, Call.pos, nextN, hl, hl', eX, e6]
      · have hl' : ¬ (i : Int) + 1 < (p.steps.length : Int) := by omega
        simp [B_next_of, e4, isGo, cS, Call.pos, nextN, hl, hl', eX, kS]
    | refused => simp [B_next_of, e4, isGo, cS, Call.pos, nextN, e1]
    | _ =>
      cases ha : p.again with
      | true => simp [B_next_of, e4, isGo, cS, Call.pos, nextN, ha, eX]
      | false => simp [B_next_of, e4, isGo, cS, Call.pos, nextN, ha, e2]
theorem run_outcomes_of (hP : PT tb) (hn : 1 ≤ n) {p : Plan} {g : List Call} {c : Call} {made : List Call} (hc : c.pos < p.steps.length) : run gl tb fu n 31 [.d (eP p), .d (eCs g), .d (eC c), .d (eCs made)] t = .ok (.d (.list ((outs p g c made).map fun o => .str (oS o)))) t := by
  rw [run_py (hP 31 (by decide)) rfl (by omega)]
  show R.bnd (exs gl _ fu B_outcomes_of [.val (.d (eP p)), .val (.d (eCs g)), .val (.d (eC c)), .val (.d (eCs made)), .emp, .emp] t) _ = _
  have e4 : setTg (.tp [.nm 4, .nm 5]) (.d (eC c)) [.val (.d (eP p)), .val (.d (eCs g)), .val (.d (eC c)), .val (.d (eCs made)), .emp, .emp] = some [.val (.d (eP p)), .val (.d (eCs g)), .val (.d (eC c)), .val (.d (eCs made)), .val (.d (.str (cS c))), .val (.d (nI c.pos))] := by
    rw [eC_eq, setTg2 (by simp) (by simp)]
    rfl
  obtain ⟨s, hs, _⟩ := at_step hc
  have e5 := subSt hs
  have hm : mayRef p c.pos = s.ref := by unfold mayRef; rw [hs]
  have m1 := mem_eC c g
  have m2 := mem_eC c made
  cases hg : isGo c with
  | false => simp [B_outcomes_of, e4, hg, outs, oS]
  | true =>
    cases hr : s.ref with
    | false => simp [B_outcomes_of, e4, hg, outs, oS, e5, hm, hr]
    | true =>
      by_cases h1 : c ∈ g
      · by_cases h2 : c ∈ made
        · simp [B_outcomes_of, e4, hg, outs, oS, e5, hm, hr, m1, m2, h1, h2]
        · simp [B_outcomes_of, e4, hg, outs, oS, e5, hm, hr, m1, m2, h1, h2]
      · simp [B_outcomes_of, e4, hg, outs, oS, e5, hm, hr, m1, h1]
theorem run_has_effect (hP : PT tb) (hn : 1 ≤ n) {g : List Call} {c : Call} {made : List Call} : run gl tb fu n 34 [.d (eCs g), .d (eC c), .d (eCs made)] t = .ok (.d (.bool (effB g c made))) t := by
  rw [run_py (hP 34 (by decide)) rfl (by omega)]
  show R.bnd (exs gl _ fu B_has_effect [.val (.d (eCs g)), .val (.d (eC c)), .val (.d (eCs made))] t) _ = _
  have m1 := nmem_eC c g
  have m2 := nmem_eC c made
  have m3 := mem_eC (.go c.pos) made
  have e : eC (.go c.pos) = .tuple [.str S_do, nI c.pos] := rfl
  rw [e] at m3
  simp only [nI_def] at m3
  by_cases h1 : c ∈ g
  · by_cases h2 : c ∈ made
    · simp [B_has_effect, m1, m2, h1, h2, effB]
    · cases hg : isGo c with
      | true => simp [B_has_effect, m1, m2, h1, h2, effB, hg]
      | false => simp [B_has_effect, m1, m2, m3, h1, h2, effB, hg]
  · simp [B_has_effect, m1, h1, effB]
end
end Bk
namespace Bk
open PySem
/-! ### the order of tuples, place by place -/
theorem lt_cons {x y : PyData} {xs ys : List PyData} (h : PySem.W.alike x y = true) : PySem.W.dataLt (.tuple (x :: xs)) (.tuple (y :: ys)) = if PyData.eqv x y = true then PySem.W.dataLt (.tuple xs) (.tuple ys) else PySem.W.dataLt x y := by
  obtain ⟨a1, a2⟩ := PySem.W.toks_eqv x y h
  unfold PySem.W.dataLt
  simp only [PySem.W.keyToks]
  rw [PySem.W.toks_all_cons, PySem.W.toks_all_cons, PyProof.Rows.lex_self]
  cases e : PyData.eqv x y with
  | true => rw [if_pos rfl, a1 e, PySem.W.lex_pre]
  | false => rw [if_neg Bool.false_ne_true, a2 e]
theorem lt_nil_nil : PySem.W.dataLt (.tuple []) (.tuple []) = false := rfl
theorem lt_intD (a b : Int) : PySem.W.dataLt (.int a) (.int b) = decide (a < b) := by
  unfold PySem.W.dataLt
  simp only [PySem.W.keyToks]
  by_cases h : a = b
  · subst h
    rw [PyProof.Rows.lex_self]
    simp [PyProof.Rows.lexLt]
  · rw [PyProof.Rows.lex_diff (fun e => h (Sum.inl.inj e))]
    rfl
def ltC : Call → Call → Bool
  | .back i, .back j => decide (i < j)
  | .back _, .go _ => true
  | .go _, .back _ => false
  | .go i, .go j => decide (i < j)
theorem alike_eC (a b : Call) : PySem.W.alike (eC a) (eC b) = true := by cases a <;> cases b <;> rfl
theorem lt_eC (a b : Call) : PySem.W.dataLt (eC a) (eC b) = ltC a b := by
  have n : ∀ i j : Nat, (if PyData.eqv (nI i) (nI j) = true then PySem.W.dataLt (.tuple []) (.tuple []) else PySem.W.dataLt (nI i) (nI j)) = decide (i < j) := fun i j => by
    rw [lt_nil_nil]
    show (if ((i : Int) == j) = true then false else PySem.W.dataLt (.int i) (.int j)) = _
    rw [lt_intD]
    by_cases h : i = j
    · simp [h]
    · have : ¬ (i : Int) = j := by omega
      simp [this]
  have s : ∀ (u v : Str) (i j : Nat), PySem.W.dataLt (.tuple [.str u, nI i]) (.tuple [.str v, nI j]) = if (u == v) = true then decide (i < j) else PySem.W.dataLt (.str u) (.str v) := fun u v i j => by
    rw [lt_cons rfl, lt_cons rfl, n]
    rfl
  cases a with
  | back i =>
    cases b with
    | back j => exact (s S_back S_back i j).trans rfl
    | go j => exact (s S_back S_do i j).trans (by rw [if_neg (by simp)]; exact (by decide +kernel : PySem.W.dataLt (.str S_back) (.str S_do) = true))
  | go i =>
    cases b with
    | back j => exact (s S_do S_back i j).trans (by rw [if_neg (by simp)]; exact (by decide +kernel : PySem.W.dataLt (.str S_do) (.str S_back) = false))
    | go j => exact (s S_do S_do i j).trans rfl
theorem range_pw (n : Nat) : (List.range n).Pairwise (· < ·) := List.pairwise_lt_range
theorem calls_pw (p : Plan) : (calls p).Pairwise fun a b => ltC a b = true := by
  unfold calls
  rw [List.pairwise_append]
  refine ⟨?_, ?_, ?_⟩
  · rw [List.pairwise_map]
    refine (List.Pairwise.filter _ (range_pw _)).imp fun h => ?_
    exact decide_eq_true h
  · rw [List.pairwise_map]
    refine (range_pw _).imp fun h => ?_
    exact decide_eq_true h
  · intro a ha b hb
    obtain ⟨i, _, rfl⟩ := List.mem_map.mp ha
    obtain ⟨j, _, rfl⟩ := List.mem_map.mp hb
    rfl
theorem ltC_irr (a : Call) : ltC a a = false := by cases a <;> simp [ltC]
theorem calls_nodup (p : Plan) : (calls p).Nodup := (calls_pw p).imp fun {a b} h e => by
  subst e
  rw [ltC_irr] at h
  cases h
theorem calls_len (p : Plan) (h : p.steps.length ≤ 4) : (calls p).length ≤ 8 := by
  unfold calls
  rw [List.length_append, List.length_map, List.length_map, List.length_range]
  have := List.length_filter_le (hasBack p) (List.range p.steps.length)
  rw [List.length_range] at this
  omega
/-- sorted, without repeats, of the plan's calls -/
def MadeOk (p : Plan) (m : List Call) : Prop := m = (calls p).filter fun c => decide (c ∈ m)
def addC (p : Plan) (m : List Call) (c : Call) : List Call := (calls p).filter fun x => decide (x ∈ m) || decide (x = c)
theorem nodup_filter {α : Type} {f : α → Bool} {l : List α} (h : l.Nodup) : (l.filter f).Nodup := List.Pairwise.filter f h
theorem MadeOk.mem {p : Plan} {m : List Call} (h : MadeOk p m) {c : Call} (hc : c ∈ m) : c ∈ calls p := by
  rw [h] at hc
  exact (List.mem_filter.mp hc).1
theorem MadeOk.nodup {p : Plan} {m : List Call} (h : MadeOk p m) : m.Nodup := by
  rw [h]
  exact nodup_filter (calls_nodup p)
theorem MadeOk.len {p : Plan} {m : List Call} (h : MadeOk p m) (h4 : p.steps.length ≤ 4) : m.length ≤ 8 := by
  rw [h]
  exact Nat.le_trans (List.length_filter_le _ _) (calls_len p h4)
theorem filter_made (p : Plan) (f : Call → Bool) : MadeOk p ((calls p).filter f) := by
  unfold MadeOk
  refine List.filter_congr fun c hc => ?_
  rw [Bool.eq_iff_iff, decide_eq_true_eq, List.mem_filter]
  exact ⟨fun h => ⟨hc, h⟩, fun h => h.2⟩
theorem made_nil (p : Plan) : MadeOk p [] := by
  have : (calls p).filter (fun _ => false) = [] := List.filter_eq_nil_iff.mpr fun _ _ => by simp
  rw [← this]
  exact filter_made p _
theorem add_made (p : Plan) (m : List Call) (c : Call) : MadeOk p (addC p m c) := filter_made p _
theorem mem_addC {p : Plan} {m : List Call} {c x : Call} (hm : MadeOk p m) (hc : c ∈ calls p) : x ∈ addC p m c ↔ x ∈ m ∨ x = c := by
  unfold addC
  rw [List.mem_filter, Bool.or_eq_true, decide_eq_true_eq, decide_eq_true_eq]
  constructor
  · exact fun h => h.2
  · rintro (h | rfl)
    · exact ⟨hm.mem h, .inl h⟩
    · exact ⟨hc, .inr rfl⟩
/-- two of them with the same members are one -/
theorem made_ext {p : Plan} {m m' : List Call} (h : MadeOk p m) (h' : MadeOk p m') (e : ∀ c, c ∈ m ↔ c ∈ m') : m = m' := by
  rw [h, h']
  refine List.filter_congr fun c _ => ?_
  rw [Bool.eq_iff_iff, decide_eq_true_eq, decide_eq_true_eq]
  exact e c
/-! ### sorted(set(made + (call,))) -/
theorem isort_asc : ∀ {l : List PyData}, l.Pairwise (fun a b => PySem.W.dataLt b a = false) → isort l = l
  | [], _ => rfl
  | x :: l, h => by
    obtain ⟨h1, h2⟩ := List.pairwise_cons.mp h
    show insD x (isort l) = _
    rw [isort_asc h2]
    cases l with
    | nil => rfl
    | cons y r =>
      show (if PySem.W.dataLt y x = true then _ else x :: y :: r) = _
      rw [h1 y (List.mem_cons_self ..), if_neg Bool.false_ne_true]
theorem ltC_asymm {a b : Call} (h : ltC a b = true) : ltC b a = false := by
  cases a <;> cases b <;> simp [ltC] at h ⊢
  · omega
  · omega
theorem isort_made {p : Plan} {m : List Call} (h : MadeOk p m) : isort (m.map eC) = m.map eC := by
  refine isort_asc ?_
  rw [List.pairwise_map, h]
  refine (List.Pairwise.filter _ (calls_pw p)).imp fun {a b} q => ?_
  rw [lt_eC]
  exact ltC_asymm q
theorem eC_inj {a b : Call} (h : eC a = eC b) : a = b := by
  have := eqv_eC a b
  rw [h, eqv_eC] at this
  simpa using this.symm
theorem pure_eC (c : Call) : pureK (eC c) = true := by cases c <;> rfl
theorem keyOk_eC (c : Call) : keyOk (eC c) = true := by cases c <;> rfl
theorem nodup_eC {l : List Call} (h : l.Nodup) : (l.map eC).Nodup := by
  rw [List.nodup_iff_pairwise_ne, List.pairwise_map]
  exact h.imp fun hn e => hn (eC_inj e)
/-- without those that come again -/
def nubC : List Call → List Call
  | [] => []
  | x :: r => x :: (nubC r).filter fun y => !decide (x = y)
theorem nubD_eC : ∀ l : List Call, nubD (l.map eC) = (nubC l).map eC
  | [] => rfl
  | x :: l => by
    show eC x :: (nubD (l.map eC)).filter (fun y => !PyData.eqv (eC x) y) = eC x :: ((nubC l).filter fun y => !decide (x = y)).map eC
    rw [nubD_eC l, List.filter_map]
    congr 2
    refine List.filter_congr fun y _ => ?_
    simp [Function.comp, eqv_eC]
theorem mem_nubC {c : Call} : ∀ {l : List Call}, c ∈ nubC l ↔ c ∈ l
  | [] => Iff.rfl
  | x :: l => by
    show c ∈ x :: (nubC l).filter (fun y => !decide (x = y)) ↔ _
    rw [List.mem_cons, List.mem_cons, List.mem_filter, mem_nubC (l := l)]
    constructor
    · rintro (h | h)
      · exact .inl h
      · exact .inr h.1
    · rintro (h | h)
      · exact .inl h
      · by_cases e : x = c
        · exact .inl e.symm
        · exact .inr ⟨h, by simp [e]⟩
theorem nodup_nubC : ∀ l : List Call, (nubC l).Nodup
  | [] => List.nodup_nil
  | x :: l => by
    show (x :: (nubC l).filter (fun y => !decide (x = y))).Nodup
    rw [List.nodup_cons]
    refine ⟨fun h => ?_, nodup_filter (nodup_nubC l)⟩
    have := (List.mem_filter.mp h).2
    simp at this
theorem alike_eCs (l : List Call) : allAlike (l.map eC) = true := by
  refine List.all_eq_true.mpr fun x hx => List.all_eq_true.mpr fun y hy => ?_
  obtain ⟨a, _, rfl⟩ := List.mem_map.mp hx
  obtain ⟨b, _, rfl⟩ := List.mem_map.mp hy
  exact alike_eC a b
theorem sortL_eC (l : List Call) : sortL (l.map eC) = some (isort (l.map eC)) := by
  unfold sortL
  rw [if_pos]
  refine ⟨alike_eCs l, ?_, ?_⟩
  · unfold sortable
    rw [Bool.or_eq_true]
    left
    refine List.all_eq_true.mpr fun x hx => ?_
    obtain ⟨a, _, rfl⟩ := List.mem_map.mp hx
    cases a <;> rfl
  · refine List.all_eq_true.mpr fun x hx => ?_
    obtain ⟨a, _, rfl⟩ := List.mem_map.mp hx
    rw [depth_eC]
    rfl
theorem sortedSet_eC {p : Plan} {l m : List Call} (hl : l.length < 64) (hm : MadeOk p m) (e : ∀ c, c ∈ l ↔ c ∈ m) (b : Bool) : b1D .sortedSet (if b = true then .tuple (l.map eC) else .list (l.map eC)) = some (.list (m.map eC)) := by
  have key : (if (l.map eC).length < 64 ∧ ((l.map eC).all keyOk) = true then (sortL (nubD (l.map eC))).map PyData.list else none) = some (.list (m.map eC)) := by
    rw [if_pos ⟨by rw [List.length_map]; exact hl, List.all_eq_true.mpr fun x hx => by obtain ⟨a, _, rfl⟩ := List.mem_map.mp hx; exact keyOk_eC a⟩, nubD_eC, sortL_eC]
    have pm : ((nubC l).map eC).Perm (m.map eC) := ((List.perm_ext_iff_of_nodup (nodup_nubC l) hm.nodup).mpr fun c => by rw [mem_nubC]; exact e c).map eC
    rw [isort_perm pm (nodup_eC (nodup_nubC l)) (fun y hy => by obtain ⟨a, _, rfl⟩ := List.mem_map.mp hy; exact pure_eC a) (fun x hx y hy => by
      obtain ⟨a, _, rfl⟩ := List.mem_map.mp hx
      obtain ⟨b, _, rfl⟩ := List.mem_map.mp hy
      exact alike_eC a b), isort_made hm]
    rfl
  cases b with
  | true => exact key
  | false => exact key
end Bk
namespace Bk
open PySem
def actOf (p : Plan) (c : Call) : List Op := match p.steps[c.pos]? with
  | none => []
  | some s => if isGo c = true then s.act else s.bck.getD []
def callT (p : Plan) (g : List Call) (c : Call) (m : List Call) (s : List Nat) : List Call × List Nat :=
  if effB g c m = true then (addC p m c, ap (actOf p c) s) else if isGo c = true then (addC p m c, s) else (m, s)
def moveT (p : Plan) (g : List Call) (c : Call) (m : List Call) (s : List Nat) (o : Out) : List Call × List Nat :=
  if o = .ok ∨ o = .lost then callT p g c m s else (m, s)
theorem act_ok {p : Plan} (hp : PlanOk p) {c : Call} (hc : c ∈ calls p) : ActOk p.k (actOf p c) := by
  obtain ⟨h1, h2⟩ := mem_calls.mp hc
  obtain ⟨s, hs, hm⟩ := at_step h1
  unfold actOf
  rw [hs]
  dsimp only
  split
  · exact (hp.st s hm).1
  · cases hb : s.bck with
    | none => exact ⟨by simp, by simp⟩
    | some b => exact (hp.st s hm).2 b hb
theorem callT_ok {p : Plan} (hp : PlanOk p) {g : List Call} {c : Call} (hc : c ∈ calls p) {m : List Call} (hm : MadeOk p m) {s : List Nat} (hs : StOk p.k s) : MadeOk p (callT p g c m s).1 ∧ StOk p.k (callT p g c m s).2 := by
  unfold callT
  split
  · exact ⟨add_made p m c, ap_ok (act_ok hp hc).2 hs⟩
  · split
    · exact ⟨add_made p m c, hs⟩
    · exact ⟨hm, hs⟩
theorem moveT_ok {p : Plan} (hp : PlanOk p) {g : List Call} {c : Call} (hc : c ∈ calls p) {m : List Call} (hm : MadeOk p m) {s : List Nat} (hs : StOk p.k s) (o : Out) : MadeOk p (moveT p g c m s o).1 ∧ StOk p.k (moveT p g c m s o).2 := by
  unfold moveT
  split
  · exact callT_ok hp hc hm hs
  · exact ⟨hm, hs⟩
theorem takeB_ok {p : Plan} : ∀ {i : Nat} {c : Call}, i ≤ p.steps.length → takeB p i = .call c → c ∈ calls p
  | 0, _, _, h => by cases h
  | i + 1, c, hi, h => by
    have h : (if hasBack p i = true then Nx.call (.back i) else .fin .stuck) = .call c := h
    by_cases hb : hasBack p i = true
    · rw [if_pos hb] at h
      cases h
      exact mem_calls.mpr ⟨by show i < _; omega, fun j e => by cases e; exact hb⟩
    · rw [if_neg hb] at h
      cases h
theorem next_ok {p : Plan} {c c' : Call} {o : Out} (hc : c ∈ calls p) (h : nextN p c o = .call c') : c' ∈ calls p := by
  obtain ⟨h1, h2⟩ := mem_calls.mp hc
  cases c with
  | back i =>
    have h1 : i < p.steps.length := h1
    unfold nextN at h
    dsimp only at h
    split at h
    · exact takeB_ok (by omega) h
    · cases h
      exact hc
  | go i =>
    have h1 : i < p.steps.length := h1
    unfold nextN at h
    dsimp only at h
    split at h
    · split at h
      · rename_i hl
        cases h
        exact mem_calls.mpr ⟨hl, fun j e => by cases e⟩
      · cases h
    · split at h
      · exact takeB_ok (by omega) h
      · split at h
        · cases h
          exact hc
        · exact takeB_ok (by omega) h
theorem add_eCs {l m : List Call} (h : l.length + m.length ≤ 1000) : binD .add (eCs l) (eCs m) = some (eCs (l ++ m)) := by
  show (if (l.map eC).length + (m.map eC).length ≤ sizeLine then some (PyData.tuple (l.map eC ++ m.map eC)) else none) = _
  rw [if_pos (by rw [List.length_map, List.length_map, sizeLine_eq]; omega), ← List.map_append]
  rfl
theorem set_add {p : Plan} (hp : PlanOk p) {m : List Call} (hm : MadeOk p m) {c : Call} (hc : c ∈ calls p) : b1D .sortedSet (eCs (m ++ [c])) = some (.list ((addC p m c).map eC)) := by
  have := hm.len hp.n4
  refine sortedSet_eC (p := p) (l := m ++ [c]) (by simp; omega) (add_made p m c) (fun x => ?_) true
  rw [mem_addC hm hc]
  simp
section
variable {gl : Nat → Option PyData} {tb : Nat → Option Fn} {fu n : Nat} {t : Town}
theorem run_called (hP : PT tb) (hn : 2 ≤ n) {p : Plan} (hp : PlanOk p) {g : List Call} {c : Call} (hc : c ∈ calls p) {m : List Call} (hm : MadeOk p m) {s : List Nat} (hs : StOk p.k s) :
    run gl tb fu n 35 [.d (eP p), .d (eCs g), .d (eC c), .d (eCs m), .d (eS s)] t = .ok (.d (.tuple [eCs (callT p g c m s).1, eS (callT p g c m s).2])) t := by
  rw [run_py (hP 35 (by decide)) rfl (by omega)]
  show R.bnd (exs gl _ fu B_called [.val (.d (eP p)), .val (.d (eCs g)), .val (.d (eC c)), .val (.d (eCs m)), .val (.d (eS s)), .emp] t) _ = _
  have e1 := run_has_effect (gl := gl) (fu := fu) (t := t) hP (show 1 ≤ n - 1 by omega) (g := g) (c := c) (made := m)
  have hl := hm.len hp.n4
  have e2 : binD .add (eCs m) (.tuple [eC c]) = some (eCs (m ++ [c])) := add_eCs (m := [c]) (by simp; omega)
  have e3 := set_add hp hm hc
  have e4 : b1D .tuple (.list ((addC p m c).map eC)) = some (eCs (addC p m c)) := rfl
  obtain ⟨h1, h2⟩ := mem_calls.mp hc
  obtain ⟨st, hst, hmem⟩ := at_step h1
  have e5 := subSt hst
  have e6 := run_applied (gl := gl) (fu := fu) (t := t) hP (show 1 ≤ n - 1 by omega) (act_ok hp hc).2 hs.1
  unfold callT
  cases he : effB g c m with
  | true =>
    rw [he] at e1
    cases hg : isGo c with
    | true =>
      have ea : actOf p c = st.act := by unfold actOf; rw [hst]; simp [hg]
      rw [ea] at e6
      simp [B_called, e1, e2, e3, e4, e5, e6, hg, ea]
    | false =>
      have hb : ∃ b, st.bck = some b := by
        cases c with
        | back i =>
          have := h2 i rfl
          unfold hasBack at this
          have hst' : p.steps[i]? = some st := hst
          rw [hst'] at this
          exact Option.isSome_iff_exists.mp this
        | go i => cases hg
      obtain ⟨b, hb⟩ := hb
      have ea : actOf p c = b := by unfold actOf; rw [hst]; simp [hg, hb]
      rw [ea] at e6
      simp [B_called, e1, e2, e3, e4, e5, e6, hg, ea, hb, eB]
  | false =>
    rw [he] at e1
    cases hg : isGo c with
    | true => simp [B_called, e1, e2, e3, e4, hg]
    | false => simp [B_called, e1, hg]
theorem mem_out (o : Out) : cmpD .mem (.str (oS o)) (.tuple [.str S_ok, .str S_lost]) = some (decide (o = .ok ∨ o = .lost)) := by cases o <;> decide +kernel
theorem run_moved (hP : PT tb) (hn : 3 ≤ n) {p : Plan} (hp : PlanOk p) {g : List Call} {c : Call} (hc : c ∈ calls p) {m : List Call} (hm : MadeOk p m) {s : List Nat} (hs : StOk p.k s) (o : Out) :
    run gl tb fu n 36 [.d (eP p), .d (eCs g), .d (eC c), .d (eCs m), .d (eS s), .d (.str (oS o))] t = .ok (.d (.tuple [eX (nextN p c o), eCs (moveT p g c m s o).1, eS (moveT p g c m s o).2])) t := by
  rw [run_py (hP 36 (by decide)) rfl (by omega)]
  show R.bnd (exs gl _ fu B_moved [.val (.d (eP p)), .val (.d (eCs g)), .val (.d (eC c)), .val (.d (eCs m)), .val (.d (eS s)), .val (.d (.str (oS o)))] t) _ = _
  have e1 := run_called (gl := gl) (fu := fu) (t := t) hP (show 2 ≤ n - 1 by omega) hp hc hm hs (g := g)
  have e2 := run_next_of (gl := gl) (fu := fu) (t := t) hP (show 2 ≤ n - 1 by omega) (mem_calls.mp hc).1 o
  have e3 := mem_out o
  unfold moveT
  by_cases ho : o = .ok ∨ o = .lost
  · have e4 : setTg (.tp [.nm 3, .nm 4]) (.d (.tuple [eCs (callT p g c m s).1, eS (callT p g c m s).2])) [.val (.d (eP p)), .val (.d (eCs g)), .val (.d (eC c)), .val (.d (eCs m)), .val (.d (eS s)), .val (.d (.str (oS o)))] = some [.val (.d (eP p)), .val (.d (eCs g)), .val (.d (eC c)), .val (.d (eCs (callT p g c m s).1)), .val (.d (eS (callT p g c m s).2)), .val (.d (.str (oS o)))] := by
      rw [setTg2 (by simp) (by simp)]
      rfl
    rw [if_pos ho]
    rw [decide_eq_true ho] at e3
    simp [B_moved, e1, e2, e3, e4]
  · rw [if_neg ho]
    rw [decide_eq_false ho] at e3
    simp [B_moved, e2, e3]
end
end Bk
namespace Bk
open PySem
structure Node where
  here : Call
  made : List Call
  st : List Nat
  deriving DecidableEq
abbrev Run := List (Call × Out)
abbrev End := EndK × List Nat
def eV (e : Call × Out) : PyData := .tuple [.str (cS e.1), nI e.1.pos, .str (oS e.2)]
def eR (r : Run) : PyData := .tuple (r.map eV)
def eN (n : Node) : PyData := .tuple [eC n.here, eCs n.made, eS n.st]
def eE (e : End) : PyData := .tuple [.str (kS e.1), eS e.2]
structure NodeOk (p : Plan) (n : Node) : Prop where
  h : n.here ∈ calls p
  m : MadeOk p n.made
  s : StOk p.k n.st
def eKn (l : List Node) : List (PyData × PyData) := l.map fun n => (eN n, .bool true)
def eF (l : List (End × Run)) : List (PyData × PyData) := l.map fun x => (eE x.1, eR x.2)
def eLv (l : List (Run × Node)) : List PyData := l.map fun x => .tuple [eR x.1, eN x.2]
/-! ### equality -/
theorem eqvAll_map {α : Type} [DecidableEq α] {f : α → PyData} (h : ∀ a b, PyData.eqv (f a) (f b) = decide (a = b)) : ∀ l m : List α, PyData.eqvAll (l.map f) (m.map f) = decide (l = m)
  | [], [] => by simp [PyData.eqvAll]
  | [], _ :: _ => by simp [PyData.eqvAll]
  | _ :: _, [] => by simp [PyData.eqvAll]
  | a :: l, b :: m => by
    simp only [List.map_cons, PyData.eqvAll, eqvAll_map h l m, h]
    by_cases h1 : a = b <;> by_cases h2 : l = m <;> simp [h1, h2]
theorem eqv_eCs (l m : List Call) : PyData.eqv (eCs l) (eCs m) = decide (l = m) := by
  simp only [eCs, PyData.eqv]
  exact eqvAll_map eqv_eC l m
theorem eqv_eN (a b : Node) : PyData.eqv (eN a) (eN b) = decide (a = b) := by
  obtain ⟨a1, a2, a3⟩ := a
  obtain ⟨b1, b2, b3⟩ := b
  simp only [eN, PyData.eqv, PyData.eqvAll, eqv_eC, eqv_eCs, eqv_eS]
  by_cases h1 : a1 = b1 <;> by_cases h2 : a2 = b2 <;> by_cases h3 : a3 = b3 <;> simp [h1, h2, h3]
theorem kS_eq (a b : EndK) : (kS a == kS b) = decide (a = b) := by cases a <;> cases b <;> rfl
theorem eqv_eE (a b : End) : PyData.eqv (eE a) (eE b) = decide (a = b) := by
  obtain ⟨a1, a2⟩ := a
  obtain ⟨b1, b2⟩ := b
  have : PyData.eqv (.str (kS a1)) (.str (kS b1)) = decide (a1 = b1) := kS_eq a1 b1
  simp only [eE, PyData.eqv, PyData.eqvAll, eqv_eS] at this ⊢
  rw [this]
  by_cases h1 : a1 = b1 <;> by_cases h2 : a2 = b2 <;> simp [h1, h2]
theorem nat_eq (i j : Nat) : ((i : Int) == j) = decide (i = j) := by
  by_cases h : i = j
  · simp [h]
  · simp [h]
    omega
theorem cS_eq (a b : Call) : ((cS a == cS b) && decide (a.pos = b.pos)) = decide (a = b) := by
  rw [Bool.eq_iff_iff, Bool.and_eq_true, decide_eq_true_eq, decide_eq_true_eq]
  cases a <;> cases b <;> simp [cS, Call.pos]
theorem eqv_eV (a b : Call × Out) : PyData.eqv (eV a) (eV b) = decide (a = b) := by
  obtain ⟨a1, a2⟩ := a
  obtain ⟨b1, b2⟩ := b
  have h1 := cS_eq a1 b1
  simp only [eV, PyData.eqv, PyData.eqvAll, nat_eq, oS_eq, Bool.and_true]
  rw [← Bool.and_assoc, h1]
  by_cases q1 : a1 = b1 <;> by_cases q2 : a2 = b2 <;> simp [q1, q2]
theorem eqv_eR (a b : Run) : PyData.eqv (eR a) (eR b) = decide (a = b) := by
  simp only [eR, PyData.eqv]
  exact eqvAll_map eqv_eV a b
/-! ### keys -/
theorem pureKs_map {α : Type} {f : α → PyData} {l : List α} (h : ∀ x ∈ l, pureK (f x) = true) : pureKs (l.map f) = true := by
  induction l with
  | nil => rfl
  | cons x l ih =>
    simp only [List.map_cons, pureKs, Bool.and_eq_true]
    exact ⟨h x (by simp), ih fun y hy => h y (by simp [hy])⟩
theorem pure_eCs (s : List Call) : pureK (eCs s) = true := by
  simp only [eCs, pureK]
  exact pureKs_map fun x _ => pure_eC x
theorem depth_eCs (l : List Call) : (eCs l).depth ≤ 2 := by
  have h : PyData.depthAll (l.map eC) ≤ 1 := depthAll_map fun c _ => by rw [depth_eC]; decide
  show PyData.depthAll (l.map eC) + 1 ≤ 2
  omega
theorem depth_eS (s : List Nat) : (eS s).depth = 1 := by
  show PyData.depthAll (s.map nI) + 1 = 1
  rw [depthAll_nI]
theorem depth_eN (n : Node) : (eN n).depth ≤ 3 := by
  have h1 := depth_eC n.here
  have h2 := depth_eCs n.made
  have h3 := depth_eS n.st
  show max (eC n.here).depth (max (eCs n.made).depth (max (eS n.st).depth 0)) + 1 ≤ 3
  omega
theorem keyOk_eN (n : Node) : keyOk (eN n) = true := by
  unfold keyOk
  have h1 : isTup (eN n) = true := rfl
  have h2 : pureK (eN n) = true := by simp [eN, pureK, pureKs, pure_eC, pure_eCs, pure_eS]
  have h3 := depth_eN n
  rw [h1, h2, Bool.true_and, Bool.true_and, decide_eq_true_eq]
  omega
theorem keyOk_eE (e : End) : keyOk (eE e) = true := by
  unfold keyOk
  have h1 : isTup (eE e) = true := rfl
  have h2 : pureK (eE e) = true := by simp [eE, pureK, pureKs, pure_eS]
  have h3 : (eE e).depth ≤ 8 := by
    show max 0 (max (eS e.2).depth 0) + 1 ≤ 8
    rw [depth_eS]
    decide
  rw [h1, h2, Bool.true_and, Bool.true_and, decide_eq_true_eq]
  exact h3
/-! ### the dicts -/
theorem look_kn (n : Node) : ∀ l : List Node, (lookD (eN n) (eKn l)).isSome = decide (n ∈ l)
  | [] => by simp [eKn, lookD]
  | x :: l => by
    have ih := look_kn n l
    show (if PyData.eqv (eN x) (eN n) = true then some (PyData.bool true) else lookD (eN n) (eKn l)).isSome = _
    rw [eqv_eN]
    by_cases h : x = n
    · simp [h]
    · have : ¬ n = x := fun e => h e.symm
      simp [h, this, ih]
theorem put_kn {n : Node} : ∀ {l : List Node}, n ∉ l → putD (eN n) (.bool true) (eKn l) = eKn (l ++ [n])
  | [], _ => rfl
  | x :: l, h => by
    have h1 : x ≠ n := fun e => h (by simp [e])
    have h2 : n ∉ l := fun e => h (by simp [e])
    show (if PyData.eqv (eN x) (eN n) = true then _ else (eN x, PyData.bool true) :: putD (eN n) (.bool true) (eKn l)) = _
    rw [eqv_eN, decide_eq_false h1, if_neg Bool.false_ne_true, put_kn h2]
    rfl
def fget (e : End) : List (End × Run) → Option Run
  | [] => none
  | x :: l => if x.1 = e then some x.2 else fget e l
theorem look_f (e : End) : ∀ l : List (End × Run), lookD (eE e) (eF l) = (fget e l).map eR
  | [] => rfl
  | x :: l => by
    have ih := look_f e l
    show (if PyData.eqv (eE x.1) (eE e) = true then some (eR x.2) else lookD (eE e) (eF l)) = _
    rw [eqv_eE, ih]
    show _ = (if x.1 = e then some x.2 else fget e l).map eR
    by_cases h : x.1 = e <;> simp [h]
theorem put_same {e : End} {r : Run} : ∀ {l : List (End × Run)}, fget e l = some r → putD (eE e) (eR r) (eF l) = eF l
  | [], h => by cases h
  | x :: l, h => by
    show (if PyData.eqv (eE x.1) (eE e) = true then (eE x.1, eR r) :: eF l else (eE x.1, eR x.2) :: putD (eE e) (eR r) (eF l)) = _
    rw [eqv_eE]
    unfold fget at h
    by_cases q : x.1 = e
    · rw [if_pos q] at h
      cases h
      rw [decide_eq_true q, if_pos rfl]
      rfl
    · rw [if_neg q] at h
      rw [decide_eq_false q, if_neg Bool.false_ne_true, put_same h]
      rfl
theorem put_new {e : End} {r : Run} : ∀ {l : List (End × Run)}, fget e l = none → putD (eE e) (eR r) (eF l) = eF (l ++ [(e, r)])
  | [], _ => rfl
  | x :: l, h => by
    show (if PyData.eqv (eE x.1) (eE e) = true then (eE x.1, eR r) :: eF l else (eE x.1, eR x.2) :: putD (eE e) (eR r) (eF l)) = _
    rw [eqv_eE]
    unfold fget at h
    by_cases q : x.1 = e
    · rw [if_pos q] at h
      cases h
    · rw [if_neg q] at h
      rw [decide_eq_false q, if_neg Bool.false_ne_true, put_new h]
      rfl
theorem look_none {e : End} : ∀ {l : List (End × Run)}, fget e l = none ↔ e ∉ l.map (·.1)
  | [] => by simp [fget]
  | x :: l => by
    unfold fget
    rw [List.map_cons, List.mem_cons, not_or, ← look_none (l := l)]
    by_cases h : x.1 = e
    · simp [h]
    · have : ¬ e = x.1 := fun q => h q.symm
      simp [h, this]
theorem look_some' {e : End} {r : Run} : ∀ {l : List (End × Run)}, fget e l = some r → (e, r) ∈ l
  | [], h => by cases h
  | x :: l, h => by
    unfold fget at h
    by_cases q : x.1 = e
    · rw [if_pos q] at h
      cases h
      subst q
      exact List.mem_cons_self ..
    · rw [if_neg q] at h
      exact List.mem_cons_of_mem _ (look_some' h)
/-! ### the order of runs -/
def ltR (a b : Run) : Bool := PySem.W.dataLt (eR a) (eR b)
theorem alike_eV (a b : Call × Out) : PySem.W.alike (eV a) (eV b) = true := rfl
theorem alikeAll_eV : ∀ a b : Run, PySem.W.alikeAll (a.map eV) (b.map eV) = true
  | [], _ => by simp [PySem.W.alikeAll]
  | _ :: _, [] => by simp [PySem.W.alikeAll]
  | x :: a, y :: b => by
    simp only [List.map_cons, PySem.W.alikeAll, alikeAll_eV a b, alike_eV, Bool.and_true]
theorem ltR_cons (x y : Call × Out) (a b : Run) : ltR (x :: a) (y :: b) = if x = y then ltR a b else PySem.W.dataLt (eV x) (eV y) := by
  unfold ltR
  show PySem.W.dataLt (.tuple (eV x :: a.map eV)) (.tuple (eV y :: b.map eV)) = _
  rw [lt_cons (alike_eV x y), eqv_eV]
  by_cases h : x = y <;> simp [h, eR]
theorem ltR_ext : ∀ {a b : Run} {x y : Call × Out}, a.length = b.length → ltR a b = true → ltR (a ++ [x]) (b ++ [y]) = true
  | [], [], _, _, _, h => by
    have : ltR [] [] = false := rfl
    rw [this] at h
    cases h
  | u :: a, v :: b, x, y, hl, h => by
    rw [ltR_cons] at h
    show ltR (u :: (a ++ [x])) (v :: (b ++ [y])) = true
    rw [ltR_cons]
    by_cases e : u = v
    · rw [if_pos e] at h ⊢
      exact ltR_ext (by simpa using hl) h
    · rw [if_neg e] at h ⊢
      exact h
  | [], _ :: _, _, _, hl, _ => by simp at hl
  | _ :: _, [], _, _, hl, _ => by simp at hl
def ltO : Out → Out → Bool
  | .lost, .missed => true
  | .lost, .ok => true
  | .lost, .refused => true
  | .missed, .ok => true
  | .missed, .refused => true
  | .ok, .refused => true
  | _, _ => false
theorem lt_eV (c : Call) {o o' : Out} (h : ltO o o' = true) : PySem.W.dataLt (eV (c, o)) (eV (c, o')) = true := by
  have n : PyData.eqv (nI c.pos) (nI c.pos) = true := by
    show ((c.pos : Int) == c.pos) = true
    simp
  have s : PyData.eqv (.str (cS c)) (.str (cS c)) = true := by cases c <;> rfl
  show PySem.W.dataLt (.tuple [.str (cS c), nI c.pos, .str (oS o)]) (.tuple [.str (cS c), nI c.pos, .str (oS o')]) = true
  rw [lt_cons rfl, s, if_pos rfl, lt_cons rfl, n, if_pos rfl]
  cases o <;> cases o' <;> first | (exact absurd h (by decide)) | decide +kernel
theorem ltR_out (c : Call) {o o' : Out} (h : ltO o o' = true) : ∀ r : Run, ltR (r ++ [(c, o)]) (r ++ [(c, o')]) = true
  | [] => by
    show ltR ((c, o) :: []) ((c, o') :: []) = true
    have hn : (c, o) ≠ (c, o') := fun e => by
      have e := (Prod.mk.inj e).2
      subst e
      cases o <;> cases h
    rw [ltR_cons, if_neg hn]
    exact lt_eV c h
  | x :: r => by
    show ltR (x :: (r ++ [(c, o)])) (x :: (r ++ [(c, o')])) = true
    rw [ltR_cons, if_pos rfl]
    exact ltR_out c h r
theorem dlt_asymm {x y : PyData} (h1 : PySem.W.dataLt x y = true) (h2 : PySem.W.dataLt y x = true) : False := by
  rcases leD2_total.total x y with q | q
  · rw [leD2_eq, h2] at q; cases q
  · rw [leD2_eq, h1] at q; cases q
theorem ltR_asymm {a b : Run} (h : ltR a b = true) : ltR b a = false := by
  cases q : ltR b a with
  | false => rfl
  | true => exact (dlt_asymm h q).elim
theorem outs_pw (p : Plan) (g : List Call) (c : Call) (m : List Call) : (outs p g c m).Pairwise fun a b => ltO a b = true := by
  unfold outs
  split <;> decide
end Bk
namespace Bk
open PySem
structure BS where
  known : List Node
  fur : List (Run × Node)
  found : List (End × Run)
/-- an end is kept with the first run to it -/
def putF (f : List (End × Run)) (e : End) (r : Run) : List (End × Run) := match fget e f with
  | none => f ++ [(e, r)]
  | some _ => f
theorem putF_none {f : List (End × Run)} {e : End} {r : Run} (h : fget e f = none) : putF f e r = f ++ [(e, r)] := by
  unfold putF
  rw [h]
theorem putF_some {f : List (End × Run)} {e : End} {r u : Run} (h : fget e f = some u) : putF f e r = f := by
  unfold putF
  rw [h]
def bStep (p : Plan) (g : List Call) (r : Run) (n : Node) (b : BS) (o : Out) : BS :=
  match nextN p n.here o with
  | .fin k => { b with found := putF b.found (k, (moveT p g n.here n.made n.st o).2) (r ++ [(n.here, o)]) }
  | .call c => if (⟨c, (moveT p g n.here n.made n.st o).1, (moveT p g n.here n.made n.st o).2⟩ : Node) ∈ b.known then b else
      { b with known := b.known ++ [⟨c, (moveT p g n.here n.made n.st o).1, (moveT p g n.here n.made n.st o).2⟩], fur := b.fur ++ [(r ++ [(n.here, o)], ⟨c, (moveT p g n.here n.made n.st o).1, (moveT p g n.here n.made n.st o).2⟩)] }
def envF (p : Plan) (g : List Call) (s : List Nat) (bg lv : Slot) (b : BS) (x8 x9 x10 x11 x12 x13 x14 x15 x16 : Slot) : Ev :=
  [.val (.d (eP p)), .val (.d (eCs g)), .val (.d (eS s)), bg, .own (.dict (eKn b.known)), lv, .own (.dict (eF b.found)), .own (.list (eLv b.fur)), x8, x9, x10, x11, x12, x13, x14, x15, x16]
theorem add_eV (c : Call) (o : Out) : binD .add (eC c) (.tuple [.str (oS o)]) = some (eV (c, o)) := by
  cases c <;> rfl
theorem add_eR {r : Run} (h : r.length ≤ 900000) (e : Call × Out) : binD .add (eR r) (.tuple [eV e]) = some (eR (r ++ [e])) := by
  show (if (r.map eV).length + 1 ≤ sizeLine then some (PyData.tuple (r.map eV ++ [eV e])) else none) = _
  rw [if_pos (by rw [List.length_map, sizeLine_eq]; omega)]
  simp [eR]
theorem plain_eV (e : Call × Out) : (eV e).plain = true := by obtain ⟨c, o⟩ := e; rfl
theorem depth_eV (e : Call × Out) : (eV e).depth = 1 := by obtain ⟨c, o⟩ := e; rfl
theorem depth_eR (r : Run) : (eR r).depth ≤ 2 := by
  have h : PyData.depthAll (r.map eV) ≤ 1 := depthAll_map fun c _ => by rw [depth_eV]; decide
  show PyData.depthAll (r.map eV) + 1 ≤ 2
  omega
theorem lt_eR (a b : Run) : cmpD .lt (eR a) (eR b) = some (ltR a b) := by
  show (if PySem.W.alikeAll (a.map eV) (b.map eV) = true ∧ (eR a).depth ≤ 64 ∧ (eR b).depth ≤ 64 then some (PySem.W.dataLt (eR a) (eR b)) else none) = _
  have h1 := depth_eR a
  have h2 := depth_eR b
  rw [if_pos ⟨alikeAll_eV a b, by omega, by omega⟩]
  rfl
theorem len_eR (r : Run) : b1D .len (eR r) = some (.int (r.length : Nat)) := by
  show some (PyData.int ((r.map eV).length : Nat)) = _
  rw [List.length_map]
theorem nmem_kn (n : Node) (l : List Node) : cmpD .nmem (eN n) (.dict (eKn l)) = some (!decide (n ∈ l)) := by
  show (if keyOk (eN n) = true then some (lookD (eN n) (eKn l)).isSome else none).map (!·) = _
  rw [keyOk_eN, if_pos rfl, look_kn]
  rfl
@[simp] theorem asP_eN (n : Node) (t : Town) : asP (.d (eN n)) t = .ok (eN n) t := rfl
@[simp] theorem asP_eE (n : End) (t : Town) : asP (.d (eE n)) t = .ok (eE n) t := rfl
@[simp] theorem asP_eR (n : Run) (t : Town) : asP (.d (eR n)) t = .ok (eR n) t := rfl
@[simp] theorem asP_eV (n : Call × Out) (t : Town) : asP (.d (eV n)) t = .ok (eV n) t := rfl
section
variable {gl : Nat → Option PyData} {φ : Nat → List Val → M Val} {tb : Nat → Option Fn} {fu n : Nat} {t : Town} {ρ : Ev}
theorem ev_getD {a k d : IE} {kvs : List (PyData × PyData)} {y z : PyData} (h1 : ev gl φ a ρ t = .ok (.d (.dict kvs)) t) (h2 : ev gl φ k ρ t = .ok (.d y) t) (h3 : isOwn d ρ = false) (h4 : ev gl φ d ρ t = .ok (.d z) t) (h5 : isDict z = false) (hk : keyOk y = true) :
    ev gl φ (.get a k d) ρ t = .ok (.d ((lookD y kvs).getD z)) t := by
  show R.bnd (R.bnd (ev gl φ a ρ t) fun v t => asD v t) (fun x t => (match x with
    | .dict kvs => do
      let y ← ev gl φ k ρ >>= asD
      let z ← (if isOwn d ρ = true then M.fail else ev gl φ d ρ) >>= asP
      if keyOk y = true then pure (.d ((lookD y kvs).getD z)) else M.fail
    | _ => M.fail : M Val) t) = _
  rw [h1]
  show R.bnd (R.bnd (ev gl φ k ρ t) fun v t => asD v t) (fun y t => ((do
      let z ← (if isOwn d ρ = true then M.fail else ev gl φ d ρ) >>= asP
      if keyOk y = true then pure (.d ((lookD y kvs).getD z)) else M.fail : M Val) t)) = _
  rw [h2]
  show R.bnd (R.bnd ((if isOwn d ρ = true then M.fail else ev gl φ d ρ : M Val) t) fun v t => asP v t) (fun z t => ((if keyOk y = true then pure (.d ((lookD y kvs).getD z)) else M.fail : M Val) t)) = _
  rw [h3, if_neg Bool.false_ne_true, h4, bnd_ok, asP_at h5, bnd_ok, hk, if_pos rfl]
  rfl
theorem ltR_irr (r : Run) : ltR r r = false := by
  cases q : ltR r r with
  | false => rfl
  | true => exact (dlt_asymm q q).elim
theorem step_run (hP : PT tb) (hn : 4 ≤ n) {p : Plan} (hp : PlanOk p) {g : List Call} {s : List Nat} {bg lv : Slot} {b : BS} {r : Run} {m : Node} (hm : NodeOk p m) {o : Out} (hr : r.length ≤ 900000) (k1 : b.known.length ≤ 900000) (k2 : b.fur.length ≤ 900000) (k3 : b.found.length ≤ 900000)
    (hb : ∀ x ∈ b.found, x.2.length = r.length + 1 → ltR (r ++ [(m.here, o)]) x.2 = false) {x13 x14 x15 x16 : Slot} :
    ∃ y13 y14 y15 y16, exs gl (run gl tb fu (n - 1)) fu B_found_ends_f1 (envF p g s bg lv b (.val (.d (eR r))) (.val (.d (eC m.here))) (.val (.d (eCs m.made))) (.val (.d (eS m.st))) (.val (.d (.str (oS o)))) x13 x14 x15 x16) t
      = .ok (.next (envF p g s bg lv (bStep p g r m b o) (.val (.d (eR r))) (.val (.d (eC m.here))) (.val (.d (eCs m.made))) (.val (.d (eS m.st))) (.val (.d (.str (oS o)))) y13 y14 y15 y16)) t := by
  have e1 := run_moved (gl := gl) (fu := fu) (t := t) hP (show 3 ≤ n - 1 by omega) hp hm.h hm.m hm.s o (g := g)
  have e2 := add_eV m.here o
  have e3 := add_eR hr (m.here, o)
  unfold bStep
  generalize hq : moveT p g m.here m.made m.st o = q at e1
  obtain ⟨m', s'⟩ := q
  dsimp only at e1 ⊢
  cases hx : nextN p m.here o with
  | fin k =>
    rw [hx] at e1
    have e4 : PyData.tuple [.str (kS k), eS s'] = eE (k, s') := rfl
    have e6 : PyData.tuple [eX (.fin k), eCs m', eS s'] = .tuple [.str (kS k), eCs m', eS s'] := rfl
    rw [e6] at e1
    have e7 : subAt (.tuple [.str (kS k), eCs m', eS s']) (.int 0) = some (.str (kS k)) := rfl
    have e8 : subAt (.tuple [.str (kS k), eCs m', eS s']) (.int 2) = some (eS s') := rfl
    have hl : ∀ u : PyData, (eF b.found).length < sizeLine := fun _ => by unfold eF; rw [List.length_map, sizeLine_eq]; omega
    have e5 := ev_getD (gl := gl) (φ := run gl tb fu (n - 1)) (t := t) (a := .var 6) (k := .var 15) (d := .var 14) (kvs := eF b.found) (y := eE (k, s')) (z := eR (r ++ [(m.here, o)])) (ρ := envF p g s bg lv b (.val (.d (eR r))) (.val (.d (eC m.here))) (.val (.d (eCs m.made))) (.val (.d (eS m.st))) (.val (.d (.str (oS o)))) (.val (.d (.tuple [.str (kS k), eCs m', eS s']))) (.val (.d (eR (r ++ [(m.here, o)])))) (.val (.d (eE (k, s')))) x16) (by simp [envF]) (by simp [envF]) rfl (by simp [envF]) rfl (keyOk_eE _)
    simp only [envF] at e5
    cases hf : fget (k, s') b.found with
    | none =>
      have eb : (lookD (eE (k, s')) (eF b.found)).getD (eR (r ++ [(m.here, o)])) = eR (r ++ [(m.here, o)]) := by rw [look_f, hf]; rfl
      rw [eb] at e5
      have e9 : putItem (.dict (eF b.found)) (eE (k, s')) (eR (r ++ [(m.here, o)])) = some (.dict (eF (b.found ++ [((k, s'), r ++ [(m.here, o)])]))) := by
        show (if keyOk (eE (k, s')) = true ∧ (eF b.found).length < sizeLine then some (PyData.dict (putD (eE (k, s')) (eR (r ++ [(m.here, o)])) (eF b.found))) else none) = _
        rw [if_pos ⟨keyOk_eE _, hl .none⟩, put_new hf]
      have e10 := lt_eR (r ++ [(m.here, o)]) (r ++ [(m.here, o)])
      rw [ltR_irr] at e10
      have e11 := len_eR (r ++ [(m.here, o)])
      refine ⟨.val (.d (.tuple [.str (kS k), eCs m', eS s'])), .val (.d (eR (r ++ [(m.here, o)]))), .val (.d (eE (k, s'))), .val (.d (eR (r ++ [(m.here, o)]))), ?_⟩
      simp [envF, B_found_ends_f1, e1, e2, e3, e4, e5, e7, e8, setI_own, e9, e10, e11, putF_none hf]
    | some best =>
      have eb : (lookD (eE (k, s')) (eF b.found)).getD (eR (r ++ [(m.here, o)])) = eR best := by rw [look_f, hf]; rfl
      rw [eb] at e5
      have e9 : putItem (.dict (eF b.found)) (eE (k, s')) (eR best) = some (.dict (eF b.found)) := by
        show (if keyOk (eE (k, s')) = true ∧ (eF b.found).length < sizeLine then some (PyData.dict (putD (eE (k, s')) (eR best) (eF b.found))) else none) = _
        rw [if_pos ⟨keyOk_eE _, hl .none⟩, put_same hf]
      have e11 := len_eR (r ++ [(m.here, o)])
      have e12 := len_eR best
      refine ⟨.val (.d (.tuple [.str (kS k), eCs m', eS s'])), .val (.d (eR (r ++ [(m.here, o)]))), .val (.d (eE (k, s'))), .val (.d (eR best)), ?_⟩
      by_cases hlen : r.length + 1 = best.length
      · have e10 := lt_eR (r ++ [(m.here, o)]) best
        rw [hb _ (look_some' hf) hlen.symm] at e10
        have hc : ((r.length : Int) + 1 == (best.length : Int)) = true := by simp; omega
        simp [envF, B_found_ends_f1, e1, e2, e3, e4, e5, e7, e8, setI_own, e9, e10, e11, e12, hc, putF_some hf]
      · have hc : ((r.length : Int) + 1 == (best.length : Int)) = false := by simp; omega
        simp [envF, B_found_ends_f1, e1, e2, e3, e4, e5, e7, e8, setI_own, e9, e11, e12, hc, putF_some hf]
  | call c =>
    rw [hx] at e1
    refine ⟨.val (.d (eN ⟨c, m', s'⟩)), .val (.d (eR (r ++ [(m.here, o)]))), x15, x16, ?_⟩
    have e4 := nmem_kn ⟨c, m', s'⟩ b.known
    have e5 : PyData.tuple [eX (.call c), eCs m', eS s'] = eN ⟨c, m', s'⟩ := rfl
    rw [e5] at e1
    have e6 : subAt (eN ⟨c, m', s'⟩) (.int 0) = some (eC c) := rfl
    have e7 : isiD .str (eC c) = false := by cases c <;> rfl
    dsimp only
    by_cases hk : (⟨c, m', s'⟩ : Node) ∈ b.known
    · rw [if_pos hk]
      simp [envF, B_found_ends_f1, e1, e2, e3, e4, e6, e7, hk]
    · rw [if_neg hk]
      have e8 : putItem (.dict (eKn b.known)) (eN ⟨c, m', s'⟩) (.bool true) = some (.dict (eKn (b.known ++ [⟨c, m', s'⟩]))) := by
        show (if keyOk (eN ⟨c, m', s'⟩) = true ∧ (eKn b.known).length < sizeLine then some (PyData.dict (putD (eN ⟨c, m', s'⟩) (.bool true) (eKn b.known))) else none) = _
        rw [if_pos ⟨keyOk_eN _, by unfold eKn; rw [List.length_map, sizeLine_eq]; omega⟩, put_kn hk]
      have e9 : (eLv b.fur).length < sizeLine := by unfold eLv; rw [List.length_map, sizeLine_eq]; omega
      have e10 : eLv (b.fur ++ [(r ++ [(m.here, o)], ⟨c, m', s'⟩)]) = eLv b.fur ++ [.tuple [eR (r ++ [(m.here, o)]), eN ⟨c, m', s'⟩]] := by simp [eLv]
      simp [envF, B_found_ends_f1, e1, e2, e3, e4, e6, e7, hk, setI_own, app_own, e8, e9, e10]
end
end Bk
namespace Bk
open PySem
/-! ### how many -/
theorem len_sub {α : Type} [DecidableEq α] : ∀ {l m : List α}, l.Nodup → (∀ x ∈ l, x ∈ m) → l.length ≤ m.length
  | [], _, _, _ => Nat.zero_le _
  | x :: l, m, nd, h => by
    rw [List.nodup_cons] at nd
    have hx := h x (List.mem_cons_self ..)
    have ih := len_sub (l := l) (m := m.erase x) nd.2 fun y hy => by
      have hne : y ≠ x := fun e => nd.1 (e ▸ hy)
      exact (List.mem_erase_of_ne hne).mpr (h y (List.mem_cons_of_mem _ hy))
    have e := List.length_erase_of_mem hx
    have : 0 < m.length := List.length_pos_of_mem hx
    rw [List.length_cons]
    omega
def subs {α : Type} : List α → List (List α)
  | [] => [[]]
  | x :: l => subs l ++ (subs l).map (x :: ·)
theorem subs_len {α : Type} : ∀ l : List α, (subs l).length = 2 ^ l.length
  | [] => rfl
  | x :: l => by
    show (subs l ++ (subs l).map (x :: ·)).length = _
    rw [List.length_append, List.length_map, subs_len l, List.length_cons, Nat.pow_succ]
    omega
theorem filter_subs {α : Type} (f : α → Bool) : ∀ l : List α, l.filter f ∈ subs l
  | [] => by simp [subs]
  | x :: l => by
    have ih := filter_subs f l
    show _ ∈ subs l ++ (subs l).map (x :: ·)
    rw [List.mem_append]
    by_cases h : f x = true
    · rw [List.filter_cons_of_pos h]
      exact .inr (List.mem_map.mpr ⟨_, ih, rfl⟩)
    · rw [List.filter_cons_of_neg h]
      exact .inl ih
def allN (p : Plan) : List Node := (calls p).flatMap fun c => (subs (calls p)).flatMap fun m => (allS p.k).map fun s => ⟨c, m, s⟩
theorem flatMap_len {α β : Type} {f : α → List β} {k : Nat} : ∀ {l : List α}, (∀ x ∈ l, (f x).length ≤ k) → (l.flatMap f).length ≤ l.length * k
  | [], _ => by simp
  | x :: l, h => by
    have h1 := h x (List.mem_cons_self ..)
    have h2 := flatMap_len (f := f) (k := k) (l := l) fun y hy => h y (List.mem_cons_of_mem _ hy)
    rw [List.flatMap_cons, List.length_append, List.length_cons, Nat.succ_mul]
    omega
theorem allS_len27 : ∀ {k : Nat}, k ≤ 3 → (allS k).length ≤ 27
  | 0, _ => by decide
  | 1, _ => by decide
  | 2, _ => by decide
  | 3, _ => by decide
theorem allN_len {p : Plan} (hp : PlanOk p) : (allN p).length ≤ 55296 := by
  have h1 := calls_len p hp.n4
  have h2 : (subs (calls p)).length ≤ 256 := by
    rw [subs_len]
    exact Nat.pow_le_pow_right (by decide) h1
  have h3 := allS_len27 hp.k3
  have h4 : ((subs (calls p)).flatMap fun m => (allS p.k).map fun s => (m, s)).length ≤ 256 * 27 := Nat.le_trans (flatMap_len (k := 27) fun m _ => by rw [List.length_map]; exact h3) (Nat.mul_le_mul_right _ h2)
  have h5 : (allN p).length ≤ (calls p).length * (256 * 27) := flatMap_len (k := 256 * 27) fun c _ => by
    refine Nat.le_trans (flatMap_len (k := 27) fun m _ => by rw [List.length_map]; exact h3) (Nat.mul_le_mul_right _ h2)
  have h6 : (calls p).length * (256 * 27) ≤ 8 * (256 * 27) := Nat.mul_le_mul_right _ h1
  omega
theorem mem_allN {p : Plan} {n : Node} (h : NodeOk p n) : n ∈ allN p := by
  obtain ⟨c, m, s⟩ := n
  refine List.mem_flatMap.mpr ⟨c, h.h, List.mem_flatMap.mpr ⟨m, ?_, List.mem_map.mpr ⟨s, mem_allS.mpr h.s, rfl⟩⟩⟩
  have hm : m = _ := h.m
  rw [hm]
  exact filter_subs _ _
def allE (k : Nat) : List End := [EndK.done, .undone, .stuck].flatMap fun e => (allS k).map fun s => (e, s)
theorem mem_allE {k : Nat} {e : End} (h : StOk k e.2) : e ∈ allE k := by
  obtain ⟨a, s⟩ := e
  refine List.mem_flatMap.mpr ⟨a, by cases a <;> simp, List.mem_map.mpr ⟨s, mem_allS.mpr h, rfl⟩⟩
theorem allE_len {k : Nat} (h : k ≤ 3) : (allE k).length ≤ 81 := by
  have h3 := allS_len27 h
  exact Nat.le_trans (flatMap_len (k := 27) fun c _ => by rw [List.length_map]; exact h3) (by decide)
/-! ### the shape that is kept -/
structure BOk (p : Plan) (L K0 : Nat) (b : BS) : Prop where
  kn : b.known.Nodup
  kok : ∀ n ∈ b.known, NodeOk p n
  kl : b.known.length = K0 + b.fur.length
  fok : ∀ x ∈ b.fur, NodeOk p x.2 ∧ x.1.length = L + 1
  fpw : b.fur.Pairwise fun x y => ltR x.1 y.1 = true
  dn : (b.found.map (·.1)).Nodup
  dok : ∀ x ∈ b.found, StOk p.k x.1.2
  dl : ∀ x ∈ b.found, x.2.length ≤ L + 1
def Bef (L : Nat) (b : BS) (r : Run) : Prop := (∀ x ∈ b.found, x.2.length = L + 1 → ltR x.2 r = true) ∧ ∀ x ∈ b.fur, ltR x.1 r = true
theorem BOk.knl {p : Plan} (hp : PlanOk p) {L K0 : Nat} {b : BS} (h : BOk p L K0 b) : b.known.length ≤ 55296 := Nat.le_trans (len_sub h.kn fun n hn => mem_allN (h.kok n hn)) (allN_len hp)
theorem BOk.fdl {p : Plan} (hp : PlanOk p) {L K0 : Nat} {b : BS} (h : BOk p L K0 b) : b.found.length ≤ 81 := by
  have : (b.found.map (·.1)).length ≤ (allE p.k).length := len_sub h.dn fun e he => by
    obtain ⟨x, hx, rfl⟩ := List.mem_map.mp he
    exact mem_allE (h.dok x hx)
  rw [List.length_map] at this
  exact Nat.le_trans this (allE_len hp.k3)
theorem putF_mem {f : List (End × Run)} {e : End} {r : Run} {x : End × Run} (h : x ∈ putF f e r) : x ∈ f ∨ x = (e, r) := by
  cases q : fget e f with
  | none =>
    rw [putF_none q] at h
    rcases List.mem_append.mp h with h | h
    · exact .inl h
    · exact .inr (List.mem_singleton.mp h)
  | some u =>
    rw [putF_some q] at h
    exact .inl h
theorem putF_nodup {f : List (End × Run)} {e : End} {r : Run} (h : (f.map (·.1)).Nodup) : ((putF f e r).map (·.1)).Nodup := by
  cases q : fget e f with
  | none =>
    rw [putF_none q, List.map_append]
    exact List.nodup_append.mpr ⟨h, by simp, fun x hx y hy => by
      have : y = e := by simpa using hy
      subst this
      exact fun z => look_none.mp q (z ▸ hx)⟩
  | some u => rw [putF_some q]; exact h
theorem bStep_ok {p : Plan} (hp : PlanOk p) {g : List Call} {L K0 : Nat} {b : BS} (h : BOk p L K0 b) {r : Run} {m : Node} (hm : NodeOk p m) (hr : r.length = L) {o : Out} (hb : Bef L b (r ++ [(m.here, o)])) :
    BOk p L K0 (bStep p g r m b o) ∧ ∀ r'', Bef L b r'' → ltR (r ++ [(m.here, o)]) r'' = true → Bef L (bStep p g r m b o) r'' := by
  have mv := moveT_ok hp hm.h hm.m hm.s o (g := g)
  unfold bStep
  cases hx : nextN p m.here o with
  | fin k =>
    refine ⟨⟨h.kn, h.kok, h.kl, h.fok, h.fpw, putF_nodup h.dn, fun x hx => ?_, fun x hx => ?_⟩, fun r'' h1 h2 => ⟨fun x hx hl => ?_, h1.2⟩⟩
    · rcases putF_mem hx with hx | rfl
      · exact h.dok x hx
      · exact mv.2
    · rcases putF_mem hx with hx | rfl
      · exact h.dl x hx
      · simp [hr]
    · rcases putF_mem hx with hx | rfl
      · exact h1.1 x hx hl
      · exact h2
  | call c =>
    dsimp only
    have nk : NodeOk p ⟨c, (moveT p g m.here m.made m.st o).1, (moveT p g m.here m.made m.st o).2⟩ := ⟨next_ok hm.h hx, mv.1, mv.2⟩
    generalize (⟨c, (moveT p g m.here m.made m.st o).1, (moveT p g m.here m.made m.st o).2⟩ : Node) = q at nk
    by_cases hk : q ∈ b.known
    · rw [if_pos hk]
      exact ⟨h, fun r'' h1 _ => h1⟩
    · rw [if_neg hk]
      refine ⟨⟨?_, ?_, ?_, ?_, ?_, h.dn, h.dok, h.dl⟩, fun r'' h1 h2 => ⟨h1.1, fun x hx => ?_⟩⟩
      · exact List.nodup_append.mpr ⟨h.kn, by simp, fun x hx y hy => by
          have : y = q := by simpa using hy
          subst this
          exact fun z => hk (z ▸ hx)⟩
      · intro n hn
        rcases List.mem_append.mp hn with hn | hn
        · exact h.kok n hn
        · rw [List.mem_singleton.mp hn]
          exact nk
      · show (b.known ++ [q]).length = K0 + (b.fur ++ [(r ++ [(m.here, o)], q)]).length
        simp [h.kl]
        omega
      · intro x hx
        rcases List.mem_append.mp hx with hx | hx
        · exact h.fok x hx
        · rw [List.mem_singleton.mp hx]
          exact ⟨nk, by simp [hr]⟩
      · show (b.fur ++ [(r ++ [(m.here, o)], q)]).Pairwise _
        rw [List.pairwise_append]
        refine ⟨h.fpw, by simp, fun x hx y hy => ?_⟩
        rw [List.mem_singleton.mp hy]
        exact hb.2 x hx
      · rcases List.mem_append.mp hx with hx | hx
        · exact h1.2 x hx
        · rw [List.mem_singleton.mp hx]
          exact h2
end Bk
namespace Bk
open PySem
def bNode (p : Plan) (g : List Call) (b : BS) (x : Run × Node) : BS := (outs p g x.2.here x.2.made).foldl (bStep p g x.1 x.2) b
def bLevel (p : Plan) (g : List Call) (lv : List (Run × Node)) (b : BS) : BS := lv.foldl (bNode p g) b
def bfs (p : Plan) (g : List Call) : Nat → List Node → List (Run × Node) → List (End × Run) → List (End × Run)
  | 0, _, _, f => f
  | n + 1, kn, lv, f => if lv = [] then f else bfs p g n (bLevel p g lv ⟨kn, [], f⟩).known (bLevel p g lv ⟨kn, [], f⟩).fur (bLevel p g lv ⟨kn, [], f⟩).found
/-! ### the shape -/
theorem inner_ok {p : Plan} (hp : PlanOk p) {g : List Call} {L K0 : Nat} {r : Run} {m : Node} (hm : NodeOk p m) (hr : r.length = L) {S : Run → Prop} (hS : ∀ o r'', S r'' → ltR (r ++ [(m.here, o)]) r'' = true) :
    ∀ {os : List Out} {b : BS}, os.Pairwise (fun a b => ltO a b = true) → BOk p L K0 b → (∀ o ∈ os, Bef L b (r ++ [(m.here, o)])) → (∀ r'', S r'' → Bef L b r'') → BOk p L K0 (os.foldl (bStep p g r m) b) ∧ ∀ r'', S r'' → Bef L (os.foldl (bStep p g r m) b) r''
  | [], b, _, h, _, h2 => ⟨h, h2⟩
  | o :: os, b, pw, h, h1, h2 => by
    obtain ⟨p1, p2⟩ := List.pairwise_cons.mp pw
    obtain ⟨a1, a2⟩ := bStep_ok hp h hm hr (h1 o (List.mem_cons_self ..)) (g := g)
    exact inner_ok hp hm hr hS (os := os) (b := bStep p g r m b o) p2 a1 (fun o' ho' => a2 _ (h1 o' (List.mem_cons_of_mem _ ho')) (ltR_out m.here (p1 o' ho') r)) fun r'' hr'' => a2 _ (h2 r'' hr'') (hS o r'' hr'')
section
variable {gl : Nat → Option PyData} {tb : Nat → Option Fn} {fu n : Nat} {t : Town}
theorem inner_run (hP : PT tb) (hn : 4 ≤ n) {p : Plan} (hp : PlanOk p) {g : List Call} {s : List Nat} {bg lv : Slot} {L K0 : Nat} {r : Run} {m : Node} (hm : NodeOk p m) (hr : r.length = L) (hL : L ≤ 60000) :
    ∀ {os : List Out} {b : BS}, os.Pairwise (fun a b => ltO a b = true) → BOk p L K0 b → (∀ o ∈ os, Bef L b (r ++ [(m.here, o)])) → ∀ x12 x13 x14 x15 x16, ∃ y12 y13 y14 y15 y16,
      forGo (fun ρ' => exs gl (run gl tb fu (n - 1)) fu B_found_ends_f1 ρ') (.nm 12) (os.map fun o => .str (oS o)) (envF p g s bg lv b (.val (.d (eR r))) (.val (.d (eC m.here))) (.val (.d (eCs m.made))) (.val (.d (eS m.st))) x12 x13 x14 x15 x16) t
      = .ok (.next (envF p g s bg lv (os.foldl (bStep p g r m) b) (.val (.d (eR r))) (.val (.d (eC m.here))) (.val (.d (eCs m.made))) (.val (.d (eS m.st))) y12 y13 y14 y15 y16)) t
  | [], b, _, _, _, x12, x13, x14, x15, x16 => ⟨_, _, _, _, _, rfl⟩
  | o :: os, b, pw, h, h1, x12, x13, x14, x15, x16 => by
    obtain ⟨p1, p2⟩ := List.pairwise_cons.mp pw
    have hb := h1 o (List.mem_cons_self ..)
    obtain ⟨a1, a2⟩ := bStep_ok hp h hm hr hb (g := g)
    have kl := h.knl hp
    have fl := h.kl
    have dl := h.fdl hp
    obtain ⟨y13, y14, y15, y16, e⟩ := step_run (gl := gl) (fu := fu) (t := t) hP hn hp (g := g) (s := s) (bg := bg) (lv := lv) (b := b) (r := r) hm (o := o) (by omega) (by omega) (by omega) (by omega) (fun x hx hl => ltR_asymm (hb.1 x hx (by omega))) (x13 := x13) (x14 := x14) (x15 := x15) (x16 := x16)
    obtain ⟨z12, z13, z14, z15, z16, e2⟩ := inner_run hP hn hp hm hr hL (os := os) (b := bStep p g r m b o) p2 a1 (fun o' ho' => a2 _ (h1 o' (List.mem_cons_of_mem _ ho')) (ltR_out m.here (p1 o' ho') r)) (.val (.d (.str (oS o)))) y13 y14 y15 y16
    refine ⟨z12, z13, z14, z15, z16, ?_⟩
    rw [List.map_cons, forGo_cons]
    have es : setTg (.nm 12) (.d (.str (oS o))) (envF p g s bg lv b (.val (.d (eR r))) (.val (.d (eC m.here))) (.val (.d (eCs m.made))) (.val (.d (eS m.st))) x12 x13 x14 x15 x16) = some (envF p g s bg lv b (.val (.d (eR r))) (.val (.d (eC m.here))) (.val (.d (eCs m.made))) (.val (.d (eS m.st))) (.val (.d (.str (oS o)))) x13 x14 x15 x16) := by
      rw [setTg_nm, if_pos (by show 12 < 17; decide)]
      rfl
    rw [es, opt_some, bnd_ok, e, seq_next]
    exact e2
theorem node_run (hP : PT tb) (hn : 4 ≤ n) {p : Plan} (hp : PlanOk p) {g : List Call} {s : List Nat} {bg lv : Slot} {L K0 : Nat} {r : Run} {m : Node} (hm : NodeOk p m) (hr : r.length = L) (hL : L ≤ 60000) {b : BS} (h : BOk p L K0 b) (h1 : ∀ o, Bef L b (r ++ [(m.here, o)])) (x12 x13 x14 x15 x16 : Slot) : ∃ y12 y13 y14 y15 y16,
      exs gl (run gl tb fu (n - 1)) fu B_found_ends_f2 (envF p g s bg lv b (.val (.d (eR r))) (.val (.d (eC m.here))) (.val (.d (eCs m.made))) (.val (.d (eS m.st))) x12 x13 x14 x15 x16) t
      = .ok (.next (envF p g s bg lv (bNode p g b (r, m)) (.val (.d (eR r))) (.val (.d (eC m.here))) (.val (.d (eCs m.made))) (.val (.d (eS m.st))) y12 y13 y14 y15 y16)) t := by
  obtain ⟨y12, y13, y14, y15, y16, e⟩ := inner_run (gl := gl) (fu := fu) (t := t) hP hn hp (s := s) (bg := bg) (lv := lv) (g := g) hm hr hL (os := outs p g m.here m.made) (outs_pw p g m.here m.made) h (fun o _ => h1 o) x12 x13 x14 x15 x16
  refine ⟨y12, y13, y14, y15, y16, ?_⟩
  have e1 := run_outcomes_of (gl := gl) (fu := fu) (t := t) hP (show 1 ≤ n - 1 by omega) (p := p) (g := g) (c := m.here) (made := m.made) (mem_calls.mp hm.h).1
  simp only [envF] at e
  unfold bNode
  simp [B_found_ends_f2, ex_for, envF, e1, e]
end
end Bk
namespace Bk
open PySem
def LvOk (p : Plan) (L : Nat) (lv : List (Run × Node)) : Prop := (lv.Pairwise fun x y => ltR x.1 y.1 = true) ∧ ∀ x ∈ lv, NodeOk p x.2 ∧ x.1.length = L
theorem LvOk.tail {p : Plan} {L : Nat} {x : Run × Node} {lv : List (Run × Node)} (h : LvOk p L (x :: lv)) : LvOk p L lv := ⟨(List.pairwise_cons.mp h.1).2, fun y hy => h.2 y (List.mem_cons_of_mem _ hy)⟩
theorem node_ok {p : Plan} (hp : PlanOk p) {g : List Call} {L K0 : Nat} {x : Run × Node} {lv : List (Run × Node)} (hl : LvOk p L (x :: lv)) {b : BS} (h : BOk p L K0 b) (h1 : ∀ y ∈ x :: lv, ∀ o, Bef L b (y.1 ++ [(y.2.here, o)])) :
    BOk p L K0 (bNode p g b x) ∧ ∀ y ∈ lv, ∀ o, Bef L (bNode p g b x) (y.1 ++ [(y.2.here, o)]) := by
  obtain ⟨q1, q2⟩ := List.pairwise_cons.mp hl.1
  obtain ⟨nx, lx⟩ := hl.2 x (List.mem_cons_self ..)
  obtain ⟨a, b'⟩ := inner_ok hp (g := g) nx lx (S := fun r'' => ∃ y ∈ lv, ∃ o, r'' = y.1 ++ [(y.2.here, o)]) (fun o r'' ⟨y, hy, o', e⟩ => by
    rw [e]
    exact ltR_ext (by rw [lx, (hl.2 y (List.mem_cons_of_mem _ hy)).2]) (q1 y hy)) (os := outs p g x.2.here x.2.made) (outs_pw p g _ _) h (fun o _ => h1 x (List.mem_cons_self ..) o) (fun r'' ⟨y, hy, o, e⟩ => by rw [e]; exact h1 y (List.mem_cons_of_mem _ hy) o)
  exact ⟨a, fun y hy o => b' _ ⟨y, hy, o, rfl⟩⟩
theorem level_ok {p : Plan} (hp : PlanOk p) {g : List Call} {L K0 : Nat} : ∀ {lv : List (Run × Node)} {b : BS}, LvOk p L lv → BOk p L K0 b → (∀ y ∈ lv, ∀ o, Bef L b (y.1 ++ [(y.2.here, o)])) → BOk p L K0 (bLevel p g lv b)
  | [], b, _, h, _ => h
  | x :: lv, b, hl, h, h1 => by
    obtain ⟨a1, a2⟩ := node_ok hp (g := g) hl h h1
    exact level_ok hp (lv := lv) (b := bNode p g b x) hl.tail a1 a2
/-- the start of a level -/
structure KOk (p : Plan) (L : Nat) (ks : List Node) (f : List (End × Run)) : Prop where
  kn : ks.Nodup
  kok : ∀ n ∈ ks, NodeOk p n
  dn : (f.map (·.1)).Nodup
  dok : ∀ x ∈ f, StOk p.k x.1.2
  dl : ∀ x ∈ f, x.2.length ≤ L
theorem KOk.b {p : Plan} {L : Nat} {kn : List Node} {f : List (End × Run)} (h : KOk p L kn f) : BOk p L kn.length ⟨kn, [], f⟩ := ⟨h.kn, h.kok, by simp, by simp, by simp, h.dn, h.dok, fun x hx => Nat.le_succ_of_le (h.dl x hx)⟩
theorem KOk.bef {p : Plan} {L : Nat} {kn : List Node} {f : List (End × Run)} (h : KOk p L kn f) (r : Run) : Bef L ⟨kn, [], f⟩ r := ⟨fun x hx hl => by have := h.dl x hx; omega, by simp⟩
theorem BOk.k {p : Plan} {L K0 : Nat} {b : BS} (h : BOk p L K0 b) : KOk p (L + 1) b.known b.found := ⟨h.kn, h.kok, h.dn, h.dok, h.dl⟩
theorem BOk.lv {p : Plan} {L K0 : Nat} {b : BS} (h : BOk p L K0 b) : LvOk p (L + 1) b.fur := ⟨h.fpw, h.fok⟩
theorem kbound {p : Plan} (hp : PlanOk p) {L : Nat} {kn : List Node} {f : List (End × Run)} (h : KOk p L kn f) : kn.length ≤ 55296 := h.b.knl hp
section
variable {gl : Nat → Option PyData} {tb : Nat → Option Fn} {fu n : Nat} {t : Town}
theorem setTgN {p : Plan} {g : List Call} {s : List Nat} {bg lv : Slot} {b : BS} {x8 x9 x10 x11 x12 x13 x14 x15 x16 : Slot} (x : Run × Node) : setTg (.tp [.nm 8, .tp [.nm 9, .nm 10, .nm 11]]) (.d (.tuple [eR x.1, eN x.2])) (envF p g s bg lv b x8 x9 x10 x11 x12 x13 x14 x15 x16) = some (envF p g s bg lv b (.val (.d (eR x.1))) (.val (.d (eC x.2.here))) (.val (.d (eCs x.2.made))) (.val (.d (eS x.2.st))) x12 x13 x14 x15 x16) := rfl
theorem outer_run (hP : PT tb) (hn : 4 ≤ n) {p : Plan} (hp : PlanOk p) {g : List Call} {s : List Nat} {bg sl : Slot} {L K0 : Nat} (hL : L ≤ 60000) :
    ∀ {lv : List (Run × Node)} {b : BS}, LvOk p L lv → BOk p L K0 b → (∀ y ∈ lv, ∀ o, Bef L b (y.1 ++ [(y.2.here, o)])) → ∀ x8 x9 x10 x11 x12 x13 x14 x15 x16, ∃ y8 y9 y10 y11 y12 y13 y14 y15 y16,
      forGo (fun ρ' => exs gl (run gl tb fu (n - 1)) fu B_found_ends_f2 ρ') (.tp [.nm 8, .tp [.nm 9, .nm 10, .nm 11]]) (eLv lv) (envF p g s bg sl b x8 x9 x10 x11 x12 x13 x14 x15 x16) t
      = .ok (.next (envF p g s bg sl (bLevel p g lv b) y8 y9 y10 y11 y12 y13 y14 y15 y16)) t
  | [], b, _, _, _, _, _, _, _, _, _, _, _, _ => ⟨_, _, _, _, _, _, _, _, _, rfl⟩
  | x :: lv, b, hl, h, h1, x8, x9, x10, x11, x12, x13, x14, x15, x16 => by
    obtain ⟨a1, a2⟩ := node_ok hp (g := g) hl h h1
    obtain ⟨nx, lx⟩ := hl.2 x (List.mem_cons_self ..)
    obtain ⟨y12, y13, y14, y15, y16, e⟩ := node_run (gl := gl) (fu := fu) (t := t) hP hn hp (g := g) (s := s) (bg := bg) (lv := sl) nx lx hL h (fun o => h1 x (List.mem_cons_self ..) o) x12 x13 x14 x15 x16
    obtain ⟨z8, z9, z10, z11, z12, z13, z14, z15, z16, e2⟩ := outer_run hP hn hp hL (lv := lv) (b := bNode p g b x) hl.tail a1 a2 (.val (.d (eR x.1))) (.val (.d (eC x.2.here))) (.val (.d (eCs x.2.made))) (.val (.d (eS x.2.st))) y12 y13 y14 y15 y16
    refine ⟨z8, z9, z10, z11, z12, z13, z14, z15, z16, ?_⟩
    show forGo _ _ (.tuple [eR x.1, eN x.2] :: eLv lv) _ t = _
    rw [forGo_cons, setTgN, opt_some, bnd_ok, e, seq_next]
    exact e2
theorem alike_eS : ∀ s r : List Nat, PySem.W.alikeAll (s.map nI) (r.map nI) = true
  | [], _ => by simp [PySem.W.alikeAll]
  | _ :: _, [] => by simp [PySem.W.alikeAll]
  | a :: s, b :: r => by
    simp only [List.map_cons, PySem.W.alikeAll, alike_eS s r]
    rfl
theorem alike_eCs2 : ∀ s r : List Call, PySem.W.alikeAll (s.map eC) (r.map eC) = true
  | [], _ => by simp [PySem.W.alikeAll]
  | _ :: _, [] => by simp [PySem.W.alikeAll]
  | a :: s, b :: r => by
    simp only [List.map_cons, PySem.W.alikeAll, alike_eCs2 s r, alike_eC, Bool.and_true]
theorem alike_eN (a b : Node) : PySem.W.alike (eN a) (eN b) = true := by
  simp only [eN, PySem.W.alike, PySem.W.alikeAll, alike_eC, Bool.and_true, Bool.true_and, eCs, eS, alike_eS, alike_eCs2]
theorem sort_lv {p : Plan} {L : Nat} {lv : List (Run × Node)} (h : LvOk p L lv) : b1D .sorted (.list (eLv lv)) = some (.list (eLv lv)) := by
  have hs : sortL (eLv lv) = some (isort (eLv lv)) := by
    unfold sortL
    rw [if_pos]
    refine ⟨List.all_eq_true.mpr fun x hx => List.all_eq_true.mpr fun y hy => ?_, ?_, List.all_eq_true.mpr fun x hx => ?_⟩
    · obtain ⟨a, _, rfl⟩ := List.mem_map.mp hx
      obtain ⟨b, _, rfl⟩ := List.mem_map.mp hy
      simp only [PySem.W.alike, PySem.W.alikeAll, eR, alikeAll_eV, alike_eN, Bool.and_true]
    · unfold sortable
      rw [Bool.or_eq_true]
      left
      refine List.all_eq_true.mpr fun x hx => ?_
      obtain ⟨a, _, rfl⟩ := List.mem_map.mp hx
      rfl
    · obtain ⟨a, _, rfl⟩ := List.mem_map.mp hx
      have h1 := depth_eR a.1
      have h2 := depth_eN a.2
      rw [decide_eq_true_eq]
      show max (eR a.1).depth (max (eN a.2).depth 0) + 1 ≤ 64
      omega
  show (sortL (eLv lv)).map PyData.list = _
  rw [hs, isort_asc]
  · rfl
  · unfold eLv
    rw [List.pairwise_map]
    refine h.1.imp fun {x y} q => ?_
    have q' := ltR_asymm q
    have hne : y.1 ≠ x.1 := fun e => by rw [e] at q; rw [ltR_irr] at q; cases q
    show PySem.W.dataLt (.tuple [eR y.1, eN y.2]) (.tuple [eR x.1, eN x.2]) = false
    rw [lt_cons (by simp only [eR, PySem.W.alike]; exact alikeAll_eV _ _), eqv_eR, decide_eq_false hne, if_neg Bool.false_ne_true]
    exact q'
end
end Bk
namespace Bk
open PySem
def envW (p : Plan) (g : List Call) (s : List Nat) (bg : Slot) (kn : List Node) (lv : List (Run × Node)) (f : List (End × Run)) (x7 x8 x9 x10 x11 x12 x13 x14 x15 x16 : Slot) : Ev :=
  [.val (.d (eP p)), .val (.d (eCs g)), .val (.d (eS s)), bg, .own (.dict (eKn kn)), .val (.d (.list (eLv lv))), .own (.dict (eF f)), x7, x8, x9, x10, x11, x12, x13, x14, x15, x16]
theorem plain_eN (n : Node) : (eN n).plain = true := by
  simp only [eN, PyData.plain, PyData.plainAll, plain_eC, plain_eS, Bool.true_and, Bool.and_true]
  exact plainAll_map fun c _ => plain_eC c
theorem plain_eR (r : Run) : (eR r).plain = true := by
  simp only [eR, PyData.plain]
  exact plainAll_map fun c _ => plain_eV c
theorem ne_lv (lv : List (Run × Node)) : cmpD .ne (.list (eLv lv)) (.list []) = some (!lv.isEmpty) := by
  have hs : shapedB (.list (eLv lv)) = true := shaped_list (f := fun x : Run × Node => PyData.tuple [eR x.1, eN x.2]) fun x _ => by
    refine ⟨by simp only [PyData.plain, PyData.plainAll, plain_eR, plain_eN, Bool.and_true], ?_⟩
    have h1 := depth_eR x.1
    have h2 := depth_eN x.2
    show max (eR x.1).depth (max (eN x.2).depth 0) + 1 ≤ 60
    omega
  show (if shapedB (.list (eLv lv)) = true ∧ shapedB (.list []) = true then some (PyData.eqv (.list (eLv lv)) (.list [])) else none).map (!·) = _
  rw [if_pos ⟨hs, rfl⟩]
  cases lv with
  | nil => rfl
  | cons x lv => rfl
section
variable {gl : Nat → Option PyData} {tb : Nat → Option Fn} {fu n : Nat} {t : Town}
theorem turn_run (hP : PT tb) (hn : 4 ≤ n) {p : Plan} (hp : PlanOk p) {g : List Call} {s : List Nat} {bg : Slot} {L : Nat} (hL : L ≤ 60000) {kn : List Node} {lv : List (Run × Node)} {f : List (End × Run)} (hk : KOk p L kn f) (hl : LvOk p L lv) (x7 x8 x9 x10 x11 x12 x13 x14 x15 x16 : Slot) : ∃ y7 y8 y9 y10 y11 y12 y13 y14 y15 y16,
      exs gl (run gl tb fu (n - 1)) fu B_found_ends_f3 (envW p g s bg kn lv f x7 x8 x9 x10 x11 x12 x13 x14 x15 x16) t
      = .ok (.next (envW p g s bg (bLevel p g lv ⟨kn, [], f⟩).known (bLevel p g lv ⟨kn, [], f⟩).fur (bLevel p g lv ⟨kn, [], f⟩).found y7 y8 y9 y10 y11 y12 y13 y14 y15 y16)) t := by
  obtain ⟨y8, y9, y10, y11, y12, y13, y14, y15, y16, e⟩ := outer_run (gl := gl) (fu := fu) (t := t) hP hn hp (g := g) (s := s) (bg := bg) (sl := .val (.d (.list (eLv lv)))) hL hl hk.b (fun y _ o => hk.bef _) x8 x9 x10 x11 x12 x13 x14 x15 x16
  have ok := level_ok hp (g := g) hl hk.b (fun y _ o => hk.bef _)
  have es := sort_lv ok.lv
  generalize bLevel p g lv ⟨kn, [], f⟩ = b at e es
  refine ⟨.own (.list (eLv b.fur)), y8, y9, y10, y11, y12, y13, y14, y15, y16, ?_⟩
  have e0 : eLv [] = [] := rfl
  simp only [envF, e0] at e
  simp [B_found_ends_f3, ex_for, envW, fresh, e, es]
theorem while_run (hP : PT tb) (hn : 4 ≤ n) {p : Plan} (hp : PlanOk p) {g : List Call} {s : List Nat} {bg : Slot} : ∀ (m : Nat) {L : Nat} {kn : List Node} {lv : List (Run × Node)} {f : List (End × Run)}, KOk p L kn f → LvOk p L lv → (lv ≠ [] → L + 1 ≤ kn.length ∧ 55298 ≤ m + kn.length) → 55297 ≤ m + kn.length →
    ∀ x7 x8 x9 x10 x11 x12 x13 x14 x15 x16, ∃ kn' y7 y8 y9 y10 y11 y12 y13 y14 y15 y16,
      whGo (fun ρ' => ev gl (run gl tb fu (n - 1)) (.cmp .ne (.var 5) (.lst [])) ρ' >>= asB) (fun ρ' => exs gl (run gl tb fu (n - 1)) fu B_found_ends_f3 ρ') m (envW p g s bg kn lv f x7 x8 x9 x10 x11 x12 x13 x14 x15 x16) t
      = .ok (.next (envW p g s bg kn' [] (bfs p g m kn lv f) y7 y8 y9 y10 y11 y12 y13 y14 y15 y16)) t
  | 0, L, kn, lv, f, hk, _, _, h2, _, _, _, _, _, _, _, _, _, _ => by
    have := kbound hp hk
    omega
  | m + 1, L, kn, lv, f, hk, hl, h1, h2, x7, x8, x9, x10, x11, x12, x13, x14, x15, x16 => by
    have hc : (ev gl (run gl tb fu (n - 1)) (.cmp .ne (.var 5) (.lst [])) (envW p g s bg kn lv f x7 x8 x9 x10 x11 x12 x13 x14 x15 x16) >>= asB) t = .ok (!lv.isEmpty) t := by
      have := ne_lv lv
      simp [envW, this]
    have hw : ∀ ρ, whGo (fun ρ' => ev gl (run gl tb fu (n - 1)) (.cmp .ne (.var 5) (.lst [])) ρ' >>= asB) (fun ρ' => exs gl (run gl tb fu (n - 1)) fu B_found_ends_f3 ρ') (m + 1) ρ t = R.bnd ((ev gl (run gl tb fu (n - 1)) (.cmp .ne (.var 5) (.lst [])) ρ >>= asB) t) fun b t => if b = true then R.seq (exs gl (run gl tb fu (n - 1)) fu B_found_ends_f3 ρ t) (fun ρ' t => whGo (fun ρ' => ev gl (run gl tb fu (n - 1)) (.cmp .ne (.var 5) (.lst [])) ρ' >>= asB) (fun ρ' => exs gl (run gl tb fu (n - 1)) fu B_found_ends_f3 ρ') m ρ' t) else .ok (.next ρ) t := fun ρ => by
      show R.bnd _ _ = _
      congr 1
      funext b t
      rw [ite_at]
      congr 1
      show R.bnd _ _ = _
      unfold R.seq
      congr 1
      funext fl t
      cases fl <;> rfl
    rw [hw, hc, bnd_ok]
    cases lv with
    | nil => exact ⟨kn, x7, x8, x9, x10, x11, x12, x13, x14, x15, x16, rfl⟩
    | cons x lv =>
      obtain ⟨hL, hm⟩ := h1 (by simp)
      have kb := kbound hp hk
      obtain ⟨y7, y8, y9, y10, y11, y12, y13, y14, y15, y16, e⟩ := turn_run (gl := gl) (fu := fu) (t := t) hP hn hp (g := g) (s := s) (bg := bg) (by omega) hk hl x7 x8 x9 x10 x11 x12 x13 x14 x15 x16
      have ok := level_ok hp (g := g) hl hk.b (fun y _ o => hk.bef _)
      have kl := ok.kl
      obtain ⟨kn', z7, z8, z9, z10, z11, z12, z13, z14, z15, z16, e2⟩ := while_run hP hn hp m (L := L + 1) ok.k ok.lv (fun hne => by
        have : 0 < (bLevel p g (x :: lv) ⟨kn, [], f⟩).fur.length := List.length_pos_iff.mpr hne
        exact ⟨by omega, by omega⟩) (by omega) y7 y8 y9 y10 y11 y12 y13 y14 y15 y16
      refine ⟨kn', z7, z8, z9, z10, z11, z12, z13, z14, z15, z16, ?_⟩
      show (if true = true then _ else _) = _
      rw [if_pos rfl, e, seq_next]
      exact e2
/-- what the search finds -/
def beginN (s : List Nat) : Node := ⟨.go 0, [], s⟩
def foundT (p : Plan) (g : List Call) (s : List Nat) : List (End × Run) := bfs p g 100000 [beginN s] [([], beginN s)] []
theorem begin_ok {p : Plan} (hp : PlanOk p) {s : List Nat} (hs : StOk p.k s) : NodeOk p (beginN s) := ⟨mem_calls.mpr ⟨hp.n1, fun i e => by cases e⟩, made_nil p, hs⟩
theorem run_found (hP : PT tb) (hg : gl 1 = some D_FIRST) (hn : 4 ≤ n) {p : Plan} (hp : PlanOk p) {g : List Call} {s : List Nat} (hs : StOk p.k s) : run gl tb 100000 n 42 [.d (eP p), .d (eCs g), .d (eS s)] t = .ok (.d (.dict (eF (foundT p g s)))) t := by
  rw [run_py (hP 42 (by decide)) rfl (by omega)]
  show R.bnd (exs gl _ 100000 B_found_ends [.val (.d (eP p)), .val (.d (eCs g)), .val (.d (eS s)), .emp, .emp, .emp, .emp, .emp, .emp, .emp, .emp, .emp, .emp, .emp, .emp, .emp, .emp] t) _ = _
  have b := begin_ok hp hs
  have hk : KOk p 0 [beginN s] [] := ⟨by simp, by simpa using b, by simp, by simp, by simp⟩
  have hl : LvOk p 0 [([], beginN s)] := ⟨by simp, by simpa using b⟩
  obtain ⟨kn', y7, y8, y9, y10, y11, y12, y13, y14, y15, y16, e⟩ := while_run (gl := gl) (fu := 100000) (t := t) (n := n) hP hn hp (g := g) (s := s) (bg := .val (.d (eN (beginN s)))) 100000 hk hl (fun _ => ⟨by simp, by simp⟩) (by simp) .emp .emp .emp .emp .emp .emp .emp .emp .emp .emp
  have e1 : PyData.tuple [D_FIRST, .tuple [], eS s] = eN (beginN s) := rfl
  have e2 : eKn [beginN s] = [(eN (beginN s), .bool true)] := rfl
  have e3 : eLv [([], beginN s)] = [.tuple [.tuple [], eN (beginN s)]] := rfl
  have e4 : eF [] = [] := rfl
  have d1 : ∀ ρ, ev gl (run gl tb 100000 (n - 1)) (.dis []) ρ t = .ok (.d (.dict [])) t := fun _ => rfl
  have k1 := keyOk_eN (beginN s)
  have d2 : ∀ ρ, slotAt ρ 3 = .val (.d (eN (beginN s))) → ev gl (run gl tb 100000 (n - 1)) (.dis [.var 3, .con (.bool true)]) ρ t = .ok (.d (.dict [(eN (beginN s), .bool true)])) t := fun ρ hρ => by
    have he : evs gl (run gl tb 100000 (n - 1)) [.var 3, .con (.bool true)] ρ t = .ok [eN (beginN s), .bool true] t := by simp [hρ, isOwn]
    show R.bnd (evs gl (run gl tb 100000 (n - 1)) [.var 3, .con (.bool true)] ρ t) (fun xs t => (match xs with
      | [] => pure (.d (.dict []))
      | [k, v] => if keyOk k = true then pure (.d (.dict [(k, v)])) else M.fail
      | _ => M.fail : M Val) t) = _
    rw [he]
    show (if keyOk (eN (beginN s)) = true then pure (.d (.dict [(eN (beginN s), .bool true)])) else M.fail : M Val) t = _
    rw [k1, if_pos rfl]
    rfl
  have e5 : ∀ x, setOwn 4 (.d (.dict x)) = fun ρ => if 4 < ρ.length then some (ρ.set 4 (.own (.dict x))) else none := fun _ => rfl
  have e6 : ∀ x, setOwn 6 (.d (.dict x)) = fun ρ => if 6 < ρ.length then some (ρ.set 6 (.own (.dict x))) else none := fun _ => rfl
  have e7 : asP (.d D_FIRST) t = .ok D_FIRST t := rfl
  simp only [envW, e2, e3, e4] at e
  unfold foundT
  simp only [B_found_ends]
  simp [hg, e7, e1, fresh, ex_while]
  rw [d2 _ rfl]
  simp only [bnd_ok]
  rw [d1]
  simp [setPar, e5, e6, e]
end
end Bk
namespace Bk
open PySem
/-- where an outcome leads -/
def stepN (p : Plan) (g : List Call) (n : Node) (o : Out) : Node ⊕ End := match nextN p n.here o with
  | .fin k => .inr (k, (moveT p g n.here n.made n.st o).2)
  | .call c => .inl ⟨c, (moveT p g n.here n.made n.st o).1, (moveT p g n.here n.made n.st o).2⟩
inductive Reach (p : Plan) (g : List Call) (s : List Nat) : Run → Node → Prop
  | nil : Reach p g s [] (beginN s)
  | snoc {r : Run} {n n' : Node} {o : Out} : Reach p g s r n → o ∈ outs p g n.here n.made → stepN p g n o = .inl n' → Reach p g s (r ++ [(n.here, o)]) n'
/-- a run with its end -/
def EndsR (p : Plan) (g : List Call) (s : List Nat) (r : Run) (e : End) : Prop := ∃ r0 n o, Reach p g s r0 n ∧ o ∈ outs p g n.here n.made ∧ stepN p g n o = .inr e ∧ r = r0 ++ [(n.here, o)]
theorem bStep_inl {p : Plan} {g : List Call} {r : Run} {n n' : Node} {b : BS} {o : Out} (h : stepN p g n o = .inl n') : bStep p g r n b o = if n' ∈ b.known then b else { b with known := b.known ++ [n'], fur := b.fur ++ [(r ++ [(n.here, o)], n')] } := by
  unfold stepN at h
  unfold bStep
  cases hx : nextN p n.here o with
  | fin k =>
    rw [hx] at h
    cases h
  | call c =>
    rw [hx] at h
    cases h
    rfl
theorem bStep_inr {p : Plan} {g : List Call} {r : Run} {n : Node} {e : End} {b : BS} {o : Out} (h : stepN p g n o = .inr e) : bStep p g r n b o = { b with found := putF b.found e (r ++ [(n.here, o)]) } := by
  unfold stepN at h
  unfold bStep
  cases hx : nextN p n.here o with
  | fin k =>
    rw [hx] at h
    cases h
    rfl
  | call c =>
    rw [hx] at h
    cases h
abbrev Tri := Run × Node × Out
def Tri.r (x : Tri) : Run := x.1 ++ [(x.2.1.here, x.2.2)]
/-- what has been looked at (T), and what has come of it -/
structure Pf (p : Plan) (g : List Call) (k0 : List Node) (f0 : List (End × Run)) (T : Tri → Prop) (b : BS) : Prop where
  p1 : ∀ x ∈ b.fur, x.2 ∉ k0 ∧ ∃ y, T y ∧ x.1 = Tri.r y ∧ stepN p g y.2.1 y.2.2 = .inl x.2
  p2 : ∀ y, T y → ∀ n', stepN p g y.2.1 y.2.2 = .inl n' → n' ∈ k0 ∨ ∃ r'', (r'', n') ∈ b.fur ∧ (r'' = Tri.r y ∨ ltR r'' (Tri.r y) = true)
  p3 : b.known = k0 ++ b.fur.map (·.2)
  p4 : ∀ x ∈ b.found, x ∈ f0 ∨ ∃ y, T y ∧ x.2 = Tri.r y ∧ stepN p g y.2.1 y.2.2 = .inr x.1
  p5 : ∀ y, T y → ∀ e, stepN p g y.2.1 y.2.2 = .inr e → ∃ r'', (e, r'') ∈ b.found ∧ ((e, r'') ∈ f0 ∨ r'' = Tri.r y ∨ ltR r'' (Tri.r y) = true)
  p6 : ∀ x ∈ f0, x ∈ b.found
theorem putF_keeps {f : List (End × Run)} {e : End} {r : Run} {x : End × Run} (h : x ∈ f) : x ∈ putF f e r := by
  cases q : fget e f with
  | none => rw [putF_none q]; exact List.mem_append_left _ h
  | some u => rw [putF_some q]; exact h
theorem pf_step {p : Plan} {g : List Call} {k0 : List Node} {f0 : List (End × Run)} {T : Tri → Prop} {b : BS} (h : Pf p g k0 f0 T b) {L : Nat} (hf0 : ∀ x ∈ f0, x.2.length ≤ L) (hTl : ∀ y, T y → (Tri.r y).length = L + 1) {r : Run} {m : Node} {o : Out} (hr : r.length = L) (hb : Bef L b (r ++ [(m.here, o)])) :
    Pf p g k0 f0 (fun y => T y ∨ y = (r, m, o)) (bStep p g r m b o) := by
  cases hx : stepN p g m o with
  | inl n' =>
    rw [bStep_inl hx]
    by_cases hk : n' ∈ b.known
    · rw [if_pos hk]
      refine ⟨fun x hx => ?_, fun y hy n'' e => ?_, h.p3, fun x hx => ?_, fun y hy e' he => ?_, h.p6⟩
      · obtain ⟨a, y, b1, b2⟩ := h.p1 x hx
        exact ⟨a, y, .inl b1, b2⟩
      · rcases hy with hy | rfl
        · exact h.p2 y hy n'' e
        · rw [hx] at e
          cases e
          rw [h.p3] at hk
          rcases List.mem_append.mp hk with hk | hk
          · exact .inl hk
          · obtain ⟨z, hz, e⟩ := List.mem_map.mp hk
            subst e
            exact .inr ⟨z.1, hz, .inr (hb.2 z hz)⟩
      · rcases h.p4 x hx with q | ⟨y, b1, b2⟩
        · exact .inl q
        · exact .inr ⟨y, .inl b1, b2⟩
      · rcases hy with hy | rfl
        · exact h.p5 y hy e' he
        · rw [hx] at he
          cases he
    · rw [if_neg hk]
      have hk0 : n' ∉ k0 := fun q => hk (by rw [h.p3]; exact List.mem_append_left _ q)
      refine ⟨fun x hx' => ?_, fun y hy n'' e => ?_, ?_, fun x hx => ?_, fun y hy e' he => ?_, h.p6⟩
      · rcases List.mem_append.mp hx' with q | q
        · obtain ⟨a, y, b1, b2⟩ := h.p1 x q
          exact ⟨a, y, .inl b1, b2⟩
        · rw [List.mem_singleton.mp q]
          exact ⟨hk0, (r, m, o), .inr rfl, rfl, hx⟩
      · rcases hy with hy | rfl
        · rcases h.p2 y hy n'' e with q | ⟨r'', q1, q2⟩
          · exact .inl q
          · exact .inr ⟨r'', List.mem_append_left _ q1, q2⟩
        · rw [hx] at e
          cases e
          exact .inr ⟨_, List.mem_append_right _ (List.mem_singleton.mpr rfl), .inl rfl⟩
      · show b.known ++ [n'] = k0 ++ (b.fur ++ [(r ++ [(m.here, o)], n')]).map (·.2)
        rw [h.p3]
        simp
      · rcases h.p4 x hx with q | ⟨y, b1, b2⟩
        · exact .inl q
        · exact .inr ⟨y, .inl b1, b2⟩
      · rcases hy with hy | rfl
        · exact h.p5 y hy e' he
        · rw [hx] at he
          cases he
  | inr e =>
    rw [bStep_inr hx]
    refine ⟨fun x hx => ?_, fun y hy n'' q => ?_, h.p3, fun x hx' => ?_, fun y hy e' he => ?_, fun x hx => putF_keeps (h.p6 x hx)⟩
    · obtain ⟨a, y, b1, b2⟩ := h.p1 x hx
      exact ⟨a, y, .inl b1, b2⟩
    · rcases hy with hy | rfl
      · exact h.p2 y hy n'' q
      · rw [hx] at q
        cases q
    · rcases putF_mem hx' with q | rfl
      · rcases h.p4 x q with q | ⟨y, b1, b2⟩
        · exact .inl q
        · exact .inr ⟨y, .inl b1, b2⟩
      · exact .inr ⟨(r, m, o), .inr rfl, rfl, hx⟩
    · rcases hy with hy | rfl
      · obtain ⟨r'', q1, q2⟩ := h.p5 y hy e' he
        exact ⟨r'', putF_keeps q1, q2⟩
      · rw [hx] at he
        cases he
        cases q : fget e b.found with
        | none =>
          rw [putF_none q]
          exact ⟨_, List.mem_append_right _ (List.mem_singleton.mpr rfl), .inr (.inl rfl)⟩
        | some u =>
          rw [putF_some q]
          have hu := look_some' q
          refine ⟨u, hu, ?_⟩
          rcases h.p4 _ hu with z | ⟨y, b1, b2, _⟩
          · exact .inl z
          · right
            right
            refine hb.1 _ hu ?_
            have b2 : u = Tri.r y := b2
            show u.length = L + 1
            rw [b2]
            exact hTl y b1
end Bk
namespace Bk
open PySem
theorem Pf.congr {p : Plan} {g : List Call} {k0 : List Node} {f0 : List (End × Run)} {T T' : Tri → Prop} {b : BS} (h : Pf p g k0 f0 T b) (e : ∀ y, T y ↔ T' y) : Pf p g k0 f0 T' b := by
  have : T = T' := funext fun y => propext (e y)
  rw [← this]
  exact h
theorem inner_pf {p : Plan} (hp : PlanOk p) {g : List Call} {k0 : List Node} {f0 : List (End × Run)} {L K0 : Nat} (hf0 : ∀ x ∈ f0, x.2.length ≤ L) {r : Run} {m : Node} (hm : NodeOk p m) (hr : r.length = L) :
    ∀ {os : List Out} {b : BS} {T : Tri → Prop}, os.Pairwise (fun a b => ltO a b = true) → BOk p L K0 b → (∀ o ∈ os, Bef L b (r ++ [(m.here, o)])) → (∀ y, T y → (Tri.r y).length = L + 1) → Pf p g k0 f0 T b → Pf p g k0 f0 (fun y => T y ∨ ∃ o ∈ os, y = (r, m, o)) (os.foldl (bStep p g r m) b)
  | [], b, T, _, _, _, _, h => h.congr fun y => by simp
  | o :: os, b, T, pw, hB, h1, hT, h => by
    obtain ⟨q1, q2⟩ := List.pairwise_cons.mp pw
    have hb := h1 o (List.mem_cons_self ..)
    obtain ⟨a1, a2⟩ := bStep_ok hp hB hm hr hb (g := g)
    have h' := pf_step h hf0 hT hr hb (m := m)
    have := inner_pf hp (g := g) hf0 hm hr (os := os) (b := bStep p g r m b o) (T := fun y => T y ∨ y = (r, m, o)) q2 a1 (fun o' ho' => a2 _ (h1 o' (List.mem_cons_of_mem _ ho')) (ltR_out m.here (q1 o' ho') r)) (fun y hy => by
      rcases hy with hy | rfl
      · exact hT y hy
      · simp [Tri.r, hr]) h'
    refine Pf.congr this fun y => ?_
    simp [or_assoc]
theorem level_pf {p : Plan} (hp : PlanOk p) {g : List Call} {k0 : List Node} {f0 : List (End × Run)} {L K0 : Nat} (hf0 : ∀ x ∈ f0, x.2.length ≤ L) :
    ∀ {lv : List (Run × Node)} {b : BS} {T : Tri → Prop}, LvOk p L lv → BOk p L K0 b → (∀ y ∈ lv, ∀ o, Bef L b (y.1 ++ [(y.2.here, o)])) → (∀ y, T y → (Tri.r y).length = L + 1) → Pf p g k0 f0 T b →
      Pf p g k0 f0 (fun y => T y ∨ ((y.1, y.2.1) ∈ lv ∧ y.2.2 ∈ outs p g y.2.1.here y.2.1.made)) (bLevel p g lv b)
  | [], b, T, _, _, _, _, h => h.congr fun y => by simp
  | x :: lv, b, T, hl, hB, h1, hT, h => by
    obtain ⟨a1, a2⟩ := node_ok hp (g := g) hl hB h1
    obtain ⟨nx, lx⟩ := hl.2 x (List.mem_cons_self ..)
    have h' := inner_pf hp (g := g) hf0 nx lx (os := outs p g x.2.here x.2.made) (outs_pw p g _ _) hB (fun o _ => h1 x (List.mem_cons_self ..) o) hT h
    have := level_pf hp (g := g) hf0 (lv := lv) (b := bNode p g b x) (T := fun y => T y ∨ ∃ o ∈ outs p g x.2.here x.2.made, y = (x.1, x.2, o)) hl.tail a1 a2 (fun y hy => by
      rcases hy with hy | ⟨o, _, rfl⟩
      · exact hT y hy
      · simp [Tri.r, lx]) h'
    refine Pf.congr this fun y => ?_
    obtain ⟨y1, y2, y3⟩ := y
    constructor
    · rintro ((h | ⟨o, ho, e⟩) | ⟨h, h2⟩)
      · exact .inl h
      · cases e
        exact .inr ⟨List.mem_cons_self .., ho⟩
      · exact .inr ⟨List.mem_cons_of_mem _ h, h2⟩
    · rintro (h | ⟨h, h2⟩)
      · exact .inl (.inl h)
      · rcases List.mem_cons.mp h with e | h
        · subst e
          exact .inl (.inr ⟨y3, h2, rfl⟩)
        · exact .inr ⟨h, h2⟩
/-! ### invariants from level to level -/
def sle (a b : Run) : Prop := a.length < b.length ∨ (a.length = b.length ∧ (a = b ∨ ltR a b = true))
structure Lvl (p : Plan) (g : List Call) (s : List Nat) (L : Nat) (kn : List Node) (lv : List (Run × Node)) (f : List (End × Run)) : Prop where
  i1 : ∀ n ∈ kn, ∃ r, Reach p g s r n ∧ r.length ≤ L
  i2 : ∀ x ∈ lv, Reach p g s x.1 x.2
  i3 : ∀ r n, Reach p g s r n → r.length ≤ L → n ∈ kn
  i3' : ∀ r n, Reach p g s r n → r.length = L → (∃ r', Reach p g s r' n ∧ r'.length < L) ∨ ∃ r', (r', n) ∈ lv ∧ (r' = r ∨ ltR r' r = true)
  i4 : ∀ x ∈ f, EndsR p g s x.2 x.1
  i5 : ∀ r e, EndsR p g s r e → r.length ≤ L → ∃ r', (e, r') ∈ f ∧ sle r' r
theorem reach_len {p : Plan} {g : List Call} {s : List Nat} {r : Run} {n : Node} (h : Reach p g s r n) : r ≠ [] → ∃ r0 n0 o, Reach p g s r0 n0 ∧ o ∈ outs p g n0.here n0.made ∧ stepN p g n0 o = .inl n ∧ r = r0 ++ [(n0.here, o)] := by
  intro hne
  cases h with
  | nil => exact absurd rfl hne
  | snoc h1 h2 h3 => exact ⟨_, _, _, h1, h2, h3, rfl⟩
end Bk
namespace Bk
open PySem
theorem dlt_trans {a b c : PyData} (h1 : PySem.W.dataLt a b = true) (h2 : PySem.W.dataLt b c = true) : PySem.W.dataLt a c = true := by
  cases q : PySem.W.dataLt a c with
  | true => rfl
  | false =>
    have e1 : leD2 c a = true := by rw [leD2_eq, q]; rfl
    have e2 : leD2 a b = true := by
      rw [leD2_eq]
      cases z : PySem.W.dataLt b a with
      | false => rfl
      | true => exact (dlt_asymm h1 z).elim
    have e3 := leD2_total.trans c a b e1 e2
    rw [leD2_eq, h2] at e3
    cases e3
theorem ltR_trans {a b c : Run} (h1 : ltR a b = true) (h2 : ltR b c = true) : ltR a c = true := dlt_trans h1 h2
theorem lvl_step {p : Plan} (hp : PlanOk p) {g : List Call} {s : List Nat} {L : Nat} {kn : List Node} {lv : List (Run × Node)} {f : List (End × Run)} (h : Lvl p g s L kn lv f) (hk : KOk p L kn f) (hl : LvOk p L lv) :
    Lvl p g s (L + 1) (bLevel p g lv ⟨kn, [], f⟩).known (bLevel p g lv ⟨kn, [], f⟩).fur (bLevel p g lv ⟨kn, [], f⟩).found := by
  have P0 : Pf p g kn f (fun _ => False) ⟨kn, [], f⟩ := ⟨by simp, by simp, by simp, fun x hx => .inl hx, by simp, fun x hx => hx⟩
  have P := level_pf hp (g := g) (k0 := kn) (f0 := f) hk.dl hl hk.b (fun y _ o => hk.bef _) (by simp) P0
  have ok := level_ok hp (g := g) hl hk.b (fun y _ o => hk.bef _)
  generalize bLevel p g lv ⟨kn, [], f⟩ = b at P ok
  have fr : ∀ x ∈ b.fur, Reach p g s x.1 x.2 := fun x hx => by
    obtain ⟨_, y, hy, e1, e2⟩ := P.p1 x hx
    rcases hy with hy | ⟨h1, h2⟩
    · exact hy.elim
    · rw [e1]
      exact .snoc (h.i2 _ h1) h2 e2
  -- a run of length L + 1 comes of the level, or its node is nearer
  have back : ∀ r n o, Reach p g s r n → r.length = L → o ∈ outs p g n.here n.made → (∃ r', Reach p g s r' n ∧ r'.length < L) ∨ ∃ r', (r', n) ∈ lv ∧ (r' ++ [(n.here, o)] = r ++ [(n.here, o)] ∨ ltR (r' ++ [(n.here, o)]) (r ++ [(n.here, o)]) = true) := fun r n o hr hL ho => by
    rcases h.i3' r n hr hL with q | ⟨r', q1, q2⟩
    · exact .inl q
    · refine .inr ⟨r', q1, ?_⟩
      rcases q2 with rfl | q2
      · exact .inl rfl
      · exact .inr (ltR_ext (by rw [(hl.2 _ q1).2, hL]) q2)
  refine ⟨fun n hn => ?_, fr, fun r n hr hlen => ?_, fun r n hr hlen => ?_, fun x hx => ?_, fun r e he hlen => ?_⟩
  · rw [P.p3] at hn
    rcases List.mem_append.mp hn with hn | hn
    · obtain ⟨r, h1, h2⟩ := h.i1 n hn
      exact ⟨r, h1, by omega⟩
    · obtain ⟨x, hx, rfl⟩ := List.mem_map.mp hn
      exact ⟨x.1, fr x hx, by rw [(ok.fok x hx).2]; omega⟩
  · rw [P.p3]
    by_cases hc : r.length ≤ L
    · exact List.mem_append_left _ (h.i3 r n hr hc)
    · obtain ⟨r0, n0, o, h1, h2, h3, rfl⟩ := reach_len hr (fun e => by rw [e] at hc; simp at hc)
      have hl0 : r0.length = L := by simp at hlen hc; omega
      rcases back r0 n0 o h1 hl0 h2 with ⟨r', q1, q2⟩ | ⟨r', q1, q2⟩
      · exact List.mem_append_left _ (h.i3 _ n (.snoc q1 h2 h3) (by simp; omega))
      · rcases P.p2 (r', n0, o) (.inr ⟨q1, h2⟩) n h3 with z | ⟨r'', z, _⟩
        · exact List.mem_append_left _ z
        · exact List.mem_append_right _ (List.mem_map.mpr ⟨_, z, rfl⟩)
  · obtain ⟨r0, n0, o, h1, h2, h3, rfl⟩ := reach_len hr (fun e => by rw [e] at hlen; simp at hlen)
    have hl0 : r0.length = L := by simp at hlen; omega
    rcases back r0 n0 o h1 hl0 h2 with ⟨r', q1, q2⟩ | ⟨r', q1, q2⟩
    · exact .inl ⟨_, .snoc q1 h2 h3, by simp; omega⟩
    · rcases P.p2 (r', n0, o) (.inr ⟨q1, h2⟩) n h3 with z | ⟨r'', z, w⟩
      · obtain ⟨u, u1, u2⟩ := h.i1 n z
        exact .inl ⟨u, u1, by omega⟩
      · refine .inr ⟨r'', z, ?_⟩
        have w : r'' = r' ++ [(n0.here, o)] ∨ ltR r'' (r' ++ [(n0.here, o)]) = true := w
        rcases w with rfl | w
        · exact q2
        · rcases q2 with q2 | q2
          · rw [q2] at w
            exact .inr w
          · exact .inr (ltR_trans w q2)
  · rcases P.p4 x hx with z | ⟨y, hy, e1, e2⟩
    · exact h.i4 x z
    · rcases hy with hy | ⟨h1, h2⟩
      · exact hy.elim
      · exact ⟨_, _, _, h.i2 _ h1, h2, e2, e1⟩
  · by_cases hc : r.length ≤ L
    · obtain ⟨r', q1, q2⟩ := h.i5 r e he hc
      exact ⟨r', P.p6 _ q1, q2⟩
    · obtain ⟨r0, n0, o, h1, h2, h3, rfl⟩ := he
      have hl0 : r0.length = L := by simp at hlen hc; omega
      rcases back r0 n0 o h1 hl0 h2 with ⟨r', q1, q2⟩ | ⟨r', q1, q2⟩
      · obtain ⟨u, u1, u2⟩ := h.i5 (r' ++ [(n0.here, o)]) e ⟨r', n0, o, q1, h2, h3, rfl⟩ (by simp; omega)
        refine ⟨u, P.p6 _ u1, .inl ?_⟩
        rcases u2 with u2 | ⟨u2, _⟩
        · simp at u2 ⊢
          omega
        · simp at u2 ⊢
          omega
      · obtain ⟨r'', z, w⟩ := P.p5 (r', n0, o) (.inr ⟨q1, h2⟩) e h3
        refine ⟨r'', z, ?_⟩
        have lr' := (hl.2 _ q1).2
        have old : (e, r'') ∈ f → sle r'' (r0 ++ [(n0.here, o)]) := fun q => .inl (by have q' : r''.length ≤ L := hk.dl _ q; rw [List.length_append, hl0]; simp; omega)
        rcases w with w | w
        · exact old w
        · have w : r'' = r' ++ [(n0.here, o)] ∨ ltR r'' (r' ++ [(n0.here, o)]) = true := w
          have len : (e, r'') ∈ f ∨ r''.length = L + 1 := by
            rcases P.p4 _ z with q | ⟨y, hy, e1, _⟩
            · exact .inl q
            · rcases hy with hy | ⟨y1, _⟩
              · exact hy.elim
              · have e1 : r'' = Tri.r y := e1
                right
                rw [e1]
                simp [Tri.r, (hl.2 _ y1).2]
          rcases len with q | q
          · exact old q
          · refine .inr ⟨by simp [q, hl0], ?_⟩
            rcases w with rfl | w
            · exact q2
            · rcases q2 with q2 | q2
              · rw [q2] at w
                exact .inr w
              · exact .inr (ltR_trans w q2)
end Bk
namespace Bk
open PySem
theorem lvl_end {p : Plan} {g : List Call} {s : List Nat} {L : Nat} {kn : List Node} {f : List (End × Run)} (h : Lvl p g s L kn [] f) : ∀ {r : Run} {n : Node}, Reach p g s r n → ∃ r', Reach p g s r' n ∧ r'.length < L ∧ r'.length ≤ r.length := by
  have at' : ∀ r n, Reach p g s r n → r.length ≤ L → ∃ r', Reach p g s r' n ∧ r'.length < L ∧ r'.length ≤ r.length := fun r n hr hl => by
    by_cases hc : r.length < L
    · exact ⟨r, hr, hc, Nat.le_refl _⟩
    · rcases h.i3' r n hr (by omega) with ⟨r', q1, q2⟩ | ⟨r', q1, _⟩
      · exact ⟨r', q1, q2, by omega⟩
      · cases q1
  intro r n hr
  induction hr with
  | nil => exact at' _ _ .nil (Nat.zero_le _)
  | @snoc r n n' o h1 h2 h3 ih =>
    obtain ⟨r', q1, q2, q3⟩ := ih
    obtain ⟨u, u1, u2, u3⟩ := at' _ _ (.snoc q1 h2 h3) (by simp; omega)
    exact ⟨u, u1, u2, by simp at u3 ⊢; omega⟩
def FoundOk (p : Plan) (g : List Call) (s : List Nat) (f : List (End × Run)) : Prop := (f.map (·.1)).Nodup ∧ (∀ x ∈ f, StOk p.k x.1.2) ∧ (∀ x ∈ f, EndsR p g s x.2 x.1) ∧ ∀ r e, EndsR p g s r e → ∃ r', (e, r') ∈ f ∧ sle r' r
theorem bfs_ok {p : Plan} (hp : PlanOk p) {g : List Call} {s : List Nat} : ∀ (m : Nat) {L : Nat} {kn : List Node} {lv : List (Run × Node)} {f : List (End × Run)}, KOk p L kn f → LvOk p L lv → Lvl p g s L kn lv f → (lv ≠ [] → 55298 ≤ m + kn.length) → 55297 ≤ m + kn.length → FoundOk p g s (bfs p g m kn lv f)
  | 0, L, kn, lv, f, hk, _, _, _, h2 => by
    have := kbound hp hk
    omega
  | m + 1, L, kn, lv, f, hk, hl, hv, h1, h2 => by
    unfold bfs
    by_cases he : lv = []
    · rw [if_pos he]
      subst he
      refine ⟨hk.dn, hk.dok, hv.i4, fun r e hr => ?_⟩
      by_cases hc : r.length ≤ L
      · exact hv.i5 r e hr hc
      · obtain ⟨r0, n, o, q1, q2, q3, rfl⟩ := hr
        obtain ⟨r', u1, u2, u3⟩ := lvl_end hv q1
        obtain ⟨w, w1, w2⟩ := hv.i5 (r' ++ [(n.here, o)]) e ⟨r', n, o, u1, q2, q3, rfl⟩ (by simp; omega)
        refine ⟨w, w1, .inl ?_⟩
        rcases w2 with w2 | ⟨w2, _⟩
        · simp at w2 hc ⊢
          omega
        · simp at w2 hc ⊢
          omega
    · rw [if_neg he]
      have hm := h1 he
      have ok := level_ok hp (g := g) hl hk.b (fun y _ o => hk.bef _)
      have kl := ok.kl
      exact bfs_ok hp m ok.k ok.lv (lvl_step hp hv hk hl) (fun hne => by
        have : 0 < (bLevel p g lv ⟨kn, [], f⟩).fur.length := List.length_pos_iff.mpr hne
        omega) (by omega)
theorem found_ok {p : Plan} (hp : PlanOk p) (g : List Call) {s : List Nat} (hs : StOk p.k s) : FoundOk p g s (foundT p g s) := by
  have b := begin_ok hp hs
  refine bfs_ok hp 100000 (L := 0) ⟨by simp, by simpa using b, by simp, by simp, by simp⟩ ⟨by simp, by simpa using b⟩ ⟨?_, ?_, ?_, ?_, by simp, ?_⟩ (fun _ => by simp) (by simp)
  · intro n hn
    rw [List.mem_singleton.mp hn]
    exact ⟨[], .nil, Nat.le_refl _⟩
  · intro x hx
    rw [List.mem_singleton.mp hx]
    exact .nil
  · intro r n hr hl
    cases hr with
    | nil => simp
    | snoc _ _ _ => simp at hl
  · intro r n hr hl
    cases hr with
    | nil => exact .inr ⟨[], by simp, .inl rfl⟩
    | snoc _ _ _ => simp at hl
  · rintro r e ⟨r0, n, o, _, _, _, rfl⟩ hl
    simp at hl
end Bk
namespace Bk
open PySem
@[simp] theorem asP_eA (a : List Op) (t : Town) : asP (.d (eA a)) t = .ok (eA a) t := rfl
@[simp] theorem asP_eB (a : Option (List Op)) (t : Town) : asP (.d (eB a)) t = .ok (eB a) t := by cases a <;> rfl
@[simp] theorem asP_eT (a : Step) (t : Town) : asP (.d (eT a)) t = .ok (eT a) t := rfl
@[simp] theorem asP_eP (a : Plan) (t : Town) : asP (.d (eP a)) t = .ok (eP a) t := rfl
@[simp] theorem isi_eT (a : Step) : isiD .tuple (eT a) = true := rfl
@[simp] theorem isi_eP (a : Plan) : isiD .tuple (eP a) = true := rfl
@[simp] theorem isi_eCs (a : List Call) : isiD .tuple (eCs a) = true := rfl
@[simp] theorem isi_eC (a : Call) : isiD .tuple (eC a) = true := by cases a <;> rfl
@[simp] theorem len_eT (a : Step) : b1D .len (eT a) = some (.int 3) := rfl
@[simp] theorem len_eP (a : Plan) : b1D .len (eP a) = some (.int 3) := rfl
@[simp] theorem len_eC (a : Call) : b1D .len (eC a) = some (.int 2) := by cases a <;> rfl
section
variable {gl : Nat → Option PyData} {tb : Nat → Option Fn} {fu n : Nat} {t : Town}
theorem run_is_act {k : Nat} (hP : PT tb) (hn : 3 ≤ n) {a : List Op} (ha : ActOk k a) : run gl tb fu n 6 [.d (nI k), .d (eA a)] t = .ok (.d (.bool true)) t := by
  have e := run_is_action_of (gl := gl) (fu := fu) (t := t) hP hn (plain_eA a) (fun xs e => by cases e; rw [List.length_map]; have := ha.1; omega) (k : Int)
  rw [isActB_ok ha] at e
  exact e
theorem run_is_step (hP : PT tb) (hn : 4 ≤ n) {k : Nat} {s : Step} (hs : StepOk k s) : run gl tb fu n 21 [.d (nI k), .d (eT s)] t = .ok (.d (.bool true)) t := by
  rw [run_py (hP 21 (by decide)) rfl (by omega)]
  show R.bnd (exs gl _ fu B_is_step [.val (.d (nI k)), .val (.d (eT s))] t) _ = _
  have e1 := run_is_act (gl := gl) (fu := fu) (t := t) hP (show 3 ≤ n - 1 by omega) hs.1
  simp only [nI_def] at e1
  cases hb : s.bck with
  | none => simp [B_is_step, e1, hb, eB]
  | some b =>
    have e2 := run_is_act (gl := gl) (fu := fu) (t := t) hP (show 3 ≤ n - 1 by omega) (hs.2 b hb)
    simp only [nI_def] at e2
    have e3 : cmpD .isN (eA b) .none = some false := rfl
    simp [B_is_step, e1, e2, e3, hb, eB]
theorem run_is_plan (hP : PT tb) (hn : 5 ≤ n) {p : Plan} (hp : PlanOk p) : run gl tb fu n 22 [.d (eP p)] t = .ok (.d (.bool true)) t := by
  rw [run_py (hP 22 (by decide)) rfl (by omega)]
  show R.bnd (exs gl _ fu B_is_plan [.val (.d (eP p)), .emp, .emp, .emp, .emp] t) _ = _
  have e1 := run_between (gl := gl) (fu := fu) (t := t) hP (show 1 ≤ n - 1 by omega) (x := .int p.k) rfl 1 3
  have e2 : btw (.int p.k) 1 3 = true := by
    have := hp.k1
    have := hp.k3
    show (decide ((1 : Int) ≤ p.k) && decide ((p.k : Int) ≤ 3)) = true
    simp
    omega
  rw [e2] at e1
  have e3 : setTg (.tp [.nm 1, .nm 2, .nm 3]) (.d (eP p)) [.val (.d (eP p)), .emp, .emp, .emp, .emp] = some [.val (.d (eP p)), .val (.d (nI p.k)), .val (.d (.tuple (p.steps.map eT))), .val (.d (.str (eRule p.again))), .emp] := rfl
  have e4 := lc_all (gl := gl) (φ := run gl tb fu (n - 1)) (t := t) (enc := eT) (tg := .nm 4) (it := .seq (.var 2)) (e := .call 21 [.var 1, .var 4]) (ρ := [.val (.d (eP p)), .val (.d (nI p.k)), .val (.d (.tuple (p.steps.map eT))), .val (.d (.str (eRule p.again))), .emp]) p.steps (fun x => PyData.bool true) (by simp) (by have := hp.n4; omega) fun x h => by
    refine ⟨[.val (.d (eP p)), .val (.d (nI p.k)), .val (.d (.tuple (p.steps.map eT))), .val (.d (.str (eRule p.again))), .val (.d (eT x))], by simp [wipeE, slotsT], rfl, ?_, rfl⟩
    have := run_is_step (gl := gl) (fu := fu) (t := t) hP (show 4 ≤ n - 1 by omega) (hp.st x h)
    simp only [nI_def] at this
    simp [this]
  have e5 := all_map (fun _ : Step => true) p.steps
  have e6 : cmpD .mem (.str (eRule p.again)) (.tuple [.str S_again, .str S_back]) = some true := by cases p.again <;> decide +kernel
  have h1 : (1 : Int) ≤ (p.steps.length : Int) := by have := hp.n1; omega
  have h4 : (p.steps.length : Int) ≤ 4 := by have := hp.n4; omega
  simp only [nI_def] at e3 e4
  simp [B_is_plan, e1, e3, e4, e5, e6, h1, h4]
theorem run_check_plan (hP : PT tb) (hn : 6 ≤ n) {p : Plan} (hp : PlanOk p) : run gl tb fu n 23 [.d (eP p)] t = .ok (.d .none) t := by
  rw [run_py (hP 23 (by decide)) rfl (by omega)]
  show R.bnd (exs gl _ fu B_check_plan [.val (.d (eP p))] t) _ = _
  have e1 := run_is_plan (gl := gl) (fu := fu) (t := t) hP (show 5 ≤ n - 1 by omega) hp
  simp [B_check_plan, e1]
theorem run_check_start (hP : PT tb) (hn : 3 ≤ n) {p : Plan} (hp : PlanOk p) {s : List Nat} (hs : StOk p.k s) : run gl tb fu n 27 [.d (eP p), .d (eS s)] t = .ok (.d .none) t := by
  rw [run_py (hP 27 (by decide)) rfl (by omega)]
  show R.bnd (exs gl _ fu B_check_start [.val (.d (eP p)), .val (.d (eS s))] t) _ = _
  have e3 := run_is_state_of (gl := gl) (fu := fu) (t := t) hP (show 2 ≤ n - 1 by omega) (plain_eS s) (fun xs e => by cases e; rw [List.length_map, hs.1]; have := hp.k3; omega) (p.k : Int)
  rw [isStB_ok hs] at e3
  simp [B_check_start, e3]
/-! ### goals -/
def goalT (p : Plan) (s : List Nat) : List Nat := p.steps.foldl (fun s x => ap x.act s) s
theorem goal_st {k : Nat} : ∀ {l : List Step} {s : List Nat}, (∀ x ∈ l, StepOk k x) → StOk k s → StOk k (l.foldl (fun s x => ap x.act s) s)
  | [], s, _, h => h
  | x :: l, s, hl, h => goal_st (l := l) (fun y hy => hl y (List.mem_cons_of_mem _ hy)) (ap_ok (hl x (List.mem_cons_self ..)).1.2 h)
theorem goal_ok {p : Plan} (hp : PlanOk p) {s : List Nat} (hs : StOk p.k s) : StOk p.k (goalT p s) := goal_st hp.st hs
theorem run_goal_of (hP : PT tb) (hn : 2 ≤ n) {p : Plan} (hp : PlanOk p) {s : List Nat} (hs : StOk p.k s) : run gl tb fu n 29 [.d (eP p), .d (eS s)] t = .ok (.d (eS (goalT p s))) t := by
  rw [run_py (hP 29 (by decide)) rfl (by omega)]
  show R.bnd (exs gl _ fu B_goal_of [.val (.d (eP p)), .val (.d (eS s)), .emp, .emp] t) _ = _
  obtain ⟨ρ', e, hst, x, rfl⟩ := for_fold (enc := eT) (tg := .nm 3) (t := t) (f := fun ρ' => exs gl (run gl tb fu (n - 1)) fu B_goal_of_f1 ρ') (fun b ρ => StOk p.k b ∧ ∃ x, ρ = [.val (.d (eP p)), .val (.d (eS s)), .val (.d (eS b)), x]) (fun b x => ap x.act b) p.steps (fun x hx b ρ h => by
    obtain ⟨hb, y, rfl⟩ := h
    have ok := (hp.st x hx).1
    have e := run_applied (gl := gl) (fu := fu) (t := t) hP (show 1 ≤ n - 1 by omega) ok.2 hb.1
    refine ⟨[.val (.d (eP p)), .val (.d (eS s)), .val (.d (eS b)), .val (.d (eT x))], [.val (.d (eP p)), .val (.d (eS s)), .val (.d (eS (ap x.act b))), .val (.d (eT x))], by simp, ?_, ap_ok ok.2 hb, _, rfl⟩
    simp [B_goal_of_f1, e]) s [.val (.d (eP p)), .val (.d (eS s)), .val (.d (eS s)), .emp] ⟨hs, _, rfl⟩
  unfold goalT
  simp [B_goal_of, ex_for, e]
theorem run_goal (hP : PT tb) (hn : 7 ≤ n) {p : Plan} (hp : PlanOk p) {s : List Nat} (hs : StOk p.k s) : run gl tb fu n 30 [.d (eP p), .d (eS s)] t = .ok (.d (eS (goalT p s))) t := by
  rw [run_py (hP 30 (by decide)) rfl (by omega)]
  show R.bnd (exs gl _ fu B_goal [.val (.d (eP p)), .val (.d (eS s))] t) _ = _
  have e1 := run_check_plan (gl := gl) (fu := fu) (t := t) hP (show 6 ≤ n - 1 by omega) hp
  have e2 := run_check_start (gl := gl) (fu := fu) (t := t) hP (show 3 ≤ n - 1 by omega) hp hs
  have e3 := run_goal_of (gl := gl) (fu := fu) (t := t) hP (show 2 ≤ n - 1 by omega) hp hs
  simp [B_goal, e1, e2, e3]
end
end Bk
namespace Bk
open PySem
/-! ### sorting by a code -/
def insF {α : Type} (f : α → PyData) (x : α) : List α → List α
  | [] => [x]
  | y :: r => if PySem.W.dataLt (f y) (f x) = true then y :: insF f x r else x :: y :: r
def sortF {α : Type} (f : α → PyData) : List α → List α
  | [] => []
  | x :: r => insF f x (sortF f r)
theorem insD_map {α : Type} (f : α → PyData) (x : α) : ∀ l : List α, insD (f x) (l.map f) = (insF f x l).map f
  | [] => rfl
  | y :: r => by
    show (if PySem.W.dataLt (f y) (f x) = true then f y :: insD (f x) (r.map f) else f x :: f y :: r.map f) = (if PySem.W.dataLt (f y) (f x) = true then y :: insF f x r else x :: y :: r).map f
    rw [insD_map f x r]
    split <;> rfl
theorem isort_map {α : Type} (f : α → PyData) : ∀ l : List α, isort (l.map f) = (sortF f l).map f
  | [] => rfl
  | x :: r => by
    show insD (f x) (isort (r.map f)) = (insF f x (sortF f r)).map f
    rw [isort_map f r, insD_map]
theorem insF_perm {α : Type} (f : α → PyData) (x : α) : ∀ l : List α, (insF f x l).Perm (x :: l)
  | [] => .refl _
  | y :: r => by
    show (if PySem.W.dataLt (f y) (f x) = true then y :: insF f x r else x :: y :: r).Perm _
    split
    · exact ((insF_perm f x r).cons y).trans (.swap ..)
    · exact .refl _
theorem sortF_perm {α : Type} (f : α → PyData) : ∀ l : List α, (sortF f l).Perm l
  | [] => .refl _
  | x :: r => (insF_perm f x _).trans ((sortF_perm f r).cons x)
theorem dlt_le_trans {a b c : PyData} (h1 : PySem.W.dataLt b a = false) (h2 : PySem.W.dataLt c b = false) : PySem.W.dataLt c a = false := by
  have e1 : leD2 a b = true := by rw [leD2_eq, h1]; rfl
  have e2 : leD2 b c = true := by rw [leD2_eq, h2]; rfl
  have e3 := leD2_total.trans a b c e1 e2
  rw [leD2_eq] at e3
  simpa using e3
theorem dlt_asymm' {x y : PyData} (h1 : PySem.W.dataLt x y = true) : PySem.W.dataLt y x = false := by
  cases q : PySem.W.dataLt y x with
  | false => rfl
  | true => exact (dlt_asymm h1 q).elim
theorem dlt_irr (x : PyData) : PySem.W.dataLt x x = false := by
  cases q : PySem.W.dataLt x x with
  | false => rfl
  | true => exact (dlt_asymm q q).elim
theorem insF_pw {α : Type} (f : α → PyData) (x : α) : ∀ {l : List α}, l.Pairwise (fun a b => PySem.W.dataLt (f b) (f a) = false) → (insF f x l).Pairwise (fun a b => PySem.W.dataLt (f b) (f a) = false)
  | [], _ => by simp [insF]
  | y :: r, h => by
    obtain ⟨h1, h2⟩ := List.pairwise_cons.mp h
    show (if PySem.W.dataLt (f y) (f x) = true then y :: insF f x r else x :: y :: r).Pairwise _
    split
    · rename_i q
      refine List.pairwise_cons.mpr ⟨fun z hz => ?_, insF_pw f x h2⟩
      rcases List.mem_cons.mp ((insF_perm f x r).mem_iff.mp hz) with rfl | hz
      · exact dlt_asymm' q
      · exact h1 z hz
    · rename_i q
      have q : PySem.W.dataLt (f y) (f x) = false := by simpa using q
      refine List.pairwise_cons.mpr ⟨fun z hz => ?_, h⟩
      rcases List.mem_cons.mp hz with rfl | hz
      · exact q
      · exact dlt_le_trans q (h1 z hz)
theorem sortF_pw {α : Type} (f : α → PyData) : ∀ l : List α, (sortF f l).Pairwise (fun a b => PySem.W.dataLt (f b) (f a) = false)
  | [] => List.Pairwise.nil
  | x :: r => insF_pw f x (sortF_pw f r)
/-- sorted without repeats: told by the members -/
theorem sorted_ext {α : Type} {r : α → α → Prop} (as : ∀ a b, r a b → r b a → False) : ∀ {l m : List α}, l.Pairwise r → m.Pairwise r → (∀ x, x ∈ l ↔ x ∈ m) → l = m
  | [], [], _, _, _ => rfl
  | [], y :: m, _, _, h => by have := (h y).mpr (List.mem_cons_self ..); cases this
  | x :: l, [], _, _, h => by have := (h x).mp (List.mem_cons_self ..); cases this
  | x :: l, y :: m, h1, h2, h => by
    obtain ⟨a1, a2⟩ := List.pairwise_cons.mp h1
    obtain ⟨b1, b2⟩ := List.pairwise_cons.mp h2
    have e : x = y := by
      rcases List.mem_cons.mp ((h x).mp (List.mem_cons_self ..)) with e | hx
      · exact e
      · rcases List.mem_cons.mp ((h y).mpr (List.mem_cons_self ..)) with e | hy
        · exact e.symm
        · exact (as _ _ (a1 y hy) (b1 x hx)).elim
    subst e
    congr 1
    refine sorted_ext as a2 b2 fun z => ⟨fun hz => ?_, fun hz => ?_⟩
    · rcases List.mem_cons.mp ((h z).mp (List.mem_cons_of_mem _ hz)) with e | q
      · subst e
        exact (as _ _ (a1 z hz) (a1 z hz)).elim
      · exact q
    · rcases List.mem_cons.mp ((h z).mpr (List.mem_cons_of_mem _ hz)) with e | q
      · subst e
        exact (as _ _ (b1 z hz) (b1 z hz)).elim
      · exact q
/-! ### the order of ends -/
def ltE (a b : End) : Bool := PySem.W.dataLt (eE a) (eE b)
theorem alike_eSS (s r : List Nat) : PySem.W.alike (eS s) (eS r) = true := by
  simp only [eS, PySem.W.alike]
  exact alike_eS s r
theorem alike_eE (a b : End) : PySem.W.alike (eE a) (eE b) = true := by
  simp only [eE, PySem.W.alike, PySem.W.alikeAll, alike_eSS, Bool.and_true]
theorem ltE_tri {a b : End} (h : a ≠ b) : ltE a b = true ∨ ltE b a = true := lt_tri (alike_eE a b) (by rw [eqv_eE]; exact decide_eq_false h)
theorem ltE_asymm {a b : End} (h1 : ltE a b = true) (h2 : ltE b a = true) : False := dlt_asymm h1 h2
def sortE (l : List End) : List End := sortF eE l
theorem sortE_mem {l : List End} {e : End} : e ∈ sortE l ↔ e ∈ l := (sortF_perm eE l).mem_iff
theorem sortE_pw {l : List End} (h : l.Nodup) : (sortE l).Pairwise fun a b => ltE a b = true := by
  have h2 : (sortE l).Nodup := (sortF_perm eE l).nodup_iff.mpr h
  have h3 := sortF_pw eE l
  refine List.Pairwise.imp₂ (R := fun a b => PySem.W.dataLt (eE b) (eE a) = false) (S := fun a b => a ≠ b) (fun {a b} q1 q2 => ?_) h3 h2
  rcases ltE_tri q2 with z | z
  · exact z
  · unfold ltE at z
    rw [q1] at z
    cases z
theorem sortE_ext {l m : List End} (h1 : l.Pairwise fun a b => ltE a b = true) (h2 : m.Pairwise fun a b => ltE a b = true) (h : ∀ x, x ∈ l ↔ x ∈ m) : l = m := sorted_ext (fun _ _ => ltE_asymm) h1 h2 h
theorem depth_eE (e : End) : (eE e).depth ≤ 2 := by
  show max 0 (max (eS e.2).depth 0) + 1 ≤ 2
  rw [depth_eS]
  decide
theorem sortL_eE (l : List End) : sortL (l.map eE) = some ((sortE l).map eE) := by
  unfold sortL
  rw [if_pos, isort_map]
  · rfl
  refine ⟨List.all_eq_true.mpr fun x hx => List.all_eq_true.mpr fun y hy => ?_, ?_, List.all_eq_true.mpr fun x hx => ?_⟩
  · obtain ⟨a, _, rfl⟩ := List.mem_map.mp hx
    obtain ⟨b, _, rfl⟩ := List.mem_map.mp hy
    exact alike_eE a b
  · unfold sortable
    rw [Bool.or_eq_true]
    left
    refine List.all_eq_true.mpr fun x hx => ?_
    obtain ⟨a, _, rfl⟩ := List.mem_map.mp hx
    rfl
  · obtain ⟨a, _, rfl⟩ := List.mem_map.mp hx
    have := depth_eE a
    rw [decide_eq_true_eq]
    omega
/-! ### calls_of -/
theorem zip_filter {α : Type} (f : α → Bool) (q : Nat → Bool) (l : List α) (hq : ∀ i s, l[i]? = some s → q i = f s) : (l.zipIdx.filter fun x => f x.1).map (·.2) = (List.range l.length).filter q := by
  have h : List.range l.length = l.zipIdx.map (·.2) := by
    rw [List.range_eq_range', List.zipIdx_map_snd]
  rw [h, List.filter_map]
  congr 1
  refine List.filter_congr fun x hx => ?_
  have := List.mk_mem_zipIdx_iff_getElem?.mp (show (x.1, x.2) ∈ l.zipIdx from hx)
  exact (hq _ _ this).symm
theorem zip_all {α : Type} (l : List α) : l.zipIdx.map (·.2) = List.range l.length := by
  rw [List.range_eq_range', List.zipIdx_map_snd]
def eI (x : Step × Nat) : PyData := .tuple [.int (x.2 : Nat), eT x.1]
theorem enum_steps (p : Plan) : enumD (p.steps.map eT) = p.steps.zipIdx.map eI := by
  unfold enumD
  rw [List.zipIdx_map, List.map_map]
  rfl
@[simp] theorem lenum_t (xs : List PyData) : b1D .listEnum (.tuple xs) = some (.list (enumD xs)) := rfl
@[simp] theorem add_ll {a b : List PyData} (h : a.length + b.length ≤ 100000) : binD .add (.list a) (.list b) = some (.list (a ++ b)) := by
  show (if a.length + b.length ≤ sizeLine then some (PyData.list (a ++ b)) else none) = _
  rw [if_pos (by rw [sizeLine_eq]; omega)]
section
variable {gl : Nat → Option PyData} {tb : Nat → Option Fn} {fu n : Nat} {t : Town}
theorem run_calls_of (hP : PT tb) (hn : 1 ≤ n) {p : Plan} (h4 : p.steps.length ≤ 4) : run gl tb fu n 24 [.d (eP p)] t = .ok (.d (eCs (calls p))) t := by
  rw [run_py (hP 24 (by decide)) rfl hn]
  show R.bnd (exs gl _ fu B_calls_of [.val (.d (eP p)), .emp, .emp, .emp] t) _ = _
  have st : ∀ x : Step × Nat, ∀ u v : Slot, setTg (.tp [.nm 2, .nm 3]) (.d (eI x)) [.val (.d (eP p)), .val (.d (.list (p.steps.zipIdx.map eI))), u, v] = some [.val (.d (eP p)), .val (.d (.list (p.steps.zipIdx.map eI))), .val (.d (.int x.2)), .val (.d (eT x.1))] := fun _ _ _ => rfl
  have zl : p.steps.zipIdx.length ≤ 4 := by simpa using h4
  have e1 := lc_eq (gl := gl) (φ := run gl tb fu (n - 1)) (t := t) (enc := eI) (tg := .tp [.nm 2, .nm 3]) (it := .seq (.var 1)) (d := .cmp .notN (.sub (.var 3) (.con (.int 1))) (.con .none)) (e := .tup [.con (.str S_back), .var 2]) (ρ := [.val (.d (eP p)), .val (.d (.list (p.steps.zipIdx.map eI))), .emp, .emp]) p.steps.zipIdx (fun x => x.1.bck.isSome) (fun x => eC (.back x.2)) (by simp) (by omega) fun x h => by
    refine ⟨_, st x _ _, by simp, fun _ => ⟨rfl, ?_, rfl⟩⟩
    simp [eC]
  have e2 := lc_all (gl := gl) (φ := run gl tb fu (n - 1)) (t := t) (enc := eI) (tg := .tp [.nm 2, .nm 3]) (it := .seq (.var 1)) (e := .tup [.con (.str S_do), .var 2]) (ρ := [.val (.d (eP p)), .val (.d (.list (p.steps.zipIdx.map eI))), .emp, .emp]) p.steps.zipIdx (fun x => eC (.go x.2)) (by simp) (by omega) fun x h => by
    refine ⟨_, st x _ _, rfl, ?_, rfl⟩
    simp [eC]
  have q1 : (p.steps.zipIdx.filter fun x => x.1.bck.isSome).map (fun x => eC (.back x.2)) = (((List.range p.steps.length).filter (hasBack p)).map Call.back).map eC := by
    rw [← zip_filter (fun s : Step => s.bck.isSome) (hasBack p) p.steps (fun i s h => by unfold hasBack; rw [h]), List.map_map, List.map_map]
    rfl
  have q2 : p.steps.zipIdx.map (fun x => eC (.go x.2)) = ((List.range p.steps.length).map Call.go).map eC := by
    rw [← zip_all, List.map_map, List.map_map]
    rfl
  rw [q1] at e1
  rw [q2] at e2
  have l1 : ((((List.range p.steps.length).filter (hasBack p)).map Call.back).map eC).length + (((List.range p.steps.length).map Call.go).map eC).length ≤ 100000 := by
    have := List.length_filter_le (hasBack p) (List.range p.steps.length)
    simp at this ⊢
    omega
  have e3 := add_ll l1
  have e4 : PyData.tuple ((((List.range p.steps.length).filter (hasBack p)).map Call.back).map eC ++ ((List.range p.steps.length).map Call.go).map eC) = eCs (calls p) := by
    unfold eCs calls
    rw [List.map_append]
  simp only [B_calls_of]
  simp [enum_steps, -List.map_map]
  rw [e1]
  simp only [bnd_ok, asD_at]
  rw [e2]
  simp only [bnd_ok, asD_at]
  rw [e3]
  simp [-List.map_map, e4]
theorem run_all_guards (hP : PT tb) (hn : 7 ≤ n) {p : Plan} (hp : PlanOk p) : run gl tb fu n 28 [.d (eP p)] t = .ok (.d (eCs (calls p))) t := by
  rw [run_py (hP 28 (by decide)) rfl (by omega)]
  show R.bnd (exs gl _ fu B_all_guards [.val (.d (eP p))] t) _ = _
  have e1 := run_check_plan (gl := gl) (fu := fu) (t := t) hP (show 6 ≤ n - 1 by omega) hp
  have e2 := run_calls_of (gl := gl) (fu := fu) (t := t) hP (show 1 ≤ n - 1 by omega) hp.n4
  simp [B_all_guards, e1, e2]
/-! ### guards -/
theorem run_is_call (hP : PT tb) (hn : 2 ≤ n) {p : Plan} (h4 : p.steps.length ≤ 4) {c : Call} (hc : c ∈ calls p) : run gl tb fu n 25 [.d (eP p), .d (eC c)] t = .ok (.d (.bool true)) t := by
  rw [run_py (hP 25 (by decide)) rfl (by omega)]
  show R.bnd (exs gl _ fu B_is_call [.val (.d (eP p)), .val (.d (eC c))] t) _ = _
  have hl := (mem_calls.mp hc).1
  have e1 := run_between (gl := gl) (fu := fu) (t := t) hP (show 1 ≤ n - 1 by omega) (x := .int c.pos) rfl 0 3
  have e2 : btw (.int c.pos) 0 3 = true := by
    show (decide ((0 : Int) ≤ c.pos) && decide ((c.pos : Int) ≤ 3)) = true
    simp
    omega
  rw [e2] at e1
  have e3 := run_calls_of (gl := gl) (fu := fu) (t := t) hP (show 1 ≤ n - 1 by omega) h4
  have e4 := mem_eC c (calls p)
  rw [decide_eq_true hc] at e4
  simp [B_is_call, e1, e3, e4]
theorem lt_eCd (a b : Call) : cmpD .lt (eC a) (eC b) = some (ltC a b) := by
  rw [eC_eq a, eC_eq b]
  show (if PySem.W.alikeAll [.str (cS a), nI a.pos] [.str (cS b), nI b.pos] = true ∧ (PyData.tuple [.str (cS a), nI a.pos]).depth ≤ 64 ∧ (PyData.tuple [.str (cS b), nI b.pos]).depth ≤ 64 then some (PySem.W.dataLt (.tuple [.str (cS a), nI a.pos]) (.tuple [.str (cS b), nI b.pos])) else none) = _
  have d1 := depth_eC a
  have d2 := depth_eC b
  rw [eC_eq] at d1 d2
  rw [if_pos ⟨rfl, by omega, by omega⟩, ← eC_eq, ← eC_eq, lt_eC]
def eCC (x : Call × Call) : PyData := .tuple [eC x.1, eC x.2]
theorem zipD_eC (g : List Call) : zipD (g.map eC) ((g.map eC).drop 1) = (g.zip (g.drop 1)).map eCC := by
  unfold zipD
  rw [← List.map_drop, List.zip_map, List.map_map]
  rfl
theorem slc_from1 (xs : List PyData) : slcD (.tuple xs) (some 1) none = some (.tuple (xs.drop 1)) := by
  show some (PyData.tuple ((xs.drop (HT.sIx xs.length 0 (some 1))).take (HT.sIx xs.length xs.length none - HT.sIx xs.length 0 (some 1)))) = _
  cases xs with
  | nil => simp
  | cons x xs =>
    have h1 : HT.sIx (x :: xs).length 0 (some 1) = 1 := by simp [HT.sIx]
    have h2 : HT.sIx (x :: xs).length (x :: xs).length none = (x :: xs).length := rfl
    rw [h1, h2]
    simp
theorem asc_pw {g : List Call} (h : g.Pairwise fun a b => ltC a b = true) : ((g.zip (g.drop 1)).all fun x => ltC x.1 x.2) = true := by
  refine List.all_eq_true.mpr fun x hx => ?_
  match g, h, hx with
  | [], _, hx => simp at hx
  | a :: g, h, hx =>
    induction g generalizing a with
    | nil => simp at hx
    | cons b g ih =>
      simp only [List.drop_succ_cons, List.drop_zero, List.zip_cons_cons, List.mem_cons] at hx
      rcases hx with rfl | hx
      · exact (List.pairwise_cons.mp h).1 b (by simp)
      · exact ih b (List.pairwise_cons.mp h).2 (by simpa using hx)
theorem MadeOk.pw {p : Plan} {g : List Call} (h : MadeOk p g) : g.Pairwise fun a b => ltC a b = true := by
  rw [h]
  exact List.Pairwise.filter _ (calls_pw p)
theorem evIt_zipT {φ : Nat → List Val → M Val} {ρ : Ev} {a b : IE} {ds es : List PyData} (o1 : isOwn a ρ = false) (e1 : ev gl φ a ρ t = .ok (.d (.tuple ds)) t) (o2 : isOwn b ρ = false) (e2 : ev gl φ b ρ t = .ok (.d (.tuple es)) t) : evIt gl φ (.zip a b) ρ t = .ok (zipD ds es) t := by
  unfold evIt
  simp [o1, o2, e1, e2]
theorem run_is_ascending (hP : PT tb) (hn : 1 ≤ n) {p : Plan} (h4 : p.steps.length ≤ 4) {g : List Call} (hg : MadeOk p g) : run gl tb fu n 1 [.d (eCs g)] t = .ok (.d (.bool true)) t := by
  rw [run_py (hP 1 (by decide)) rfl (by omega)]
  show R.bnd (exs gl _ fu B_is_ascending [.val (.d (eCs g)), .emp, .emp] t) _ = _
  have gl8 := hg.len h4
  have e0 : evIt gl (run gl tb fu (n - 1)) (.zip (.var 0) (.slc (.var 0) (.con (.int 1)) (.con .none))) [.val (.d (eCs g)), .emp, .emp] t = .ok ((g.zip (g.drop 1)).map eCC) t := by
    have h1 : (ev gl (run gl tb fu (n - 1)) (.slc (.var 0) (.con (.int 1)) (.con .none)) [.val (.d (eCs g)), .emp, .emp]) t = .ok (.d (.tuple ((g.map eC).drop 1))) t := by
      have := slc_from1 (g.map eC)
      simp [eCs, noneI, this]
    rw [evIt_zipT (ds := g.map eC) rfl (by simp [eCs]) rfl h1, zipD_eC]
  have e1 := lc_all (gl := gl) (φ := run gl tb fu (n - 1)) (t := t) (enc := eCC) (tg := .tp [.nm 1, .nm 2]) (it := .zip (.var 0) (.slc (.var 0) (.con (.int 1)) (.con .none))) (e := .cmp .lt (.var 1) (.var 2)) (ρ := [.val (.d (eCs g)), .emp, .emp]) (g.zip (g.drop 1)) (fun x => .bool (ltC x.1 x.2)) e0 (by simp; omega) fun x h => by
    refine ⟨[.val (.d (eCs g)), .val (.d (eC x.1)), .val (.d (eC x.2))], rfl, rfl, ?_, rfl⟩
    have := lt_eCd x.1 x.2
    simp [this]
  have e2 := all_map (fun x : Call × Call => ltC x.1 x.2) (g.zip (g.drop 1))
  simp [B_is_ascending, e1]
  intro a b h
  exact List.all_eq_true.mp (asc_pw hg.pw) (a, b) (by simpa using h)
theorem run_check_guards (hP : PT tb) (hn : 7 ≤ n) {p : Plan} (hp : PlanOk p) {g : List Call} (hg : MadeOk p g) : run gl tb fu n 26 [.d (eP p), .d (eCs g)] t = .ok (.d .none) t := by
  rw [run_py (hP 26 (by decide)) rfl (by omega)]
  show R.bnd (exs gl _ fu B_check_guards [.val (.d (eP p)), .val (.d (eCs g)), .emp] t) _ = _
  have e1 := run_check_plan (gl := gl) (fu := fu) (t := t) hP (show 6 ≤ n - 1 by omega) hp
  have g8 := hg.len hp.n4
  have e2 := lc_all (gl := gl) (φ := run gl tb fu (n - 1)) (t := t) (enc := eC) (tg := .nm 2) (it := .seq (.var 1)) (e := .call 25 [.var 0, .var 2]) (ρ := [.val (.d (eP p)), .val (.d (eCs g)), .emp]) g (fun x => .bool true) (by simp [eCs]) (by omega) fun x h => by
    refine ⟨[.val (.d (eP p)), .val (.d (eCs g)), .val (.d (eC x))], by simp [wipeE, slotsT], rfl, ?_, rfl⟩
    have := run_is_call (gl := gl) (fu := fu) (t := t) hP (show 2 ≤ n - 1 by omega) hp.n4 (hg.mem h)
    simp [this]
  have e3 := all_map (fun _ : Call => true) g
  have e4 := run_is_ascending (gl := gl) (fu := fu) (t := t) hP (show 1 ≤ n - 1 by omega) hp.n4 hg
  simp [B_check_guards, e1, e2, e3, e4]
end
end Bk
namespace Bk
open PySem
def goodE (p : Plan) (s : List Nat) (e : End) : Bool := match e.1 with
  | .done => decide (e.2 = goalT p s)
  | .undone => decide (e.2 = s)
  | .stuck => false
def goodT (p : Plan) (g : List Call) (s : List Nat) : Bool := (foundT p g s).all fun x => goodE p s x.1
def endsT (p : Plan) (g : List Call) (s : List Nat) : List End := sortE ((foundT p g s).map (·.1))
/-- an end that occurs -/
def Occ (p : Plan) (g : List Call) (s : List Nat) (e : End) : Prop := ∃ r, EndsR p g s r e
theorem mem_found {p : Plan} (hp : PlanOk p) {g : List Call} {s : List Nat} (hs : StOk p.k s) {e : End} : e ∈ (foundT p g s).map (·.1) ↔ Occ p g s e := by
  obtain ⟨h1, h2, h3, h4⟩ := found_ok hp g hs
  constructor
  · intro h
    obtain ⟨x, hx, rfl⟩ := List.mem_map.mp h
    exact ⟨x.2, h3 x hx⟩
  · rintro ⟨r, hr⟩
    obtain ⟨r', q, _⟩ := h4 r e hr
    exact List.mem_map.mpr ⟨_, q, rfl⟩
theorem mem_ends {p : Plan} (hp : PlanOk p) {g : List Call} {s : List Nat} (hs : StOk p.k s) {e : End} : e ∈ endsT p g s ↔ Occ p g s e := by
  unfold endsT
  rw [sortE_mem]
  exact mem_found hp hs
theorem ends_pw {p : Plan} (hp : PlanOk p) {g : List Call} {s : List Nat} (hs : StOk p.k s) : (endsT p g s).Pairwise fun a b => ltE a b = true := sortE_pw (found_ok hp g hs).1
theorem occ_st {p : Plan} (hp : PlanOk p) {g : List Call} {s : List Nat} (hs : StOk p.k s) {e : End} (h : Occ p g s e) : StOk p.k e.2 := by
  obtain ⟨x, hx, rfl⟩ := List.mem_map.mp ((mem_found hp hs).mpr h)
  exact (found_ok hp g hs).2.1 x hx
theorem good_iff {p : Plan} (hp : PlanOk p) {g : List Call} {s : List Nat} (hs : StOk p.k s) : goodT p g s = true ↔ ∀ e, Occ p g s e → goodE p s e = true := by
  unfold goodT
  rw [List.all_eq_true]
  constructor
  · intro h e he
    obtain ⟨x, hx, rfl⟩ := List.mem_map.mp ((mem_found hp hs).mpr he)
    exact h x hx
  · intro h x hx
    exact h x.1 ((mem_found hp hs).mp (List.mem_map.mpr ⟨x, hx, rfl⟩))
theorem found_len {p : Plan} (hp : PlanOk p) {g : List Call} {s : List Nat} (hs : StOk p.k s) : (foundT p g s).length ≤ 81 := by
  obtain ⟨h1, h2, _⟩ := found_ok hp g hs
  have : ((foundT p g s).map (·.1)).length ≤ (allE p.k).length := len_sub h1 fun e he => by
    obtain ⟨x, hx, rfl⟩ := List.mem_map.mp he
    exact mem_allE (h2 x hx)
  rw [List.length_map] at this
  exact Nat.le_trans this (allE_len hp.k3)
@[simp] theorem subE0 (e : End) : subAt (eE e) (.int 0) = some (.str (kS e.1)) := rfl
@[simp] theorem subE1 (e : End) : subAt (eE e) (.int 1) = some (eS e.2) := rfl
@[simp] theorem kS_done (a : EndK) : (kS a == S_done) = decide (a = .done) := kS_eq a .done
@[simp] theorem kS_undone (a : EndK) : (kS a == S_undone) = decide (a = .undone) := kS_eq a .undone
@[simp] theorem kS_stuck (a : EndK) : (kS a == S_stuck) = decide (a = .stuck) := kS_eq a .stuck
/-! ### the least -/
def minF {α : Type} (f : α → PyData) : List α → Option α
  | [] => none
  | x :: r => some (r.foldl (fun m y => if PySem.W.dataLt (f y) (f m) = true then y else m) x)
theorem minL_map {α : Type} (f : α → PyData) (l : List α) : minL (l.map f) = (minF f l).map f := by
  cases l with
  | nil => rfl
  | cons x r =>
    show some ((r.map f).foldl (fun m y => if PySem.W.dataLt y m = true then y else m) (f x)) = some (f (r.foldl (fun m y => if PySem.W.dataLt (f y) (f m) = true then y else m) x))
    congr 1
    induction r generalizing x with
    | nil => rfl
    | cons y r ih =>
      rw [List.map_cons, List.foldl_cons, List.foldl_cons, ← ih]
      congr 1
      split <;> rfl
theorem foldmin {α : Type} (f : α → PyData) : ∀ (r : List α) (x : α), (r.foldl (fun m y => if PySem.W.dataLt (f y) (f m) = true then y else m) x ∈ x :: r) ∧ ∀ z ∈ x :: r, PySem.W.dataLt (f z) (f (r.foldl (fun m y => if PySem.W.dataLt (f y) (f m) = true then y else m) x)) = false
  | [], x => ⟨by simp, fun z hz => by rw [List.mem_singleton.mp hz]; exact dlt_irr _⟩
  | y :: r, x => by
    rw [List.foldl_cons]
    by_cases h : PySem.W.dataLt (f y) (f x) = true
    · rw [if_pos h]
      obtain ⟨a, b⟩ := foldmin f r y
      refine ⟨List.mem_cons_of_mem _ a, fun z hz => ?_⟩
      rcases List.mem_cons.mp hz with rfl | hz
      · exact dlt_le_trans (b y (by simp)) (dlt_asymm' h)
      · exact b z hz
    · rw [if_neg h]
      obtain ⟨a, b⟩ := foldmin f r x
      refine ⟨?_, fun z hz => ?_⟩
      · rcases List.mem_cons.mp a with q | q
        · rw [q]; exact List.mem_cons_self ..
        · exact List.mem_cons_of_mem _ (List.mem_cons_of_mem _ q)
      · rcases List.mem_cons.mp hz with rfl | hz
        · exact b z (by simp)
        · rcases List.mem_cons.mp hz with rfl | hz
          · exact dlt_le_trans (b x (by simp)) (by simpa using h)
          · exact b z (List.mem_cons_of_mem _ hz)
theorem minF_some {α : Type} {f : α → PyData} {l : List α} {x : α} (h : minF f l = some x) : x ∈ l ∧ ∀ z ∈ l, PySem.W.dataLt (f z) (f x) = false := by
  cases l with
  | nil => cases h
  | cons y r =>
    have h : some _ = some x := h
    cases h
    exact foldmin f r y
theorem minF_none {α : Type} {f : α → PyData} {l : List α} : minF f l = none ↔ l = [] := by
  cases l with
  | nil => simp [minF]
  | cons y r => simp [minF]
/-- a run with its length ahead -/
def eLR (r : Run) : PyData := .tuple [.int (r.length : Nat), eR r]
theorem lt_eLR (a b : Run) : PySem.W.dataLt (eLR a) (eLR b) = if a.length = b.length then ltR a b else decide (a.length < b.length) := by
  unfold eLR
  rw [lt_cons rfl]
  have h1 : PyData.eqv (.int (a.length : Nat)) (.int (b.length : Nat)) = decide (a.length = b.length) := nat_eq _ _
  rw [h1]
  by_cases h : a.length = b.length
  · rw [decide_eq_true h, if_pos rfl, if_pos h, lt_cons (by simp only [eR, PySem.W.alike]; exact alikeAll_eV _ _), eqv_eR, lt_nil_nil]
    by_cases e : a = b
    · subst e
      simp [ltR_irr]
    · simp [e, ltR]
  · rw [decide_eq_false h, if_neg Bool.false_ne_true, if_neg h, lt_intD]
    rw [Bool.eq_iff_iff, decide_eq_true_eq, decide_eq_true_eq]
    omega
theorem ltR_tri {a b : Run} (h : a ≠ b) : ltR a b = true ∨ ltR b a = true := lt_tri (by simp only [eR, PySem.W.alike]; exact alikeAll_eV _ _) (by rw [eqv_eR]; exact decide_eq_false h)
/-- not greater: shorter, or as long and not greater -/
theorem sle_iff {a b : Run} : sle a b ↔ PySem.W.dataLt (eLR b) (eLR a) = false := by
  rw [lt_eLR]
  unfold sle
  by_cases h : a.length = b.length
  · rw [if_pos h.symm]
    constructor
    · rintro (q | ⟨_, rfl | q⟩)
      · omega
      · exact ltR_irr _
      · exact ltR_asymm q
    · intro q
      refine .inr ⟨h, ?_⟩
      by_cases e : a = b
      · exact .inl e
      · rcases ltR_tri e with z | z
        · exact .inr z
        · rw [q] at z; cases z
  · rw [if_neg (fun e => h e.symm), decide_eq_false_iff_not]
    constructor
    · rintro (q | ⟨q, _⟩)
      · omega
      · exact absurd q h
    · intro q
      exact .inl (by omega)
theorem sle_refl (a : Run) : sle a a := .inr ⟨rfl, .inl rfl⟩
theorem sle_trans {a b c : Run} (h1 : sle a b) (h2 : sle b c) : sle a c := by
  rw [sle_iff] at h1 h2 ⊢
  exact dlt_le_trans h1 h2
theorem sle_total (a b : Run) : sle a b ∨ sle b a := by
  rw [sle_iff, sle_iff]
  cases q : PySem.W.dataLt (eLR b) (eLR a) with
  | false => exact .inl rfl
  | true => exact .inr (dlt_asymm' q)
theorem sle_anti {a b : Run} (h1 : sle a b) (h2 : sle b a) : a = b := by
  rcases h1 with h1 | ⟨_, h1 | h1⟩
  · rcases h2 with h2 | ⟨h2, _⟩ <;> omega
  · exact h1
  · rcases h2 with h2 | ⟨_, h2 | h2⟩
    · omega
    · exact h2.symm
    · rw [ltR_asymm h1] at h2; cases h2
theorem sle_len {a b : Run} (h : sle a b) : a.length ≤ b.length := by
  rcases h with h | ⟨h, _⟩ <;> omega
def badsT (p : Plan) (g : List Call) (s : List Nat) : List Run := ((foundT p g s).filter fun x => !goodE p s x.1).map (·.2)
def badT (p : Plan) (g : List Call) (s : List Nat) : Option Run := minF eLR (badsT p g s)
def eOR : Option Run → PyData
  | none => .none
  | some r => eR r
theorem bad_none {p : Plan} {g : List Call} {s : List Nat} : badT p g s = none ↔ goodT p g s = true := by
  unfold badT badsT goodT
  rw [minF_none, List.map_eq_nil_iff, List.filter_eq_nil_iff, List.all_eq_true]
  simp
theorem bad_some {p : Plan} (hp : PlanOk p) {g : List Call} {s : List Nat} (hs : StOk p.k s) {r : Run} (h : badT p g s = some r) : (∃ e, EndsR p g s r e ∧ goodE p s e = false) ∧ ∀ r' e', EndsR p g s r' e' → goodE p s e' = false → sle r r' := by
  obtain ⟨h1, h2, h3, h4⟩ := found_ok hp g hs
  obtain ⟨m, l⟩ := minF_some h
  constructor
  · obtain ⟨x, hx, rfl⟩ := List.mem_map.mp m
    obtain ⟨q1, q2⟩ := List.mem_filter.mp hx
    exact ⟨x.1, h3 x q1, by simpa using q2⟩
  · intro r' e' hr' hb
    obtain ⟨u, u1, u2⟩ := h4 r' e' hr'
    refine sle_trans ?_ u2
    rw [sle_iff]
    exact l u (List.mem_map.mpr ⟨(e', u), List.mem_filter.mpr ⟨u1, by simp [hb]⟩, rfl⟩)
/-- told by the runs -/
theorem bad_eq {p : Plan} (hp : PlanOk p) {g : List Call} {s : List Nat} (hs : StOk p.k s) {r : Run} (h1 : ∃ e, EndsR p g s r e ∧ goodE p s e = false) (h2 : ∀ r' e', EndsR p g s r' e' → goodE p s e' = false → sle r r') : badT p g s = some r := by
  cases q : badT p g s with
  | none =>
    obtain ⟨e, e1, e2⟩ := h1
    have := (good_iff hp hs).mp (bad_none.mp q) e ⟨r, e1⟩
    rw [e2] at this
    cases this
  | some u =>
    obtain ⟨⟨e, e1, e2⟩, a2⟩ := bad_some hp hs q
    obtain ⟨e', e1', e2'⟩ := h1
    rw [sle_anti (h2 u e e1 e2) (a2 r e' e1' e2')]
section
variable {gl : Nat → Option PyData} {tb : Nat → Option Fn} {fu n : Nat} {t : Town}
theorem run_good_end (hP : PT tb) (hn : 3 ≤ n) {p : Plan} (hp : PlanOk p) {s : List Nat} (hs : StOk p.k s) (e : End) : run gl tb fu n 41 [.d (eP p), .d (eS s), .d (eE e)] t = .ok (.d (.bool (goodE p s e))) t := by
  rw [run_py (hP 41 (by decide)) rfl (by omega)]
  show R.bnd (exs gl _ fu B_is_good_end [.val (.d (eP p)), .val (.d (eS s)), .val (.d (eE e))] t) _ = _
  have e1 := run_goal_of (gl := gl) (fu := fu) (t := t) hP (show 2 ≤ n - 1 by omega) hp hs
  obtain ⟨k, u⟩ := e
  cases k <;> simp [B_is_good_end, e1, goodE]
theorem run_are_good (hP : PT tb) (hg : gl 1 = some D_FIRST) (hn : 5 ≤ n) {p : Plan} (hp : PlanOk p) {g : List Call} {s : List Nat} (hs : StOk p.k s) : run gl tb 100000 n 43 [.d (eP p), .d (eCs g), .d (eS s)] t = .ok (.d (.bool (goodT p g s))) t := by
  rw [run_py (hP 43 (by decide)) rfl (by omega)]
  show R.bnd (exs gl _ 100000 B_are_good [.val (.d (eP p)), .val (.d (eCs g)), .val (.d (eS s)), .emp] t) _ = _
  have e1 := run_found (gl := gl) (t := t) hP hg (show 4 ≤ n - 1 by omega) hp (g := g) hs
  have fl := found_len hp hs (g := g)
  have e2 := lc_all (gl := gl) (φ := run gl tb 100000 (n - 1)) (t := t) (enc := fun x : End × Run => eE x.1) (tg := .nm 3) (it := .seq (.call 42 [.var 0, .var 1, .var 2])) (e := .call 41 [.var 0, .var 2, .var 3]) (ρ := [.val (.d (eP p)), .val (.d (eCs g)), .val (.d (eS s)), .emp]) (foundT p g s) (fun x => .bool (goodE p s x.1)) (by simp [e1, itemsD, eF]) (by omega) fun x h => by
    refine ⟨[.val (.d (eP p)), .val (.d (eCs g)), .val (.d (eS s)), .val (.d (eE x.1))], by simp [wipeE, slotsT], rfl, ?_, rfl⟩
    have := run_good_end (gl := gl) (fu := 100000) (t := t) hP (show 3 ≤ n - 1 by omega) hp hs x.1
    simp [this]
  have e3 := all_map (fun x : End × Run => goodE p s x.1) (foundT p g s)
  unfold goodT
  simp [B_are_good, e2, e3]
theorem run_ends_clean (hP : PT tb) (hg : gl 1 = some D_FIRST) (hn : 8 ≤ n) {p : Plan} (hp : PlanOk p) {g : List Call} (gk : MadeOk p g) {s : List Nat} (hs : StOk p.k s) : run gl tb 100000 n 44 [.d (eP p), .d (eCs g), .d (eS s)] t = .ok (.d (.bool (goodT p g s))) t := by
  rw [run_py (hP 44 (by decide)) rfl (by omega)]
  show R.bnd (exs gl _ 100000 B_ends_clean [.val (.d (eP p)), .val (.d (eCs g)), .val (.d (eS s))] t) _ = _
  have e1 := run_check_guards (gl := gl) (fu := 100000) (t := t) hP (show 7 ≤ n - 1 by omega) hp gk
  have e2 := run_check_start (gl := gl) (fu := 100000) (t := t) hP (show 3 ≤ n - 1 by omega) hp hs
  have e3 := run_are_good (gl := gl) (t := t) hP hg (show 5 ≤ n - 1 by omega) hp (g := g) hs
  simp [B_ends_clean, e1, e2, e3]
theorem run_ends (hP : PT tb) (hg : gl 1 = some D_FIRST) (hn : 8 ≤ n) {p : Plan} (hp : PlanOk p) {g : List Call} (gk : MadeOk p g) {s : List Nat} (hs : StOk p.k s) : run gl tb 100000 n 47 [.d (eP p), .d (eCs g), .d (eS s)] t = .ok (.d (.tuple ((endsT p g s).map eE))) t := by
  rw [run_py (hP 47 (by decide)) rfl (by omega)]
  show R.bnd (exs gl _ 100000 B_ends [.val (.d (eP p)), .val (.d (eCs g)), .val (.d (eS s))] t) _ = _
  have e1 := run_check_guards (gl := gl) (fu := 100000) (t := t) hP (show 7 ≤ n - 1 by omega) hp gk
  have e2 := run_check_start (gl := gl) (fu := 100000) (t := t) hP (show 3 ≤ n - 1 by omega) hp hs
  have e3 := run_found (gl := gl) (t := t) hP hg (show 4 ≤ n - 1 by omega) hp (g := g) hs
  have e4 : b1D .sorted (.dict (eF (foundT p g s))) = some (.list ((endsT p g s).map eE)) := by
    show (sortL ((eF (foundT p g s)).map (·.1))).map PyData.list = _
    have : (eF (foundT p g s)).map (·.1) = ((foundT p g s).map (·.1)).map eE := by
      unfold eF
      rw [List.map_map, List.map_map]
      rfl
    rw [this, sortL_eE]
    rfl
  simp [B_ends, e1, e2, e3, e4]
theorem run_bad_starts (hP : PT tb) (hg : gl 1 = some D_FIRST) (hn : 8 ≤ n) {p : Plan} (hp : PlanOk p) {g : List Call} (gk : MadeOk p g) : run gl tb 100000 n 46 [.d (eP p), .d (eCs g)] t = .ok (.d (.tuple (((allS p.k).filter fun s => !goodT p g s).map eS))) t := by
  rw [run_py (hP 46 (by decide)) rfl (by omega)]
  show R.bnd (exs gl _ 100000 B_bad_starts [.val (.d (eP p)), .val (.d (eCs g)), .emp] t) _ = _
  have e1 := run_check_guards (gl := gl) (fu := 100000) (t := t) hP (show 7 ≤ n - 1 by omega) hp gk
  have e2 := run_states_of (gl := gl) (fu := 100000) (t := t) hP (show 1 ≤ n - 1 by omega) hp.k1 hp.k3
  have al := allS_len hp.k3
  simp only [nI_def] at e2
  have e3 := lc_eq (gl := gl) (φ := run gl tb 100000 (n - 1)) (t := t) (enc := eS) (tg := .nm 2) (it := .seq (.call 11 [.sub (.var 0) (.con (.int 0))])) (d := .not (.call 43 [.var 0, .var 1, .var 2])) (e := .var 2) (ρ := [.val (.d (eP p)), .val (.d (eCs g)), .emp]) (allS p.k) (fun s => !goodT p g s) eS (by simp [e2]) (by omega) fun x h => by
    refine ⟨[.val (.d (eP p)), .val (.d (eCs g)), .val (.d (eS x))], by simp [wipeE, slotsT], ?_, fun _ => ⟨rfl, by simp, rfl⟩⟩
    have := run_are_good (gl := gl) (t := t) hP hg (show 5 ≤ n - 1 by omega) hp (g := g) (mem_allS.mp h)
    simp [this]
  simp [B_bad_starts, e1, e3]
theorem min_eLR (l : List Run) : b1D .min (.list (l.map eLR)) = (minF eLR l).map eLR := by
  show (if allAlike (l.map eLR) = true ∧ sortable (l.map eLR) = true ∧ ((l.map eLR).all fun x => decide (x.depth ≤ 64)) = true then (minL (l.map eLR)).bind fun z => if isTup z = true then some z else none else none) = _
  rw [if_pos, minL_map]
  · cases minF eLR l <;> rfl
  refine ⟨List.all_eq_true.mpr fun x hx => List.all_eq_true.mpr fun y hy => ?_, ?_, List.all_eq_true.mpr fun x hx => ?_⟩
  · obtain ⟨a, _, rfl⟩ := List.mem_map.mp hx
    obtain ⟨b, _, rfl⟩ := List.mem_map.mp hy
    simp only [eLR, PySem.W.alike, PySem.W.alikeAll, eR, alikeAll_eV, Bool.and_true]
  · unfold sortable
    rw [Bool.or_eq_true]
    left
    refine List.all_eq_true.mpr fun x hx => ?_
    obtain ⟨a, _, rfl⟩ := List.mem_map.mp hx
    rfl
  · obtain ⟨a, _, rfl⟩ := List.mem_map.mp hx
    have := depth_eR a
    rw [decide_eq_true_eq]
    show max 0 (max (eR a).depth 0) + 1 ≤ 64
    omega
theorem look_mem {l : List (End × Run)} (h : (l.map (·.1)).Nodup) {x : End × Run} (hx : x ∈ l) : fget x.1 l = some x.2 := by
  induction l with
  | nil => cases hx
  | cons y l ih =>
    rw [List.map_cons, List.nodup_cons] at h
    unfold fget
    rcases List.mem_cons.mp hx with rfl | hx
    · rw [if_pos rfl]
    · rw [if_neg (fun e => h.1 (by rw [e]; exact List.mem_map.mpr ⟨x, hx, rfl⟩))]
      exact ih h.2 hx
theorem run_bad_run (hP : PT tb) (hg : gl 1 = some D_FIRST) (hn : 8 ≤ n) {p : Plan} (hp : PlanOk p) {g : List Call} (gk : MadeOk p g) {s : List Nat} (hs : StOk p.k s) : run gl tb 100000 n 45 [.d (eP p), .d (eCs g), .d (eS s)] t = .ok (.d (eOR (badT p g s))) t := by
  rw [run_py (hP 45 (by decide)) rfl (by omega)]
  show R.bnd (exs gl _ 100000 B_bad_run [.val (.d (eP p)), .val (.d (eCs g)), .val (.d (eS s)), .emp, .emp, .emp] t) _ = _
  have e1 := run_check_guards (gl := gl) (fu := 100000) (t := t) hP (show 7 ≤ n - 1 by omega) hp gk
  have e2 := run_check_start (gl := gl) (fu := 100000) (t := t) hP (show 3 ≤ n - 1 by omega) hp hs
  have e3 := run_found (gl := gl) (t := t) hP hg (show 4 ≤ n - 1 by omega) hp (g := g) hs
  have fl := found_len hp hs (g := g)
  have nd := (found_ok hp g hs).1
  have e4 := lc_eq (gl := gl) (φ := run gl tb 100000 (n - 1)) (t := t) (enc := fun x : End × Run => eE x.1) (tg := .nm 5) (it := .seq (.var 3)) (d := .not (.call 41 [.var 0, .var 2, .var 5])) (e := .tup [.b1 .len (.sub (.var 3) (.var 5)), .sub (.var 3) (.var 5)]) (ρ := [.val (.d (eP p)), .val (.d (eCs g)), .val (.d (eS s)), .val (.d (.dict (eF (foundT p g s)))), .emp, .emp]) (foundT p g s) (fun x => !goodE p s x.1) (fun x => eLR x.2) (by simp [itemsD, eF]) (by omega) fun x h => by
    refine ⟨[.val (.d (eP p)), .val (.d (eCs g)), .val (.d (eS s)), .val (.d (.dict (eF (foundT p g s)))), .emp, .val (.d (eE x.1))], by simp [wipeE, slotsT], ?_, fun _ => ⟨rfl, ?_, rfl⟩⟩
    · have := run_good_end (gl := gl) (fu := 100000) (t := t) hP (show 3 ≤ n - 1 by omega) hp hs x.1
      simp [this]
    · have q : subAt (.dict (eF (foundT p g s))) (eE x.1) = some (eR x.2) := by
        show (if keyOk (eE x.1) = true then lookD (eE x.1) (eF (foundT p g s)) else none) = _
        rw [keyOk_eE, if_pos rfl, look_f, look_mem nd h]
        rfl
      have l := len_eR x.2
      simp [q, l, eLR]
  have q4 : ((foundT p g s).filter fun x => !goodE p s x.1).map (fun x => eLR x.2) = (badsT p g s).map eLR := by
    unfold badsT
    rw [List.map_map]
    rfl
  rw [q4] at e4
  have e5 : cmpD .ne (.list ((badsT p g s).map eLR)) (.list []) = some (!(badsT p g s).isEmpty) := by
    have hs : shapedB (.list ((badsT p g s).map eLR)) = true := shaped_list fun x _ => by
      refine ⟨by simp only [eLR, PyData.plain, PyData.plainAll, plain_eR, Bool.and_true], ?_⟩
      have h1 := depth_eR x
      show max 0 (max (eR x).depth 0) + 1 ≤ 60
      omega
    show (if shapedB (.list ((badsT p g s).map eLR)) = true ∧ shapedB (.list []) = true then some (PyData.eqv (.list ((badsT p g s).map eLR)) (.list [])) else none).map (!·) = _
    rw [if_pos ⟨hs, rfl⟩]
    cases badsT p g s <;> rfl
  have e6 := min_eLR (badsT p g s)
  unfold badT
  cases hb : badsT p g s with
  | nil =>
    rw [hb] at e4 e5 e6
    rw [List.map_nil] at e4 e5
    simp [B_bad_run, e1, e2, e3, e4, e5, eOR, minF]
  | cons x l =>
    rw [hb] at e4 e5 e6
    have e7 : minF eLR (x :: l) = some (l.foldl (fun m y => if PySem.W.dataLt (eLR y) (eLR m) = true then y else m) x) := rfl
    rw [e7] at e6 ⊢
    have e8 : ∀ r, subAt (eLR r) (.int 1) = some (eR r) := fun _ => rfl
    simp only [List.map_cons] at e4 e5 e6
    simp [B_bad_run, e1, e2, e3, e4, e5, e6, e8, eOR]
end
end Bk
namespace Bk
open PySem
/-- guards with their number ahead -/
def eLC (g : List Call) : PyData := .tuple [.int (g.length : Nat), eCs g]
def rowsG (l : List Call) : List (List Call) := l.foldl (fun rows c => rows ++ rows.map (· ++ [c])) [[]]
def gIn (p : Plan) : List (List Call) := sortF eLC (rowsG (calls p))
theorem mem_rows {g : List Call} : ∀ {l : List Call} {rows : List (List Call)}, g ∈ l.foldl (fun rows c => rows ++ rows.map (· ++ [c])) rows ↔ ∃ a b, a ∈ rows ∧ b.Sublist l ∧ g = a ++ b
  | [], rows => by
    constructor
    · exact fun h => ⟨g, [], h, .slnil, by simp⟩
    · rintro ⟨a, b, h1, h2, rfl⟩
      cases h2
      simpa using h1
  | c :: l, rows => by
    rw [List.foldl_cons, mem_rows (l := l)]
    constructor
    · rintro ⟨a, b, h1, h2, rfl⟩
      rcases List.mem_append.mp h1 with h1 | h1
      · exact ⟨a, b, h1, h2.cons c, rfl⟩
      · obtain ⟨a', h, rfl⟩ := List.mem_map.mp h1
        exact ⟨a', c :: b, h, h2.cons_cons c, by simp⟩
    · rintro ⟨a, b, h1, h2, rfl⟩
      cases h2 with
      | cons _ h2 => exact ⟨a, b, List.mem_append_left _ h1, h2, rfl⟩
      | cons_cons _ h2 =>
        rename_i b
        exact ⟨a ++ [c], b, List.mem_append_right _ (List.mem_map.mpr ⟨a, h1, rfl⟩), h2, by simp⟩
theorem sub_made {p : Plan} {g : List Call} : g.Sublist (calls p) ↔ MadeOk p g := by
  constructor
  · intro h
    have nd := calls_nodup p
    unfold MadeOk
    generalize calls p = l at h nd
    induction h with
    | slnil => rfl
    | @cons g l c h ih =>
      obtain ⟨n1, n2⟩ := List.nodup_cons.mp nd
      rw [List.filter_cons_of_neg (by simpa using fun q => n1 (h.subset q))]
      exact ih n2
    | @cons_cons g l c h ih =>
      obtain ⟨n1, n2⟩ := List.nodup_cons.mp nd
      rw [List.filter_cons_of_pos (by simp)]
      congr 1
      have := ih n2
      refine this.trans (List.filter_congr fun x hx => ?_)
      have : x ≠ c := fun e => n1 (e ▸ hx)
      simp [this]
  · intro h
    rw [h]
    exact List.filter_sublist
theorem mem_gIn {p : Plan} {g : List Call} : g ∈ gIn p ↔ MadeOk p g := by
  unfold gIn rowsG
  rw [(sortF_perm eLC _).mem_iff, mem_rows, ← sub_made]
  constructor
  · rintro ⟨a, b, h1, h2, rfl⟩
    rw [List.mem_singleton.mp h1]
    exact h2
  · intro h
    exact ⟨[], g, by simp, h, rfl⟩
theorem rows_len : ∀ (l : List Call) (rows : List (List Call)), (l.foldl (fun rows c => rows ++ rows.map (· ++ [c])) rows).length = rows.length * 2 ^ l.length
  | [], rows => by simp
  | c :: l, rows => by
    rw [List.foldl_cons, rows_len l, List.length_append, List.length_map, List.length_cons, Nat.pow_succ]
    have : (rows.length + rows.length) = 2 * rows.length := by omega
    rw [this, Nat.mul_comm 2, Nat.mul_assoc, Nat.mul_comm 2]
theorem lt_eLC (a b : List Call) (h : PySem.W.dataLt (eLC b) (eLC a) = false) : a.length ≤ b.length := by
  unfold eLC at h
  rw [lt_cons rfl] at h
  have h1 : PyData.eqv (.int (b.length : Nat)) (.int (a.length : Nat)) = decide (b.length = a.length) := nat_eq _ _
  rw [h1] at h
  by_cases e : b.length = a.length
  · omega
  · rw [decide_eq_false e, if_neg Bool.false_ne_true, lt_intD, decide_eq_false_iff_not] at h
    omega
/-- the first in a sorted list is the least -/
theorem find_pw {α : Type} {r : α → α → Prop} {q : α → Bool} : ∀ {l : List α} {x y : α}, l.Pairwise r → l.find? q = some x → y ∈ l → q y = true → x = y ∨ r x y
  | [], _, _, _, h, _, _ => by cases h
  | z :: l, x, y, hp, h, hy, hq => by
    obtain ⟨h1, h2⟩ := List.pairwise_cons.mp hp
    rw [List.find?_cons] at h
    cases e : q z with
    | true =>
      rw [e] at h
      cases h
      rcases List.mem_cons.mp hy with rfl | hy
      · exact .inl rfl
      · exact .inr (h1 y hy)
    | false =>
      rw [e] at h
      rcases List.mem_cons.mp hy with rfl | hy
      · rw [e] at hq; cases hq
      · exact find_pw h2 h hy hq
def fewT (p : Plan) (s : List Nat) : Option (List Call) := (gIn p).find? fun g => goodT p g s
def forAllT (p : Plan) : Option (List Call) := (gIn p).find? fun g => (allS p.k).all fun s => goodT p g s
theorem few_some {p : Plan} {s : List Nat} {g : List Call} (h : fewT p s = some g) : MadeOk p g ∧ goodT p g s = true ∧ ∀ g', MadeOk p g' → goodT p g' s = true → g.length ≤ g'.length := by
  unfold fewT at h
  refine ⟨mem_gIn.mp (List.mem_of_find?_eq_some h), by simpa using List.find?_some h, fun g' h1 h2 => ?_⟩
  rcases find_pw (sortF_pw eLC _) h (mem_gIn.mpr h1) h2 with rfl | q
  · exact Nat.le_refl _
  · exact lt_eLC _ _ q
theorem few_none {p : Plan} {s : List Nat} (h : fewT p s = none) {g : List Call} (hg : MadeOk p g) : goodT p g s = false := by
  unfold fewT at h
  have := List.find?_eq_none.mp h g (mem_gIn.mpr hg)
  simpa using this
theorem all_some {p : Plan} {g : List Call} (h : forAllT p = some g) : MadeOk p g ∧ (∀ s, StOk p.k s → goodT p g s = true) ∧ ∀ g', MadeOk p g' → (∀ s, StOk p.k s → goodT p g' s = true) → g.length ≤ g'.length := by
  unfold forAllT at h
  refine ⟨mem_gIn.mp (List.mem_of_find?_eq_some h), fun s hs => ?_, fun g' h1 h2 => ?_⟩
  · have := List.find?_some h
    exact List.all_eq_true.mp this s (mem_allS.mpr hs)
  rcases find_pw (sortF_pw eLC _) h (mem_gIn.mpr h1) (List.all_eq_true.mpr fun s hs => h2 s (mem_allS.mp hs)) with rfl | q
  · exact Nat.le_refl _
  · exact lt_eLC _ _ q
theorem all_none {p : Plan} (h : forAllT p = none) {g : List Call} (hg : MadeOk p g) : ∃ s, StOk p.k s ∧ goodT p g s = false := by
  unfold forAllT at h
  have := List.find?_eq_none.mp h g (mem_gIn.mpr hg)
  have := fun q => this (List.all_eq_true.mpr q)
  by_cases c : ∃ s, StOk p.k s ∧ goodT p g s = false
  · exact c
  · refine absurd (fun s hs => ?_) this
    cases q : goodT p g s with
    | true => rfl
    | false => exact absurd ⟨s, mem_allS.mp hs, q⟩ c
def zeros (k : Nat) : List Nat := List.replicate k 0
theorem zeros_ok (k : Nat) : StOk k (zeros k) := ⟨by simp [zeros], fun v hv => by rw [(List.mem_replicate.mp hv).2]; decide⟩
def stuckT (p : Plan) : Bool := decide (EndK.stuck ∈ (foundT p (calls p) (zeros p.k)).map fun x => x.1.1)
theorem stuck_iff {p : Plan} (hp : PlanOk p) : stuckT p = true ↔ ∃ u, Occ p (calls p) (zeros p.k) (.stuck, u) := by
  unfold stuckT
  rw [decide_eq_true_eq]
  constructor
  · intro h
    obtain ⟨x, hx, e⟩ := List.mem_map.mp h
    obtain ⟨⟨a, u⟩, r⟩ := x
    cases e
    exact ⟨u, (mem_found hp (zeros_ok _)).mp (List.mem_map.mpr ⟨_, hx, rfl⟩)⟩
  · rintro ⟨u, h⟩
    obtain ⟨x, hx, e⟩ := List.mem_map.mp ((mem_found hp (zeros_ok _)).mpr h)
    exact List.mem_map.mpr ⟨x, hx, by rw [e]⟩
def eOC : Option (List Call) → PyData
  | none => .none
  | some g => eCs g
theorem calls_made (p : Plan) : MadeOk p (calls p) := by
  have h : (calls p).filter (fun _ => true) = calls p := List.filter_eq_self.mpr fun _ _ => rfl
  have := filter_made p fun _ => true
  rw [h] at this
  exact this
theorem mul0 {k : Nat} (h1 : 1 ≤ k) (h3 : k ≤ 3) : binD .mul (.tuple [.int 0]) (.int (k : Nat)) = some (eS (zeros k)) := by
  match k, h1, h3 with
  | 1, _, _ => rfl
  | 2, _, _ => rfl
  | 3, _, _ => rfl
section
variable {gl : Nat → Option PyData} {tb : Nat → Option Fn} {fu n : Nat} {t : Town}
theorem sort_eLC (l : List (List Call)) : b1D .sorted (.list (l.map eLC)) = some (.list ((sortF eLC l).map eLC)) := by
  show (sortL (l.map eLC)).map PyData.list = _
  unfold sortL
  rw [if_pos, isort_map]
  · rfl
  refine ⟨List.all_eq_true.mpr fun x hx => List.all_eq_true.mpr fun y hy => ?_, ?_, List.all_eq_true.mpr fun x hx => ?_⟩
  · obtain ⟨a, _, rfl⟩ := List.mem_map.mp hx
    obtain ⟨b, _, rfl⟩ := List.mem_map.mp hy
    simp only [eLC, PySem.W.alike, PySem.W.alikeAll, eCs, alike_eCs2, Bool.and_true]
  · unfold sortable
    rw [Bool.or_eq_true]
    left
    refine List.all_eq_true.mpr fun x hx => ?_
    obtain ⟨a, _, rfl⟩ := List.mem_map.mp hx
    rfl
  · obtain ⟨a, _, rfl⟩ := List.mem_map.mp hx
    have := depth_eCs a
    rw [decide_eq_true_eq]
    show max 0 (max (eCs a).depth 0) + 1 ≤ 64
    omega
theorem run_guards_in (hP : PT tb) (hn : 2 ≤ n) {p : Plan} (hp : PlanOk p) : run gl tb fu n 48 [.d (eP p)] t = .ok (.d (.list ((gIn p).map eCs))) t := by
  rw [run_py (hP 48 (by decide)) rfl (by omega)]
  show R.bnd (exs gl _ fu B_guards_in [.val (.d (eP p)), .emp, .emp, .emp, .emp] t) _ = _
  have e1 := run_calls_of (gl := gl) (fu := fu) (t := t) hP (show 1 ≤ n - 1 by omega) hp.n4
  have c8 := calls_len p hp.n4
  -- the loop
  have lp : ∀ (l : List Call) (rows : List (List Call)) (x y z : Slot), (∀ r ∈ rows, r.length + l.length ≤ 100) → rows.length * 2 ^ l.length ≤ 1000 → ∃ x', forGo (fun ρ' => exs gl (run gl tb fu (n - 1)) fu B_guards_in_f1 ρ') (.nm 2) (l.map eC) [.val (.d (eP p)), .val (.d (.list (rows.map eCs))), x, y, z] t = .ok (.next [.val (.d (eP p)), .val (.d (.list ((l.foldl (fun rows c => rows ++ rows.map (· ++ [c])) rows).map eCs))), x', y, z]) t := by
    intro l
    induction l with
    | nil => exact fun rows x y z _ _ => ⟨x, rfl⟩
    | cons c l ih =>
      intro rows x y z h1 h2
      rw [List.length_cons, Nat.pow_succ] at h2
      have h2' : rows.length * 2 * 2 ^ l.length ≤ 1000 := by rw [Nat.mul_assoc, Nat.mul_comm 2]; exact h2
      have h2'' : rows.length * 2 ≤ 1000 := Nat.le_trans (Nat.le_mul_of_pos_right _ (Nat.pow_pos (by decide))) h2'
      have a1 := lc_all (gl := gl) (φ := run gl tb fu (n - 1)) (t := t) (enc := eCs) (tg := .nm 3) (it := .seq (.var 1)) (e := .bin .add (.var 3) (.tup [.var 2])) (ρ := [.val (.d (eP p)), .val (.d (.list (rows.map eCs))), .val (.d (eC c)), y, z]) rows (fun r => eCs (r ++ [c])) (by simp) (by omega) fun r hr => by
        refine ⟨[.val (.d (eP p)), .val (.d (.list (rows.map eCs))), .val (.d (eC c)), .val (.d (eCs r)), z], by simp [wipeE, slotsT], rfl, ?_, rfl⟩
        have q : binD .add (eCs r) (.tuple [eC c]) = some (eCs (r ++ [c])) := add_eCs (m := [c]) (by have := h1 r hr; simp at this ⊢; omega)
        simp [q]
      have a2 : rows.map (fun r => eCs (r ++ [c])) = (rows.map (· ++ [c])).map eCs := by rw [List.map_map]; rfl
      rw [a2] at a1
      have a3 := add_ll (a := rows.map eCs) (b := (rows.map (· ++ [c])).map eCs) (by simp; omega)
      rw [← List.map_append] at a3
      obtain ⟨x', e⟩ := ih (rows ++ rows.map (· ++ [c])) (.val (.d (eC c))) y z (fun r hr => by
        rcases List.mem_append.mp hr with hr | hr
        · have := h1 r hr; simp at this; omega
        · obtain ⟨r', hr', rfl⟩ := List.mem_map.mp hr
          have := h1 r' hr'
          simp at this ⊢
          omega) (by rw [List.length_append, List.length_map]; have : rows.length + rows.length = rows.length * 2 := by omega
                     rw [this]; exact h2')
      refine ⟨x', ?_⟩
      rw [List.map_cons, forGo_cons]
      have s1 : setTg (.nm 2) (.d (eC c)) [.val (.d (eP p)), .val (.d (.list (rows.map eCs))), x, y, z] = some [.val (.d (eP p)), .val (.d (.list (rows.map eCs))), .val (.d (eC c)), y, z] := rfl
      have s2 : exs gl (run gl tb fu (n - 1)) fu B_guards_in_f1 [.val (.d (eP p)), .val (.d (.list (rows.map eCs))), .val (.d (eC c)), y, z] t = .ok (.next [.val (.d (eP p)), .val (.d (.list ((rows ++ rows.map (· ++ [c])).map eCs))), .val (.d (eC c)), y, z]) t := by
        simp only [B_guards_in_f1, exs_cons, exs_nil, ex_asg, evA_bin, ev_bin, bind_at, ev_var, slot1, rdS_val, bnd_ok, asD_at]
        rw [a1]
        simp only [bnd_ok, asD_at]
        rw [a3]
        rfl
      rw [s1, opt_some, bnd_ok, s2, seq_next]
      exact e
  obtain ⟨x', e2⟩ := lp (calls p) [[]] .emp .emp .emp (fun r hr => by rw [List.mem_singleton.mp hr]; simp; omega) (by
    have : 2 ^ (calls p).length ≤ 2 ^ 8 := Nat.pow_le_pow_right (by decide) c8
    simp
    omega)
  have rl : (rowsG (calls p)).length ≤ 256 := by
    unfold rowsG
    rw [rows_len]
    have : 2 ^ (calls p).length ≤ 2 ^ 8 := Nat.pow_le_pow_right (by decide) c8
    simp
    omega
  have e3 := lc_all (gl := gl) (φ := run gl tb fu (n - 1)) (t := t) (enc := eCs) (tg := .nm 3) (it := .seq (.var 1)) (e := .tup [.b1 .len (.var 3), .var 3]) (ρ := [.val (.d (eP p)), .val (.d (.list ((rowsG (calls p)).map eCs))), x', .emp, .emp]) (rowsG (calls p)) eLC (by simp) (by omega) fun r hr => by
    refine ⟨[.val (.d (eP p)), .val (.d (.list ((rowsG (calls p)).map eCs))), x', .val (.d (eCs r)), .emp], by simp [wipeE, slotsT], rfl, ?_, rfl⟩
    have q : b1D .len (eCs r) = some (.int (r.length : Nat)) := by
      show some (PyData.int ((r.map eC).length : Nat)) = _
      rw [List.length_map]
    simp [q, eLC]
  have e4 := sort_eLC (rowsG (calls p))
  have gl' : (sortF eLC (rowsG (calls p))).length ≤ 256 := by rw [(sortF_perm eLC _).length_eq]; exact rl
  have e5 := lc_all (gl := gl) (φ := run gl tb fu (n - 1)) (t := t) (enc := eLC) (tg := .tp [.nm 4, .nm 3]) (it := .seq (.b1 .sorted (.lc (.tup [.b1 .len (.var 3), .var 3]) (.nm 3) (.seq (.var 1)) (.con (.bool true))))) (e := .var 3) (ρ := [.val (.d (eP p)), .val (.d (.list ((rowsG (calls p)).map eCs))), x', .emp, .emp]) (sortF eLC (rowsG (calls p))) eCs (by simp [e3, e4]) (by omega) fun r hr => by
    refine ⟨[.val (.d (eP p)), .val (.d (.list ((rowsG (calls p)).map eCs))), x', .val (.d (eCs r)), .val (.d (.int r.length))], rfl, rfl, by simp, rfl⟩
  have e6 : PyData.list [.tuple []] = .list ([[]].map eCs) := rfl
  have e7 : (calls p).foldl (fun rows c => rows ++ rows.map (· ++ [c])) [[]] = rowsG (calls p) := rfl
  have e8 : sortF eLC (rowsG (calls p)) = gIn p := rfl
  rw [e7] at e2
  rw [e8] at e5
  have e1' : evItA gl (run gl tb fu (n - 1)) (.seq (.call 24 [.var 0])) [.val (.d (eP p)), .val (.d (.list ([[]].map eCs))), .emp, .emp, .emp] t = .ok ((calls p).map eC, [.val (.d (eP p)), .val (.d (.list ([[]].map eCs))), .emp, .emp, .emp]) t := by
    simp [e1, eCs]
  have a0 : ex gl (run gl tb fu (n - 1)) fu (.asg (.nm 1) (.lst [.tup []])) [.val (.d (eP p)), .emp, .emp, .emp, .emp] t = .ok (.next [.val (.d (eP p)), .val (.d (.list ([[]].map eCs))), .emp, .emp, .emp]) t := by
    simp [eCs]
  unfold B_guards_in
  rw [exs_cons, a0, seq_next, exs_cons, ex_for, e1', bnd_ok]
  dsimp only
  rw [e2, noX_ok, seq_next, exs_cons, ex_ret, evA_lc, e5]
  rfl
theorem run_fewest (hP : PT tb) (hg : gl 1 = some D_FIRST) (hn : 7 ≤ n) {p : Plan} (hp : PlanOk p) {s : List Nat} (hs : StOk p.k s) : run gl tb 100000 n 49 [.d (eP p), .d (eS s)] t = .ok (.d (eOC (fewT p s))) t := by
  rw [run_py (hP 49 (by decide)) rfl (by omega)]
  show R.bnd (exs gl _ 100000 B_fewest_guards [.val (.d (eP p)), .val (.d (eS s)), .emp] t) _ = _
  have e1 := run_check_plan (gl := gl) (fu := 100000) (t := t) hP (show 6 ≤ n - 1 by omega) hp
  have e2 := run_check_start (gl := gl) (fu := 100000) (t := t) hP (show 3 ≤ n - 1 by omega) hp hs
  have e3 := run_guards_in (gl := gl) (fu := 100000) (t := t) hP (show 2 ≤ n - 1 by omega) hp
  have e4 := for_find (enc := eCs) (tg := .nm 2) (t := t) (f := fun ρ' => exs gl (run gl tb 100000 (n - 1)) 100000 B_fewest_guards_f1 ρ') (fun ρ => ∃ x, ρ = [.val (.d (eP p)), .val (.d (eS s)), x]) (fun g => if goodT p g s = true then some (.d (eCs g)) else none) (gIn p) (fun g hgm ρ h => by
    obtain ⟨x, rfl⟩ := h
    have a := run_are_good (gl := gl) (t := t) hP hg (show 5 ≤ n - 1 by omega) hp (g := g) hs
    refine ⟨[.val (.d (eP p)), .val (.d (eS s)), .val (.d (eCs g))], by simp, ?_⟩
    cases q : goodT p g s with
    | true =>
      rw [q] at a
      simp [B_fewest_guards_f1, a]
    | false =>
      rw [q] at a
      exact ⟨[.val (.d (eP p)), .val (.d (eS s)), .val (.d (eCs g))], by simp [B_fewest_guards_f1, a], _, rfl⟩) [.val (.d (eP p)), .val (.d (eS s)), .emp] ⟨_, rfl⟩
  rw [findSome_if (fun g => goodT p g s) (fun g => Val.d (eCs g))] at e4
  unfold fewT
  cases q : (gIn p).find? (fun g => goodT p g s) with
  | none =>
    rw [q] at e4
    obtain ⟨ρ', e5, x, rfl⟩ := e4
    simp [B_fewest_guards, e1, e2, e3, ex_for, e5, eOC]
  | some g =>
    rw [q] at e4
    dsimp only [Option.map] at e4
    simp [B_fewest_guards, e1, e2, e3, ex_for, e4, eOC]
theorem run_for_all (hP : PT tb) (hg : gl 1 = some D_FIRST) (hn : 7 ≤ n) {p : Plan} (hp : PlanOk p) : run gl tb 100000 n 50 [.d (eP p)] t = .ok (.d (eOC (forAllT p))) t := by
  rw [run_py (hP 50 (by decide)) rfl (by omega)]
  show R.bnd (exs gl _ 100000 B_guards_for_all [.val (.d (eP p)), .emp, .emp, .emp] t) _ = _
  have e1 := run_check_plan (gl := gl) (fu := 100000) (t := t) hP (show 6 ≤ n - 1 by omega) hp
  have e2 := run_states_of (gl := gl) (fu := 100000) (t := t) hP (show 1 ≤ n - 1 by omega) hp.k1 hp.k3
  have e3 := run_guards_in (gl := gl) (fu := 100000) (t := t) hP (show 2 ≤ n - 1 by omega) hp
  have al := allS_len hp.k3
  simp only [nI_def] at e2
  have e4 := for_find (enc := eCs) (tg := .nm 2) (t := t) (f := fun ρ' => exs gl (run gl tb 100000 (n - 1)) 100000 B_guards_for_all_f1 ρ') (fun ρ => ∃ x, ρ = [.val (.d (eP p)), .val (.d (.list ((allS p.k).map eS))), x, .emp]) (fun g => if ((allS p.k).all fun s => goodT p g s) = true then some (.d (eCs g)) else none) (gIn p) (fun g hgm ρ h => by
    obtain ⟨x, rfl⟩ := h
    refine ⟨[.val (.d (eP p)), .val (.d (.list ((allS p.k).map eS))), .val (.d (eCs g)), .emp], by simp, ?_⟩
    have a := lc_all (gl := gl) (φ := run gl tb 100000 (n - 1)) (t := t) (enc := eS) (tg := .nm 3) (it := .seq (.var 1)) (e := .call 43 [.var 0, .var 2, .var 3]) (ρ := [.val (.d (eP p)), .val (.d (.list ((allS p.k).map eS))), .val (.d (eCs g)), .emp]) (allS p.k) (fun s => .bool (goodT p g s)) (by simp) (by omega) fun s hs => by
      refine ⟨[.val (.d (eP p)), .val (.d (.list ((allS p.k).map eS))), .val (.d (eCs g)), .val (.d (eS s))], by simp [wipeE, slotsT], rfl, ?_, rfl⟩
      have := run_are_good (gl := gl) (t := t) hP hg (show 5 ≤ n - 1 by omega) hp (g := g) (mem_allS.mp hs)
      simp [this]
    have b := all_map (fun s => goodT p g s) (allS p.k)
    cases q : (allS p.k).all (fun s => goodT p g s) with
    | true =>
      rw [q] at b
      simp [B_guards_for_all_f1, a, b]
    | false =>
      rw [q] at b
      exact ⟨[.val (.d (eP p)), .val (.d (.list ((allS p.k).map eS))), .val (.d (eCs g)), .emp], by simp [B_guards_for_all_f1, a, b], _, rfl⟩) [.val (.d (eP p)), .val (.d (.list ((allS p.k).map eS))), .emp, .emp] ⟨_, rfl⟩
  rw [findSome_if (fun g => (allS p.k).all fun s => goodT p g s) (fun g => Val.d (eCs g))] at e4
  unfold forAllT
  cases q : (gIn p).find? (fun g => (allS p.k).all fun s => goodT p g s) with
  | none =>
    rw [q] at e4
    obtain ⟨ρ', e5, x, rfl⟩ := e4
    simp [B_guards_for_all, e1, e2, e3, ex_for, e5, eOC]
  | some g =>
    rw [q] at e4
    dsimp only [Option.map] at e4
    simp [B_guards_for_all, e1, e2, e3, ex_for, e4, eOC]
theorem mem_stuck (l : List EndK) : cmpD .mem (.str S_stuck) (.list (l.map fun k => .str (kS k))) = some (decide (EndK.stuck ∈ l)) := by
  show (if shapedB (.str S_stuck) = true ∧ shapedB (.list (l.map fun k => PyData.str (kS k))) = true then some ((l.map fun k => PyData.str (kS k)).any fun z => PyData.eqv z (.str S_stuck)) else none) = _
  rw [if_pos ⟨rfl, shaped_list fun k _ => ⟨rfl, Nat.zero_le _⟩⟩]
  congr 1
  induction l with
  | nil => simp
  | cons k l ih =>
    rw [List.map_cons, List.any_cons, ih]
    have : PyData.eqv (.str (kS k)) (.str S_stuck) = decide (k = .stuck) := kS_stuck k
    rw [this, Bool.eq_iff_iff, Bool.or_eq_true, decide_eq_true_eq, decide_eq_true_eq, decide_eq_true_eq, List.mem_cons]
    constructor
    · rintro (h | h)
      · exact .inl h.symm
      · exact .inr h
    · rintro (h | h)
      · exact .inl h.symm
      · exact .inr h
theorem run_stuck (hP : PT tb) (hg : gl 1 = some D_FIRST) (hn : 7 ≤ n) {p : Plan} (hp : PlanOk p) : run gl tb 100000 n 51 [.d (eP p)] t = .ok (.d (.bool (stuckT p))) t := by
  rw [run_py (hP 51 (by decide)) rfl (by omega)]
  show R.bnd (exs gl _ 100000 B_can_get_stuck [.val (.d (eP p)), .emp] t) _ = _
  have e1 := run_check_plan (gl := gl) (fu := 100000) (t := t) hP (show 6 ≤ n - 1 by omega) hp
  have e2 := run_calls_of (gl := gl) (fu := 100000) (t := t) hP (show 1 ≤ n - 1 by omega) hp.n4
  have e3 := run_found (gl := gl) (t := t) hP hg (show 4 ≤ n - 1 by omega) hp (g := calls p) (zeros_ok p.k)
  have e4 := mul0 hp.k1 hp.k3
  have fl := found_len hp (zeros_ok p.k) (g := calls p)
  have e5 := lc_all (gl := gl) (φ := run gl tb 100000 (n - 1)) (t := t) (enc := fun x : End × Run => eE x.1) (tg := .nm 1) (it := .seq (.call 42 [.var 0, .call 24 [.var 0], .bin .mul (.tup [.con (.int 0)]) (.sub (.var 0) (.con (.int 0)))])) (e := .sub (.var 1) (.con (.int 0))) (ρ := [.val (.d (eP p)), .emp]) (foundT p (calls p) (zeros p.k)) (fun x => .str (kS x.1.1)) (by simp [e2, e3, e4, itemsD, eF]) (by omega) fun x h => by
    exact ⟨[.val (.d (eP p)), .val (.d (eE x.1))], by simp [wipeE, slotsT], rfl, by simp, rfl⟩
  have e6 := mem_stuck ((foundT p (calls p) (zeros p.k)).map fun x => x.1.1)
  rw [List.map_map] at e6
  have e7 : (foundT p (calls p) (zeros p.k)).map ((fun k => PyData.str (kS k)) ∘ fun x => x.1.1) = (foundT p (calls p) (zeros p.k)).map fun x => .str (kS x.1.1) := rfl
  rw [e7] at e6
  unfold stuckT
  simp only [B_can_get_stuck]
  simp only [exs_cons, ex_expr, ev_call, evv_cons, isOwn_var, slot0, ownS_val, ev_var, rdS_val, evv_nil, bnd_ok]
  simp only [Bool.false_eq_true, if_false, bnd_ok, e1, seq_next, ex_ret, evA_cmp, ev_cmp, bind_at, ev_con, asD_at]
  rw [e5]
  simp only [bnd_ok, asD_at]
  rw [e6]
  rfl
end
end Bk
namespace Bk
open PySem
/-! ### what leads to an end -/
inductive Lead (p : Plan) (g : List Call) : Node → Run → End → Prop
  | fin {n : Node} {o : Out} {e : End} : o ∈ outs p g n.here n.made → stepN p g n o = .inr e → Lead p g n [(n.here, o)] e
  | step {n n' : Node} {o : Out} {r : Run} {e : End} : o ∈ outs p g n.here n.made → stepN p g n o = .inl n' → Lead p g n' r e → Lead p g n ((n.here, o) :: r) e
theorem reach_lead {p : Plan} {g : List Call} {s : List Nat} {r : Run} {n : Node} (h : Reach p g s r n) : ∀ {r' : Run} {e : End}, Lead p g n r' e → Lead p g (beginN s) (r ++ r') e := by
  induction h with
  | nil => exact fun h => h
  | @snoc r n n' o h1 h2 h3 ih =>
    intro r' e h
    have := ih (.step h2 h3 h)
    simpa using this
theorem ends_lead {p : Plan} {g : List Call} {s : List Nat} {r : Run} {e : End} (h : EndsR p g s r e) : Lead p g (beginN s) r e := by
  obtain ⟨r0, n, o, h1, h2, h3, rfl⟩ := h
  exact reach_lead h1 (.fin h2 h3)
theorem lead_ends {p : Plan} {g : List Call} {s : List Nat} {n : Node} {r : Run} {e : End} (h : Lead p g n r e) : ∀ {r0 : Run}, Reach p g s r0 n → EndsR p g s (r0 ++ r) e := by
  induction h with
  | fin h1 h2 => exact fun h => ⟨_, _, _, h, h1, h2, rfl⟩
  | step h1 h2 _ ih =>
    intro r0 h
    have := ih (.snoc h h1 h2)
    simpa using this
theorem endsR_lead {p : Plan} {g : List Call} {s : List Nat} {r : Run} {e : End} : EndsR p g s r e ↔ Lead p g (beginN s) r e := ⟨ends_lead, fun h => lead_ends h .nil⟩
theorem occ_lead {p : Plan} {g : List Call} {s : List Nat} {e : End} : Occ p g s e ↔ ∃ r, Lead p g (beginN s) r e := by
  unfold Occ
  constructor
  · rintro ⟨r, h⟩
    exact ⟨r, endsR_lead.mp h⟩
  · rintro ⟨r, h⟩
    exact ⟨r, endsR_lead.mpr h⟩
/-- an invariant of the places, kept, tells the ends -/
theorem lead_inv {p : Plan} {g : List Call} {I : Node → Prop} {E : End → Prop} (h1 : ∀ n o e, I n → o ∈ outs p g n.here n.made → stepN p g n o = .inr e → E e) (h2 : ∀ n o n', I n → o ∈ outs p g n.here n.made → stepN p g n o = .inl n' → I n') {n : Node} {r : Run} {e : End} (h : Lead p g n r e) : I n → E e := by
  induction h with
  | fin a b => exact fun i => h1 _ _ _ i a b
  | step a b _ ih => exact fun i => ih (h2 _ _ _ i a b)
/-! ### where a run leads -/
def stepW (p : Plan) (g : List Call) (x : Node ⊕ End) (e : Call × Out) : Option (Node ⊕ End) := match x with
  | .inl n => if e.1 = n.here ∧ e.2 ∈ outs p g n.here n.made then some (stepN p g n e.2) else none
  | .inr _ => none
def followN (p : Plan) (g : List Call) : Node ⊕ End → Run → Option (Node ⊕ End)
  | x, [] => some x
  | x, e :: r => (stepW p g x e).bind fun y => followN p g y r
def followT (p : Plan) (g : List Call) (s : List Nat) (r : Run) : Option End := match followN p g (.inl (beginN s)) r with
  | some (.inr e) => some e
  | _ => none
theorem followN_inr {p : Plan} {g : List Call} {e e' : End} {r : Run} (h : followN p g (.inr e) r = some (.inr e')) : r = [] ∧ e = e' := by
  cases r with
  | nil => cases h; exact ⟨rfl, rfl⟩
  | cons x r => cases h
theorem follow_lead {p : Plan} {g : List Call} {r : Run} {e : End} : ∀ {n : Node}, followN p g (.inl n) r = some (.inr e) ↔ Lead p g n r e := by
  induction r with
  | nil =>
    intro n
    constructor
    · intro h; cases h
    · intro h; cases h
  | cons x r ih =>
    intro n
    obtain ⟨c, o⟩ := x
    have un : followN p g (.inl n) ((c, o) :: r) = (if c = n.here ∧ o ∈ outs p g n.here n.made then some (stepN p g n o) else none).bind fun y => followN p g y r := rfl
    rw [un]
    constructor
    · intro h
      by_cases hc : c = n.here ∧ o ∈ outs p g n.here n.made
      · rw [if_pos hc] at h
        obtain ⟨rfl, ho⟩ := hc
        have h : followN p g (stepN p g n o) r = some (.inr e) := h
        cases q : stepN p g n o with
        | inl n' =>
          rw [q] at h
          exact .step ho q (ih.mp h)
        | inr e' =>
          rw [q] at h
          obtain ⟨rfl, rfl⟩ := followN_inr h
          exact .fin ho q
      · rw [if_neg hc] at h
        cases h
    · intro h
      cases h with
      | fin h1 h2 =>
        rw [if_pos ⟨rfl, h1⟩]
        show followN p g (stepN p g n o) [] = _
        rw [h2]
        rfl
      | step h1 h2 h3 =>
        rw [if_pos ⟨rfl, h1⟩]
        show followN p g (stepN p g n o) r = _
        rw [h2]
        exact ih.mpr h3
theorem follow_iff {p : Plan} {g : List Call} {s : List Nat} {r : Run} {e : End} : followT p g s r = some e ↔ EndsR p g s r e := by
  rw [endsR_lead, ← follow_lead]
  unfold followT
  cases q : followN p g (.inl (beginN s)) r with
  | none => simp
  | some x =>
    cases x with
    | inl n => simp
    | inr e' => simp
/-! ### another start -/
def likeN (a b : Node) : Prop := a.here = b.here ∧ a.made = b.made
theorem step_like {p : Plan} {g : List Call} {a b : Node} (h : likeN a b) (o : Out) : (∀ a', stepN p g a o = .inl a' → ∃ b', stepN p g b o = .inl b' ∧ likeN a' b') ∧ ∀ e, stepN p g a o = .inr e → ∃ u, stepN p g b o = .inr (e.1, u) := by
  obtain ⟨a1, a2, a3⟩ := a
  obtain ⟨b1, b2, b3⟩ := b
  obtain ⟨h1, h2⟩ := h
  have h1 : a1 = b1 := h1
  have h2 : a2 = b2 := h2
  subst h1 h2
  have hm : (moveT p g a1 a2 a3 o).1 = (moveT p g a1 a2 b3 o).1 := by
    unfold moveT callT
    split
    · split
      · rfl
      · split <;> rfl
    · rfl
  unfold stepN
  dsimp only
  cases hx : nextN p a1 o with
  | call c =>
    dsimp only
    refine ⟨fun a' e => ?_, fun e q => (nomatch q)⟩
    cases e
    exact ⟨_, rfl, rfl, hm⟩
  | fin k =>
    dsimp only
    refine ⟨fun a' e => (nomatch e), fun e q => ?_⟩
    cases q
    exact ⟨_, rfl⟩
theorem lead_like {p : Plan} {g : List Call} {n : Node} {r : Run} {e : End} (h : Lead p g n r e) : ∀ {m : Node}, likeN n m → ∃ u, Lead p g m r (e.1, u) := by
  induction h with
  | @fin n o e h1 h2 =>
    intro m l
    obtain ⟨u, hu⟩ := (step_like l o).2 _ h2
    refine ⟨u, ?_⟩
    rw [l.1]
    rw [l.1, l.2] at h1
    exact .fin h1 hu
  | @step n n' o r e h1 h2 _ ih =>
    intro m l
    obtain ⟨m', hm, l'⟩ := (step_like l o).1 _ h2
    obtain ⟨u, hu⟩ := ih l'
    refine ⟨u, ?_⟩
    rw [l.1]
    rw [l.1, l.2] at h1
    exact .step h1 hm hu
/-- whether it is a run does not depend on the start -/
theorem run_start {p : Plan} {g : List Call} (s s' : List Nat) {r : Run} {e : End} (h : EndsR p g s r e) : ∃ u, EndsR p g s' r (e.1, u) := by
  obtain ⟨u, hu⟩ := lead_like (endsR_lead.mp h) (m := beginN s') ⟨rfl, rfl⟩
  exact ⟨u, endsR_lead.mpr hu⟩
theorem follow_start {p : Plan} {g : List Call} (s s' : List Nat) (r : Run) : (followT p g s r).isSome = (followT p g s' r).isSome := by
  rw [Bool.eq_iff_iff, Option.isSome_iff_exists, Option.isSome_iff_exists]
  constructor
  · rintro ⟨e, h⟩
    obtain ⟨u, hu⟩ := run_start s s' (follow_iff.mp h)
    exact ⟨_, follow_iff.mpr hu⟩
  · rintro ⟨e, h⟩
    obtain ⟨u, hu⟩ := run_start s' s (follow_iff.mp h)
    exact ⟨_, follow_iff.mpr hu⟩
/-! ### the def -/
/-- an event, as the program looks at it -/
def isEvB : PyData → Bool
  | .tuple [.str _, .int i, .str _] => decide (0 ≤ i) && decide (i ≤ 3)
  | _ => false
def evOf (c : Call) (os : List Out) (x : PyData) : Option Out := if isEvB x = true then os.find? fun o => PyData.eqv (eV (c, o)) x else none
def followD (p : Plan) (g : List Call) : Node ⊕ End → List PyData → Option (Node ⊕ End)
  | x, [] => some x
  | .inr _, _ :: _ => none
  | .inl n, x :: xs => match evOf n.here (outs p g n.here n.made) x with
    | none => none
    | some o => followD p g (stepN p g n o) xs
def followX (p : Plan) (g : List Call) (s : List Nat) : PyData → Option End
  | .tuple xs => match followD p g (.inl (beginN s)) xs with
    | some (.inr e) => some e
    | _ => none
  | _ => none
def eOE : Option End → PyData
  | none => .none
  | some e => eE e
def eNE : Node ⊕ End → PyData × PyData × PyData
  | .inl n => (eC n.here, eCs n.made, eS n.st)
  | .inr e => (.str (kS e.1), .none, eS e.2)
section
variable {gl : Nat → Option PyData} {tb : Nat → Option Fn} {fu n : Nat} {t : Town}
theorem run_is_event (hP : PT tb) (hn : 2 ≤ n) {x : PyData} (hx : x.plain = true) : run gl tb fu n 37 [.d x] t = .ok (.d (.bool (isEvB x))) t := by
  rw [run_py (hP 37 (by decide)) rfl (by omega)]
  show R.bnd (exs gl _ fu B_is_event [.val (.d x)] t) _ = _
  cases x with
  | dict _ => simp [PyData.plain] at hx
  | tuple xs =>
    by_cases hl : xs.length = 3
    · match xs, hl with
      | [a, y, z], _ =>
        have hp := plain_mem (xs := [a, y, z]) (by simpa [PyData.plain] using hx)
        have pa := hp a (by simp)
        have py := hp y (by simp)
        have pz := hp z (by simp)
        have r1 := run_between (gl := gl) (fu := fu) (t := t) hP (show 1 ≤ n - 1 by omega) py 0 3
        cases hy : btw y 0 3 with
        | false =>
          have e : isEvB (.tuple [a, y, z]) = false := by
            cases a <;> cases y <;> cases z <;> first | rfl | exact hy
          rw [e]
          rw [hy] at r1
          simp [B_is_event, sub3_1, r1]
        | true =>
          obtain ⟨v, rfl⟩ := btw_int hy
          rw [hy] at r1
          have hv : (decide (0 ≤ v) && decide (v ≤ 3)) = true := hy
          cases a with
          | dict _ => simp [PyData.plain] at pa
          | str c =>
            cases z with
            | dict _ => simp [PyData.plain] at pz
            | str d =>
              have e : isEvB (.tuple [.str c, .int v, .str d]) = true := hv
              rw [e]
              simp [B_is_event, sub3_0, sub3_1, sub3_2, r1]
            | _ => simp [B_is_event, sub3_0, sub3_1, sub3_2, r1, isEvB]
          | _ => simp [B_is_event, sub3_0, sub3_1, sub3_2, r1, isEvB]
    · have e : isEvB (.tuple xs) = false := by
        unfold isEvB
        split
        · rename_i e
          cases e
          exact absurd rfl hl
        · rfl
      have e2 : ((xs.length : Int) == 3) = false := by
        simp
        omega
      rw [e]
      simp [B_is_event, e2]
  | _ => simp [B_is_event, isEvB]
theorem isEv_some {x : PyData} (h : isEvB x = true) : ∃ a i b, x = .tuple [.str a, .int i, .str b] ∧ 0 ≤ i ∧ i ≤ 3 := by
  unfold isEvB at h
  split at h
  · simp only [Bool.and_eq_true, decide_eq_true_eq] at h
    exact ⟨_, _, _, rfl, h.1, h.2⟩
  · cases h
theorem eqv_ev (c : Call) (o : Out) (a b : Str) (i : Int) : PyData.eqv (eV (c, o)) (.tuple [.str a, .int i, .str b]) = (PyData.eqv (.tuple [.str a, .int i]) (eC c) && (oS o == b)) := by
  have c1 : (cS c == a) = (a == cS c) := by
    rw [Bool.eq_iff_iff, beq_iff_eq, beq_iff_eq]
    exact ⟨Eq.symm, Eq.symm⟩
  have c2 : (((c.pos : Nat) : Int) == i) = (i == ((c.pos : Nat) : Int)) := by
    rw [Bool.eq_iff_iff, beq_iff_eq, beq_iff_eq]
    exact ⟨Eq.symm, Eq.symm⟩
  rw [eC_eq]
  simp only [eV, PyData.eqv, PyData.eqvAll, Bool.and_true, c1, c2, Bool.and_assoc, nI_def]
theorem slc_ev (a b : Str) (i : Int) : slcD (.tuple [.str a, .int i, .str b]) none (some 2) = some (.tuple [.str a, .int i]) := rfl
theorem ne_ev (c : Call) (a : Str) (i : Int) : cmpD .ne (.tuple [.str a, .int i]) (eC c) = some (!PyData.eqv (.tuple [.str a, .int i]) (eC c)) := by
  show (if shapedB (.tuple [.str a, .int i]) = true ∧ shapedB (eC c) = true then some (PyData.eqv (.tuple [.str a, .int i]) (eC c)) else none).map (!·) = _
  rw [if_pos ⟨rfl, shaped_eC c⟩]
  rfl
theorem nmem_outs (b : Str) (os : List Out) : cmpD .nmem (.str b) (.list (os.map fun o => .str (oS o))) = some (!(os.any fun o => oS o == b)) := by
  show (if shapedB (.str b) = true ∧ shapedB (.list (os.map fun o => PyData.str (oS o))) = true then some ((os.map fun o => PyData.str (oS o)).any fun z => PyData.eqv z (.str b)) else none).map (!·) = _
  rw [if_pos ⟨rfl, shaped_list fun k _ => ⟨rfl, Nat.zero_le _⟩⟩]
  congr 2
  rw [List.any_map]
  rfl
theorem oS_inj {a b : Out} (h : oS a = oS b) : a = b := by
  have := oS_eq a b
  rw [h] at this
  simpa using this.symm
/-- where the walk stands -/
def envO (p : Plan) (g : List Call) (s : List Nat) (r : PyData) (x : Node ⊕ End) (m ev : Slot) : Ev := match x with
  | .inl n => [.val (.d (eP p)), .val (.d (eCs g)), .val (.d (eS s)), .val (.d r), .val (.d (eC n.here)), .val (.d (eCs n.made)), .val (.d (eS n.st)), ev]
  | .inr e => [.val (.d (eP p)), .val (.d (eCs g)), .val (.d (eS s)), .val (.d r), .val (.d (.str (kS e.1))), m, .val (.d (eS e.2)), ev]
theorem follow_loop (hP : PT tb) (hn : 4 ≤ n) {p : Plan} (hp : PlanOk p) {g : List Call} {s : List Nat} {r : PyData} : ∀ {xs : List PyData} {x : Node ⊕ End}, (∀ y ∈ xs, y.plain = true) → (∀ nd, x = .inl nd → NodeOk p nd) → ∀ m ev,
    match followD p g x xs with
    | none => forGo (fun ρ' => exs gl (run gl tb fu (n - 1)) fu B_followed_f1 ρ') (.nm 7) xs (envO p g s r x m ev) t = .ok (.ret (.d .none)) t
    | some y => ∃ m' ev', forGo (fun ρ' => exs gl (run gl tb fu (n - 1)) fu B_followed_f1 ρ') (.nm 7) xs (envO p g s r x m ev) t = .ok (.next (envO p g s r y m' ev')) t
  | [], x, _, _, m, ev => by
    cases x <;> exact ⟨m, ev, rfl⟩
  | y :: xs, x, hpl, hok, m, ev => by
    have py := hpl y (List.mem_cons_self ..)
    have e0 := run_is_event (gl := gl) (fu := fu) (t := t) hP (show 2 ≤ n - 1 by omega) py
    cases x with
    | inr e =>
      show forGo _ _ (y :: xs) _ t = _
      rw [forGo_cons]
      have s1 : setTg (.nm 7) (.d y) (envO p g s r (.inr e) m ev) = some (envO p g s r (.inr e) m (.val (.d y))) := rfl
      rw [s1, opt_some, bnd_ok]
      cases q : isEvB y with
      | false =>
        rw [q] at e0
        simp [B_followed_f1, envO, e0]
      | true =>
        rw [q] at e0
        simp [B_followed_f1, envO, e0]
    | inl nd =>
      have ok := hok nd rfl
      have s1 : setTg (.nm 7) (.d y) (envO p g s r (.inl nd) m ev) = some (envO p g s r (.inl nd) m (.val (.d y))) := rfl
      have un : followD p g (.inl nd) (y :: xs) = match evOf nd.here (outs p g nd.here nd.made) y with
        | none => none
        | some o => followD p g (stepN p g nd o) xs := rfl
      rw [un]
      have e1 := run_outcomes_of (gl := gl) (fu := fu) (t := t) hP (show 1 ≤ n - 1 by omega) (p := p) (g := g) (c := nd.here) (made := nd.made) (mem_calls.mp ok.h).1
      cases q : isEvB y with
      | false =>
        rw [q] at e0
        have : evOf nd.here (outs p g nd.here nd.made) y = none := by unfold evOf; rw [q]; rfl
        rw [this]
        dsimp only
        rw [forGo_cons, s1, opt_some, bnd_ok]
        simp [B_followed_f1, envO, e0]
      | true =>
        rw [q] at e0
        obtain ⟨a, i, b, rfl, _, _⟩ := isEv_some q
        have e2 := ne_ev nd.here a i
        have e3 := nmem_outs b (outs p g nd.here nd.made)
        have evo : evOf nd.here (outs p g nd.here nd.made) (.tuple [.str a, .int i, .str b]) = (outs p g nd.here nd.made).find? fun o => (PyData.eqv (.tuple [.str a, .int i]) (eC nd.here) && (oS o == b)) := by
          unfold evOf
          rw [q, if_pos rfl]
          congr 1
          funext o
          exact eqv_ev nd.here o a b i
        rw [evo]
        cases c1 : PyData.eqv (.tuple [.str a, .int i]) (eC nd.here) with
        | false =>
          rw [c1] at e2
          have : (outs p g nd.here nd.made).find? (fun o => (false && (oS o == b))) = none := by simp
          rw [this]
          dsimp only
          rw [forGo_cons, s1, opt_some, bnd_ok]
          have isn : ∀ u, isiD .str (eC u) = false := fun u => by cases u <;> rfl
          simp [B_followed_f1, envO, e0, slc_ev, e2, noneI, isn]
        | true =>
          rw [c1] at e2
          simp only [Bool.true_and]
          have isn : ∀ u, isiD .str (eC u) = false := fun u => by cases u <;> rfl
          cases c2 : (outs p g nd.here nd.made).find? (fun o => oS o == b) with
          | none =>
            have e4 : ((outs p g nd.here nd.made).any fun o => oS o == b) = false := by
              rw [List.any_eq_false]
              exact List.find?_eq_none.mp c2
            rw [e4] at e3
            dsimp only
            rw [forGo_cons, s1, opt_some, bnd_ok]
            simp [B_followed_f1, envO, e0, slc_ev, e2, noneI, isn, sub3_2, e1, e3]
          | some o =>
            have hb : oS o = b := by simpa using List.find?_some c2
            have ho := List.mem_of_find?_eq_some c2
            have e4 : ((outs p g nd.here nd.made).any fun o => oS o == b) = true := List.any_eq_true.mpr ⟨o, ho, by simp [hb]⟩
            rw [e4] at e3
            subst hb
            have e5 := run_moved (gl := gl) (fu := fu) (t := t) hP (show 3 ≤ n - 1 by omega) hp ok.h ok.m ok.s o (g := g)
            have mv := moveT_ok hp ok.h ok.m ok.s o (g := g)
            dsimp only
            have nx : ∃ m' , exs gl (run gl tb fu (n - 1)) fu B_followed_f1 (envO p g s r (.inl nd) m (.val (.d (.tuple [.str a, .int i, .str (oS o)])))) t = .ok (.next (envO p g s r (stepN p g nd o) m' (.val (.d (.tuple [.str a, .int i, .str (oS o)]))))) t := by
              unfold stepN
              cases hx : nextN p nd.here o with
              | fin k =>
                rw [hx] at e5
                refine ⟨.val (.d (eCs (moveT p g nd.here nd.made nd.st o).1)), ?_⟩
                have s2 : ∀ A B C D E F G H x y z, setTg (.tp [.nm 4, .nm 5, .nm 6]) (.d (.tuple [x, y, z])) [A, B, C, D, E, F, G, H] = some [A, B, C, D, .val (.d x), .val (.d y), .val (.d z), H] := fun _ _ _ _ _ _ _ _ _ _ _ => rfl
                simp [B_followed_f1, envO, e0, slc_ev, e2, noneI, isn, sub3_2, e1, e3, e5, s2, eX]
              | call c =>
                rw [hx] at e5
                refine ⟨m, ?_⟩
                have s2 : ∀ A B C D E F G H x y z, setTg (.tp [.nm 4, .nm 5, .nm 6]) (.d (.tuple [x, y, z])) [A, B, C, D, E, F, G, H] = some [A, B, C, D, .val (.d x), .val (.d y), .val (.d z), H] := fun _ _ _ _ _ _ _ _ _ _ _ => rfl
                simp [B_followed_f1, envO, e0, slc_ev, e2, noneI, isn, sub3_2, e1, e3, e5, s2, eX]
            obtain ⟨m', nx⟩ := nx
            have ih := follow_loop hP hn hp (g := g) (s := s) (r := r) (xs := xs) (x := stepN p g nd o) (fun z hz => hpl z (List.mem_cons_of_mem _ hz)) (fun nd' e' => by
              unfold stepN at e'
              split at e'
              · cases e'
              · rename_i c hx
                cases e'
                exact ⟨next_ok ok.h hx, mv.1, mv.2⟩) m' (.val (.d (.tuple [.str a, .int i, .str (oS o)])))
            rw [forGo_cons, s1, opt_some, bnd_ok, nx, seq_next]
            exact ih
theorem run_followed (hP : PT tb) (hg : gl 1 = some D_FIRST) (hn : 4 ≤ n) {p : Plan} (hp : PlanOk p) {g : List Call} {s : List Nat} (hs : StOk p.k s) {x : PyData} (hx : x.plain = true) : run gl tb fu n 38 [.d (eP p), .d (eCs g), .d (eS s), .d x] t = .ok (.d (eOE (followX p g s x))) t := by
  rw [run_py (hP 38 (by decide)) rfl (by omega)]
  show R.bnd (exs gl _ fu B_followed [.val (.d (eP p)), .val (.d (eCs g)), .val (.d (eS s)), .val (.d x), .emp, .emp, .emp, .emp] t) _ = _
  cases x with
  | dict _ => simp [PyData.plain] at hx
  | tuple xs =>
    have hp' := plain_mem (xs := xs) (by simpa [PyData.plain] using hx)
    have lp := follow_loop (gl := gl) (fu := fu) (t := t) hP hn hp (g := g) (s := s) (r := .tuple xs) (xs := xs) (x := .inl (beginN s)) hp' (fun nd e => by cases e; exact begin_ok hp hs) .emp .emp
    have en : envO p g s (.tuple xs) (.inl (beginN s)) .emp .emp = [.val (.d (eP p)), .val (.d (eCs g)), .val (.d (eS s)), .val (.d (.tuple xs)), .val (.d D_FIRST), .val (.d (.tuple [])), .val (.d (eS s)), .emp] := rfl
    rw [en] at lp
    have isn : ∀ u, isiD .str (eC u) = false := fun u => by cases u <;> rfl
    unfold followX
    cases q : followD p g (.inl (beginN s)) xs with
    | none =>
      rw [q] at lp
      dsimp only at lp
      simp [B_followed, hg, setPar, ex_for, lp, eOE, q]
    | some y =>
      rw [q] at lp
      dsimp only at lp
      obtain ⟨m', ev', lp⟩ := lp
      cases y with
      | inl nd => simp [B_followed, hg, setPar, ex_for, lp, envO, isn, eOE, q]
      | inr e => simp [B_followed, hg, setPar, ex_for, lp, envO, eOE, eE, q]
  | _ => simp [B_followed, followX, eOE]
/-! ### a run that is one of ours -/
theorem evOf_eV (c : Call) (os : List Out) (e : Call × Out) (h : e.1.pos ≤ 3) (nd : os.Nodup) : evOf c os (eV e) = if e.1 = c ∧ e.2 ∈ os then some e.2 else none := by
  have hv : isEvB (eV e) = true := by
    show (decide ((0 : Int) ≤ (e.1.pos : Nat)) && decide (((e.1.pos : Nat) : Int) ≤ 3)) = true
    simp
    omega
  unfold evOf
  rw [hv, if_pos rfl]
  have : (fun o => PyData.eqv (eV (c, o)) (eV e)) = fun o => decide ((c, o) = e) := by
    funext o
    exact eqv_eV (c, o) e
  rw [this]
  obtain ⟨d, o⟩ := e
  by_cases hc : d = c ∧ o ∈ os
  · rw [if_pos hc]
    obtain ⟨rfl, ho⟩ := hc
    cases q : os.find? (fun o' => decide ((d, o') = (d, o))) with
    | none =>
      have := List.find?_eq_none.mp q o ho
      simp at this
    | some o' =>
      have := List.find?_some q
      simp at this
      rw [this]
  · rw [if_neg hc]
    rw [List.find?_eq_none]
    intro o' ho' z
    simp at z
    exact hc ⟨z.1.symm, z.2 ▸ ho'⟩
theorem outs_nodup (p : Plan) (g : List Call) (c : Call) (m : List Call) : (outs p g c m).Nodup := by
  unfold outs
  split <;> decide
theorem followD_eR {p : Plan} {g : List Call} : ∀ {r : Run} {x : Node ⊕ End}, (∀ e ∈ r, e.1.pos ≤ 3) → followD p g x (r.map eV) = followN p g x r
  | [], x, _ => by cases x <;> rfl
  | e :: r, .inr y, _ => rfl
  | e :: r, .inl n, h => by
    show (match evOf n.here (outs p g n.here n.made) (eV e) with
      | none => none
      | some o => followD p g (stepN p g n o) (r.map eV)) = (if e.1 = n.here ∧ e.2 ∈ outs p g n.here n.made then some (stepN p g n e.2) else none).bind fun y => followN p g y r
    rw [evOf_eV n.here _ e (h e (by simp)) (outs_nodup ..)]
    by_cases hc : e.1 = n.here ∧ e.2 ∈ outs p g n.here n.made
    · rw [if_pos hc, if_pos hc]
      exact followD_eR fun y hy => h y (List.mem_cons_of_mem _ hy)
    · rw [if_neg hc, if_neg hc]
      rfl
theorem followX_eR {p : Plan} {g : List Call} {s : List Nat} {r : Run} (h : ∀ e ∈ r, e.1.pos ≤ 3) : followX p g s (eR r) = followT p g s r := by
  show (match followD p g (.inl (beginN s)) (r.map eV) with
    | some (.inr e) => some e
    | _ => none) = _
  rw [followD_eR h]
  rfl
theorem lead_pos {p : Plan} {g : List Call} {n : Node} {r : Run} {e : End} (h : Lead p g n r e) : n.here ∈ calls p → ∀ x ∈ r, x.1 ∈ calls p := by
  induction h with
  | fin h1 h2 =>
    intro hn x hx
    rw [List.mem_singleton.mp hx]
    exact hn
  | @step n n' o r e h1 h2 _ ih =>
    intro hn x hx
    rcases List.mem_cons.mp hx with rfl | hx
    · exact hn
    · refine ih ?_ x hx
      unfold stepN at h2
      split at h2
      · cases h2
      · rename_i c hc
        cases h2
        exact next_ok hn hc
theorem ends_pos {p : Plan} (hp : PlanOk p) {g : List Call} {s : List Nat} {r : Run} {e : End} (h : EndsR p g s r e) : ∀ x ∈ r, x.1.pos ≤ 3 := by
  intro x hx
  have := (mem_calls.mp (lead_pos (endsR_lead.mp h) (mem_calls.mpr ⟨hp.n1, fun i e => by cases e⟩) x hx)).1
  have := hp.n4
  omega
theorem run_is_run (hP : PT tb) (hg : gl 1 = some D_FIRST) (hn : 8 ≤ n) {p : Plan} (hp : PlanOk p) {g : List Call} (gk : MadeOk p g) {x : PyData} (hx : x.plain = true) : run gl tb fu n 39 [.d (eP p), .d (eCs g), .d x] t = .ok (.d (.bool (followX p g (zeros p.k) x).isSome)) t := by
  rw [run_py (hP 39 (by decide)) rfl (by omega)]
  show R.bnd (exs gl _ fu B_is_run [.val (.d (eP p)), .val (.d (eCs g)), .val (.d x)] t) _ = _
  have e1 := run_check_guards (gl := gl) (fu := fu) (t := t) hP (show 7 ≤ n - 1 by omega) hp gk
  have e2 := mul0 hp.k1 hp.k3
  have e3 := run_followed (gl := gl) (fu := fu) (t := t) hP hg (show 4 ≤ n - 1 by omega) hp (g := g) (zeros_ok p.k) hx
  have e4 : cmpD .notN (eOE (followX p g (zeros p.k) x)) .none = some (followX p g (zeros p.k) x).isSome := by
    cases followX p g (zeros p.k) x <;> rfl
  simp [B_is_run, e1, e2, e3, e4]
theorem run_run_end (hP : PT tb) (hg : gl 1 = some D_FIRST) (hn : 8 ≤ n) {p : Plan} (hp : PlanOk p) {g : List Call} (gk : MadeOk p g) {s : List Nat} (hs : StOk p.k s) {x : PyData} (hx : x.plain = true) : run gl tb fu n 40 [.d (eP p), .d (eCs g), .d (eS s), .d x] t = match followX p g s x with
    | some e => .ok (.d (eE e)) t
    | none => .exc 7 t := by
  rw [run_py (hP 40 (by decide)) rfl (by omega)]
  show R.bnd (exs gl _ fu B_run_end [.val (.d (eP p)), .val (.d (eCs g)), .val (.d (eS s)), .val (.d x), .emp] t) _ = _
  have e1 := run_check_guards (gl := gl) (fu := fu) (t := t) hP (show 7 ≤ n - 1 by omega) hp gk
  have e2 := run_check_start (gl := gl) (fu := fu) (t := t) hP (show 3 ≤ n - 1 by omega) hp hs
  have e3 := run_followed (gl := gl) (fu := fu) (t := t) hP hg (show 4 ≤ n - 1 by omega) hp (g := g) hs hx
  cases q : followX p g s x with
  | none =>
    rw [q] at e3
    simp [B_run_end, e1, e2, e3, eOE]
  | some e =>
    rw [q] at e3
    have e4 : cmpD .isN (eE e) .none = some false := rfl
    simp [B_run_end, e1, e2, e3, eOE, e4]
end
end Bk
namespace Bk
open PySem
section
variable {gl : Nat → Option PyData} {φ : Nat → List Val → M Val} {tb : Nat → Option Fn} {fu n : Nat} {t : Town}
theorem lcGo_rule {α β : Type} {enc : α → PyData} {encB : β → PyData} (P : α → β → Prop) {f : Ev → M Val} {c : Ev → M Bool} {tg : Tg} {ρ : Ev} : ∀ {xs : List α}, (∀ x ∈ xs, ∀ t, ∃ ρ1, setTg tg (.d (enc x)) ρ = some ρ1 ∧ ∃ b t1, c ρ1 t = .ok b t1 ∧ (b = true → ∃ y t2, f ρ1 t1 = .ok (.d (encB y)) t2 ∧ isDict (encB y) = false ∧ P x y)) →
    ∀ t, ∃ ps : List (α × β), (ps.map (·.1)).Sublist xs ∧ (∀ q ∈ ps, P q.1 q.2) ∧ ∃ t', lcGo f c tg ρ (xs.map enc) t = .ok (ps.map fun q => encB q.2) t'
  | [], _, t => ⟨[], by simp, by simp, t, rfl⟩
  | x :: xs, h, t => by
    obtain ⟨ρ1, e1, b, t1, e2, e3⟩ := h x (List.mem_cons_self ..) t
    cases b with
    | false =>
      obtain ⟨ps, a1, a2, t', a3⟩ := lcGo_rule P (xs := xs) (fun y hy => h y (List.mem_cons_of_mem _ hy)) t1
      refine ⟨ps, a1.cons _, a2, t', ?_⟩
      rw [List.map_cons, lcGo_cons, e1, opt_some, bnd_ok, e2, bnd_ok, if_neg Bool.false_ne_true]
      exact a3
    | true =>
      obtain ⟨y, t2, e4, e5, hp⟩ := e3 rfl
      obtain ⟨ps, a1, a2, t', a3⟩ := lcGo_rule P (xs := xs) (fun y hy => h y (List.mem_cons_of_mem _ hy)) t2
      refine ⟨(x, y) :: ps, by simpa using a1, fun q hq => ?_, t', ?_⟩
      · rcases List.mem_cons.mp hq with rfl | hq
        · exact hp
        · exact a2 q hq
      · rw [List.map_cons, lcGo_cons, e1, opt_some, bnd_ok, e2, bnd_ok, if_pos rfl, e4, bnd_ok, asP_at e5, bnd_ok, a3]
        rfl
theorem lc_rule {α β : Type} {enc : α → PyData} {encB : β → PyData} {e : IE} {it : It} {d : IE} {tg : Tg} {ρ : Ev} (P : α → β → Prop) (xs : List α) {t t0 : Town} (hi : evIt gl φ it ρ t = .ok (xs.map enc) t0) (hl : xs.length ≤ 100000)
    (h : ∀ x ∈ xs, ∀ t, ∃ ρ1, setTg tg (.d (enc x)) (wipeE ρ (slotsT tg)) = some ρ1 ∧ ∃ b t1, (ev gl φ d ρ1 >>= asB) t = .ok b t1 ∧ (b = true → isOwn e ρ1 = false ∧ ∃ y t2, ev gl φ e ρ1 t1 = .ok (.d (encB y)) t2 ∧ isDict (encB y) = false ∧ P x y)) :
    ∃ ps : List (α × β), (ps.map (·.1)).Sublist xs ∧ (∀ q ∈ ps, P q.1 q.2) ∧ ∃ t', ev gl φ (.lc e tg it d) ρ t = .ok (.d (.list (ps.map fun q => encB q.2))) t' := by
  obtain ⟨ps, a1, a2, t', a3⟩ := lcGo_rule (enc := enc) (encB := encB) P (f := fun ρ' => if isOwn e ρ' = true then M.fail else ev gl φ e ρ') (c := fun ρ' => ev gl φ d ρ' >>= asB) (tg := tg) (ρ := wipeE ρ (slotsT tg)) (xs := xs) (fun x hx t => by
    obtain ⟨ρ1, e1, b, t1, e2, e3⟩ := h x hx t
    refine ⟨ρ1, e1, b, t1, e2, fun hb => ?_⟩
    obtain ⟨e4, y, t2, e5, e6⟩ := e3 hb
    refine ⟨y, t2, ?_, e6⟩
    show (if isOwn e ρ1 = true then M.fail else ev gl φ e ρ1 : M Val) t1 = _
    rw [e4, if_neg Bool.false_ne_true]
    exact e5) t0
  refine ⟨ps, a1, a2, t', ?_⟩
  rw [ev_lc, hi, bnd_ok, if_neg (by rw [List.length_map, PySem.sizeLine_eq]; omega), a3]
  rfl
/-- each item, no test -/
theorem lcGo_each {α β : Type} {enc : α → PyData} {encB : β → PyData} (P : α → β → Prop) {f : Ev → M Val} {tg : Tg} {ρ : Ev} : ∀ {xs : List α}, (∀ x ∈ xs, ∀ t, ∃ ρ1, setTg tg (.d (enc x)) ρ = some ρ1 ∧ ∃ y t2, f ρ1 t = .ok (.d (encB y)) t2 ∧ isDict (encB y) = false ∧ P x y) →
    ∀ t, ∃ ps : List (α × β), ps.map (·.1) = xs ∧ (∀ q ∈ ps, P q.1 q.2) ∧ ∃ t', lcGo f (fun ρ' => ev gl φ (.con (.bool true)) ρ' >>= asB) tg ρ (xs.map enc) t = .ok (ps.map fun q => encB q.2) t'
  | [], _, t => ⟨[], by simp, by simp, t, rfl⟩
  | x :: xs, h, t => by
    obtain ⟨ρ1, e1, y, t2, e4, e5, hp⟩ := h x (List.mem_cons_self ..) t
    obtain ⟨ps, a1, a2, t', a3⟩ := lcGo_each P (xs := xs) (fun y hy => h y (List.mem_cons_of_mem _ hy)) t2
    refine ⟨(x, y) :: ps, by simpa using a1, fun q hq => ?_, t', ?_⟩
    · rcases List.mem_cons.mp hq with rfl | hq
      · exact hp
      · exact a2 q hq
    · rw [List.map_cons, lcGo_cons, e1, opt_some, bnd_ok]
      show R.bnd (.ok true t) _ = _
      rw [bnd_ok, if_pos rfl, e4, bnd_ok, asP_at e5, bnd_ok, a3]
      rfl
theorem lc_each {α β : Type} {enc : α → PyData} {encB : β → PyData} {e : IE} {it : It} {tg : Tg} {ρ : Ev} (P : α → β → Prop) (xs : List α) {t t0 : Town} (hi : evIt gl φ it ρ t = .ok (xs.map enc) t0) (hl : xs.length ≤ 100000)
    (h : ∀ x ∈ xs, ∀ t, ∃ ρ1, setTg tg (.d (enc x)) (wipeE ρ (slotsT tg)) = some ρ1 ∧ isOwn e ρ1 = false ∧ ∃ y t2, ev gl φ e ρ1 t = .ok (.d (encB y)) t2 ∧ isDict (encB y) = false ∧ P x y) :
    ∃ ps : List (α × β), ps.map (·.1) = xs ∧ (∀ q ∈ ps, P q.1 q.2) ∧ ∃ t', ev gl φ (.lc e tg it (.con (.bool true))) ρ t = .ok (.d (.list (ps.map fun q => encB q.2))) t' := by
  obtain ⟨ps, a1, a2, t', a3⟩ := lcGo_each (gl := gl) (φ := φ) (enc := enc) (encB := encB) P (f := fun ρ' => if isOwn e ρ' = true then M.fail else ev gl φ e ρ') (tg := tg) (ρ := wipeE ρ (slotsT tg)) (xs := xs) (fun x hx t => by
    obtain ⟨ρ1, e1, e4, y, t2, e5, e6⟩ := h x hx t
    refine ⟨ρ1, e1, y, t2, ?_, e6⟩
    show (if isOwn e ρ1 = true then M.fail else ev gl φ e ρ1 : M Val) t = _
    rw [e4, if_neg Bool.false_ne_true]
    exact e5) t0
  refine ⟨ps, a1, a2, t', ?_⟩
  rw [ev_lc, hi, bnd_ok, if_neg (by rw [List.length_map, PySem.sizeLine_eq]; omega), a3]
  rfl
/-! ### a start -/
theorem run_law_start (hd : tb 70 = some (.nat 3 drawV)) (ha : HasD tb 85 4 3 H_start) (hn : 2 ≤ n) {p : Plan} (hp : PlanOk p) (t : Town) : ∃ s t', StOk p.k s ∧ run gl tb fu n 85 [.scr, .town, .d (eP p)] t = .ok (.d (eS s)) t' := by
  rw [run_has ha rfl (by omega)]
  show ∃ s t', _ ∧ R.bnd (exs gl _ fu H_start [.val .scr, .val .town, .val (.d (eP p)), .emp] t) _ = _
  have rg := rangeN (m := p.k) (by have := hp.k3; omega)
  obtain ⟨ps, h1, h2, t', h3⟩ := lc_each (gl := gl) (φ := run gl tb fu (n - 1)) (enc := nI) (encB := nI) (tg := .nm 3) (it := .rng (.sub (.var 2) (.con (.int 0)))) (e := .call 70 [.var 0, .var 1, .con (.int 3)]) (ρ := [.val .scr, .val .town, .val (.d (eP p)), .emp]) (fun _ d => d < 3) (List.range p.k) (t := t) (t0 := t) (by simp [rg]) (by have := hp.k3; simp; omega) (fun x hx t => by
    obtain ⟨d, t2, hd2, e⟩ := run_draw (gl := gl) (fu := fu) hd (show 1 ≤ n - 1 by omega) (m := 3) (by omega) (by omega) t
    refine ⟨[.val .scr, .val .town, .val (.d (eP p)), .val (.d (nI x))], by simp [wipeE, slotsT], rfl, d, t2, ?_, rfl, hd2⟩
    push_cast at e
    simp [e])
  refine ⟨ps.map (·.2), t', ⟨?_, ?_⟩, ?_⟩
  · have := congrArg List.length h1
    simpa using this
  · intro v hv
    obtain ⟨q, hq, rfl⟩ := List.mem_map.mp hv
    exact h2 q hq
  · have e2 : ps.map (fun q => nI q.2) = (ps.map (·.2)).map nI := by rw [List.map_map]; rfl
    rw [e2] at h3
    simp only [H_start, exs_cons, ex_ret, evA_b1, ev_b1, bind_at, h3, bnd_ok, asD_at, b1_tuple_l, opt_some, seq_ret, endV_ret, eS]
/-! ### guards -/
theorem run_law_calls (ha : HasD tb 83 4 1 H_calls) (hn : 1 ≤ n) {p : Plan} (h4 : p.steps.length ≤ 4) : run gl tb fu n 83 [.d (eP p)] t = .ok (.d (eCs (calls p))) t := by
  rw [run_has ha rfl (by omega)]
  show R.bnd (exs gl _ fu H_calls [.val (.d (eP p)), .emp, .emp, .emp] t) _ = _
  have zl : p.steps.zipIdx.length ≤ 4 := by simpa using h4
  have it1 : evIt gl (run gl tb fu (n - 1)) (.enu (.sub (.var 0) (.con (.int 1)))) [.val (.d (eP p)), .emp, .emp, .emp] t = .ok (p.steps.zipIdx.map eI) t := by
    unfold evIt
    simp [seqD, enum_steps]
  have e1 := lc_eq (gl := gl) (φ := run gl tb fu (n - 1)) (t := t) (enc := eI) (tg := .tp [.nm 2, .nm 3]) (it := .enu (.sub (.var 0) (.con (.int 1)))) (d := .cmp .notN (.sub (.var 3) (.con (.int 1))) (.con .none)) (e := .tup [.con (.str S_back), .var 2]) (ρ := [.val (.d (eP p)), .emp, .emp, .emp]) p.steps.zipIdx (fun x => x.1.bck.isSome) (fun x => eC (.back x.2)) it1 (by omega) fun x h => by
    refine ⟨[.val (.d (eP p)), .emp, .val (.d (.int x.2)), .val (.d (eT x.1))], rfl, by simp, fun _ => ⟨rfl, ?_, rfl⟩⟩
    simp [eC]
  have q1 : (p.steps.zipIdx.filter fun x => x.1.bck.isSome).map (fun x => eC (.back x.2)) = (((List.range p.steps.length).filter (hasBack p)).map Call.back).map eC := by
    rw [← zip_filter (fun s : Step => s.bck.isSome) (hasBack p) p.steps (fun i s h => by unfold hasBack; rw [h]), List.map_map, List.map_map]
    rfl
  rw [q1] at e1
  have rg := rangeN (m := p.steps.length) (by omega)
  have e2 := lc_all (gl := gl) (φ := run gl tb fu (n - 1)) (t := t) (enc := nI) (tg := .nm 2) (it := .rng (.b1 .len (.sub (.var 0) (.con (.int 1))))) (e := .tup [.con (.str S_do), .var 2]) (ρ := [.val (.d (eP p)), .val (.d (.list ((((List.range p.steps.length).filter (hasBack p)).map Call.back).map eC))), .emp, .emp]) (List.range p.steps.length) (fun x => eC (.go x)) (by simp [rg]) (by simp; omega) fun x h => by
    refine ⟨[.val (.d (eP p)), .val (.d (.list ((((List.range p.steps.length).filter (hasBack p)).map Call.back).map eC))), .val (.d (nI x)), .emp], by simp [wipeE, slotsT], rfl, ?_, rfl⟩
    simp [eC]
  have q2 : (List.range p.steps.length).map (fun x => eC (.go x)) = ((List.range p.steps.length).map Call.go).map eC := by
    rw [List.map_map]
    rfl
  rw [q2] at e2
  have l1 : ((((List.range p.steps.length).filter (hasBack p)).map Call.back).map eC).length + (((List.range p.steps.length).map Call.go).map eC).length ≤ 100000 := by
    have := List.length_filter_le (hasBack p) (List.range p.steps.length)
    simp at this ⊢
    omega
  have e3 := add_ll l1
  have e4 : PyData.tuple ((((List.range p.steps.length).filter (hasBack p)).map Call.back).map eC ++ ((List.range p.steps.length).map Call.go).map eC) = eCs (calls p) := by
    unfold eCs calls
    rw [List.map_append]
  simp only [H_calls, exs_cons, ex_asg, evA_lc, e1, bnd_ok, setTg_nm]
  show R.bnd (R.seq (R.bnd (M.opt (some ([.val (.d (eP p)), .val (.d (.list ((((List.range p.steps.length).filter (hasBack p)).map Call.back).map eC))), .emp, .emp] : Ev)) t) _) _) _ = _
  simp only [opt_some, bnd_ok, seq_next, ex_ret, evA_b1, ev_b1, bind_at, ev_bin, ev_var, slot1, rdS_val, asD_at, e2, e3, b1_tuple_l, e4, seq_ret, endV_ret]
theorem run_law_guards (hd : tb 70 = some (.nat 3 drawV)) (hc : HasD tb 83 4 1 H_calls) (ha : HasD tb 84 4 3 H_guards) (hn : 2 ≤ n) {p : Plan} (hp : PlanOk p) (t : Town) : ∃ g t', MadeOk p g ∧ run gl tb fu n 84 [.scr, .town, .d (eP p)] t = .ok (.d (eCs g)) t' := by
  rw [run_has ha rfl (by omega)]
  show ∃ s t', _ ∧ R.bnd (exs gl _ fu H_guards [.val .scr, .val .town, .val (.d (eP p)), .emp] t) _ = _
  have e0 := run_law_calls (gl := gl) (fu := fu) (t := t) hc (show 1 ≤ n - 1 by omega) hp.n4
  have c8 := calls_len p hp.n4
  obtain ⟨ps, h1, h2, t', h3⟩ := lc_rule (gl := gl) (φ := run gl tb fu (n - 1)) (enc := eC) (encB := eC) (tg := .nm 3) (it := .seq (.call 83 [.var 2])) (d := .cmp .eq (.call 70 [.var 0, .var 1, .con (.int 2)]) (.con (.int 0))) (e := .var 3) (ρ := [.val .scr, .val .town, .val (.d (eP p)), .emp]) (fun x y => x = y) (calls p) (t := t) (t0 := t) (by simp [e0, eCs]) (by omega) (fun x hx t => by
    obtain ⟨d, t2, hd2, e⟩ := run_draw (gl := gl) (fu := fu) hd (show 1 ≤ n - 1 by omega) (m := 2) (by omega) (by omega) t
    push_cast at e
    refine ⟨[.val .scr, .val .town, .val (.d (eP p)), .val (.d (eC x))], by simp [wipeE, slotsT], ((d : Int) == 0), t2, by simp [e], fun _ => ⟨rfl, x, t2, by simp, by cases x <;> rfl, rfl⟩⟩)
  refine ⟨ps.map (·.1), t', sub_made.mp h1, ?_⟩
  have e2 : ps.map (fun q => eC q.2) = (ps.map (·.1)).map eC := by
    rw [List.map_map]
    refine List.map_congr_left fun q hq => ?_
    show eC q.2 = eC q.1
    rw [h2 q hq]
  rw [e2] at h3
  simp only [H_guards, exs_cons, ex_ret, evA_b1, ev_b1, bind_at, h3, bnd_ok, asD_at, b1_tuple_l, opt_some, seq_ret, endV_ret, eCs]
@[simp] theorem s_set_add : (S_set == S_add) = false := rfl
/-! ### a plan -/
def toAdd : Op → Op
  | .set i v => .add i (1 + v % 2)
  | .add i v => .add i (1 + v % 2)
  | .cpy i v => .add i (1 + v % 2)
def bckO : Op → Op
  | .add i v => .add i (3 - v)
  | o => o
theorem toAdd_ok {k : Nat} {o : Op} (h : OpOk k o) : OpOk k (toAdd o) := by
  cases o with
  | set i v => exact ⟨h.1, by omega, by omega⟩
  | add i v => exact ⟨h.1, by omega, by omega⟩
  | cpy i v => exact ⟨h.1, by omega, by omega⟩
theorem bckO_ok {k : Nat} {o : Op} (h : OpOk k o) : OpOk k (bckO o) := by
  cases o with
  | set i v => exact h
  | add i v => exact ⟨h.1, by have := h.2; omega, by have := h.2; omega⟩
  | cpy i v => exact h
theorem slc_to2 (xs : List PyData) : slcD (.tuple xs) none (some 2) = some (.tuple (xs.take 2)) := by
  match xs with
  | [] => rfl
  | [_] => rfl
  | [_, _] => rfl
  | x :: y :: z :: r =>
    show some (PyData.tuple (((x :: y :: z :: r).drop (HT.sIx (x :: y :: z :: r).length 0 none)).take (HT.sIx (x :: y :: z :: r).length (x :: y :: z :: r).length (some 2) - HT.sIx (x :: y :: z :: r).length 0 none))) = _
    have h1 : HT.sIx (x :: y :: z :: r).length (x :: y :: z :: r).length (some 2) = 2 := by simp [HT.sIx]
    have h2 : HT.sIx (x :: y :: z :: r).length 0 none = 0 := rfl
    rw [h1, h2]
    rfl
def oN : Op → Str
  | .set _ _ => S_set
  | .add _ _ => S_add
  | .cpy _ _ => S_copy
def oI : Op → Nat
  | .set i _ => i
  | .add i _ => i
  | .cpy i _ => i
def oV : Op → Nat
  | .set _ v => v
  | .add _ v => v
  | .cpy _ v => v
theorem eO_eq (o : Op) : eO o = .tuple [.str (oN o), nI (oI o), nI (oV o)] := by cases o <;> rfl
@[simp] theorem subO0 (o : Op) : subAt (eO o) (.int 0) = some (.str (oN o)) := by cases o <;> rfl
@[simp] theorem subO1 (o : Op) : subAt (eO o) (.int 1) = some (nI (oI o)) := by cases o <;> rfl
@[simp] theorem subO2 (o : Op) : subAt (eO o) (.int 2) = some (nI (oV o)) := by cases o <;> rfl
theorem rev_t (xs : List PyData) : revD (.tuple xs) = some (.tuple xs.reverse) := rfl
theorem run_plan_turn (hd : tb 70 = some (.nat 3 drawV)) (ha : HasD tb 75 8 3 H_action) (hn : 3 ≤ n) {k : Nat} (h1 : 1 ≤ k) (h3 : k ≤ 3) {ss : List Step} (hl : ss.length ≤ 100) (x a b c : Slot) (t : Town) :
    ∃ s t' a' b' c', StepOk k s ∧ exs gl (run gl tb fu (n - 1)) fu H_plan_f1 [.val .scr, .val .town, .val (.d (nI k)), .own (.list (ss.map eT)), x, a, b, c] t = .ok (.next [.val .scr, .val .town, .val (.d (nI k)), .own (.list ((ss ++ [s]).map eT)), x, a', b', c']) t' := by
  obtain ⟨a1, t1, ok1, e1⟩ := run_law_action (gl := gl) (fu := fu) hd ha (show 2 ≤ n - 1 by omega) h1 h3 t
  obtain ⟨d2, t2, hd2, e2⟩ := run_draw (gl := gl) (fu := fu) hd (show 1 ≤ n - 1 by omega) (m := 3) (by omega) (by omega) t1
  -- the action
  have act : ∃ a2, ActOk k a2 ∧ R.seq (ex gl (run gl tb fu (n - 1)) fu (.asg (.nm 5) (.call 75 [.var 0, .var 1, .var 2])) [.val .scr, .val .town, .val (.d (nI k)), .own (.list (ss.map eT)), x, a, b, c] t) (fun ρ t => ex gl (run gl tb fu (n - 1)) fu (.ite (.cmp .gt (.call 70 [.var 0, .var 1, .con (.int 3)]) (.con (.int 0))) [.asg (.nm 5) (.slc (.b1 .tuple (.lc (.tup [.con (.str S_add), .sub (.var 6) (.con (.int 1)), .bin .add (.con (.int 1)) (.bin .mod (.sub (.var 6) (.con (.int 2))) (.con (.int 2)))]) (.nm 6) (.seq (.var 5)) (.con (.bool true)))) (.con .none) (.con (.int 2)))] []) ρ t) = .ok (.next [.val .scr, .val .town, .val (.d (nI k)), .own (.list (ss.map eT)), x, .val (.d (eA a2)), b, c]) t2 := by
    push_cast at e2
    simp only [nI_def] at e1
    by_cases c1 : 0 < d2
    · refine ⟨(a1.map toAdd).take 2, ⟨by rw [List.length_take]; omega, fun o ho => ?_⟩, ?_⟩
      · obtain ⟨o', ho', rfl⟩ := List.mem_map.mp (List.mem_of_mem_take ho)
        exact toAdd_ok (ok1.2 o' ho')
      · have l := lc_all (gl := gl) (φ := run gl tb fu (n - 1)) (t := t2) (enc := eO) (tg := .nm 6) (it := .seq (.var 5)) (e := .tup [.con (.str S_add), .sub (.var 6) (.con (.int 1)), .bin .add (.con (.int 1)) (.bin .mod (.sub (.var 6) (.con (.int 2))) (.con (.int 2)))]) (ρ := [.val .scr, .val .town, .val (.d (.int k)), .own (.list (ss.map eT)), x, .val (.d (eA a1)), b, c]) a1 (fun o => eO (toAdd o)) (by simp [eA]) (by have := ok1.1; omega) fun o ho => by
          refine ⟨[.val .scr, .val .town, .val (.d (.int k)), .own (.list (ss.map eT)), x, .val (.d (eA a1)), .val (.d (eO o)), c], by simp [wipeE, slotsT], rfl, ?_, by cases o <;> rfl⟩
          have mo := mod_nat (a := oV o) (k := 2) (by omega)
          push_cast at mo
          cases o <;> (simp only [oV] at mo; simp [oI, oV, toAdd, eO, mo, sub3_0, sub3_1, sub3_2])
        have c1' : (0 : Int) < (d2 : Int) := by omega
        have l2 := slc_to2 (a1.map fun o => eO (toAdd o))
        have l3 : PyData.tuple ((a1.map fun o => eO (toAdd o)).take 2) = eA ((a1.map toAdd).take 2) := by
          unfold eA
          rw [← List.map_take, ← List.map_take, List.map_map]
          rfl
        rw [l3] at l2
        have c0 : ¬ d2 = 0 := by omega
        simp [e1, e2, c1, c0, l, l2, noneI]
    · refine ⟨a1, ok1, ?_⟩
      have c1' : d2 = 0 := by omega
      subst c1'
      simp [e1, e2]
  obtain ⟨a2, ok2, act⟩ := act
  -- its way back
  have bck : ex gl (run gl tb fu (n - 1)) fu (.asg (.nm 7) (.rev (.b1 .tuple (.lc (.tup [.sub (.var 6) (.con (.int 0)), .sub (.var 6) (.con (.int 1)), .ite (.cmp .eq (.sub (.var 6) (.con (.int 0))) (.con (.str S_add))) (.bin .sub (.con (.int 3)) (.sub (.var 6) (.con (.int 2)))) (.sub (.var 6) (.con (.int 2)))]) (.nm 6) (.seq (.var 5)) (.con (.bool true)))))) [.val .scr, .val .town, .val (.d (nI k)), .own (.list (ss.map eT)), x, .val (.d (eA a2)), b, c] t2 = .ok (.next [.val .scr, .val .town, .val (.d (nI k)), .own (.list (ss.map eT)), x, .val (.d (eA a2)), b, .val (.d (eA (a2.map bckO).reverse))]) t2 := by
    have l := lc_all (gl := gl) (φ := run gl tb fu (n - 1)) (t := t2) (enc := eO) (tg := .nm 6) (it := .seq (.var 5)) (e := .tup [.sub (.var 6) (.con (.int 0)), .sub (.var 6) (.con (.int 1)), .ite (.cmp .eq (.sub (.var 6) (.con (.int 0))) (.con (.str S_add))) (.bin .sub (.con (.int 3)) (.sub (.var 6) (.con (.int 2)))) (.sub (.var 6) (.con (.int 2)))]) (ρ := [.val .scr, .val .town, .val (.d (nI k)), .own (.list (ss.map eT)), x, .val (.d (eA a2)), b, c]) a2 (fun o => eO (bckO o)) (by simp [eA]) (by have := ok2.1; omega) fun o ho => by
      refine ⟨[.val .scr, .val .town, .val (.d (nI k)), .own (.list (ss.map eT)), x, .val (.d (eA a2)), .val (.d (eO o)), c], by simp [wipeE, slotsT], rfl, ?_, by cases o <;> rfl⟩
      have oo := ok2.2 o ho
      cases o with
      | add i v =>
        have hv := oo.2
        have ev' : (3 : Int) - (v : Int) = ((3 - v : Nat) : Int) := by omega
        simp [oN, oI, oV, bckO, eO, ev', sub3_0, sub3_1, sub3_2]
      | _ => simp [oN, oI, oV, bckO, eO, sub3_0, sub3_1, sub3_2]
    have l2 := rev_t (a2.map fun o => eO (bckO o))
    have l3 : PyData.tuple (a2.map fun o => eO (bckO o)).reverse = eA (a2.map bckO).reverse := by
      unfold eA
      rw [← List.map_reverse, ← List.map_reverse, List.map_map]
      rfl
    rw [l3] at l2
    simp only [ex_asg, evA_rev, ev_rev, ev_b1, bind_at, l, bnd_ok, asD_at, b1_tuple_l, opt_some, l2]
    rfl
  have okb : ActOk k (a2.map bckO).reverse := ⟨by simp; exact ok2.1, fun o ho => by
    obtain ⟨o', ho', rfl⟩ := List.mem_map.mp (List.mem_reverse.mp ho)
    exact bckO_ok (ok2.2 o' ho')⟩
  obtain ⟨d3, t3, hd3, e3⟩ := run_draw (gl := gl) (fu := fu) hd (show 1 ≤ n - 1 by omega) (m := 8) (by omega) (by omega) t2
  have bk2 : ∃ ob t4, (∀ z, ob = some z → ActOk k z) ∧ ex gl (run gl tb fu (n - 1)) fu (.ite (.cmp .eq (.call 70 [.var 0, .var 1, .con (.int 8)]) (.con (.int 0))) [.asg (.nm 7) (.ite (.cmp .eq (.call 70 [.var 0, .var 1, .con (.int 2)]) (.con (.int 0))) (.con .none) (.call 75 [.var 0, .var 1, .var 2]))] []) [.val .scr, .val .town, .val (.d (nI k)), .own (.list (ss.map eT)), x, .val (.d (eA a2)), b, .val (.d (eA (a2.map bckO).reverse))] t2 = .ok (.next [.val .scr, .val .town, .val (.d (nI k)), .own (.list (ss.map eT)), x, .val (.d (eA a2)), b, .val (.d (eB ob))]) t4 := by
    push_cast at e3
    by_cases c3 : d3 = 0
    · subst c3
      obtain ⟨d4, t4, hd4, e4⟩ := run_draw (gl := gl) (fu := fu) hd (show 1 ≤ n - 1 by omega) (m := 2) (by omega) (by omega) t3
      push_cast at e4
      by_cases c4 : d4 = 0
      · subst c4
        exact ⟨none, t4, fun z h => (nomatch h), by simp [e3, e4, eB]⟩
      · obtain ⟨a5, t5, ok5, e5⟩ := run_law_action (gl := gl) (fu := fu) hd ha (show 2 ≤ n - 1 by omega) h1 h3 t4
        have c4' : ¬ (d4 : Int) = 0 := by omega
        simp only [nI_def] at e5
        exact ⟨some a5, t5, fun z h => by cases h; exact ok5, by simp [e3, e4, e5, c4, eB]⟩
    · have c3' : ¬ (d3 : Int) = 0 := by omega
      exact ⟨some (a2.map bckO).reverse, t3, fun z h => by cases h; exact okb, by simp [e3, c3, eB]⟩
  obtain ⟨ob, t4, okob, bk2⟩ := bk2
  obtain ⟨d6, t6, hd6, e6⟩ := run_draw (gl := gl) (fu := fu) hd (show 1 ≤ n - 1 by omega) (m := 3) (by omega) (by omega) t4
  refine ⟨⟨a2, ob, (d6 : Int) == 0⟩, t6, .val (.d (eA a2)), b, .val (.d (eB ob)), ⟨ok2, okob⟩, ?_⟩
  have fin : ex gl (run gl tb fu (n - 1)) fu (.app 3 (.tup [.var 5, .var 7, .cmp .eq (.call 70 [.var 0, .var 1, .con (.int 3)]) (.con (.int 0))])) [.val .scr, .val .town, .val (.d (nI k)), .own (.list (ss.map eT)), x, .val (.d (eA a2)), b, .val (.d (eB ob))] t4 = .ok (.next [.val .scr, .val .town, .val (.d (nI k)), .own (.list ((ss ++ [(⟨a2, ob, (d6 : Int) == 0⟩ : Step)]).map eT)), x, .val (.d (eA a2)), b, .val (.d (eB ob))]) t6 := by
    push_cast at e6
    have hz : (ss.map eT).length < sizeLine := by rw [List.length_map, sizeLine_eq]; omega
    rw [app_own _ _ _ _ _ 3 _ (ss.map eT) rfl]
    simp [e6, eT]
    rw [sizeLine_eq]
    omega
  unfold H_plan_f1
  rw [exs_cons]
  have sq : ∀ {r : R Fl} {f g : Ev → Town → R Fl}, R.seq r (fun ρ t => R.seq (f ρ t) g) = R.seq (R.seq r f) g := fun {r f g} => by
    cases r with
    | ok fl t => cases fl <;> rfl
    | exc c t => rfl
    | bad => rfl
  simp only [exs_cons, sq]
  rw [act, seq_next, bck, seq_next, bk2, seq_next, fin, seq_next, exs_nil]
theorem run_law_plan (hd : tb 70 = some (.nat 3 drawV)) (ha : HasD tb 75 8 3 H_action) (hp : HasD tb 82 8 2 H_plan) (hn : 3 ≤ n) (t : Town) : ∃ p t', PlanOk p ∧ p.steps.length ≤ 3 ∧ run gl tb fu n 82 [.scr, .town] t = .ok (.d (eP p)) t' := by
  rw [run_has hp rfl (by omega)]
  show ∃ p t', _ ∧ _ ∧ R.bnd (exs gl _ fu H_plan [.val .scr, .val .town, .emp, .emp, .emp, .emp, .emp, .emp] t) _ = _
  obtain ⟨d1, t1, h1, e1⟩ := run_draw (gl := gl) (fu := fu) hd (show 1 ≤ n - 1 by omega) (m := 2) (by omega) (by omega) t
  obtain ⟨d2, t2, h2, e2⟩ := run_draw (gl := gl) (fu := fu) hd (show 1 ≤ n - 1 by omega) (m := 2) (by omega) (by omega) t1
  obtain ⟨d3, t3, h3, e3⟩ := run_draw (gl := gl) (fu := fu) hd (show 1 ≤ n - 1 by omega) (m := 3) (by omega) (by omega) t2
  obtain ⟨fl, t4, e4, ss, a, b, c, d, q1, q2, rfl⟩ := for_rule (tg := .nm 4) (f := fun ρ' => exs gl (run gl tb fu (n - 1)) fu H_plan_f1 ρ') (fun xs ρ _ => ∃ (ss : List Step) (a b c d : Slot), ss.length + xs.length = 1 + d3 ∧ (∀ s ∈ ss, StepOk (1 + d1 + d2) s) ∧ ρ = [.val .scr, .val .town, .val (.d (nI (1 + d1 + d2))), .own (.list (ss.map eT)), a, b, c, d])
    (fun fl _ => ∃ (ss : List Step) (a b c d : Slot), ss.length = 1 + d3 ∧ (∀ s ∈ ss, StepOk (1 + d1 + d2) s) ∧ fl = .next [.val .scr, .val .town, .val (.d (nI (1 + d1 + d2))), .own (.list (ss.map eT)), a, b, c, d])
    (fun ρ t h => by
      obtain ⟨ss, a, b, c, d, h1, h2, rfl⟩ := h
      exact ⟨ss, a, b, c, d, by simpa using h1, h2, rfl⟩)
    (fun x xs ρ t h => by
      obtain ⟨ss, a, b, c, d, hl, ho, rfl⟩ := h
      rw [List.length_cons] at hl
      obtain ⟨s, t', a', b', c', ok, e⟩ := run_plan_turn (gl := gl) (fu := fu) hd ha hn (k := 1 + d1 + d2) (by omega) (by omega) (ss := ss) (by omega) (.val (.d x)) b c d t
      exact ⟨[.val .scr, .val .town, .val (.d (nI (1 + d1 + d2))), .own (.list (ss.map eT)), .val (.d x), b, c, d], by simp, .inl ⟨_, t', e, ss ++ [s], _, _, _, _, by simp; omega, fun u hu => by
        rcases List.mem_append.mp hu with hu | hu
        · exact ho u hu
        · rw [List.mem_singleton.mp hu]; exact ok, rfl⟩⟩)
    ((List.range (1 + d3)).map nI) [.val .scr, .val .town, .val (.d (nI (1 + d1 + d2))), .own (.list []), .emp, .emp, .emp, .emp] t3 ⟨[], _, _, _, _, by simp, by simp, rfl⟩
  obtain ⟨d5, t5, h5, e5⟩ := run_draw (gl := gl) (fu := fu) hd (show 1 ≤ n - 1 by omega) (m := 2) (by omega) (by omega) t4
  refine ⟨⟨1 + d1 + d2, ss, decide (d5 = 0)⟩, t5, ⟨?_, ?_, ?_, ?_, q2⟩, ?_, ?_⟩
  · show 1 ≤ 1 + d1 + d2; omega
  · show 1 + d1 + d2 ≤ 3; omega
  · show 1 ≤ ss.length; omega
  · show ss.length ≤ 4; omega
  · show ss.length ≤ 3; omega
  have rg := rangeN (m := 1 + d3) (by omega)
  have ru : subAt (.tuple [.str S_again, .str S_back]) (.int (d5 : Nat)) = some (.str (eRule (decide (d5 = 0)))) := by
    match d5, h5 with
    | 0, _ => rfl
    | 1, _ => rfl
  push_cast at e1 e2 e3 e5 rg
  simp only [nI_def] at e4
  push_cast at e4
  simp [H_plan, e1, e2, setPar, fresh, e3, ex_for, rg, e4, e5, ru, eP]
end
end Bk
namespace Bk
open PySem
/-! ### steps -/
def preT (p : Plan) (i : Nat) (s : List Nat) : List Nat := (p.steps.take i).foldl (fun s x => ap x.act s) s
theorem pre_zero (p : Plan) (s : List Nat) : preT p 0 s = s := rfl
theorem pre_succ {p : Plan} {i : Nat} {x : Step} (h : p.steps[i]? = some x) (s : List Nat) : preT p (i + 1) s = ap x.act (preT p i s) := by
  unfold preT
  rw [List.take_succ, h]
  simp
theorem pre_all (p : Plan) (s : List Nat) : preT p p.steps.length s = goalT p s := by
  unfold preT goalT
  rw [List.take_length]
theorem act_go {p : Plan} {i : Nat} {x : Step} (h : p.steps[i]? = some x) : actOf p (.go i) = x.act := by
  have h : p.steps[(Call.go i).pos]? = some x := h
  unfold actOf
  rw [h]
  rfl
theorem act_back {p : Plan} {i : Nat} {x : Step} {b : List Op} (h : p.steps[i]? = some x) (hb : x.bck = some b) : actOf p (.back i) = b := by
  have h : p.steps[(Call.back i).pos]? = some x := h
  unfold actOf
  rw [h]
  simp [isGo, hb]
theorem hasBack_iff {p : Plan} {i : Nat} {x : Step} (h : p.steps[i]? = some x) : hasBack p i = x.bck.isSome := by
  unfold hasBack
  rw [h]
theorem mayRef_iff {p : Plan} {i : Nat} {x : Step} (h : p.steps[i]? = some x) : mayRef p i = x.ref := by
  unfold mayRef
  rw [h]
theorem step_len {p : Plan} {i : Nat} {x : Step} (h : p.steps[i]? = some x) : i < p.steps.length := (List.getElem?_eq_some_iff.mp h).1
theorem step_at {p : Plan} {i : Nat} (h : i < p.steps.length) : ∃ x, p.steps[i]? = some x := ⟨p.steps[i], by simp [h]⟩
theorem go_mem {p : Plan} {i : Nat} (h : i < p.steps.length) : Call.go i ∈ calls p := mem_calls.mpr ⟨h, fun j e => by cases e⟩
theorem back_mem {p : Plan} {i : Nat} (h : i < p.steps.length) (hb : hasBack p i = true) : Call.back i ∈ calls p := mem_calls.mpr ⟨h, fun j e => by cases e; exact hb⟩
/-- the outcomes of a call -/
theorem mem_outs {p : Plan} {g : List Call} {c : Call} {m : List Call} {o : Out} : o ∈ outs p g c m ↔ o ≠ .refused ∨ (isGo c = true ∧ mayRef p c.pos = true ∧ ¬ (c ∈ g ∧ c ∈ m)) := by
  unfold outs
  split
  · rename_i h
    simp only [Bool.or_eq_true, Bool.not_eq_true', Bool.and_eq_true, decide_eq_true_eq] at h
    constructor
    · intro q
      left
      intro e
      subst e
      simp at q
    · rintro (q | ⟨q1, q2, q3⟩)
      · cases o <;> simp at q ⊢
      · rcases h with h | h | h
        · rw [q1] at h; cases h
        · rw [q2] at h; cases h
        · exact absurd h q3
  · rename_i h
    simp only [Bool.or_eq_true, Bool.not_eq_true', Bool.and_eq_true, decide_eq_true_eq, not_or] at h
    constructor
    · intro _
      cases o with
      | refused => exact .inr ⟨by simpa using h.1, by simpa using h.2.1, h.2.2⟩
      | _ => left; simp
    · intro _
      cases o <;> simp
theorem ok_mem (p : Plan) (g : List Call) (c : Call) (m : List Call) : Out.ok ∈ outs p g c m := mem_outs.mpr (.inl (by simp))
theorem lost_mem (p : Plan) (g : List Call) (c : Call) (m : List Call) : Out.lost ∈ outs p g c m := mem_outs.mpr (.inl (by simp))
theorem missed_mem (p : Plan) (g : List Call) (c : Call) (m : List Call) : Out.missed ∈ outs p g c m := mem_outs.mpr (.inl (by simp))
/-- where a next is, with what was made and the state -/
def nxT (x : Nx) (m : List Call) (s : List Nat) : Node ⊕ End := match x with
  | .fin k => .inr (k, s)
  | .call c => .inl ⟨c, m, s⟩
theorem step_eq (p : Plan) (g : List Call) (n : Node) (o : Out) : stepN p g n o = nxT (nextN p n.here o) (moveT p g n.here n.made n.st o).1 (moveT p g n.here n.made n.st o).2 := by
  unfold stepN nxT
  cases nextN p n.here o <;> rfl
theorem move_eff {p : Plan} {g : List Call} {c : Call} {m : List Call} {s : List Nat} {o : Out} (ho : o = .ok ∨ o = .lost) (h : effB g c m = true) : moveT p g c m s o = (addC p m c, ap (actOf p c) s) := by
  unfold moveT callT
  rw [if_pos ho, if_pos h]
theorem move_go {p : Plan} {g : List Call} {i : Nat} {m : List Call} {s : List Nat} {o : Out} (ho : o = .ok ∨ o = .lost) (h : effB g (.go i) m = false) : moveT p g (.go i) m s o = (addC p m (.go i), s) := by
  unfold moveT callT
  rw [if_pos ho, h]
  rfl
theorem move_back {p : Plan} {g : List Call} {i : Nat} {m : List Call} {s : List Nat} {o : Out} (ho : o = .ok ∨ o = .lost) (h : effB g (.back i) m = false) : moveT p g (.back i) m s o = (m, s) := by
  unfold moveT callT
  rw [if_pos ho, h]
  rfl
theorem move_not {p : Plan} {g : List Call} {c : Call} {m : List Call} {s : List Nat} {o : Out} (h1 : o ≠ .ok) (h2 : o ≠ .lost) : moveT p g c m s o = (m, s) := by
  unfold moveT
  rw [if_neg (by rintro (h | h) <;> contradiction)]
theorem eff_go {g : List Call} {i : Nat} {m : List Call} : effB g (.go i) m = (!decide (Call.go i ∈ g) || !decide (Call.go i ∈ m)) := by
  unfold effB
  simp [isGo]
theorem eff_back {g : List Call} {i : Nat} {m : List Call} : effB g (.back i) m = (!decide (Call.back i ∈ g) || (!decide (Call.back i ∈ m) && decide (Call.go i ∈ m))) := by
  unfold effB
  simp only [isGo, Call.pos, Bool.false_or]
  congr
/-! ### the run of all that is answered -/
/-- the calls made before step i -/
def upto (p : Plan) (i : Nat) : List Call := (calls p).filter fun c => match c with
  | .go j => decide (j < i)
  | .back _ => false
theorem upto_made (p : Plan) (i : Nat) : MadeOk p (upto p i) := filter_made p _
theorem mem_upto {p : Plan} {i : Nat} (hi : i ≤ p.steps.length) {c : Call} : c ∈ upto p i ↔ ∃ j, c = .go j ∧ j < i := by
  unfold upto
  rw [List.mem_filter]
  cases c with
  | go j =>
    constructor
    · rintro ⟨_, h⟩
      exact ⟨j, rfl, of_decide_eq_true h⟩
    · rintro ⟨j', e, h⟩
      cases e
      exact ⟨go_mem (by omega), decide_eq_true h⟩
  | back j =>
    constructor
    · rintro ⟨_, h⟩
      cases h
    · rintro ⟨j', e, h⟩
      cases e
theorem upto_zero (p : Plan) : upto p 0 = [] := by
  unfold upto
  rw [List.filter_eq_nil_iff]
  intro c _
  cases c <;> simp
theorem addC_upto {p : Plan} {i : Nat} (hi : i < p.steps.length) : addC p (upto p i) (.go i) = upto p (i + 1) := by
  refine made_ext (add_made _ _ _) (upto_made _ _) fun c => ?_
  rw [mem_addC (upto_made _ _) (go_mem hi), mem_upto (by omega), mem_upto (by omega)]
  constructor
  · rintro (⟨j, rfl, h⟩ | rfl)
    · exact ⟨j, rfl, by omega⟩
    · exact ⟨i, rfl, by omega⟩
  · rintro ⟨j, rfl, h⟩
    by_cases e : j = i
    · exact .inr (by rw [e])
    · exact .inl ⟨j, rfl, by omega⟩
theorem go_upto {p : Plan} {i : Nat} (hi : i < p.steps.length) : Call.go i ∉ upto p i := fun h => by
  obtain ⟨j, e, h⟩ := (mem_upto (by omega)).mp h
  cases e
  omega
/-- ahead of step i, all that is before it answered -/
def fwdN (p : Plan) (i : Nat) (s : List Nat) : Node := ⟨.go i, upto p i, preT p i s⟩
theorem fwd_zero (p : Plan) (s : List Nat) : fwdN p 0 s = beginN s := by
  unfold fwdN beginN
  rw [upto_zero, pre_zero]
theorem step_ok {p : Plan} {g : List Call} {i : Nat} {s : List Nat} (hi : i < p.steps.length) : stepN p g (fwdN p i s) .ok = if i + 1 < p.steps.length then .inl (fwdN p (i + 1) s) else .inr (.done, goalT p s) := by
  obtain ⟨x, hx⟩ := step_at hi
  rw [step_eq]
  have ef : effB g (.go i) (upto p i) = true := by
    rw [eff_go]
    simp [go_upto hi]
  show nxT (nextN p (.go i) .ok) (moveT p g (.go i) (upto p i) (preT p i s) .ok).1 (moveT p g (.go i) (upto p i) (preT p i s) .ok).2 = _
  rw [move_eff (.inl rfl) ef, addC_upto hi, act_go hx, ← pre_succ hx]
  show nxT (if i + 1 < p.steps.length then .call (.go (i + 1)) else .fin .done) _ _ = _
  by_cases h : i + 1 < p.steps.length
  · rw [if_pos h, if_pos h]
    rfl
  · rw [if_neg h, if_neg h]
    have : i + 1 = p.steps.length := by omega
    show Sum.inr (EndK.done, preT p (i + 1) s) = _
    rw [this, pre_all]
theorem lead_fwd {p : Plan} {g : List Call} {s : List Nat} {i : Nat} {r : Run} {e : End} : ∀ (j : Nat), j ≤ i → i < p.steps.length → Lead p g (fwdN p i s) r e → ∃ r', Lead p g (fwdN p (i - j) s) r' e
  | 0, _, _, h => ⟨r, h⟩
  | j + 1, hj, hi, h => by
    obtain ⟨r', h'⟩ := lead_fwd j (by omega) hi h
    have e1 : i - (j + 1) + 1 = i - j := by omega
    refine ⟨_, .step (ok_mem ..) ?_ h'⟩
    rw [step_ok (by omega), if_pos (by omega), e1]
theorem occ_fwd {p : Plan} {g : List Call} {s : List Nat} {i : Nat} {r : Run} {e : End} (hi : i < p.steps.length) (h : Lead p g (fwdN p i s) r e) : Occ p g s e := by
  obtain ⟨r', h'⟩ := lead_fwd i (Nat.le_refl _) hi h
  rw [Nat.sub_self, fwd_zero] at h'
  exact occ_lead.mpr ⟨r', h'⟩
/-- done with the goal occurs -/
theorem occ_done {p : Plan} (hp : PlanOk p) (g : List Call) (s : List Nat) : Occ p g s (.done, goalT p s) := by
  have h1 := hp.n1
  refine occ_fwd (i := p.steps.length - 1) (by omega) (.fin (ok_mem ..) ?_)
  rw [step_ok (by omega), if_neg (by omega)]
/-! ### with all guards -/
def bckOf (p : Plan) (i : Nat) : Option (List Op) := match p.steps[i]? with
  | some x => x.bck
  | none => none
/-- the steps below j are taken back, each once -/
def backT (p : Plan) : Nat → List Nat → End
  | 0, u => (.undone, u)
  | j + 1, u => match bckOf p j with
    | none => (.stuck, u)
    | some b => backT p j (ap b u)
theorem bckOf_has {p : Plan} {i : Nat} : hasBack p i = (bckOf p i).isSome := by
  unfold hasBack bckOf
  cases p.steps[i]? <;> rfl
theorem bckOf_act {p : Plan} {i : Nat} {b : List Op} (h : bckOf p i = some b) : actOf p (.back i) = b ∧ i < p.steps.length := by
  unfold bckOf at h
  cases hx : p.steps[i]? with
  | none => rw [hx] at h; cases h
  | some x =>
    rw [hx] at h
    exact ⟨act_back hx h, step_len hx⟩
theorem back_none {p : Plan} {j : Nat} {u : List Nat} (h : bckOf p j = none) : backT p (j + 1) u = (.stuck, u) := by
  unfold backT
  rw [h]
theorem back_some {p : Plan} {j : Nat} {u : List Nat} {b : List Op} (h : bckOf p j = some b) : backT p (j + 1) u = backT p j (ap b u) := by
  show (match bckOf p j with
    | none => (EndK.stuck, u)
    | some b => backT p j (ap b u)) = _
  rw [h]
/-- the ends at step i -/
def endsAt (p : Plan) (s : List Nat) (i : Nat) : List End :=
  (if mayRef p i = true then [backT p i (preT p i s)] else []) ++
  (if p.again = true then [] else [backT p (i + 1) (preT p (i + 1) s), if hasBack p i = true then backT p i (preT p i s) else (.stuck, preT p i s)])
def listT (p : Plan) (s : List Nat) : List End := (List.range p.steps.length).flatMap (endsAt p s) ++ [(.done, goalT p s)]
/-- what is to come of a call back -/
def valB (p : Plan) (j : Nat) (m : List Call) (u : List Nat) : End := if Call.go j ∈ m ∧ Call.back j ∉ m then backT p (j + 1) u else backT p j u
def clearB (j : Nat) (m : List Call) : Prop := ∀ l, l < j → Call.go l ∈ m ∧ Call.back l ∉ m
theorem take_val {p : Plan} {m : List Call} {u : List Nat} : ∀ {i : Nat}, clearB i m → match takeB p i with
    | .fin k => (k, u) = backT p i u
    | .call c => ∃ j, c = .back j ∧ j < i ∧ hasBack p j = true ∧ clearB j m ∧ valB p j m u = backT p i u
  | 0, _ => rfl
  | i + 1, h => by
    show match (if hasBack p i = true then Nx.call (.back i) else .fin .stuck) with
      | .fin k => (k, u) = backT p (i + 1) u
      | .call c => ∃ j, c = .back j ∧ j < i + 1 ∧ hasBack p j = true ∧ clearB j m ∧ valB p j m u = backT p (i + 1) u
    by_cases hb : hasBack p i = true
    · rw [if_pos hb]
      refine ⟨i, rfl, by omega, hb, fun l hl => h l (by omega), ?_⟩
      unfold valB
      rw [if_pos (h i (by omega))]
    · rw [if_neg hb]
      have hb : (bckOf p i).isSome = false := by rw [← bckOf_has]; simpa using hb
      rw [back_none (by cases q : bckOf p i with
        | none => rfl
        | some b => rw [q] at hb; cases hb)]
/-- the places that are reached with all guards -/
def InvA (p : Plan) (s : List Nat) (n : Node) : Prop := match n.here with
  | .go i => i < p.steps.length ∧ ∃ b : Bool, (b = true → p.again = true) ∧ n.made = upto p (if b = true then i + 1 else i) ∧ n.st = preT p (if b = true then i + 1 else i) s
  | .back j => j < p.steps.length ∧ hasBack p j = true ∧ MadeOk p n.made ∧ clearB j n.made ∧ valB p j n.made n.st ∈ listT p s
theorem mem_listT {p : Plan} {s : List Nat} {i : Nat} (hi : i < p.steps.length) {e : End} (h : e ∈ endsAt p s i) : e ∈ listT p s := List.mem_append_left _ (List.mem_flatMap.mpr ⟨i, List.mem_range.mpr hi, h⟩)
theorem clear_upto {p : Plan} {i : Nat} (hi : i ≤ p.steps.length) : clearB i (upto p i) := fun l hl => ⟨(mem_upto hi).mpr ⟨l, rfl, hl⟩, fun h => by
  obtain ⟨j, e, _⟩ := (mem_upto hi).mp h
  cases e⟩
theorem clear_mono {i j : Nat} {m : List Call} (h : clearB j m) (hi : i ≤ j) : clearB i m := fun l hl => h l (by omega)
/-- taken back from i on: an end of the list, or a place that is kept -/
theorem take_keeps {p : Plan} {s : List Nat} {m : List Call} {u : List Nat} {i : Nat} (hi : i ≤ p.steps.length) (hm : MadeOk p m) (hc : clearB i m) (hv : backT p i u ∈ listT p s) : (∀ e, nxT (takeB p i) m u = .inr e → e ∈ listT p s) ∧ ∀ n, nxT (takeB p i) m u = .inl n → InvA p s n := by
  have := take_val (p := p) (u := u) hc
  cases hx : takeB p i with
  | fin k =>
    rw [hx] at this
    refine ⟨fun e h => ?_, fun n h => (nomatch h)⟩
    cases h
    rw [this]
    exact hv
  | call c =>
    rw [hx] at this
    obtain ⟨j, rfl, hj, hb, hc', hv'⟩ := this
    refine ⟨fun e h => (nomatch h), fun n h => ?_⟩
    cases h
    exact ⟨by omega, hb, hm, hc', by rw [hv']; exact hv⟩
theorem inv_step {p : Plan} {s : List Nat} {n : Node} {o : Out} (h : InvA p s n) (ho : o ∈ outs p (calls p) n.here n.made) : (∀ e, stepN p (calls p) n o = .inr e → e ∈ listT p s) ∧ ∀ n', stepN p (calls p) n o = .inl n' → InvA p s n' := by
  obtain ⟨c, m, u⟩ := n
  rw [step_eq]
  cases c with
  | go i =>
    obtain ⟨hi, b, hb, em0, eu0⟩ := h
    have em : m = upto p (if b = true then i + 1 else i) := em0
    have eu : u = preT p (if b = true then i + 1 else i) s := eu0
    clear em0 eu0
    obtain ⟨x, hx⟩ := step_at hi
    have gm : Call.go i ∈ calls p := go_mem hi
    -- the call is made
    have mv : ∀ o', o' = .ok ∨ o' = .lost → moveT p (calls p) (.go i) m u o' = (upto p (i + 1), preT p (i + 1) s) := fun o' ho' => by
      cases b with
      | false =>
        simp only [Bool.false_eq_true, if_false] at em eu
        subst em eu
        rw [move_eff ho' (by rw [eff_go]; simp [go_upto hi]), addC_upto hi, act_go hx, pre_succ hx]
      | true =>
        simp only [if_true] at em eu
        subst em eu
        have hin : Call.go i ∈ upto p (i + 1) := (mem_upto (by omega)).mpr ⟨i, rfl, by omega⟩
        rw [move_go ho' (by rw [eff_go]; simp [gm, hin])]
        congr 1
        refine made_ext (add_made _ _ _) (upto_made _ _) fun c => ?_
        rw [mem_addC (upto_made _ _) gm]
        constructor
        · rintro (h | rfl)
          · exact h
          · exact hin
        · exact fun h => .inl h
    show (∀ e, nxT (nextN p (.go i) o) (moveT p (calls p) (.go i) m u o).1 (moveT p (calls p) (.go i) m u o).2 = .inr e → _) ∧ ∀ n', nxT (nextN p (.go i) o) (moveT p (calls p) (.go i) m u o).1 (moveT p (calls p) (.go i) m u o).2 = .inl n' → _
    cases o with
    | ok =>
      rw [mv .ok (.inl rfl)]
      show (∀ e, nxT (if i + 1 < p.steps.length then .call (.go (i + 1)) else .fin .done) _ _ = .inr e → _) ∧ ∀ n', nxT (if i + 1 < p.steps.length then .call (.go (i + 1)) else .fin .done) _ _ = .inl n' → _
      by_cases hl : i + 1 < p.steps.length
      · rw [if_pos hl]
        refine ⟨fun e h => (nomatch h), fun n' h => ?_⟩
        cases h
        exact ⟨hl, false, (fun z => by cases z), rfl, rfl⟩
      · rw [if_neg hl]
        refine ⟨fun e h => ?_, fun n' h => (nomatch h)⟩
        cases h
        have : i + 1 = p.steps.length := by omega
        show (EndK.done, preT p (i + 1) s) ∈ _
        rw [this, pre_all]
        exact List.mem_append_right _ (by simp)
    | refused =>
      rw [move_not (by simp) (by simp)]
      have hr := mem_outs.mp ho
      rcases hr with hr | ⟨_, hr, hn⟩
      · exact absurd rfl hr
      · have hr : mayRef p i = true := hr
        have hn : Call.go i ∉ m := fun z => hn ⟨gm, z⟩
        have bf : b = false := by
          cases b with
          | false => rfl
          | true =>
            simp only [if_true] at em
            exact absurd (by rw [em]; exact (mem_upto (by omega)).mpr ⟨i, rfl, by omega⟩) hn
        subst bf
        simp only [Bool.false_eq_true, if_false] at em eu
        subst em eu
        show (∀ e, nxT (takeB p i) _ _ = .inr e → _) ∧ ∀ n', nxT (takeB p i) _ _ = .inl n' → _
        exact take_keeps (by omega) (upto_made _ _) (clear_upto (by omega)) (mem_listT hi (List.mem_append_left _ (by have hr' : mayRef p i = true := hr; rw [if_pos hr']; exact List.mem_singleton.mpr rfl)))
    | lost =>
      rw [mv .lost (.inr rfl)]
      show (∀ e, nxT (if p.again = true then .call (.go i) else takeB p (i + 1)) _ _ = .inr e → _) ∧ ∀ n', nxT (if p.again = true then .call (.go i) else takeB p (i + 1)) _ _ = .inl n' → _
      by_cases ha : p.again = true
      · rw [if_pos ha]
        refine ⟨fun e h => (nomatch h), fun n' h => ?_⟩
        cases h
        exact ⟨hi, true, fun _ => ha, rfl, rfl⟩
      · rw [if_neg ha]
        exact take_keeps (by omega) (upto_made _ _) (clear_upto (by omega)) (mem_listT hi (by unfold endsAt; rw [if_neg ha]; simp))
    | missed =>
      rw [move_not (by simp) (by simp)]
      show (∀ e, nxT (if p.again = true then .call (.go i) else takeB p (i + 1)) _ _ = .inr e → _) ∧ ∀ n', nxT (if p.again = true then .call (.go i) else takeB p (i + 1)) _ _ = .inl n' → _
      by_cases ha : p.again = true
      · rw [if_pos ha]
        refine ⟨fun e h => (nomatch h), fun n' h => ?_⟩
        cases h
        exact ⟨hi, b, hb, em, eu⟩
      · rw [if_neg ha]
        have bf : b = false := by
          cases b with
          | false => rfl
          | true => exact absurd (hb rfl) ha
        subst bf
        simp only [Bool.false_eq_true, if_false] at em eu
        subst em eu
        show (∀ e, nxT (if hasBack p i = true then .call (.back i) else .fin .stuck) _ _ = .inr e → _) ∧ ∀ n', nxT (if hasBack p i = true then .call (.back i) else .fin .stuck) _ _ = .inl n' → _
        by_cases hbk : hasBack p i = true
        · rw [if_pos hbk]
          refine ⟨fun e h => (nomatch h), fun n' h => ?_⟩
          cases h
          refine ⟨hi, hbk, upto_made _ _, clear_upto (by omega), ?_⟩
          unfold valB
          rw [if_neg (fun z => go_upto hi z.1)]
          exact mem_listT hi (by unfold endsAt; rw [if_neg ha, if_pos hbk]; simp)
        · rw [if_neg hbk]
          refine ⟨fun e h => ?_, fun n' h => (nomatch h)⟩
          cases h
          exact mem_listT hi (by unfold endsAt; rw [if_neg ha, if_neg hbk]; simp)
  | back j =>
    obtain ⟨hj, hb, hm, hc, hv⟩ := h
    have hm : MadeOk p m := hm
    have hc : clearB j m := hc
    have hv : valB p j m u ∈ listT p s := hv
    have bm : Call.back j ∈ calls p := back_mem hj hb
    obtain ⟨b, hbk⟩ := Option.isSome_iff_exists.mp (by rw [← bckOf_has]; exact hb)
    -- the call is made
    have mv : ∀ o', o' = .ok ∨ o' = .lost → ∃ m' u', moveT p (calls p) (.back j) m u o' = (m', u') ∧ MadeOk p m' ∧ clearB j m' ∧ valB p j m' u' = backT p j u' ∧ backT p j u' ∈ listT p s := fun o' ho' => by
      by_cases hg : Call.go j ∈ m ∧ Call.back j ∉ m
      · refine ⟨addC p m (.back j), ap b u, ?_, add_made _ _ _, fun l hl => ?_, ?_, ?_⟩
        · rw [move_eff ho' (by rw [eff_back]; simp [hg.1, hg.2]), (bckOf_act hbk).1]
        · rw [mem_addC hm bm, mem_addC hm bm]
          refine ⟨.inl (hc l hl).1, fun z => ?_⟩
          rcases z with z | z
          · exact (hc l hl).2 z
          · cases z
            omega
        · unfold valB
          rw [if_neg]
          rintro ⟨_, z⟩
          exact z ((mem_addC hm bm).mpr (.inr rfl))
        · unfold valB at hv
          rw [if_pos hg, back_some hbk] at hv
          exact hv
      · have hg' : effB (calls p) (.back j) m = false := by
          rw [eff_back]
          simp only [bm, decide_true, Bool.not_true, Bool.false_or]
          by_cases h1 : Call.back j ∈ m
          · simp [h1]
          · by_cases h2 : Call.go j ∈ m
            · exact absurd ⟨h2, h1⟩ hg
            · simp [h2]
        refine ⟨m, u, move_back ho' hg', hm, hc, ?_, ?_⟩
        · unfold valB
          rw [if_neg hg]
        · unfold valB at hv
          rw [if_neg hg] at hv
          exact hv
    show (∀ e, nxT (nextN p (.back j) o) (moveT p (calls p) (.back j) m u o).1 (moveT p (calls p) (.back j) m u o).2 = .inr e → _) ∧ ∀ n', nxT (nextN p (.back j) o) (moveT p (calls p) (.back j) m u o).1 (moveT p (calls p) (.back j) m u o).2 = .inl n' → _
    cases o with
    | ok =>
      obtain ⟨m', u', e1, k1, k2, k3, k4⟩ := mv .ok (.inl rfl)
      rw [e1]
      exact take_keeps (by omega) k1 k2 k4
    | lost =>
      obtain ⟨m', u', e1, k1, k2, k3, k4⟩ := mv .lost (.inr rfl)
      rw [e1]
      refine ⟨fun e h => (nomatch h), fun n' h => ?_⟩
      cases h
      exact ⟨hj, hb, k1, k2, by show valB p j m' u' ∈ _; rw [k3]; exact k4⟩
    | missed =>
      rw [move_not (by simp) (by simp)]
      refine ⟨fun e h => (nomatch h), fun n' h => ?_⟩
      cases h
      exact ⟨hj, hb, hm, hc, hv⟩
    | refused =>
      rcases mem_outs.mp ho with hr | ⟨hr, _⟩
      · exact absurd rfl hr
      · cases hr
theorem occ_list {p : Plan} (hp : PlanOk p) {s : List Nat} {e : End} (h : Occ p (calls p) s e) : e ∈ listT p s := by
  obtain ⟨r, h⟩ := occ_lead.mp h
  refine lead_inv (I := InvA p s) (E := fun e => e ∈ listT p s) (fun n o e i ho h => (inv_step i ho).1 e h) (fun n o n' i ho h => (inv_step i ho).2 n' h) h ?_
  exact ⟨hp.n1, false, (fun z => by cases z), by simp [beginN, upto_zero], by simp [beginN, pre_zero]⟩
/-! ### .. and all of these occur -/
theorem lead_take {p : Plan} : ∀ {i : Nat} {m : List Call} {u : List Nat}, i ≤ p.steps.length → MadeOk p m → clearB i m → (nxT (takeB p i) m u = .inr (backT p i u)) ∨ ∃ n r, nxT (takeB p i) m u = .inl n ∧ Lead p (calls p) n r (backT p i u)
  | 0, m, u, _, _, _ => .inl rfl
  | i + 1, m, u, hi, hm, hc => by
    show (nxT (if hasBack p i = true then .call (.back i) else .fin .stuck) m u = _) ∨ ∃ n r, nxT (if hasBack p i = true then .call (.back i) else .fin .stuck) m u = .inl n ∧ _
    cases hb : bckOf p i with
    | none =>
      have : hasBack p i = false := by rw [bckOf_has, hb]; rfl
      rw [this, back_none hb]
      exact .inl rfl
    | some b =>
      have hb' : hasBack p i = true := by rw [bckOf_has, hb]; rfl
      rw [if_pos hb', back_some hb]
      right
      have bm : Call.back i ∈ calls p := back_mem (by omega) hb'
      have mv : moveT p (calls p) (.back i) m u .ok = (addC p m (.back i), ap b u) := by
        rw [move_eff (.inl rfl) (by rw [eff_back]; simp [(hc i (by omega)).1, (hc i (by omega)).2]), (bckOf_act hb).1]
      have st : stepN p (calls p) ⟨.back i, m, u⟩ .ok = nxT (takeB p i) (addC p m (.back i)) (ap b u) := by
        rw [step_eq]
        show nxT (takeB p i) (moveT p (calls p) (.back i) m u .ok).1 (moveT p (calls p) (.back i) m u .ok).2 = _
        rw [mv]
      have hc' : clearB i (addC p m (.back i)) := fun l hl => by
        rw [mem_addC hm bm, mem_addC hm bm]
        refine ⟨.inl (hc l (by omega)).1, fun z => ?_⟩
        rcases z with z | z
        · exact (hc l (by omega)).2 z
        · cases z
          omega
      rcases lead_take (i := i) (m := addC p m (.back i)) (u := ap b u) (by omega) (add_made _ _ _) hc' with q | ⟨n, r, q1, q2⟩
      · exact ⟨_, _, rfl, .fin (ok_mem ..) (by rw [st, q])⟩
      · exact ⟨_, _, rfl, .step (ok_mem ..) (by rw [st, q1]) q2⟩
theorem lead_nx {p : Plan} {g : List Call} {n : Node} {o : Out} {x : Node ⊕ End} {e : End} (ho : o ∈ outs p g n.here n.made) (hs : stepN p g n o = x) (h : x = .inr e ∨ ∃ n' r, x = .inl n' ∧ Lead p g n' r e) : ∃ r, Lead p g n r e := by
  rcases h with rfl | ⟨n', r, rfl, h⟩
  · exact ⟨_, .fin ho hs⟩
  · exact ⟨_, .step ho hs h⟩
theorem list_occ {p : Plan} (hp : PlanOk p) {s : List Nat} {e : End} (h : e ∈ listT p s) : Occ p (calls p) s e := by
  rcases List.mem_append.mp h with h | h
  · obtain ⟨i, hi, he⟩ := List.mem_flatMap.mp h
    have hi := List.mem_range.mp hi
    obtain ⟨x, hx⟩ := step_at hi
    have key : ∀ o : Out, o ∈ outs p (calls p) (.go i) (upto p i) → (stepN p (calls p) (fwdN p i s) o = .inr e ∨ ∃ n' r, stepN p (calls p) (fwdN p i s) o = .inl n' ∧ Lead p (calls p) n' r e) → Occ p (calls p) s e := fun o ho q => by
      obtain ⟨r, hr⟩ := lead_nx (n := fwdN p i s) ho rfl q
      exact occ_fwd hi hr
    unfold endsAt at he
    rcases List.mem_append.mp he with he | he
    · by_cases hr : mayRef p i = true
      · rw [if_pos hr] at he
        rw [List.mem_singleton.mp he]
        rw [List.mem_singleton.mp he] at key
        refine key .refused (mem_outs.mpr (.inr ⟨rfl, hr, fun z => go_upto hi z.2⟩)) ?_
        have st : stepN p (calls p) (fwdN p i s) .refused = nxT (takeB p i) (upto p i) (preT p i s) := by
          rw [step_eq]
          show nxT (takeB p i) (moveT p (calls p) (.go i) (upto p i) (preT p i s) .refused).1 (moveT p (calls p) (.go i) (upto p i) (preT p i s) .refused).2 = _
          rw [move_not (by simp) (by simp)]
        rw [st]
        exact lead_take (by omega) (upto_made _ _) (clear_upto (by omega))
      · rw [if_neg hr] at he
        cases he
    · by_cases ha : p.again = true
      · rw [if_pos ha] at he
        cases he
      · rw [if_neg ha] at he
        rcases List.mem_cons.mp he with he | he
        · rw [he]
          rw [he] at key
          refine key .lost (lost_mem ..) ?_
          have st : stepN p (calls p) (fwdN p i s) .lost = nxT (takeB p (i + 1)) (upto p (i + 1)) (preT p (i + 1) s) := by
            rw [step_eq]
            show nxT (if p.again = true then .call (.go i) else takeB p (i + 1)) (moveT p (calls p) (.go i) (upto p i) (preT p i s) .lost).1 (moveT p (calls p) (.go i) (upto p i) (preT p i s) .lost).2 = _
            rw [if_neg ha, move_eff (.inr rfl) (by rw [eff_go]; simp [go_upto hi]), addC_upto hi, act_go hx, pre_succ hx]
          rw [st]
          exact lead_take (by omega) (upto_made _ _) (clear_upto (by omega))
        · have he := List.mem_singleton.mp he
          rw [he]
          rw [he] at key
          refine key .missed (missed_mem ..) ?_
          have st : stepN p (calls p) (fwdN p i s) .missed = nxT (takeB p (i + 1)) (upto p i) (preT p i s) := by
            rw [step_eq]
            show nxT (if p.again = true then .call (.go i) else takeB p (i + 1)) (moveT p (calls p) (.go i) (upto p i) (preT p i s) .missed).1 (moveT p (calls p) (.go i) (upto p i) (preT p i s) .missed).2 = _
            rw [if_neg ha, move_not (by simp) (by simp)]
          rw [st]
          show (nxT (if hasBack p i = true then .call (.back i) else .fin .stuck) _ _ = _) ∨ ∃ n' r, nxT (if hasBack p i = true then .call (.back i) else .fin .stuck) _ _ = .inl n' ∧ _
          by_cases hb : hasBack p i = true
          · rw [if_pos hb, if_pos hb]
            right
            have bm : Call.back i ∈ calls p := back_mem hi hb
            have mv : moveT p (calls p) (.back i) (upto p i) (preT p i s) .ok = (upto p i, preT p i s) := move_back (.inl rfl) (by rw [eff_back]; simp [bm, go_upto hi])
            have st2 : stepN p (calls p) ⟨.back i, upto p i, preT p i s⟩ .ok = nxT (takeB p i) (upto p i) (preT p i s) := by
              rw [step_eq]
              show nxT (takeB p i) (moveT p (calls p) (.back i) (upto p i) (preT p i s) .ok).1 (moveT p (calls p) (.back i) (upto p i) (preT p i s) .ok).2 = _
              rw [mv]
            obtain ⟨r, hr⟩ := lead_nx (n := ⟨.back i, upto p i, preT p i s⟩) (ok_mem ..) st2 (lead_take (by omega) (upto_made _ _) (clear_upto (by omega)))
            exact ⟨_, r, rfl, hr⟩
          · rw [if_neg hb, if_neg hb]
            exact .inl rfl
  · rw [List.mem_singleton.mp h]
    exact occ_done hp _ s
theorem occ_all {p : Plan} (hp : PlanOk p) {s : List Nat} {e : End} : Occ p (calls p) s e ↔ e ∈ listT p s := ⟨occ_list hp, list_occ hp⟩
/-- how it ends does not depend on the start -/
theorem back_kind (p : Plan) : ∀ (j : Nat) (u v : List Nat), (backT p j u).1 = (backT p j v).1
  | 0, _, _ => rfl
  | j + 1, u, v => by
    cases h : bckOf p j with
    | none => rw [back_none h, back_none h]
    | some b => rw [back_some h, back_some h]; exact back_kind p j _ _
theorem list_kind {p : Plan} (s s' : List Nat) : (listT p s).map (·.1) = (listT p s').map (·.1) := by
  unfold listT
  rw [List.map_append, List.map_append, List.map_flatMap, List.map_flatMap]
  congr 1
  congr 1
  funext i
  unfold endsAt
  rw [List.map_append, List.map_append]
  congr 1
  · split
    · simp [back_kind p i (preT p i s) (preT p i s')]
    · rfl
  · split
    · rfl
    · simp only [List.map_cons, List.map_nil]
      congr 1
      · exact back_kind p _ _ _
      · congr 1
        split
        · exact back_kind p _ _ _
        · rfl
theorem stuck_any {p : Plan} (hp : PlanOk p) (s : List Nat) : stuckT p = true ↔ ∃ u, Occ p (calls p) s (.stuck, u) := by
  have key : ∀ s, (∃ u, Occ p (calls p) s (.stuck, u)) ↔ EndK.stuck ∈ (listT p s).map (·.1) := fun s => by
    constructor
    · rintro ⟨u, h⟩
      exact List.mem_map.mpr ⟨_, (occ_all hp).mp h, rfl⟩
    · intro h
      obtain ⟨⟨k, u⟩, h1, h2⟩ := List.mem_map.mp h
      have h2 : k = .stuck := h2
      subst h2
      exact ⟨u, (occ_all hp).mpr h1⟩
  rw [stuck_iff hp, key, key, list_kind]
end Bk
namespace Bk
open PySem
/-- a code that is told apart -/
structure Cod {α : Type} (f : α → PyData) : Prop where
  inj : ∀ a b, PyData.eqv (f a) (f b) = true ↔ a = b
  pl : ∀ a, (f a).plain = true
  dp : ∀ a, (f a).depth ≤ 20
section
variable {α : Type} [DecidableEq α] {f : α → PyData} (h : Cod f)
include h
theorem Cod.nd (a : α) : isDict (f a) = false := plain_nd (h.pl a)
theorem Cod.eqv (a b : α) : PyData.eqv (f a) (f b) = decide (a = b) := by
  rw [Bool.eq_iff_iff, decide_eq_true_eq]
  exact h.inj a b
theorem Cod.sh (a : α) : shapedB (f a) = true := by
  unfold shapedB
  rw [h.pl, Bool.true_and, decide_eq_true_eq]
  have := h.dp a
  omega
theorem Cod.shT (l : List α) : shapedB (.tuple (l.map f)) = true := shaped_tuple fun a _ => ⟨h.pl a, by have := h.dp a; omega⟩
theorem Cod.shL (l : List α) : shapedB (.list (l.map f)) = true := shaped_list fun a _ => ⟨h.pl a, by have := h.dp a; omega⟩
theorem Cod.eqvT (l m : List α) : PyData.eqv (.tuple (l.map f)) (.tuple (m.map f)) = decide (l = m) := by
  simp only [PyData.eqv]
  exact eqvAll_map h.eqv l m
theorem Cod.eqvL (l m : List α) : PyData.eqv (.list (l.map f)) (.list (m.map f)) = decide (l = m) := by
  simp only [PyData.eqv]
  exact eqvAll_map h.eqv l m
theorem Cod.eq1 (a b : α) : cmpD .eq (f a) (f b) = some (decide (a = b)) := by
  unfold cmpD
  rw [h.nd, if_neg Bool.false_ne_true]
  show (if shapedB (f a) = true ∧ shapedB (f b) = true then some (PyData.eqv (f a) (f b)) else none) = _
  rw [if_pos ⟨h.sh a, h.sh b⟩, h.eqv]
theorem Cod.ne1 (a b : α) : cmpD .ne (f a) (f b) = some (!decide (a = b)) := by
  unfold cmpD
  rw [h.nd, if_neg Bool.false_ne_true]
  show (if shapedB (f a) = true ∧ shapedB (f b) = true then some (PyData.eqv (f a) (f b)) else none).map (!·) = _
  rw [if_pos ⟨h.sh a, h.sh b⟩, h.eqv]
  rfl
theorem Cod.eqT (l m : List α) : cmpD .eq (.tuple (l.map f)) (.tuple (m.map f)) = some (decide (l = m)) := by
  show (if shapedB (.tuple (l.map f)) = true ∧ shapedB (.tuple (m.map f)) = true then some (PyData.eqv (.tuple (l.map f)) (.tuple (m.map f))) else none) = _
  rw [if_pos ⟨h.shT l, h.shT m⟩, h.eqvT]
theorem Cod.neT (l m : List α) : cmpD .ne (.tuple (l.map f)) (.tuple (m.map f)) = some (!decide (l = m)) := by
  show (if shapedB (.tuple (l.map f)) = true ∧ shapedB (.tuple (m.map f)) = true then some (PyData.eqv (.tuple (l.map f)) (.tuple (m.map f))) else none).map (!·) = _
  rw [if_pos ⟨h.shT l, h.shT m⟩, h.eqvT]
  rfl
theorem Cod.eqL (l m : List α) : cmpD .eq (.list (l.map f)) (.list (m.map f)) = some (decide (l = m)) := by
  show (if shapedB (.list (l.map f)) = true ∧ shapedB (.list (m.map f)) = true then some (PyData.eqv (.list (l.map f)) (.list (m.map f))) else none) = _
  rw [if_pos ⟨h.shL l, h.shL m⟩, h.eqvL]
theorem Cod.neL (l m : List α) : cmpD .ne (.list (l.map f)) (.list (m.map f)) = some (!decide (l = m)) := by
  show (if shapedB (.list (l.map f)) = true ∧ shapedB (.list (m.map f)) = true then some (PyData.eqv (.list (l.map f)) (.list (m.map f))) else none).map (!·) = _
  rw [if_pos ⟨h.shL l, h.shL m⟩, h.eqvL]
  rfl
theorem Cod.any (a : α) (l : List α) : ((l.map f).any fun z => PyData.eqv z (f a)) = decide (a ∈ l) := by
  induction l with
  | nil => simp
  | cons x l ih =>
    rw [List.map_cons, List.any_cons, ih, h.eqv]
    by_cases q : x = a
    · simp [q]
    · have : ¬ a = x := fun e => q e.symm
      simp [q, this]
theorem Cod.memT (a : α) (l : List α) : cmpD .mem (f a) (.tuple (l.map f)) = some (decide (a ∈ l)) := by
  unfold cmpD
  rw [h.nd, if_neg Bool.false_ne_true]
  show (if shapedB (f a) = true ∧ shapedB (.tuple (l.map f)) = true then some ((l.map f).any fun z => PyData.eqv z (f a)) else none) = _
  rw [if_pos ⟨h.sh a, h.shT l⟩, h.any]
theorem Cod.memL (a : α) (l : List α) : cmpD .mem (f a) (.list (l.map f)) = some (decide (a ∈ l)) := by
  unfold cmpD
  rw [h.nd, if_neg Bool.false_ne_true]
  show (if shapedB (f a) = true ∧ shapedB (.list (l.map f)) = true then some ((l.map f).any fun z => PyData.eqv z (f a)) else none) = _
  rw [if_pos ⟨h.sh a, h.shL l⟩, h.any]
theorem Cod.nmemT (a : α) (l : List α) : cmpD .nmem (f a) (.tuple (l.map f)) = some (!decide (a ∈ l)) := by
  unfold cmpD
  rw [h.nd, if_neg Bool.false_ne_true]
  show (if shapedB (f a) = true ∧ shapedB (.tuple (l.map f)) = true then some ((l.map f).any fun z => PyData.eqv z (f a)) else none).map (!·) = _
  rw [if_pos ⟨h.sh a, h.shT l⟩, h.any]
  rfl
theorem Cod.nmemL (a : α) (l : List α) : cmpD .nmem (f a) (.list (l.map f)) = some (!decide (a ∈ l)) := by
  unfold cmpD
  rw [h.nd, if_neg Bool.false_ne_true]
  show (if shapedB (f a) = true ∧ shapedB (.list (l.map f)) = true then some ((l.map f).any fun z => PyData.eqv z (f a)) else none).map (!·) = _
  rw [if_pos ⟨h.sh a, h.shL l⟩, h.any]
  rfl
end
theorem plain_eE (e : End) : (eE e).plain = true := by
  simp only [eE, PyData.plain, PyData.plainAll, plain_eS, Bool.and_true]
theorem plain_eB (b : Option (List Op)) : (eB b).plain = true := by
  cases b with
  | none => rfl
  | some a => exact plain_eA a
theorem plain_eCs (g : List Call) : (eCs g).plain = true := by
  simp only [eCs, PyData.plain]
  exact plainAll_map fun c _ => plain_eC c
theorem codE : Cod eE := ⟨fun a b => by rw [eqv_eE, decide_eq_true_eq], plain_eE, fun a => by have := depth_eE a; omega⟩
theorem codS : Cod eS := ⟨fun a b => by rw [eqv_eS, decide_eq_true_eq], plain_eS, fun a => by rw [depth_eS]; decide⟩
theorem codC : Cod eC := ⟨fun a b => by rw [eqv_eC, decide_eq_true_eq], plain_eC, fun a => by rw [depth_eC]; decide⟩
theorem codR : Cod eR := ⟨fun a b => by rw [eqv_eR, decide_eq_true_eq], plain_eR, fun a => by have := depth_eR a; omega⟩
theorem codCs : Cod eCs := ⟨fun a b => by rw [eqv_eCs, decide_eq_true_eq], plain_eCs, fun a => by have := depth_eCs a; omega⟩
theorem codV : Cod eV := ⟨fun a b => by rw [eqv_eV, decide_eq_true_eq], plain_eV, fun a => by rw [depth_eV]; decide⟩
def eK (k : EndK) : PyData := .str (kS k)
theorem codK : Cod eK := ⟨fun a b => by
  have : PyData.eqv (eK a) (eK b) = decide (a = b) := kS_eq a b
  rw [this, decide_eq_true_eq], fun _ => rfl, fun _ => Nat.zero_le _⟩
theorem codN : Cod nI := ⟨fun a b => by
  have : PyData.eqv (nI a) (nI b) = decide (a = b) := nat_eq a b
  rw [this, decide_eq_true_eq], fun _ => rfl, fun _ => Nat.zero_le _⟩
def eOut (o : Out) : PyData := .str (oS o)
theorem codO : Cod eOut := ⟨fun a b => by
  have : PyData.eqv (eOut a) (eOut b) = decide (a = b) := oS_eq a b
  rw [this, decide_eq_true_eq], fun _ => rfl, fun _ => Nat.zero_le _⟩
@[simp] theorem ne_bool (a b : Bool) : cmpD .ne (.bool a) (.bool b) = some (!(a == b)) := rfl
@[simp] theorem eq_bool (a b : Bool) : cmpD .eq (.bool a) (.bool b) = some (a == b) := rfl
@[simp] theorem ne_str (a b : Str) : cmpD .ne (.str a) (.str b) = some (!(a == b)) := rfl
@[simp] theorem ge_int (a b : Int) : cmpD .ge (.int a) (.int b) = some (decide (b ≤ a)) := rfl
/-- an empty list -/
theorem ne_nilL {α : Type} {f : α → PyData} {l : List α} (hs : shapedB (.list (l.map f)) = true) : cmpD .ne (.list (l.map f)) (.list []) = some (!l.isEmpty) := by
  show (if shapedB (.list (l.map f)) = true ∧ shapedB (.list []) = true then some (PyData.eqv (.list (l.map f)) (.list [])) else none).map (!·) = _
  rw [if_pos ⟨hs, rfl⟩]
  cases l <;> rfl
theorem filter_one {α : Type} {q : α → Bool} {a : α} : ∀ {l : List α}, l.Nodup → a ∈ l → q a = true → (∀ x ∈ l, q x = true → x = a) → l.filter q = [a]
  | [], _, h, _, _ => by cases h
  | x :: l, nd, ha, hq, hu => by
    obtain ⟨n1, n2⟩ := List.nodup_cons.mp nd
    rcases List.mem_cons.mp ha with rfl | ha
    · rw [List.filter_cons_of_pos hq]
      congr 1
      rw [List.filter_eq_nil_iff]
      intro y hy hqy
      have := hu y (List.mem_cons_of_mem _ hy) hqy
      subst this
      exact n1 hy
    · have : ¬ q x = true := fun z => by
        have := hu x (List.mem_cons_self ..) z
        subst this
        exact n1 ha
      rw [List.filter_cons_of_neg this]
      exact filter_one n2 ha hq fun y hy => hu y (List.mem_cons_of_mem _ hy)
theorem ltE_nodup {l : List End} (h : l.Pairwise fun a b => ltE a b = true) : l.Nodup := h.imp fun {a b} q e => by
  subst e
  exact ltE_asymm q q
/-! ### without repeats -/
def nubE : List End → List End
  | [] => []
  | x :: r => x :: (nubE r).filter fun y => !decide (x = y)
theorem nubD_eE : ∀ l : List End, nubD (l.map eE) = (nubE l).map eE
  | [] => rfl
  | x :: l => by
    show eE x :: (nubD (l.map eE)).filter (fun y => !PyData.eqv (eE x) y) = eE x :: ((nubE l).filter fun y => !decide (x = y)).map eE
    rw [nubD_eE l, List.filter_map]
    congr 2
    refine List.filter_congr fun y _ => ?_
    simp [Function.comp, eqv_eE]
theorem mem_nubE {c : End} : ∀ {l : List End}, c ∈ nubE l ↔ c ∈ l
  | [] => Iff.rfl
  | x :: l => by
    show c ∈ x :: (nubE l).filter (fun y => !decide (x = y)) ↔ _
    rw [List.mem_cons, List.mem_cons, List.mem_filter, mem_nubE (l := l)]
    constructor
    · rintro (h | h)
      · exact .inl h
      · exact .inr h.1
    · rintro (h | h)
      · exact .inl h
      · by_cases e : x = c
        · exact .inl e.symm
        · exact .inr ⟨h, by simp [e]⟩
theorem nodup_nubE : ∀ l : List End, (nubE l).Nodup
  | [] => List.nodup_nil
  | x :: l => by
    show (x :: (nubE l).filter (fun y => !decide (x = y))).Nodup
    rw [List.nodup_cons]
    refine ⟨fun h => ?_, nodup_filter (nodup_nubE l)⟩
    have := (List.mem_filter.mp h).2
    simp at this
theorem sortedSet_eE {l : List End} (hl : l.length < 64) : b1D .sortedSet (.list (l.map eE)) = some (.list ((sortE (nubE l)).map eE)) := by
  show (if (l.map eE).length < 64 ∧ ((l.map eE).all keyOk) = true then (sortL (nubD (l.map eE))).map PyData.list else none) = _
  rw [if_pos ⟨by rw [List.length_map]; exact hl, List.all_eq_true.mpr fun x hx => by obtain ⟨a, _, rfl⟩ := List.mem_map.mp hx; exact keyOk_eE a⟩, nubD_eE, sortL_eE]
  rfl
theorem ends_eq {p : Plan} (hp : PlanOk p) {g : List Call} {s : List Nat} (hs : StOk p.k s) {l : List End} (h : ∀ e, Occ p g s e ↔ e ∈ l) : endsT p g s = sortE (nubE l) := by
  refine sortE_ext (ends_pw hp hs) (sortE_pw (nodup_nubE l)) fun e => ?_
  rw [mem_ends hp hs, sortE_mem, mem_nubE]
  exact h e
end Bk
namespace Bk
open PySem
theorem bfs_len {p : Plan} (hp : PlanOk p) {g : List Call} : ∀ (m : Nat) {L : Nat} {kn : List Node} {lv : List (Run × Node)} {f : List (End × Run)}, KOk p L kn f → LvOk p L lv → L ≤ kn.length → (lv ≠ [] → L + 1 ≤ kn.length) → ∀ x ∈ bfs p g m kn lv f, x.2.length ≤ 55296
  | 0, L, kn, lv, f, hk, _, h1, _, x, hx => by
    have := kbound hp hk
    have := hk.dl x hx
    omega
  | m + 1, L, kn, lv, f, hk, hl, h1, h2, x, hx => by
    unfold bfs at hx
    by_cases he : lv = []
    · rw [if_pos he] at hx
      have := kbound hp hk
      have := hk.dl x hx
      omega
    · rw [if_neg he] at hx
      have h2 := h2 he
      have ok := level_ok hp (g := g) hl hk.b (fun y _ o => hk.bef _)
      have kl := ok.kl
      exact bfs_len hp m ok.k ok.lv (by omega) (fun hne => by
        have : 0 < (bLevel p g lv ⟨kn, [], f⟩).fur.length := List.length_pos_iff.mpr hne
        omega) x hx
theorem found_rl {p : Plan} (hp : PlanOk p) {g : List Call} {s : List Nat} (hs : StOk p.k s) : ∀ x ∈ foundT p g s, x.2.length ≤ 55296 := by
  have b := begin_ok hp hs
  exact bfs_len hp 100000 (L := 0) ⟨by simp, by simpa using b, by simp, by simp, by simp⟩ ⟨by simp, by simpa using b⟩ (by simp) (by simp)
theorem bad_len {p : Plan} (hp : PlanOk p) {g : List Call} {s : List Nat} (hs : StOk p.k s) {r : Run} (h : badT p g s = some r) : r.length ≤ 55296 := by
  obtain ⟨m, _⟩ := minF_some h
  obtain ⟨x, hx, rfl⟩ := List.mem_map.mp m
  exact found_rl hp hs x (List.mem_filter.mp hx).1
theorem len_eCs (g : List Call) : b1D .len (eCs g) = some (.int (g.length : Nat)) := by
  show some (PyData.int ((g.map eC).length : Nat)) = _
  rw [List.length_map]
theorem ends_len {p : Plan} (hp : PlanOk p) {g : List Call} {s : List Nat} (hs : StOk p.k s) : (endsT p g s).length ≤ 100000 := by
  have := found_len hp hs (g := g)
  unfold endsT sortE
  rw [(sortF_perm eE _).length_eq, List.length_map]
  omega
theorem mul_rep (x : PyData) {m : Nat} (h1 : 1 ≤ m) (h2 : m ≤ 1000) : binD .mul (.tuple [x]) (.int (m : Nat)) = some (.tuple (List.replicate m x)) := by
  show (if 1 ≤ (m : Int) ∧ (m : Int) ≤ 1000 ∧ [x].length ≤ 1000 ∧ [x] ≠ [] then some (PyData.tuple (List.replicate (m : Int).toNat [x]).flatten) else none) = _
  rw [if_pos ⟨by omega, by omega, by simp, by simp⟩]
  congr 2
  have : ((m : Int)).toNat = m := by omega
  rw [this]
  clear h1 h2 this
  induction m with
  | zero => rfl
  | succ m ih => rw [List.replicate_succ, List.flatten_cons, ih, List.replicate_succ]; rfl
theorem ne_eCs_nil (g : List Call) : cmpD .ne (eCs g) (.tuple []) = some (!decide (g = [])) := codC.neT g []
theorem eq_eCs_nil (g : List Call) : cmpD .eq (eCs g) (.tuple []) = some (decide (g = [])) := codC.eqT g []
theorem ne_ll0 : cmpD .ne (.list []) (.list []) = some false := rfl
theorem ne_tt0 : cmpD .ne (.tuple []) (.tuple []) = some false := rfl
theorem slc_eT2 (x : Step) : slcD (eT x) none (some 2) = some (.tuple [eA x.act, eB x.bck]) := rfl
theorem add_eT (a : List Op) (b : Option (List Op)) (c : Bool) : binD .add (.tuple [eA a, eB b]) (.tuple [.bool c]) = some (eT ⟨a, b, c⟩) := rfl
theorem exs_app (gl : Nat → Option PyData) (φ : Nat → List Val → M Val) (fu : Nat) : ∀ (a b : List IS) (ρ : Ev) (t : Town), exs gl φ fu (a ++ b) ρ t = R.seq (exs gl φ fu a ρ t) fun ρ t => exs gl φ fu b ρ t
  | [], b, ρ, t => rfl
  | s :: a, b, ρ, t => by
    rw [List.cons_append, exs_cons, exs_cons]
    have sq : ∀ {r : R Fl} {f g : Ev → Town → R Fl}, R.seq r (fun ρ t => R.seq (f ρ t) g) = R.seq (R.seq r f) g := fun {r f g} => by
      cases r with
      | ok fl t => cases fl <;> rfl
      | exc c t => rfl
      | bad => rfl
    rw [← sq]
    congr 1
    funext ρ t
    exact exs_app gl φ fu a b ρ t
end Bk
namespace Bk
open PySem
section
variable {gl : Nat → Option PyData} {φ : Nat → List Val → M Val} {tb : Nat → Option Fn} {fu n : Nat} {t : Town} {ρ : Ev}
theorem dsub_at {i j : Nat} {k : IE} {ds : List PyData} {z : PyData} (h : slotAt ρ i = .own (.tuple ds)) (hk : ev gl φ k ρ t = .ok (.d (.int (j : Nat))) t) (hz : ds[j]? = some z) : ev gl φ (.dsub i k) ρ t = .ok (.d z) t := by
  show (match slotAt ρ i with
    | .own (.tuple ds) => (do
      let y ← ev gl φ k ρ >>= asD
      (match y with
      | .int j => if 0 ≤ j then (M.opt ds[j.toNat]?) >>= fun z => pure (.d z) else M.fail
      | _ => M.fail))
    | _ => M.fail : M Val) t = _
  rw [h]
  show R.bnd (R.bnd (ev gl φ k ρ t) fun v t => asD v t) (fun y t => (match y with
      | .int j => if 0 ≤ j then (M.opt ds[j.toNat]?) >>= fun z => pure (.d z) else M.fail
      | _ => M.fail : M Val) t) = _
  rw [hk]
  show (if 0 ≤ ((j : Nat) : Int) then (M.opt ds[((j : Nat) : Int).toNat]?) >>= fun z => pure (.d z) else M.fail : M Val) t = _
  rw [if_pos (by omega), Int.toNat_natCast, hz]
  rfl
theorem dset_at {i j : Nat} {k v : IE} {ds : List PyData} {z : PyData} (h : slotAt ρ i = .own (.tuple ds)) (ov : isOwn v ρ = false) (hv : ev gl φ v ρ t = .ok (.d z) t) (nd : isDict z = false) (ok : isOwn k ρ = false) (hk : ev gl φ k ρ t = .ok (.d (.int (j : Nat))) t) (hj : j < ds.length) : ex gl φ fu (.dset i k v) ρ t = .ok (.next (ρ.set i (.own (.tuple (ds.set j z))))) t := by
  show R.bnd (R.bnd ((if isOwn v ρ = true then M.fail else ev gl φ v ρ : M Val) t) fun v t => asP v t) (fun z t => (match slotAt ρ i with
    | .own (.tuple ds) => (do
      let y ← (if isOwn k ρ = true then M.fail else ev gl φ k ρ) >>= asP
      (match y with
      | .int j => if 0 ≤ j ∧ j.toNat < ds.length then pure (.next (ρ.set i (.own (.tuple (ds.set j.toNat z))))) else M.fail
      | _ => M.fail))
    | _ => M.fail : M Fl) t) = _
  rw [ov, if_neg Bool.false_ne_true, hv, bnd_ok, asP_at nd, bnd_ok, h]
  show R.bnd (R.bnd ((if isOwn k ρ = true then M.fail else ev gl φ k ρ : M Val) t) fun v t => asP v t) (fun y t => (match y with
      | .int j => if 0 ≤ j ∧ j.toNat < ds.length then pure (.next (ρ.set i (.own (.tuple (ds.set j.toNat z))))) else M.fail
      | _ => M.fail : M Fl) t) = _
  rw [ok, if_neg Bool.false_ne_true, hk, bnd_ok, asP_int, bnd_ok]
  show (if 0 ≤ ((j : Nat) : Int) ∧ ((j : Nat) : Int).toNat < ds.length then pure (.next (ρ.set i (.own (.tuple (ds.set ((j : Nat) : Int).toNat z))))) else M.fail : M Fl) t = _
  rw [if_pos ⟨by omega, by rw [Int.toNat_natCast]; exact hj⟩, Int.toNat_natCast]
  rfl
theorem dnew_at {i : Nat} {e : IE} {ds : List PyData} (h : ev gl φ e ρ t = .ok (.d (.tuple ds)) t) (hl : ds.length ≤ 1000) (hi : i < ρ.length) : ex gl φ fu (.dnew i e) ρ t = .ok (.next (ρ.set i (.own (.tuple ds)))) t := by
  show R.bnd (R.bnd (ev gl φ e ρ t) fun v t => asD v t) (fun x t => (match x with
    | .tuple ds => if ds.length ≤ 1000 ∧ i < ρ.length then pure (.next (ρ.set i (.own (.tuple ds)))) else M.fail
    | _ => M.fail : M Fl) t) = _
  rw [h]
  show (if ds.length ≤ 1000 ∧ i < ρ.length then pure (.next (ρ.set i (.own (.tuple ds)))) else M.fail : M Fl) t = _
  rw [if_pos ⟨hl, hi⟩]
  rfl
theorem getE_nI {s : List Nat} {i : Nat} (h : i < s.length) : (s.map nI)[i]? = some (nI (s.getD i 0)) := by
  rw [List.getElem?_map, List.getD_eq_getElem?_getD, List.getElem?_eq_getElem h]
  rfl
theorem after_loop {k : Nat} {A S : Slot} : ∀ {a : List Op} {s : List Nat}, (∀ o ∈ a, OpOk k o) → s.length = k → ∀ x y z, ∃ x' y' z', forGo (fun ρ' => exs gl φ fu H_after_f1 ρ') (.tp [.nm 3, .nm 4, .nm 5]) (a.map eO) [A, S, .own (.tuple (s.map nI)), x, y, z] t = .ok (.next [A, S, .own (.tuple ((ap a s).map nI)), x', y', z']) t
  | [], s, _, _, x, y, z => ⟨x, y, z, rfl⟩
  | o :: a, s, ho, hs, x, y, z => by
    have ok := ho o (List.mem_cons_self ..)
    have hlen : (o.ap s).length = k := by
      cases o <;> simp [Op.ap, hs]
    obtain ⟨x', y', z', e⟩ := after_loop (A := A) (S := S) (a := a) (s := o.ap s) (fun p hp => ho p (List.mem_cons_of_mem _ hp)) hlen (.val (.d (.str (oN o)))) (.val (.d (nI (oI o)))) (.val (.d (nI (oV o))))
    refine ⟨x', y', z', ?_⟩
    have s1 : setTg (.tp [.nm 3, .nm 4, .nm 5]) (.d (eO o)) [A, S, .own (.tuple (s.map nI)), x, y, z] = some [A, S, .own (.tuple (s.map nI)), .val (.d (.str (oN o))), .val (.d (nI (oI o))), .val (.d (nI (oV o)))] := by
      rw [eO_eq]
      rfl
    have s2 : exs gl φ fu H_after_f1 [A, S, .own (.tuple (s.map nI)), .val (.d (.str (oN o))), .val (.d (nI (oI o))), .val (.d (nI (oV o)))] t = .ok (.next [A, S, .own (.tuple ((o.ap s).map nI)), .val (.d (.str (oN o))), .val (.d (nI (oI o))), .val (.d (nI (oV o)))]) t := by
      have hi : oI o < (s.map nI).length := by
        rw [List.length_map, hs]
        cases o with
        | set i v => exact ok.1
        | add i v => exact ok.1
        | cpy i v => exact ok.1
      have g1 := dsub_at (gl := gl) (φ := φ) (t := t) (i := 2) (k := .var 4) (j := oI o) (ρ := [A, S, .own (.tuple (s.map nI)), .val (.d (.str (oN o))), .val (.d (nI (oI o))), .val (.d (nI (oV o)))]) rfl (by simp) (getE_nI (by simpa using hi))
      cases o with
      | set i v =>
        have d := dset_at (gl := gl) (φ := φ) (t := t) (fu := fu) (i := 2) (k := .var 4) (v := .ite (.cmp .eq (.var 3) (.con (.str S_set))) (.var 5) (.bin .mod (.bin .add (.dsub 2 (.var 4)) (.var 5)) (.con (.int 3)))) (j := i) (z := nI v) (ρ := [A, S, .own (.tuple (s.map nI)), .val (.d (.str S_set)), .val (.d (nI i)), .val (.d (nI v))]) rfl rfl (by simp) rfl rfl (by simp) hi
        have q : S_set ≠ S_copy := by decide
        simp only [oN, oI, oV] at *
        simp [H_after_f1, q, d, Op.ap, List.map_set]
      | add i v =>
        have d := dset_at (gl := gl) (φ := φ) (t := t) (fu := fu) (i := 2) (k := .var 4) (v := .ite (.cmp .eq (.var 3) (.con (.str S_set))) (.var 5) (.bin .mod (.bin .add (.dsub 2 (.var 4)) (.var 5)) (.con (.int 3)))) (j := i) (z := nI ((s.getD i 0 + v) % 3)) (ρ := [A, S, .own (.tuple (s.map nI)), .val (.d (.str S_add)), .val (.d (nI i)), .val (.d (nI v))]) rfl rfl (by
          simp only [oN, oI, oV] at g1
          have q : S_add ≠ S_set := by decide
          simp only [nI_def] at g1
          simp [q, g1]) rfl rfl (by simp) hi
        have q : S_add ≠ S_copy := by decide
        simp only [oN, oI, oV] at *
        simp [H_after_f1, q, d, Op.ap, List.map_set]
      | cpy i v =>
        have hv : v < (s.map nI).length := by
          rw [List.length_map, hs]
          exact ok.2.1
        have d := dset_at (gl := gl) (φ := φ) (t := t) (fu := fu) (i := 2) (k := .var 5) (v := .dsub 2 (.var 4)) (j := v) (z := nI (s.getD i 0)) (ρ := [A, S, .own (.tuple (s.map nI)), .val (.d (.str S_copy)), .val (.d (nI i)), .val (.d (nI v))]) rfl rfl g1 rfl rfl (by simp) hv
        simp only [oN, oI, oV] at *
        simp [H_after_f1, d, Op.ap, List.map_set]
    rw [List.map_cons, forGo_cons, s1, opt_some, bnd_ok, s2, seq_next]
    exact e
theorem run_law_after (ha : HasD tb 73 6 2 H_after) (hn : 1 ≤ n) {k : Nat} (h3 : k ≤ 3) {a : List Op} (ok : ∀ o ∈ a, OpOk k o) {s : List Nat} (hs : s.length = k) : run gl tb fu n 73 [.d (eA a), .d (eS s)] t = .ok (.d (eS (ap a s))) t := by
  rw [run_has ha rfl (by omega)]
  show R.bnd (exs gl _ fu H_after [.val (.d (eA a)), .val (.d (eS s)), .emp, .emp, .emp, .emp] t) _ = _
  have d := dnew_at (gl := gl) (φ := run gl tb fu (n - 1)) (t := t) (fu := fu) (i := 2) (e := .var 1) (ds := s.map nI) (ρ := [.val (.d (eA a)), .val (.d (eS s)), .emp, .emp, .emp, .emp]) (by simp [eS]) (by rw [List.length_map]; omega) (by simp)
  obtain ⟨x, y, z, e⟩ := after_loop (gl := gl) (φ := run gl tb fu (n - 1)) (fu := fu) (t := t) (A := .val (.d (eA a))) (S := .val (.d (eS s))) ok hs .emp .emp .emp
  have hl : ∀ {a : List Op} {s : List Nat}, (ap a s).length = s.length := fun {a} => by
    induction a with
    | nil => intro s; rfl
    | cons o a ih =>
      intro s
      show (ap a (o.ap s)).length = _
      rw [ih]
      cases o <;> simp [Op.ap]
  have rg := rangeN (m := s.length) (by omega)
  have c := lc_all (gl := gl) (φ := run gl tb fu (n - 1)) (t := t) (enc := nI) (tg := .nm 4) (it := .rng (.b1 .len (.var 1))) (e := .dsub 2 (.var 4)) (ρ := [.val (.d (eA a)), .val (.d (eS s)), .own (.tuple ((ap a s).map nI)), x, y, z]) (List.range s.length) (fun i => nI ((ap a s).getD i 0)) (by simp [eS, rg]) (by simp; omega) fun i hi => by
    have hi := List.mem_range.mp hi
    refine ⟨[.val (.d (eA a)), .val (.d (eS s)), .own (.tuple ((ap a s).map nI)), x, .val (.d (nI i)), z], rfl, rfl, ?_, rfl⟩
    exact dsub_at (j := i) rfl (by simp) (getE_nI (by rw [hl]; exact hi))
  have q : (List.range s.length).map (fun i => nI ((ap a s).getD i 0)) = (ap a s).map nI := by
    apply List.ext_getElem?
    intro i
    rw [List.getElem?_map, List.getElem?_map]
    by_cases hi : i < s.length
    · have hi' : i < (ap a s).length := by rw [hl]; exact hi
      rw [List.getElem?_range hi, List.getElem?_eq_getElem hi']
      simp [List.getD_eq_getElem?_getD, hi']
    · rw [List.getElem?_eq_none (by simpa using hi), List.getElem?_eq_none (by rw [hl]; omega)]
      rfl
  rw [q] at c
  have e : forGo (fun ρ' => exs gl (run gl tb fu (n - 1)) fu H_after_f1 ρ') (.tp [.nm 3, .nm 4, .nm 5]) (a.map eO) ([.val (.d (eA a)), .val (.d (eS s)), .own (.tuple (s.map nI)), .emp, .emp, .emp] : Ev) t = _ := e
  simp only [H_after, exs_cons]
  rw [d, seq_next]
  show R.bnd (R.seq (ex gl _ fu (.for_ (.tp [.nm 3, .nm 4, .nm 5]) (.seq (.var 0)) H_after_f1) [.val (.d (eA a)), .val (.d (eS s)), .own (.tuple (s.map nI)), .emp, .emp, .emp] t) _) _ = _
  have it : evItA gl (run gl tb fu (n - 1)) (.seq (.var 0)) [.val (.d (eA a)), .val (.d (eS s)), .own (.tuple (s.map nI)), .emp, .emp, .emp] t = .ok (a.map eO, [.val (.d (eA a)), .val (.d (eS s)), .own (.tuple (s.map nI)), .emp, .emp, .emp]) t := by simp [eA]
  rw [ex_for, it, bnd_ok]
  dsimp only
  rw [e, noX_ok, seq_next]
  simp only [exs_cons, ex_ret, evA_b1, ev_b1, bind_at, c, bnd_ok, asD_at, b1_tuple_l, opt_some, seq_ret, endV_ret]
  rfl
theorem run_law_back_from (hb : HasD tb 87 2 2 H_back_from) (hn : 1 ≤ n) {p : Plan} {i : Nat} (hi : i ≤ p.steps.length) : run gl tb fu n 87 [.d (eP p), .d (.int ((i : Int) - 1))] t = .ok (.d (eX (takeB p i))) t := by
  rw [run_has hb rfl (by omega)]
  show R.bnd (exs gl _ fu H_back_from [.val (.d (eP p)), .val (.d (.int ((i : Int) - 1)))] t) _ = _
  cases i with
  | zero => simp [H_back_from, takeB, eX, kS]
  | succ i =>
    obtain ⟨s, hs, _⟩ := at_step (show i < p.steps.length by omega)
    have e : (((i + 1 : Nat) : Int) - 1) = (i : Nat) := by omega
    rw [e]
    have e2 : ¬ ((i : Int) < 0) := by omega
    have e3 := subSt hs
    cases hb : s.bck with
    | none =>
      have hh : hasBack p i = false := by unfold hasBack; rw [hs]; simp [hb]
      simp [H_back_from, takeB, eX, kS, e2, e3, hb, hh]
    | some b =>
      have hh : hasBack p i = true := by unfold hasBack; rw [hs]; simp [hb]
      simp [H_back_from, takeB, eX, eC, e2, e3, hb, hh]
end
/-! ### all outcomes -/
structure Mv where
  o : Out
  nx : Nx
  made : List Call
  st : List Nat
def eMv (m : Mv) : PyData := .tuple [.str (oS m.o), eX m.nx, .list (m.made.map eC), eS m.st]
def thereT (p : Plan) (g : List Call) (c : Call) (m : List Call) (s : List Nat) : List Nat := if effB g c m = true then ap (actOf p c) s else s
def mayRefT (p : Plan) (g : List Call) (c : Call) (m : List Call) : Bool := isGo c && (mayRef p c.pos && !(decide (c ∈ g) && decide (c ∈ m)))
def movesT (p : Plan) (g : List Call) (c : Call) (m : List Call) (s : List Nat) : List Mv :=
  [⟨.lost, nextN p c .lost, addC p m c, thereT p g c m s⟩, ⟨.missed, nextN p c .missed, m, s⟩, ⟨.ok, nextN p c .ok, addC p m c, thereT p g c m s⟩] ++ (if mayRefT p g c m = true then [⟨.refused, nextN p c .refused, m, s⟩] else [])
theorem nmem_eCl (c : Call) (l : List Call) : cmpD .nmem (eC c) (.list (l.map eC)) = some (!decide (c ∈ l)) := codC.nmemL c l
theorem mem_eCl (c : Call) (l : List Call) : cmpD .mem (eC c) (.list (l.map eC)) = some (decide (c ∈ l)) := codC.memL c l
section
variable {gl : Nat → Option PyData} {φ : Nat → List Val → M Val} {tb : Nat → Option Fn} {fu n : Nat} {t : Town} {ρ : Ev}
theorem run_law_moves (ha : HasD tb 73 6 2 H_after) (hb : HasD tb 87 2 2 H_back_from) (hm : HasD tb 88 13 5 H_moves) (hn : 2 ≤ n) {p : Plan} (hp : PlanOk p) {g : List Call} {c : Call} (hc : c ∈ calls p) {m : List Call} (mk : MadeOk p m) {s : List Nat} (hs : StOk p.k s) :
    run gl tb fu n 88 [.d (eP p), .d (eCs g), .d (eC c), .d (.list (m.map eC)), .d (eS s)] t = .ok (.d (.list ((movesT p g c m s).map eMv))) t := by
  rw [run_has hm rfl (by omega)]
  show R.bnd (exs gl _ fu H_moves [.val (.d (eP p)), .val (.d (eCs g)), .val (.d (eC c)), .val (.d (.list (m.map eC))), .val (.d (eS s)), .emp, .emp, .emp, .emp, .emp, .emp, .emp, .emp] t) _ = _
  obtain ⟨h1, h2⟩ := mem_calls.mp hc
  obtain ⟨st, hst, hmem⟩ := at_step h1
  have e5 := subSt hst
  have m8 := mk.len hp.n4
  -- kind, at, step
  have s1 : setTg (.tp [.nm 5, .nm 6]) (.d (eC c)) [.val (.d (eP p)), .val (.d (eCs g)), .val (.d (eC c)), .val (.d (.list (m.map eC))), .val (.d (eS s)), .emp, .emp, .emp, .emp, .emp, .emp, .emp, .emp] = some [.val (.d (eP p)), .val (.d (eCs g)), .val (.d (eC c)), .val (.d (.list (m.map eC))), .val (.d (eS s)), .val (.d (.str (cS c))), .val (.d (nI c.pos)), .emp, .emp, .emp, .emp, .emp, .emp] := by
    rw [eC_eq, setTg2 (by simp) (by simp)]
    rfl
  have a1 := add_ll (a := m.map eC) (b := [eC c]) (by simp; omega)
  have a2 : b1D .sortedSet (.list (m.map eC ++ [eC c])) = some (.list ((addC p m c).map eC)) := by
    have := sortedSet_eC (p := p) (l := m ++ [c]) (by simp; omega) (add_made p m c) (fun x => by rw [mem_addC mk hc]; simp) false
    rw [List.map_append] at this
    exact this
  have r1 : exs gl (run gl tb fu (n - 1)) fu (H_moves.take 3) [.val (.d (eP p)), .val (.d (eCs g)), .val (.d (eC c)), .val (.d (.list (m.map eC))), .val (.d (eS s)), .emp, .emp, .emp, .emp, .emp, .emp, .emp, .emp] t = .ok (.next [.val (.d (eP p)), .val (.d (eCs g)), .val (.d (eC c)), .val (.d (.list (m.map eC))), .val (.d (eS s)), .val (.d (.str (cS c))), .val (.d (nI c.pos)), .val (.d (eT st)), .val (.d (eS s)), .val (.d (.list ((addC p m c).map eC))), .emp, .emp, .emp]) t := by
    simp [H_moves, s1, e5, a1, a2, setPar]
  -- there
  have okA := act_ok hp hc
  have e6 := run_law_after (gl := gl) (fu := fu) (t := t) ha (show 1 ≤ n - 1 by omega) hp.k3 okA.2 hs.1
  have m1 := nmem_eC c g
  have m2 := nmem_eCl c m
  have m3 := mem_eCl (.go c.pos) m
  have z1 : eC (.go c.pos) = .tuple [.str S_do, .int (c.pos : Nat)] := rfl
  rw [z1] at m3
  have r2 : exs gl (run gl tb fu (n - 1)) fu ((H_moves.drop 3).take 1) [.val (.d (eP p)), .val (.d (eCs g)), .val (.d (eC c)), .val (.d (.list (m.map eC))), .val (.d (eS s)), .val (.d (.str (cS c))), .val (.d (nI c.pos)), .val (.d (eT st)), .val (.d (eS s)), .val (.d (.list ((addC p m c).map eC))), .emp, .emp, .emp] t = .ok (.next [.val (.d (eP p)), .val (.d (eCs g)), .val (.d (eC c)), .val (.d (.list (m.map eC))), .val (.d (eS s)), .val (.d (.str (cS c))), .val (.d (nI c.pos)), .val (.d (eT st)), .val (.d (eS (thereT p g c m s))), .val (.d (.list ((addC p m c).map eC))), .emp, .emp, .emp]) t := by
    have call : effB g c m = true → R.seq (ex gl (run gl tb fu (n - 1)) fu (.asg (.nm 8) (.call 73 [.ite (.cmp .eq (.var 5) (.con (.str S_do))) (.sub (.var 7) (.con (.int 0))) (.sub (.var 7) (.con (.int 1))), .var 4])) [.val (.d (eP p)), .val (.d (eCs g)), .val (.d (eC c)), .val (.d (.list (m.map eC))), .val (.d (eS s)), .val (.d (.str (cS c))), .val (.d (nI c.pos)), .val (.d (eT st)), .val (.d (eS s)), .val (.d (.list ((addC p m c).map eC))), .emp, .emp, .emp] t) (fun ρ' t => .ok (.next ρ') t) = .ok (.next [.val (.d (eP p)), .val (.d (eCs g)), .val (.d (eC c)), .val (.d (.list (m.map eC))), .val (.d (eS s)), .val (.d (.str (cS c))), .val (.d (nI c.pos)), .val (.d (eT st)), .val (.d (eS (thereT p g c m s))), .val (.d (.list ((addC p m c).map eC))), .emp, .emp, .emp]) t := fun he => by
      unfold thereT
      rw [if_pos he]
      cases hg : isGo c with
      | true =>
        have ea : actOf p c = st.act := by unfold actOf; rw [hst]; simp [hg]
        rw [ea] at e6 ⊢
        simp [hg, e6]
      | false =>
        have hbk : ∃ b, st.bck = some b := by
          cases c with
          | back i =>
            have := h2 i rfl
            unfold hasBack at this
            have hst' : p.steps[i]? = some st := hst
            rw [hst'] at this
            exact Option.isSome_iff_exists.mp this
          | go i => cases hg
        obtain ⟨b, hbk⟩ := hbk
        have ea : actOf p c = b := by unfold actOf; rw [hst]; simp [hg, hbk]
        rw [ea] at e6 ⊢
        simp [hg, hbk, eB, e6]
    have ef : effB g c m = (!decide (c ∈ g) || (!decide (c ∈ m) && (isGo c || decide (Call.go c.pos ∈ m)))) := rfl
    show exs gl (run gl tb fu (n - 1)) fu [.ite (.or (.cmp .nmem (.var 2) (.var 1)) (.and (.cmp .nmem (.var 2) (.var 3)) (.or (.cmp .eq (.var 5) (.con (.str S_do))) (.cmp .mem (.tup [.con (.str S_do), .var 6]) (.var 3))))) [.asg (.nm 8) (.call 73 [.ite (.cmp .eq (.var 5) (.con (.str S_do))) (.sub (.var 7) (.con (.int 0))) (.sub (.var 7) (.con (.int 1))), .var 4])] []] _ t = _
    have cnd : (ev gl (run gl tb fu (n - 1)) (.or (.cmp .nmem (.var 2) (.var 1)) (.and (.cmp .nmem (.var 2) (.var 3)) (.or (.cmp .eq (.var 5) (.con (.str S_do))) (.cmp .mem (.tup [.con (.str S_do), .var 6]) (.var 3))))) [.val (.d (eP p)), .val (.d (eCs g)), .val (.d (eC c)), .val (.d (.list (m.map eC))), .val (.d (eS s)), .val (.d (.str (cS c))), .val (.d (nI c.pos)), .val (.d (eT st)), .val (.d (eS s)), .val (.d (.list ((addC p m c).map eC))), .emp, .emp, .emp] >>= asB) t = .ok (effB g c m) t := by
      rw [ef]
      by_cases q1 : c ∈ g
      · by_cases q2 : c ∈ m
        · simp [m1, m2, q1, q2]
        · cases hg : isGo c with
          | true => simp [m1, m2, q1, q2, hg]
          | false => simp [m1, m2, m3, q1, q2, hg]
      · simp [m1, q1]
    rw [exs_cons, ex_ite, cnd, bnd_ok]
    cases he : effB g c m with
    | true =>
      rw [if_pos rfl, exs_cons]
      simp only [exs_nil]
      rw [call he]
      rfl
    | false =>
      unfold thereT
      rw [he]
      rfl
  -- unsure, later
  have hl : p.steps.length = (p.steps.map eT).length := by simp
  have e7 := run_law_back_from (gl := gl) (fu := fu) (t := t) hb (show 1 ≤ n - 1 by omega) (p := p) (i := c.pos) (by omega)
  have e8 := run_law_back_from (gl := gl) (fu := fu) (t := t) hb (show 1 ≤ n - 1 by omega) (p := p) (i := c.pos + 1) (by omega)
  have z3 : (((c.pos + 1 : Nat) : Int) - 1) = (c.pos : Nat) := by omega
  rw [z3] at e8
  have r3 : ∀ T D : PyData, exs gl (run gl tb fu (n - 1)) fu ((H_moves.drop 4).take 2) [.val (.d (eP p)), .val (.d (eCs g)), .val (.d (eC c)), .val (.d (.list (m.map eC))), .val (.d (eS s)), .val (.d (.str (cS c))), .val (.d (nI c.pos)), .val (.d (eT st)), .val (.d T), .val (.d D), .emp, .emp, .emp] t = .ok (.next [.val (.d (eP p)), .val (.d (eCs g)), .val (.d (eC c)), .val (.d (.list (m.map eC))), .val (.d (eS s)), .val (.d (.str (cS c))), .val (.d (nI c.pos)), .val (.d (eT st)), .val (.d T), .val (.d D), .val (.d (eX (nextN p c .lost))), .val (.d (eX (nextN p c .ok))), .emp]) t := fun T D => by
    cases c with
    | back i =>
      simp only [Call.pos] at e7
      simp [H_moves, setPar, e7, isGo, nextN, eX, Call.pos]
    | go i =>
      simp only [Call.pos] at e7 e8
      have nl : ∀ (A B : Nx), eX (if p.again = true then A else B) = if p.again = true then eX A else eX B := fun A B => by split <;> rfl
      by_cases q1 : i + 1 < p.steps.length
      · have q1' : (i : Int) + 1 < (p.steps.length : Int) := by omega
        have z4 : eC (.go (i + 1)) = .tuple [.str S_do, .int ((i : Int) + 1)] := rfl
        cases q2 : p.again with
        | true => simp [H_moves, setPar, e7, isGo, nextN, eX, Call.pos, q1, q1', q2, z4]
        | false => simp [H_moves, setPar, e7, e8, isGo, nextN, eX, Call.pos, q1, q1', q2, z4]
      · have q1' : ¬ (i : Int) + 1 < (p.steps.length : Int) := by omega
        cases q2 : p.again with
        | true => simp [H_moves, setPar, e7, isGo, nextN, eX, Call.pos, q1, q1', q2, kS]
        | false => simp [H_moves, setPar, e7, e8, isGo, nextN, eX, Call.pos, q1, q1', q2, kS]
  have nm : nextN p c .missed = nextN p c .lost := by cases c <;> rfl
  have m4 := mem_eC c g
  have m5 := mem_eCl c m
  have hr := mayRef_iff hst
  have r4 : ∀ T : List Nat, exs gl (run gl tb fu (n - 1)) fu (H_moves.drop 6) [.val (.d (eP p)), .val (.d (eCs g)), .val (.d (eC c)), .val (.d (.list (m.map eC))), .val (.d (eS s)), .val (.d (.str (cS c))), .val (.d (nI c.pos)), .val (.d (eT st)), .val (.d (eS T)), .val (.d (.list ((addC p m c).map eC))), .val (.d (eX (nextN p c .lost))), .val (.d (eX (nextN p c .ok))), .emp] t = .ok (.ret (.d (.list ((([⟨.lost, nextN p c .lost, addC p m c, T⟩, ⟨.missed, nextN p c .missed, m, s⟩, ⟨.ok, nextN p c .ok, addC p m c, T⟩] : List Mv) ++ (if mayRefT p g c m = true then ([⟨.refused, nextN p c .refused, m, s⟩] : List Mv) else [])).map eMv)))) t := fun T => by
    have z5 : (3 : Nat) < sizeLine := by rw [sizeLine_eq]; omega
    unfold mayRefT
    cases hg : isGo c with
    | false => simp [H_moves, fresh, hg, eMv, nm, oS]
    | true =>
      have nr : nextN p c .refused = takeB p c.pos := by
        cases c with
        | back i => cases hg
        | go i => rfl
      rw [hr]
      cases q1 : st.ref with
      | false => simp [H_moves, fresh, hg, eMv, nm, oS, q1]
      | true =>
        by_cases q2 : c ∈ g
        · by_cases q3 : c ∈ m
          · simp [H_moves, fresh, hg, eMv, nm, oS, q1, m4, m5, q2, q3]
          · simp [H_moves, fresh, hg, eMv, nm, oS, q1, m4, m5, q2, q3, app_own, z5, e7, nr]
        · simp [H_moves, fresh, hg, eMv, nm, oS, q1, m4, q2, app_own, z5, e7, nr]
  rw [← List.take_append_drop 3 H_moves, exs_app, r1, seq_next, ← List.take_append_drop 1 (H_moves.drop 3), exs_app, r2, seq_next, List.drop_drop, ← List.take_append_drop 2 (H_moves.drop (3 + 1)), exs_app]
  show R.bnd (R.seq (exs gl _ fu ((H_moves.drop 4).take 2) _ t) _) _ = _
  rw [r3, seq_next, List.drop_drop]
  show R.bnd (exs gl _ fu (H_moves.drop 6) _ t) _ = _
  rw [r4]
  rfl
end
end Bk
namespace Bk
open PySem PySem.Spec PyProof.Rows L2
def L_walk_f1 : List IS := [.asg (.nm 9) (.call 88 [.var 2, .var 3, .var 5, .var 6, .var 7]), .asg (.nm 10) (.sub (.var 9) (.sub (.tup [.con (.int 2), .con (.int 2), .con (.int 0), .con (.int 1), .bin .sub (.b1 .len (.var 9)) (.con (.int 1))]) (.call 70 [.var 0, .var 1, .con (.int 5)]))), .asg (.nm 8) (.bin .add (.var 8) (.tup [.bin .add (.var 5) (.tup [.sub (.var 10) (.con (.int 0))])])), .asg (.tp [(.nm 5), (.nm 6), (.nm 7)]) (.slc (.var 10) (.con (.int 1)) (.con .none))]
def L_walk : List IS := [.par [(5, false), (6, false), (7, false), (8, false)] [.tup [.con (.str S_do), .con (.int 0)], .lst [], .var 4, .tup []], .while_ (.and (.not (.isi .str (.var 5))) (.cmp .lt (.b1 .len (.var 8)) (.con (.int 9)))) L_walk_f1, .ret (.var 8)]
def L_bad : List IS := [.ret (.cmp .nmem (.var 2) (.tup [.tup [.con (.str S_done), .call 30 [.var 0, .var 1]], .tup [.con (.str S_undone), .var 1]]))]
def L_law_f1 : List IS := [.asg (.nm 10) (.call 89 [.var 0, .var 1, .var 3, .var 4, .var 5]), .ite (.and (.call 39 [.var 3, .var 4, .var 10]) (.not (.call 93 [.var 3, .var 4, .var 5, .var 10]))) [.ret (.con (.bool false))] []]
def L_law_f2 : List IS := [.asg (.nm 3) (.call 82 [.var 0, .var 1]), .par [(4, false), (5, false)] [.call 84 [.var 0, .var 1, .var 3], .call 85 [.var 0, .var 1, .var 3]], .par [(6, false), (7, false)] [.call 45 [.var 3, .var 4, .var 5], .call 47 [.var 3, .var 4, .var 5]], .ite (.cmp .ne (.call 44 [.var 3, .var 4, .var 5]) (.cmp .isN (.var 6) (.con .none))) [.ret (.con (.bool false))] [], .ite (.cmp .ne (.cmp .isN (.var 6) (.con .none)) (.cmp .eq (.lc (.var 8) (.nm 8) (.seq (.var 7)) (.call 92 [.var 3, .var 5, .var 8])) (.lst []))) [.ret (.con (.bool false))] [], .ite (.cmp .notN (.var 6) (.con .none)) [.ite (.not (.call 39 [.var 3, .var 4, .var 6])) [.ret (.con (.bool false))] [], .ite (.not (.call 92 [.var 3, .var 5, .call 40 [.var 3, .var 4, .var 5, .var 6]])) [.ret (.con (.bool false))] []] [], .for_ (.nm 9) (.rng (.con (.int 5))) L_law_f1, .asg (.nm 11) (.b1 .tuple (.lc (.tup [.con (.str S_do), .var 12, .con (.str S_ok)]) (.nm 12) (.rng (.b1 .len (.sub (.var 3) (.con (.int 1))))) (.con (.bool true)))), .ite (.cmp .ne (.call 40 [.var 3, .var 4, .var 5, .var 11]) (.tup [.con (.str S_done), .call 30 [.var 3, .var 5]])) [.ret (.con (.bool false))] [], .ite (.cmp .nmem (.tup [.con (.str S_done), .call 30 [.var 3, .var 5]]) (.var 7)) [.ret (.con (.bool false))] [], .asg (.nm 13) (.tup [.sub (.var 3) (.con (.int 0)), .b1 .tuple (.lc (.bin .add (.slc (.var 14) (.con .none) (.con (.int 2))) (.tup [.con (.bool false)])) (.nm 14) (.seq (.sub (.var 3) (.con (.int 1)))) (.con (.bool true))), .sub (.var 3) (.con (.int 2))]), .ite (.cmp .ne (.lc (.var 8) (.nm 8) (.seq (.call 47 [.var 13, .var 4, .var 5])) (.cmp .nmem (.var 8) (.var 7))) (.lst [])) [.ret (.con (.bool false))] [], .ite (.cmp .lt (.sub (.var 3) (.con (.int 0))) (.con (.int 3))) [.asg (.nm 15) (.call 46 [.var 3, .var 4]), .ite (.cmp .ne (.lc (.var 16) (.nm 16) (.seq (.call 46 [.var 13, .var 4])) (.cmp .nmem (.var 16) (.var 15))) (.lst [])) [.ret (.con (.bool false))] []] []]
def L_law : List IS := [.for_ (.nm 2) (.rng (.con (.int 4))) L_law_f2, .ret (.con (.bool true))]
def lawT : Nat → Option Fn
  | 70 => some (.nat 3 drawV)
  | 75 => some (.py ["script", "town", "items", "found", "k", "way", "item", "other"] 3 H_action)
  | 82 => some (.py ["script", "town", "items", "found", "k", "action", "one", "back"] 2 H_plan)
  | 83 => some (.py ["plan", "backs", "at", "step"] 1 H_calls)
  | 84 => some (.py ["script", "town", "plan", "call"] 3 H_guards)
  | 85 => some (.py ["script", "town", "plan", "item"] 3 H_start)
  | 73 => some (.py ["action", "state", "known", "name", "item", "value"] 2 H_after)
  | 87 => some (.py ["plan", "at"] 2 H_back_from)
  | 88 => some (.py ["plan", "guards", "here", "made", "state", "kind", "at", "step", "there", "done", "unsure", "later", "found"] 5 H_moves)
  | 89 => some (.py ["script", "town", "plan", "guards", "start", "here", "made", "state", "run", "some", "pick"] 5 L_walk)
  | 92 => some (.py ["plan", "start", "end"] 3 L_bad)
  | 93 => some (.py ["plan", "guards", "start", "run", "end", "found"] 4 H_fits)
  | n => progT n
abbrev lawN : List Str := ["script", "town", "k", "plan", "guards", "start", "found", "some", "end", "j", "run", "plain", "at", "calm", "step", "rows", "one"]
def lawF : List (Str × Nat × Nat) := ([("is_between", 0, 3), ("is_ascending", 1, 1), ("is_state_of", 3, 2), ("is_operation", 5, 2), ("is_action_of", 6, 2), ("applied", 9, 2), ("states_of", 11, 1), ("is_step", 21, 2), ("is_plan", 22, 1), ("check_plan", 23, 1), ("calls_of", 24, 1), ("is_call", 25, 2), ("check_guards", 26, 2), ("check_start", 27, 2), ("goal_of", 29, 2), ("goal", 30, 2), ("outcomes_of", 31, 4), ("taking_back", 32, 2), ("next_of", 33, 3), ("has_effect", 34, 3), ("called", 35, 5), ("moved", 36, 6), ("is_event", 37, 1), ("followed", 38, 4), ("is_run", 39, 3)] : List (Str × Nat × Nat)) ++ ([("run_end", 40, 4), ("is_good_end", 41, 3), ("found_ends", 42, 3), ("are_good", 43, 3), ("ends_clean", 44, 3), ("bad_run", 45, 3), ("bad_starts", 46, 2), ("ends", 47, 3), ("_law_action", 75, 3), ("_law_plan", 82, 2), ("_law_calls", 83, 1), ("_law_guards", 84, 3), ("_law_start", 85, 3), ("_law_after", 73, 2), ("_law_back_from", 87, 2), ("_law_moves", 88, 5), ("_law_walk", 89, 5), ("_law_bad", 92, 3), ("_law_fits", 93, 4), ("_law_draw", 70, 3)] : List (Str × Nat × Nat))
def lawE : List (Str × Nat) := [("InvalidPlan", 4), ("InvalidGuards", 5), ("InvalidStart", 6), ("InvalidRun", 7)]
def lawG : List (Str × Nat) := [("FIRST", 1)]
end Bk
namespace Bk
open PySem
theorem whGo_succ {c : Ev → M Bool} {f : Ev → M Fl} (m : Nat) (ρ : Ev) (t : Town) : whGo c f (m + 1) ρ t = R.bnd (c ρ t) fun b t => if b = true then R.seq (f ρ t) (fun ρ' t => whGo c f m ρ' t) else .ok (.next ρ) t := by
  show R.bnd _ _ = _
  congr 1
  funext b t
  rw [ite_at]
  congr 1
  show R.bnd _ _ = _
  unfold R.seq
  congr 1
  funext fl t
  cases fl <;> rfl
theorem bck_ok {p : Plan} (hp : PlanOk p) {i : Nat} {b : List Op} (h : bckOf p i = some b) : ActOk p.k b := by
  unfold bckOf at h
  cases hx : p.steps[i]? with
  | none => rw [hx] at h; cases h
  | some x =>
    rw [hx] at h
    exact (hp.st x (List.mem_of_getElem? hx)).2 b h
theorem back_st {p : Plan} (hp : PlanOk p) : ∀ (j : Nat) {u : List Nat}, StOk p.k u → StOk p.k (backT p j u).2
  | 0, _, h => h
  | j + 1, u, h => by
    cases hb : bckOf p j with
    | none => rw [back_none hb]; exact h
    | some b => rw [back_some hb]; exact back_st hp j (ap_ok (bck_ok hp hb).2 h)
theorem pre_st {p : Plan} (hp : PlanOk p) (i : Nat) {s : List Nat} (h : StOk p.k s) : StOk p.k (preT p i s) := goal_st (fun x hx => hp.st x (List.mem_of_mem_take hx)) h
theorem bckOf_eq {p : Plan} {i : Nat} {x : Step} (h : p.steps[i]? = some x) : bckOf p i = x.bck := by
  unfold bckOf
  rw [h]
section
variable {gl : Nat → Option PyData} {tb : Nat → Option Fn} {fu n : Nat} {t : Town}
theorem back_loop (hP : PT tb) (hn : 6 ≤ n) {p : Plan} (hp : PlanOk p) : ∀ (j m : Nat) {u : List Nat} (x : Slot), j ≤ p.steps.length → j < m → StOk p.k u →
    (∃ x' v, backT p j u = (.undone, v) ∧ whGo (fun ρ' => ev gl (run gl tb fu (n - 1)) (.cmp .ge (.var 1) (.con (.int 0))) ρ' >>= asB) (fun ρ' => exs gl (run gl tb fu (n - 1)) fu H_back_f1 ρ') m [.val (.d (eP p)), .val (.d (.int ((j : Int) - 1))), .val (.d (eS u)), x] t = .ok (.next [.val (.d (eP p)), .val (.d (.int (-1))), .val (.d (eS v)), x']) t) ∨
    whGo (fun ρ' => ev gl (run gl tb fu (n - 1)) (.cmp .ge (.var 1) (.con (.int 0))) ρ' >>= asB) (fun ρ' => exs gl (run gl tb fu (n - 1)) fu H_back_f1 ρ') m [.val (.d (eP p)), .val (.d (.int ((j : Int) - 1))), .val (.d (eS u)), x] t = .ok (.ret (.d (eE (backT p j u)))) t
  | 0, m + 1, u, x, _, _, _ => by
    left
    refine ⟨x, u, rfl, ?_⟩
    rw [whGo_succ]
    simp
  | j + 1, m + 1, u, x, hj, hm, hu => by
    obtain ⟨st, hst⟩ := step_at (show j < p.steps.length by omega)
    have e0 : (((j + 1 : Nat) : Int) - 1) = (j : Nat) := by omega
    rw [e0]
    have e1 := subSt hst
    have hb := bckOf_eq hst
    have hc : (ev gl (run gl tb fu (n - 1)) (.cmp .ge (.var 1) (.con (.int 0))) [.val (.d (eP p)), .val (.d (.int (j : Nat))), .val (.d (eS u)), x] >>= asB) t = .ok true t := by simp
    rw [whGo_succ, hc, bnd_ok, if_pos rfl]
    cases hbk : st.bck with
    | none =>
      right
      rw [back_none (by rw [hb, hbk])]
      simp [H_back_f1, e1, hbk, eB, eE, kS]
    | some b =>
      rw [back_some (by rw [hb, hbk])]
      have okb := bck_ok hp (by rw [hb, hbk])
      have e2 := run_after (gl := gl) (fu := fu) (t := t) hP (show 5 ≤ n - 1 by omega) hp.k1 hp.k3 okb hu
      simp only [nI_def] at e2
      have e3 : exs gl (run gl tb fu (n - 1)) fu H_back_f1 [.val (.d (eP p)), .val (.d (.int (j : Nat))), .val (.d (eS u)), x] t = .ok (.next [.val (.d (eP p)), .val (.d (.int ((j : Int) - 1))), .val (.d (eS (ap b u))), .val (.d (eA b))]) t := by
        have e4 : cmpD .isN (eA b) .none = some false := rfl
        simp [H_back_f1, e1, hbk, eB, e2, e4]
      rw [e3, seq_next]
      exact back_loop hP hn hp j m _ (by omega) (by omega) (ap_ok okb.2 hu)
theorem run_law_back (hP : PT tb) (hb : HasD tb 114 4 3 H_back) (hn : 6 ≤ n) {p : Plan} (hp : PlanOk p) {j : Nat} (hj : j ≤ p.steps.length) {u : List Nat} (hu : StOk p.k u) : run gl tb 100000 n 114 [.d (eP p), .d (.int ((j : Int) - 1)), .d (eS u)] t = .ok (.d (eE (backT p j u))) t := by
  rw [run_has hb rfl (by omega)]
  show R.bnd (exs gl _ 100000 H_back [.val (.d (eP p)), .val (.d (.int ((j : Int) - 1))), .val (.d (eS u)), .emp] t) _ = _
  have := hp.n4
  rcases back_loop (gl := gl) (fu := 100000) (t := t) hP hn hp j 100000 (u := u) .emp hj (by omega) hu with ⟨x', v, e1, e2⟩ | e2
  · rw [e1]
    simp [H_back, ex_while, e2, eE, kS]
  · simp [H_back, ex_while, e2]
theorem rule_back (b : Bool) : (eRule b == S_back) = !b := by cases b <;> rfl
theorem listed_turn (hP : PT tb) (hb : HasD tb 114 4 3 H_back) (hn : 7 ≤ n) {p : Plan} (hp : PlanOk p) {i : Nat} {st : Step} (hst : p.steps[i]? = some st) {s : List Nat} (hs : StOk p.k s) {l : List End} (hl : l.length ≤ 1000) (x : Slot) :
    ∃ y, exs gl (run gl tb 100000 (n - 1)) 100000 H_listed_f1 [.val (.d (eP p)), .val (.d (eS s)), .own (.list (l.map eE)), .val (.d (eS (preT p i s))), .val (.d (.int (i : Nat))), .val (.d (eT st)), x] t = .ok (.next [.val (.d (eP p)), .val (.d (eS s)), .own (.list ((l ++ endsAt p s i).map eE)), .val (.d (eS (preT p (i + 1) s))), .val (.d (.int (i : Nat))), .val (.d (eT st)), y]) t := by
  have hi := step_len hst
  have pi := pre_st hp i hs
  have pj := pre_st hp (i + 1) hs
  have e1 := run_law_back (gl := gl) (t := t) hP hb (show 6 ≤ n - 1 by omega) hp (j := i) (by omega) pi
  have e2 := run_law_back (gl := gl) (t := t) hP hb (show 6 ≤ n - 1 by omega) hp (j := i + 1) (by omega) pj
  have e0 : (((i + 1 : Nat) : Int) - 1) = (i : Nat) := by omega
  rw [e0] at e2
  have oks := hp.st st (List.mem_of_getElem? hst)
  have e3 := run_after (gl := gl) (fu := 100000) (t := t) hP (show 5 ≤ n - 1 by omega) hp.k1 hp.k3 oks.1 pi
  rw [← pre_succ hst] at e3
  simp only [nI_def] at e3
  have hr := mayRef_iff hst
  have hh := hasBack_iff hst
  have z1 : ∀ l' : List End, l'.length ≤ 2000 → l'.length < sizeLine := fun l' h => by rw [sizeLine_eq]; omega
  refine ⟨.val (.d (eS (preT p (i + 1) s))), ?_⟩
  unfold endsAt
  -- the first row
  have r1 : ex gl (run gl tb 100000 (n - 1)) 100000 (.ite (.sub (.var 5) (.con (.int 2))) [.app 2 (.call 114 [.var 0, .bin .sub (.var 4) (.con (.int 1)), .var 3])] []) [.val (.d (eP p)), .val (.d (eS s)), .own (.list (l.map eE)), .val (.d (eS (preT p i s))), .val (.d (.int (i : Nat))), .val (.d (eT st)), x] t = .ok (.next [.val (.d (eP p)), .val (.d (eS s)), .own (.list ((l ++ if mayRef p i = true then [backT p i (preT p i s)] else []).map eE)), .val (.d (eS (preT p i s))), .val (.d (.int (i : Nat))), .val (.d (eT st)), x]) t := by
    rw [hr]
    cases q : st.ref with
    | false => simp [q]
    | true => simp [q, app_own, e1, z1 l (by omega)]
  have r2 : ∀ l' : List End, l'.length ≤ 1500 → ex gl (run gl tb 100000 (n - 1)) 100000 (.ite (.cmp .eq (.sub (.var 0) (.con (.int 2))) (.con (.str S_back))) [.app 2 (.call 114 [.var 0, .var 4, .var 6]), .app 2 (.ite (.cmp .isN (.sub (.var 5) (.con (.int 1))) (.con .none)) (.tup [.con (.str S_stuck), .var 3]) (.call 114 [.var 0, .bin .sub (.var 4) (.con (.int 1)), .var 3]))] []) [.val (.d (eP p)), .val (.d (eS s)), .own (.list (l'.map eE)), .val (.d (eS (preT p i s))), .val (.d (.int (i : Nat))), .val (.d (eT st)), .val (.d (eS (preT p (i + 1) s)))] t = .ok (.next [.val (.d (eP p)), .val (.d (eS s)), .own (.list ((l' ++ if p.again = true then [] else [backT p (i + 1) (preT p (i + 1) s), if hasBack p i = true then backT p i (preT p i s) else (.stuck, preT p i s)]).map eE)), .val (.d (eS (preT p i s))), .val (.d (.int (i : Nat))), .val (.d (eT st)), .val (.d (eS (preT p (i + 1) s)))]) t := fun l' hl' => by
    rw [hh]
    cases q : p.again with
    | true => simp [q, rule_back]
    | false =>
      have z2 : l'.length + 1 < sizeLine := by rw [sizeLine_eq]; omega
      cases hbk : st.bck with
      | none =>
        have e5 : PyData.tuple [.str S_stuck, eS (preT p i s)] = eE (.stuck, preT p i s) := rfl
        simp [q, rule_back, app_own, e2, z1 l' (by omega), z2, hbk, eB, e5]
      | some b =>
        have e4 : cmpD .isN (eA b) .none = some false := rfl
        simp [q, rule_back, app_own, e1, e2, z1 l' (by omega), z2, hbk, eB, e4]
  unfold H_listed_f1
  rw [exs_cons, r1, seq_next, exs_cons]
  have r3 : ∀ A : List PyData, ex gl (run gl tb 100000 (n - 1)) 100000 (.asg (.nm 6) (.call 10 [.sub (.var 0) (.con (.int 0)), .sub (.var 5) (.con (.int 0)), .var 3])) [.val (.d (eP p)), .val (.d (eS s)), .own (.list A), .val (.d (eS (preT p i s))), .val (.d (.int (i : Nat))), .val (.d (eT st)), x] t = .ok (.next [.val (.d (eP p)), .val (.d (eS s)), .own (.list A), .val (.d (eS (preT p i s))), .val (.d (.int (i : Nat))), .val (.d (eT st)), .val (.d (eS (preT p (i + 1) s)))]) t := fun A => by
    simp [e3]
  rw [r3, seq_next, exs_cons, r2 _ (by rw [List.length_append]; split <;> simp <;> omega), seq_next, List.append_assoc]
  simp
theorem listed_loop (hP : PT tb) (hb : HasD tb 114 4 3 H_back) (hn : 7 ≤ n) {p : Plan} (hp : PlanOk p) {s : List Nat} (hs : StOk p.k s) : ∀ (j i : Nat), i + j = p.steps.length → ∀ x y z, ∃ x' y' z', forGo (fun ρ' => exs gl (run gl tb 100000 (n - 1)) 100000 H_listed_f1 ρ') (.tp [.nm 4, .nm 5]) ((p.steps.zipIdx.drop i).map eI) [.val (.d (eP p)), .val (.d (eS s)), .own (.list (((List.range i).flatMap (endsAt p s)).map eE)), .val (.d (eS (preT p i s))), x, y, z] t = .ok (.next [.val (.d (eP p)), .val (.d (eS s)), .own (.list (((List.range p.steps.length).flatMap (endsAt p s)).map eE)), .val (.d (eS (preT p p.steps.length s))), x', y', z']) t
  | 0, i, h, x, y, z => by
    have : i = p.steps.length := by omega
    subst this
    refine ⟨x, y, z, ?_⟩
    rw [List.drop_eq_nil_of_le (by simp)]
    rfl
  | j + 1, i, h, x, y, z => by
    obtain ⟨st, hst⟩ := step_at (show i < p.steps.length by omega)
    have hz : p.steps.zipIdx.drop i = (st, i) :: p.steps.zipIdx.drop (i + 1) := by
      rw [List.drop_eq_getElem_cons (by simp; omega)]
      congr 1
      have hi : i < p.steps.length := by omega
      have := List.getElem?_eq_some_iff.mp hst
      obtain ⟨h1, h2⟩ := this
      simp [h2]
    have hl : ((List.range i).flatMap (endsAt p s)).length ≤ 1000 := by
      have := hp.n4
      refine Nat.le_trans (flatMap_len (k := 3) fun k _ => ?_) (by simp; omega)
      unfold endsAt
      rw [List.length_append]
      split <;> split <;> simp
    obtain ⟨w, e⟩ := listed_turn (gl := gl) (t := t) hP hb hn hp hst hs hl z
    have hf : (List.range i).flatMap (endsAt p s) ++ endsAt p s i = (List.range (i + 1)).flatMap (endsAt p s) := by
      rw [List.range_succ, List.flatMap_append]
      simp
    rw [hf] at e
    obtain ⟨x', y', z', e2⟩ := listed_loop hP hb hn hp hs j (i + 1) (by omega) (.val (.d (.int (i : Nat)))) (.val (.d (eT st))) w
    refine ⟨x', y', z', ?_⟩
    rw [hz, List.map_cons, forGo_cons]
    have s1 : setTg (.tp [.nm 4, .nm 5]) (.d (eI (st, i))) [.val (.d (eP p)), .val (.d (eS s)), .own (.list (((List.range i).flatMap (endsAt p s)).map eE)), .val (.d (eS (preT p i s))), x, y, z] = some [.val (.d (eP p)), .val (.d (eS s)), .own (.list (((List.range i).flatMap (endsAt p s)).map eE)), .val (.d (eS (preT p i s))), .val (.d (.int (i : Nat))), .val (.d (eT st)), z] := rfl
    rw [s1, opt_some, bnd_ok, e, seq_next]
    exact e2
theorem listT_len {p : Plan} (hp : PlanOk p) (s : List Nat) : (listT p s).length ≤ 13 := by
  have := hp.n4
  unfold listT
  rw [List.length_append]
  have : ((List.range p.steps.length).flatMap (endsAt p s)).length ≤ (List.range p.steps.length).length * 3 := flatMap_len (k := 3) fun k _ => by
    unfold endsAt
    rw [List.length_append]
    split <;> split <;> simp
  rw [List.length_range] at this
  rw [List.length_singleton]
  omega
theorem run_law_listed (hP : PT tb) (hb : HasD tb 114 4 3 H_back) (hL : HasD tb 115 7 2 H_listed) (hn : 7 ≤ n) {p : Plan} (hp : PlanOk p) {s : List Nat} (hs : StOk p.k s) : run gl tb 100000 n 115 [.d (eP p), .d (eS s)] t = .ok (.d (.list ((endsT p (calls p) s).map eE))) t := by
  rw [run_has hL rfl (by omega)]
  show R.bnd (exs gl _ 100000 H_listed [.val (.d (eP p)), .val (.d (eS s)), .emp, .emp, .emp, .emp, .emp] t) _ = _
  obtain ⟨x', y', z', e⟩ := listed_loop (gl := gl) (t := t) hP hb hn hp hs p.steps.length 0 (by omega) .emp .emp .emp
  have it1 : evIt gl (run gl tb 100000 (n - 1)) (.enu (.sub (.var 0) (.con (.int 1)))) [.val (.d (eP p)), .val (.d (eS s)), .own (.list []), .val (.d (eS s)), .emp, .emp, .emp] t = .ok (p.steps.zipIdx.map eI) t := by
    unfold evIt
    simp [seqD, enum_steps]
  have e0 : ((List.range 0).flatMap (endsAt p s)).map eE = [] := rfl
  rw [e0, pre_zero, List.drop_zero, pre_all] at e
  have e1 : PyData.tuple [.str S_done, eS (goalT p s)] = eE (.done, goalT p s) := rfl
  have ll := listT_len hp s
  have e2 := add_ll (a := ((List.range p.steps.length).flatMap (endsAt p s)).map eE) (b := [eE (.done, goalT p s)]) (by
    unfold listT at ll
    rw [List.length_append] at ll
    simp only [List.length_map, List.length_cons, List.length_nil] at ll ⊢
    omega)
  have e3 : ((List.range p.steps.length).flatMap (endsAt p s)).map eE ++ [eE (.done, goalT p s)] = (listT p s).map eE := by
    unfold listT
    rw [List.map_append]
    rfl
  rw [e3] at e2
  have e4 := sortedSet_eE (l := listT p s) (by omega)
  rw [← ends_eq hp hs (fun e => occ_all hp)] at e4
  simp [H_listed, fresh, setPar, ex_for, it1, e, e1, e2, e4]
end
end Bk
namespace Bk
open PySem
structure Calm (p : Plan) : Prop where
  ag : p.again = true
  nr : ∀ i, mayRef p i = false
/-- a step of such a plan -/
theorem calm_step {p : Plan} (hc : Calm p) {g : List Call} {i : Nat} {m : List Call} {u : List Nat} {o : Out} (ho : o ∈ outs p g (.go i) m) :
    (o = .ok ∧ stepN p g ⟨.go i, m, u⟩ o = nxT (if i + 1 < p.steps.length then .call (.go (i + 1)) else .fin .done) (moveT p g (.go i) m u .ok).1 (moveT p g (.go i) m u .ok).2) ∨ (o = .lost ∧ stepN p g ⟨.go i, m, u⟩ o = .inl ⟨.go i, (moveT p g (.go i) m u .lost).1, (moveT p g (.go i) m u .lost).2⟩) ∨ (o = .missed ∧ stepN p g ⟨.go i, m, u⟩ o = .inl ⟨.go i, m, u⟩) := by
  rw [step_eq]
  cases o with
  | ok => exact .inl ⟨rfl, rfl⟩
  | lost =>
    refine .inr (.inl ⟨rfl, ?_⟩)
    show nxT (if p.again = true then .call (.go i) else takeB p (i + 1)) _ _ = _
    rw [if_pos hc.ag]
    rfl
  | missed =>
    refine .inr (.inr ⟨rfl, ?_⟩)
    show nxT (if p.again = true then .call (.go i) else takeB p (i + 1)) (moveT p g (.go i) m u .missed).1 (moveT p g (.go i) m u .missed).2 = _
    rw [if_pos hc.ag, move_not (by simp) (by simp)]
    rfl
  | refused =>
    exfalso
    rcases mem_outs.mp ho with h | ⟨_, h, _⟩
    · exact h rfl
    · rw [hc.nr] at h
      cases h
theorem calm_done {p : Plan} (hc : Calm p) {g : List Call} {s : List Nat} {e : End} (h : Occ p g s e) : e.1 = .done := by
  obtain ⟨r, h⟩ := occ_lead.mp h
  refine lead_inv (I := fun n => ∃ i, n.here = .go i) (E := fun e => e.1 = .done) (fun n o e i ho hs => ?_) (fun n o n' i ho hs => ?_) h ⟨0, rfl⟩
  · obtain ⟨c, m, u⟩ := n
    obtain ⟨i, rfl⟩ := i
    rcases calm_step hc ho with ⟨_, q⟩ | ⟨_, q⟩ | ⟨_, q⟩
    · rw [q] at hs
      split at hs
      · cases hs
      · cases hs
        rfl
    · rw [q] at hs
      cases hs
    · rw [q] at hs
      cases hs
  · obtain ⟨c, m, u⟩ := n
    obtain ⟨i, rfl⟩ := i
    rcases calm_step hc ho with ⟨_, q⟩ | ⟨_, q⟩ | ⟨_, q⟩
    · rw [q] at hs
      split at hs
      · cases hs
        exact ⟨_, rfl⟩
      · cases hs
    · rw [q] at hs
      cases hs
      exact ⟨_, rfl⟩
    · rw [q] at hs
      cases hs
      exact ⟨_, rfl⟩
/-- the actions that are not guarded may be repeated -/
def RepOk (p : Plan) (g : List Call) : Prop := ∀ i x, p.steps[i]? = some x → Call.go i ∉ g → ∀ u, StOk p.k u → ap x.act (ap x.act u) = ap x.act u
def InvR (p : Plan) (g : List Call) (s : List Nat) (n : Node) : Prop := ∃ i, n.here = .go i ∧ i < p.steps.length ∧ MadeOk p n.made ∧ (∀ j, i < j → Call.go j ∉ n.made) ∧
  ((n.st = preT p i s ∧ (Call.go i ∈ n.made → Call.go i ∉ g)) ∨ (n.st = preT p (i + 1) s ∧ (Call.go i ∈ g → Call.go i ∈ n.made)))
theorem inv_rep {p : Plan} (hp : PlanOk p) (hc : Calm p) {g : List Call} (hr : RepOk p g) {s : List Nat} (hs : StOk p.k s) {n : Node} {o : Out} (h : InvR p g s n) (ho : o ∈ outs p g n.here n.made) : (∀ e, stepN p g n o = .inr e → e = (.done, goalT p s)) ∧ ∀ n', stepN p g n o = .inl n' → InvR p g s n' := by
  obtain ⟨c, m, u⟩ := n
  obtain ⟨i, rfl, hi, hm, hj, hst⟩ := h
  have hi : i < p.steps.length := hi
  have hm : MadeOk p m := hm
  have hj : ∀ j, i < j → Call.go j ∉ m := hj
  have hst : (u = preT p i s ∧ (Call.go i ∈ m → Call.go i ∉ g)) ∨ (u = preT p (i + 1) s ∧ (Call.go i ∈ g → Call.go i ∈ m)) := hst
  obtain ⟨x, hx⟩ := step_at hi
  have gm := go_mem hi
  have pi := pre_st hp i hs
  have mv : ∀ o', o' = .ok ∨ o' = .lost → moveT p g (.go i) m u o' = (addC p m (.go i), preT p (i + 1) s) := fun o' ho' => by
    cases he : effB g (.go i) m with
    | true =>
      rw [move_eff ho' he, act_go hx]
      congr 1
      rcases hst with ⟨rfl, _⟩ | ⟨rfl, hg⟩
      · rw [pre_succ hx]
      · have : Call.go i ∉ g := fun z => by
          rw [eff_go] at he
          simp [z, hg z] at he
        rw [pre_succ hx]
        exact hr i x hx this _ pi
    | false =>
      rw [move_go ho' he]
      congr 1
      rw [eff_go] at he
      simp only [Bool.or_eq_false_iff, Bool.not_eq_false', decide_eq_true_eq] at he
      rcases hst with ⟨_, hq⟩ | ⟨rfl, _⟩
      · exact absurd he.1 (hq he.2)
      · rfl
  have hj' : ∀ j, i < j → Call.go j ∉ addC p m (.go i) := fun j h z => by
    rcases (mem_addC hm gm).mp z with z | z
    · exact hj j h z
    · cases z
      omega
  rcases calm_step hc ho with ⟨rfl, q⟩ | ⟨rfl, q⟩ | ⟨rfl, q⟩
  · rw [q, mv .ok (.inl rfl)]
    by_cases hl : i + 1 < p.steps.length
    · rw [if_pos hl]
      refine ⟨fun e h => (nomatch h), fun n' h => ?_⟩
      cases h
      exact ⟨i + 1, rfl, hl, add_made _ _ _, fun j h => hj' j (by omega), .inl ⟨rfl, fun z => absurd z (hj' (i + 1) (by omega))⟩⟩
    · rw [if_neg hl]
      refine ⟨fun e h => ?_, fun n' h => (nomatch h)⟩
      cases h
      have : i + 1 = p.steps.length := by omega
      show (EndK.done, preT p (i + 1) s) = _
      rw [this, pre_all]
  · rw [q, mv .lost (.inr rfl)]
    refine ⟨fun e h => (nomatch h), fun n' h => ?_⟩
    cases h
    exact ⟨i, rfl, hi, add_made _ _ _, hj', .inr ⟨rfl, fun _ => (mem_addC hm gm).mpr (.inr rfl)⟩⟩
  · rw [q]
    refine ⟨fun e h => (nomatch h), fun n' h => ?_⟩
    cases h
    exact ⟨i, rfl, hi, hm, hj, hst⟩
theorem rep_ends {p : Plan} (hp : PlanOk p) (hc : Calm p) {g : List Call} (hr : RepOk p g) {s : List Nat} (hs : StOk p.k s) {e : End} : Occ p g s e ↔ e = (.done, goalT p s) := by
  constructor
  · intro h
    obtain ⟨r, h⟩ := occ_lead.mp h
    refine lead_inv (I := InvR p g s) (E := fun e => e = (.done, goalT p s)) (fun n o e i ho h => (inv_rep hp hc hr hs i ho).1 e h) (fun n o n' i ho h => (inv_rep hp hc hr hs i ho).2 n' h) h ?_
    exact ⟨0, rfl, hp.n1, made_nil p, fun j _ z => (nomatch z), .inl ⟨rfl, fun z => (nomatch z)⟩⟩
  · rintro rfl
    exact occ_done hp g s
theorem rep_good {p : Plan} (hp : PlanOk p) (hc : Calm p) {g : List Call} (hr : RepOk p g) {s : List Nat} (hs : StOk p.k s) : goodT p g s = true := by
  rw [good_iff hp hs]
  intro e he
  rw [(rep_ends hp hc hr hs).mp he]
  simp [goodE]
/-- a run in which nothing is lost ends with the goal -/
theorem calm_lost {p : Plan} (hp : PlanOk p) (hc : Calm p) {g : List Call} {s : List Nat} {n : Node} {r : Run} {e : End} (h : Lead p g n r e) : (∀ x ∈ r, x.2 ≠ .lost) → (∃ i, n = fwdN p i s ∧ i < p.steps.length) → e = (.done, goalT p s) := by
  induction h with
  | @fin n o e h1 h2 =>
    rintro hl ⟨i, rfl, hi⟩
    rcases calm_step hc h1 with ⟨rfl, q⟩ | ⟨rfl, q⟩ | ⟨rfl, q⟩
    · rw [step_ok hi] at h2
      split at h2
      · cases h2
      · cases h2
        rfl
    · exact absurd rfl (hl _ (List.mem_singleton.mpr rfl))
    · have q : stepN p g (fwdN p i s) .missed = _ := q
      rw [q] at h2
      cases h2
  | @step n n' o r e h1 h2 _ ih =>
    rintro hl ⟨i, rfl, hi⟩
    refine ih (fun x hx => hl x (List.mem_cons_of_mem _ hx)) ?_
    rcases calm_step hc h1 with ⟨rfl, q⟩ | ⟨rfl, q⟩ | ⟨rfl, q⟩
    · rw [step_ok hi] at h2
      split at h2
      · rename_i hlt
        cases h2
        exact ⟨i + 1, rfl, hlt⟩
      · cases h2
    · exact absurd rfl (hl _ (List.mem_cons_self ..))
    · have q : stepN p g (fwdN p i s) .missed = _ := q
      rw [q] at h2
      cases h2
      exact ⟨i, rfl, hi⟩
theorem bad_lost {p : Plan} (hp : PlanOk p) (hc : Calm p) {g : List Call} {s : List Nat} (hs : StOk p.k s) {r : Run} (h : badT p g s = some r) : Out.lost ∈ r.map (·.2) := by
  obtain ⟨⟨e, e1, e2⟩, _⟩ := bad_some hp hs h
  by_cases c : Out.lost ∈ r.map (·.2)
  · exact c
  · exfalso
    have := calm_lost hp hc (s := s) (endsR_lead.mp e1) (fun x hx z => c (List.mem_map.mpr ⟨x, hx, z⟩)) ⟨0, (fwd_zero p s).symm, hp.n1⟩
    rw [this] at e2
    simp [goodE] at e2
/-! ### setting may be repeated -/
def setOnly : Op → Bool
  | .set _ _ => true
  | _ => false
def lastS : List Op → Nat → Option Nat
  | [], _ => none
  | .set i v :: a, j => match lastS a j with
    | some w => some w
    | none => if i = j then some v else none
  | _ :: a, j => lastS a j
theorem ap_set : ∀ {a : List Op} (u : List Nat) (j : Nat), (∀ o ∈ a, setOnly o = true) → (ap a u)[j]? = match lastS a j with
    | some w => if j < u.length then some w else none
    | none => u[j]?
  | [], u, j, _ => rfl
  | o :: a, u, j, h => by
    have ho := h o (List.mem_cons_self ..)
    cases o with
    | set i v =>
      show (ap a (u.set i v))[j]? = _
      rw [ap_set (a := a) _ j fun o' h' => h o' (List.mem_cons_of_mem _ h')]
      show _ = match (match lastS a j with
        | some w => some w
        | none => if i = j then some v else none) with
        | some w => if j < u.length then some w else none
        | none => u[j]?
      cases q : lastS a j with
      | some w => simp
      | none =>
        dsimp only
        by_cases e : i = j
        · subst e
          simp [List.getElem?_set]
        · simp [List.getElem?_set, e]
    | add i v => cases ho
    | cpy i v => cases ho
theorem ap_set_len {a : List Op} : ∀ (u : List Nat), (∀ o ∈ a, setOnly o = true) → (ap a u).length = u.length := by
  induction a with
  | nil => exact fun _ _ => rfl
  | cons o a ih =>
    intro u h
    have ho := h o (List.mem_cons_self ..)
    cases o with
    | set i v =>
      show (ap a (u.set i v)).length = _
      rw [ih _ fun o' h' => h o' (List.mem_cons_of_mem _ h')]
      simp
    | add i v => cases ho
    | cpy i v => cases ho
theorem set_rep {a : List Op} (h : ∀ o ∈ a, setOnly o = true) (u : List Nat) : ap a (ap a u) = ap a u := by
  apply List.ext_getElem?
  intro j
  rw [ap_set _ j h, ap_set u j h, ap_set_len u h]
  cases lastS a j <;> rfl
/-! ### empty steps -/
def Bare (p : Plan) : Prop := ∀ x ∈ p.steps, x.act = [] ∧ x.bck = some []
theorem bare_goal {p : Plan} (h : Bare p) (s : List Nat) : goalT p s = s := by
  unfold goalT
  unfold Bare at h
  generalize p.steps = l at h
  induction l generalizing s with
  | nil => rfl
  | cons x l ih =>
    rw [List.foldl_cons, (h x (List.mem_cons_self ..)).1]
    exact ih _ (fun y hy => h y (List.mem_cons_of_mem _ hy))
theorem bare_act {p : Plan} (h : Bare p) (c : Call) : actOf p c = [] := by
  unfold actOf
  cases hx : p.steps[c.pos]? with
  | none => rfl
  | some x =>
    obtain ⟨h1, h2⟩ := h x (List.mem_of_getElem? hx)
    dsimp only
    split
    · exact h1
    · rw [h2]
      rfl
theorem bare_move {p : Plan} (h : Bare p) (g : List Call) (c : Call) (m : List Call) (u : List Nat) (o : Out) : (moveT p g c m u o).2 = u := by
  unfold moveT callT
  split
  · split
    · rw [bare_act h]
      rfl
    · split <;> rfl
  · rfl
theorem bare_take {p : Plan} (h : Bare p) {i : Nat} (hi : i ≤ p.steps.length) : takeB p i ≠ .fin .stuck := by
  cases i with
  | zero => simp [takeB]
  | succ i =>
    obtain ⟨x, hx⟩ := step_at (show i < p.steps.length by omega)
    have : hasBack p i = true := by
      rw [hasBack_iff hx, (h x (List.mem_of_getElem? hx)).2]
      rfl
    simp [takeB, this]
theorem bare_occ {p : Plan} (hp : PlanOk p) (h : Bare p) {g : List Call} {s : List Nat} {e : End} (he : Occ p g s e) : e.2 = s ∧ e.1 ≠ .stuck := by
  obtain ⟨r, he⟩ := occ_lead.mp he
  refine lead_inv (I := fun n => n.here ∈ calls p ∧ n.st = s) (E := fun e => e.2 = s ∧ e.1 ≠ .stuck) (fun n o e i ho hs => ?_) (fun n o n' i ho hs => ?_) he ⟨go_mem hp.n1, rfl⟩
  · obtain ⟨c, m, u⟩ := n
    obtain ⟨hc, rfl⟩ := i
    have hpos := (mem_calls.mp hc).1
    rw [step_eq] at hs
    unfold nxT at hs
    split at hs
    · rename_i k hk
      cases hs
      refine ⟨bare_move h _ _ _ _ _, fun z => ?_⟩
      have z : k = .stuck := z
      subst z
      have hk : nextN p c o = .fin .stuck := hk
      cases c with
      | back i =>
        have hpos : i < p.steps.length := hpos
        unfold nextN at hk
        dsimp only at hk
        split at hk
        · exact bare_take h (by omega) hk
        · cases hk
      | go i =>
        have hpos : i < p.steps.length := hpos
        unfold nextN at hk
        dsimp only at hk
        split at hk
        · split at hk <;> cases hk
        · split at hk
          · exact bare_take h (by omega) hk
          · split at hk
            · cases hk
            · exact bare_take h (by omega) hk
    · cases hs
  · obtain ⟨c, m, u⟩ := n
    obtain ⟨hc, rfl⟩ := i
    rw [step_eq] at hs
    unfold nxT at hs
    split at hs
    · cases hs
    · rename_i k hk
      cases hs
      exact ⟨next_ok hc hk, bare_move h _ _ _ _ _⟩
theorem bare_good {p : Plan} (hp : PlanOk p) (h : Bare p) {g : List Call} {s : List Nat} (hs : StOk p.k s) : goodT p g s = true := by
  rw [good_iff hp hs]
  intro e he
  obtain ⟨a, b⟩ := bare_occ hp h he
  obtain ⟨k, u⟩ := e
  have a : u = s := a
  subst a
  unfold goodE
  cases k with
  | done => simp [bare_goal h]
  | undone => simp
  | stuck => exact absurd rfl b
theorem few_nil {p : Plan} {s : List Nat} (h : goodT p [] s = true) : fewT p s = some [] := by
  cases q : fewT p s with
  | none =>
    have := few_none q (made_nil p)
    rw [h] at this
    cases this
  | some g =>
    obtain ⟨_, _, k⟩ := few_some q
    have := k [] (made_nil p) h
    have : g = [] := List.eq_nil_of_length_eq_zero (by simpa using this)
    rw [this]
theorem all_nil {p : Plan} (h : ∀ s, StOk p.k s → goodT p [] s = true) : forAllT p = some [] := by
  cases q : forAllT p with
  | none =>
    obtain ⟨s, hs, hb⟩ := all_none q (made_nil p)
    rw [h s hs] at hb
    cases hb
  | some g =>
    obtain ⟨_, _, k⟩ := all_some q
    have := k [] (made_nil p) h
    have : g = [] := List.eq_nil_of_length_eq_zero (by simpa using this)
    rw [this]
end Bk
namespace Bk
open PySem
theorem Cod.memT1 {α : Type} [DecidableEq α] {f : α → PyData} (h : Cod f) {a : α} {l : List α} (ha : a ∈ l) : cmpD .mem (f a) (.tuple (l.map f)) = some true := by
  rw [h.memT]
  congr 1
  rw [decide_eq_true_eq]
  exact ha
theorem Cod.nmemT1 {α : Type} [DecidableEq α] {f : α → PyData} (h : Cod f) {a : α} {l : List α} (ha : a ∈ l) : cmpD .nmem (f a) (.tuple (l.map f)) = some false := by
  rw [h.nmemT]
  congr 1
  rw [Bool.not_eq_false', decide_eq_true_eq]
  exact ha
/-- a is b with fewer steps that may refuse -/
structure Less (a b : Plan) : Prop where
  k : a.k = b.k
  ag : a.again = b.again
  len : a.steps.length = b.steps.length
  st : ∀ (i : Nat) (x : Step), a.steps[i]? = some x → ∃ y, b.steps[i]? = some y ∧ y.act = x.act ∧ y.bck = x.bck ∧ (x.ref = true → y.ref = true)
/-- alike up to refusals and the rule -/
structure Same2 (a b : Plan) : Prop where
  k : a.k = b.k
  len : a.steps.length = b.steps.length
  st : ∀ (i : Nat) (x : Step), a.steps[i]? = some x → ∃ y, b.steps[i]? = some y ∧ y.act = x.act ∧ y.bck = x.bck
section
variable {a b : Plan}
theorem Less.same (h : Less a b) : Same2 a b := ⟨h.k, h.len, fun i x hx => by
  obtain ⟨y, h1, h2, h3, _⟩ := h.st i x hx
  exact ⟨y, h1, h2, h3⟩⟩
theorem Same2.hb (h : Same2 a b) (i : Nat) : hasBack a i = hasBack b i := by
  by_cases hi : i < a.steps.length
  · obtain ⟨x, hx⟩ := step_at hi
    obtain ⟨y, hy, _, h2⟩ := h.st i x hx
    rw [hasBack_iff hx, hasBack_iff hy, h2]
  · unfold hasBack
    rw [List.getElem?_eq_none (by omega), List.getElem?_eq_none (by rw [← h.len]; omega)]
theorem Same2.calls (h : Same2 a b) : calls a = calls b := by
  unfold Bk.calls
  rw [h.len, show hasBack a = hasBack b from funext h.hb]
theorem Same2.act (h : Same2 a b) (c : Call) : actOf a c = actOf b c := by
  unfold actOf
  by_cases hi : c.pos < a.steps.length
  · obtain ⟨x, hx⟩ := step_at hi
    obtain ⟨y, hy, h1, h2⟩ := h.st _ x hx
    rw [hx, hy]
    dsimp only
    rw [h1, h2]
  · rw [List.getElem?_eq_none (by omega), List.getElem?_eq_none (by rw [← h.len]; omega)]
theorem Same2.move (h : Same2 a b) (g : List Call) (c : Call) (m : List Call) (s : List Nat) (o : Out) : moveT a g c m s o = moveT b g c m s o := by
  have ha : addC a m c = addC b m c := by
    unfold addC
    rw [h.calls]
  unfold moveT callT
  rw [h.act, ha]
theorem Same2.made (h : Same2 a b) (g : List Call) : MadeOk a g ↔ MadeOk b g := by
  unfold MadeOk
  rw [h.calls]
theorem goal_map (p : Plan) (s : List Nat) : goalT p s = (p.steps.map (·.act)).foldl (fun s a => ap a s) s := by
  unfold goalT
  rw [List.foldl_map]
theorem Same2.goal (h : Same2 a b) (s : List Nat) : goalT a s = goalT b s := by
  rw [goal_map, goal_map]
  congr 1
  apply List.ext_getElem?
  intro i
  rw [List.getElem?_map, List.getElem?_map]
  by_cases hi : i < a.steps.length
  · obtain ⟨x, hx⟩ := step_at hi
    obtain ⟨y, hy, h1, _⟩ := h.st i x hx
    rw [hx, hy]
    simp [h1]
  · rw [List.getElem?_eq_none (by omega), List.getElem?_eq_none (by rw [← h.len]; omega)]
theorem Less.next (h : Less a b) (c : Call) (o : Out) : nextN a c o = nextN b c o := by
  have ht : ∀ i, takeB a i = takeB b i := fun i => by
    cases i with
    | zero => rfl
    | succ i => simp only [takeB, h.same.hb]
  cases c with
  | back i => simp only [nextN, ht]
  | go i => simp only [nextN, ht, h.len, h.ag]
theorem Less.step (h : Less a b) (g : List Call) (n : Node) (o : Out) : stepN a g n o = stepN b g n o := by
  rw [step_eq, step_eq, h.next, h.same.move]
theorem Less.outs (h : Less a b) {g : List Call} {c : Call} {m : List Call} {o : Out} (ho : o ∈ outs a g c m) : o ∈ outs b g c m := by
  rcases mem_outs.mp ho with q | ⟨q1, q2, q3⟩
  · exact mem_outs.mpr (.inl q)
  · refine mem_outs.mpr (.inr ⟨q1, ?_, q3⟩)
    by_cases hi : c.pos < a.steps.length
    · obtain ⟨x, hx⟩ := step_at hi
      obtain ⟨y, hy, _, _, h3⟩ := h.st _ x hx
      rw [mayRef_iff hx] at q2
      rw [mayRef_iff hy]
      exact h3 q2
    · unfold mayRef at q2
      rw [List.getElem?_eq_none (by omega)] at q2
      cases q2
theorem Less.lead (h : Less a b) {g : List Call} {n : Node} {r : Run} {e : End} (l : Lead a g n r e) : Lead b g n r e := by
  induction l with
  | fin h1 h2 => exact .fin (h.outs h1) (by rw [← h.step]; exact h2)
  | step h1 h2 _ ih => exact .step (h.outs h1) (by rw [← h.step]; exact h2) ih
theorem Less.ends (h : Less a b) {g : List Call} {s : List Nat} {r : Run} {e : End} (l : EndsR a g s r e) : EndsR b g s r e := endsR_lead.mpr (h.lead (endsR_lead.mp l))
theorem Less.occ (h : Less a b) {g : List Call} {s : List Nat} {e : End} (l : Occ a g s e) : Occ b g s e := by
  obtain ⟨r, l⟩ := l
  exact ⟨r, h.ends l⟩
theorem Less.goodE (h : Less a b) (s : List Nat) (e : End) : goodE a s e = goodE b s e := by
  unfold Bk.goodE
  rw [h.same.goal]
theorem Less.good (h : Less a b) (ha : PlanOk a) (hb : PlanOk b) {g : List Call} {s : List Nat} (hs : StOk b.k s) (q : goodT b g s = true) : goodT a g s = true := by
  have hs' : StOk a.k s := by rw [h.k]; exact hs
  rw [good_iff ha hs']
  intro e he
  rw [h.goodE]
  exact (good_iff hb hs).mp q e (h.occ he)
end
theorem no_stuck {p : Plan} (hp : PlanOk p) (h : ∀ i, i < p.steps.length → hasBack p i = true) {g : List Call} {s : List Nat} {e : End} (he : Occ p g s e) : e.1 ≠ .stuck := by
  have ht : ∀ i, i ≤ p.steps.length → takeB p i ≠ .fin .stuck := fun i hi => by
    cases i with
    | zero => simp [takeB]
    | succ i => simp [takeB, h i (by omega)]
  obtain ⟨r, he⟩ := occ_lead.mp he
  refine lead_inv (I := fun n => n.here ∈ calls p) (E := fun e => e.1 ≠ .stuck) (fun n o e hc ho hs => ?_) (fun n o n' hc ho hs => ?_) he (go_mem hp.n1)
  · obtain ⟨c, m, u⟩ := n
    have hpos := (mem_calls.mp hc).1
    rw [step_eq] at hs
    cases hk : nextN p c o with
    | call d =>
      have hs : nxT (nextN p c o) _ _ = _ := hs
      rw [hk] at hs
      cases hs
    | fin k =>
      have hs : nxT (nextN p c o) _ _ = _ := hs
      rw [hk] at hs
      cases hs
      intro z
      have z : k = .stuck := z
      subst z
      cases c with
      | back i =>
        have hpos : i < p.steps.length := hpos
        unfold nextN at hk
        dsimp only at hk
        split at hk
        · exact ht _ (by omega) hk
        · cases hk
      | go i =>
        have hpos : i < p.steps.length := hpos
        unfold nextN at hk
        dsimp only at hk
        split at hk
        · split at hk <;> cases hk
        · split at hk
          · exact ht _ (by omega) hk
          · split at hk
            · cases hk
            · exact ht _ (by omega) hk
  · obtain ⟨c, m, u⟩ := n
    rw [step_eq] at hs
    cases hk : nextN p c o with
    | fin d =>
      have hs : nxT (nextN p c o) _ _ = _ := hs
      rw [hk] at hs
      cases hs
    | call d =>
      have hs : nxT (nextN p c o) _ _ = _ := hs
      rw [hk] at hs
      cases hs
      exact next_ok hc hk
/-! ### without refusals, with the rule again -/
def calm2 (p : Plan) : Plan := ⟨p.k, p.steps.map fun x => ⟨x.act, x.bck, false⟩, true⟩
theorem calm2_at (p : Plan) (i : Nat) : (calm2 p).steps[i]? = (p.steps[i]?).map fun x => ⟨x.act, x.bck, false⟩ := List.getElem?_map ..
theorem calm2_ok {p : Plan} (hp : PlanOk p) : PlanOk (calm2 p) := by
  refine ⟨hp.k1, hp.k3, ?_, ?_, fun s hs => ?_⟩
  · show 1 ≤ (p.steps.map _).length; rw [List.length_map]; exact hp.n1
  · show (p.steps.map _).length ≤ 4; rw [List.length_map]; exact hp.n4
  · obtain ⟨x, hx, rfl⟩ := List.mem_map.mp hs
    exact hp.st x hx
theorem calm2_calm (p : Plan) : Calm (calm2 p) := ⟨rfl, fun i => by
  unfold mayRef
  rw [calm2_at]
  cases p.steps[i]? <;> rfl⟩
theorem calm2_same (p : Plan) : Same2 (calm2 p) p := ⟨rfl, by show (p.steps.map _).length = _; simp, fun i x hx => by
  rw [calm2_at] at hx
  obtain ⟨y, hy, rfl⟩ := Option.map_eq_some_iff.mp hx
  exact ⟨y, hy, rfl, rfl⟩⟩
theorem calm_stuck {p : Plan} (hp : PlanOk p) (hc : Calm p) : stuckT p = false := by
  cases q : stuckT p with
  | false => rfl
  | true =>
    obtain ⟨u, h⟩ := (stuck_iff hp).mp q
    have := calm_done hc h
    cases this
theorem calm_good {p : Plan} (hp : PlanOk p) (hc : Calm p) {g : List Call} {s : List Nat} (hs : StOk p.k s) : goodT p g s = decide (endsT p g s = [(.done, goalT p s)]) := by
  rw [Bool.eq_iff_iff, decide_eq_true_eq, good_iff hp hs]
  constructor
  · intro h
    refine sortE_ext (ends_pw hp hs) (by simp) fun e => ?_
    rw [mem_ends hp hs, List.mem_singleton]
    constructor
    · intro he
      have h1 := calm_done hc he
      have h2 := h e he
      obtain ⟨k, u⟩ := e
      have h1 : k = .done := h1
      subst h1
      have h2 : decide (u = goalT p s) = true := h2
      rw [of_decide_eq_true h2]
    · rintro rfl
      exact occ_done hp g s
  · intro h e he
    have := (mem_ends hp hs).mpr he
    rw [h, List.mem_singleton] at this
    rw [this]
    simp [goodE]
section
variable {gl : Nat → Option PyData} {tb : Nat → Option Fn} {fu n : Nat} {t : Town}
theorem run_law_calmer (hd : tb 70 = some (.nat 3 drawV)) (hc : HasD tb 117 5 3 H_calmer) (hn : 2 ≤ n) {p : Plan} (hp : PlanOk p) (t : Town) : ∃ q t', PlanOk q ∧ Less q p ∧ run gl tb fu n 117 [.scr, .town, .d (eP p)] t = .ok (.d (eP q)) t' := by
  rw [run_has hc rfl (by omega)]
  show ∃ q t', _ ∧ _ ∧ R.bnd (exs gl _ fu H_calmer [.val .scr, .val .town, .val (.d (eP p)), .emp, .emp] t) _ = _
  have n4 := hp.n4
  obtain ⟨ps, h1, h2, t', h3⟩ := lc_each (gl := gl) (φ := run gl tb fu (n - 1)) (enc := eT) (encB := eT) (tg := .nm 4) (it := .seq (.sub (.var 2) (.con (.int 1)))) (e := .tup [.sub (.var 4) (.con (.int 0)), .sub (.var 4) (.con (.int 1)), .and (.sub (.var 4) (.con (.int 2))) (.cmp .eq (.call 70 [.var 0, .var 1, .con (.int 2)]) (.con (.int 0)))]) (ρ := [.val .scr, .val .town, .val (.d (eP p)), .emp, .emp]) (fun x y => x.act = y.act ∧ x.bck = y.bck ∧ (y.ref = true → x.ref = true)) p.steps (t := t) (t0 := t) (by simp) (by omega) (fun x hx t => by
    cases hr : x.ref with
    | false =>
      exact ⟨[.val .scr, .val .town, .val (.d (eP p)), .emp, .val (.d (eT x))], by simp [wipeE, slotsT], rfl, ⟨x.act, x.bck, false⟩, t, by simp [hr, eT, sub3_0, sub3_1, sub3_2], rfl, rfl, rfl, fun z => by cases z⟩
    | true =>
      obtain ⟨d, t2, hd2, e⟩ := run_draw (gl := gl) (fu := fu) hd (show 1 ≤ n - 1 by omega) (m := 2) (by omega) (by omega) t
      push_cast at e
      exact ⟨[.val .scr, .val .town, .val (.d (eP p)), .emp, .val (.d (eT x))], by simp [wipeE, slotsT], rfl, ⟨x.act, x.bck, ((d : Nat) : Int) == 0⟩, t2, by simp [hr, eT, sub3_0, sub3_1, sub3_2, e], rfl, rfl, rfl, fun _ => rfl⟩)
  have sl : ps.length = p.steps.length := by rw [← h1, List.length_map]
  have at1 : ∀ i : Nat, p.steps[i]? = (ps[i]?).map (·.1) := fun i => by rw [← h1, List.getElem?_map]
  refine ⟨⟨p.k, ps.map (·.2), p.again⟩, t', ⟨hp.k1, hp.k3, ?_, ?_, fun s hs => ?_⟩, ⟨rfl, rfl, by show (ps.map _).length = _; rw [List.length_map, sl], fun i x hx => ?_⟩, ?_⟩
  · show 1 ≤ (ps.map _).length; rw [List.length_map, sl]; exact hp.n1
  · show (ps.map _).length ≤ 4; rw [List.length_map, sl]; exact n4
  · obtain ⟨q, hq, rfl⟩ := List.mem_map.mp hs
    obtain ⟨a1, a2, _⟩ := h2 q hq
    have := hp.st q.1 (by rw [← h1]; exact List.mem_map.mpr ⟨q, hq, rfl⟩)
    exact ⟨by rw [← a1]; exact this.1, fun b hb => this.2 b (by rw [a2]; exact hb)⟩
  · have hx : (ps.map (·.2))[i]? = some x := hx
    rw [List.getElem?_map] at hx
    obtain ⟨q, hq, rfl⟩ := Option.map_eq_some_iff.mp hx
    obtain ⟨a1, a2, a3⟩ := h2 q (List.mem_of_getElem? hq)
    exact ⟨q.1, by rw [at1, hq]; rfl, a1, a2, a3⟩
  · have e2 : ps.map (fun q => eT q.2) = (ps.map (·.2)).map eT := by rw [List.map_map]; rfl
    rw [e2] at h3
    have z2 : PyData.tuple [.int p.k, .tuple ((ps.map (·.2)).map eT), .str (eRule p.again)] = eP ⟨p.k, ps.map (·.2), p.again⟩ := rfl
    simp [H_calmer, h3, z2, -List.map_map]
theorem run_law_calm (hP : PT tb) (hg : gl 1 = some D_FIRST) (hc : HasD tb 118 9 3 H_calm) (hn : 9 ≤ n) {p : Plan} (hp : PlanOk p) {g : List Call} (gk : MadeOk p g) {s : List Nat} (hs : StOk p.k s) : run gl tb 100000 n 118 [.d (eP p), .d (eCs g), .d (eS s)] t = .ok (.d (.bool true)) t := by
  rw [run_has hc rfl (by omega)]
  show R.bnd (exs gl _ 100000 H_calm [.val (.d (eP p)), .val (.d (eCs g)), .val (.d (eS s)), .emp, .emp, .emp, .emp, .emp, .emp] t) _ = _
  have n4 := hp.n4
  have hq := calm2_ok hp
  have cc := calm2_calm p
  have sm := calm2_same p
  have gk' : MadeOk (calm2 p) g := (sm.made g).mpr gk
  have c1 := lc_all (gl := gl) (φ := run gl tb 100000 (n - 1)) (t := t) (enc := eT) (tg := .nm 4) (it := .seq (.sub (.var 0) (.con (.int 1)))) (e := .tup [.sub (.var 4) (.con (.int 0)), .sub (.var 4) (.con (.int 1)), .con (.bool false)]) (ρ := [.val (.d (eP p)), .val (.d (eCs g)), .val (.d (eS s)), .emp, .emp, .emp, .emp, .emp, .emp]) p.steps (fun x => eT ⟨x.act, x.bck, false⟩) (by simp) (by omega) fun x hx => ⟨[.val (.d (eP p)), .val (.d (eCs g)), .val (.d (eS s)), .emp, .val (.d (eT x)), .emp, .emp, .emp, .emp], by simp [wipeE, slotsT], rfl, by simp [eT, sub3_0, sub3_1], rfl⟩
  have q2 : p.steps.map (fun x => eT ⟨x.act, x.bck, false⟩) = (calm2 p).steps.map eT := by
    show _ = (p.steps.map _).map eT
    rw [List.map_map]
    rfl
  rw [q2] at c1
  have q2' : PyData.tuple [.int p.k, .tuple ((calm2 p).steps.map eT), .str S_again] = eP (calm2 p) := rfl
  have e1 := run_ends (gl := gl) (t := t) hP hg (show 8 ≤ n - 1 by omega) hq gk' hs
  have e2 := run_goal (gl := gl) (fu := 100000) (t := t) hP (show 7 ≤ n - 1 by omega) hp hs
  have e3 := run_stuck (gl := gl) (t := t) hP hg (show 7 ≤ n - 1 by omega) hq
  have e4 := run_ends_clean (gl := gl) (t := t) hP hg (show 8 ≤ n - 1 by omega) hq gk' hs
  rw [calm_stuck hq cc] at e3
  rw [calm_good hq cc hs, sm.goal] at e4
  have fe : (endsT (calm2 p) g s).filter (fun x => !decide (x.1 = .done)) = [] := by
    rw [List.filter_eq_nil_iff]
    intro x hx
    simp [calm_done cc ((mem_ends hq hs).mp hx)]
  have c2 := lc_eq (gl := gl) (φ := run gl tb 100000 (n - 1)) (t := t) (enc := eE) (tg := .tp [.nm 6, .nm 7]) (it := .seq (.var 5)) (d := .cmp .ne (.var 6) (.con (.str S_done))) (e := .var 6) (ρ := [.val (.d (eP p)), .val (.d (eCs g)), .val (.d (eS s)), .val (.d (eP (calm2 p))), .emp, .val (.d (.tuple ((endsT (calm2 p) g s).map eE))), .emp, .emp, .emp]) (endsT (calm2 p) g s) (fun x => !decide (x.1 = .done)) (fun x => .str (kS x.1)) (by simp) (ends_len hq hs) fun x hx => ⟨[.val (.d (eP p)), .val (.d (eCs g)), .val (.d (eS s)), .val (.d (eP (calm2 p))), .emp, .val (.d (.tuple ((endsT (calm2 p) g s).map eE))), .val (.d (.str (kS x.1))), .val (.d (eS x.2)), .emp], rfl, by simp, fun _ => ⟨rfl, by simp, rfl⟩⟩
  rw [fe, List.map_nil] at c2
  have oc : (.done, goalT p s) ∈ endsT (calm2 p) g s := (mem_ends hq hs).mpr (by rw [← sm.goal]; exact occ_done hq g s)
  have m1 : cmpD .mem (eE (.done, goalT p s)) (.tuple ((endsT (calm2 p) g s).map eE)) = some true := by
    exact codE.memT1 oc
  have z1 : PyData.tuple [.str S_done, eS (goalT p s)] = eE (.done, goalT p s) := rfl
  have m2 := codE.eqT (endsT (calm2 p) g s) [(.done, goalT p s)]
  rw [List.map_cons, List.map_nil] at m2
  have z2 : cmpD .isN (.bool true) (.bool false) = some false := rfl
  simp [H_calm, c1, q2', e1, c2, ne_ll0, e2, z1, m1, z2, m2, e3, e4]
end
end Bk
namespace Bk
open PySem
theorem whGo_succ' {c : Ev → M Bool} {f : Ev → M Fl} (m : Nat) (ρ : Ev) (t : Town) : whGo c f (m + 1) ρ t = R.bnd (c ρ t) fun b t => if b = true then R.seq (f ρ t) (fun ρ' t => whGo c f m ρ' t) else .ok (.next ρ) t := whGo_succ m ρ t
theorem mv_ok {p : Plan} (hp : PlanOk p) {g : List Call} {c : Call} (hc : c ∈ calls p) {m : List Call} (mk : MadeOk p m) {s : List Nat} (hs : StOk p.k s) {v : Mv} (hv : v ∈ movesT p g c m s) : MadeOk p v.made ∧ StOk p.k v.st ∧ ∀ c', v.nx = .call c' → c' ∈ calls p := by
  have ht : StOk p.k (thereT p g c m s) := by
    unfold thereT
    split
    · exact ap_ok (act_ok hp hc).2 hs
    · exact hs
  unfold movesT at hv
  rcases List.mem_append.mp hv with hv | hv
  · rcases List.mem_cons.mp hv with rfl | hv
    · exact ⟨add_made _ _ _, ht, fun c' h => next_ok hc h⟩
    · rcases List.mem_cons.mp hv with rfl | hv
      · exact ⟨mk, hs, fun c' h => next_ok hc h⟩
      · rw [List.mem_singleton.mp hv]
        exact ⟨add_made _ _ _, ht, fun c' h => next_ok hc h⟩
  · split at hv
    · rw [List.mem_singleton.mp hv]
      exact ⟨mk, hs, fun c' h => next_ok hc h⟩
    · cases hv
theorem pick_mv (p : Plan) (g : List Call) (c : Call) (m : List Call) (s : List Nat) {d : Nat} (hd : d < 5) : ∃ v ∈ movesT p g c m s, (subAt (.tuple [.int 2, .int 2, .int 0, .int 1, .int (((movesT p g c m s).length : Int) - 1)]) (.int (d : Nat))).bind (fun i => subAt (.list ((movesT p g c m s).map eMv)) i) = some (eMv v) := by
  unfold movesT
  cases mayRefT p g c m with
  | false =>
    match d, hd with
    | 0, _ => exact ⟨_, List.mem_cons_of_mem _ (List.mem_cons_of_mem _ (List.mem_cons_self ..)), rfl⟩
    | 1, _ => exact ⟨_, List.mem_cons_of_mem _ (List.mem_cons_of_mem _ (List.mem_cons_self ..)), rfl⟩
    | 2, _ => exact ⟨_, List.mem_cons_self .., rfl⟩
    | 3, _ => exact ⟨_, List.mem_cons_of_mem _ (List.mem_cons_self ..), rfl⟩
    | 4, _ => exact ⟨_, List.mem_cons_of_mem _ (List.mem_cons_of_mem _ (List.mem_cons_self ..)), rfl⟩
  | true =>
    match d, hd with
    | 0, _ => exact ⟨_, List.mem_cons_of_mem _ (List.mem_cons_of_mem _ (List.mem_cons_self ..)), rfl⟩
    | 1, _ => exact ⟨_, List.mem_cons_of_mem _ (List.mem_cons_of_mem _ (List.mem_cons_self ..)), rfl⟩
    | 2, _ => exact ⟨_, List.mem_cons_self .., rfl⟩
    | 3, _ => exact ⟨_, List.mem_cons_of_mem _ (List.mem_cons_self ..), rfl⟩
    | 4, _ => exact ⟨_, List.mem_cons_of_mem _ (List.mem_cons_of_mem _ (List.mem_cons_of_mem _ (List.mem_cons_self ..))), rfl⟩
theorem isn_eC (u : Call) : isiD .str (eC u) = false := by cases u <;> rfl
section
variable {gl : Nat → Option PyData} {tb : Nat → Option Fn} {fu n : Nat} {t : Town}
abbrev envK (p : Plan) (g : List Call) (s : List Nat) (x : Nx) (m : List Call) (u : List Nat) (r : Run) (a b : Slot) : Ev := [.val .scr, .val .town, .val (.d (eP p)), .val (.d (eCs g)), .val (.d (eS s)), .val (.d (eX x)), .val (.d (.list (m.map eC))), .val (.d (eS u)), .val (.d (eR r)), a, b]
theorem walk_turn (hd : tb 70 = some (.nat 3 drawV)) (ha : HasD tb 73 6 2 H_after) (hb : HasD tb 87 2 2 H_back_from) (hm : HasD tb 88 13 5 H_moves) (hn : 3 ≤ n) {p : Plan} (hp : PlanOk p) {g : List Call} {s : List Nat} {c : Call} (hc : c ∈ calls p) {m : List Call} (mk : MadeOk p m) {u : List Nat} (hu : StOk p.k u) {r : Run} (hr : r.length ≤ 100) (a b : Slot) (t : Town) :
    ∃ o x' m' u' a' b' t', MadeOk p m' ∧ StOk p.k u' ∧ (∀ c', x' = .call c' → c' ∈ calls p) ∧ exs gl (run gl tb fu (n - 1)) fu L_walk_f1 (envK p g s (.call c) m u r a b) t = .ok (.next (envK p g s x' m' u' (r ++ [(c, o)]) a' b')) t' := by
  have e1 := run_law_moves (gl := gl) (fu := fu) (t := t) ha hb hm (show 2 ≤ n - 1 by omega) hp (g := g) hc mk hu
  obtain ⟨d, t1, hd1, e2⟩ := run_draw (gl := gl) (fu := fu) hd (show 1 ≤ n - 1 by omega) (m := 5) (by omega) (by omega) t
  obtain ⟨v, hv, e3⟩ := pick_mv p g c m u hd1
  obtain ⟨k1, k2, k3⟩ := mv_ok hp hc mk hu hv
  obtain ⟨i, e4, e5⟩ := Option.bind_eq_some_iff.mp e3
  have e6 := add_eV c v.o
  have e7 := add_eR (r := r) (by omega) (c, v.o)
  have z1 : subAt (eMv v) (.int 0) = some (.str (oS v.o)) := rfl
  have z2 : slcD (eMv v) (some 1) none = some (.tuple [eX v.nx, .list (v.made.map eC), eS v.st]) := rfl
  have z3 : ∀ A B C D E F G H I x y z, setTg (.tp [.nm 5, .nm 6, .nm 7]) (.d (.tuple [x, y, z])) [A, B, C, D, E, F, G, H, I, .val (.d (.list ((movesT p g c m u).map eMv))), .val (.d (eMv v))] = some [A, B, C, D, E, .val (.d x), .val (.d y), .val (.d z), I, .val (.d (.list ((movesT p g c m u).map eMv))), .val (.d (eMv v))] := fun _ _ _ _ _ _ _ _ _ _ _ _ => rfl
  have z4 : eX (.call c) = eC c := rfl
  push_cast at e2
  refine ⟨v.o, v.nx, v.made, v.st, .val (.d (.list ((movesT p g c m u).map eMv))), .val (.d (eMv v)), t1, k1, k2, k3, ?_⟩
  simp [L_walk_f1, z4, e1, e2, e4, e5, e6, e7, z1, z2, z3, noneI]
theorem walk_loop (hd : tb 70 = some (.nat 3 drawV)) (ha : HasD tb 73 6 2 H_after) (hb : HasD tb 87 2 2 H_back_from) (hm : HasD tb 88 13 5 H_moves) (hn : 3 ≤ n) {p : Plan} (hp : PlanOk p) {g : List Call} {s : List Nat} : ∀ (k f : Nat) {x : Nx} {m : List Call} {u : List Nat} {r : Run}, r.length + k = 9 → k < f → (∀ c, x = .call c → c ∈ calls p) → MadeOk p m → StOk p.k u → (∀ e ∈ r, e.1 ∈ calls p) → ∀ a b t,
    ∃ x' m' u' r' a' b' t', (∀ e ∈ r', e.1 ∈ calls p) ∧ r'.length ≤ 9 ∧ whGo (fun ρ' => ev gl (run gl tb fu (n - 1)) (.and (.not (.isi .str (.var 5))) (.cmp .lt (.b1 .len (.var 8)) (.con (.int 9)))) ρ' >>= asB) (fun ρ' => exs gl (run gl tb fu (n - 1)) fu L_walk_f1 ρ') f (envK p g s x m u r a b) t = .ok (.next (envK p g s x' m' u' r' a' b')) t'
  | k, f + 1, .fin e, m, u, r, hk, _, _, mk, hu, hr, a, b, t => by
    refine ⟨.fin e, m, u, r, a, b, t, hr, by omega, ?_⟩
    rw [whGo_succ']
    simp [eX]
  | 0, f + 1, .call c, m, u, r, hk, _, hc, mk, hu, hr, a, b, t => by
    refine ⟨.call c, m, u, r, a, b, t, hr, by omega, ?_⟩
    have h9 : r.length = 9 := by omega
    rw [whGo_succ']
    simp [eX, isn_eC, len_eR, h9]
  | k + 1, f + 1, .call c, m, u, r, hk, hf, hc, mk, hu, hr, a, b, t => by
    obtain ⟨o, x', m', u', a', b', t', k1, k2, k3, e⟩ := walk_turn (gl := gl) (fu := fu) hd ha hb hm hn hp (g := g) (s := s) (hc c rfl) mk hu (r := r) (by omega) a b t
    obtain ⟨x2, m2, u2, r2, a2, b2, t2, q1, q2, e2⟩ := walk_loop hd ha hb hm hn hp k f (x := x') (m := m') (u := u') (r := r ++ [(c, o)]) (by simp; omega) (by omega) k3 k1 k2 (fun y hy => by
      rcases List.mem_append.mp hy with hy | hy
      · exact hr y hy
      · rw [List.mem_singleton.mp hy]
        exact hc c rfl) a' b' t'
    refine ⟨x2, m2, u2, r2, a2, b2, t2, q1, q2, ?_⟩
    have h9 : (r.length : Int) < 9 := by omega
    have cnd : (ev gl (run gl tb fu (n - 1)) (.and (.not (.isi .str (.var 5))) (.cmp .lt (.b1 .len (.var 8)) (.con (.int 9)))) (envK p g s (.call c) m u r a b) >>= asB) t = .ok true t := by
      simp [eX, isn_eC, len_eR, h9]
    rw [whGo_succ', cnd, bnd_ok, if_pos rfl, e, seq_next]
    exact e2
theorem run_law_walk (hd : tb 70 = some (.nat 3 drawV)) (ha : HasD tb 73 6 2 H_after) (hb : HasD tb 87 2 2 H_back_from) (hm : HasD tb 88 13 5 H_moves) (hw : HasD tb 89 11 5 L_walk) (hn : 3 ≤ n) {p : Plan} (hp : PlanOk p) {g : List Call} {s : List Nat} (hs : StOk p.k s) (t : Town) :
    ∃ r t', (∀ e ∈ r, e.1 ∈ calls p) ∧ r.length ≤ 9 ∧ run gl tb 100000 n 89 [.scr, .town, .d (eP p), .d (eCs g), .d (eS s)] t = .ok (.d (eR r)) t' := by
  rw [run_has hw rfl (by omega)]
  show ∃ r t', _ ∧ _ ∧ R.bnd (exs gl _ 100000 L_walk [.val .scr, .val .town, .val (.d (eP p)), .val (.d (eCs g)), .val (.d (eS s)), .emp, .emp, .emp, .emp, .emp, .emp] t) _ = _
  obtain ⟨x', m', u', r', a', b', t', q1, q2, e⟩ := walk_loop (gl := gl) (fu := 100000) hd ha hb hm hn hp (g := g) (s := s) 9 100000 (x := .call (.go 0)) (m := []) (u := s) (r := []) rfl (by decide) (fun c h => by cases h; exact go_mem hp.n1) (made_nil p) hs (by simp) .emp .emp t
  refine ⟨r', t', q1, q2, ?_⟩
  have z1 : envK p g s (.call (.go 0)) [] s [] .emp .emp = [.val .scr, .val .town, .val (.d (eP p)), .val (.d (eCs g)), .val (.d (eS s)), .val (.d (.tuple [.str S_do, .int 0])), .val (.d (.list [])), .val (.d (eS s)), .val (.d (.tuple [])), .emp, .emp] := rfl
  rw [z1] at e
  simp [L_walk, setPar, ex_while, e]
theorem mem_good {p : Plan} {s : List Nat} {e : End} : decide (e ∈ [(EndK.done, goalT p s), (EndK.undone, s)]) = goodE p s e := by
  obtain ⟨k, u⟩ := e
  rw [Bool.eq_iff_iff, decide_eq_true_eq]
  unfold goodE
  cases k <;> simp
theorem run_law_bad (hP : PT tb) (hb : HasD tb 92 3 3 L_bad) (hn : 8 ≤ n) {p : Plan} (hp : PlanOk p) {s : List Nat} (hs : StOk p.k s) (e : End) : run gl tb fu n 92 [.d (eP p), .d (eS s), .d (eE e)] t = .ok (.d (.bool (!goodE p s e))) t := by
  rw [run_has hb rfl (by omega)]
  show R.bnd (exs gl _ fu L_bad [.val (.d (eP p)), .val (.d (eS s)), .val (.d (eE e))] t) _ = _
  have e1 := run_goal (gl := gl) (fu := fu) (t := t) hP (show 7 ≤ n - 1 by omega) hp hs
  have z1 : PyData.tuple [.str S_done, eS (goalT p s)] = eE (.done, goalT p s) := rfl
  have z2 : PyData.tuple [.str S_undone, eS s] = eE (.undone, s) := rfl
  have m1 : cmpD .nmem (eE e) (.tuple [eE (.done, goalT p s), eE (.undone, s)]) = some (!goodE p s e) := by
    have := codE.nmemT e [(.done, goalT p s), (.undone, s)]
    rw [List.map_cons, List.map_cons, List.map_nil] at this
    rw [this, ← mem_good]
    congr 2
    exact decide_eq_decide.mpr Iff.rfl
  simp [L_bad, e1, z1, z2, m1]
theorem le_eLR {a b : Run} (h : sle a b) : cmpD .le (eLR a) (eLR b) = some true := by
  have h1 := depth_eR a
  have h2 := depth_eR b
  have d1 : (eLR a).depth ≤ 64 := by
    show max 0 (max (eR a).depth 0) + 1 ≤ 64
    omega
  have d2 : (eLR b).depth ≤ 64 := by
    show max 0 (max (eR b).depth 0) + 1 ≤ 64
    omega
  show (if PySem.W.alikeAll [.int (a.length : Nat), eR a] [.int (b.length : Nat), eR b] = true ∧ (eLR a).depth ≤ 64 ∧ (eLR b).depth ≤ 64 then some (!PySem.W.dataLt (eLR b) (eLR a)) else none) = _
  rw [if_pos ⟨by simp only [PySem.W.alike, PySem.W.alikeAll, eR, alikeAll_eV, Bool.and_true], d1, d2⟩, sle_iff.mp h]
  rfl
theorem run_law_fits (hP : PT tb) (hg : gl 1 = some D_FIRST) (hb : HasD tb 92 3 3 L_bad) (hf : HasD tb 93 6 4 H_fits) (hn : 9 ≤ n) {p : Plan} (hp : PlanOk p) {g : List Call} (gk : MadeOk p g) {s : List Nat} (hs : StOk p.k s) {r : Run} {e : End} (hr : EndsR p g s r e) : run gl tb 100000 n 93 [.d (eP p), .d (eCs g), .d (eS s), .d (eR r)] t = .ok (.d (.bool true)) t := by
  rw [run_has hf rfl (by omega)]
  show R.bnd (exs gl _ 100000 H_fits [.val (.d (eP p)), .val (.d (eCs g)), .val (.d (eS s)), .val (.d (eR r)), .emp, .emp] t) _ = _
  have ps := ends_pos hp hr
  have e1 := run_run_end (gl := gl) (fu := 100000) (t := t) hP hg (show 8 ≤ n - 1 by omega) hp gk hs (plain_eR r)
  rw [followX_eR ps, follow_iff.mpr hr] at e1
  dsimp only at e1
  have e2 := run_bad_run (gl := gl) (t := t) hP hg (show 8 ≤ n - 1 by omega) hp gk hs
  have e3 := run_ends (gl := gl) (t := t) hP hg (show 8 ≤ n - 1 by omega) hp gk hs
  have e4 := run_law_bad (gl := gl) (fu := 100000) (t := t) hP hb (show 8 ≤ n - 1 by omega) hp hs e
  have m1 := codE.nmemT1 ((mem_ends hp hs).mpr ⟨r, hr⟩)
  cases hgd : goodE p s e with
  | true =>
    rw [hgd] at e4
    simp [H_fits, setPar, e1, e2, e3, m1, e4]
  | false =>
    rw [hgd] at e4
    obtain ⟨o, ho, so⟩ : ∃ o, badT p g s = some o ∧ sle o r := by
      cases z : badT p g s with
      | none =>
        have := (good_iff hp hs).mp (bad_none.mp z) e ⟨r, hr⟩
        rw [hgd] at this
        cases this
      | some o => exact ⟨o, rfl, (bad_some hp hs z).2 r e hr hgd⟩
    rw [ho] at e2
    have z1 : cmpD .notN (eR o) .none = some true := rfl
    have z2 := le_eLR so
    unfold eLR at z2
    simp [H_fits, setPar, e1, e2, e3, m1, e4, eOR, z1, len_eR, z2]
end
/-! ### the plain run -/
def plainR (n : Nat) : Run := (List.range n).map fun i => (.go i, .ok)
theorem plain_lead {p : Plan} {g : List Call} {s : List Nat} : ∀ (j i : Nat), i + j + 1 = p.steps.length → Lead p g (fwdN p i s) ((List.range' i (j + 1)).map fun i => (.go i, .ok)) (.done, goalT p s)
  | 0, i, h => .fin (ok_mem ..) (by rw [step_ok (by omega), if_neg (by omega)])
  | j + 1, i, h => .step (ok_mem ..) (by rw [step_ok (by omega), if_pos (by omega)]) (plain_lead j (i + 1) (by omega))
theorem plain_ends {p : Plan} (hp : PlanOk p) (g : List Call) (s : List Nat) : EndsR p g s (plainR p.steps.length) (.done, goalT p s) := by
  have h1 := hp.n1
  rw [endsR_lead, ← fwd_zero p s]
  have := plain_lead (p := p) (g := g) (s := s) (p.steps.length - 1) 0 (by omega)
  rw [show p.steps.length - 1 + 1 = p.steps.length by omega, ← List.range_eq_range'] at this
  exact this
/-! ### without refusals -/
def surP (p : Plan) : Plan := ⟨p.k, p.steps.map fun x => ⟨x.act, x.bck, false⟩, p.again⟩
theorem surP_at (p : Plan) (i : Nat) : (surP p).steps[i]? = (p.steps[i]?).map fun x => ⟨x.act, x.bck, false⟩ := List.getElem?_map ..
theorem surP_ok {p : Plan} (hp : PlanOk p) : PlanOk (surP p) := by
  refine ⟨hp.k1, hp.k3, ?_, ?_, fun s hs => ?_⟩
  · show 1 ≤ (p.steps.map _).length; rw [List.length_map]; exact hp.n1
  · show (p.steps.map _).length ≤ 4; rw [List.length_map]; exact hp.n4
  · obtain ⟨x, hx, rfl⟩ := List.mem_map.mp hs
    exact hp.st x hx
theorem surP_less (p : Plan) : Less (surP p) p := ⟨rfl, rfl, by show (p.steps.map _).length = _; simp, fun i x hx => by
  rw [surP_at] at hx
  obtain ⟨y, hy, rfl⟩ := Option.map_eq_some_iff.mp hx
  exact ⟨y, hy, rfl, rfl, fun z => by cases z⟩⟩
end Bk
namespace Bk
open PySem
theorem lawP : PT lawT := by
  intro i h
  unfold lawT
  split <;> first | omega | rfl
abbrev env (a2 a3 a4 a5 a6 a7 a8 a9 a10 a11 a12 a13 a14 a15 a16 : Slot) : Ev := [.val .scr, .val .town, a2, a3, a4, a5, a6, a7, a8, a9, a10, a11, a12, a13, a14, a15, a16]
theorem turn_true (t : Town) (j2 j3 j4 j5 j6 j7 j8 j9 j10 j11 j12 j13 j14 j15 j16 : Slot) : ∃ k3 k4 k5 k6 k7 k8 k9 k10 k11 k12 k13 k14 k15 k16 t', exs progG (run progG lawT 100000 20) 100000 L_law_f2 (env j2 j3 j4 j5 j6 j7 j8 j9 j10 j11 j12 j13 j14 j15 j16) t = .ok (.next (env j2 k3 k4 k5 k6 k7 k8 k9 k10 k11 k12 k13 k14 k15 k16)) t' := by
  have hP := lawP
  have hd : lawT 70 = some (.nat 3 drawV) := rfl
  have hg : progG 1 = some D_FIRST := rfl
  have ha : HasD lawT 75 8 3 H_action := ⟨_, rfl, rfl⟩
  have hpl : HasD lawT 82 8 2 H_plan := ⟨_, rfl, rfl⟩
  have hca : HasD lawT 83 4 1 H_calls := ⟨_, rfl, rfl⟩
  have hgu : HasD lawT 84 4 3 H_guards := ⟨_, rfl, rfl⟩
  have hst : HasD lawT 85 4 3 H_start := ⟨_, rfl, rfl⟩
  have haf : HasD lawT 73 6 2 H_after := ⟨_, rfl, rfl⟩
  have hbf : HasD lawT 87 2 2 H_back_from := ⟨_, rfl, rfl⟩
  have hmv : HasD lawT 88 13 5 H_moves := ⟨_, rfl, rfl⟩
  have hwk : HasD lawT 89 11 5 L_walk := ⟨_, rfl, rfl⟩
  have hbd : HasD lawT 92 3 3 L_bad := ⟨_, rfl, rfl⟩
  have hft : HasD lawT 93 6 4 H_fits := ⟨_, rfl, rfl⟩
  obtain ⟨p, t1, hp, h3, e1⟩ := run_law_plan (gl := progG) (fu := 100000) hd ha hpl (show 3 ≤ 20 by decide) t
  obtain ⟨g, t2, gk, e2⟩ := run_law_guards (gl := progG) (fu := 100000) hd hca hgu (show 2 ≤ 20 by decide) hp t1
  obtain ⟨s, t3, hs, e3⟩ := run_law_start (gl := progG) (fu := 100000) hd hst (show 2 ≤ 20 by decide) hp t2
  have e4 := run_bad_run (gl := progG) (t := t3) hP hg (show 8 ≤ 20 by decide) hp gk hs
  have e5 := run_ends (gl := progG) (t := t3) hP hg (show 8 ≤ 20 by decide) hp gk hs
  have e6 := run_ends_clean (gl := progG) (t := t3) hP hg (show 8 ≤ 20 by decide) hp gk hs
  have e7 := fun t e => run_law_bad (gl := progG) (fu := 100000) (t := t) hP hbd (show 8 ≤ 20 by decide) hp hs e
  have n4 := hp.n4
  have n1 := hp.n1
  have z1 : cmpD .isN (eOR (badT p g s)) .none = some (goodT p g s) := by
    cases hb : badT p g s with
    | none => rw [bad_none.mp hb]; rfl
    | some r =>
      have : goodT p g s = false := by
        cases z : goodT p g s with
        | false => rfl
        | true => rw [bad_none.mpr z] at hb; cases hb
      rw [this]; rfl
  have f1 : decide ((endsT p g s).filter (fun x => !goodE p s x) = []) = goodT p g s := by
    rw [Bool.eq_iff_iff, decide_eq_true_eq, good_iff hp hs, List.filter_eq_nil_iff]
    constructor
    · intro h e he
      have := h e ((mem_ends hp hs).mpr he)
      simpa using this
    · intro h e he
      have := h e ((mem_ends hp hs).mp he)
      simp [this]
  have c1 := lc_eq (gl := progG) (φ := run progG lawT 100000 20) (t := t3) (enc := eE) (tg := .nm 8) (it := .seq (.var 7)) (d := .call 92 [.var 3, .var 5, .var 8]) (e := .var 8) (ρ := (env j2 (.val (.d (eP p))) (.val (.d (eCs g))) (.val (.d (eS s))) (.val (.d (eOR (badT p g s)))) (.val (.d (.tuple ((endsT p g s).map eE)))) j8 j9 j10 j11 j12 j13 j14 j15 j16)) (endsT p g s) (fun x => !goodE p s x) eE (by simp) (ends_len hp hs) fun x hx => ⟨(env j2 (.val (.d (eP p))) (.val (.d (eCs g))) (.val (.d (eS s))) (.val (.d (eOR (badT p g s)))) (.val (.d (.tuple ((endsT p g s).map eE)))) (.val (.d (eE x))) j9 j10 j11 j12 j13 j14 j15 j16), rfl, (by simp [e7]), fun _ => ⟨rfl, by simp, rfl⟩⟩
  have z2 : cmpD .eq (.list (((endsT p g s).filter fun x => !goodE p s x).map eE)) (.list []) = some (goodT p g s) := by
    have := codE.eqL ((endsT p g s).filter fun x => !goodE p s x) []
    rw [List.map_nil] at this
    rw [this, f1]
  have z3 : ∀ b : Bool, cmpD .ne (.bool b) (.bool b) = some false := fun b => by cases b <;> rfl
  have r1 : exs progG (run progG lawT 100000 20) 100000 (L_law_f2.take 5) (env j2 j3 j4 j5 j6 j7 j8 j9 j10 j11 j12 j13 j14 j15 j16) t = .ok (.next (env j2 (.val (.d (eP p))) (.val (.d (eCs g))) (.val (.d (eS s))) (.val (.d (eOR (badT p g s)))) (.val (.d (.tuple ((endsT p g s).map eE)))) j8 j9 j10 j11 j12 j13 j14 j15 j16)) t3 := by
    simp [L_law_f2, e1, e2, e3, e4, e5, e6, setPar, z1, c1, z2, z3]
  have r2 : exs progG (run progG lawT 100000 20) 100000 ((L_law_f2.drop 5).take 1) (env j2 (.val (.d (eP p))) (.val (.d (eCs g))) (.val (.d (eS s))) (.val (.d (eOR (badT p g s)))) (.val (.d (.tuple ((endsT p g s).map eE)))) j8 j9 j10 j11 j12 j13 j14 j15 j16) t3 = .ok (.next (env j2 (.val (.d (eP p))) (.val (.d (eCs g))) (.val (.d (eS s))) (.val (.d (eOR (badT p g s)))) (.val (.d (.tuple ((endsT p g s).map eE)))) j8 j9 j10 j11 j12 j13 j14 j15 j16)) t3 := by
    cases hb : badT p g s with
    | none => simp [L_law_f2, eOR]
    | some r =>
      obtain ⟨⟨e, b1, b2⟩, b3⟩ := bad_some hp hs hb
      have ps := ends_pos hp b1
      have e17 := run_is_run (gl := progG) (fu := 100000) (t := t3) hP hg (show 8 ≤ 20 by decide) hp gk (plain_eR r)
      rw [followX_eR ps, follow_start (zeros p.k) s, follow_iff.mpr b1] at e17
      have e18 := run_run_end (gl := progG) (fu := 100000) (t := t3) hP hg (show 8 ≤ 20 by decide) hp gk hs (plain_eR r)
      rw [followX_eR ps, follow_iff.mpr b1] at e18
      dsimp only at e18
      have e19 := e7 t3 e
      rw [b2] at e19
      have z4 : cmpD .notN (eR r) .none = some true := rfl
      simp [L_law_f2, eOR, z4, e17, e18, e19]
  have r3 : ∃ x9 x10 t4, exs progG (run progG lawT 100000 20) 100000 ((L_law_f2.drop 6).take 1) (env j2 (.val (.d (eP p))) (.val (.d (eCs g))) (.val (.d (eS s))) (.val (.d (eOR (badT p g s)))) (.val (.d (.tuple ((endsT p g s).map eE)))) j8 j9 j10 j11 j12 j13 j14 j15 j16) t3 = .ok (.next (env j2 (.val (.d (eP p))) (.val (.d (eCs g))) (.val (.d (eS s))) (.val (.d (eOR (badT p g s)))) (.val (.d (.tuple ((endsT p g s).map eE)))) j8 x9 x10 j11 j12 j13 j14 j15 j16)) t4 := by
    obtain ⟨fl, t4, e8, x9, x10, rfl⟩ := for_rule (tg := .nm 9) (f := fun ρ' => exs progG (run progG lawT 100000 20) 100000 L_law_f1 ρ') (fun _ ρ _ => ∃ x9 x10, ρ = (env j2 (.val (.d (eP p))) (.val (.d (eCs g))) (.val (.d (eS s))) (.val (.d (eOR (badT p g s)))) (.val (.d (.tuple ((endsT p g s).map eE)))) j8 x9 x10 j11 j12 j13 j14 j15 j16)) (fun fl _ => ∃ x9 x10, fl = .next (env j2 (.val (.d (eP p))) (.val (.d (eCs g))) (.val (.d (eS s))) (.val (.d (eOR (badT p g s)))) (.val (.d (.tuple ((endsT p g s).map eE)))) j8 x9 x10 j11 j12 j13 j14 j15 j16))
      (fun ρ t h => by
        obtain ⟨x9, x10, rfl⟩ := h
        exact ⟨_, _, rfl⟩)
      (fun x xs ρ t h => by
        obtain ⟨x9, x10, rfl⟩ := h
        refine ⟨(env j2 (.val (.d (eP p))) (.val (.d (eCs g))) (.val (.d (eS s))) (.val (.d (eOR (badT p g s)))) (.val (.d (.tuple ((endsT p g s).map eE)))) j8 (.val (.d x)) x10 j11 j12 j13 j14 j15 j16), rfl, .inl ?_⟩
        obtain ⟨r, t5, rk, rl, e9⟩ := run_law_walk (gl := progG) (n := 20) hd haf hbf hmv hwk (by decide) hp (g := g) hs t
        have ps : ∀ e ∈ r, e.1.pos ≤ 3 := fun e he => by
          have := (mem_calls.mp (rk e he)).1
          omega
        have e10 := run_is_run (gl := progG) (fu := 100000) (t := t5) hP hg (show 8 ≤ 20 by decide) hp gk (plain_eR r)
        rw [followX_eR ps, follow_start (zeros p.k) s] at e10
        refine ⟨(env j2 (.val (.d (eP p))) (.val (.d (eCs g))) (.val (.d (eS s))) (.val (.d (eOR (badT p g s)))) (.val (.d (.tuple ((endsT p g s).map eE)))) j8 (.val (.d x)) (.val (.d (eR r))) j11 j12 j13 j14 j15 j16), t5, ?_, _, _, rfl⟩
        cases hf : followT p g s r with
        | none =>
          rw [hf] at e10
          simp [L_law_f1, e9, e10]
        | some e =>
          rw [hf] at e10
          have e11 := run_law_fits (gl := progG) (t := t5) hP hg hbd hft (show 9 ≤ 20 by decide) hp gk hs (follow_iff.mp hf)
          simp [L_law_f1, e9, e10, e11])
      ((List.range 5).map nI) (env j2 (.val (.d (eP p))) (.val (.d (eCs g))) (.val (.d (eS s))) (.val (.d (eOR (badT p g s)))) (.val (.d (.tuple ((endsT p g s).map eE)))) j8 j9 j10 j11 j12 j13 j14 j15 j16) t3 ⟨_, _, rfl⟩
    have rg := rangeN (m := 5) (by decide)
    push_cast at rg
    exact ⟨x9, x10, t4, by simp [L_law_f2, ex_for, rg, e8]⟩
  obtain ⟨x9, x10, t4, r3⟩ := r3
  -- the plain run
  have pl := plain_ends hp g s
  have e12 := run_run_end (gl := progG) (fu := 100000) (t := t4) hP hg (show 8 ≤ 20 by decide) hp gk hs (plain_eR (plainR p.steps.length))
  rw [followX_eR (ends_pos hp pl), follow_iff.mpr pl] at e12
  dsimp only at e12
  have e13 := run_goal (gl := progG) (fu := 100000) (t := t4) hP (show 7 ≤ 20 by decide) hp hs
  have c2 := lc_all (gl := progG) (φ := run progG lawT 100000 20) (t := t4) (enc := nI) (tg := .nm 12) (it := .rng (.b1 .len (.sub (.var 3) (.con (.int 1))))) (e := .tup [.con (.str S_do), .var 12, .con (.str S_ok)]) (ρ := (env j2 (.val (.d (eP p))) (.val (.d (eCs g))) (.val (.d (eS s))) (.val (.d (eOR (badT p g s)))) (.val (.d (.tuple ((endsT p g s).map eE)))) j8 x9 x10 j11 j12 j13 j14 j15 j16)) (List.range p.steps.length) (fun i => eV (.go i, .ok)) (by
      have := rangeN (m := p.steps.length) (by omega)
      simp [this]) (by simp; omega) fun i _ => ⟨(env j2 (.val (.d (eP p))) (.val (.d (eCs g))) (.val (.d (eS s))) (.val (.d (eOR (badT p g s)))) (.val (.d (.tuple ((endsT p g s).map eE)))) j8 x9 x10 j11 (.val (.d (nI i))) j13 j14 j15 j16), rfl, rfl, rfl, rfl⟩
  have z5 : PyData.tuple ((List.range p.steps.length).map fun i => eV (.go i, .ok)) = eR (plainR p.steps.length) := by
    show _ = PyData.tuple (((List.range p.steps.length).map fun i => (Call.go i, Out.ok)).map eV)
    rw [List.map_map]
    rfl
  have z6 : PyData.tuple [.str S_done, eS (goalT p s)] = eE (.done, goalT p s) := rfl
  have z7 : cmpD .ne (eE (.done, goalT p s)) (eE (.done, goalT p s)) = some false := by
    have := codE.ne1 (.done, goalT p s) (.done, goalT p s)
    simpa using this
  have z8 := codE.nmemT1 ((mem_ends hp hs).mpr ⟨_, pl⟩)
  have r4 : exs progG (run progG lawT 100000 20) 100000 ((L_law_f2.drop 7).take 3) (env j2 (.val (.d (eP p))) (.val (.d (eCs g))) (.val (.d (eS s))) (.val (.d (eOR (badT p g s)))) (.val (.d (.tuple ((endsT p g s).map eE)))) j8 x9 x10 j11 j12 j13 j14 j15 j16) t4 = .ok (.next (env j2 (.val (.d (eP p))) (.val (.d (eCs g))) (.val (.d (eS s))) (.val (.d (eOR (badT p g s)))) (.val (.d (.tuple ((endsT p g s).map eE)))) j8 x9 x10 (.val (.d (eR (plainR p.steps.length)))) j12 j13 j14 j15 j16)) t4 := by
    simp [L_law_f2, c2, z5, e12, e13, z6, z7, z8]
  -- without refusals
  have hq := surP_ok hp
  have lq := surP_less p
  have qs : StOk (surP p).k s := hs
  have qk : MadeOk (surP p) g := (lq.same.made g).mpr gk
  have e14 := run_ends (gl := progG) (t := t4) hP hg (show 8 ≤ 20 by decide) hq qk qs
  have e15 := run_bad_starts (gl := progG) (t := t4) hP hg (show 8 ≤ 20 by decide) hq qk
  have e16 := run_bad_starts (gl := progG) (t := t4) hP hg (show 8 ≤ 20 by decide) hp gk
  have c3 := lc_all (gl := progG) (φ := run progG lawT 100000 20) (t := t4) (enc := eT) (tg := .nm 14) (it := .seq (.sub (.var 3) (.con (.int 1)))) (e := .bin .add (.slc (.var 14) (.con .none) (.con (.int 2))) (.tup [.con (.bool false)])) (ρ := (env j2 (.val (.d (eP p))) (.val (.d (eCs g))) (.val (.d (eS s))) (.val (.d (eOR (badT p g s)))) (.val (.d (.tuple ((endsT p g s).map eE)))) j8 x9 x10 (.val (.d (eR (plainR p.steps.length)))) j12 j13 j14 j15 j16)) p.steps (fun x => eT ⟨x.act, x.bck, false⟩) (by simp) (by omega) fun x _ => ⟨(env j2 (.val (.d (eP p))) (.val (.d (eCs g))) (.val (.d (eS s))) (.val (.d (eOR (badT p g s)))) (.val (.d (.tuple ((endsT p g s).map eE)))) j8 x9 x10 (.val (.d (eR (plainR p.steps.length)))) j12 j13 (.val (.d (eT x))) j15 j16), rfl, rfl, (by simp [slc_eT2, add_eT, noneI]), rfl⟩
  have z9 : PyData.tuple [nI p.k, .tuple (p.steps.map fun x => eT ⟨x.act, x.bck, false⟩), .str (eRule p.again)] = eP (surP p) := by
    show _ = PyData.tuple [nI p.k, .tuple ((p.steps.map _).map eT), .str (eRule p.again)]
    rw [List.map_map]
    rfl
  have f2 : (endsT (surP p) g s).filter (fun x => !decide (x ∈ endsT p g s)) = [] := by
    rw [List.filter_eq_nil_iff]
    intro x hx
    have := (mem_ends hp hs).mpr (lq.occ ((mem_ends hq qs).mp hx))
    simp [this]
  have c4 := lc_eq (gl := progG) (φ := run progG lawT 100000 20) (t := t4) (enc := eE) (tg := .nm 8) (it := .seq (.call 47 [.var 13, .var 4, .var 5])) (d := .cmp .nmem (.var 8) (.var 7)) (e := .var 8) (ρ := (env j2 (.val (.d (eP p))) (.val (.d (eCs g))) (.val (.d (eS s))) (.val (.d (eOR (badT p g s)))) (.val (.d (.tuple ((endsT p g s).map eE)))) j8 x9 x10 (.val (.d (eR (plainR p.steps.length)))) j12 (.val (.d (eP (surP p)))) j14 j15 j16)) (endsT (surP p) g s) (fun x => !decide (x ∈ endsT p g s)) eE (by simp [e14]) (ends_len hq qs) fun x hx => ⟨(env j2 (.val (.d (eP p))) (.val (.d (eCs g))) (.val (.d (eS s))) (.val (.d (eOR (badT p g s)))) (.val (.d (.tuple ((endsT p g s).map eE)))) (.val (.d (eE x))) x9 x10 (.val (.d (eR (plainR p.steps.length)))) j12 (.val (.d (eP (surP p)))) j14 j15 j16), rfl, (by
    have := codE.nmemT x (endsT p g s)
    simp [this]), fun _ => ⟨rfl, by simp, rfl⟩⟩
  rw [f2, List.map_nil] at c4
  have r5 : exs progG (run progG lawT 100000 20) 100000 ((L_law_f2.drop 10).take 2) (env j2 (.val (.d (eP p))) (.val (.d (eCs g))) (.val (.d (eS s))) (.val (.d (eOR (badT p g s)))) (.val (.d (.tuple ((endsT p g s).map eE)))) j8 x9 x10 (.val (.d (eR (plainR p.steps.length)))) j12 j13 j14 j15 j16) t4 = .ok (.next (env j2 (.val (.d (eP p))) (.val (.d (eCs g))) (.val (.d (eS s))) (.val (.d (eOR (badT p g s)))) (.val (.d (.tuple ((endsT p g s).map eE)))) j8 x9 x10 (.val (.d (eR (plainR p.steps.length)))) j12 (.val (.d (eP (surP p)))) j14 j15 j16)) t4 := by
    simp [L_law_f2, c3, z9, c4, ne_ll0]
  have f3 : ((allS (surP p).k).filter fun s => !goodT (surP p) g s).filter (fun x => !decide (x ∈ (allS p.k).filter fun s => !goodT p g s)) = [] := by
    rw [List.filter_eq_nil_iff]
    intro x hx
    obtain ⟨h1, h2⟩ := List.mem_filter.mp hx
    rw [lq.k] at h1
    have h2 : goodT p g x = false := by
      cases z : goodT p g x with
      | false => rfl
      | true =>
        rw [lq.good hq hp (mem_allS.mp h1) z] at h2
        cases h2
    have : x ∈ (allS p.k).filter fun s => !goodT p g s := List.mem_filter.mpr ⟨h1, by simp [h2]⟩
    simp only [this, decide_true, Bool.not_true, Bool.false_eq_true, not_false_eq_true]
  have c5 := lc_eq (gl := progG) (φ := run progG lawT 100000 20) (t := t4) (enc := eS) (tg := .nm 16) (it := .seq (.call 46 [.var 13, .var 4])) (d := .cmp .nmem (.var 16) (.var 15)) (e := .var 16) (ρ := (env j2 (.val (.d (eP p))) (.val (.d (eCs g))) (.val (.d (eS s))) (.val (.d (eOR (badT p g s)))) (.val (.d (.tuple ((endsT p g s).map eE)))) j8 x9 x10 (.val (.d (eR (plainR p.steps.length)))) j12 (.val (.d (eP (surP p)))) j14 (.val (.d (.tuple (((allS p.k).filter fun s => !goodT p g s).map eS)))) j16)) ((allS (surP p).k).filter fun s => !goodT (surP p) g s) (fun x => !decide (x ∈ (allS p.k).filter fun s => !goodT p g s)) eS (by simp [e15]) (by
      have := List.length_filter_le (fun s => !goodT (surP p) g s) (allS (surP p).k)
      have := allS_len hq.k3
      omega) fun x hx => ⟨(env j2 (.val (.d (eP p))) (.val (.d (eCs g))) (.val (.d (eS s))) (.val (.d (eOR (badT p g s)))) (.val (.d (.tuple ((endsT p g s).map eE)))) j8 x9 x10 (.val (.d (eR (plainR p.steps.length)))) j12 (.val (.d (eP (surP p)))) j14 (.val (.d (.tuple (((allS p.k).filter fun s => !goodT p g s).map eS)))) (.val (.d (eS x)))), rfl, (by
    have := codS.nmemT x ((allS p.k).filter fun s => !goodT p g s)
    simp [this]), fun _ => ⟨rfl, by simp, rfl⟩⟩
  rw [f3, List.map_nil] at c5
  have r6 : ∃ x15, exs progG (run progG lawT 100000 20) 100000 (L_law_f2.drop 12) (env j2 (.val (.d (eP p))) (.val (.d (eCs g))) (.val (.d (eS s))) (.val (.d (eOR (badT p g s)))) (.val (.d (.tuple ((endsT p g s).map eE)))) j8 x9 x10 (.val (.d (eR (plainR p.steps.length)))) j12 (.val (.d (eP (surP p)))) j14 j15 j16) t4 = .ok (.next (env j2 (.val (.d (eP p))) (.val (.d (eCs g))) (.val (.d (eS s))) (.val (.d (eOR (badT p g s)))) (.val (.d (.tuple ((endsT p g s).map eE)))) j8 x9 x10 (.val (.d (eR (plainR p.steps.length)))) j12 (.val (.d (eP (surP p)))) j14 x15 j16)) t4 := by
    by_cases h : p.k < 3
    · have h' : (p.k : Int) < 3 := by omega
      exact ⟨_, by simp [L_law_f2, h', e16, c5, ne_ll0]; rfl⟩
    · have h' : ¬ (p.k : Int) < 3 := by omega
      exact ⟨j15, by simp [L_law_f2, h']⟩
  obtain ⟨x15, r6⟩ := r6
  exact ⟨_, _, _, _, _, _, _, _, _, _, _, _, _, _, t4, Eq.trans (by
    rw [← List.take_append_drop 5 L_law_f2, exs_app, r1, seq_next, ← List.take_append_drop 1 (L_law_f2.drop 5), exs_app, r2, seq_next, List.drop_drop, ← List.take_append_drop 1 (L_law_f2.drop (5 + 1)), exs_app]
    show R.seq (exs progG (run progG lawT 100000 20) 100000 ((L_law_f2.drop 6).take 1) _ _) _ = _
    rw [r3, seq_next, List.drop_drop, ← List.take_append_drop 3 (L_law_f2.drop (5 + 1 + 1)), exs_app]
    show R.seq (exs progG (run progG lawT 100000 20) 100000 ((L_law_f2.drop 7).take 3) _ _) _ = _
    rw [r4, seq_next, List.drop_drop, ← List.take_append_drop 2 (L_law_f2.drop (5 + 1 + 1 + 3)), exs_app]
    show R.seq (exs progG (run progG lawT 100000 20) 100000 ((L_law_f2.drop 10).take 2) _ _) _ = _
    rw [r5, seq_next, List.drop_drop]
    rfl) r6⟩
theorem law_true : ∀ script : List Int, script.length ≤ 63 → ∃ τ', exs progG (Bk.run progG lawT 100000 20) 100000 L_law (startL lawN) ⟨script, 0, []⟩ = .ok (.ret (.d (.bool true))) τ' := by
  intro script _
  obtain ⟨fl, t2, e2, j2, j3, j4, j5, j6, j7, j8, j9, j10, j11, j12, j13, j14, j15, j16, rfl⟩ := for_rule (tg := .nm 2) (f := fun ρ' => exs progG (run progG lawT 100000 20) 100000 L_law_f2 ρ') (fun _ ρ _ => ∃ j2 j3 j4 j5 j6 j7 j8 j9 j10 j11 j12 j13 j14 j15 j16, ρ = env j2 j3 j4 j5 j6 j7 j8 j9 j10 j11 j12 j13 j14 j15 j16) (fun fl _ => ∃ j2 j3 j4 j5 j6 j7 j8 j9 j10 j11 j12 j13 j14 j15 j16, fl = .next (env j2 j3 j4 j5 j6 j7 j8 j9 j10 j11 j12 j13 j14 j15 j16))
    (fun ρ t h => by
      obtain ⟨j2, j3, j4, j5, j6, j7, j8, j9, j10, j11, j12, j13, j14, j15, j16, rfl⟩ := h
      exact ⟨_, _, _, _, _, _, _, _, _, _, _, _, _, _, _, rfl⟩)
    (fun x xs ρ t h => by
      obtain ⟨j2, j3, j4, j5, j6, j7, j8, j9, j10, j11, j12, j13, j14, j15, j16, rfl⟩ := h
      obtain ⟨k3, k4, k5, k6, k7, k8, k9, k10, k11, k12, k13, k14, k15, k16, t', e⟩ := turn_true t (.val (.d x)) j3 j4 j5 j6 j7 j8 j9 j10 j11 j12 j13 j14 j15 j16
      exact ⟨env (.val (.d x)) j3 j4 j5 j6 j7 j8 j9 j10 j11 j12 j13 j14 j15 j16, rfl, .inl ⟨_, t', e, _, _, _, _, _, _, _, _, _, _, _, _, _, _, _, rfl⟩⟩)
    ((List.range 4).map nI) (env .emp .emp .emp .emp .emp .emp .emp .emp .emp .emp .emp .emp .emp .emp .emp) ⟨script, 0, []⟩ ⟨_, _, _, _, _, _, _, _, _, _, _, _, _, _, _, rfl⟩
  refine ⟨t2, ?_⟩
  have rg := rangeN (m := 4) (by decide)
  push_cast at rg
  show exs _ _ _ L_law (env .emp .emp .emp .emp .emp .emp .emp .emp .emp .emp .emp .emp .emp .emp .emp) _ = _
  simp [L_law, ex_for, rg, e2]
end Bk
namespace Bk
open PySem PySem.Spec PyProof.Rows L2
def lawNames : List Str := (["is_between", "is_ascending", "is_state_of", "is_operation", "is_action_of", "applied", "states_of", "is_step", "is_plan", "check_plan", "calls_of", "is_call", "check_guards", "check_start", "goal_of", "goal", "outcomes_of", "taking_back", "next_of", "has_effect", "called", "moved", "is_event", "followed", "is_run", "run_end", "is_good_end", "found_ends", "are_good", "ends_clean"] : List Str) ++ (["bad_run", "bad_starts", "ends", "_law_draw", "_law_begun", "_law_action", "_law_plan", "_law_calls", "_law_guards", "_law_start", "_law_after", "_law_back_from", "_law_moves", "_law_walk", "_law_bad", "_law_fits", "law"] : List Str)
def lawX : List Str := ["InvalidPlan", "InvalidGuards", "InvalidStart", "InvalidRun"]
namespace Hd
abbrev P : Program := PySem.Challenge.pw_backsteps_k09_whole_deciding
def topS (i : Nat) : Stmt := P.main.body.getD i (.Pass ⟨0, 0, 0, 0⟩)
def fn : List He.DefD := defsOf P
def ts : List (Str × List He.Dv) := if lawG.isEmpty = true then [] else [("FIRST", [.str "do", .int 0])]
def fa : List He.Fa := faOf (lawNames ++ if lawG.isEmpty = true then [] else (["FIRST"] : List Str)) lawX
abbrev R : PySem.W.OpenRow := PySem.W.OpenLaw.row PySem.Challenge.rw_backsteps_k09_whole_deciding
abbrev hk : PySem.W.Hook := hookX 4 fa fn ts
def ob (s : PySem.W.SharedT) : AlX := obsX 4 fa fn ts (HandSHeadRun.getT s)
theorem ob_eq (s : PySem.W.SharedT) : ob s = hk.obs s.abs := obsX_eq (HandSHeadRun.getT_eq s)
def loose : List Str := (["StepError", "InvalidPlan", "InvalidGuards", "InvalidStart", "InvalidRun", "is_between", "is_ascending", "is_state_of", "is_operation", "is_action_of", "applied", "states_of", "is_step", "is_plan", "check_plan", "calls_of", "is_call", "check_guards", "check_start", "goal_of", "goal", "FIRST", "outcomes_of", "taking_back", "next_of", "has_effect", "called", "moved", "is_event", "followed"] : List Str) ++ (["is_run", "run_end", "is_good_end", "found_ends", "are_good", "ends_clean", "bad_run", "bad_starts", "ends", "_law_draw", "_law_begun", "_law_action", "_law_plan", "_law_calls", "_law_guards", "_law_start", "_law_after", "_law_back_from", "_law_moves", "_law_walk", "_law_bad", "_law_fits"] : List Str)
theorem run (w : World) : HandSHeadRun.RunEq R (PySem.W.view R.prog [57]) hk ob 20000 loose w := by
  intro os
  kernel_rfl
/-! ### the draw, the town, the law's first row -/
abbrev sDraw : Stmt := topS 44
abbrev sBegun : Stmt := topS 45
abbrev sLaw : Stmt := topS 57
theorem scD : FnScope dN ["script", "town", "many"] (defScope sDraw) := ⟨rfl, rfl, rfl, by decide +kernel, rfl, by decide +kernel, by decide +kernel⟩
theorem draw_text {P : Program} {w : World} {K : PySem.W.Frag} {mg : Str → Option Value} {base : Heap} {f : Addr} (ml : mg "len" = none) (cdv : Value) (A : Around) (outer : List Env) (s : Shared) (H : Hp) (E : XK) (hu : A.units + 50 < cLine) :
    PSs (cxOf (L2.CX P w) P w K mg base dN "_law_draw" (defScope sDraw) f cdv A outer s H E) (defBody sDraw) (tDraw K) := by
  have hu' : (cxOf (L2.CX P w) P w K mg base dN "_law_draw" (defScope sDraw) f cdv A outer s H E).A.units + 1 < cLine := by
    show (A.deeper _).units + 1 < cLine
    rw [Around.deeper_units]
    omega
  unfold tDraw
  refine pss_cons (ps_dput hu' (pv 1) pe_str (pe_op op_add (pe_dget hu' (pv 1) pe_str (fun _ _ => rfl)) pe_int) rfl) ?_
  refine pss_cons (ps_set (i := 3) scD.nd rfl (.inl rfl) (pe_ifExp (pt_truth (pv 0) fun _ => rfl) (pe_op op_mod (pe_dget hu' (pv 1) pe_str (fun _ _ => rfl)) (pe_callB call_len rfl ml boot_len (pa_cons (pv 0) pa_nil))) pe_int)) ?_
  refine pss_cons (ps_set (i := 4) scD.nd rfl (.inl rfl) (pe_dget2 hu' (pe_dget hu' (pv 1) pe_str (fun _ _ => rfl)) (pv 3) (pe_ifExp (pt_truth (pv 0) fun _ => rfl) (pe_ix ix_list (pv 0) (pv 3) (fun _ _ => rfl)) pe_int) ⟨rfl, rfl, rfl, rfl⟩)) ?_
  refine pss_cons (ps_if (pt_cmpR op_ge (pv 4) (pe_op op_pow pe_int pe_int) rfl) (pss_cons (ps_dput hu' (pe_dget hu' (pv 1) pe_str (fun _ _ => rfl)) (pv 3) (pe_op op_fdiv (pv 4) (pv 2)) rfl) (pss_cons (ps_ret (pe_op op_mod (pv 4) (pv 2))) pss_nil)) pss_nil) ?_
  refine pss_cons (ps_set (i := 5) scD.nd rfl (.inl rfl) (pe_op op_mod (pe_op op_add (pv 4) (pe_op op_mul pe_int (pe_dget hu' (pv 1) pe_str (fun _ _ => rfl)))) pe_int)) ?_
  refine pss_cons (ps_set (i := 5) scD.nd rfl (.inl rfl) (pe_op op_mod (pe_op op_pow (pv 5) pe_int) pe_int)) ?_
  exact pss_cons (ps_ret (pe_op op_mod (pe_op op_fdiv (pe_op op_mod (pe_op op_add (pe_op op_mul (pe_op op_fdiv (pv 5) pe_int) pe_int) (pv 5)) pe_int) pe_int) (pv 2))) pss_nil
theorem scB : FnScope [] [] (defScope sBegun) := ⟨rfl, rfl, rfl, by decide +kernel, rfl, by decide +kernel, by decide +kernel⟩
theorem begun_text {P : Program} {w : World} {K : PySem.W.Frag} {mg : Str → Option Value} {base : Heap} {f : Addr} (cdv : Value) (A : Around) (outer : List Env) (s : Shared) (H : Hp) (E : XK) :
    PSs (cxOf (L2.CX P w) P w K mg base [] "_law_begun" (defScope sBegun) f cdv A outer s H E) (defBody sBegun) tBegun :=
  pss_cons (ps_ret (pe_disp (pps_cons pe_str pe_int (pps_cons pe_str pe_dnewK pps_nil)) rfl rfl (fun z => nomatch z) (by decide))) pss_nil
theorem law_text : ∃ q p1 p2 ps, defBody sLaw = .Assign [.Name "town" q] (.Call (.Name "_law_begun" p1) [] [] p2) ps :: (defBody sLaw).tail := ⟨_, _, _, _, rfl⟩
theorem in_top {i : Nat} (h : Nat.blt i P.main.body.length = true) : topS i ∈ P.main.body := by
  have h : i < P.main.body.length := Nat.le_of_ble_eq_true h
  unfold topS
  rw [List.getD_eq_getElem?_getD, List.getElem?_eq_getElem h]
  exact List.getElem_mem h
theorem defs_ok : defsB lawF lawG lawE lawT fn 70 = true := by kernel_rfl
theorem law_chk : chkB 40 40 ⟨lawN, defScope sLaw, true, lawF, lawG, lawE⟩ L_law (defBody sLaw).tail = true := by kernel_rfl
theorem fns_ok : (lawF.all fun q => lawNames.contains q.1 && (fn.any fun d => d.name == q.1)) = true := by kernel_rfl
theorem facts {w : World} {K : PySem.W.Frag} {h : Heap} {mg : Str → Option Value} {f : Addr} (X : K.In h) (G : h.Ns mainGlobals mg) (hfa : mg ("law" : Str) = some (.ref f)) (c : He.SaysD fa fn K) (c2 : ∀ t ∈ ts, He.tupB K t.1 t.2 = true)
    (hl : ∀ script : List Int, script.length ≤ 63 → ∃ τ', exs progG (Bk.run progG lawT 100000 20) 100000 L_law (startL lawN) ⟨script, 0, []⟩ = .ok (.ret (.d (.bool true))) τ') :
    ∃ fd : FuncData, (∀ (s : Shared) (v : Value), BindsTo s fd ⟨[v], []⟩ [("script", v)]) ∧ ∀ base : Heap, K.In base → base.Ns mainGlobals mg → FnOk P w K mg base (L2.CX P w) 21 f fd ["script"] (spLaw K) := by
  obtain ⟨fdD, FD⟩ := fun_of c (st := sDraw) (x := "_law_draw") (in_top (by kernel_rfl)) (by kernel_rfl)
  obtain ⟨fdB, FB⟩ := fun_of c (st := sBegun) (x := "_law_begun") (in_top (by kernel_rfl)) (by kernel_rfl)
  obtain ⟨fd, F⟩ := fun_of c (st := sLaw) (x := "law") (in_top (by kernel_rfl)) (by kernel_rfl)
  have gb : ∀ {x : Str}, lawNames.contains x = true → mg x = some (.ref (He.ga K x)) := fun hx => He.glo_ok X G (says_fa c (fa_glo (List.mem_append_left _ (by simpa using hx))))
  have e := hfa.symm.trans (gb (x := "law") (by kernel_rfl))
  cases e
  have b := FunD.bindsA (ps := ["script"]) F fun _ _ _ _ _ _ us hl => match us, hl with | [_], _ => rfl
  refine ⟨fd, fun s v => b s [v] rfl, fun base _ _ => ?_⟩
  obtain ⟨q, p1, p2, ps, et⟩ := law_text
  rw [et] at F
  have ml : mg "len" = none := He.free_ok X G (says_fa c (fa_free (by decide +kernel)))
  have hE : ∀ r, HEnv P w K mg (cfOf w K (adOf K (fnm lawF)) (adOf K lawE) r) progG lawF lawG lawE := fun r => henv_of X G c (by kernel_rfl) (fun q hq => by
      obtain ⟨z1, z2⟩ := ands (List.all_eq_true.mp fns_ok q hq)
      obtain ⟨d, hd, ed⟩ := List.any_eq_true.mp z2
      exact ⟨List.mem_append_left _ (by simpa using z1), d, hd, eq_of_beq ed⟩) (by kernel_rfl) (fun q hq => by
      have z : (lawE.all fun q => lawX.contains q.1) = true := by kernel_rfl
      simpa using List.all_eq_true.mp z q hq) (fun x g hq => by
      have z : x = ("FIRST" : Str) ∧ g = 1 := by simpa [lawG] using hq
      obtain ⟨rfl, rfl⟩ := z
      obtain ⟨g1, g2⟩ := gl_of (x := "FIRST") (vs := [.str "do", .int 0]) (ds := [.str S_do, .int 0]) X G (says_fa c (fa_glo (List.mem_append_right _ (List.mem_singleton.mpr rfl)))) (c2 ("FIRST", [.str "do", .int 0]) (List.mem_singleton.mpr rfl)) (by kernel_rfl)
      exact ⟨_, D_FIRST, g1, rfl, rfl, rfl, g2⟩)
  refine law_ok hE (fun r x ix np hq => ?_) F ⟨rfl, rfl, rfl, by decide +kernel, rfl, by decide +kernel, by decide +kernel⟩ (by decide) rfl (by decide +kernel) (by decide +kernel) (begun_ok FB scB begun_text) (FB.bindsN fun _ _ _ _ _ _ us hl => match us, hl with | [], _ => rfl) (gb (by kernel_rfl)) FB.kp (by decide) law_chk hl
  have hf : ∀ x ix np, (x, ix, np) ∈ lawF → (cfOf w K (adOf K (fnm lawF)) (adOf K lawE) r).fad ix = He.ga K x := fun x ix np hq => adOf_eq (by kernel_rfl) (List.mem_map.mpr ⟨_, hq, rfl⟩)
  by_cases hd : ix = 70
  · subst hd
    have z : (lawF.all fun q => (q.2.1 != 70) || (q.1 == "_law_draw" && q.2.2 == 3)) = true := by kernel_rfl
    have z := List.all_eq_true.mp z _ hq
    have z2 : x = "_law_draw" ∧ np = 3 := by simpa using z
    obtain ⟨rfl, rfl⟩ := z2
    refine .inr ⟨drawV, fdD, ["script", "town", "many"], rfl, ?_, FD.bindsN fun _ _ _ _ _ _ us hl => match us, hl with | [_, _, _], _ => rfl⟩
    rw [hf _ _ _ hq]
    exact draw_ok rfl FD scD (draw_text ml)
  · exact def_of c hf defs_ok hq hd
end Hd
end Bk
open PySem PySem.W PySem.Calls PyProof.Rows
theorem PySem.Challenge.cw_backsteps_k09_whole_deciding_holds : PySem.Challenge.rw_backsteps_k09_whole_deciding.Holds := by
  w_on; o_law
  refine HandSHeadRun.head_any (r := OpenLaw.row PySem.Challenge.rw_backsteps_k09_whole_deciding) (q := view (OpenLaw.row PySem.Challenge.rw_backsteps_k09_whole_deciding).prog [57]) (H := Bk.Hd.hk) (ob := Bk.Hd.ob) (M := 20000) (loose := Bk.Hd.loose) (d := HandSHeadRun.topDef (OpenLaw.row PySem.Challenge.rw_backsteps_k09_whole_deciding).prog 57) (kwd := []) Bk.Hd.ob_eq
    (by kernel_rfl) (fun s => by kernel_rfl) Bk.Hd.run (by kernel_rfl) (by kernel_rfl) (by kernel_rfl) (by rfl) (by first | assumption | decide +kernel) (by decide +kernel) ⟨rfl, rfl, rfl, rfl, rfl, by decide +kernel⟩ ?hw ?hc
  case hw => w_witness2
  case hc =>
    refine Bk.walk_w (l := PySem.Challenge.rw_backsteps_k09_whole_deciding) (n := 63) (k := 21) (x := "script") (cx := fun w => L2.CX (OpenLaw.row PySem.Challenge.rw_backsteps_k09_whole_deciding).prog w) rfl (by decide) (by kernel_rfl) ⟨rfl, by decide, by decide⟩ ?F (fun _ _ _ _ _ z => by obtain ⟨_, _, _, _, _, z⟩ := z; exact z.2.2.2.2.2.2.2.elim)
    intro w mg fa h Y G hmg0
    obtain ⟨K, KX, c, c2⟩ := Y
    have hmg : mg ("law" : PySem.Str) = some (.ref fa) := by
      have e : (HandSHeadRun.topDef (OpenLaw.row PySem.Challenge.rw_backsteps_k09_whole_deciding).prog 57).name = ("law" : PySem.Str) := by kernel_rfl
      rw [← e]
      exact hmg0
    obtain ⟨fd, hb, hF⟩ := Bk.Hd.facts (w := w) KX G hmg c c2 Bk.law_true
    exact ⟨K, fd, Bk.spLaw K, KX, hb, fun H a ns hl hO hS => ⟨a, ns, rfl, Bk.scr_of hO hS, hl, fun _ => rfl⟩, hF⟩
