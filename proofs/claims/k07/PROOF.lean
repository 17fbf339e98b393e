import PyProof.Rows.All
import Wide.All
import OpenK.AllK
import Wide.FinOn
import KE.SortData
import HandS.ForMost
import HandS.Deep
import HandS.TupAny
import HandS.Style
import HandS.Zip
import HandS.Lambda
import HandS.Star
import KE.DataCmp
import HandS.TupMul
import HandS.IsInst
import KE.GoesEnum
import HandS.ExcInit
import HandS.ExcField
import HandS.ExcIs
import HandS.TryMany
import HandS.ClsMeth
import HandS.HeadHook4
import HandS.HeadWalk
import HandS.Defaults
import HandS.Head2
import HandS.HeadEnd
import HandS.HeadHook2
import HandS.More
import HandS.HeadHook3
import KE.KRevSl
import KE.GoesZip
import KE.GoesMore
import HandS.Dict
import HandS.Codes
import HandS.Exc
import KE.KStateDown
import Lean
import HandS.Base
import HandS.Call
import HandS.Ends
import HandS.Words
import HandS.WordsExc
import HandS.Head0
import HandS.Head1
import HandS.HeadHook1
import PySem.Challenge.RW_joinsums_k07_whole_exchanges
set_option linter.all false
/-! DEsem: a small language, its values and what its terms mean (no heap in sight). -/
namespace DE
open PySem

/-! ### values -/
inductive D where
  | non | bl (b : Bool) | int (i : Int) | str (x : Str)
  | tup (xs : List D) | lst (xs : List D) | dct (kvs : List (D × D))
  | st
  deriving Inhabited

mutual
def D.py : D → PyData
  | .non => .none
  | .bl b => .bool b
  | .int i => .int i
  | .str x => .str x
  | .tup xs => .tuple (pyAll xs)
  | .lst xs => .list (pyAll xs)
  | .dct _ => .dict []
  | .st => .dict []
def pyAll : List D → List PyData
  | [] => []
  | x :: xs => D.py x :: pyAll xs
end
theorem pyAll_map : ∀ xs : List D, pyAll xs = xs.map D.py
  | [] => by simp [pyAll]
  | x :: xs => by simp [pyAll, pyAll_map xs]

/-- comparable by == -/
def shp (d : D) : Bool := SeqAt.shaped d.py

/-! ### the machine's state, results -/
structure S where
  on : Bool
  cells : List Int
  lefts : List Int
  at_ : Int
/-- an error that was raised: its class, what it was made with -/
structure Exn where
  cls : Str
  args : List D
inductive R (α : Type) where
  | ok (a : α) (s : S)
  | exc (x : Exn) (s : S)
  | stuck
def M (α : Type) : Type := S → R α
def M.pure {α : Type} (a : α) : M α := fun s => .ok a s
def M.bind {α β : Type} (m : M α) (f : α → M β) : M β := fun s => match m s with
  | .ok a s' => f a s'
  | .exc x s' => .exc x s'
  | .stuck => .stuck
instance : Monad M where
  pure := M.pure
  bind := M.bind
def stuck {α : Type} : M α := fun _ => .stuck
def raise {α : Type} (x : Exn) : M α := fun s => .exc x s
def R.wp {α : Type} (r : R α) (Q : α → S → Prop) (Ex : Exn → S → Prop) : Prop := match r with
  | .ok a s => Q a s
  | .exc x s => Ex x s
  | .stuck => False
theorem R.wp_mono {α : Type} {r : R α} {Q Q' : α → S → Prop} {Ex Ex' : Exn → S → Prop} (h : r.wp Q Ex) (hq : ∀ a s, Q a s → Q' a s) (he : ∀ x s, Ex x s → Ex' x s) : r.wp Q' Ex' := by
  cases r with
  | ok a s => exact hq _ _ h
  | exc x s => exact he _ _ h
  | stuck => exact h
theorem wp_pure {α : Type} {a : α} {s : S} {Q : α → S → Prop} {Ex : Exn → S → Prop} : ((pure a : M α) s).wp Q Ex = Q a s := rfl
theorem wp_bind {α β : Type} {m : M α} {f : α → M β} {s : S} {Q : β → S → Prop} {Ex : Exn → S → Prop} :
    ((m >>= f) s).wp Q Ex = (m s).wp (fun a s' => (f a s').wp Q Ex) Ex := by
  show (M.bind m f s).wp Q Ex = _
  unfold M.bind
  cases m s <;> rfl
theorem wp_stuck {α : Type} {s : S} {Q : α → S → Prop} {Ex : Exn → S → Prop} : ((stuck : M α) s).wp Q Ex = False := rfl
@[simp] theorem pure_bind' {α β : Type} (a : α) (f : α → M β) : (pure a >>= f) = f a := by
  funext s
  exact rfl
@[simp] theorem stuck_bind {α β : Type} (f : α → M β) : ((stuck : M α) >>= f) = stuck := by
  funext s
  exact rfl
@[simp] theorem raise_bind {α β : Type} (x : Exn) (f : α → M β) : ((raise x : M α) >>= f) = raise x := by
  funext s
  exact rfl
@[simp] theorem bind_assoc' {α β γ : Type} (m : M α) (f : α → M β) (g : β → M γ) : ((m >>= f) >>= g) = (m >>= fun a => f a >>= g) := by
  funext s
  show M.bind (M.bind m f) g s = M.bind m (fun a => M.bind (f a) g) s
  unfold M.bind
  cases m s <;> rfl
@[simp] theorem bind_pure' {α : Type} (m : M α) : (m >>= fun a => pure a) = m := by
  funext s
  show M.bind m M.pure s = m s
  unfold M.bind M.pure
  cases m s <;> rfl

/-! ### operations -/
def LINE : Nat := 16777216
def ints? : List D → Option (List Int)
  | [] => some []
  | .int i :: r => (ints? r).map (i :: ·)
  | _ :: _ => none
def bools? : List D → Option (List Bool)
  | [] => some []
  | .bl i :: r => (bools? r).map (i :: ·)
  | _ :: _ => none
def strs? : List D → Option (List Str)
  | [] => some []
  | .str i :: r => (strs? r).map (i :: ·)
  | _ :: _ => none

inductive Bop where
  | add | sub | mul | fdiv | mod | pow
  deriving DecidableEq
def small (i : Int) : Bool := decide (-(2 ^ 64) < i) && decide (i < 2 ^ 64)
def binD : Bop → D → D → M D
  | .add, .int i, .int j => pure (.int (i + j))
  | .add, .lst a, .lst b => if a.length + b.length ≤ LINE then pure (.lst (a ++ b)) else stuck
  | .add, .tup a, .tup b => if a.length + b.length ≤ LINE then pure (.tup (a ++ b)) else stuck
  | .add, .str a, .str b => if a.length + b.length ≤ LINE then pure (.str (a ++ b)) else stuck
  | .sub, .int i, .int j => pure (.int (i - j))
  | .mul, .int i, .int j => if small i || small j then pure (.int (i * j)) else stuck
  | .mul, .tup a, .int k => if 1 ≤ a.length ∧ 2 ≤ k ∧ k ≤ 1000 ∧ a.length ≤ 1000 then pure (.tup (List.replicate k.toNat a).flatten) else stuck
  | .mul, .lst a, .int k => if 0 ≤ k ∧ k ≤ 1000 ∧ a.length ≤ 1000 then pure (.lst (List.replicate k.toNat a).flatten) else stuck
  | .fdiv, .int i, .int j => if j ≠ 0 ∧ j.natAbs < 1073741824 then pure (.int (i.fdiv j)) else stuck
  | .mod, .int i, .int j => if j ≠ 0 then pure (.int (i.fmod j)) else stuck
  | .pow, .int i, .int j => if 0 ≤ j ∧ j ≤ 1000000 ∧ i.natAbs < 2 ^ 64 then pure (.int (i ^ j.toNat)) else stuck
  | _, _, _ => stuck

inductive Cop where
  | eq | ne | lt | le | gt | ge | in_ | nin | is_ | isn
  deriving DecidableEq
/-- a < b of alike data -/
def notNon : D → Bool
  | .non => false
  | _ => true
def ltD (a b : D) : M Bool := if shp a && shp b && W.alike a.py b.py && notNon a then pure (W.dataLt a.py b.py) else stuck
/-- a <= b, a > b, a >= b of alike data -/
def leD (a b : D) : M Bool := if shp a && shp b && W.alike a.py b.py && notNon a then pure (!W.dataLt b.py a.py) else stuck
def gtD (a b : D) : M Bool := if shp a && shp b && W.alike a.py b.py && notNon a then pure (W.dataLt b.py a.py) else stuck
def geD (a b : D) : M Bool := if shp a && shp b && W.alike a.py b.py && notNon a then pure (!W.dataLt a.py b.py) else stuck
def eqS (a b : D) : M Bool := if shp a && shp b then pure (PyData.eqv a.py b.py) else stuck
def eqD : D → D → M Bool
  | .str x, .str y => pure (decide (x = y))
  | a, b => eqS a b
theorem eqD_of {a b : D} (h : shp a = true) (g : shp b = true) : eqD a b = pure (PyData.eqv a.py b.py) := by
  have e : eqS a b = pure (PyData.eqv a.py b.py) := by
    unfold eqS
    rw [h, g]
    rfl
  cases a <;> cases b <;> first
    | exact e
    | (show (pure _ : M Bool) = pure _
       simp only [D.py, PyData.eqv]
       rfl)
theorem eqD_ds (a b : D) : (∃ x y, a = .str x ∧ b = .str y ∧ eqD a b = pure (decide (x = y))) ∨ eqD a b = eqS a b := by
  cases a <;> cases b <;> first
    | exact .inr rfl
    | exact .inl ⟨_, _, rfl, rfl, rfl⟩
def inD (a : D) : D → M Bool
  | .lst xs => if shp a && shp (.lst xs) then pure (xs.any fun z => PyData.eqv z.py a.py) else stuck
  | .tup xs => if shp a && shp (.tup xs) then pure (xs.any fun z => PyData.eqv z.py a.py) else stuck
  | _ => stuck
def isD : D → D → M Bool
  | .non, .non => pure true
  | _, .non => pure false
  | .bl a, .bl b => pure (decide (a = b))
  | _, _ => stuck
def cmpD : Cop → D → D → M Bool
  | .eq, a, b => eqD a b
  | .ne, a, b => do return !(← eqD a b)
  | .lt, .int i, .int j => pure (decide (i < j))
  | .le, .int i, .int j => pure (decide (i ≤ j))
  | .gt, .int i, .int j => pure (decide (j < i))
  | .ge, .int i, .int j => pure (decide (j ≤ i))
  | .lt, a, b => ltD a b
  | .le, a, b => leD a b
  | .gt, a, b => gtD a b
  | .ge, a, b => geD a b
  | .in_, a, b => inD a b
  | .nin, a, b => do return !(← inD a b)
  | .is_, a, b => isD a b
  | .isn, a, b => do return !(← isD a b)

/-- the place that Python's index i means in n things -/
def ixN (n : Nat) (i : Int) : Option Nat := if 0 ≤ i then (if i < n then some i.toNat else none) else if -(n : Int) ≤ i then some (i + n).toNat else none
def atD {α : Type} (xs : List α) (i : Int) : Option α := (ixN xs.length i).bind fun j => xs[j]?
def optM {α : Type} : Option α → M α
  | some d => pure d
  | none => stuck
def subD : D → D → M D
  | .lst xs, .int i => optM (atD xs i)
  | .tup xs, .int i => optM (atD xs i)
  | _, _ => stuck
/-- the bound of a slice -/
def sIx (n d : Nat) : Option Int → Nat
  | none => d
  | some v => if v < 0 then (v + (n : Int)).toNat else min v.toNat n
def cut {α : Type} (xs : List α) (lo hi : Option Int) : List α := (xs.drop (sIx xs.length 0 lo)).take (sIx xs.length xs.length hi - sIx xs.length 0 lo)
def optI : Option D → M (Option Int)
  | none => pure none
  | some (.int i) => pure (some i)
  | _ => stuck
def sliceD : D → Option Int → Option Int → M D
  | .lst xs, lo, hi => pure (.lst (cut xs lo hi))
  | .tup xs, lo, hi => pure (.tup (cut xs lo hi))
  | _, _, _ => stuck

inductive Bi where
  | len | sum | all | any | sorted | tuple | list | min1 | max1 | min2 | max2 | int1 | repr
  deriving DecidableEq
def fullTup : D → Bool
  | .tup (_ :: _) => true
  | _ => false
def noTup : D → Bool
  | .tup _ => false
  | .non => false
  | _ => true
/-- all items alike, of small depth; each a tuple with an item, or none a tuple or None -/
def sortable (ds : List D) : Bool :=
  (ds.all fun a => ds.all fun b => W.alike a.py b.py) && ds.all shp && decide (ds.length ≤ LINE) &&
    (ds.all fullTup || ds.all noTup)
def sortD (ds : List D) : M D := if sortable ds then pure (.lst (ds.mergeSort (W.dataLe false D.py))) else stuck
def optF {α : Type} (o : Option α) (f : α → M D) : M D := match o with
  | some a => f a
  | none => stuck
/-- its text can be told -/
def showB (d : D) : Bool := shp d && d.py.showable && !d.py.hasDict && decide (d.py.shown.length ≤ LINE)
def reprD (d : D) : M D := if showB d then pure (.str d.py.shown) else stuck
def revD : D → M D
  | .lst xs => pure (.lst xs.reverse)
  | .tup xs => pure (.tup xs.reverse)
  | _ => stuck
/-- a table's value at a word -/
def tabGet (kvs : List (Str × Int)) : D → M D
  | .str z => pure (match kvs.lookup z with
    | some i => .int i
    | none => .non)
  | _ => stuck
/-- the firsts of pairs, ints -/
def firsts? : List D → Option (List Int)
  | [] => some []
  | .tup [.int i, _] :: r => (firsts? r).map (i :: ·)
  | _ => none
def insI (x : Int) : List Int → List Int
  | [] => [x]
  | y :: ys => if x < y then x :: y :: ys else if x = y then y :: ys else y :: insI x ys
/-- ascending, each once -/
def setI (xs : List Int) : List Int := xs.foldr insI []
def sdictD : D → M D
  | .lst xs => optF (firsts? xs) fun ks => if ks.length < 64 then pure (.lst ((setI ks).map .int)) else stuck
  | _ => stuck
def biD : Bi → List D → M D
  | .len, [.lst xs] => pure (.int xs.length)
  | .len, [.tup xs] => pure (.int xs.length)
  | .len, [.str x] => if x.length ≤ LINE then pure (.int x.length) else stuck
  | .sum, [.lst xs] => optF (ints? xs) fun ns => pure (.int ns.sum)
  | .all, [.lst xs] => optF (bools? xs) fun bs => pure (.bl (bs.all id))
  | .any, [.lst xs] => optF (bools? xs) fun bs => pure (.bl (bs.any id))
  | .sorted, [.lst xs] => sortD xs
  | .sorted, [.tup xs] => sortD xs
  | .tuple, [.lst xs] => pure (.tup xs)
  | .tuple, [.tup xs] => pure (.tup xs)
  | .list, [.lst xs] => pure (.lst xs)
  | .list, [.tup xs] => pure (.lst xs)
  | .min2, [.int i, .int j] => pure (.int (if j < i then j else i))
  | .max2, [.int i, .int j] => pure (.int (if i < j then j else i))
  | .int1, [.int i] => pure (.int i)
  | .min1, [.lst xs] => optF (ints? xs) fun ns => optF ns.min? fun m => pure (.int m)
  | .max1, [.lst xs] => optF (ints? xs) fun ns => optF ns.max? fun m => pure (.int m)
  | .repr, [.lst xs] => reprD (.lst xs)
  | .repr, [.tup xs] => reprD (.tup xs)
  | .repr, [.bl b] => pure (.str (if b then "True" else "False"))
  | .repr, [.non] => pure (.str "None")
  | .repr, [.int i] => if i.natAbs < 2 ^ 1000 then pure (.str (toString i)) else stuck
  | _, _ => stuck
inductive Ty where
  | int | bool | str | tuple | list | dict
  deriving DecidableEq
def isiD : Ty → D → M Bool
  | _, .st => stuck
  | .int, .int _ => pure true
  | .int, .bl _ => pure true
  | .bool, .bl _ => pure true
  | .str, .str _ => pure true
  | .tuple, .tup _ => pure true
  | .list, .lst _ => pure true
  | .dict, .dct _ => pure true
  | _, _ => pure false

/-! ### terms -/
inductive Cst where
  | non | bl (b : Bool) | int (i : Int) | str (x : Str)
def Cst.d : Cst → D
  | .non => .non
  | .bl b => .bl b
  | .int i => .int i
  | .str x => .str x
inductive Tg where
  | v (i : Nat)
  | tup (ts : List Nat)
def Tg.slots : Tg → List Nat
  | .v i => [i]
  | .tup ts => ts
mutual
inductive E where
  | var (i : Nat) | cst (c : Cst) | glob (g : Nat)
  | neg (a : E) | not (a : E)
  | bin (op : Bop) (a b : E) | cmp (op : Cop) (a b : E) | chain (o1 o2 : Cop) (a b c : E)
  | and (a b : E) | or (a b : E) | ife (t a b : E)
  | call (f : Nat) (as : Es) | lam (t : Nat) (us : List Nat) (b : E) | bi (b : Bi) (as : Es) | isi (a : E) (t : Ty)
  | sub (a b : E) | slice (a : E) (lo hi : Oe)
  | stAt (i : Nat) | stCells (i : Nat) | stLeft (i : Nat) (e : E) | mkSt (a b : E)
  /-- X.get(a), X a table of the module; sorted(dict(a)) of a list of pairs whose firsts are ints -/
  | gget (x : Str) (kvs : List (Str × Int)) (a : E) | sdict (a : E)
  /-- a[::-1] -/
  | rev (a : E)
  | tup (as : Ss) | lst (as : Ss)
  | comp (t : Tg) (src : Sr) (c : Oe) (elt : E)
  | comp2 (t : Tg) (src : Sr) (c : Oe) (t' : Tg) (src' : Sr) (c' : Oe) (elt : E)
inductive Oe where
  | no | yes (e : E)
inductive Es where
  | nil | cons (e : E) (es : Es)
/-- items of a display, some with a star -/
inductive Ss where
  | nil | cons (e : E) (es : Ss) | star (e : E) (es : Ss)
inductive Sr where
  | seq (e : E) | range1 (e : E) | range2 (a b : E) | enum (e : E) | zip (a b : E)
end

abbrev Env := List (Option D)
def Env.get (ρ : Env) (i : Nat) : M D := match ρ[i]? with
  | some (some d) => pure d
  | _ => stuck
def wipeE (ρ : Env) : List Nat → Env
  | [] => ρ
  | v :: vs => (wipeE ρ vs).set v none
def setAll : Env → List Nat → List D → M Env
  | ρ, [], [] => pure ρ
  | ρ, i :: is, d :: ds => setAll (ρ.set i (some d)) is ds
  | _, _, _ => stuck
def Tg.set (t : Tg) (d : D) (ρ : Env) : M Env := match t with
  | .v i => pure (ρ.set i (some d))
  | .tup ts => match d with
    | .tup ds => setAll ρ ts ds
    | _ => stuck
def boolD : D → M Bool
  | .bl b => pure b
  | _ => stuck
/-- the items that a source yields -/
def itemsD : D → M (List D)
  | .lst xs => pure xs
  | .tup xs => pure xs
  | _ => stuck
def rangeD (lo hi : Int) : M (List D) := if -(2 ^ 62) ≤ lo ∧ lo < 2 ^ 62 ∧ -(2 ^ 62) ≤ hi ∧ hi < 2 ^ 62 then
    pure ((List.range (hi - lo).toNat).map fun (k : Nat) => D.int (lo + (k : Int))) else stuck
def enumD : Nat → List D → List D
  | _, [] => []
  | n, x :: xs => .tup [.int n, x] :: enumD (n + 1) xs
def intD : D → M Int
  | .int i => pure i
  | _ => stuck
def starD : D → M (List D) := itemsD
def zipD : D → D → M (List D)
  | .lst xs, .lst ys => pure ((xs.zip ys).map fun p => .tup [p.1, p.2])
  | .tup xs, .tup ys => pure ((xs.zip ys).map fun p => .tup [p.1, p.2])
  | .lst xs, .tup ys => pure ((xs.zip ys).map fun p => .tup [p.1, p.2])
  | .tup xs, .lst ys => pure ((xs.zip ys).map fun p => .tup [p.1, p.2])
  | _, _ => stuck
/-- a comprehension's list -/
def compL (f : D → M (Option D)) : List D → M (List D)
  | [] => pure []
  | x :: xs => do
    let y ← f x
    let ys ← compL f xs
    match y with
    | some d => pure (d :: ys)
    | none => pure ys
/-- no error leaves -/
def calm {α : Type} (m : M α) : M α := fun s => match m s with
  | .ok a s' => .ok a s'
  | _ => .stuck
def lineL (ds : List D) : M (List D) := if ds.length ≤ LINE then pure ds else stuck
def concatL : List (List D) → List D
  | [] => []
  | x :: xs => x ++ concatL xs
def comp2L (f : D → M (List D)) : List D → M (List D)
  | [] => pure []
  | x :: xs => do
    let y ← f x
    let ys ← comp2L f xs
    pure (y ++ ys)

/-! the draw state -/
def stD (d : D) : M Unit := fun s => match d with
  | .st => if s.on then .ok () s else .stuck
  | _ => .stuck
def atSt : M D := fun s => .ok (.int s.at_) s
def cellsSt : M D := fun s => .ok (.lst (s.cells.map .int)) s
def leftSt (k : D) : M D := fun s => match k with
  | .int n => match atD s.lefts n with
    | some v => .ok (.int v) s
    | none => .stuck
  | _ => .stuck
def mkStD (x y : D) : M D := fun s => if s.on then .stuck else match x, y with
  | .lst xs, .lst ys => match ints? xs, ints? ys with
    | some a, some b => .ok .st ⟨true, a, b, 0⟩
    | _, _ => .stuck
  | _, _ => .stuck
def setAtSt (d : D) : M Unit := fun s => match d with
  | .int v => .ok () { s with at_ := v }
  | _ => .stuck
def setLeftSt (k d : D) : M Unit := fun s => match k, d with
  | .int n, .int v => match ixN s.lefts.length n with
    | some j => .ok () { s with lefts := s.lefts.set j v }
    | none => .stuck
  | _, _ => .stuck
/-! errors, and the defs that call what they get and catch errors -/
/-- a row of the table of errors: a class, its field -/
structure XcT where
  nm : Str
  fl : Str
  deriving DecidableEq
/-- an item of what a clause tells: a text; the error's field -/
inductive Hx where
  | str (x : Str) | fld (f : Str)
inductive Hv where
  | one (x : Hx) | lst (xs : List Hx) | tup (xs : List Hx)
/-- a clause: the class it names, what it tells -/
structure Hd where
  cls : Str
  v : Hv
/-- what is told if no error comes: what the call told; that in a list; None -/
inductive Tk where
  | same | lst | non
structure Td where
  nm : Str
  kind : Tk
  hs : List Hd
structure Xt where
  xcs : List XcT
  subs : List (Str × Str × Bool)
  tds : List Td
def Xt.sub (t : Xt) (a b : Str) : Option Bool := (t.subs.find? fun p => decide (p.1 = a) && decide (p.2.1 = b)).map (·.2.2)
def Xt.fld (t : Xt) (a f : Str) : Bool := t.xcs.all fun r => !decide (r.nm = a) || decide (r.fl = f)
/-- what the text's functions and constants mean, what a lambda's body means -/
structure Ctx where
  Φ : Nat → List D → M D
  Γ : Nat → D
  Λ : E → Env → M D
  xt : Xt
def hxD (t : Xt) (x : Exn) : Hx → Option D
  | .str y => some (.str y)
  | .fld f => match x.args with
    | [d] => if t.fld x.cls f then some d else none
    | _ => none
def hxsD (t : Xt) (x : Exn) : List Hx → Option (List D)
  | [] => some []
  | h :: r => match hxD t x h, hxsD t x r with
    | some d, some ds => some (d :: ds)
    | _, _ => none
def hvD (t : Xt) (x : Exn) : Hv → Option D
  | .one h => hxD t x h
  | .lst hs => (hxsD t x hs).map .lst
  | .tup hs => (hxsD t x hs).map .tup
/-- what the clauses tell of an error -/
def hdD (t : Xt) (x : Exn) : List Hd → Option D
  | [] => none
  | h :: r => match t.sub x.cls h.cls with
    | some true => hvD t x h.v
    | some false => hdD t x r
    | none => none
def tkD : Tk → D → D
  | .same, d => d
  | .lst, d => .lst [d]
  | .non, _ => .non
def tdD (t : Xt) (i : Nat) (m : M D) : M D := match t.tds[i]? with
  | none => stuck
  | some p => fun s => match m s with
    | .ok d s' => .ok (tkD p.kind d) s'
    | .exc x s' => match hdD t x p.hs with
      | some d => .ok d s'
      | none => .stuck
    | .stuck => .stuck

mutual
def evE (c : Ctx) (ρ : Env) : E → M D
  | .var i => ρ.get i
  | .cst k => pure k.d
  | .glob g => pure (c.Γ g)
  | .neg a => do return .int (-(← intD (← evE c ρ a)))
  | .not a => do return .bl (!(← boolD (← evE c ρ a)))
  | .bin op a b => do
    let x ← evE c ρ a
    let y ← evE c ρ b
    binD op x y
  | .cmp op a b => do
    let x ← evE c ρ a
    let y ← evE c ρ b
    return .bl (← cmpD op x y)
  | .chain o1 o2 a b e => do
    let x ← evE c ρ a
    let y ← evE c ρ b
    if ← cmpD o1 x y then do
      let z ← evE c ρ e
      return .bl (← cmpD o2 y z)
    else return .bl false
  | .and a b => do
    if ← boolD (← evE c ρ a) then evE c ρ b else return .bl false
  | .or a b => do
    if ← boolD (← evE c ρ a) then return .bl true else evE c ρ b
  | .ife t a b => do
    if ← boolD (← evE c ρ t) then evE c ρ a else evE c ρ b
  | .call f as => do
    let ds ← evEs c ρ as
    c.Φ f ds
  | .lam t us b => tdD c.xt t (c.Λ b (wipeE ρ us))
  | .bi b as => do
    let ds ← evEs c ρ as
    biD b ds
  | .isi a t => do
    let x ← evE c ρ a
    return .bl (← isiD t x)
  | .sub a b => do
    let x ← evE c ρ a
    let y ← evE c ρ b
    subD x y
  | .slice a lo hi => do
    let x ← evE c ρ a
    let l ← evO c ρ lo
    let l ← optI l
    let h ← evO c ρ hi
    let h ← optI h
    sliceD x l h
  | .stAt i => do
    let d ← ρ.get i
    stD d
    atSt
  | .stCells i => do
    let d ← ρ.get i
    stD d
    cellsSt
  | .stLeft i e => do
    let d ← ρ.get i
    stD d
    let k ← evE c ρ e
    leftSt k
  | .mkSt a b => do
    let x ← evE c ρ a
    let y ← evE c ρ b
    mkStD x y
  | .gget _ kvs a => do
    let d ← evE c ρ a
    tabGet kvs d
  | .sdict a => do
    let d ← evE c ρ a
    sdictD d
  | .rev a => do
    let d ← evE c ρ a
    revD d
  | .tup as => do return .tup (← lineL (← evSs c ρ as))
  | .lst as => do return .lst (← lineL (← evSs c ρ as))
  | .comp t src cnd elt => do
    let xs ← evIt c ρ src
    let ds ← calm (compL (fun d => do
      let ρ' ← t.set d (wipeE ρ t.slots)
      if ← evC c ρ' cnd then do return some (← evE c ρ' elt) else return none) xs)
    return .lst (← lineL ds)
  | .comp2 t src cnd t' src' cnd' elt => do
    let xs ← evIt c ρ src
    let ds ← calm (comp2L (fun d => do
      let ρ' ← t.set d (wipeE ρ (t.slots ++ t'.slots))
      if ← evC c ρ' cnd then do
        let ys ← evIt c ρ' src'
        compL (fun d' => do
          let ρ'' ← t'.set d' (wipeE ρ' t'.slots)
          if ← evC c ρ'' cnd' then do return some (← evE c ρ'' elt) else return none) ys
      else return []) xs)
    return .lst (← lineL ds)
def evC (c : Ctx) (ρ : Env) : Oe → M Bool
  | .no => pure true
  | .yes e => do boolD (← evE c ρ e)
def evO (c : Ctx) (ρ : Env) : Oe → M (Option D)
  | .no => pure none
  | .yes e => do return some (← evE c ρ e)
def evEs (c : Ctx) (ρ : Env) : Es → M (List D)
  | .nil => pure []
  | .cons e es => do
    let x ← evE c ρ e
    let xs ← evEs c ρ es
    return x :: xs
def evSs (c : Ctx) (ρ : Env) : Ss → M (List D)
  | .nil => pure []
  | .cons e es => do
    let x ← evE c ρ e
    let xs ← evSs c ρ es
    return x :: xs
  | .star e es => do
    let x ← evE c ρ e
    let ys ← starD x
    let xs ← evSs c ρ es
    return ys ++ xs
def evIt (c : Ctx) (ρ : Env) : Sr → M (List D)
  | .seq e => do itemsD (← evE c ρ e)
  | .range1 e => do rangeD 0 (← intD (← evE c ρ e))
  | .range2 a b => do
    let i ← evE c ρ a
    let j ← evE c ρ b
    rangeD (← intD i) (← intD j)
  | .enum e => do return enumD 0 (← itemsD (← evE c ρ e))
  | .zip a b => do
    let x ← evE c ρ a
    let y ← evE c ρ b
    zipD x y
end

/-! ### statements -/
mutual
inductive C where
  | asg (t : Tg) (e : E)
  | par (i j : Nat) (a b : E)
  | app (i : Nat) (e : E)
  | popA (j i : Nat) (e : E)
  | popApp (j i : Nat) (e : E)
  | popL (t : Tg) (i : Nat)
  | expr (e : E)
  | setAt (i : Nat) (e : E) | setLeft (i : Nat) (k e : E)
  | ret (e : E) | retN
  | raise (x : Str) (e : E)
  | ifs (t : E) (a b : Cs)
  | for_ (h : List Nat) (t : Tg) (src : Sr) (body : Cs)
  | while_ (h : List Nat) (t : E) (body : Cs)
  | never
  | brk | cont | pass
inductive Cs where
  | nil | cons (s : C) (r : Cs)
  | fz (is : List Nat) (r : Cs)
end
inductive Fl where
  | nx | ret (d : D) | brk | cont
def lstOf : D → M (List D)
  | .lst xs => pure xs
  | _ => stuck
def appD (ρ : Env) (i : Nat) (d : D) : M Env := do
  let xs ← lstOf (← ρ.get i)
  if xs.length < LINE then return ρ.set i (some (.lst (xs ++ [d]))) else stuck
/-- x.pop(k) of the list in slot i -/
def popD (ρ : Env) (i : Nat) (k : D) : M (D × Env) := do
  let xs ← lstOf (← ρ.get i)
  let n ← intD k
  if -(2 ^ 63) ≤ n ∧ n < 2 ^ 63 then
    match ixN xs.length n with
    | some j => match xs[j]? with
      | some d => return (d, ρ.set i (some (.lst (xs.eraseIdx j))))
      | none => stuck
    | none => stuck
  else stuck
def forL (body : D → Env → M (Fl × Env)) : List D → Env → M (Fl × Env)
  | [], ρ => pure (.nx, ρ)
  | x :: xs, ρ => do
    let r ← body x ρ
    match r.1 with
    | .nx => forL body xs r.2
    | .cont => forL body xs r.2
    | .brk => return (.nx, r.2)
    | .ret d => return (.ret d, r.2)
def whileL (test : Env → M Bool) (body : Env → M (Fl × Env)) : Nat → Env → M (Fl × Env)
  | 0, _ => stuck
  | n + 1, ρ => do
    if ← test ρ then do
      let r ← body ρ
      match r.1 with
      | .nx => whileL test body n r.2
      | .cont => whileL test body n r.2
      | .brk => return (.nx, r.2)
      | .ret d => return (.ret d, r.2)
    else return (.nx, ρ)
def FUEL : Nat := 1000000
mutual
def evS (c : Ctx) : C → Env → M (Fl × Env)
  | .asg t e, ρ => do
    let d ← evE c ρ e
    let ρ' ← t.set d ρ
    return (.nx, ρ')
  | .par i j a b, ρ => do
    let x ← evE c ρ a
    let y ← evE c ρ b
    return (.nx, (ρ.set i (some x)).set j (some y))
  | .app i e, ρ => do
    let _ ← lstOf (← ρ.get i)
    let d ← evE c ρ e
    return (.nx, ← appD ρ i d)
  | .popA j i e, ρ => do
    let _ ← lstOf (← ρ.get i)
    let k ← evE c ρ e
    let r ← popD ρ i k
    return (.nx, r.2.set j (some r.1))
  | .popApp j i e, ρ => do
    let _ ← lstOf (← ρ.get j)
    let _ ← lstOf (← ρ.get i)
    let k ← evE c ρ e
    let r ← popD ρ i k
    return (.nx, ← appD r.2 j r.1)
  | .popL t i, ρ => do
    let r ← popD ρ i (.int (-1))
    let ρ' ← t.set r.1 r.2
    return (.nx, ρ')
  | .expr e, ρ => do
    let _ ← evE c ρ e
    return (.nx, ρ)
  | .setAt i e, ρ => do
    let v ← evE c ρ e
    let d ← ρ.get i
    stD d
    setAtSt v
    return (.nx, ρ)
  | .setLeft i k e, ρ => do
    let v ← evE c ρ e
    let d ← ρ.get i
    stD d
    let n ← evE c ρ k
    setLeftSt n v
    return (.nx, ρ)
  | .ret e, ρ => do
    let d ← evE c ρ e
    return (.ret d, ρ)
  | .retN, ρ => pure (.ret .non, ρ)
  | .raise x e, ρ => do
    let d ← evE c ρ e
    DE.raise ⟨x, [d]⟩
  | .ifs t a b, ρ => do
    if ← boolD (← evE c ρ t) then evCs c a ρ else evCs c b ρ
  | .for_ _ t src body, ρ => do
    let xs ← evIt c ρ src
    forL (fun d ρ => do
      let ρ' ← t.set d ρ
      evCs c body ρ') xs ρ
  | .while_ _ t body, ρ => whileL (fun ρ => do boolD (← evE c ρ t)) (fun ρ => evCs c body ρ) FUEL ρ
  | .never, _ => stuck
  | .brk, ρ => pure (.brk, ρ)
  | .cont, ρ => pure (.cont, ρ)
  | .pass, ρ => pure (.nx, ρ)
def evCs (c : Ctx) : Cs → Env → M (Fl × Env)
  | .nil, ρ => pure (.nx, ρ)
  | .cons s r, ρ => do
    let x ← evS c s ρ
    match x.1 with
    | .nx => evCs c r x.2
    | _ => return x
  | .fz _ r, ρ => evCs c r ρ
end
/-- a def: how many names it has, its body -/
structure Df where
  n : Nat
  body : Cs
def runF (c : Ctx) (f : Df) (ds : List D) : M D := do
  let r ← evCs c f.body (ds.map some ++ List.replicate (f.n - ds.length) none)
  match r.1 with
  | .ret d => pure d
  | .nx => pure .non
  | _ => stuck
end DE

set_option Elab.async false
set_option maxRecDepth 100000
/-! DErep: how the values stand in the abstract heap. -/
namespace DE
open PySem PySem.Spec PyProof.Rows L2

/-- what is known of the heap beside what is tracked: U, the lists that never change any more; A, L: the draw state's dict and its list "lefts" -/
structure Wd where
  U : Addr → Prop
  A : Addr
  L : Addr
  C : Addr
  S : S
  /-- the tables of code objects that may grow -/
  T : List (Addr × Str) := []
theorem lstT {xs : List V} (ps : Array Value) : HO.lst xs ≠ .tbl ps := fun z => by cases z
theorem tupT {xs : List V} (ps : Array Value) : HO.tup xs ≠ .tbl ps := fun z => by cases z
theorem dKT {xs : List (Key × V)} (ps : Array Value) : HO.dK xs ≠ .tbl ps := fun z => by cases z
/-- nothing stands at a, or a table of a code object -/
def Nw (H : Hp) (a : Addr) : Prop := ∀ o, H a = some o → ∃ ps, o = .tbl ps
theorem Nw.of {H : Hp} {a : Addr} (h : H a = none) : Nw H a := fun o e => by
  rw [h] at e
  cases e
theorem Nw.ne {H : Hp} {a b : Addr} {o : HO} (h : Nw H a) (e : H b = some o) (n : ∀ ps, o ≠ .tbl ps) : b ≠ a := fun z => by
  subst z
  obtain ⟨ps, q⟩ := h _ e
  exact n ps q
theorem Nw.lst {H : Hp} {a : Addr} {xs : List V} (h : Nw H a) (e : H a = some (.lst xs)) {P : Prop} : P := by
  obtain ⟨ps, q⟩ := h _ e
  cases q
theorem Nw.tup {H : Hp} {a : Addr} {xs : List V} (h : Nw H a) (e : H a = some (.tup xs)) {P : Prop} : P := by
  obtain ⟨ps, q⟩ := h _ e
  cases q
theorem Nw.dK {H : Hp} {a : Addr} {xs : List (Key × V)} (h : Nw H a) (e : H a = some (.dK xs)) {P : Prop} : P := by
  obtain ⟨ps, q⟩ := h _ e
  cases q
def box (w : Wd) (a : Addr) : Prop := w.S.on = true ∧ (a = w.A ∨ a = w.L)
/-- a list that is known to stand, not tracked as one that may be written -/
def FrzL (K : PySem.W.Frag) (H : Hp) (a : Addr) (xs : List V) : Prop := (∃ o, H a = some (.frz o (.lst xs))) ∨
    ∃ (o : Obj) (its : Array Value) (n : Nat), K.lookup a = some o ∧ o.cls = .type "list" ∧ o.dict = none ∧ o.data = .seq its n ∧ its.size ≤ sizeLine ∧ Vals xs its.toList
theorem FrzL.sq {K : PySem.W.Frag} {H : Hp} {a : Addr} {xs : List V} (h : FrzL K H a xs) : SqL K H a xs := by
  rcases h with h | h
  · exact .inl (.inr h)
  · exact .inr h

section
variable (K : PySem.W.Frag) (H : Hp) (w : Wd)
mutual
inductive Rp : V → D → Prop
  | non : Rp .non .non
  | bl (b : Bool) : Rp (.bl b) (.bl b)
  | int (i : Int) : Rp (.int i) (.int i)
  | str (x : Str) : Rp (.str x) (.str x)
  | tup {a : Addr} {vs : List V} {ds : List D} : SqT K H a vs → RpL vs ds → Rp (.ref a) (.tup ds)
  | lst {a : Addr} {vs : List V} {ds : List D} : w.U a → H a = some (.lst vs) → RpL vs ds → Rp (.ref a) (.lst ds)
  | lstK {a : Addr} {vs : List V} {ds : List D} : FrzL K H a vs → RpL vs ds → Rp (.ref a) (.lst ds)
  | st : w.S.on = true → Rp (.ref w.A) .st
inductive RpL : List V → List D → Prop
  | nil : RpL [] []
  | cons {v : V} {vs : List V} {d : D} {ds : List D} : Rp v d → RpL vs ds → RpL (v :: vs) (d :: ds)
end
/-- readable as it stands now -/
def Look (v : V) (d : D) : Prop := Rp K H w v d ∨ ∃ a vs ds, v = .ref a ∧ d = .lst ds ∧ H a = some (.lst vs) ∧ RpL K H w vs ds ∧ ¬ box w a
/-- if a list: one that nothing else knows; new since H0 -/
def Own (H0 : Hp) (v : V) (d : D) : Prop := match d with
  | .lst ds => ∃ a vs, v = .ref a ∧ H a = some (.lst vs) ∧ RpL K H w vs ds ∧ ¬ w.U a ∧ ¬ box w a ∧ Nw H0 a
  | _ => Rp K H w v d
end
/-- the list at a stays: it is in U, or it was never to be written -/
def Stays (K : PySem.W.Frag) (H : Hp) (w : Wd) (a : Addr) (vs : List V) : Prop := (w.U a ∧ H a = some (.lst vs)) ∨ FrzL K H a vs
structure WOk (K : PySem.W.Frag) (H : Hp) (w : Wd) : Prop where
  u : ∀ a, w.U a → ∃ xs, H a = some (.lst xs)
  tb : LamX.Tabs w.T H
  ub : ∀ a, w.U a → ¬ box w a
  bx : w.S.on = true → w.A ≠ w.L ∧ H w.A = some (.dK [(Sum.inr "cells", .ref w.C), (Sum.inr "lefts", .ref w.L), (Sum.inr "at", .int w.S.at_), (Sum.inr "room", .int 0)]) ∧
    H w.L = some (.lst (w.S.lefts.map V.int)) ∧ Stays K H w w.C (w.S.cells.map V.int)
structure Ext (H : Hp) (w : Wd) (H' : Hp) (w' : Wd) : Prop where
  keep : ∀ a o, H a = some o → (∀ ps, o ≠ .tbl ps) → ¬ box w a → H' a = some o
  has : ∀ a o, H a = some o → (∀ ps, o ≠ .tbl ps) → ∃ o', H' a = some o' ∧ ∀ ps, o' ≠ .tbl ps
  tt : w'.T = w.T
  uu : ∀ a, w.U a → w'.U a
  new : ∀ a, w'.U a → w.U a ∨ Nw H a
  on : w.S.on = true → w'.S.on = true ∧ w'.A = w.A ∧ w'.L = w.L
  bx : ∀ a, box w' a → box w a ∨ Nw H a
theorem Ext.refl (H : Hp) (w : Wd) : Ext H w H w := ⟨fun _ _ h _ _ => h, fun _ o h n => ⟨o, h, n⟩, rfl, fun _ h => h, fun _ h => .inl h, fun h => ⟨h, rfl, rfl⟩, fun _ h => .inl h⟩
theorem Ext.box {H H1 : Hp} {w w1 : Wd} (e : Ext H w H1 w1) {a : Addr} (h : box w a) : box w1 a := by
  obtain ⟨h1, h2⟩ := h
  obtain ⟨o, e1, e2⟩ := e.on h1
  exact ⟨o, by rw [e1, e2]; exact h2⟩
theorem Ext.freeN {H H1 : Hp} {w w1 : Wd} (e : Ext H w H1 w1) {a : Addr} (h : Nw H1 a) : Nw H a := fun o q => by
  cases o with
  | tbl ps => exact ⟨ps, rfl⟩
  | _ =>
    obtain ⟨o', e', n⟩ := e.has a _ q (fun ps z => by cases z)
    obtain ⟨ps, z⟩ := h _ e'
    exact absurd z (n ps)
theorem Ext.free {H H1 : Hp} {w w1 : Wd} (e : Ext H w H1 w1) {a : Addr} (h : H1 a = none) : Nw H a := e.freeN (.of h)
theorem Ext.trans {H H1 H2 : Hp} {w w1 w2 : Wd} (a : Ext H w H1 w1) (b : Ext H1 w1 H2 w2) : Ext H w H2 w2 where
  keep := fun x o h nt n => b.keep x o (a.keep x o h nt n) nt fun q => by
    rcases a.bx x q with z | z
    · exact n z
    · obtain ⟨ps, z'⟩ := z _ h
      exact nt ps z'
  has := fun x o h n => let ⟨o1, h1, n1⟩ := a.has x o h n; b.has x o1 h1 n1
  tt := b.tt.trans a.tt
  uu := fun x h => b.uu x (a.uu x h)
  new := fun x h => by
    rcases b.new x h with z | z
    · exact a.new x z
    · exact .inr (a.freeN z)
  on := fun h => by
    obtain ⟨h1, e1, e2⟩ := a.on h
    obtain ⟨h2, e3, e4⟩ := b.on h1
    exact ⟨h2, e3.trans e1, e4.trans e2⟩
  bx := fun x h => by
    rcases b.bx x h with z | z
    · exact a.bx x z
    · exact .inr (a.freeN z)

/-- what keeps values readable: tuples, locked things and the lists of U stay -/
structure Mono (H : Hp) (w : Wd) (H' : Hp) (w' : Wd) : Prop where
  kt : ∀ a vs, H a = some (.tup vs) → H' a = some (.tup vs)
  kf : ∀ a o u, H a = some (.frz o u) → H' a = some (.frz o u)
  ku : ∀ a o, w.U a → H a = some o → H' a = some o
  uu : ∀ a, w.U a → w'.U a
  on : w.S.on = true → w'.S.on = true ∧ w'.A = w.A
theorem Mono.refl (H : Hp) (w : Wd) : Mono H w H w := ⟨fun _ _ h => h, fun _ _ _ h => h, fun _ _ _ h => h, fun _ h => h, fun h => ⟨h, rfl⟩⟩
theorem Mono.trans {H H1 H2 : Hp} {w w1 w2 : Wd} (a : Mono H w H1 w1) (b : Mono H1 w1 H2 w2) : Mono H w H2 w2 :=
  ⟨fun x vs h => b.kt x vs (a.kt x vs h), fun x o u h => b.kf x o u (a.kf x o u h), fun x o u h => b.ku x o (a.uu x u) (a.ku x o u h), fun x h => b.uu x (a.uu x h), fun h => by
    obtain ⟨h1, e1⟩ := a.on h
    obtain ⟨h2, e2⟩ := b.on h1
    exact ⟨h2, e2.trans e1⟩⟩
section
variable {K : PySem.W.Frag} {H H1 : Hp} {w w1 : Wd}
theorem WOk.nbx (wo : WOk K H w) {a : Addr} {o : HO} (ho : H a = some o) (n1 : ∀ kvs, o ≠ .dK kvs) (n2 : ∀ xs, o ≠ .lst xs) : ¬ box w a := fun ⟨h1, h2⟩ => by
  obtain ⟨_, b1, b2, _⟩ := wo.bx h1
  rcases h2 with rfl | rfl
  · rw [b1] at ho; exact n1 _ (Option.some.inj ho).symm
  · rw [b2] at ho; exact n2 _ (Option.some.inj ho).symm
theorem Ext.mono (wo : WOk K H w) (e : Ext H w H1 w1) : Mono H w H1 w1 where
  kt := fun a vs h => e.keep a _ h (fun _ z => by cases z) (wo.nbx h (fun _ z => by cases z) fun _ z => by cases z)
  kf := fun a o u h => e.keep a _ h (fun _ z => by cases z) (wo.nbx h (fun _ z => by cases z) fun _ z => by cases z)
  ku := fun a o u h => by
    obtain ⟨xs, q⟩ := wo.u a u
    rw [h] at q
    cases q
    exact e.keep a _ h (fun _ z => by cases z) (wo.ub a u)
  uu := e.uu
  on := fun h => let ⟨a, b, _⟩ := e.on h; ⟨a, b⟩
theorem SqT.mono {a : Addr} {vs : List V} (e : Mono H w H1 w1) (h : SqT K H a vs) : SqT K H1 a vs := by
  rcases h with (h | ⟨o, h⟩) | h
  · exact .inl (.inl (e.kt _ _ h))
  · exact .inl (.inr ⟨o, e.kf _ _ _ h⟩)
  · exact .inr h
theorem FrzL.mono {a : Addr} {vs : List V} (e : Mono H w H1 w1) (h : FrzL K H a vs) : FrzL K H1 a vs := by
  rcases h with ⟨o, h⟩ | h
  · exact .inl ⟨o, e.kf _ _ _ h⟩
  · exact .inr h
theorem Stays.sq {a : Addr} {vs : List V} (h : Stays K H w a vs) : SqL K H a vs := by
  rcases h with ⟨_, h⟩ | h
  · exact .of h
  · exact h.sq
theorem Stays.mono {a : Addr} {vs : List V} (e : Mono H w H1 w1) (h : Stays K H w a vs) : Stays K H1 w1 a vs := by
  rcases h with ⟨u, h⟩ | h
  · exact .inl ⟨e.uu _ u, e.ku _ _ u h⟩
  · exact .inr (h.mono e)
mutual
theorem Rp.mono (e : Mono H w H1 w1) : ∀ {v : V} {d : D}, Rp K H w v d → Rp K H1 w1 v d
  | _, _, .non => .non
  | _, _, .bl b => .bl b
  | _, _, .int i => .int i
  | _, _, .str x => .str x
  | _, _, .tup h r => .tup (SqT.mono e h) (RpL.mono e r)
  | _, _, .lst u h r => .lst (e.uu _ u) (e.ku _ _ u h) (RpL.mono e r)
  | _, _, .lstK h r => .lstK (FrzL.mono e h) (RpL.mono e r)
  | _, _, .st h => by
    obtain ⟨h1, h2⟩ := e.on h
    rw [← h2]
    exact .st h1
theorem RpL.mono (e : Mono H w H1 w1) : ∀ {vs : List V} {ds : List D}, RpL K H w vs ds → RpL K H1 w1 vs ds
  | _, _, .nil => .nil
  | _, _, .cons a r => .cons (Rp.mono e a) (RpL.mono e r)
end
theorem Rp.ext (wo : WOk K H w) (e : Ext H w H1 w1) {v : V} {d : D} (h : Rp K H w v d) : Rp K H1 w1 v d := h.mono (e.mono wo)
theorem RpL.ext (wo : WOk K H w) (e : Ext H w H1 w1) {vs : List V} {ds : List D} (h : RpL K H w vs ds) : RpL K H1 w1 vs ds := h.mono (e.mono wo)
theorem RpL.length : ∀ {vs : List V} {ds : List D}, RpL K H w vs ds → vs.length = ds.length
  | _, _, .nil => rfl
  | _, _, .cons _ r => congrArg Nat.succ (RpL.length r)
theorem RpL.append : ∀ {vs us : List V} {ds es : List D}, RpL K H w vs ds → RpL K H w us es → RpL K H w (vs ++ us) (ds ++ es)
  | _, _, _, _, .nil, s => s
  | _, _, _, _, .cons r t, s => .cons r (RpL.append t s)
theorem RpL.rep {vs : List V} {ds : List D} (h : RpL K H w vs ds) : ∀ n : Nat, RpL K H w (List.replicate n vs).flatten (List.replicate n ds).flatten
  | 0 => .nil
  | n + 1 => by
    rw [List.replicate_succ, List.flatten_cons, List.replicate_succ, List.flatten_cons]
    exact h.append (h.rep n)
theorem RpL.get : ∀ {vs : List V} {ds : List D} {i : Nat} {d : D}, RpL K H w vs ds → ds[i]? = some d → ∃ v, vs[i]? = some v ∧ Rp K H w v d
  | _, _, _, _, .nil, e => by simp at e
  | _, _, 0, _, .cons r _, e => by simp at e; subst e; exact ⟨_, rfl, r⟩
  | _, _, i + 1, d, .cons _ t, e => by
    obtain ⟨u, h1, h2⟩ := RpL.get (i := i) (d := d) t (by simpa using e)
    exact ⟨u, by simpa using h1, h2⟩
theorem RpL.get' : ∀ {vs : List V} {ds : List D} {i : Nat} {v : V}, RpL K H w vs ds → vs[i]? = some v → ∃ d, ds[i]? = some d ∧ Rp K H w v d
  | _, _, _, _, .nil, e => by simp at e
  | _, _, 0, _, .cons r _, e => by simp at e; subst e; exact ⟨_, rfl, r⟩
  | _, _, i + 1, v, .cons _ t, e => by
    obtain ⟨u, h1, h2⟩ := RpL.get' (i := i) (v := v) t (by simpa using e)
    exact ⟨u, by simpa using h1, h2⟩
theorem RpL.take : ∀ {vs : List V} {ds : List D} (n : Nat), RpL K H w vs ds → RpL K H w (vs.take n) (ds.take n)
  | _, _, 0, _ => .nil
  | _, _, _ + 1, .nil => .nil
  | _, _, n + 1, .cons r t => .cons r (RpL.take n t)
theorem RpL.drop : ∀ {vs : List V} {ds : List D} (n : Nat), RpL K H w vs ds → RpL K H w (vs.drop n) (ds.drop n)
  | _, _, 0, r => r
  | _, _, _ + 1, .nil => .nil
  | _, _, n + 1, .cons _ t => RpL.drop n t
theorem RpL.erase : ∀ {vs : List V} {ds : List D} (n : Nat), RpL K H w vs ds → RpL K H w (vs.eraseIdx n) (ds.eraseIdx n)
  | _, _, _, .nil => .nil
  | _, _, 0, .cons _ t => t
  | _, _, n + 1, .cons r t => .cons r (RpL.erase n t)
theorem RpL.ints : ∀ {vs : List V} {ds : List D} {ns : List Int}, RpL K H w vs ds → ints? ds = some ns → vs = ns.map V.int
  | _, _, _, .nil, e => by simp [ints?] at e; subst e; rfl
  | _, _, ns, .cons (d := d) r t, e => by
    cases d with
    | int i =>
      simp only [ints?, Option.map_eq_some_iff] at e
      obtain ⟨ms, e1, rfl⟩ := e
      cases r
      rw [RpL.ints t e1]
      rfl
    | _ => simp [ints?] at e
theorem RpL.bools : ∀ {vs : List V} {ds : List D} {ns : List Bool}, RpL K H w vs ds → bools? ds = some ns → vs = ns.map V.bl
  | _, _, _, .nil, e => by simp [bools?] at e; subst e; rfl
  | _, _, ns, .cons (d := d) r t, e => by
    cases d with
    | bl i =>
      simp only [bools?, Option.map_eq_some_iff] at e
      obtain ⟨ms, e1, rfl⟩ := e
      cases r
      rw [RpL.bools t e1]
      rfl
    | _ => simp [bools?] at e
theorem Look.of {v : V} {d : D} (h : Rp K H w v d) : Look K H w v d := .inl h
theorem Own.look {H0 : Hp} {v : V} {d : D} (h : Own K H w H0 v d) : Look K H w v d := by
  cases d with
  | lst ds =>
    obtain ⟨a, vs, e, h1, h2, _, nb, _⟩ := h
    exact .inr ⟨a, vs, ds, e, rfl, h1, h2, nb⟩
  | _ => exact .inl h
theorem Look.ext {v : V} {d : D} (wo : WOk K H w) (e : Ext H w H1 w1) (h : Look K H w v d) : Look K H1 w1 v d := by
  rcases h with h | ⟨a, vs, ds, rfl, rfl, h1, h2, nb⟩
  · exact .inl (h.ext wo e)
  · exact .inr ⟨a, vs, ds, rfl, rfl, e.keep _ _ h1 lstT nb, h2.ext wo e, fun q => by
      rcases e.bx a q with z | z
      · exact nb z
      · exact z.lst h1⟩
theorem Look.lst {v : V} {ds : List D} (h : Look K H w v (.lst ds)) : ∃ a vs, v = .ref a ∧ SqL K H a vs ∧ RpL K H w vs ds := by
  rcases h with h | ⟨a, vs, ds', rfl, e, h1, h2, nb⟩
  · cases h with
    | lst u h r => exact ⟨_, _, rfl, .of h, r⟩
    | lstK h r => exact ⟨_, _, rfl, h.sq, r⟩
  · cases e
    exact ⟨a, vs, rfl, .of h1, h2⟩
theorem Look.tup {v : V} {ds : List D} (h : Look K H w v (.tup ds)) : ∃ a vs, v = .ref a ∧ SqT K H a vs ∧ RpL K H w vs ds := by
  rcases h with h | ⟨a, vs, ds', rfl, e, h1, h2, nb⟩
  · cases h with
    | tup h r => exact ⟨_, _, rfl, h, r⟩
  · cases e
theorem Look.int {v : V} {i : Int} (h : Look K H w v (.int i)) : v = .int i := by
  rcases h with h | ⟨a, vs, ds', rfl, e, h1, h2, nb⟩
  · cases h; rfl
  · cases e
theorem Look.bl {v : V} {i : Bool} (h : Look K H w v (.bl i)) : v = .bl i := by
  rcases h with h | ⟨a, vs, ds', rfl, e, h1, h2, nb⟩
  · cases h; rfl
  · cases e
theorem Look.str {v : V} {i : Str} (h : Look K H w v (.str i)) : v = .str i := by
  rcases h with h | ⟨a, vs, ds', rfl, e, h1, h2, nb⟩
  · cases h; rfl
  · cases e
theorem Look.non {v : V} (h : Look K H w v .non) : v = .non := by
  rcases h with h | ⟨a, vs, ds', rfl, e, h1, h2, nb⟩
  · cases h; rfl
  · cases e
mutual
/-- as data of the library -/
theorem Rp.dp : ∀ {v : V} {d : D}, Rp K H w v d → d.py.canLay0 = true → Dp K H v d.py
  | _, _, .non, _ => by simp only [D.py]; exact .non
  | _, _, .bl b, _ => by simp only [D.py]; exact .bl b
  | _, _, .int i, _ => by simp only [D.py]; exact .int i
  | _, _, .str x, _ => by simp only [D.py]; exact .str x
  | _, _, .tup h r, c => by simp only [D.py, PyData.canLay0] at c ⊢; exact .tup h (RpL.dp r c)
  | _, _, .lst u h r, c => by simp only [D.py, PyData.canLay0] at c ⊢; exact .lst (.of h) (RpL.dp r c)
  | _, _, .lstK h r, c => by simp only [D.py, PyData.canLay0] at c ⊢; exact .lst h.sq (RpL.dp r c)
  | _, _, .st h, c => by simp [D.py, PyData.canLay0] at c
theorem RpL.dp : ∀ {vs : List V} {ds : List D}, RpL K H w vs ds → PyData.canLayAll0 (pyAll ds) = true → DpAll K H vs (pyAll ds)
  | _, _, .nil, _ => by simp only [pyAll]; exact .nil
  | _, _, .cons a r, c => by
    simp only [pyAll, PyData.canLayAll0, Bool.and_eq_true] at c ⊢
    exact .cons (Rp.dp a c.1) (RpL.dp r c.2)
end
theorem Look.dp {v : V} {d : D} (h : Look K H w v d) (c : d.py.canLay0 = true) : Dp K H v d.py := by
  rcases h with h | ⟨a, vs, ds, rfl, rfl, h1, h2, nb⟩
  · exact h.dp c
  · simp only [D.py, PyData.canLay0] at c ⊢
    exact .lst (.of h1) (h2.dp c)
end

/-! ### steps of the abstract heap -/
section
variable {K : PySem.W.Frag} {H : Hp} {w : Wd}
theorem Ext.laid {p : Addr} {o : HO} (hp : H p = none) : Ext H w (upd H p o) w :=
  ⟨fun a u h _ _ => by rw [upd_ne (ne_of_none h hp)]; exact h, fun a u h n => ⟨u, by rw [upd_ne (ne_of_none h hp)]; exact h, n⟩, rfl, fun _ h => h, fun _ h => .inl h, fun h => ⟨h, rfl, rfl⟩, fun _ h => .inl h⟩
theorem WOk.laid {p : Addr} {o : HO} (wo : WOk K H w) (hp : H p = none) : WOk K (upd H p o) w where
  u := fun a h => let ⟨u, e⟩ := wo.u a h; ⟨u, by rw [upd_ne (ne_of_none e hp)]; exact e⟩
  tb := fun p' hp' => (wo.tb p' hp').ext fun b o e => by rw [upd_ne (ne_of_none e hp)]; exact e
  ub := wo.ub
  bx := fun h => by
    obtain ⟨h1, h2, h3, h4⟩ := wo.bx h
    exact ⟨h1, by rw [upd_ne (ne_of_none h2 hp)]; exact h2, by rw [upd_ne (ne_of_none h3 hp)]; exact h3, h4.mono ((Ext.laid hp).mono wo)⟩
/-- new addresses are in no set -/
theorem WOk.nu (wo : WOk K H w) {p : Addr} (hp : H p = none) : ¬ w.U p := fun h => by
  obtain ⟨o, e⟩ := wo.u p h
  rw [hp] at e; cases e
theorem WOk.nb (wo : WOk K H w) {p : Addr} (hp : H p = none) : ¬ box w p := fun ⟨h, z⟩ => by
  obtain ⟨_, b1, b2, _⟩ := wo.bx h
  rcases z with rfl | rfl
  · rw [hp] at b1; cases b1
  · rw [hp] at b2; cases b2
/-- the tables stand where a list is written -/
theorem tabs_upd {T : List (Addr × Str)} {a : Addr} {o : HO} {xs : List V} (t : LamX.Tabs T H) (ha : H a = some (.lst xs)) : LamX.Tabs T (upd H a o) := fun p hp => by
  obtain ⟨ps, h1, h2, h3⟩ := t p hp
  refine ⟨ps, by rw [upd_ne fun e => by rw [e, ha] at h1; cases h1]; exact h1, h2, fun pos cv hc => ?_⟩
  obtain ⟨c, e1, e2⟩ := h3 pos cv hc
  exact ⟨c, e1, by rw [upd_ne fun e => by rw [e, ha] at e2; unfold LamX.CodeO at e2; cases e2]; exact e2⟩
theorem tabs_updK {T : List (Addr × Str)} {a : Addr} {o : HO} {xs : List (Key × V)} (t : LamX.Tabs T H) (ha : H a = some (.dK xs)) : LamX.Tabs T (upd H a o) := fun p hp => by
  obtain ⟨ps, h1, h2, h3⟩ := t p hp
  refine ⟨ps, by rw [upd_ne fun e => by rw [e, ha] at h1; cases h1]; exact h1, h2, fun pos cv hc => ?_⟩
  obtain ⟨c, e1, e2⟩ := h3 pos cv hc
  exact ⟨c, e1, by rw [upd_ne fun e => by rw [e, ha] at e2; unfold LamX.CodeO at e2; cases e2]; exact e2⟩
/-- a is not to be written any more -/
def Wd.fz (w : Wd) (a : Addr) : Wd := { w with U := fun b => w.U b ∨ b = a }
theorem box_fz {a b : Addr} : box (w.fz a) b = box w b := rfl
theorem WOk.fz (wo : WOk K H w) {a : Addr} {o : List V} (h : H a = some (.lst o)) (nb : ¬ box w a) : WOk K H (w.fz a) where
  tb := wo.tb
  u := fun b h' => by
    rcases h' with h' | rfl
    · exact wo.u b h'
    · exact ⟨o, h⟩
  ub := fun b h' => by
    rcases h' with h' | rfl
    · exact wo.ub b h'
    · exact nb
  bx := fun h => by
    obtain ⟨h1, h2, h3, h4⟩ := wo.bx h
    refine ⟨h1, h2, h3, ?_⟩
    rcases h4 with ⟨u, h4⟩ | h4
    · exact .inl ⟨.inl u, h4⟩
    · exact .inr h4
mutual
theorem Rp.fz {a : Addr} : ∀ {v : V} {d : D}, Rp K H w v d → Rp K H (w.fz a) v d
  | _, _, .non => .non
  | _, _, .bl b => .bl b
  | _, _, .int i => .int i
  | _, _, .str x => .str x
  | _, _, .tup h r => .tup h (RpL.fz r)
  | _, _, .lst u h r => .lst (.inl u) h (RpL.fz r)
  | _, _, .lstK h r => .lstK h (RpL.fz r)
  | _, _, .st h => .st (w := w.fz a) h
theorem RpL.fz {a : Addr} : ∀ {vs : List V} {ds : List D}, RpL K H w vs ds → RpL K H (w.fz a) vs ds
  | _, _, .nil => .nil
  | _, _, .cons a r => .cons (Rp.fz a) (RpL.fz r)
end
/-- new lists may be frozen -/
theorem Ext.fz {H0 : Hp} {w0 : Wd} (e : Ext H0 w0 H w) {a : Addr} (hn : Nw H0 a) : Ext H0 w0 H (w.fz a) :=
  ⟨e.keep, e.has, e.tt, fun b h => .inl (e.uu b h), fun b h => by
    rcases h with h | rfl
    · exact e.new b h
    · exact .inr hn, e.on, e.bx⟩
theorem Ext.fz' {a : Addr} (hn : ¬ w.U a) : Mono H w H (w.fz a) := ⟨fun _ _ h => h, fun _ _ _ h => h, fun _ _ _ h => h, fun _ h => .inl h, fun h => ⟨h, rfl⟩⟩
theorem Own.ext {H1 : Hp} {w1 : Wd} {H0 : Hp} {v : V} {d : D} (wo : WOk K H w) (e : Ext H w H1 w1) (h : Own K H w H0 v d) : Own K H1 w1 H0 v d := by
  cases d with
  | lst ds =>
    obtain ⟨a, vs, rfl, h1, h2, nu, nb, h0⟩ := h
    refine ⟨a, vs, rfl, e.keep _ _ h1 lstT nb, h2.ext wo e, fun q => ?_, fun q => ?_, h0⟩
    · rcases e.new a q with z | z
      · exact nu z
      · exact z.lst h1
    · rcases e.bx a q with z | z
      · exact nb z
      · exact z.lst h1
  | _ => exact Rp.ext wo e h
theorem Own.back {H0 : Hp} {w0 : Wd} {H1 : Hp} {w1 : Wd} {v : V} {d : D} (e : Ext H0 w0 H1 w1) (h : Own K H w H1 v d) : Own K H w H0 v d := by
  cases d with
  | lst ds =>
    obtain ⟨a, vs, rfl, h1, h2, nu, nb, h0⟩ := h
    exact ⟨a, vs, rfl, h1, h2, nu, nb, e.freeN h0⟩
  | _ => exact h
end
end DE

set_option maxHeartbeats 1000000
/-! DEval: the operations, by values. -/
namespace DE
open PySem PySem.Spec PyProof.Rows L2

inductive Md where
  | sh | own | look
def Val (K : PySem.W.Frag) (H0 : Hp) (H : Hp) (w : Wd) (m : Md) (v : V) (d : D) : Prop := match m with
  | .sh => Rp K H w v d
  | .own => Own K H w H0 v d
  | .look => Look K H w v d
/-- what is wanted of a value: for every place where it may stand -/
def Post (K : PySem.W.Frag) (H : Hp) (w : Wd) (m : Md) (Q : VK) : D → S → Prop := fun d S' => ∀ v H' w', w'.S = S' → Ext H w H' w' → WOk K H' w' → Val K H H' w' m v d → Q v H'
abbrev NoX : Exn → S → Prop := fun _ _ => False
def rD (K : PySem.W.Frag) (m : Md) (h : D → D → M D) : R2 := fun x y H Q => ∃ w a b, WOk K H w ∧ Look K H w x a ∧ Look K H w y b ∧ (h a b w.S).wp (Post K H w m Q) NoX
theorem line_eq : LINE = sizeLine := by rw [sizeLine_eq]; rfl
theorem ixN_eq (n : Nat) (i : Int) : DE.ixN n i = L2.ixN n i := rfl
theorem Val.look {K : PySem.W.Frag} {H0 H : Hp} {w : Wd} {m : Md} {v : V} {d : D} (h : Val K H0 H w m v d) : Look K H w v d := by
  cases m with
  | sh => exact .inl h
  | own => exact Own.look h
  | look => exact h
theorem Post.here {K : PySem.W.Frag} {H : Hp} {w : Wd} {m : Md} {Q : VK} {d : D} {s : S} (wo : WOk K H w) (h : Post K H w m Q d s) (e : w.S = s) {v : V} (hv : Val K H H w m v d) : Q v H := h v H w e (Ext.refl H w) wo hv
/-- a value that is no object -/
theorem Post.int {K : PySem.W.Frag} {H : Hp} {w : Wd} {m : Md} {Q : VK} {i : Int} (wo : WOk K H w) (h : Post K H w m Q (.int i) w.S) : Q (.int i) H := h.here wo rfl (by cases m <;> first | exact .int i | exact .inl (.int i))
theorem Post.bl {K : PySem.W.Frag} {H : Hp} {w : Wd} {m : Md} {Q : VK} {i : Bool} (wo : WOk K H w) (h : Post K H w m Q (.bl i) w.S) : Q (.bl i) H := h.here wo rfl (by cases m <;> first | exact .bl i | exact .inl (.bl i))
theorem Post.str {K : PySem.W.Frag} {H : Hp} {w : Wd} {m : Md} {Q : VK} {i : Str} (wo : WOk K H w) (h : Post K H w m Q (.str i) w.S) : Q (.str i) H := h.here wo rfl (by cases m <;> first | exact .str i | exact .inl (.str i))
/-- a new list -/
theorem Post.lst {K : PySem.W.Frag} {H : Hp} {w : Wd} {Q : VK} {ds : List D} {vs : List V} (wo : WOk K H w) (h : Post K H w .own Q (.lst ds) w.S) (r : RpL K H w vs ds) : ∀ p, H p = none → Q (.ref p) (upd H p (.lst vs)) := fun p hp =>
  h _ _ w rfl (Ext.laid hp) (wo.laid hp) ⟨p, vs, rfl, upd_same, r.ext wo (Ext.laid hp), wo.nu hp, wo.nb hp, .of hp⟩
/-- a new tuple -/
theorem Post.tup {K : PySem.W.Frag} {H : Hp} {w : Wd} {Q : VK} {ds : List D} {vs : List V} {m : Md} (wo : WOk K H w) (h : Post K H w m Q (.tup ds) w.S) (r : RpL K H w vs ds) : ∀ p, H p = none → Q (.ref p) (upd H p (.tup vs)) := fun p hp => by
  have q : Rp K (upd H p (.tup vs)) w (.ref p) (.tup ds) := .tup (.of upd_same) (r.ext wo (Ext.laid hp))
  refine h _ _ w rfl (Ext.laid hp) (wo.laid hp) ?_
  cases m with
  | sh => exact q
  | own => exact q
  | look => exact .inl q
theorem Post.tupH {K : PySem.W.Frag} {H : Hp} {w : Wd} {Q : VK} {ds : List D} {v : V} {m : Md} (wo : WOk K H w) (h : Post K H w m Q (.tup ds) w.S) (q : Rp K H w v (.tup ds)) : Q v H := h.here wo rfl (by
  cases m with
  | sh => exact q
  | own => exact q
  | look => exact .inl q)

section
variable {X : Cx}
/-- xs + ys of lists that are read -/
theorem op_catS : OpR X (binaryOp .Add) (fun x y H Q => ∃ l b xs zs, x = .ref l ∧ y = .ref b ∧ SqL X.K H l xs ∧ SqL X.K H b zs ∧ xs.length + zs.length ≤ sizeLine ∧ ∀ p, H p = none → Q (.ref p) (upd H p (.lst (xs ++ zs)))) := by
  intro pins s σ H x y v u Q I rx ry h
  obtain ⟨l, b, xs, zs, rfl, rfl, hH, hB, hz, q⟩ := h
  cases rx
  cases ry
  obtain ⟨its, r, p1, z⟩ := I.list hH
  obtain ⟨its2, r2, p2, z2⟩ := I.list hB
  have hl := r.length
  have hl2 := r2.length
  obtain ⟨⟨cls, dd, data, sl⟩, ho, hc, n, hd⟩ := p1.isList
  obtain ⟨⟨cls2, dd2, data2, sl2⟩, ho2, hc2, n2, hd2⟩ := p2.isList
  simp only at hc hd hc2 hd2
  subst hc hd hc2 hd2
  refine concat_meets ⟨_, ho, rfl⟩ ⟨_, ho2, rfl⟩ noFill_list_add seq_list_add PySem.F.slot_list_add PySem.F.entry_list_add (PySem.F.args_list_add_2 _ _) (list_addW l b its.toArray its2.toArray n n2 dd dd2 sl sl2 (by simp only [List.size_toArray]; omega)) ⟨ho, ho2, ?_⟩
  have ea : its.toArray ++ its2.toArray = (its ++ its2).toArray := by simp
  rw [ea]
  exact ⟨.ref _, _, I.lnew (t' := s.toks) (r.append r2) (by rw [List.length_append]; omega), rfl, q _ I.fresh⟩

theorem int_rmulW (a : Int) (t : Tok) (l : Addr) (items : Array Value) (n : Nat) (dd : Option Addr) (sl : Array (Option Value)) :
    Meets (Builtin.«int.__rmul__» ⟨[.int a t, .ref l], []⟩) (fun _ R s => s.heap.get? l = some { cls := .type "list", dict := dd, data := .seq items n, slots := sl } ∧ R (.ok (.ret Value.notImplemented)) s) :=
  .of_wp fun prog w A R s h => by obtain ⟨hp, g, d, tk, os⟩ := s; obtain ⟨hl, h⟩ := h; wp_walk using wpAny_loadPart' hl; exact ⟨_, rfl, h⟩
theorem list_mulW (l : Addr) (items : Array Value) (n : Nat) (dd : Option Addr) (sl : Array (Option Value)) (x : Int) (u : Tok) (hc0 : ¬(!Builtin.List.listFitsIndex x) = true) (hc1 : ¬items.size * x.toNat > (2 ^ 63 - 1) / 8) (hc2 : ¬Builtin.List.listTooLong (items.size * x.toNat) = true) :
    Meets (Builtin.«list.__mul__» ⟨[.ref l, .int x u], []⟩) (fun _ R s => s.heap.get? l = some { cls := .type "list", dict := dd, data := .seq items n, slots := sl } ∧ R (.ok (.ret (Value.ref s.heap.objs.size))) { s with heap := s.heap.push { cls := Value.type "list", data := Data.seq (List.foldl (fun x1 x2 => x1 ++ x2) #[] (List.replicate (if items.isEmpty = true then 0 else x.toNat) items)) }, toks := s.toks }) :=
  .of_wp fun prog w A R s h => by
    obtain ⟨hp, g, d, tk, os⟩ := s; obtain ⟨hl, h⟩ := h
    have hsz := AutoListH.joined_fits hc2
    wp_walk using wpAny_loadPart' hl; refine wpAny_ite_false (decide_eq_false (Nat.not_lt.mpr hsz)) ?_; wp_walk using wpAny_loadPart' hl; exact ⟨_, rfl, h⟩
/-- xs * n of a list that is read -/
theorem op_repS : OpR X (binaryOp .Mult) (fun x y H Q => ∃ l k xs, x = .ref l ∧ y = .int k ∧ SqL X.K H l xs ∧ -(2 ^ 63) ≤ k ∧ k < 2 ^ 63 ∧ xs.length * k.toNat ≤ sizeLine ∧ ∀ p, H p = none → Q (.ref p) (upd H p (.lst (List.replicate k.toNat xs).flatten))) := by
  intro pins s σ H x y v u Q I rx ry h
  obtain ⟨l, k, xs, rfl, rfl, hH, h1, h2, hz, q⟩ := h
  cases rx
  obtain ⟨t, rfl⟩ := ry
  obtain ⟨its, r, p1, z⟩ := I.list hH
  have hl := r.length
  obtain ⟨⟨cls, dd, data, sl⟩, e, hc, n, hd⟩ := p1.isList
  simp only at hc hd
  subst hc hd
  have hlen : its.toArray.size * k.toNat ≤ sizeLine := by rw [List.size_toArray, ← hl]; exact hz
  have hcap : ¬ its.toArray.size * k.toNat > (2 ^ 63 - 1) / 8 := by
    have : (sizeLine : Nat) ≤ (2 ^ 63 - 1) / 8 := by decide
    omega
  have hfit : ¬ (!Builtin.List.listFitsIndex k) = true := by
    rw [fitsIndex_both h1 h2]
    exact Bool.false_ne_true
  have hlong : ¬ Builtin.List.listTooLong (its.toArray.size * k.toNat) = true := by
    rw [notLongL hlen]
    exact Bool.false_ne_true
  have hnew : List.foldl (fun x1 x2 => x1 ++ x2) #[] (List.replicate (if its.toArray.isEmpty = true then 0 else k.toNat) its.toArray) = (List.replicate k.toNat its).flatten.toArray := by
    have f0 : ∀ m : Nat, List.foldl (fun x1 x2 => x1 ++ x2) #[] (List.replicate m its.toArray) = (List.replicate m its).flatten.toArray := fun m => by
      have := foldl_rep its m []
      rw [List.nil_append] at this
      exact this
    rw [f0]
    cases its with
    | nil => simp
    | cons a r' => rw [if_neg (by simp)]
  refine wpAny_binaryOp_repeat_ref (T := "list") (U := "int") (by decide) ⟨_, e, rfl⟩ (fun s' => typeIs_int s' k t) noFill_list_mul F.fills_int_mul F.slot_int_rmul repeat_list F.slot_int_index.lookup
    (call_meets F.slot_int_rmul (typeIs_int s k t) F.entry_int_rmul (F.args_int_rmul_2 _ _) (int_rmulW k t l its.toArray n dd sl)
      ⟨e, rfl, ⟨_, e, rfl⟩, call_meets F.slot_list_mul ⟨_, e, rfl⟩ F.entry_list_mul (F.args_list_mul_2 _ _) (list_mulW l its.toArray n dd sl k t hfit hcap hlong) ⟨e, ?_⟩⟩)
  rw [hnew]
  exact ⟨.ref _, _, I.lnew (t' := s.toks) (r.rep k.toNat) (by rw [PyProof.Rows.lm_len_rep_flat, Nat.mul_comm]; exact hz), rfl, q _ I.fresh⟩

def bopA : Bop → Operator
  | .add => .Add
  | .sub => .Sub
  | .mul => .Mult
  | .fdiv => .FloorDiv
  | .mod => .Mod
  | .pow => .Pow
theorem op_bin (op : Bop) : OpR X (binaryOp (bopA op)) (rD X.K .own (binD op)) := by
  intro pins s σ H x y v u Q I rx ry h
  obtain ⟨w, a, b, wo, la, lb, h⟩ := h
  cases op with
  | add =>
    cases a with
    | int i =>
      cases b with
      | int j =>
        obtain rfl := la.int
        obtain rfl := lb.int
        exact op_add pins s σ H _ _ v u Q I rx ry ⟨_, _, rfl, rfl, Post.int wo h⟩
      | _ => exact h.elim
    | lst xs =>
      cases b with
      | lst ys =>
        simp only [binD] at h
        split at h
        · rename_i hz
          obtain ⟨p, vs, rfl, h1, r1⟩ := la.lst
          obtain ⟨q, us, rfl, h2, r2⟩ := lb.lst
          refine op_catS pins s σ H _ _ v u Q I rx ry ⟨_, _, _, _, rfl, rfl, h1, h2, ?_, Post.lst wo h (r1.append r2)⟩
          rw [r1.length, r2.length, ← line_eq]
          exact hz
        · exact h.elim
      | _ => exact h.elim
    | tup xs =>
      cases b with
      | tup ys =>
        simp only [binD] at h
        split at h
        · rename_i hz
          obtain ⟨p, vs, rfl, h1, r1⟩ := la.tup
          obtain ⟨q, us, rfl, h2, r2⟩ := lb.tup
          have e1 := r1.length
          have e2 := r2.length
          refine op_catA pins s σ H _ _ v u Q I rx ry ⟨_, _, _, _, rfl, rfl, h1, h2, ?_, fun e => ?_, fun n e => ?_, fun _ _ => Post.tup wo h (r1.append r2)⟩
          · rw [e1, e2, ← line_eq]
            exact hz
          · subst e
            cases r1
            exact Post.tupH wo h (.tup h2 r2)
          · subst e
            cases r2
            rw [List.append_nil] at h
            exact Post.tupH wo h (.tup h1 r1)
        · exact h.elim
      | _ => exact h.elim
    | str i =>
      cases b with
      | str j =>
        simp only [binD] at h
        split at h
        · rename_i hz
          obtain rfl := la.str
          obtain rfl := lb.str
          exact op_add_str pins s σ H _ _ v u Q I rx ry ⟨_, _, rfl, rfl, by rw [← line_eq]; exact hz, Post.str wo h⟩
        · exact h.elim
      | _ => exact h.elim
    | _ => cases b <;> exact h.elim
  | sub =>
    cases a with
    | int i =>
      cases b with
      | int j =>
        obtain rfl := la.int
        obtain rfl := lb.int
        exact op_sub pins s σ H _ _ v u Q I rx ry ⟨_, _, rfl, rfl, Post.int wo h⟩
      | _ => exact h.elim
    | _ => cases b <;> exact h.elim
  | mul =>
    cases a with
    | int i =>
      cases b with
      | int j =>
        simp only [binD] at h
        split at h
        · rename_i hz
          obtain rfl := la.int
          obtain rfl := lb.int
          refine op_mul pins s σ H _ _ v u Q I rx ry ⟨_, _, rfl, rfl, ?_, Post.int wo h⟩
          simp only [small, Bool.or_eq_true, Bool.and_eq_true, decide_eq_true_eq] at hz
          exact hz
        · exact h.elim
      | _ => exact h.elim
    | tup xs =>
      cases b with
      | int k =>
        simp only [binD] at h
        split at h
        · rename_i hz
          obtain ⟨p, vs, rfl, h1, r1⟩ := la.tup
          obtain rfl := lb.int
          have e1 := r1.length
          exact op_repT pins s σ H _ _ v u Q I rx ry ⟨p, k, vs, rfl, rfl, h1, fun e => by subst e; simp at e1; omega, hz.2.1, hz.2.2.1, by omega, Post.tup wo h (r1.rep k.toNat)⟩
        · exact h.elim
      | _ => exact h.elim
    | lst xs =>
      cases b with
      | int k =>
        simp only [binD] at h
        split at h
        · rename_i hz
          obtain ⟨p, vs, rfl, h1, r1⟩ := la.lst
          obtain rfl := lb.int
          have e1 := r1.length
          refine op_repS pins s σ H _ _ v u Q I rx ry ⟨p, k, vs, rfl, rfl, h1, by omega, by omega, ?_, Post.lst wo h (r1.rep k.toNat)⟩
          rw [e1, ← line_eq]
          have : xs.length * k.toNat ≤ 1000 * 1000 := Nat.mul_le_mul hz.2.2 (by omega)
          have : LINE = 16777216 := rfl
          omega
        · exact h.elim
      | _ => exact h.elim
    | _ => cases b <;> exact h.elim
  | fdiv =>
    cases a with
    | int i =>
      cases b with
      | int j =>
        simp only [binD] at h
        split at h
        · rename_i hz
          obtain rfl := la.int
          obtain rfl := lb.int
          exact op_fdivN pins s σ H _ _ v u Q I rx ry ⟨_, _, rfl, rfl, hz, Post.int wo h⟩
        · exact h.elim
      | _ => exact h.elim
    | _ => cases b <;> exact h.elim
  | mod =>
    cases a with
    | int i =>
      cases b with
      | int j =>
        simp only [binD] at h
        split at h
        · rename_i hz
          obtain rfl := la.int
          obtain rfl := lb.int
          exact op_modN pins s σ H _ _ v u Q I rx ry ⟨_, _, rfl, rfl, hz, Post.int wo h⟩
        · exact h.elim
      | _ => exact h.elim
    | _ => cases b <;> exact h.elim
  | pow =>
    cases a with
    | int i =>
      cases b with
      | int j =>
        simp only [binD] at h
        split at h
        · rename_i hz
          obtain rfl := la.int
          obtain rfl := lb.int
          exact op_pow pins s σ H _ _ v u Q I rx ry ⟨_, _, rfl, rfl, hz, Post.int wo h⟩
        · exact h.elim
      | _ => exact h.elim
    | _ => cases b <;> exact h.elim

def copA : Cop → CmpOp
  | .eq => .Eq
  | .ne => .NotEq
  | .lt => .Lt
  | .le => .LtE
  | .gt => .Gt
  | .ge => .GtE
  | .in_ => .In
  | .nin => .NotIn
  | .is_ => .Is
  | .isn => .IsNot
def PostB (K : PySem.W.Frag) (H : Hp) (w : Wd) (Q : VK) : Bool → S → Prop := fun b s => w.S = s → Q (.bl b) H
/-- a comparison's answer: nothing is changed -/
def rC (K : PySem.W.Frag) (h : D → D → M Bool) : R2 := fun x y H Q => ∃ w a b, WOk K H w ∧ Look K H w x a ∧ Look K H w y b ∧ (h a b w.S).wp (PostB K H w Q) NoX
theorem shp_lay {d : D} (h : shp d = true) : d.py.canLay0 = true := SeqAt.canLay_of_shaped h
theorem op_eqW (hu : X.A.units + 64 < cLine) : OpR X (compareOp .Eq) (rC X.K eqD) := by
  intro pins s σ H x y v u Q I rx ry h
  obtain ⟨w, a, b, wo, la, lb, h⟩ := h
  rcases eqD_ds a b with ⟨x', y', rfl, rfl, e⟩ | e
  · obtain rfl := la.str
    obtain rfl := lb.str
    rw [e] at h
    exact op_eq pins s σ H _ _ v u Q I rx ry ⟨rfl, by simpa using h rfl⟩
  rw [e] at h
  simp only [eqS] at h
  split at h
  · rename_i hz
    rw [Bool.and_eq_true] at hz
    exact op_eqD hu pins s σ H _ _ v u Q I rx ry ⟨_, _, la.dp (shp_lay hz.1), lb.dp (shp_lay hz.2), hz.1, hz.2, h rfl⟩
  · exact h.elim
theorem op_neW (hu : X.A.units + 64 < cLine) : OpR X (compareOp .NotEq) (rC X.K fun a b => do return !(← eqD a b)) := by
  intro pins s σ H x y v u Q I rx ry h
  obtain ⟨w, a, b, wo, la, lb, h⟩ := h
  rw [wp_bind] at h
  rcases eqD_ds a b with ⟨x', y', rfl, rfl, e⟩ | e
  · obtain rfl := la.str
    obtain rfl := lb.str
    rw [e] at h
    exact op_ne pins s σ H _ _ v u Q I rx ry ⟨rfl, by simpa using h rfl⟩
  rw [e] at h
  simp only [eqS] at h
  split at h
  · rename_i hz
    rw [Bool.and_eq_true] at hz
    exact op_neD hu pins s σ H _ _ v u Q I rx ry ⟨_, _, la.dp (shp_lay hz.1), lb.dp (shp_lay hz.2), hz.1, hz.2, h rfl⟩
  · exact h.elim
theorem Look.reads {pins : List (Addr × Obj)} {σ : L2.St} {H : Hp} {s : Shared} {w : Wd} {x : V} {v : Value} {d : D} (I : Inv X pins σ H s) (l : Look X.K H w x d) (c : d.py.canLay0 = true) (r : RelV x v) : ∃ as, Reads s.heap v d.py as := Dp.reads I _ _ _ (l.dp c) r
theorem op_inW (hu : X.A.units + 65 < cLine) (neg : Bool) : OpR X (compareOp (if neg then .NotIn else .In)) (rC X.K fun a b => do return (← inD a b) != neg) := by
  intro pins s σ H x y v u Q I rx ry h
  obtain ⟨w, a, b, wo, la, lb, h⟩ := h
  rw [wp_bind] at h
  cases b with
  | lst ys =>
    simp only [inD] at h
    split at h
    · rename_i hz
      rw [Bool.and_eq_true] at hz
      obtain ⟨as, r1⟩ := la.reads I (shp_lay hz.1) rx
      obtain ⟨bs, r2⟩ := lb.reads I (shp_lay hz.2) ry
      have h' : Q (.bl ((ys.any fun z => PyData.eqv z.py a.py) != neg)) H := h rfl
      have e : (pyAll ys).any (fun z => PyData.eqv z a.py) = ys.any fun z => PyData.eqv z.py a.py := by rw [pyAll_map, List.any_map]; rfl
      rw [← e] at h'
      simp only [D.py] at r2
      have c2 := shp_lay hz.2
      simp only [D.py, PyData.canLay0] at c2
      have hu' : X.A.units + 1 + a.py.depth < cLine := by
        have := SeqAt.depth_of_shaped hz.1
        omega
      cases neg with
      | false => exact SeqAt.in_list_reads r2 r1 c2 (shp_lay hz.1) (room_in_shaped hz.1 hu) ⟨.bl _, H, I, rfl, by simpa using h'⟩
      | true => exact SeqAt.notIn_list_reads r2 r1 c2 (shp_lay hz.1) (room_in_shaped hz.1 hu) ⟨.bl _, H, I, rfl, by simpa using h'⟩
    · exact h.elim
  | tup ys =>
    simp only [inD] at h
    split at h
    · rename_i hz
      rw [Bool.and_eq_true] at hz
      obtain ⟨as, r1⟩ := la.reads I (shp_lay hz.1) rx
      obtain ⟨bs, r2⟩ := lb.reads I (shp_lay hz.2) ry
      have h' : Q (.bl ((ys.any fun z => PyData.eqv z.py a.py) != neg)) H := h rfl
      have e : (pyAll ys).any (fun z => PyData.eqv z a.py) = ys.any fun z => PyData.eqv z.py a.py := by rw [pyAll_map, List.any_map]; rfl
      rw [← e] at h'
      simp only [D.py] at r2
      have c2 := shp_lay hz.2
      simp only [D.py, PyData.canLay0] at c2
      cases neg with
      | false => exact SeqAt.in_tuple_reads r2 r1 c2 (shp_lay hz.1) (room_in_shaped hz.1 hu) ⟨.bl _, H, I, rfl, by simpa using h'⟩
      | true => exact SeqAt.notIn_tuple_reads r2 r1 c2 (shp_lay hz.1) (room_in_shaped hz.1 hu) ⟨.bl _, H, I, rfl, by simpa using h'⟩
    · exact h.elim
  | _ => exact h.elim
theorem op_ltW (hu : X.A.units + 64 < cLine) : OpR X (compareOp .Lt) (rC X.K ltD) := by
  intro pins s σ H x y v u Q I rx ry h
  obtain ⟨w, a, b, wo, la, lb, h⟩ := h
  unfold ltD at h
  split at h
  · rename_i hz
    simp only [Bool.and_eq_true] at hz
    obtain ⟨⟨⟨ha, hb⟩, hal⟩, hn⟩ := hz
    obtain ⟨as, r1⟩ := la.reads I (shp_lay ha) rx
    obtain ⟨bs, r2⟩ := lb.reads I (shp_lay hb) ry
    refine W.rcLt_alike _ _ X.A s v u as bs r1 r2 hal (fun e => ?_) (SeqAt.room_of_shaped ha hu) _ _ _ _ ⟨.bl _, H, I, rfl, h rfl⟩
    cases a <;> simp [D.py, notNon] at e hn
  · exact h.elim
/-- facts of two alike things -/
theorem alike_facts {a b : D} (hz : (shp a && shp b && W.alike a.py b.py && notNon a) = true) : (shp a = true ∧ shp b = true) ∧ W.alike a.py b.py = true ∧ a.py ≠ .none := by
  simp only [Bool.and_eq_true] at hz
  refine ⟨hz.1.1, hz.1.2, fun e => ?_⟩
  have hn := hz.2
  cases a <;> simp [D.py, notNon] at e hn
theorem op_ordW (hu : X.A.units + 64 < cLine) {op : CmpOp} {f : D → D → M Bool} {r : D → D → Bool} (hop : ∀ v u, compareOp op v u = richCompare op v u) (hf : ∀ a b, f a b = if shp a && shp b && W.alike a.py b.py && notNon a then pure (r a b) else stuck)
    (hr : ∀ (a b : D) (A : Around) (s : Shared) (v u : Value) (as bs : List Addr), Reads s.heap v a.py as → Reads s.heap u b.py bs → W.alike a.py b.py = true → a.py ≠ .none → A.units + min a.py.depth b.py.depth < cLine → SeqAt.RcOp op A s v u (r a b)) :
    OpR X (compareOp op) (rC X.K f) := by
  intro pins s σ H x y v u Q I rx ry h
  obtain ⟨w, a, b, wo, la, lb, h⟩ := h
  rw [hf] at h
  split at h
  · rename_i hz
    obtain ⟨⟨ha, hb⟩, hal, hn⟩ := alike_facts hz
    obtain ⟨as, r1⟩ := la.reads I (shp_lay ha) rx
    obtain ⟨bs, r2⟩ := lb.reads I (shp_lay hb) ry
    rw [hop]
    exact hr a b X.A s v u as bs r1 r2 hal hn (SeqAt.room_of_shaped ha hu) X.prog X.w X.xe (EP X pins σ Q) ⟨.bl _, H, I, rfl, h rfl⟩
  · exact h.elim
theorem intc_of {o : Cop} {g : D → D → M Bool} {p : Int → Int → Bool} (hi : ∀ i j, cmpD o (.int i) (.int j) = pure (p i j)) (hg : ∀ a b, (∀ i j, ¬ (a = .int i ∧ b = .int j)) → cmpD o a b = g a b) {a b : D} {s : S} {Q : Bool → S → Prop} (h : (cmpD o a b s).wp Q NoX) :
    (∃ i j, a = .int i ∧ b = .int j ∧ Q (p i j) s) ∨ (g a b s).wp Q NoX := by
  by_cases q : ∃ i j, a = .int i ∧ b = .int j
  · obtain ⟨i, j, rfl, rfl⟩ := q
    rw [hi] at h
    exact .inl ⟨i, j, rfl, rfl, h⟩
  · right
    rw [hg a b fun i j z => q ⟨i, j, z⟩] at h
    exact h
theorem ltc_of {a b : D} {s : S} {Q : Bool → S → Prop} (h : (cmpD .lt a b s).wp Q NoX) : (∃ i j, a = .int i ∧ b = .int j ∧ Q (decide (i < j)) s) ∨ (ltD a b s).wp Q NoX := by
  cases a with
  | int i =>
    cases b with
    | int j => exact .inl ⟨i, j, rfl, rfl, h⟩
    | _ => exact .inr h
  | _ => exact .inr h
theorem op_cmp (hu : X.A.units + 65 < cLine) (op : Cop) : OpR X (compareOp (copA op)) (rC X.K (cmpD op)) := by
  cases op with
  | eq => exact op_eqW (by omega)
  | ne => exact op_neW (by omega)
  | lt =>
    intro pins s σ H x y v u Q I rx ry h
    obtain ⟨w, a, b, wo, la, lb, h⟩ := h
    rcases ltc_of h with ⟨i, j, rfl, rfl, q⟩ | q
    · obtain rfl := la.int
      obtain rfl := lb.int
      exact op_lt pins s σ H _ _ v u Q I rx ry ⟨_, _, rfl, rfl, q rfl⟩
    · exact op_ltW (by omega) pins s σ H _ _ v u Q I rx ry ⟨w, a, b, wo, la, lb, q⟩
  | le =>
    intro pins s σ H x y v u Q I rx ry h
    obtain ⟨w, a, b, wo, la, lb, h⟩ := h
    rcases intc_of (o := .le) (g := leD) (p := fun i j => decide (i ≤ j)) (fun _ _ => rfl) (fun a b q => by cases a <;> cases b <;> first | rfl | exact absurd ⟨rfl, rfl⟩ (q _ _)) h with ⟨i, j, rfl, rfl, q⟩ | q
    · obtain rfl := la.int
      obtain rfl := lb.int
      exact op_le pins s σ H _ _ v u Q I rx ry ⟨_, _, rfl, rfl, q rfl⟩
    · exact op_ordW (f := leD) (r := fun a b => !W.dataLt b.py a.py) (by omega) (fun _ _ => rfl) (fun _ _ => rfl) (fun a b A s v u as bs r1 r2 h1 h2 h3 => W.rcLe_alike _ _ A s v u as bs r1 r2 h1 h2 h3) pins s σ H _ _ v u Q I rx ry ⟨w, a, b, wo, la, lb, q⟩
  | gt =>
    intro pins s σ H x y v u Q I rx ry h
    obtain ⟨w, a, b, wo, la, lb, h⟩ := h
    rcases intc_of (o := .gt) (g := gtD) (p := fun i j => decide (j < i)) (fun _ _ => rfl) (fun a b q => by cases a <;> cases b <;> first | rfl | exact absurd ⟨rfl, rfl⟩ (q _ _)) h with ⟨i, j, rfl, rfl, q⟩ | q
    · obtain rfl := la.int
      obtain rfl := lb.int
      exact op_gt pins s σ H _ _ v u Q I rx ry ⟨_, _, rfl, rfl, q rfl⟩
    · exact op_ordW (f := gtD) (r := fun a b => W.dataLt b.py a.py) (by omega) (fun _ _ => rfl) (fun _ _ => rfl) (fun a b A s v u as bs r1 r2 h1 h2 h3 => W.rcGt_alike _ _ A s v u as bs r1 r2 h1 h2 h3) pins s σ H _ _ v u Q I rx ry ⟨w, a, b, wo, la, lb, q⟩
  | ge =>
    intro pins s σ H x y v u Q I rx ry h
    obtain ⟨w, a, b, wo, la, lb, h⟩ := h
    rcases intc_of (o := .ge) (g := geD) (p := fun i j => decide (j ≤ i)) (fun _ _ => rfl) (fun a b q => by cases a <;> cases b <;> first | rfl | exact absurd ⟨rfl, rfl⟩ (q _ _)) h with ⟨i, j, rfl, rfl, q⟩ | q
    · obtain rfl := la.int
      obtain rfl := lb.int
      exact op_ge pins s σ H _ _ v u Q I rx ry ⟨_, _, rfl, rfl, q rfl⟩
    · exact op_ordW (f := geD) (r := fun a b => !W.dataLt a.py b.py) (by omega) (fun _ _ => rfl) (fun _ _ => rfl) (fun a b A s v u as bs r1 r2 h1 h2 h3 => W.rcGe_alike _ _ A s v u as bs r1 r2 h1 h2 h3) pins s σ H _ _ v u Q I rx ry ⟨w, a, b, wo, la, lb, q⟩
  | in_ =>
    intro pins s σ H x y v u Q I rx ry h
    obtain ⟨w, a, b, wo, la, lb, h⟩ := h
    refine op_inW hu false pins s σ H x y v u Q I rx ry ⟨w, a, b, wo, la, lb, ?_⟩
    rw [wp_bind]
    refine R.wp_mono h (fun k s' q => ?_) fun _ _ z => z
    show PostB X.K H w Q (k != false) s'
    rw [Bool.bne_false]
    exact q
  | nin =>
    intro pins s σ H x y v u Q I rx ry h
    obtain ⟨w, a, b, wo, la, lb, h⟩ := h
    refine op_inW hu true pins s σ H x y v u Q I rx ry ⟨w, a, b, wo, la, lb, ?_⟩
    rw [wp_bind]
    rw [show cmpD .nin a b = (do return !(← inD a b)) from rfl, wp_bind] at h
    refine R.wp_mono h (fun k s' q => ?_) fun _ _ z => z
    show PostB X.K H w Q (k != true) s'
    rw [Bool.bne_true]
    exact q
  | is_ =>
    intro pins s σ H x y v u Q I rx ry h
    obtain ⟨w, a, b, wo, la, lb, h⟩ := h
    cases b with
    | non =>
      obtain rfl := lb.non
      refine op_isN pins s σ H _ _ v u Q I rx ry ⟨rfl, ?_⟩
      cases a with
      | non =>
        obtain rfl := la.non
        exact h rfl
      | bl _ => obtain rfl := la.bl; exact h rfl
      | int _ => obtain rfl := la.int; exact h rfl
      | str _ => obtain rfl := la.str; exact h rfl
      | tup _ => obtain ⟨_, _, rfl, _⟩ := la.tup; exact h rfl
      | lst _ => obtain ⟨_, _, rfl, _⟩ := la.lst; exact h rfl
      | dct _ =>
        rcases la with la | ⟨_, _, _, _, z, _⟩
        · cases la
        · cases z
      | st =>
        rcases la with la | ⟨_, _, _, _, z, _⟩
        · cases la
          exact h rfl
        · cases z
    | bl b =>
      cases a with
      | bl a =>
        obtain rfl := la.bl
        obtain rfl := lb.bl
        exact op_isBl pins s σ H _ _ v u Q I rx ry ⟨_, _, rfl, rfl, h rfl⟩
      | _ => exact h.elim
    | _ => cases a <;> exact h.elim
  | isn =>
    intro pins s σ H x y v u Q I rx ry h
    obtain ⟨w, a, b, wo, la, lb, h⟩ := h
    rw [show cmpD .isn a b = (do return !(← isD a b)) from rfl, wp_bind] at h
    cases b with
    | non =>
      obtain rfl := lb.non
      refine op_notN pins s σ H _ _ v u Q I rx ry ⟨rfl, ?_⟩
      cases a with
      | non =>
        obtain rfl := la.non
        exact h rfl
      | bl _ => obtain rfl := la.bl; exact h rfl
      | int _ => obtain rfl := la.int; exact h rfl
      | str _ => obtain rfl := la.str; exact h rfl
      | tup _ => obtain ⟨_, _, rfl, _⟩ := la.tup; exact h rfl
      | lst _ => obtain ⟨_, _, rfl, _⟩ := la.lst; exact h rfl
      | dct _ =>
        rcases la with la | ⟨_, _, _, _, z, _⟩
        · cases la
        · cases z
      | st =>
        rcases la with la | ⟨_, _, _, _, z, _⟩
        · cases la
          exact h rfl
        · cases z
    | bl b =>
      cases a with
      | bl a =>
        obtain rfl := la.bl
        obtain rfl := lb.bl
        exact op_notBl pins s σ H _ _ v u Q I rx ry ⟨_, _, rfl, rfl, h rfl⟩
      | _ => exact h.elim
    | _ => cases a <;> exact h.elim

/-! ### items, slices -/
theorem ix_D : IxR X (rD X.K .sh subD) := by
  intro ev es pins s σ H x y v u Q I rx ry h hsub
  obtain ⟨w, a, b, wo, la, lb, h⟩ := h
  cases b with
  | int i =>
    obtain rfl := lb.int
    cases a with
    | lst xs =>
      cases hd : atD xs i with
      | none =>
        simp only [subD, hd] at h
        exact h.elim
      | some d =>
        simp only [subD, hd] at h
        obtain ⟨p, vs, rfl, h1, r⟩ := la.lst
        unfold atD at hd
        cases hj : DE.ixN xs.length i with
        | none => rw [hj] at hd; cases hd
        | some j =>
          rw [hj] at hd
          obtain ⟨z, hz, rz⟩ := r.get (show xs[j]? = some d from hd)
          refine ix_list ev es pins s σ H _ _ v u Q I rx ry ⟨p, vs, i, z, rfl, rfl, h1, ?_, h.here wo rfl rz⟩ hsub
          unfold atI
          rw [r.length, ← ixN_eq, hj]
          exact hz
    | tup xs =>
      cases hd : atD xs i with
      | none =>
        simp only [subD, hd] at h
        exact h.elim
      | some d =>
        simp only [subD, hd] at h
        obtain ⟨p, vs, rfl, h1, r⟩ := la.tup
        unfold atD at hd
        cases hj : DE.ixN xs.length i with
        | none => rw [hj] at hd; cases hd
        | some j =>
          rw [hj] at hd
          obtain ⟨z, hz, rz⟩ := r.get (show xs[j]? = some d from hd)
          refine ix_tup ev es pins s σ H _ _ v u Q I rx ry ⟨p, vs, i, z, rfl, rfl, h1, ?_, h.here wo rfl rz⟩ hsub
          unfold atI
          rw [r.length, ← ixN_eq, hj]
          exact hz
    | _ => exact h.elim
  | _ => cases a <;> exact h.elim
theorem sIx_eq (n d : Nat) (o : Option Int) : DE.sIx n d o = HT.sIx n d o := by
  cases o with
  | none => rfl
  | some v => rfl
theorem RpL.cut {K : PySem.W.Frag} {H : Hp} {w : Wd} {vs : List V} {ds : List D} (r : RpL K H w vs ds) (lo hi : Option Int) : RpL K H w (cutV vs lo hi) (DE.cut ds lo hi) := by
  unfold cutV DE.cut
  rw [r.length, sIx_eq, sIx_eq]
  exact (r.drop _).take _
def rSlD (K : PySem.W.Frag) : V → Option Int → Option Int → Hp → VK → Prop := fun x lo hi H Q => ∃ w a, WOk K H w ∧ Look K H w x a ∧ (sliceD a lo hi w.S).wp (Post K H w .own Q) NoX
theorem cut_all {α : Type} (xs : List α) (lo hi : Option Int) (h : HT.sIx xs.length 0 lo = 0 ∧ HT.sIx xs.length xs.length hi = xs.length) : DE.cut xs lo hi = xs := by
  unfold DE.cut
  rw [sIx_eq, sIx_eq, h.1, h.2]
  simp
theorem sl_D : SlR X (rSlD X.K) := by
  intro pins s σ H x v vl vu lo hi sl Q I rx hs pl pu h
  obtain ⟨w, a, wo, la, h⟩ := h
  cases a with
  | lst xs =>
    obtain ⟨p, vs, rfl, h1, r⟩ := la.lst
    exact sl_list pins s σ H _ v vl vu lo hi sl Q I rx hs pl pu ⟨p, vs, rfl, h1, Post.lst wo h (r.cut lo hi)⟩
  | tup xs =>
    obtain ⟨p, vs, rfl, h1, r⟩ := la.tup
    refine sl_tupA pins s σ H _ v vl vu lo hi sl Q I rx hs pl pu ⟨p, vs, rfl, h1, fun e => ?_, fun _ => Post.tup wo h (r.cut lo hi)⟩
    refine Post.tupH wo h ?_
    rw [r.length] at e
    rw [cut_all xs lo hi e]
    exact .tup h1 r
  | _ => exact h.elim
end
end DE

/-! DEbi: built-in functions by values. -/
namespace DE
open PySem PySem.Spec PyProof.Rows L2 PySem.Calls

/-! ### sorting -/
theorem each_keep {h h' : Heap} (k : ∀ b o, h.get? b = some o → h'.get? b = some o) {β : Type} {enc : β → PyData} {vs : List Value} {bs : List β} (e : W.EachIs (fun v b => ∃ as, Reads h v (enc b) as) vs bs) :
    W.EachIs (fun v b => ∃ as, Reads h' v (enc b) as) vs bs := e.mono fun _ _ ⟨as, r⟩ => ⟨as, PyProof.Rows.Reads.keeps k r⟩
/-- sorted(x), x a list or a tuple -/
theorem sorted_seq {prog : Program} {w : World} {A : Around} {E : Value → Shared → Prop} {s : Shared} {β : Type} {it : Addr} {T : String} {o : Obj} {vs : List Value} {n : Nat} {bs : List β} {enc : β → PyData} {R : Value → β → Prop} {Q : Value → Shared → Prop} (hT : T = "list" ∨ T = "tuple")
    (ho : s.heap.get? it = some o) (hc : o.cls = .type T) (hd : o.data = .seq vs.toArray n) (e : W.EachIs R vs bs) (er : W.EachIs (fun v b => ∃ as, Reads s.heap v (enc b) as) vs bs) (hal : W.AllAlike (bs.map enc)) (hk : W.Sortable (bs.map enc)) (hL : bs.length ≤ sizeLine)
    (hu : ∀ b, b ∈ bs → A.units + 2 + (enc b).depth < cLine)
    (h : ∀ (out : List Value) (h1 h' : Heap) (m : Nat), out.length = bs.length → W.EachIs R out (bs.mergeSort (W.dataLe false enc)) → (∀ b u, s.heap.get? b = some u → h1.get? b = some u) → (∀ b u, h1.get? b = some u → h'.get? b = some u) →
      h'.get? h1.objs.size = some { cls := .type "list", data := .seq out.toArray m } → Q (.ref h1.objs.size) { s with heap := h' }) :
    wpAny (model prog w) A (call (.builtin "sorted") [.ref it]) Q E s := by
  have hl : vs.length = bs.length := e.length
  refine PyProof.Rows.call_function_entry_kw PyProof.Rows.kind_sorted PyProof.Rows.plain_sorted PyProof.Rows.entry_sorted (PyProof.Rows.args_sorted1 _) ?_
  unfold Builtin.«sorted»
  refine wpAny_bind (m := checkCount "sorted" 1 1 _) (wpAny_pure ?_)
  refine wpAny_bind (wpAny_collect_seq it hT ho hc hd (fun h1 k1 => ?_) (by simp only [List.size_toArray]; omega))
  refine wpAny_bind (wpAny_newList ?_ (by simp only [List.toList_toArray]; omega))
  simp only [List.toList_toArray]
  have at1 : (h1.push { cls := .type "list", data := .seq vs.toArray }).get? h1.objs.size = some (seqObj "list" vs.toArray 0) := Heap.get?_push_size _ rfl
  have k2 : ∀ b u, h1.get? b = some u → (h1.push { cls := .type "list", data := .seq vs.toArray }).get? b = some u := fun b u q => Heap.get?_push_of_some _ q
  have k3 : ∀ b u, s.heap.get? b = some u → (W.sortingHeap (h1.push { cls := .type "list", data := .seq vs.toArray }) h1.objs.size vs).get? b = some u := fun b u q =>
    W.sortingHeap_old (Nat.ne_of_lt (Heap.lt_size (k1 b u q))) (k2 b u (k1 b u q))
  refine wpAny_bind (wpAny_holding (wpAny_call_entry_kw PyProof.Rows.slot_list_sort ⟨_, at1, rfl⟩ PyProof.Rows.entry_list_sort ?body (PyProof.Rows.args_list_sort _)))
  case body =>
    have er' := each_keep k3 er
    show wpAny (model prog w) A.in1.in1 (Builtin.«list.sort» ⟨[.ref h1.objs.size], []⟩) _ _ _
    refine W.list_sort_vals (κ := W.dataKind (W.sortingHeap (h1.push { cls := .type "list", data := .seq vs.toArray }) h1.objs.size vs) (bs.map enc)) (n := 0) at1
      (W.SortsAt.data (s := { s with heap := W.sortingHeap (h1.push { cls := .type "list", data := .seq vs.toArray }) h1.objs.size vs }) (W.each_map (R := fun v d => ∃ as, Reads (W.sortingHeap (h1.push { cls := .type "list", data := .seq vs.toArray }) h1.objs.size vs) v d as) enc er') hal hk (W.bound_map hu)) (by omega) ?_
    obtain ⟨m, hm⟩ := sortedHeap_at (out := (W.sortVals (W.dataKind (W.sortingHeap (h1.push { cls := .type "list", data := .seq vs.toArray }) h1.objs.size vs) (bs.map enc)) false vs vs).toArray) at1
    refine ⟨_, rfl, wpAny_pure ⟨_, rfl, ?_⟩⟩
    refine h _ h1 _ m (by rw [W.sortVals_length false rfl]; exact hl) (W.sortVals_data false e er' hal) k1 (fun b u q => ?_) hm
    rw [sortedHeap_old (Nat.ne_of_lt (Heap.lt_size q)) (by rw [size_push']; exact Nat.lt_succ_of_lt (Heap.lt_size q))]
    exact k2 b u q

section
variable {K : PySem.W.Frag} {H : Hp} {w : Wd}
theorem each_of : ∀ {vs : List V} {ds : List D} {us : List Value}, RpL K H w vs ds → Vals vs us → W.EachIs (fun u d => ∃ v, RelV v u ∧ Rp K H w v d) us ds
  | _, _, _, .nil, .nil => .nil
  | _, _, _, .cons a r, .cons b t => .cons ⟨_, b, a⟩ (each_of r t)
theorem of_each : ∀ {us : List Value} {ds : List D}, W.EachIs (fun u d => ∃ v, RelV v u ∧ Rp K H w v d) us ds → ∃ vs, Vals vs us ∧ RpL K H w vs ds
  | _, _, .nil => ⟨[], .nil, .nil⟩
  | _, _, .cons ⟨v, b, a⟩ t => let ⟨vs, h1, h2⟩ := of_each t; ⟨v :: vs, .cons b h1, .cons a h2⟩
theorem all_mem {α : Type} {p : α → Bool} {l : List α} (h : l.all p = true) : ∀ a ∈ l, p a = true := List.all_eq_true.mp h
theorem sortable_facts {ds : List D} (h : sortable ds = true) : W.AllAlike (ds.map D.py) ∧ W.Sortable (ds.map D.py) ∧ ds.length ≤ sizeLine ∧ (∀ d ∈ ds, d.py.canLay0 = true) ∧ ∀ d ∈ ds, d.py.depth ≤ 64 := by
  unfold sortable at h
  simp only [Bool.and_eq_true, Bool.or_eq_true, decide_eq_true_eq] at h
  obtain ⟨⟨⟨h1, h2⟩, h3⟩, h4⟩ := h
  refine ⟨fun a ha b hb => ?_, ?_, by rw [← line_eq]; exact h3, fun d hd => shp_lay (all_mem h2 d hd), fun d hd => SeqAt.depth_of_shaped (all_mem h2 d hd)⟩
  · obtain ⟨a', ha', rfl⟩ := List.mem_map.mp ha
    obtain ⟨b', hb', rfl⟩ := List.mem_map.mp hb
    exact all_mem (all_mem h1 a' ha') b' hb'
  · rcases h4 with h4 | h4
    · refine .inl fun d hd => ?_
      obtain ⟨a, ha, rfl⟩ := List.mem_map.mp hd
      have q := all_mem h4 a ha
      cases a with
      | tup xs =>
        cases xs with
        | nil => cases q
        | cons x xs => exact ⟨x.py, pyAll xs, by simp only [D.py, pyAll]⟩
      | _ => cases q
    · refine .inr fun d hd => ?_
      obtain ⟨a, ha, rfl⟩ := List.mem_map.mp hd
      have q := all_mem h4 a ha
      cases a with
      | non => cases q
      | tup _ => cases q
      | _ => exact ⟨fun z => by simp [D.py] at z, fun xs z => by simp [D.py] at z⟩
end

/-- it asks that no repr is under way -/
def gdB : Bi → Bool
  | .repr => true
  | _ => false
def biV : Bi → Value
  | .len => .builtin "len"
  | .sum => .builtin "sum"
  | .all => .builtin "all"
  | .any => .builtin "any"
  | .sorted => .builtin "sorted"
  | .tuple => .type "tuple"
  | .list => .type "list"
  | .min1 => .builtin "min"
  | .max1 => .builtin "max"
  | .min2 => .builtin "min"
  | .max2 => .builtin "max"
  | .int1 => .type "int"
  | .repr => .builtin "repr"
abbrev LookL (K : PySem.W.Frag) (H : Hp) (w : Wd) : List V → List D → Prop := Paired (Look K H w)
def rB (K : PySem.W.Frag) (b : Bi) : List V → Hp → VK → Prop := fun vs H Q => ∃ w ds, WOk K H w ∧ LookL K H w vs ds ∧ (biD b ds w.S).wp (Post K H w .own Q) NoX
section
variable {X : Cx}
theorem cr_sorted (hu : X.A.units + 80 < cLine) : CallR X (.builtin "sorted") (rB X.K .sorted) := by
  intro pins s σ H xs us Q I r h
  obtain ⟨w, ds, wo, lk, h⟩ := h
  have main : ∀ (d : D) (es : List D) (x : V) (u : Value), Look X.K H w x d → RelV x u → (sortD es w.S).wp (Post X.K H w .own Q) NoX → (d = .lst es ∨ d = .tup es) → wpAny (model X.prog X.w) X.A (call (.builtin "sorted") [u]) (EP X pins σ Q) X.xe s := by
    intro d es x u l rx h hd
    unfold sortD at h
    by_cases hs : sortable es = true
    · rw [if_pos hs] at h
      obtain ⟨hal, hk, hL, hc, hdp⟩ := sortable_facts hs
      have go : ∀ (T : String) (p : Addr) (vs : List V) (its : List Value) (o : Obj) (n : Nat), (T = "list" ∨ T = "tuple") → RpL X.K H w vs es → Vals vs its → s.heap.get? p = some o → o.cls = .type T → o.data = .seq its.toArray n →
          wpAny (model X.prog X.w) X.A (call (.builtin "sorted") [.ref p]) (EP X pins σ Q) X.xe s := by
        intro T p vs its o n hT rp rv ho hc' hd'
        have er : W.EachIs (fun v b => ∃ as, Reads s.heap v (D.py b) as) its es := by
          have q := each_of rp rv
          clear hd' h rv rp hL hal hk hs hd
          induction q with
          | nil => exact .nil
          | cons hh _ ih =>
            obtain ⟨v, r1, r2⟩ := hh
            exact .cons (Look.reads I (.inl r2) (hc _ (List.mem_cons_self ..)) r1) (ih (fun d hd => hc d (List.mem_cons_of_mem _ hd)) fun d hd => hdp d (List.mem_cons_of_mem _ hd))
        refine sorted_seq hT ho hc' hd' (each_of rp rv) er hal hk hL (fun b hb => ?_) fun out h1 h' m hlen eo k1 k2 at' => ?_
        · have := hdp b hb
          omega
        · obtain ⟨vs', rv', rp'⟩ := of_each eo
          have I1 : Inv X pins σ H { s with heap := h1 } := I.kept (t' := s.toks) k1
          have hf : H h1.objs.size = none := I1.hok.fresh (Nat.le_refl _)
          have hz : vs'.length ≤ sizeLine := by rw [rv'.length, hlen]; exact hL
          exact ⟨.ref h1.objs.size, _, I1.laid (o := .lst vs') (t' := s.toks) k2 (Nat.le_refl _) ⟨hz, out, m, rv', at'⟩, rfl, Post.lst wo h rp' _ hf⟩
      rcases hd with rfl | rfl
      · obtain ⟨p, vs, rfl, h1, r1⟩ := l.lst
        cases rx
        obtain ⟨its, rv, ⟨o, n, e1, e2, e3, e4⟩, _⟩ := I.list h1
        exact go "list" p vs its o n (.inl rfl) r1 rv e1 e2 e4
      · obtain ⟨p, vs, rfl, h1, r1⟩ := l.tup
        cases rx
        obtain ⟨its, rv, ⟨o, e1, e2, n, e3⟩, _⟩ := I.tuple h1
        exact go "tuple" p vs its o n (.inr rfl) r1 rv e1 e2 e3
    · rw [if_neg hs] at h
      exact h.elim
  cases lk with
  | nil => exact h.elim
  | cons l lk =>
    cases lk with
    | nil =>
      obtain ⟨u, rfl, rx⟩ := vals1 r
      rename_i x d
      cases d with
      | lst es => exact main _ es _ _ l rx h (.inl rfl)
      | tup es => exact main _ es _ _ l rx h (.inr rfl)
      | _ => exact h.elim
    | cons _ _ =>
      rename_i d _ _ _ _ _ _
      cases d <;> exact h.elim
theorem Post.own_sh {K : PySem.W.Frag} {H : Hp} {w : Wd} {Q : VK} {d : D} {v : V} (wo : WOk K H w) (h : Post K H w .own Q d w.S) (hd : ∀ ds, d ≠ .lst ds) (r : Rp K H w v d) : Q v H := h.here wo rfl (by
  cases d with
  | lst ds => exact absurd rfl (hd ds)
  | _ => exact r)
theorem cr_repr (hg : X.A.guards = some []) (hu : X.A.units + 80 < cLine) : CallR X (.builtin "repr") (rB X.K .repr) := by
  intro pins s σ H xs us Q I r h
  obtain ⟨w, ds, wo, lk, h⟩ := h
  have main : ∀ (d : D) (p : Addr), Look X.K H w (.ref p) d → (reprD d w.S).wp (Post X.K H w .own Q) NoX → wpAny (model X.prog X.w) X.A (call (.builtin "repr") [.ref p]) (EP X pins σ Q) X.xe s := by
    intro d p l h
    unfold reprD at h
    by_cases hs : showB d = true
    · rw [if_pos hs] at h
      unfold showB at hs
      simp only [Bool.and_eq_true, Bool.not_eq_true', decide_eq_true_eq] at hs
      obtain ⟨⟨⟨h1, h2⟩, h3⟩, h4⟩ := hs
      obtain ⟨as, rd⟩ := Look.reads I l (shp_lay h1) (rfl : RelV (.ref p) (.ref p))
      have hd := SeqAt.depth_of_shaped h1
      refine repr_of_reads' rd h2 (fun e => by rw [h3] at e; cases e) hg (by omega) (fun _ _ e => e) (fun h' u tk k => ?_) h4
      exact ⟨.str d.py.shown, H, I.kept (t' := tk) k, ⟨u, rfl⟩, Post.str wo h⟩
    · rw [if_neg hs] at h
      exact h.elim
  cases lk with
  | nil => exact h.elim
  | cons l lk =>
    rename_i x d vs' ds'
    cases lk with
    | nil =>
      obtain ⟨u, rfl, rx⟩ := vals1 r
      cases d with
      | lst es =>
        obtain ⟨p, vs, rfl, _⟩ := l.lst
        cases rx
        exact main _ p l h
      | tup es =>
        obtain ⟨p, vs, rfl, _⟩ := l.tup
        cases rx
        exact main _ p l h
      | bl b =>
        obtain rfl := l.bl
        cases rx
        exact PySem.P.repr_of_bool ⟨.str _, H, I.tok _, ⟨_, rfl⟩, Post.str wo h⟩
      | non =>
        obtain rfl := l.non
        cases rx
        exact PySem.P.repr_of_none ⟨.str _, H, I.tok _, ⟨_, rfl⟩, Post.str wo h⟩
      | int i =>
        obtain rfl := l.int
        obtain ⟨t, rfl⟩ := rx
        simp only [biD] at h
        split at h
        · rename_i hz
          have hz' : i.natAbs.log2 < 1920 := by
            by_cases z : i.natAbs = 0
            · rw [z]; decide
            · exact Nat.lt_of_lt_of_le ((Nat.log2_lt z).mpr hz) (by decide)
          exact PySem.P.repr_of_int hz' ⟨.str _, H, I.tok _, ⟨_, rfl⟩, Post.str wo h⟩
        · exact h.elim
      | _ => exact h.elim
    | cons _ _ => cases d <;> exact h.elim
theorem cr_bi (hc : X.calm = true) (hu : X.A.units + 80 < cLine) (b : Bi) (hg : gdB b = true → X.A.guards = some []) : CallR X (biV b) (rB X.K b) := by
  cases b with
  | sorted => exact cr_sorted hu
  | repr => exact cr_repr (hg rfl) hu
  | len =>
    intro pins s σ H xs us Q I r h
    obtain ⟨w, ds, wo, lk, h⟩ := h
    cases lk with
    | nil => exact h.elim
    | cons l lk =>
      rename_i x d vs' ds'
      cases lk with
      | nil =>
        cases d with
        | lst es =>
          obtain ⟨p, vs, rfl, h1, r1⟩ := l.lst
          refine call_len_seq pins s σ H _ us Q I r ⟨p, vs, rfl, .inl h1, ?_⟩
          rw [r1.length]
          exact Post.int wo h
        | tup es =>
          obtain ⟨p, vs, rfl, h1, r1⟩ := l.tup
          refine call_len_seq pins s σ H _ us Q I r ⟨p, vs, rfl, .inr h1, ?_⟩
          rw [r1.length]
          exact Post.int wo h
        | str z =>
          obtain rfl := l.str
          simp only [biD] at h
          split at h
          · rename_i hz
            exact call_len_str pins s σ H _ us Q I r ⟨z, rfl, by rw [← line_eq]; exact hz, Post.int wo h⟩
          · exact h.elim
        | _ => exact h.elim
      | cons _ _ => cases d <;> exact h.elim
  | sum =>
    intro pins s σ H xs us Q I r h
    obtain ⟨w, ds, wo, lk, h⟩ := h
    cases lk with
    | nil => exact h.elim
    | cons l lk =>
      rename_i x d vs' ds'
      cases lk with
      | nil =>
        cases d with
        | lst es =>
          simp only [biD, optF] at h
          cases e : ints? es with
          | none => rw [e] at h; exact h.elim
          | some ns =>
            rw [e] at h
            obtain ⟨p, vs, rfl, h1, r1⟩ := l.lst
            rw [r1.ints e] at h1
            exact cr_sum hc pins s σ H _ us Q I r ⟨p, ns, rfl, h1, Post.int wo h⟩
        | _ => exact h.elim
      | cons _ _ => cases d <;> exact h.elim
  | all =>
    intro pins s σ H xs us Q I r h
    obtain ⟨w, ds, wo, lk, h⟩ := h
    cases lk with
    | nil => exact h.elim
    | cons l lk =>
      rename_i x d vs' ds'
      cases lk with
      | nil =>
        cases d with
        | lst es =>
          simp only [biD, optF] at h
          cases e : bools? es with
          | none => rw [e] at h; exact h.elim
          | some ns =>
            rw [e] at h
            obtain ⟨p, vs, rfl, h1, r1⟩ := l.lst
            rw [r1.bools e] at h1
            exact cr_all hc pins s σ H _ us Q I r ⟨p, ns, rfl, h1, Post.bl wo h⟩
        | _ => exact h.elim
      | cons _ _ => cases d <;> exact h.elim
  | any =>
    intro pins s σ H xs us Q I r h
    obtain ⟨w, ds, wo, lk, h⟩ := h
    cases lk with
    | nil => exact h.elim
    | cons l lk =>
      rename_i x d vs' ds'
      cases lk with
      | nil =>
        cases d with
        | lst es =>
          simp only [biD, optF] at h
          cases e : bools? es with
          | none => rw [e] at h; exact h.elim
          | some ns =>
            rw [e] at h
            obtain ⟨p, vs, rfl, h1, r1⟩ := l.lst
            rw [r1.bools e] at h1
            exact cr_any hc pins s σ H _ us Q I r ⟨p, ns, rfl, h1, Post.bl wo h⟩
        | _ => exact h.elim
      | cons _ _ => cases d <;> exact h.elim
  | tuple =>
    intro pins s σ H xs us Q I r h
    obtain ⟨w, ds, wo, lk, h⟩ := h
    cases lk with
    | nil => exact h.elim
    | cons l lk =>
      rename_i x d vs' ds'
      cases lk with
      | nil =>
        cases d with
        | lst es =>
          obtain ⟨p, vs, rfl, h1, r1⟩ := l.lst
          exact call_tuple_of pins s σ H _ us Q I r ⟨p, vs, rfl, .inl ⟨h1, Post.tup wo h r1⟩⟩
        | tup es =>
          obtain ⟨p, vs, rfl, h1, r1⟩ := l.tup
          exact call_tuple_of pins s σ H _ us Q I r ⟨p, vs, rfl, .inr ⟨h1, Post.tupH wo h (.tup h1 r1)⟩⟩
        | _ => exact h.elim
      | cons _ _ => cases d <;> exact h.elim
  | list =>
    intro pins s σ H xs us Q I r h
    obtain ⟨w, ds, wo, lk, h⟩ := h
    cases lk with
    | nil => exact h.elim
    | cons l lk =>
      rename_i x d vs' ds'
      cases lk with
      | nil =>
        cases d with
        | lst es =>
          obtain ⟨p, vs, rfl, h1, r1⟩ := l.lst
          exact call_list_of pins s σ H _ us Q I r ⟨p, vs, rfl, .inl h1, Post.lst wo h r1⟩
        | tup es =>
          obtain ⟨p, vs, rfl, h1, r1⟩ := l.tup
          exact call_list_of pins s σ H _ us Q I r ⟨p, vs, rfl, .inr h1, Post.lst wo h r1⟩
        | _ => exact h.elim
      | cons _ _ => cases d <;> exact h.elim
  | min1 =>
    intro pins s σ H xs us Q I r h
    obtain ⟨w, ds, wo, lk, h⟩ := h
    cases lk with
    | nil => exact h.elim
    | cons l lk =>
      rename_i x d vs' ds'
      cases lk with
      | nil =>
        cases d with
        | lst es =>
          simp only [biD, optF] at h
          cases e : ints? es with
          | none => rw [e] at h; exact h.elim
          | some ns =>
            rw [e] at h
            obtain ⟨p, vs, rfl, h1, r1⟩ := l.lst
            rw [r1.ints e] at h1
            cases e2 : ns.min? with
            | none => simp only [e2] at h; exact h.elim
            | some m =>
              simp only [e2] at h
              obtain ⟨g1, g2⟩ := List.min?_eq_some_iff.mp e2
              refine cr_min hc pins s σ H _ us Q I r ⟨p, ns, rfl, h1, List.length_pos_of_mem g1, fun z z1 z2 => ?_⟩
              obtain rfl : z = m := Int.le_antisymm (z2 m g1) (g2 z z1)
              exact Post.int wo h
        | _ => exact h.elim
      | cons _ _ => cases d <;> exact h.elim
  | max1 =>
    intro pins s σ H xs us Q I r h
    obtain ⟨w, ds, wo, lk, h⟩ := h
    cases lk with
    | nil => exact h.elim
    | cons l lk =>
      rename_i x d vs' ds'
      cases lk with
      | nil =>
        cases d with
        | lst es =>
          simp only [biD, optF] at h
          cases e : ints? es with
          | none => rw [e] at h; exact h.elim
          | some ns =>
            rw [e] at h
            obtain ⟨p, vs, rfl, h1, r1⟩ := l.lst
            rw [r1.ints e] at h1
            cases e2 : ns.max? with
            | none => simp only [e2] at h; exact h.elim
            | some m =>
              simp only [e2] at h
              obtain ⟨g1, g2⟩ := List.max?_eq_some_iff.mp e2
              refine cr_max hc pins s σ H _ us Q I r ⟨p, ns, rfl, h1, List.length_pos_of_mem g1, fun z z1 z2 => ?_⟩
              obtain rfl : z = m := Int.le_antisymm (g2 z z1) (z2 m g1)
              exact Post.int wo h
        | _ => exact h.elim
      | cons _ _ => cases d <;> exact h.elim
  | min2 =>
    intro pins s σ H xs us Q I r h
    obtain ⟨w, ds, wo, lk, h⟩ := h
    cases lk with
    | nil => exact h.elim
    | cons l lk =>
      rename_i x d vs' ds'
      cases lk with
      | nil => cases d <;> exact h.elim
      | cons l2 lk =>
        rename_i y e vs2 ds2
        cases lk with
        | nil =>
          cases d with
          | int i =>
            cases e with
            | int j =>
              obtain rfl := l.int
              obtain rfl := l2.int
              exact call_min2 hc pins s σ H _ us Q I r ⟨i, j, rfl, Post.int wo h⟩
            | _ => exact h.elim
          | _ => exact h.elim
        | cons _ _ =>
          cases d with
          | int i => cases e <;> exact h.elim
          | _ => exact h.elim
  | max2 =>
    intro pins s σ H xs us Q I r h
    obtain ⟨w, ds, wo, lk, h⟩ := h
    cases lk with
    | nil => exact h.elim
    | cons l lk =>
      rename_i x d vs' ds'
      cases lk with
      | nil => cases d <;> exact h.elim
      | cons l2 lk =>
        rename_i y e vs2 ds2
        cases lk with
        | nil =>
          cases d with
          | int i =>
            cases e with
            | int j =>
              obtain rfl := l.int
              obtain rfl := l2.int
              exact call_max2 hc pins s σ H _ us Q I r ⟨i, j, rfl, Post.int wo h⟩
            | _ => exact h.elim
          | _ => exact h.elim
        | cons _ _ =>
          cases d with
          | int i => cases e <;> exact h.elim
          | _ => exact h.elim
  | int1 =>
    intro pins s σ H xs us Q I r h
    obtain ⟨w, ds, wo, lk, h⟩ := h
    cases lk with
    | nil => exact h.elim
    | cons l lk =>
      rename_i x d vs' ds'
      cases lk with
      | nil =>
        cases d with
        | int i =>
          obtain rfl := l.int
          exact call_int1 pins s σ H _ us Q I r (.inl ⟨i, rfl, Post.int wo h⟩)
        | _ => exact h.elim
      | cons _ _ => cases d <;> exact h.elim
/-! ### isinstance -/
def tyS : Ty → String
  | .int => "int"
  | .bool => "bool"
  | .str => "str"
  | .tuple => "tuple"
  | .list => "list"
  | .dict => "dict"
def tyOf : D → String
  | .non => "NoneType"
  | .bl _ => "bool"
  | .int _ => "int"
  | .str _ => "str"
  | .tup _ => "tuple"
  | .lst _ => "list"
  | .dct _ => "dict"
  | .st => "dict"
theorem look_ty {K : PySem.W.Frag} {H : Hp} {w : Wd} {x : V} {d : D} (l : Look K H w x d) (ns : d ≠ .st) : TyX K H x (.type (tyOf d)) := by
  cases d with
  | non => obtain rfl := l.non; exact .base .non
  | bl b => obtain rfl := l.bl; exact .base (.bl b)
  | int b => obtain rfl := l.int; exact .base (.int b)
  | str b => obtain rfl := l.str; exact .base (.str b)
  | tup b =>
    obtain ⟨p, vs, rfl, h, _⟩ := l.tup
    rcases h with (h | ⟨o, h⟩) | ⟨o, its, n, h, hc, _⟩
    · exact .base (.tup h)
    · exact .fTuple h
    · exact .kTuple h hc
  | lst b =>
    obtain ⟨p, vs, rfl, h, _⟩ := l.lst
    rcases h with (h | ⟨o, h⟩) | ⟨o, its, n, h, hc, _⟩
    · exact .base (.lst h)
    · exact .base (.frz h)
    · exact .kList h hc
  | dct b =>
    rcases l with l | ⟨_, _, _, _, z, _⟩
    · cases l
    · cases z
  | st => exact absurd rfl ns
theorem cr_isi (t : Ty) : CallR X (.builtin "isinstance") (fun vs H Q => ∃ w x d, WOk X.K H w ∧ vs = [x, .ty (tyS t)] ∧ Look X.K H w x d ∧ (isiD t d w.S).wp (PostB X.K H w Q) NoX) := by
  intro pins s σ H xs us Q I r h
  obtain ⟨w, x, d, wo, rfl, l, h⟩ := h
  have ns : d ≠ .st := fun e => by subst e; cases t <;> exact h.elim
  have ty := look_ty l ns
  have fin : ∀ b, (isiD t d) = pure b → PySem.W.kitOne X.K (.type (tyOf d)) (.type (tyS t)) = some b → wpAny (model X.prog X.w) X.A (call (.builtin "isinstance") us) (EP X pins σ Q) X.xe s := fun b e k => by
    rw [e] at h
    exact call_isi pins s σ H _ us Q I r ⟨x, _, _, _, b, rfl, .ty _, ty, k, h rfl⟩
  cases t <;> cases d <;> first
    | exact absurd rfl ns
    | exact fin true rfl (kit_ty (by simp only [tyOf, tyS]; decide +kernel))
    | exact fin false rfl (kit_ty (by simp only [tyOf, tyS]; decide +kernel))
end
end DE

/-! DEiter: enumerate of a tuple; what loops walk, by values. -/
namespace DE
open PySem PySem.Spec PyProof.Rows L2 PySem.Calls

set_option maxHeartbeats 1000000 in
theorem meets_enum1 {v : Value} {o : Obj} {HH : Heap → Prop} (B : Begins v o HH) :
    Meets (Builtin.«enumerate.__new__» ⟨[.type "enumerate", v], []⟩) (fun _ R s => HH s.heap ∧
      R (.ok (.ret (.ref (s.heap.push o).objs.size))) { s with heap := (s.heap.push o).push { cls := .type "enumerate", data := .fields #[.none, .bool false, .ref s.heap.objs.size, rawInt 0, .none, .none] } }) :=
  .of_wp fun prog w A R s hh => by
    obtain ⟨hp, g, d, tk, os⟩ := s
    obtain ⟨h1, hh⟩ := hh
    have hsub := sub_enumerate
    have q1 : ∀ {A' : Around} {E : Value → Shared → Prop} {Q : Value → Shared → Prop}, Q (.ref hp.objs.size) ⟨hp.push o, g, d, tk, os⟩ → wpAny (model prog w) A' (pyIter v) Q E ⟨hp, g, d, tk, os⟩ :=
      fun q => B.iter prog w _ _ ⟨hp, g, d, tk, os⟩ _ h1 q
    wp_walk
    refine wpAny_stack_any fun st => wpAny_pure ?_
    split
    · rename_i c _ _ _ _ _
      cases (c == Value.type "enumerate")
      · wp_walk using q1
        exact ⟨_, rfl, hh⟩
      · wp_walk using q1
        exact ⟨_, rfl, hh⟩
    · wp_walk using q1
      exact ⟨_, rfl, hh⟩
section
variable {prog : Program} {w : World} {A : Around} {E : Value → Shared → Prop} {s : Shared}
theorem enum1_begins {v : Value} {o : Obj} {HH : Heap → Prop} {Q : Value → Shared → Prop} (B : Begins v o HH) (h1 : HH s.heap)
    (h : ∀ h', IsEnum h' (s.heap.objs.size + 1) s.heap.objs.size 0 .none → h'.get? s.heap.objs.size = some o → (∀ b u, s.heap.get? b = some u → h'.get? b = some u) → Q (.ref (s.heap.objs.size + 1)) { s with heap := h' }) :
    wpAny (model prog w) A (call (.type "enumerate") [v]) Q E s := by
  refine callType_new F.called_enumerate (by decide) (F.typeCall_enumerate_1 _) (F.newCall_enumerate_1 _) (fun obj => F.args_object_init_2 obj _) F.entry_enumerate_new (meets_enum1 B) ⟨h1, ?_⟩
  have hz : (s.heap.push o).objs.size = s.heap.objs.size + 1 := Heap.size_push ..
  show _ ∧ _
  rw [hz]
  have he : IsEnum ((s.heap.push o).push { cls := .type "enumerate", data := .fields #[.none, .bool false, .ref s.heap.objs.size, rawInt 0, .none, .none] }) (s.heap.objs.size + 1) s.heap.objs.size 0 .none := by
    have q := Heap.get?_push_size (s.heap.push o) (o := { cls := .type "enumerate", data := .fields #[.none, .bool false, .ref s.heap.objs.size, rawInt 0, .none, .none] }) rfl
    rw [hz] at q
    exact q
  exact ⟨⟨_, he, rfl⟩, h _ he (Heap.get?_push_of_some _ (Heap.get?_push_size _ B.free)) fun b u q => Heap.get?_push_of_some _ (Heap.get?_push_of_some _ q)⟩
end
/-- a tuple's items, each in a new pair with its number -/
def IteT (K : PySem.W.Frag) (a : Addr) : It :=
  ⟨fun i H => ∃ (xs : List V) (x : V), SqT K H a xs ∧ xs[i]? = some x, fun i H v H' => ∃ T x, v = .ref T ∧ H T = none ∧ H' = upd H T (.tup [.int (i : Nat), x]) ∧ ∀ xs, SqT K H a xs → xs[i]? = some x, fun i H => ∃ xs : List V, SqT K H a xs ∧ xs.length ≤ i⟩
theorem apart_cls {h : Heap} {a b : Addr} {o u : Obj} {S T : String} (h1 : h.get? a = some o) (h2 : o.cls = .type S) (h3 : h.get? b = some u) (h4 : u.cls = .type T) (n : S ≠ T) : a ≠ b := by
  rintro rfl
  rw [h1] at h3
  cases h3
  rw [h2] at h4
  exact n (by injection h4)
theorem turn_enumT {P : Program} {w : World} {K : PySem.W.Frag} {elts : List Expr} {kk : Nat} {tpos : Pos} (a e it : Addr) :
    Turn P w K (.Tuple elts kk tpos) (IteT K a) [e, it] e (fun i h => (∃ old, IsEnum h e it ((i : Nat) : Int) old) ∧ h.IsTupleIter it a i ∧ e ≠ it) where
  mem := by simp
  obj := fun i h st b hb => by
    obtain ⟨⟨old, he⟩, ⟨o, ho, hc, hd⟩, _⟩ := st
    rcases (show b = e ∨ b = it by simpa using hb) with rfl | rfl
    · exact ⟨_, he, fun v q => nomatch q⟩
    · exact ⟨o, ho, fun v q => by rw [hd] at q; cases q⟩
  keep := fun i h h' st k => by
    obtain ⟨⟨old, he⟩, hi, ne⟩ := st
    exact ⟨⟨old, k e (by simp) _ he⟩, hi.at fun o q => k it (by simp) o q, ne⟩
  item := by
    intro X hP hw hK hc i pins s σ H E I hf st hg
    subst hP hw hK
    obtain ⟨⟨old, he⟩, hit, ne⟩ := st
    obtain ⟨xs, x, hq, hx⟩ := hg
    obtain ⟨its, rv, p, hz⟩ := I.tuple hq
    obtain ⟨u, hu, ru⟩ := rv.get hx
    have hel : e < s.heap.objs.size := Heap.lt_size he
    obtain ⟨oi, hoi, hci, hdi⟩ := id hit
    obtain ⟨ot, hot, hct, _⟩ := id p
    have hil : it < s.heap.objs.size := Heap.lt_size hoi
    have n1 : a ≠ it := apart_cls hot hct hoi hci (by decide)
    have n2 : a ≠ e := apart_cls hot hct he rfl (by decide)
    have hi : i < its.toArray.size := by
      rw [List.size_toArray]
      exact (List.getElem?_eq_some_iff.mp hu).1
    refine wpAny_pyNext_enum_itemD (Draws.tuple (A := X.A.in1) (I.ok.hd hc) it a n1 its.toArray) he ⟨hit, p⟩ hi ne (by simp only [List.mem_cons, List.not_mem_nil, or_false, not_or]; exact ⟨ne, Ne.symm n2⟩) fun x' h' tk hx' ho hs' hT hsz hk => ?_
    have ex : x' = u := by
      have q : its[i]? = some x' := by simpa using hx'
      rw [hu] at q
      exact (Option.some.inj q).symm
    subst ex
    refine ⟨_, rfl, wpAny_letOwnedTupleGo_enum (s := { s with heap := h', toks := tk + 1 }) ho fun h'' he' sb => ?_⟩
    have hT2 : h''.get? s.heap.objs.size = some { cls := .type "tuple", data := .seq #[.int i tk, x'] } := (sb.2 _ (Nat.ne_of_gt hel)).trans hT
    have new : ObjOk X.prog X.w (upd H s.heap.objs.size (.tup [.int (i : Nat), x])) h'' s.heap.objs.size (.tup [.int (i : Nat), x]) :=
      ⟨by show 2 ≤ sizeLine; decide, [.int i tk, x'], .cons ⟨_, rfl⟩ (.cons ru .nil), ⟨_, hT2, rfl, _, rfl⟩⟩
    have I1 : Inv X pins σ (upd H s.heap.objs.size (.tup [.int (i : Nat), x])) { s with heap := h'', toks := tk + 1 } :=
      I.turnedNew (ch := [e, it]) (fun b ob hb q => (sb.2 b (fun z => hb (by simp [z]))).trans (hk b ob (fun z => hb (by simp [z])) (fun z => hb (by simp [z])) q)) hf (Nat.le_refl _) new
    refine ⟨.ref s.heap.objs.size, _, I1, rfl, ⟨_, x, rfl, I.hok.fresh (Nat.le_refl _), rfl, fun ys hy => by rw [I.tuple_inj hy hq]; exact hx⟩, ⟨⟨x', ?_⟩, hs'.1.at fun o q => (sb.2 it (Ne.symm ne)).trans q, ne⟩, fun b hb => ?_⟩
    · have e1 : ((i + 1 : Nat) : Int) = (i : Int) + 1 := by omega
      rw [e1]
      exact he'
    · have hb' : b < s.heap.objs.size := by
        rcases (show b = e ∨ b = it by simpa using hb) with rfl | rfl
        · exact hel
        · exact hil
      rw [upd_ne (Nat.ne_of_lt hb')]
      exact (hf b hb).1
  done := by
    intro X hP hw hK hc i pins s σ H E I hf st hg
    subst hP hw hK
    obtain ⟨⟨old, he⟩, hit, ne⟩ := st
    obtain ⟨xs, hq, hx⟩ := hg
    obtain ⟨its, rv, p, hz⟩ := I.tuple hq
    obtain ⟨f0, f1, f2, f3, f4, f5⟩ := hf it (by simp)
    obtain ⟨oi, hoi, hci, hdi⟩ := id hit
    obtain ⟨ot, hot, hct, _⟩ := id p
    have hl := rv.length
    have D : Draws X.prog X.w X.A.in1 it [it, a] i (fun _ _ => False) (fun j h => j = i ∧ h.IsTupleIter it a i ∧ h.IsTuple a its.toArray) :=
      ⟨fun _ _ st => let ⟨o, ho, _⟩ := st.2.1; ⟨o, ho⟩, fun j h h' st hk => ⟨st.1, st.2.1.at fun o e => hk it (by simp) o e, st.2.2.at fun o e => hk a (by simp) o e⟩,
        fun j s Q E hi st hQ => absurd st.1 (by omega), fun s Q E st hE => wpAny_nextOf_tuple_end (A := X.A.in1) (I.ok.hd hc) st.2.1 st.2.2 (by simp; omega) hE⟩
    exact wpAny_pyNext_enum_endD D he ⟨rfl, hit, p⟩ fun h' eb => ⟨rfl, I.turned (t' := s.toks) (fun b o hb q => eb b o hb q) f0 f1 f3 f4 f5⟩
  self := fun A i s Q E st h => let ⟨⟨_, he⟩, _⟩ := st; wpAny_pyIter_enum he h

/-! ### what a source yields -/
/-- J yields things that stand for ds, whatever happens meanwhile to what is not theirs -/
def JIs (K : PySem.W.Frag) (H1 : Hp) (w1 : Wd) (P : Hp → Prop) (J : It) (ds : List D) : Prop := ∀ H w, Mono H1 w1 H w → P H → WOk K H w →
  (∀ (i : Nat) d, ds[i]? = some d → J.go i H ∧ ∀ x H', J.yld i H x H' → ∃ w', w'.S = w.S ∧ Ext H w H' w' ∧ WOk K H' w' ∧ Rp K H' w' x d) ∧ ∀ i : Nat, ds.length ≤ i → J.stop i H
section
variable {K : PySem.W.Frag} {H1 : Hp} {w1 : Wd} {P : Hp → Prop}
/-- all that stood stays -/
def Keep (H1 : Hp) (w1 : Wd) (H : Hp) : Prop := ∀ a o, H1 a = some o → (∀ ps, o ≠ .tbl ps) → ¬ box w1 a → H a = some o
/-- the list at a stays as long as P -/
def StP (K : PySem.W.Frag) (H1 : Hp) (w1 : Wd) (P : Hp → Prop) (a : Addr) (vs : List V) : Prop := ∀ H w, Mono H1 w1 H w → P H → SqL K H a vs
theorem Stays.stp {a : Addr} {vs : List V} (h : Stays K H1 w1 a vs) : StP K H1 w1 P a vs := fun _ _ e _ => (h.mono e).sq
theorem stp_keep {a : Addr} {vs : List V} (h : H1 a = some (.lst vs)) (nb : ¬ box w1 a) (hp : ∀ H, P H → Keep H1 w1 H) : StP K H1 w1 P a vs := fun H _ _ p => .of (hp H p a _ h lstT nb)
theorem JIs.weak {J : It} {ds : List D} {P' : Hp → Prop} (h : JIs K H1 w1 P J ds) (i : ∀ H, P' H → P H) : JIs K H1 w1 P' J ds := fun H w e p wo => h H w e (i H p) wo
theorem jis_list {a : Addr} {vs : List V} {ds : List D} (h : StP K H1 w1 P a vs) (r : RpL K H1 w1 vs ds) : JIs K H1 w1 P (Itl K a) ds := fun H w e pp wo => by
  have h' := h H w e pp
  have r' := r.mono e
  refine ⟨fun i d hd => ?_, fun i hi => ⟨vs, h', by rw [r.length]; exact hi⟩⟩
  obtain ⟨v, hv, rv⟩ := r'.get hd
  refine ⟨⟨vs, v, h', hv⟩, fun x H' y => ?_⟩
  obtain ⟨rfl, y⟩ := y
  have q := y vs h'
  rw [hv] at q
  obtain rfl := Option.some.inj q
  exact ⟨w, rfl, Ext.refl _ _, wo, rv⟩
theorem jis_tup {a : Addr} {vs : List V} {ds : List D} (h : SqT K H1 a vs) (r : RpL K H1 w1 vs ds) : JIs K H1 w1 P (Itt K a) ds := fun H w e pp wo => by
  have h' := SqT.mono e h
  have r' := r.mono e
  refine ⟨fun i d hd => ?_, fun i hi => ⟨vs, h', by rw [r.length]; exact hi⟩⟩
  obtain ⟨v, hv, rv⟩ := r'.get hd
  refine ⟨⟨vs, v, h', hv⟩, fun x H' y => ?_⟩
  obtain ⟨rfl, y⟩ := y
  have q := y vs h'
  rw [hv] at q
  obtain rfl := Option.some.inj q
  exact ⟨w, rfl, Ext.refl _ _, wo, rv⟩
theorem rp_pair {H : Hp} {w : Wd} {T : Addr} {x y : V} {d e : D} (wo : WOk K H w) (hT : H T = none) (a : Rp K H w x d) (b : Rp K H w y e) : Rp K (upd H T (.tup [x, y])) w (.ref T) (.tup [d, e]) :=
  .tup (.of upd_same) (.cons (a.ext wo (Ext.laid hT)) (.cons (b.ext wo (Ext.laid hT)) .nil))
theorem enumD_get : ∀ {ds : List D} {n i : Nat} {d : D}, (enumD n ds)[i]? = some d → ∃ e, ds[i]? = some e ∧ d = .tup [.int (n + i : Nat), e]
  | [], _, _, _, h => by simp [enumD] at h
  | x :: xs, n, 0, d, h => by
    simp only [enumD, List.getElem?_cons_zero, Option.some.injEq] at h
    exact ⟨x, rfl, h.symm⟩
  | x :: xs, n, i + 1, d, h => by
    simp only [enumD, List.getElem?_cons_succ] at h
    obtain ⟨e, h1, h2⟩ := enumD_get h
    refine ⟨e, by simpa using h1, ?_⟩
    rw [h2, show n + 1 + i = n + (i + 1) by omega]
theorem enumD_length : ∀ (ds : List D) (n : Nat), (enumD n ds).length = ds.length
  | [], _ => rfl
  | x :: xs, n => by simp [enumD, enumD_length xs]
theorem jis_enum {a : Addr} {vs : List V} {ds : List D} (h : StP K H1 w1 P a vs) (r : RpL K H1 w1 vs ds) : JIs K H1 w1 P (Ite K a) (enumD 0 ds) := fun H w e pp wo => by
  have h' := h H w e pp
  have r' := r.mono e
  refine ⟨fun i d hd => ?_, fun i hi => ⟨vs, h', by rw [r.length]; rw [enumD_length] at hi; exact hi⟩⟩
  obtain ⟨e, he, rfl⟩ := enumD_get hd
  obtain ⟨v, hv, rv⟩ := r'.get he
  refine ⟨⟨vs, v, h', hv⟩, fun x H' y => ?_⟩
  obtain ⟨T, z, rfl, hT, rfl, y⟩ := y
  have q := y vs h'
  rw [hv] at q
  obtain rfl := Option.some.inj q
  exact ⟨w, rfl, Ext.laid hT, wo.laid hT, rp_pair wo hT (by rw [Nat.zero_add]; exact .int _) rv⟩
theorem jis_enumT {a : Addr} {vs : List V} {ds : List D} (h : SqT K H1 a vs) (r : RpL K H1 w1 vs ds) : JIs K H1 w1 P (IteT K a) (enumD 0 ds) := fun H w e pp wo => by
  have h' := SqT.mono e h
  have r' := r.mono e
  refine ⟨fun i d hd => ?_, fun i hi => ⟨vs, h', by rw [r.length]; rw [enumD_length] at hi; exact hi⟩⟩
  obtain ⟨e, he, rfl⟩ := enumD_get hd
  obtain ⟨v, hv, rv⟩ := r'.get he
  refine ⟨⟨vs, v, h', hv⟩, fun x H' y => ?_⟩
  obtain ⟨T, z, rfl, hT, rfl, y⟩ := y
  have q := y vs h'
  rw [hv] at q
  obtain rfl := Option.some.inj q
  exact ⟨w, rfl, Ext.laid hT, wo.laid hT, rp_pair wo hT (by rw [Nat.zero_add]; exact .int _) rv⟩
theorem zip_get {ds es : List D} {i : Nat} {d : D} (h : ((ds.zip es).map fun p => D.tup [p.1, p.2])[i]? = some d) : ∃ a b, ds[i]? = some a ∧ es[i]? = some b ∧ d = .tup [a, b] := by
  rw [List.getElem?_map, Option.map_eq_some_iff] at h
  obtain ⟨⟨a, b⟩, h1, rfl⟩ := h
  obtain ⟨h2, h3⟩ := List.getElem?_zip_eq_some.mp h1
  exact ⟨a, b, h2, h3, rfl⟩
theorem jis_zip {a b : Addr} {vs us : List V} {ds es : List D} (h : StP K H1 w1 P a vs) (r : RpL K H1 w1 vs ds) (g : StP K H1 w1 P b us) (q : RpL K H1 w1 us es) : JIs K H1 w1 P (Itz K a b) ((ds.zip es).map fun p => .tup [p.1, p.2]) := fun H w e pp wo => by
  have h' := h H w e pp
  have r' := r.mono e
  have g' := g H w e pp
  have q' := q.mono e
  refine ⟨fun i d hd => ?_, fun i hi => ⟨vs, us, h', g', by rw [r.length, q.length]; simp only [List.length_map, List.length_zip] at hi; omega⟩⟩
  obtain ⟨x, y, hx, hy, rfl⟩ := zip_get hd
  obtain ⟨v, hv, rv⟩ := r'.get hx
  obtain ⟨u, hu, ru⟩ := q'.get hy
  refine ⟨⟨vs, us, v, u, h', g', hv, hu⟩, fun x H' y => ?_⟩
  obtain ⟨T, z1, z2, rfl, hT, rfl, y1, y2⟩ := y
  have p1 := y1 vs h'
  rw [hv] at p1
  obtain rfl := Option.some.inj p1
  have p2 := y2 us g'
  rw [hu] at p2
  obtain rfl := Option.some.inj p2
  exact ⟨w, rfl, Ext.laid hT, wo.laid hT, rp_pair wo hT rv ru⟩
theorem jis_zipT {a b : Addr} {vs us : List V} {ds es : List D} (h : SqT K H1 a vs) (r : RpL K H1 w1 vs ds) (g : SqT K H1 b us) (q : RpL K H1 w1 us es) : JIs K H1 w1 P (RZ.ItzT K a b) ((ds.zip es).map fun p => .tup [p.1, p.2]) := fun H w e pp wo => by
  have h' := SqT.mono e h
  have r' := r.mono e
  have g' := SqT.mono e g
  have q' := q.mono e
  refine ⟨fun i d hd => ?_, fun i hi => ⟨vs, us, h', g', by rw [r.length, q.length]; simp only [List.length_map, List.length_zip] at hi; omega⟩⟩
  obtain ⟨x, y, hx, hy, rfl⟩ := zip_get hd
  obtain ⟨v, hv, rv⟩ := r'.get hx
  obtain ⟨u, hu, ru⟩ := q'.get hy
  refine ⟨⟨vs, us, v, u, h', g', hv, hu⟩, fun x H' y => ?_⟩
  obtain ⟨T, z1, z2, rfl, hT, rfl, y1, y2⟩ := y
  have p1 := y1 vs h'
  rw [hv] at p1
  obtain rfl := Option.some.inj p1
  have p2 := y2 us g'
  rw [hu] at p2
  obtain rfl := Option.some.inj p2
  exact ⟨w, rfl, Ext.laid hT, wo.laid hT, rp_pair wo hT rv ru⟩
theorem jis_range {lo : Int} {n : Nat} : JIs K H1 w1 P (Itr lo n) ((List.range n).map fun (k : Nat) => D.int (lo + (k : Int))) := fun H w e pp wo => by
  refine ⟨fun i d hd => ?_, fun i hi => (by simpa using hi : n ≤ i)⟩
  rw [List.getElem?_map, Option.map_eq_some_iff] at hd
  obtain ⟨k, hk, rfl⟩ := hd
  obtain ⟨hi, rfl⟩ : i < n ∧ i = k := by
    rw [List.getElem?_eq_some_iff] at hk
    obtain ⟨h1, h2⟩ := hk
    simp only [List.length_range] at h1
    simp only [List.getElem_range] at h2
    exact ⟨h1, h2⟩
  refine ⟨hi, fun x H' y => ?_⟩
  obtain ⟨rfl, rfl⟩ := y
  exact ⟨w, rfl, Ext.refl _ _, wo, .int _⟩
end
end DE

/-! DEexpr: terms against the text, and what the text then does. -/
namespace DE
open PySem PySem.Spec PyProof.Rows L2

/-! ### is the text this term? -/
structure FnT where
  name : Str
  ar : Nat
  own : Bool
  /-- it makes lambdas -/
  lm : Bool
  /-- it, or what it calls, asks for repr -/
  gd : Bool
structure Tab where
  fn : List FnT
  gl : List Str
  /-- errors, the defs that catch them -/
  xt : Xt
  /-- lambdas may be made -/
  lm : Bool
  /-- repr may be asked for -/
  gd : Bool
  /-- the module's tables by words -/
  tbs : List (Str × List (Str × Int))
def Tab.noLm (T : Tab) : Tab := { T with lm := false, gd := false }
def vis (sc : Scope) (x : Str) : Bool := match sc.names.lookup x with
  | some .local => true
  | some .cell => true
  | some .free => true
  | _ => false
def isGl (sc : Scope) (x : Str) : Bool := decide (sc.names.lookup x = some .globalImplicit)
def okName (x : Str) : Bool := !(x == ("__debug__" : Str)) && !(x == ("__classdict__" : Str)) && decide (x ≠ ("__name__" : Str))
def biN : Bi → Str
  | .len => "len"
  | .sum => "sum"
  | .all => "all"
  | .any => "any"
  | .sorted => "sorted"
  | .tuple => "tuple"
  | .list => "list"
  | .min1 => "min"
  | .max1 => "max"
  | .min2 => "min"
  | .max2 => "max"
  | .int1 => "int"
  | .repr => "repr"
def tyN : Ty → Str
  | .int => "int"
  | .bool => "bool"
  | .str => "str"
  | .tuple => "tuple"
  | .list => "list"
  | .dict => "dict"
def mCst : Cst → Const → Bool
  | .non, .none => true
  | .bl a, .bool b => decide (a = b)
  | .int i, .int j => decide (i = j)
  | .str x, .str y => decide (x = y)
  | _, _ => false
def notStar : Expr → Bool
  | .Starred .. => false
  | _ => true
def notSlice : Expr → Bool
  | .Slice .. => false
  | _ => true
def notSet : Expr → Bool
  | .Set .. => false
  | _ => true
def locB (L : List (Str × NameKind)) (x : Str) : Bool := match L.lookup x with
  | some .local => true
  | some .cell => true
  | _ => false
def mNames (N : List Str) (L : List (Str × NameKind)) : List Nat → List Expr → Bool
  | [], [] => true
  | i :: is, .Name x _ :: es => decide (N[i]? = some x) && locB L x && mNames N L is es
  | _, _ => false
def mTg (N : List Str) (L : List (Str × NameKind)) : Tg → Expr → Bool
  | .v i, .Name x _ => decide (N[i]? = some x) && locB L x
  | .tup is, .Tuple es _ _ => mNames N L is es
  | _, _ => false
def ownOf (N : List Str) (is : List Nat) : List (Str × Nat) := is.map fun i => (N.getD i "", i)
def isTup : Expr → Bool
  | .Tuple .. => true
  | _ => false

def dName : Expr → Option (Str × Pos)
  | .Name x p => some (x, p)
  | _ => none
theorem dName_eq {e x p} (h : dName e = some (x, p)) : e = .Name x p := by
  unfold dName at h; split at h <;> cases h; rfl
/-- o is there, and q holds of it -/
def has {α : Type} (o : Option α) (q : α → Bool) : Bool := match o with
  | some a => q a
  | none => false
theorem has_ex {α : Type} {o : Option α} {q : α → Bool} (h : has o q = true) : ∃ a, o = some a ∧ q a = true := by
  cases o with
  | none => cases h
  | some a => exact ⟨a, rfl, h⟩
/-- the name of slot i, to be read -/
def isVar (N : List Str) (sc : Scope) (i : Nat) (e : Expr) : Bool := has (dName e) fun (x, _) => decide (N[i]? = some x) && vis sc x && okName x
def dKey : Expr → Option (Expr × Str)
  | .Subscript o (.Constant (.str s) _ _) _ => some (o, s)
  | _ => none
theorem dKey_eq {e o s} (h : dKey e = some (o, s)) : ∃ j p2 p, e = .Subscript o (.Constant (.str s) j p2) p := by
  unfold dKey at h
  split at h <;> cases h
  exact ⟨_, _, _, rfl⟩
def dSub : Expr → Option (Expr × Expr)
  | .Subscript o i _ => some (o, i)
  | _ => none
theorem dSub_eq {e o i} (h : dSub e = some (o, i)) : ∃ p, e = .Subscript o i p := by
  unfold dSub at h
  split at h <;> cases h
  exact ⟨_, rfl⟩
/-- {'cells': a, 'lefts': b, 'at': 0, 'room': 0} -/
def dSt : Expr → Option (Expr × Expr)
  | .Dict [some (.Constant (.str s1) _ _), some (.Constant (.str s2) _ _), some (.Constant (.str s3) _ _), some (.Constant (.str s4) _ _)] [a, b, .Constant (.int i3) _ _, .Constant (.int i4) _ _] _ =>
    if s1 = ("cells" : Str) ∧ s2 = ("lefts" : Str) ∧ s3 = ("at" : Str) ∧ s4 = ("room" : Str) ∧ i3 = 0 ∧ i4 = 0 then some (a, b) else none
  | _ => none
theorem dSt_eq {e a b} (h : dSt e = some (a, b)) : ∃ j1 p1 j2 p2 j3 p3 j4 p4 j5 p5 j6 p6 p, e = .Dict [some (.Constant (.str "cells") j1 p1), some (.Constant (.str "lefts") j2 p2), some (.Constant (.str "at") j3 p3), some (.Constant (.str "room") j4 p4)] [a, b, .Constant (.int 0) j5 p5, .Constant (.int 0) j6 p6] p := by
  unfold dSt at h
  split at h
  · split at h
    · rename_i q
      obtain ⟨rfl, rfl, rfl, rfl, rfl, rfl⟩ := q
      cases h
      exact ⟨_, _, _, _, _, _, _, _, _, _, _, _, _, rfl⟩
    · cases h
  · cases h
/-- x(lambda: e) -/
def dLam : Expr → Option (Str × Arguments × Expr × Scope)
  | .Call (.Name x _) [.Lambda ps e sc _] [] _ => some (x, ps, e, sc)
  | _ => none
theorem dLam_eq {u x ps e sc} (h : dLam u = some (x, ps, e, sc)) : ∃ p q r, u = .Call (.Name x p) [.Lambda ps e sc q] [] r := by
  unfold dLam at h
  split at h <;> cases h
  exact ⟨_, _, _, rfl⟩
/-- x.m(e) -/
def dGet : Expr → Option (Str × Str × Pos × Expr × Pos)
  | .Call (.Attribute (.Name y _) m ap) [a] [] cp => some (y, m, ap, a, cp)
  | _ => none
theorem dGet_eq {u y m ap a cp} (h : dGet u = some (y, m, ap, a, cp)) : ∃ p, u = .Call (.Attribute (.Name y p) m ap) [a] [] cp := by
  unfold dGet at h
  split at h <;> cases h
  exact ⟨_, rfl⟩
/-- x(y(e)) -/
def dSd : Expr → Option (Str × Str × Expr)
  | .Call (.Name x _) [.Call (.Name y _) [a] [] _] [] _ => some (x, y, a)
  | _ => none
theorem dSd_eq {u x y a} (h : dSd u = some (x, y, a)) : ∃ p1 p2 q2 q1, u = .Call (.Name x p1) [.Call (.Name y p2) [a] [] q2] [] q1 := by
  unfold dSd at h
  split at h <;> cases h
  exact ⟨_, _, _, _, rfl⟩
/-- e[::-1] -/
def dRev : Expr → Option Expr
  | .Subscript e (.Slice none none (some (.UnaryOp .USub (.Constant (.int i) _ _) _)) _) _ => if i = 1 then some e else none
  | _ => none
theorem dRev_eq {u e} (h : dRev u = some e) : ∃ p p2 p3 j p4, u = .Subscript e (.Slice none none (some (.UnaryOp .USub (.Constant (.int 1) j p4) p3)) p2) p := by
  unfold dRev at h
  split at h
  · split at h
    · rename_i q
      subst q
      cases h
      exact ⟨_, _, _, _, _, rfl⟩
    · cases h
  · cases h
def hvOne : Hv → Bool
  | .one (.fld _) => true
  | .one (.str _) => false
  | .lst hs => decide (100 < hs.length)
  | .tup hs => decide (100 < hs.length)
def noPar : Arguments → Bool
  | ⟨[], [], none, [], [], none, []⟩ => true
  | _ => false
/-- a new list that nobody else knows (or no list) -/
def fresh (T : Tab) : E → Bool
  | .bin _ _ _ => true
  | .slice _ _ _ => true
  | .lst _ => true
  | .comp _ _ _ _ => true
  | .comp2 _ _ _ _ _ _ _ => true
  | .bi _ _ => true
  | .sdict _ => true
  | .rev _ => true
  | .call f _ => match T.fn[f]? with
    | some F => F.own
    | none => false
  | .lam t _ b => match T.xt.tds[t]? with
    | some p => (match p.kind with
      | .same => fresh T b
      | _ => true)
    | none => false
  | .ife _ a b => fresh T a && fresh T b
  | .cst _ => true
  | _ => false
mutual
def mE (T : Tab) (N : List Str) (sc : Scope) : E → Expr → Bool
  | .var i, .Name x _ => decide (N[i]? = some x) && vis sc x && okName x
  | .cst c, .Constant v _ _ => mCst c v
  | .glob g, .Name x _ => decide (T.gl[g]? = some x) && isGl sc x && okName x
  | .neg a, .UnaryOp .USub a' _ => mE T N sc a a'
  | .not a, .UnaryOp .Not a' _ => mE T N sc a a'
  | .bin op a b, .BinOp a' op' b' _ => decide (op' = bopA op) && mE T N sc a a' && mE T N sc b b'
  | .cmp op a b, .Compare a' [op'] [b'] _ => decide (op' = copA op) && !behindInMarks op' b' && mE T N sc a a' && mE T N sc b b'
  | .chain o1 o2 a b e, .Compare a' [p1, p2] [b', e'] _ => decide (p1 = copA o1) && decide (p2 = copA o2) && !lastMarks [p1, p2] [b', e'] && mE T N sc a a' && mE T N sc b b' && mE T N sc e e'
  | .and a b, .BoolOp .And (v :: u :: rest) pos => mE T N sc a v && (match rest with
    | [] => mE T N sc b u
    | _ :: _ => mE T N sc b (.BoolOp .And (u :: rest) pos))
  | .or a b, .BoolOp .Or (v :: u :: rest) pos => mE T N sc a v && (match rest with
    | [] => mE T N sc b u
    | _ :: _ => mE T N sc b (.BoolOp .Or (u :: rest) pos))
  | .ife t a b, .IfExp t' a' b' _ => mE T N sc t t' && mE T N sc a a' && mE T N sc b b'
  | .call f as, .Call (.Name x _) (e :: es) [] _ => (match T.fn[f]? with
    | some F => decide (F.name = x) && decide ((e :: es).length = F.ar) && (!F.gd || T.gd)
    | none => false) && isGl sc x && okName x && mEs T N sc as (e :: es)
  | .lam t _ b, u => has (dLam u) fun (x, ps, e, scope) => T.lm && (match T.xt.tds[t]? with
    | some p => decide (p.nm = x) && p.hs.all fun h => !hvOne h.v
    | none => false) && isGl sc x && okName x && noPar ps && LamX.lamSB sc scope && mE T.noLm N scope b e
  | .bi b as, .Call (.Name x _) (e :: es) [] _ => decide (x = biN b) && (!gdB b || T.gd) && isGl sc x && mEs T N sc as (e :: es)
  | .isi a t, .Call (.Name x _) [a', .Name y _] [] _ => decide (x = ("isinstance" : Str)) && isGl sc x && decide (y = tyN t) && isGl sc y && notStar a' && mE T N sc a a'
  | .sub a b, .Subscript a' b' _ => notSlice b' && mE T N sc a a' && mE T N sc b b'
  | .slice a lo hi, .Subscript a' (.Slice lo' hi' none _) _ => mE T N sc a a' && mO T N sc lo lo' && mO T N sc hi hi'
  | .stAt i, e => has (dKey e) fun (o, s) => decide (s = ("at" : Str)) && isVar N sc i o
  | .stCells i, e => has (dKey e) fun (o, s) => decide (s = ("cells" : Str)) && isVar N sc i o
  | .stLeft i a, e => has (dSub e) fun (u, i') => has (dKey u) fun (o, s) => decide (s = ("lefts" : Str)) && isVar N sc i o && notSlice i' && mE T N sc a i'
  | .mkSt a b, e => has (dSt e) fun (u, v) => fresh T b && mE T N sc a u && mE T N sc b v
  | .gget x kvs a, u => has (dGet u) fun (y, m, ap, a', cp) => decide (y = x) && decide (m = ("get" : Str)) && T.tbs.contains (x, kvs) && isGl sc x && okName x && (ap.endLine == cp.line) && notStar a' && mE T N sc a a'
  | .sdict a, u => has (dSd u) fun (x, y, a') => decide (x = ("sorted" : Str)) && decide (y = ("dict" : Str)) && isGl sc x && isGl sc y && notStar a' && mE T N sc a a'
  | .rev a, u => has (dRev u) fun a' => mE T N sc a a'
  | .tup as, .Tuple es _ _ => mSs T N sc as es
  | .lst as, .List es _ => mSs T N sc as es
  | .comp t src c elt, .ListComp elt' [⟨tg, iter, ifs, asy⟩] scope _ => decide (asy = 0) && blkC N sc scope (ownOf N t.slots) && mTg N scope.names t tg && mI T N sc (isTup tg) src iter && mC T N (relS scope sc) c ifs && mE T N (relS scope sc) elt elt'
  | .comp2 t src c t2 src2 c2 elt, .ListComp elt' [⟨tg, iter, ifs, asy⟩, ⟨tg2, iter2, ifs2, asy2⟩] scope _ => decide (asy = 0) && decide (asy2 = 0) && blkC N sc scope (ownOf N (t.slots ++ t2.slots)) && mTg N scope.names t tg && mI T N sc (isTup tg) src iter && mC T N (relS scope sc) c ifs &&
      mTg N scope.names t2 tg2 && mI T N (relS scope sc) (isTup tg2) src2 iter2 && mC T N (relS scope sc) c2 ifs2 && mE T N (relS scope sc) elt elt'
  | _, _ => false
def mO (T : Tab) (N : List Str) (sc : Scope) : Oe → Option Expr → Bool
  | .no, none => true
  | .yes a, some e => mE T N sc a e
  | _, _ => false
def mC (T : Tab) (N : List Str) (sc : Scope) : Oe → List Expr → Bool
  | .no, [] => true
  | .yes a, [e] => mE T N sc a e
  | _, _ => false
def mEs (T : Tab) (N : List Str) (sc : Scope) : Es → List Expr → Bool
  | .nil, [] => true
  | .cons a as, e :: es => notStar e && mE T N sc a e && mEs T N sc as es
  | _, _ => false
def mSs (T : Tab) (N : List Str) (sc : Scope) : Ss → List Expr → Bool
  | .nil, [] => true
  | .cons a as, e :: es => notStar e && mE T N sc a e && mSs T N sc as es
  | .star a as, .Starred e _ :: es => mE T N sc a e && mSs T N sc as es
  | _, _ => false
def mI (T : Tab) (N : List Str) (sc : Scope) (tp : Bool) : Sr → Expr → Bool
  | .seq a, e => notSet e && mE T N sc a e
  | .range1 a, .Call (.Name x _) [e] [] _ => decide (x = ("range" : Str)) && isGl sc x && notStar e && mE T N sc a e
  | .range2 a b, .Call (.Name x _) [e, u] [] _ => decide (x = ("range" : Str)) && isGl sc x && notStar e && notStar u && mE T N sc a e && mE T N sc b u
  | .enum a, .Call (.Name x _) [e] [] _ => tp && decide (x = ("enumerate" : Str)) && isGl sc x && notStar e && mE T N sc a e
  | .zip a b, .Call (.Name x _) [e, u] [] _ => tp && decide (x = ("zip" : Str)) && isGl sc x && notStar e && notStar u && mE T N sc a e && mE T N sc b u
  | _, _ => false
end

/-! ### which lists are nobody else's -/
mutual
/-- a term as a value: it hands out no list that is still written -/
def okE (ω : List Nat) : E → Bool
  | .var i => !ω.contains i
  | .cst _ => true
  | .glob _ => true
  | .neg a => rdE ω a
  | .not a => rdE ω a
  | .bin _ a b => rdE ω a && rdE ω b
  | .cmp _ a b => rdE ω a && rdE ω b
  | .chain _ _ a b e => rdE ω a && rdE ω b && rdE ω e
  | .and a b => rdE ω a && okE ω b
  | .or a b => rdE ω a && okE ω b
  | .ife t a b => rdE ω t && okE ω a && okE ω b
  | .call _ as => okEs ω as
  | .lam _ us b => ω.all (us.contains ·) && okE [] b
  | .bi _ as => rdEs ω as
  | .isi a _ => rdE ω a
  | .sub a b => rdE ω a && rdE ω b
  | .slice a lo hi => rdE ω a && rdO ω lo && rdO ω hi
  | .stAt _ => true
  | .stCells _ => true
  | .stLeft _ e => rdE ω e
  | .mkSt a b => okE ω a && okE ω b
  | .gget _ _ a => rdE ω a
  | .sdict a => rdE ω a
  | .rev a => rdE ω a
  | .tup as => okSs ω as
  | .lst as => okSs ω as
  | .comp t src c elt => rdI ω src && rdO (ω.filter fun i => !t.slots.contains i) c && okE (ω.filter fun i => !t.slots.contains i) elt
  | .comp2 t src c t2 src2 c2 elt => rdI ω src && rdO (ω.filter fun i => !(t.slots ++ t2.slots).contains i) c && okI (ω.filter fun i => !(t.slots ++ t2.slots).contains i) src2 && rdO (ω.filter fun i => !(t.slots ++ t2.slots).contains i) c2 && okE (ω.filter fun i => !(t.slots ++ t2.slots).contains i) elt
/-- a term that is looked at and let go -/
def rdE (ω : List Nat) : E → Bool
  | .var _ => true
  | .cst _ => true
  | .glob _ => true
  | .neg a => rdE ω a
  | .not a => rdE ω a
  | .bin _ a b => rdE ω a && rdE ω b
  | .cmp _ a b => rdE ω a && rdE ω b
  | .chain _ _ a b e => rdE ω a && rdE ω b && rdE ω e
  | .and a b => rdE ω a && okE ω b
  | .or a b => rdE ω a && okE ω b
  | .ife t a b => rdE ω t && okE ω a && okE ω b
  | .call _ as => okEs ω as
  | .lam _ us b => ω.all (us.contains ·) && okE [] b
  | .bi _ as => rdEs ω as
  | .isi a _ => rdE ω a
  | .sub a b => rdE ω a && rdE ω b
  | .slice a lo hi => rdE ω a && rdO ω lo && rdO ω hi
  | .stAt _ => true
  | .stCells _ => true
  | .stLeft _ e => rdE ω e
  | .mkSt a b => okE ω a && okE ω b
  | .gget _ _ a => rdE ω a
  | .sdict a => rdE ω a
  | .rev a => rdE ω a
  | .tup as => okSs ω as
  | .lst as => okSs ω as
  | .comp t src c elt => rdI ω src && rdO (ω.filter fun i => !t.slots.contains i) c && okE (ω.filter fun i => !t.slots.contains i) elt
  | .comp2 t src c t2 src2 c2 elt => rdI ω src && rdO (ω.filter fun i => !(t.slots ++ t2.slots).contains i) c && okI (ω.filter fun i => !(t.slots ++ t2.slots).contains i) src2 && rdO (ω.filter fun i => !(t.slots ++ t2.slots).contains i) c2 && okE (ω.filter fun i => !(t.slots ++ t2.slots).contains i) elt
def rdO (ω : List Nat) : Oe → Bool
  | .no => true
  | .yes a => rdE ω a
def okEs (ω : List Nat) : Es → Bool
  | .nil => true
  | .cons a as => okE ω a && okEs ω as
def rdEs (ω : List Nat) : Es → Bool
  | .nil => true
  | .cons a as => rdE ω a && rdEs ω as
def okSs (ω : List Nat) : Ss → Bool
  | .nil => true
  | .cons a as => okE ω a && okSs ω as
  | .star a as => rdE ω a && okSs ω as
def rdI (ω : List Nat) : Sr → Bool
  | .seq a => rdE ω a
  | .range1 a => rdE ω a
  | .range2 a b => rdE ω a && rdE ω b
  | .enum a => rdE ω a
  | .zip a b => rdE ω a && rdE ω b
/-- a source whose list nobody writes while it is walked -/
def okI (ω : List Nat) : Sr → Bool
  | .seq a => okE ω a
  | .range1 a => rdE ω a
  | .range2 a b => rdE ω a && rdE ω b
  | .enum a => okE ω a
  | .zip a b => okE ω a && okE ω b
end
def md (b : Bool) : Md := if b then .own else .sh
end DE

/-! DErel: names and values; what a term's reading is. -/
namespace DE
open PySem PySem.Spec PyProof.Rows L2

/-- how errors lie behind a call, and how they stand for ours -/
structure Exs where
  P : Program
  w : World
  mg : Str → Option Value
  xcs : List XcT
  tb : List (Addr × Str)
def Exs.CX (Z : Exs) : CXT := L2.CX Z.P Z.w
/-- an error of ours, as it stands on the heap -/
def Exs.XR (Z : Exs) (K : PySem.W.Frag) (H : Hp) (w : Wd) (x : Exn) (cl : Value) (dx : Option Addr) : Prop :=
  ∃ (r : XcT) (C dd : Addr) (v : V) (d : D), r ∈ Z.xcs ∧ x = ⟨r.nm, [d]⟩ ∧ Z.mg r.nm = some (.ref C) ∧ cl = .ref C ∧ dx = some dd ∧ H dd = some (.xd [(r.fl, v)]) ∧ Rp K H w v d
theorem Exs.nox (Z : Exs) (st : List PySem.Env) (H : Hp) (s : Shared) (e : Value) (s' : Shared) (h : Z.CX st H s (fun _ _ _ => False) e s') : False := by
  obtain ⟨_, _, _, _, _, _, _, _, _, _, _, _, z⟩ := h
  exact z
/-- the names' values; ω: the names whose lists nobody else knows; H0, w0: the entry -/
structure Rel (K : PySem.W.Frag) (H0 : Hp) (w0 : Wd) (ω : List Nat) (σ : L2.St) (H : Hp) (w : Wd) (ρ : Env) : Prop where
  wo : WOk K H w
  ex : Ext H0 w0 H w
  len : ρ.length = σ.length
  get : ∀ i d, ρ[i]? = some (some d) → ∃ v, σ[i]? = some (some v) ∧ (i ∈ ω → Own K H w H0 v d) ∧ (i ∉ ω → Rp K H w v d)
  ap : ∀ i j ds es, i ∈ ω → j ∈ ω → i ≠ j → ρ[i]? = some (some (.lst ds)) → ρ[j]? = some (some (.lst es)) → σ[i]? ≠ σ[j]?
section
variable {K : PySem.W.Frag} {H0 H H1 : Hp} {w0 w w1 : Wd} {ω : List Nat} {σ : L2.St} {ρ : Env}
theorem Rel.mono (R : Rel K H0 w0 ω σ H w ρ) (e : Ext H w H1 w1) (wo : WOk K H1 w1) : Rel K H0 w0 ω σ H1 w1 ρ where
  wo := wo
  ex := R.ex.trans e
  len := R.len
  get := fun i d h => by
    obtain ⟨v, h1, h2, h3⟩ := R.get i d h
    exact ⟨v, h1, fun q => (h2 q).ext R.wo e, fun q => (h3 q).ext R.wo e⟩
  ap := R.ap
theorem Rel.look (R : Rel K H0 w0 ω σ H w ρ) {i : Nat} {d : D} (h : ρ[i]? = some (some d)) : ∃ v, σ[i]? = some (some v) ∧ Look K H w v d := by
  obtain ⟨v, h1, h2, h3⟩ := R.get i d h
  by_cases q : i ∈ ω
  · exact ⟨v, h1, (h2 q).look⟩
  · exact ⟨v, h1, .inl (h3 q)⟩
/-- forgetting what is owned, where it is frozen -/
theorem Rel.drop_own {ω' : List Nat} (R : Rel K H0 w0 ω σ H w ρ) (hs : ∀ i, i ∈ ω' → i ∈ ω) (hf : ∀ i d, i ∈ ω → i ∉ ω' → ρ[i]? = some (some d) → ∀ v, σ[i]? = some (some v) → Rp K H w v d) : Rel K H0 w0 ω' σ H w ρ where
  wo := R.wo
  ex := R.ex
  len := R.len
  get := fun i d h => by
    obtain ⟨v, h1, h2, h3⟩ := R.get i d h
    refine ⟨v, h1, fun q => h2 (hs i q), fun q => ?_⟩
    by_cases z : i ∈ ω
    · exact hf i d z q h v h1
    · exact h3 z
  ap := fun i j ds es a b => R.ap i j ds es (hs i a) (hs j b)
/-- one name's list is frozen -/
theorem Rel.fz1 (R : Rel K H0 w0 ω σ H w ρ) (i : Nat) : ∃ w', w'.S = w.S ∧ Mono H w H w' ∧ Rel K H0 w0 (ω.filter fun j => j != i) σ H w' ρ := by
  have sub : ∀ j, j ∈ ω.filter (fun j => j != i) → j ∈ ω := fun j h => (List.mem_filter.mp h).1
  have only : ∀ j, j ∈ ω → j ∉ ω.filter (fun j => j != i) → j = i := fun j h1 h2 => by
    by_cases e : j = i
    · exact e
    · exact absurd (List.mem_filter.mpr ⟨h1, by simpa using e⟩) h2
  by_cases hi : i ∈ ω
  · cases hd : ρ[i]? with
    | none => exact ⟨w, rfl, Mono.refl _ _, R.drop_own sub fun j d h1 h2 h3 => by rw [only j h1 h2, hd] at h3; cases h3⟩
    | some o =>
      cases o with
      | none => exact ⟨w, rfl, Mono.refl _ _, R.drop_own sub fun j d h1 h2 h3 => by rw [only j h1 h2, hd] at h3; cases h3⟩
      | some d =>
        obtain ⟨v, h1, h2, _⟩ := R.get i d hd
        have o2 := h2 hi
        by_cases hl : ∃ ds, d = .lst ds
        · obtain ⟨ds, rfl⟩ := hl
          obtain ⟨a, vs, rfl, g1, g2, nu, nb, h0⟩ := o2
          refine ⟨w.fz a, rfl, Ext.fz' nu, ⟨R.wo.fz g1 nb, R.ex.fz h0, R.len, fun j d hj => ?_, fun j k ds es q1 q2 => R.ap j k ds es (sub j q1) (sub k q2)⟩⟩
          obtain ⟨u, u1, u2, u3⟩ := R.get j d hj
          refine ⟨u, u1, fun q => ?_, fun q => ?_⟩
          · have o3 := u2 (sub j q)
            have nji : j ≠ i := by
              have z := (List.mem_filter.mp q).2
              simpa using z
            cases d with
            | lst es =>
              obtain ⟨b, us, rfl, k1, k2, ku, kb, k0⟩ := o3
              refine ⟨b, us, rfl, k1, k2.fz, fun z => ?_, kb, k0⟩
              rcases z with z | rfl
              · exact ku z
              · exact R.ap j i es ds (sub j q) hi nji hj hd (by rw [u1, h1])
            | _ => exact Rp.fz o3
          · by_cases z : j ∈ ω
            · obtain rfl := only j z q
              rw [hd] at hj
              cases hj
              rw [h1] at u1
              cases u1
              exact .lst (.inr rfl) g1 g2.fz
            · exact (u3 z).fz
        · refine ⟨w, rfl, Mono.refl _ _, R.drop_own sub fun j e q1 q2 q3 u q4 => ?_⟩
          obtain rfl := only j q1 q2
          rw [hd] at q3
          cases q3
          rw [h1] at q4
          cases q4
          cases d with
          | lst ds => exact absurd ⟨ds, rfl⟩ hl
          | _ => exact o2
  · exact ⟨w, rfl, Mono.refl _ _, R.drop_own sub fun j d h1 h2 => absurd (only j h1 h2 ▸ h1) hi⟩
def minus (ω is : List Nat) : List Nat := ω.filter fun i => !is.contains i
theorem minus_nil (ω : List Nat) : minus ω [] = ω := by simp [minus]
theorem minus_cons (ω : List Nat) (i : Nat) (is : List Nat) : minus ω (i :: is) = minus (ω.filter fun j => j != i) is := by
  unfold minus
  rw [List.filter_filter]
  congr 1
  funext j
  simp only [List.contains_cons, Bool.not_or, bne]
  rw [Bool.and_comm]
/-- several are frozen -/
theorem Rel.fz : ∀ (is : List Nat) {ω : List Nat} {w : Wd}, Rel K H0 w0 ω σ H w ρ → ∃ w', w'.S = w.S ∧ Mono H w H w' ∧ Rel K H0 w0 (minus ω is) σ H w' ρ
  | [], ω, w, R => ⟨w, rfl, Mono.refl _ _, by rw [minus_nil]; exact R⟩
  | i :: is, ω, w, R => by
    obtain ⟨w1, e1, m1, R1⟩ := R.fz1 i
    obtain ⟨w2, e2, m2, R2⟩ := Rel.fz is R1
    exact ⟨w2, e2.trans e1, m1.trans m2, by rw [minus_cons]; exact R2⟩
/-- a name is stored -/
theorem Rel.set {i : Nat} {v : V} {d : D} (R : Rel K H0 w0 ω σ H w ρ) (hv : Rp K H w v d) : Rel K H0 w0 (ω.filter fun j => j != i) (σ.set i (some v)) H w (ρ.set i (some d)) where
  wo := R.wo
  ex := R.ex
  len := by rw [List.length_set, List.length_set]; exact R.len
  get := fun j e h => by
    by_cases hj : i = j
    · subst hj
      by_cases hl : i < ρ.length
      · rw [List.getElem?_set_self hl] at h
        cases h
        exact ⟨v, List.getElem?_set_self (by rw [← R.len]; exact hl), fun q => absurd (List.mem_filter.mp q).2 (by simp), fun _ => hv⟩
      · rw [List.getElem?_eq_none (by simpa using hl)] at h
        cases h
    · rw [List.getElem?_set_ne hj] at h
      obtain ⟨u, h1, h2, h3⟩ := R.get j e h
      refine ⟨u, by rw [List.getElem?_set_ne hj]; exact h1, fun q => h2 (List.mem_filter.mp q).1, fun q => h3 fun z => q (List.mem_filter.mpr ⟨z, by simpa using Ne.symm hj⟩)⟩
  ap := fun j k ds es a b n h1 h2 => by
    have hj : i ≠ j := by have z := (List.mem_filter.mp a).2; simp at z; exact Ne.symm z
    have hk : i ≠ k := by have z := (List.mem_filter.mp b).2; simp at z; exact Ne.symm z
    rw [List.getElem?_set_ne hj] at h1 ⊢
    rw [List.getElem?_set_ne hk] at h2 ⊢
    exact R.ap j k ds es (List.mem_filter.mp a).1 (List.mem_filter.mp b).1 n h1 h2
theorem Rel.setAll : ∀ (is : List Nat) {ω : List Nat} {σ : L2.St} {ρ ρ' : Env} {vs : List V} {ds : List D} {s s' : S}, Rel K H0 w0 ω σ H w ρ → RpL K H w vs ds → setAll ρ is ds s = .ok ρ' s' →
    s' = s ∧ vs.length = is.length ∧ Rel K H0 w0 (minus ω is) ((is.zip vs).foldl (fun σ p => σ.set p.1 (some p.2)) σ) H w ρ'
  | [], ω, σ, ρ, ρ', vs, ds, s, s', R, r, h => by
    cases r with
    | nil =>
      cases h
      exact ⟨rfl, rfl, by rw [minus_nil]; exact R⟩
    | cons _ _ => cases h
  | i :: is, ω, σ, ρ, ρ', vs, ds, s, s', R, r, h => by
    cases r with
    | nil => cases h
    | cons a r =>
      obtain ⟨e, l, R'⟩ := Rel.setAll is (R.set a (i := i)) r h
      exact ⟨e, congrArg Nat.succ l, by rw [minus_cons]; exact R'⟩
end
end DE

/-! DExc: own classes of errors whose __init__ calls the __init__ of an own class that has ValueError's. -/
namespace DE
open PySem PySem.Spec PyProof.Rows L2

/-- the check that OexC holds -/
def oexB (K : PySem.W.Frag) (C : Addr) : Bool := (match K.lookup C with
  | some ⟨.type "type", _, .cls cd, sl⟩ => (match cd.mro, sl.toList with
    | .ref C' :: bm, [_, _, _, _, some (.builtin n), _] => C' == C && n == "ValueError.__new__" && !cd.hasDel && cd.hasDict && PySem.HandSPX.refsVE bm
    | _, _ => false)
  | _ => false) && decide (PySem.W.findIn K (.ref C) "__setattr__" = some (some (.builtin "object.__setattr__"))) && decide (PySem.W.subIn K (.ref C) (.type "BaseException") = some true) &&
  decide (PySem.W.typeIn K (.ref C) = some (.type "type")) && PySem.W.keepIn K (.ref C)
theorem oexB_ok {K : PySem.W.Frag} {C : Addr} (h : oexB K C = true) : OexC K C := by
  unfold oexB at h
  simp only [Bool.and_eq_true, decide_eq_true_eq] at h
  obtain ⟨⟨⟨⟨q, h2⟩, h3⟩, h4⟩, h5⟩ := h
  refine ⟨?_, h2, h3, h4, h5⟩
  split at q
  · rename_i dd cd sl ho
    split at q
    · rename_i C' bm k0 k1 k2 k3 n k5 hm hs
      simp only [Bool.and_eq_true, beq_iff_eq, Bool.not_eq_true'] at q
      obtain ⟨⟨⟨⟨rfl, rfl⟩, hdel⟩, hdc⟩, ht⟩ := q
      obtain ⟨nm, bs, mro, ns, qn, hd, sn, sub, ab, col, del⟩ := cd
      dsimp only at hm hdel hdc
      subst hm hdel hdc
      have hsl : sl = #[k0, k1, k2, k3, some (.builtin "ValueError.__new__"), k5] := by
        obtain ⟨l⟩ := sl
        simp only at hs
        rw [hs]
      subst hsl
      exact ⟨nm, qn, ns, bs, bm, sn, sub, ab, col, dd, k0, k1, k2, k3, k5, ho, ht⟩
    · cases q
  · cases q
/-- the class at J has ValueError's __init__ -/
structure VeiC (K : PySem.W.Frag) (J : Addr) : Prop where
  rd : PySem.W.readsIn K J (.type "type") = true
  ga : PySem.W.specialIn K (.ref J) "__getattribute__" = some (some (.builtin "type.__getattribute__"))
  at_ : PySem.W.findCls K (.ref J) (.type "type") "__init__" = some (.val (.builtin "ValueError.__init__"))
def veiB (K : PySem.W.Frag) (J : Addr) : Bool := PySem.W.readsIn K J (.type "type") && decide (PySem.W.specialIn K (.ref J) "__getattribute__" = some (some (.builtin "type.__getattribute__"))) &&
  (match PySem.W.findCls K (.ref J) (.type "type") "__init__" with
  | some (.val (.builtin b)) => decide (b = "ValueError.__init__")
  | _ => false)
theorem veiB_ok {K : PySem.W.Frag} {J : Addr} (h : veiB K J = true) : VeiC K J := by
  unfold veiB at h
  simp only [Bool.and_eq_true, decide_eq_true_eq] at h
  refine ⟨h.1.1, h.1.2, ?_⟩
  have q := h.2
  split at q
  · rename_i b e
    rw [e, of_decide_eq_true q]
  · cases q
section
variable {X : Cx} {J : Addr} {x : Str} {e : Expr} {es : List Expr} {ta : TA} {p1 p2 pos : Pos}
/-- J.__init__(self, ..) -/
theorem pe_jinit {pl : Sem Bool} (hg : Gl X x) (hm : X.mg x = some (.ref J)) (hd : (x == ("__debug__" : Str)) = false) (v : VeiC X.K J) (ha : PA X (e :: es) ta)
    (hc : eval (.Call (.Attribute (.Name x p1) "__init__" p2) (e :: es) [] pos) X.env = (do
      let ov ← eval (.Name x p1) X.env
      standAt p2.atName
      let (f, first) ← holding [ov] (getMethod ov "__init__" pl)
      callWith pos f first (backTo pos (starEach (e :: es) X.env)) (backToKw pos (keywordEach [] X.env))) := by rfl)
    (he : starEach (e :: es) X.env = (false, eval e X.env) :: starEach es X.env := by rfl) (hpl : (backTo pos (starEach es X.env)).any (·.1) = false := by rfl) :
    PE X (.Call (.Attribute (.Name x p1) "__init__" p2) (e :: es) [] pos) (tVeI X.K ta) := by
  refine ⟨fun pins s σ H Q I h => ?_⟩
  refine PySem.W.methodCall_KW (ld_glob I hg hm ?_ hd) hc
  refine PySem.W.method_cls I.kIn v.ga (PySem.W.cls_value I.kIn v.rd v.at_ (by decide +kernel) ?_)
  show wpAny _ _ (callWith pos (Value.builtin "ValueError.__init__") [] (backTo pos (starEach (e :: es) X.env)) []) _ _ _
  refine PyProof.Rows.callWith_method1 (thn (ha.run pos pins _ σ H _ (I.tok _) h) fun us s1 ⟨vs, H1, I1, r1, a, C, ws, ev, hl, T, ea, q⟩ => ?_) he hpl
  subst ev
  cases r1 with
  | @cons _ u0 _ ur ra rw' =>
    obtain rfl : u0 = Value.ref a := ra
    have hlen : ur.length ≤ sizeLine := by
      rw [← Paired.length rw', sizeLine_eq]
      omega
    exact oinit_ok T I1 ea hlen fun s' K1 => ⟨.non, H1, K1, rfl, q⟩
end

/-! ### the __init__ of such a class -/
def iniB (B z f : Str) (scope : Scope) (body : List Stmt) : Bool :=
  C8.scC [z, f] [z, f] scope && decide (scope.names.lookup B = some .globalImplicit) && !(B == ("__debug__" : Str)) && !(z == ("__debug__" : Str)) && !(z == ("__classdict__" : Str)) && !(f == ("__debug__" : Str)) && !(f == ("__classdict__" : Str)) &&
  (match body with
  | [.Expr (.Call (.Attribute (.Name b p1) m p2) [.Name z1 p3, .Constant (.str x) j p4] [] p5) p6, .Assign [.Attribute (.Name z2 p7) g p8] (.Name v p9) p10] =>
    decide (b = B) && decide (m = "__init__") && decide (z1 = z) && decide (z2 = z) && decide (g = f) && decide (v = f) && (p2.endLine == p5.line)
  | _ => false)
/-- what such an __init__ promises -/
def spI (K : PySem.W.Frag) (f : Str) : Sp := fun vs H Q _ => ∃ (a C : Addr) (v : V), vs = [.ref a, v] ∧ OexC K C ∧ PySem.W.findIn K (.ref C) f = some none ∧ H a = some (exo a C none) ∧
  ∀ d, H d = none → d ≠ a → Q .non (upd (upd H d (exd d [(f, v)])) a (exo a C (some d)))
section
variable {P : Program} {w : World} {K : PySem.W.Frag} {mg : Str → Option Value} {base : Heap}
theorem init_ok {CX : CXT} {k : Nat} {B z f qual : Str} {J fI : Addr} {params : Arguments} {scope : Scope} {body : List Stmt} {fd : FuncData} (F0 : FunD K "__init__" qual params body scope [] [] fI fd) (h : iniB B z f scope body = true)
    (hB : mg B = some (.ref J)) (v : VeiC K J) : FnOk P w K mg base CX (k + 1) fI fd [z, f] (spI K f) := by
  unfold iniB at h
  simp only [Bool.and_eq_true, decide_eq_true_eq, Bool.not_eq_true'] at h
  obtain ⟨⟨⟨⟨⟨⟨⟨h1, h3⟩, h4⟩, h5⟩, h6⟩, h7⟩, h8⟩, h9⟩ := h
  split at h9
  · rename_i b p1 m p2 z1 p3 x j p4 p5 p6 z2 p7 g p8 u p9 p10
    simp only [Bool.and_eq_true, decide_eq_true_eq] at h9
    obtain ⟨⟨⟨⟨⟨⟨e1, e2⟩, e3⟩, e4⟩, e5⟩, e6⟩, e7⟩ := h9
    rw [e1, e2, e3, e4, e5, e6] at F0
    have Sc := C8.fnScope_by h1
    have vz : Vis scope z := by
      rcases Sc.par z (by simp) with q | q
      · exact .inl q
      · exact .inr (.inl q)
    have vf : Vis scope f := by
      rcases Sc.par f (by simp) with q | q
      · exact .inl q
      · exact .inr (.inl q)
    refine F0.ok Sc (fun vs H Q E h => ?_) (fun cdv A outer s H vs Q E hroom h => ?_)
    · obtain ⟨a, C, y, rfl, _⟩ := h
      rfl
    · obtain ⟨a, C, y, rfl, T, hno, ha, hq⟩ := h
      have pz : ∀ p, PE (cxOf CX P w K mg base [z, f] qual scope fI cdv A outer s H E) (.Name z p) (tVar 0) := fun p => pe_var (i := 0) rfl vz h5 h6
      have pf : ∀ p, PE (cxOf CX P w K mg base [z, f] qual scope fI cdv A outer s H E) (.Name f p) (tVar 1) := fun p => pe_var (i := 1) rfl vf h7 h8
      have hcc : eval (.Call (.Attribute (.Name B p1) "__init__" p2) [.Name z p3, .Constant (.str x) j p4] [] p5) (cxOf CX P w K mg base [z, f] qual scope fI cdv A outer s H E).env = (do
          let ov ← eval (.Name B p1) (cxOf CX P w K mg base [z, f] qual scope fI cdv A outer s H E).env
          standAt p2.atName
          let (g, first) ← holding [ov] (getMethod ov "__init__" (plainOf (.Name B p1) (cxOf CX P w K mg base [z, f] qual scope fI cdv A outer s H E).env))
          callWith p5 g first (backTo p5 (starEach [.Name z p3, .Constant (.str x) j p4] (cxOf CX P w K mg base [z, f] qual scope fI cdv A outer s H E).env)) (backToKw p5 (keywordEach [] (cxOf CX P w K mg base [z, f] qual scope fI cdv A outer s H E).env))) := by
        refine Eq.trans (b := (do
          let ov ← eval (.Name B p1) (cxOf CX P w K mg base [z, f] qual scope fI cdv A outer s H E).env
          standAt p2.atName
          methodCall (.Name B p1) "__init__" p2 p5 (cxOf CX P w K mg base [z, f] qual scope fI cdv A outer s H E).env ov 2 (backTo p5 (starEach [.Name z p3, .Constant (.str x) j p4] (cxOf CX P w K mg base [z, f] qual scope fI cdv A outer s H E).env)) (backToKw p5 (keywordEach [] (cxOf CX P w K mg base [z, f] qual scope fI cdv A outer s H E).env)))) (by rfl) ?_
        congr 1
        funext ov
        congr 1
        funext _
        exact mcall_line (by rfl) e7
      refine ⟨_, pss_cons (ps_expr (pe_jinit (X := cxOf CX P w K mg base [z, f] qual scope fI cdv A outer s H E) h3 hB h4 v (pa_cons (pz p3) (pa_cons pe_str pa_nil rfl) rfl) (hc := hcc))) (pss_one (ps_ost (pz p7) (pf p9))), ?_⟩
      refine ⟨.ref a, rfl, a, C, [.str x], rfl, by simp, T, ha, y, rfl, .ref a, rfl, a, C, rfl, T, hno, .inl ⟨ha, fun d hd hda => hq d hd hda⟩⟩
  · cases h9
end

/-! ### raise -/
/-- such a class stands -/
def XcIs (P : Program) (w : World) (K : PySem.W.Frag) (mg : Str → Option Value) (base : Heap) (CX : CXT) (k : Nat) (r : XcT) : Prop :=
  ∃ (C fI : Addr) (fd : FuncData) (z : Str), mg r.nm = some (.ref C) ∧ OexC K C ∧ PySem.W.findIn K (.ref C) "__init__" = some (some (.ref fI)) ∧ PySem.W.typeIn K (.ref fI) = some (.type "function") ∧
    PySem.W.findIn K (.ref C) r.fl = some none ∧ Binds K fd [z, r.fl] [] ∧ FnOk P w K mg base CX k fI fd [z, r.fl] (spI K r.fl)
/-- X(e): the error's class, its dict, new -/
def tRz (mg : Str → Option Value) (r : XcT) (ta : TA) : L2.St → Hp → XK → Prop := fun σ H Q => ta σ H fun vs H1 => ∃ (v : V) (C : Addr), vs = [v] ∧ (mg r.nm = some (.ref C) → ∀ d, H1 d = none → Q (.ref C) (some d) (upd H1 d (.xd [(r.fl, v)])))
theorem pmk_weak {X : Cx} {e : Expr} {t t' : L2.St → Hp → XK → Prop} (h : PMk X e t) (i : ∀ σ H Q, t' σ H Q → t σ H Q) : PMk X e t' := fun pins s σ H Q I q => h pins s σ H Q I (i σ H Q q)
theorem pa_weak' {X : Cx} {e : List Expr} {t t' : TA} (h : PA X e t) (i : ∀ σ H Q, t' σ H Q → t σ H Q) : PA X e t' := ⟨fun pos pins s σ H Q I q => h.run pos pins s σ H Q I (i σ H Q q)⟩
theorem pmk_rz {X : Cx} {CX : CXT} {k : Nat} {r : XcT} {e : Expr} {ta : TA} {p pos : Pos} (x : XcIs X.prog X.w X.K X.mg X.base CX k r) (hr : Room (k + 1) X.A) (hx : Passes CX X (fun _ _ _ => False)) (hg : Gl X r.nm) (ha : PA X [e] ta)
    (hd : (r.nm == ("__debug__" : Str)) = false) (he : starEach [e] X.env = (false, eval e X.env) :: starEach [] X.env) (hpl : (backTo pos (starEach [] X.env)).any (·.1) = false) (mono : ∀ σ H Q Q', ta σ H Q → (∀ vs H1, Q vs H1 → Q' vs H1) → ta σ H Q') :
    PMk X (.Call (.Name r.nm p) [e] [] pos) (fun σ H Q => ta σ H fun vs H1 => ∃ v : V, vs = [v] ∧ ∀ C, X.mg r.nm = some (.ref C) → ∀ d, H1 d = none → Q (.ref C) (some d) (upd H1 d (.xd [(r.fl, v)]))) := by
  obtain ⟨C, fI, fd, z, hm, T, iC, tI, hno, hb, F1⟩ := x
  refine pmk_weak (pmk_oex T iC tI F1 hr hb .nil hx hg hm ha hd he hpl) fun σ H Q h => ?_
  refine mono _ _ _ _ h fun vs H1 ⟨v, hv, q⟩ => ?_
  subst hv
  refine ⟨by simp, fun a hna => ⟨a, C, v, rfl, T, hno, upd_same, fun d hd hda => ⟨rfl, d, [(r.fl, v)], upd_same, ?_, ?_, ?_⟩⟩⟩
  · rw [upd_ne hda, upd_same]
  · rw [← hd, upd_ne hda]
  · have hd1 : H1 d = none := by rw [← hd, upd_ne hda]
    have e : upd (del (upd (upd (upd H1 a (exo a C none)) d (exd d [(r.fl, v)])) a (exo a C (some d))) a) d (.xd [(r.fl, v)]) = upd H1 d (.xd [(r.fl, v)]) := by
      funext b
      by_cases hbd : b = d
      · rw [hbd, upd_same, upd_same]
      · rw [upd_ne hbd, upd_ne hbd]
        by_cases hba : b = a
        · rw [hba, del_same, hna]
        · rw [del_ne hba, upd_ne hba, upd_ne hbd, upd_ne hba]
    rw [e]
    exact q C hm d hd1
end DE

/-! DEtry: try with several except clauses, each with a name for the error or without one. -/
namespace DE
open PySem PySem.Spec PyProof.Rows L2

/-- the ends of a suite behind which slot i stands for nothing -/
def gone (i : Nat) (D : Ends) : Ends := { nx := fun σ H => D.nx (σ.set i none) H, rt := D.rt, bk := fun σ H => D.bk (σ.set i none) H, ct := fun σ H => D.ct (σ.set i none) H }
abbrev Suite : Type := Addr → Value → Option Addr → TS
/-- what one clause wishes -/
def wOne (ts : Suite) (D : Ends) : Option Nat → Value → Option Addr → L2.St → Hp → Prop
  | none => fun cls d σ H => ∀ a, H a = none → ts a cls d D σ H
  | some i => fun cls d σ H => ∀ a, H a = none → ts a cls d (gone i D) (σ.set i (some (.ref a))) H
/-- what the clauses wish of an error of the body -/
def wMix (K : PySem.W.Frag) (Wout : WX) (D : Ends) : List (Value × Option Nat × Suite) → WX
  | [] => Wout
  | (c, o, ts) :: r => fun cls d σ H => ∃ b, PySem.W.exmOne K cls c = some b ∧ (b = true → wOne ts D o cls d σ H) ∧ (b = false → wMix K Wout D r cls d σ H)
inductive HdsMix (X : Cx) : List ExceptHandler → List (Value × Option Nat × Suite) → Prop
  | nil : HdsMix X [] []
  | cons {x : Str} {c : Value} {o : Option Nat} {n : Option Str} {ts : Suite} {b₀ : Stmt} {suite : List Stmt} {np pos' : Pos} {hds : List ExceptHandler} {l : List (Value × Option Nat × Suite)} (hc : Names X x c)
      (hn : match o, n with | none, none => True | some i, some n => X.N[i]? = some n ∧ X.env.kindOf n = some .local | _, _ => False)
      (hsu : ∀ (a : Addr) (oe : Obj) (cls : Value) (d : Option Addr) (pn : List (Addr × Obj)), Zc cls d oe → (∃ vs, oe.data = .fields vs) → PSs (X.suite a ((a, oe) :: pn)) (b₀ :: suite) (ts a cls d)) (r : HdsMix X hds l) :
      HdsMix X (.ExceptHandler (some (.Name x np)) n (b₀ :: suite) pos' :: hds) ((c, o, ts) :: l)
section
variable {X : Cx} {pins : List (Addr × Obj)} {s : Shared}
/-- the error a, landed in the frame: from here the clauses are asked -/
structure Landed (X : Cx) (pins : List (Addr × Obj)) (B : Heap) (sI : Shared) (a : Addr) (cls : Value) (d : Option Addr) (σ : L2.St) (H : Hp) (s : Shared) : Prop where
  inv : Inv X pins σ H sI
  nb : ∀ b o, sI.heap.get? b = some o → b ∉ frs X.stack → B.get? b = some o
  up : sI.heap.UpToSlots s.heap
  fly : HandSPX.FlyingZ B (X.env :: X.outer) a (Zc cls d) s.heap
  na : H a = none
  os : s.os = sI.os
  bare : AllBare s.gens
theorem Landed.here {B : Heap} {sI : Shared} {a : Addr} {cls : Value} {d : Option Addr} {σ : L2.St} {H : Hp} (L : Landed X pins B sI a cls d σ H s) : Inv X pins σ H s := L.inv.landed L.nb L.fly.1 L.up L.os L.bare
theorem Landed.suite {B : Heap} {sI : Shared} {a : Addr} {cls : Value} {d : Option Addr} {σ : L2.St} {H : Hp} (hf : X.env.frame = some X.env.locals) (L : Landed X pins B sI a cls d σ H s) :
    ∃ oe vs, s.heap.get? a = some oe ∧ Zc cls d oe ∧ oe.data = .fields vs ∧ Inv (X.suite a ((a, oe) :: (X.pn ++ pins))) [] σ H s := by
  obtain ⟨oe, vs, he, hz, hd⟩ := L.fly.there
  have nfr : a ∉ frs (X.env :: X.outer) := fun hm => by
    obtain ⟨_, o', e', hnf⟩ := L.fly.2.2.1.mem hm
    rw [he] at e'
    cases e'
    exact hnf _ hd
  refine ⟨oe, vs, he, hz, hd, L.here.suite he hd L.na (fun z => nfr (List.mem_filterMap.mpr ⟨X.env, List.mem_cons_self, by rw [hf, z]⟩)) fun hm => ?_⟩
  obtain ⟨e, he2, q⟩ := List.mem_filterMap.mp hm
  exact nfr (List.mem_filterMap.mpr ⟨e, List.mem_cons_of_mem _ he2, q⟩)
/-- the end of a suite, its error's name gone where it has one -/
theorem suite_end {a : Addr} {oe : Obj} {D D' : Ends} {f : Flow} {Q : Flow → Shared → Prop} {pos : Pos} {M : Model} {E : Value → Shared → Prop} (ok : X.Ok) (hN : X.N.Nodup) {i : Nat} {n : Str} (hi : X.N[i]? = some n) (hl : X.env.kindOf n = some .local)
    (h : SP (X.suite a ((a, oe) :: (X.pn ++ pins))) [] (gone i D) f s) (hq : ∀ s', SP X pins D f s' → Q f s') :
    wpAny M X.A (do bindName X.env n .none; unbindBehindTheSuite X.env n pos) (fun _ s' => Q f s') E s := by
  have go : ∀ {σ : L2.St} {H : Hp}, Inv (X.suite a ((a, oe) :: (X.pn ++ pins))) [] σ H s → (∀ s', Inv X pins (σ.set i none) H s' → SP X pins D f s') → wpAny M X.A (do bindName X.env n .none; unbindBehindTheSuite X.env n pos) (fun _ s' => Q f s') E s :=
    fun {σ H} I k => gone_ok (I.unsuite ok) hN hi hl fun s' J => hq s' (k s' J)
  cases f with
  | next => obtain ⟨σ, H, I, q⟩ := h; exact go I fun s' J => ⟨_, _, J, q⟩
  | brk => obtain ⟨σ, H, I, q⟩ := h; exact go I fun s' J => ⟨_, _, J, q⟩
  | cont => obtain ⟨σ, H, I, q⟩ := h; exact go I fun s' J => ⟨_, _, J, q⟩
  | ret u => obtain ⟨v, σ, H, I, r, q⟩ := h; exact go I fun s' J => ⟨_, _, _, J, r, q⟩
theorem suite_end0 {a : Addr} {oe : Obj} {D : Ends} {f : Flow} (ok : X.Ok) (h : SP (X.suite a ((a, oe) :: (X.pn ++ pins))) [] D f s) : SP X pins D f s := by
  cases f with
  | next => obtain ⟨σ, H, I, q⟩ := h; exact ⟨_, _, I.unsuite ok, q⟩
  | brk => obtain ⟨σ, H, I, q⟩ := h; exact ⟨_, _, I.unsuite ok, q⟩
  | cont => obtain ⟨σ, H, I, q⟩ := h; exact ⟨_, _, I.unsuite ok, q⟩
  | ret u => obtain ⟨v, σ, H, I, r, q⟩ := h; exact ⟨_, _, _, I.unsuite ok, r, q⟩
theorem clauses {Wout : WX} {D : Ends} {B : Heap} {sI : Shared} {a : Addr} {cls : Value} {d : Option Addr} {σ : L2.St} {H : Hp} (hs : X.stack = X.env :: X.outer) (hf : X.env.frame = some X.env.locals) (hN : X.N.Nodup) (tk : Takes X Wout) :
    ∀ {hds : List ExceptHandler} {l : List (Value × Option Nat × Suite)}, HdsMix X hds l → ∀ {s : Shared}, Landed X pins B sI a cls d σ H s → wMix X.K Wout D l cls d σ H →
      wpAny (model X.prog X.w) X.A (handleBy (.ref a) X.env hds) (SP X pins D) X.xe s := by
  intro hds l hk
  induction hk with
  | nil =>
    intro s L w
    refine wpAny_handleBy_nil ?_
    obtain ⟨_, _, _, oe, vs, T, oT, _, he, hz, hd, h1, _⟩ := id L.fly
    unfold PySem.passOn
    refine wpAny_bind (wpAny_field he hd h1 ?_)
    rw [if_neg (show ¬ ((Value.ref T == Value.none) = true) from by simp)]
    have fin : wpAny (model X.prog X.w) X.A (setFlight (.ref a) X.env.frame) (fun _ s4 => wpAny (model X.prog X.w) X.A (throw (.ref a) : Sem Flow) (SP X pins D) X.xe s4) X.xe s := by
      rw [hf]
      refine HandSPX.setFlight_upZ L.fly fun h4 hh4 up4 => wpAny_throw (tk _ _ ?_)
      exact ⟨a, B, sI, pins, σ, H, cls, d, rfl, L.inv, L.nb, L.up.trans up4, .inr (.inr (by rw [hs]; exact hh4)), L.na, L.os, L.bare, w⟩
    first
      | exact wpAny_bind (wpAny_pure (wpAny_bind fin))
      | exact wpAny_bind fin
  | @cons x c o n ts b₀ suite np pos' hds l hc hn hsu r ih =>
    intro s L w
    obtain ⟨b, hb1, hyes, hno⟩ := w
    obtain ⟨oe, vs, he, hz, hd, S⟩ := L.suite hf
    refine wpAny_handleBy_cons (codeAny_handlers_test ?_) (by intro q; cases q)
    have LT : PySem.W.Looks (model X.prog X.w) s.heap (typeOf (.ref a)) cls := fun A Q E s k q => wpAny_typeOf_ref (k _ _ he) (by rw [hz.1]; exact q)
    have test : ∀ {Q : Value → Shared → Prop} {E : Value → Shared → Prop}, Q c s → wpAny (model X.prog X.w) (X.A.mark (some (.ref a))) (eval (.Name x np) X.env) Q E s := fun {Q E} q => by
      obtain ⟨hg, hdbg, hm | ⟨hm, hv, hnn⟩⟩ := hc
      · exact ld_glob (X := X.suite a ((a, oe) :: (X.pn ++ pins))) S hg hm q hdbg
      · exact ld_blt (X := X.suite a ((a, oe) :: (X.pn ++ pins))) S hg hm hv q hnn hdbg
    refine test ((PySem.W.exm_one (M := model X.prog X.w) L.here.kIn LT hb1).here ?_)
    cases b with
    | false => exact ih L (hno rfl)
    | true =>
      cases o with
      | none =>
        cases n with
        | some _ => exact hn.elim
        | none =>
          refine codeAny_handlers_suite (HandSPX.lands_againZ L.fly fun h4 fl4 up4 => ?_)
          have L4 : Landed X pins B sI a cls d σ H { s with heap := h4 } := ⟨L.inv, L.nb, L.up.trans up4, fl4, L.na, L.os, L.bare⟩
          obtain ⟨oe4, vs4, he4, hz4, hd4, S4⟩ := L4.suite hf
          exact wpAny_mono ((hsu a oe4 cls d (X.pn ++ pins) hz4 ⟨_, hd4⟩).run [] _ _ H _ S4 (hyes rfl a L.na)) (fun f s6 h6 => suite_end0 L.inv.ok h6) fun _ _ z => False.elim z
      | some i =>
        cases n with
        | none => exact hn.elim
        | some n =>
          obtain ⟨hi, hl⟩ := hn
          refine codeAny_handlers_suite_as (HandSPX.lands_againZ L.fly fun h4 fl4 up4 => ?_)
          have L4 : Landed X pins B sI a cls d σ H { s with heap := h4 } := ⟨L.inv, L.nb, L.up.trans up4, fl4, L.na, L.os, L.bare⟩
          obtain ⟨oe4, vs4, he4, hz4, hd4, S4⟩ := L4.suite hf
          refine store_ok (X := X.suite a ((a, oe4) :: (X.pn ++ pins))) (v := .ref a) S4 hN hi (.inl hl) rfl (fun s5 S5 => ?_) (.inr hl)
          exact wpAny_mono ((hsu a oe4 cls d (X.pn ++ pins) hz4 ⟨_, hd4⟩).run [] s5 _ H _ S5 (hyes rfl a L.na)) (fun f s6 h6 => suite_end (D' := D) L.inv.ok hN hi hl h6 fun _ q => q) fun _ _ z => False.elim z
/-- THE RULE -/
theorem ps_try_mix {body : List Stmt} {h₀ : ExceptHandler} {hds : List ExceptHandler} {l : List (Value × Option Nat × Suite)} {pos : Pos} {tb : WX → TS} {Wout : WX} (hs : X.stack = X.env :: X.outer) (hf : X.env.frame = some X.env.locals) (hN : X.N.Nodup) (tk : Takes X Wout)
    (hb : ∀ (W : WX) (pn : List (Addr × Obj)) (xe : Value → Shared → Prop), Takes (X.tr pn xe) W → PassesOwn (model X.prog X.w) X.A X.env xe → PSs (X.tr pn xe) body (tb W))
    (hh : HdsMix X (h₀ :: hds) l) : PS X (.Try body (h₀ :: hds) [] [] pos) (fun D σ H => tb (wMix X.K Wout D l) D σ H) := by
  refine ⟨fun pins s σ H D I h => ?_⟩
  have ok := I.ok
  have hfr : X.A.frames = some (X.env :: X.outer) := by rw [ok.frames, hs]
  refine wpAny_Try_except ?_
  refine wpAny_mono ((hb (wMix X.K Wout D l) (X.pn ++ pins) (fun e s₁ => wpAny (model X.prog X.w) X.A (noteFrame e X.env) (fun _ s₂ => wpAny (model X.prog X.w) X.A (setFlight e none) (fun _ s₃ =>
    wpAny (model X.prog X.w) X.A (handleBy e X.env (h₀ :: hds)) (SP X pins D) X.xe s₃) X.xe s₂) X.xe s₁) (fun u s' xx => ?_) PassesOwn.looking).run [] s σ H D (I.toTry _) h) (fun f s1 h1 => ?_) (fun e s1 he => he)
  · obtain ⟨a, B, sI, pins', σ', H', cls, d, rfl, J, nb, up, sky, na, os, ag, w⟩ := xx
    rw [hs] at sky
    show wpAny (model X.prog X.w) X.A (noteFrame (.ref a) X.env) _ _ _
    exact Sky.land Zc.steady hfr hf sky fun h3 fl3 up3 => clauses hs hf hN tk hh ⟨J.ofTry ok, nb, up.trans up3, fl3, na, os, ag⟩ w
  · cases f with
    | next => obtain ⟨σ', H', J, q⟩ := h1; exact wpAny_execs_nil ⟨σ', H', J.ofTry ok, q⟩
    | brk => obtain ⟨σ', H', J, q⟩ := h1; exact ⟨σ', H', J.ofTry ok, q⟩
    | cont => obtain ⟨σ', H', J, q⟩ := h1; exact ⟨σ', H', J.ofTry ok, q⟩
    | ret u => obtain ⟨v, σ', H', J, r, q⟩ := h1; exact ⟨v, σ', H', J.ofTry ok, r, q⟩
end
end DE

/-! DEtd: the defs that call what they get and tell of its errors. -/
namespace DE
open PySem PySem.Spec PyProof.Rows L2

/-! ### their texts -/
def mHx (n : Option Str) : Hx → Expr → Bool
  | .str y, .Constant (.str z) _ _ => decide (y = z)
  | .fld f, .Attribute (.Name x _) g _ => decide (n = some x) && decide (f = g)
  | _, _ => false
def mHxs (n : Option Str) : List Hx → List Expr → Bool
  | [], [] => true
  | h :: r, e :: es => mHx n h e && mHxs n r es
  | _, _ => false
def mHv (n : Option Str) : Hv → Expr → Bool
  | .lst hs, .List es _ => mHxs n hs es
  | .tup hs, .Tuple es _ _ => mHxs n hs es
  | .one h, e => mHx n h e
  | _, _ => false
def okN (x : Str) : Bool := !(x == ("__debug__" : Str)) && !(x == ("__classdict__" : Str))
/-- what stands in a clause: got = .. | return .. -/
def mSt (got : Option Str) (n : Option Str) (v : Hv) : Stmt → Bool
  | .Assign [.Name g _] e _ => decide (got = some g) && mHv n v e
  | .Return (some e) _ => decide (got = none) && mHv n v e
  | _ => false
def mHd (N : List Str) (sg : Scope) (got : Option Str) (h : Hd) : ExceptHandler → Bool
  | .ExceptHandler (some (.Name c _)) n [st] _ => decide (c = h.cls) && decide (sg.names.lookup c = some .globalImplicit) && !(c == ("__debug__" : Str)) && mSt got n h.v st && (match n with
    | none => true
    | some x => decide (x ∈ N) && decide (sg.names.lookup x = some .local) && okN x && decide (got ≠ some x))
  | _ => false
def mHds (N : List Str) (sg : Scope) (got : Option Str) : List Hd → List ExceptHandler → Bool
  | [], [] => true
  | h :: r, e :: es => mHd N sg got h e && mHds N sg got r es
  | _, _ => false
/-- a() -/
def mAct (a : Str) : Expr → Bool
  | .Call (.Name x _) [] [] _ => decide (x = a)
  | _ => false
theorem mAct_eq {a : Str} {e : Expr} (h : mAct a e = true) : ∃ p q, e = .Call (.Name a p) [] [] q := by
  unfold mAct at h
  split at h
  · exact ⟨_, _, by rw [of_decide_eq_true h]⟩
  · cases h
def gotB (N : List Str) (sg : Scope) (g : Str) : Bool := decide (g ∈ N) && decide (sg.names.lookup g = some .local) && okN g
def mTd (N : List Str) (sg : Scope) (a : Str) (t : Td) : List Stmt → Bool
  | [.Try [.Assign [.Name g _] e _] (h :: hs) [] [] _, .Return (some (.Name g2 _)) _] => (match t.kind with
    | .same => mAct a e && mHds N sg (some g) t.hs (h :: hs) && decide (g2 = g) && gotB N sg g
    | _ => false)
  | [.Try [.Return (some (.List [e] _)) _] (h :: hs) [] [] _] => (match t.kind with
    | .lst => mAct a e && mHds N sg none t.hs (h :: hs)
    | _ => false)
  | [.Try [.Expr e _] (h :: hs) [] [] _, .Return (some (.Constant .none _ _)) _] => (match t.kind with
    | .non => mAct a e && mHds N sg none t.hs (h :: hs)
    | _ => false)
  | _ => false

/-! ### what they tell -/
def hxR (K : PySem.W.Frag) (cls : Value) (d : Option Addr) (H : Hp) : Hx → V → Prop
  | .str y, v => v = .str y
  | .fld f, v => ∃ (C dd : Addr) (fs : List (Str × V)), cls = .ref C ∧ XfC K C ∧ PySem.W.findIn K (.ref C) f = some none ∧ d = some dd ∧ H dd = some (.xd fs) ∧ fs.lookup f = some v
def hxsR (K : PySem.W.Frag) (cls : Value) (d : Option Addr) (H : Hp) : List Hx → List V → Prop
  | [], vs => vs = []
  | h :: r, vs => ∃ v us, vs = v :: us ∧ hxR K cls d H h v ∧ hxsR K cls d H r us
def hvR (K : PySem.W.Frag) (cls : Value) (d : Option Addr) (H : Hp) (Q : VK) : Hv → Prop
  | .one h => ∃ v, hxR K cls d H h v ∧ Q v H
  | .lst hs => ∃ vs, hxsR K cls d H hs vs ∧ vs.length ≤ sizeLine ∧ ∀ p, H p = none → Q (.ref p) (upd H p (.lst vs))
  | .tup hs => ∃ vs, hxsR K cls d H hs vs ∧ vs.length ≤ sizeLine ∧ ∀ p, H p = none → Q (.ref p) (upd H p (.tup vs))
/-- what the clauses wish -/
def wEch (K : PySem.W.Frag) (mg : Str → Option Value) (Q : VK) : List Hd → XK
  | [] => fun _ _ _ => False
  | h :: r => fun cls d H => ∃ b, (∀ c, mg h.cls = some c → PySem.W.exmOne K cls c = some b) ∧ (b = true → hvR K cls d H Q h.v) ∧ (b = false → wEch K mg Q r cls d H)
def tkQ (Q : VK) : Tk → VK
  | .same => Q
  | .lst => fun v H => ∀ p, H p = none → Q (.ref p) (upd H p (.lst [v]))
  | .non => fun _ H => Q .non H
/-- what such a def makes of what its argument does -/
def TTd (K : PySem.W.Frag) (mg : Str → Option Value) (t : Td) : (XK → Hp → VK → Prop) → Hp → VK → Prop := fun tl H Q => ∀ Q' : VK, (∀ v H', tkQ Q t.kind v H' → Q' v H') → tl (wEch K mg Q t.hs) H Q'

/-! ### their suites -/
theorem star_cons0 {e : Expr} {es : List Expr} {env : PySem.Env} (h : notStar e = true) : starEach (e :: es) env = (false, eval e env) :: starEach es env := by
  cases e <;> first | rfl | cases h
section
variable {X : Cx} {a : Addr} {oe : Obj} {pn : List (Addr × Obj)} {cls : Value} {d : Option Addr}
/-- slot of the error's name -/
def slotIs (a : Addr) (o : Option Nat) (σ : L2.St) : Prop := match o with
  | none => True
  | some i => σ[i]? = some (some (.ref a))
def nmIs (X : Cx) (n : Option Str) (o : Option Nat) : Prop := match n, o with
  | none, none => True
  | some x, some i => X.N[i]? = some x ∧ X.env.scope.names.lookup x = some .local ∧ okN x = true
  | _, _ => False
theorem okN_db {x : Str} (h : okN x = true) : (x == ("__debug__" : Str)) = false ∧ (x == ("__classdict__" : Str)) = false := by
  unfold okN at h
  simp only [Bool.and_eq_true, Bool.not_eq_true'] at h
  exact h
def tHx (K : PySem.W.Frag) (a : Addr) (cls : Value) (d : Option Addr) (o : Option Nat) (h : Hx) : TE := fun σ H Q => slotIs a o σ ∧ ∃ v, hxR K cls d H h v ∧ Q v H
theorem pe_hx (hz : Zc cls d oe) (hf : ∃ vs, oe.data = .fields vs) {n : Option Str} {o : Option Nat} (hn : nmIs X n o) {h : Hx} {e : Expr} (m : mHx n h e = true) :
    PE (X.suite a ((a, oe) :: pn)) e (tHx X.K a cls d o h) := by
  cases h with
  | str y =>
    cases e with
    | Constant c j p =>
      cases c with
      | str z =>
        simp only [mHx, decide_eq_true_eq] at m
        subst m
        refine ⟨fun pins s σ H Q I hq => ?_⟩
        obtain ⟨_, v, rfl, q⟩ := hq
        exact pe_str.run pins s σ H Q I q
      | _ => simp [mHx] at m
    | _ => simp [mHx] at m
  | fld f =>
    cases e with
    | Attribute u g p =>
      cases u with
      | Name x p2 =>
        simp only [mHx, Bool.and_eq_true, decide_eq_true_eq] at m
        obtain ⟨rfl, rfl⟩ := m
        cases o with
        | none => exact hn.elim
        | some i =>
          obtain ⟨h1, h2, h3⟩ := hn
          refine ⟨fun pins s σ H Q I hq => ?_⟩
          obtain ⟨hs, v, ⟨C, dd, fs, e1, hx, hno, e2, e3, e4⟩, q⟩ := hq
          exact (pe_xf (X := X) hx hno hz hf (pe_var (i := i) h1 (.inl h2) (okN_db h3).1 (okN_db h3).2)).run pins s σ H Q I ⟨.ref a, hs, rfl, e1, dd, fs, v, e2, e3, e4, q⟩
      | _ => simp [mHx] at m
    | _ => simp [mHx] at m
def tHxs (K : PySem.W.Frag) (a : Addr) (cls : Value) (d : Option Addr) (o : Option Nat) (hs : List Hx) : TA := fun σ H Q => slotIs a o σ ∧ ∃ vs, hxsR K cls d H hs vs ∧ Q vs H
theorem pa_hxs (hz : Zc cls d oe) (hf : ∃ vs, oe.data = .fields vs) {n : Option Str} {o : Option Nat} (hn : nmIs X n o) : ∀ {hs : List Hx} {es : List Expr}, mHxs n hs es = true → PA (X.suite a ((a, oe) :: pn)) es (tHxs X.K a cls d o hs)
  | [], [], _ => ⟨fun pos pins s σ H Q I hq => by
      obtain ⟨_, vs, rfl, q⟩ := hq
      exact pa_nil.run pos pins s σ H Q I q⟩
  | h :: r, e :: es, m => by
    simp only [mHxs, Bool.and_eq_true] at m
    have ns : notStar e = true := by
      cases h with
      | str y => cases e <;> first | rfl | simp [mHx] at m
      | fld f => cases e <;> first | rfl | simp [mHx] at m
    have q1 := pa_cons (pe_hx (pn := pn) hz hf hn m.1) (pa_hxs hz hf hn m.2) (star_cons0 ns)
    refine ⟨fun pos pins s σ H Q I hq => ?_⟩
    obtain ⟨hs, vs, ⟨v, us, rfl, h1, h2⟩, q⟩ := hq
    exact q1.run pos pins s σ H Q I ⟨hs, v, h1, hs, us, h2, q⟩
  | [], _ :: _, m => by simp [mHxs] at m
  | _ :: _, [], m => by simp [mHxs] at m
def tHv (K : PySem.W.Frag) (a : Addr) (cls : Value) (d : Option Addr) (o : Option Nat) (v : Hv) : TE := fun σ H Q => slotIs a o σ ∧ hvR K cls d H Q v
theorem pe_hv (hz : Zc cls d oe) (hf : ∃ vs, oe.data = .fields vs) {n : Option Str} {o : Option Nat} (hn : nmIs X n o) {v : Hv} {e : Expr} (m : mHv n v e = true) : PE (X.suite a ((a, oe) :: pn)) e (tHv X.K a cls d o v) ∧
    ∀ t l env, swapsWith e t l env = pure false := by
  cases v with
  | one h =>
    have m' : mHx n h e = true := by cases e <;> exact m
    refine ⟨⟨fun pins s σ H Q I hq => ?_⟩, fun t l env => ?_⟩
    · obtain ⟨hs, v, h1, q⟩ := hq
      exact (pe_hx hz hf hn m').run pins s σ H Q I ⟨hs, v, h1, q⟩
    · cases h with
      | str y => cases e <;> first | rfl | simp [mHx] at m'
      | fld f => cases e <;> first | rfl | simp [mHx] at m'
  | lst hs =>
    cases e with
    | List es p =>
      refine ⟨⟨fun pins s σ H Q I hq => ?_⟩, fun t l env => rfl⟩
      obtain ⟨hs, vs, h1, hl, q⟩ := hq
      exact (pe_lst (pa_hxs hz hf hn m)).run pins s σ H Q I ⟨hs, vs, h1, hl, q⟩
    | _ => simp [mHv] at m
  | tup hs =>
    cases e with
    | Tuple es j p =>
      refine ⟨⟨fun pins s σ H Q I hq => ?_⟩, fun t l env => rfl⟩
      obtain ⟨hs, vs, h1, hl, q⟩ := hq
      exact (pe_tup (pa_hxs hz hf hn m)).run pins s σ H Q I ⟨hs, vs, h1, hl, q⟩
    | _ => simp [mHv] at m
/-- where the value goes -/
def goesTo (D : Ends) (σ : L2.St) : Option Nat → VK
  | some g => fun v H' => D.nx (σ.set g (some v)) H'
  | none => D.rt
def tSt (K : PySem.W.Frag) (a : Addr) (cls : Value) (d : Option Addr) (o gi : Option Nat) (v : Hv) : TS := fun D σ H => slotIs a o σ ∧ hvR K cls d H (goesTo D σ gi) v
def gotIs (X : Cx) (g : Option Str) (o : Option Nat) : Prop := match g, o with
  | none, none => True
  | some x, some i => X.N[i]? = some x ∧ X.env.scope.names.lookup x = some .local
  | _, _ => False
theorem ps_st (hN : X.N.Nodup) (hz : Zc cls d oe) (hf : ∃ vs, oe.data = .fields vs) {n g : Option Str} {o gi : Option Nat} (hn : nmIs X n o) (hg : gotIs X g gi) {v : Hv} {st : Stmt} (m : mSt g n v st = true) :
    PSs (X.suite a ((a, oe) :: pn)) [st] (tSt X.K a cls d o gi v) := by
  unfold mSt at m
  split at m
  · rename_i g' p e p2
    simp only [Bool.and_eq_true, decide_eq_true_eq] at m
    obtain ⟨rfl, m⟩ := m
    cases gi with
    | none => exact hg.elim
    | some i =>
      obtain ⟨h1, h2⟩ := pe_hv (X := X) (a := a) (pn := pn) hz hf hn m
      refine pss_one ⟨fun pins s σ H D I hq => ?_⟩
      exact (ps_set (X := X.suite a ((a, oe) :: pn)) (i := i) hN hg.1 (.inl hg.2) h1 (h2 _ _ _) (.inr hg.2)).run pins s σ H D I hq
  · rename_i e p
    simp only [Bool.and_eq_true, decide_eq_true_eq] at m
    obtain ⟨rfl, m⟩ := m
    cases gi with
    | some i => exact hg.elim
    | none =>
      obtain ⟨h1, h2⟩ := pe_hv (X := X) (a := a) (pn := pn) hz hf hn m
      refine pss_one ⟨fun pins s σ H D I hq => ?_⟩
      exact (ps_ret (X := X.suite a ((a, oe) :: pn)) h1).run pins s σ H D I hq
  · cases m
end

/-! ### their clauses -/
theorem hvR_mono {K : PySem.W.Frag} {cls : Value} {d : Option Addr} {H : Hp} {Q Q' : VK} (h : ∀ v H', Q v H' → Q' v H') : ∀ {v : Hv}, hvR K cls d H Q v → hvR K cls d H Q' v
  | .one _, ⟨v, r, q⟩ => ⟨v, r, h _ _ q⟩
  | .lst _, ⟨vs, r, l, q⟩ => ⟨vs, r, l, fun p hp => h _ _ (q p hp)⟩
  | .tup _, ⟨vs, r, l, q⟩ => ⟨vs, r, l, fun p hp => h _ _ (q p hp)⟩
/-- what the def does with a value that a clause tells is what is wished -/
def Link (D : Ends) (σ : L2.St) (gi : Option Nat) (Q : VK) : Prop := (∀ v H', Q v H' → goesTo D σ gi v H') ∧ ∀ i a v H', gi ≠ some i → Q v H' → goesTo (gone i D) (σ.set i (some (.ref a))) gi v H'
theorem mem_ix {x : Str} {N : List Str} (h : x ∈ N) : ∃ i : Nat, N[i]? = some x := by
  obtain ⟨i, hi, e⟩ := List.mem_iff_getElem.mp h
  exact ⟨i, by rw [List.getElem?_eq_getElem hi, e]⟩
theorem hds_mix {X : Cx} (hN : X.N.Nodup) {got : Option Str} {gi : Option Nat} (hg : gotIs X got gi) : ∀ {hs : List Hd} {es : List ExceptHandler}, (∀ h ∈ hs, ∃ c, X.mg h.cls = some c) → mHds X.N X.env.scope got hs es = true →
    ∃ l, HdsMix X es l ∧ ∀ (D : Ends) (Q : VK) (cls : Value) (d : Option Addr) (σ : L2.St) (H : Hp), X.N.length = σ.length → Link D σ gi Q → wEch X.K X.mg Q hs cls d H → wMix X.K (fun _ _ _ _ => False) D l cls d σ H
  | [], [], _, _ => ⟨[], .nil, fun _ _ _ _ _ _ _ _ h => h⟩
  | [], _ :: _, _, m => by simp [mHds] at m
  | _ :: _, [], _, m => by simp [mHds] at m
  | h :: r, e :: es, hm, m => by
    simp only [mHds, Bool.and_eq_true] at m
    obtain ⟨l, h1, h2⟩ := hds_mix hN hg (fun h' z => hm h' (List.mem_cons_of_mem _ z)) m.2
    obtain ⟨c, hc⟩ := hm h List.mem_cons_self
    have m1 := m.1
    unfold mHd at m1
    split at m1
    · rename_i c' np n st pos'
      simp only [Bool.and_eq_true, decide_eq_true_eq, Bool.not_eq_true'] at m1
      obtain ⟨⟨⟨⟨rfl, g1⟩, g2⟩, g3⟩, g4⟩ := m1
      have nms : Names X h.cls c := ⟨g1, g2, .inl hc⟩
      cases n with
      | none =>
        refine ⟨(c, none, fun a cls d => tSt X.K a cls d none gi h.v) :: l, .cons nms True.intro (fun a oe cls d pn hz hf => ps_st hN hz hf (n := none) (o := none) True.intro hg g3) h1, fun D Q cls d σ H hl lk w => ?_⟩
        obtain ⟨b, b1, b2, b3⟩ := w
        exact ⟨b, b1 c hc, fun hb a na => ⟨True.intro, hvR_mono lk.1 (b2 hb)⟩, fun hb => h2 D Q cls d σ H hl lk (b3 hb)⟩
      | some x =>
        simp only [Bool.and_eq_true, decide_eq_true_eq] at g4
        obtain ⟨⟨⟨k1, k2⟩, k3⟩, k4⟩ := g4
        obtain ⟨i, hi⟩ := mem_ix k1
        have hlt : i < X.N.length := (List.getElem?_eq_some_iff.mp hi).1
        have hne : gi ≠ some i := fun z => by
          subst z
          cases got with
          | none => exact hg.elim
          | some g =>
            have q := hg.1
            rw [hi] at q
            exact k4 (by rw [Option.some.inj q])
        refine ⟨(c, some i, fun a cls d => tSt X.K a cls d (some i) gi h.v) :: l, .cons nms ⟨hi, k2⟩ (fun a oe cls d pn hz hf => ps_st hN hz hf (n := some x) (o := some i) ⟨hi, k2, k3⟩ hg g3) h1, fun D Q cls d σ H hl lk w => ?_⟩
        obtain ⟨b, b1, b2, b3⟩ := w
        refine ⟨b, b1 c hc, fun hb a na => ⟨?_, hvR_mono (fun v H' q => lk.2 i a v H' hne q) (b2 hb)⟩, fun hb => h2 D Q cls d σ H hl lk (b3 hb)⟩
        show (σ.set i (some (V.ref a)))[i]? = _
        rw [List.getElem?_set_self (by rw [← hl]; exact hlt)]
    · cases m1

theorem takes_len {X : Cx} {W : WX} (t : Takes X W) : Takes X (fun cls d σ H => X.N.length = σ.length → W cls d σ H) := fun u s' ⟨a, B, sI, pins, σ, H, cls, d, e, I, nb, up, sky, na, os, ag, w⟩ =>
  t u s' ⟨a, B, sI, pins, σ, H, cls, d, e, I, nb, up, sky, na, os, ag, w I.len.symm⟩
theorem td_gives {X : Cx} {Ng : List Str} {x a q : Str} {sg : Scope} {g : Addr} {cdg : Value} {t : Td} {bg : List Stmt} (hcl : ∀ h ∈ t.hs, ∃ c, X.mg h.cls = some c) (Sg : FnScope Ng [a] sg) (m : mTd Ng sg a t bg = true) (ha0 : ∀ f : Addr, (L2.start Ng [V.ref f])[0]? = some (some (V.ref f))) :
    LamX.GivesTo X Ng x sg g cdg bg a q (TTd X.K X.mg t) := by
  intro f c' s H Q tl act hc h
  have nd := Sg.nd
  unfold mTd at m
  split at m
  · rename_i gt p e p2 h1 hs pos g2 p3 p4
    split at m
    · rename_i hk
      simp only [Bool.and_eq_true, decide_eq_true_eq] at m
      obtain ⟨⟨⟨m1, m2⟩, rfl⟩, m3⟩ := m
      obtain ⟨pa, pb, rfl⟩ := mAct_eq m1
      unfold gotB at m3
      simp only [Bool.and_eq_true, decide_eq_true_eq] at m3
      obtain ⟨⟨k1, k2⟩, k3⟩ := m3
      obtain ⟨gi, hgi⟩ := mem_ix k1
      have hlt : gi < Ng.length := (List.getElem?_eq_some_iff.mp hgi).1
      obtain ⟨l, hm, hw⟩ := hds_mix (X := (cxOf C8.CX0 X.prog X.w X.K X.mg X.base Ng x sg g cdg X.A X.stack s H C8.E0).nox) nd (got := some g2) (gi := some gi) ⟨hgi, k2⟩ hcl m2
      refine ⟨_, pss_cons (ps_try_mix (X := (cxOf C8.CX0 X.prog X.w X.K X.mg X.base Ng x sg g cdg X.A X.stack s H C8.E0).nox)
        (tb := fun W D σ H => ∃ Ech : XK, (∀ cls d σ' H', Ech cls d H' → Ng.length = σ'.length → W cls d σ' H') ∧ σ[0]? = some (some (.ref f)) ∧ H c' = some (LamX.CodeO c' q) ∧ tl Ech H fun v H' => D.nx (σ.set gi (some v)) H')
        rfl rfl nd LamX.takes0 (fun W pn xe tk _ => ⟨fun pins s' σ H' D I h' => ?_⟩) hm) (pss_one (ps_ret (pe_var (i := gi) hgi (.inl k2) (okN_db k3).1 (okN_db k3).2))), ?_⟩
      · obtain ⟨Ech, hW, h1, h2, h3⟩ := h'
        have hp := act _ pn xe Ech pa pb (takes_len tk) hW
        exact (pss_one (ps_set (pos := p2) (pos' := p) (X := (cxOf C8.CX0 X.prog X.w X.K X.mg X.base Ng x sg g cdg X.A X.stack s H C8.E0).tr pn xe) (i := gi) nd hgi (.inl k2) hp rfl (.inr k2))).run pins s' σ H' D I ⟨h1, h2, h3⟩
      · have go : ∀ (σ : L2.St) v H', Ng.length = σ.length → Q v H' → ∃ u, (σ.set gi (some v))[gi]? = some (some u) ∧ Q u H' := fun σ v H' hl hq => ⟨v, by rw [List.getElem?_set_self (by rw [← hl]; exact hlt)], hq⟩
        refine ⟨wEch X.K X.mg Q t.hs, fun cls d σ' H' he hl => hw _ Q cls d σ' H' hl ⟨fun v H' hq => go σ' v H' hl hq, fun i a v H' hne hq => ?_⟩ he, ha0 f, hc, h _ fun v H' hq => ?_⟩
        · refine ⟨v, ?_, hq⟩
          have hni : i ≠ gi := fun z => hne (by rw [z])
          show ((((σ'.set i (some (V.ref a))).set gi (some v)).set i none))[gi]? = _
          rw [List.getElem?_set_ne hni, List.getElem?_set_self (by rw [List.length_set, ← hl]; exact hlt)]
        · rw [hk] at hq
          exact go _ v H' (by
            unfold L2.start
            have := Sg.pre
            have h1 : 1 ≤ Ng.length := by
              have := congrArg List.length this
              simp at this
              omega
            simp
            omega) hq
    · cases m
  · rename_i e p1 p2 h1 hs pos
    split at m
    · rename_i hk
      simp only [Bool.and_eq_true] at m
      obtain ⟨m1, m2⟩ := m
      obtain ⟨pa, pb, rfl⟩ := mAct_eq m1
      obtain ⟨l, hm, hw⟩ := hds_mix (X := (cxOf C8.CX0 X.prog X.w X.K X.mg X.base Ng x sg g cdg X.A X.stack s H C8.E0).nox) nd (got := none) (gi := none) True.intro hcl m2
      refine ⟨_, pss_one (ps_try_mix (X := (cxOf C8.CX0 X.prog X.w X.K X.mg X.base Ng x sg g cdg X.A X.stack s H C8.E0).nox)
        (tb := fun W D σ H => ∃ Ech : XK, (∀ cls d σ' H', Ech cls d H' → Ng.length = σ'.length → W cls d σ' H') ∧ σ[0]? = some (some (.ref f)) ∧ H c' = some (LamX.CodeO c' q) ∧ tl Ech H fun v H' => [v].length ≤ sizeLine ∧ ∀ p, H' p = none → D.rt (.ref p) (upd H' p (.lst [v])))
        rfl rfl nd LamX.takes0 (fun W pn xe tk _ => ⟨fun pins s' σ H' D I h' => ?_⟩) hm), ?_⟩
      · obtain ⟨Ech, hW, h1, h2, h3⟩ := h'
        have hp := act _ pn xe Ech pa pb (takes_len tk) hW
        exact (pss_one (ps_ret (pos := p2) (pe_lst (pos := p1) (pa_cons hp pa_nil rfl)))).run pins s' σ H' D I ⟨h1, h2, h3⟩
      · refine ⟨wEch X.K X.mg Q t.hs, fun cls d σ' H' he hl => hw _ Q cls d σ' H' hl ⟨fun v H' hq => hq, fun i a v H' hne hq => hq⟩ he, ha0 f, hc, h _ fun v H' hq => ?_⟩
        rw [hk] at hq
        exact ⟨by rw [sizeLine_eq]; simp, hq⟩
    · cases m
  · rename_i e p h1 hs pos j p2 p3
    split at m
    · rename_i hk
      simp only [Bool.and_eq_true] at m
      obtain ⟨m1, m2⟩ := m
      obtain ⟨pa, pb, rfl⟩ := mAct_eq m1
      obtain ⟨l, hm, hw⟩ := hds_mix (X := (cxOf C8.CX0 X.prog X.w X.K X.mg X.base Ng x sg g cdg X.A X.stack s H C8.E0).nox) nd (got := none) (gi := none) True.intro hcl m2
      refine ⟨_, pss_cons (ps_try_mix (X := (cxOf C8.CX0 X.prog X.w X.K X.mg X.base Ng x sg g cdg X.A X.stack s H C8.E0).nox)
        (tb := fun W D σ H => ∃ Ech : XK, (∀ cls d σ' H', Ech cls d H' → Ng.length = σ'.length → W cls d σ' H') ∧ σ[0]? = some (some (.ref f)) ∧ H c' = some (LamX.CodeO c' q) ∧ tl Ech H fun _ H' => D.nx σ H')
        rfl rfl nd LamX.takes0 (fun W pn xe tk _ => ⟨fun pins s' σ H' D I h' => ?_⟩) hm) (pss_one (ps_ret pe_non)), ?_⟩
      · obtain ⟨Ech, hW, h1, h2, h3⟩ := h'
        have hp := act _ pn xe Ech pa pb (takes_len tk) hW
        exact (pss_one (ps_expr (pos := p) hp)).run pins s' σ H' D I ⟨h1, h2, h3⟩
      · refine ⟨wEch X.K X.mg Q t.hs, fun cls d σ' H' he hl => hw _ Q cls d σ' H' hl ⟨fun v H' hq => hq, fun i a v H' hne hq => hq⟩ he, ha0 f, hc, h _ fun v H' hq => ?_⟩
        rw [hk] at hq
        exact hq
    · cases m
  · cases m
end DE

/-! DEguard: defs whose promise asks that no repr is under way (no guard stands on the stack); their call; the end of a law by such a def. -/
namespace DE
open PySem PySem.Spec PyProof.Rows L2
/-- a def's promise; with g it is made only where no guard stands -/
structure FnB (g : Bool) (P : Program) (w : World) (K : PySem.W.Frag) (mg : Str → Option Value) (base : Heap) (CX : CXT) (k : Nat) (f : Addr) (fd : FuncData) (ps : List Str) (sp : Sp) : Prop where
  num : ∀ vs H Q E, sp vs H Q E → vs.length = ps.length
  does : ∀ (A : Around) (outer : List PySem.Env) (s : Shared) (H : Hp) (args : Args) (us : List Value) (vs : List V) (Q : VK) (E : XK), (g = true → A.guards = some []) → Room k A → Env0 P w K mg base A outer s H →
    BindsTo s fd args (ps.zip us) → Vals vs us → sp vs H Q E → codeAny (model P w) A (.call (.ref f) args) (CR CX outer P w H s Q E) s
section
variable {g : Bool} {P : Program} {w : World} {K : PySem.W.Frag} {mg : Str → Option Value} {base : Heap} {CX : CXT} {j k : Nat} {f : Addr} {fd : FuncData} {ps : List Str} {sp sp' : Sp}
theorem FnB.up (F : FnB g P w K mg base CX j f fd ps sp) (h : j ≤ k) : FnB g P w K mg base CX k f fd ps sp :=
  ⟨F.num, fun A outer s H args us vs Q E hg hr => F.does A outer s H args us vs Q E hg (hr.mono h)⟩
theorem FnB.by (F : FnB g P w K mg base CX k f fd ps sp) (h : ∀ vs H Q E, sp' vs H Q E → sp vs H Q E) : FnB g P w K mg base CX k f fd ps sp' :=
  ⟨fun vs H Q E q => F.num vs H Q E (h vs H Q E q), fun A outer s H args us vs Q E hg hr e b v q => F.does A outer s H args us vs Q E hg hr e b v (h vs H Q E q)⟩
/-- a def by its body -/
theorem fnB_of {name qual : Str} {params : Arguments} {body : List Stmt} {scope : Scope} {dV kV doc pm cdv ct oc : Value} {an od : Option Addr} {osl : Array (Option Value)} {N : List Str}
    (lk : K.lookup f = some ⟨oc, od, .func (PySem.W.fnOf name qual params body scope dV kV doc pm an cdv ct), osl⟩) (hcd : PySem.W.codeIn K cdv qual = true) (Sc : FnScope N ps scope)
    (num : ∀ vs H Q E, sp vs H Q E → vs.length = ps.length)
    (hb : ∀ (A : Around) (outer : List PySem.Env) (s : Shared) (H : Hp) (vs : List V) (Q : VK) (E : XK), (g = true → A.guards = some []) → Room k (A.deeper (envOfC qual scope s.heap.objs.size f cdv)) → sp vs H Q E →
      ∃ t, PSs (cxOf CX P w K mg base N qual scope f cdv A outer s H E) body t ∧ t { nx := fun _ H' => Q .non H', rt := Q } (start N vs) H) :
    FnB g P w K mg base CX (k + 1) f (PySem.W.fnOf name qual params body scope dV kV doc pm an cdv ct) ps sp where
  num := num
  does := by
    intro A outer s H args us vs Q E hg room e0 bind rel want
    obtain ⟨t, ht, hq⟩ := hb A outer s H vs Q E hg (room.deeper _) want
    have old : ∀ b o, base.get? b = some o → s.heap.get? b = some o := fun b o e => (e0.bs b o e).1
    have kin := e0.mod.kin.keeps old
    have many := num vs H Q E want
    refine codeAny_call_function room.depth (kin _ _ lk) rfl Sc.co Sc.gen rfl (PySem.W.codeRec_of kin hcd) (bind _ _ _ _ ?_)
    have kinds : ∀ y ∈ ps.zip us, scope.names.lookup y.1 = some .local ∨ scope.names.lookup y.1 = some .cell ∧ ((cellsFrom (s.heap.objs.size + 1) scope.names []).lookup y.1).isSome = true := by
      intro y hy
      have hm : y.1 ∈ ps := (List.of_mem_zip (show (y.1, y.2) ∈ ps.zip us from hy)).1
      cases Sc.par y.1 hm with
      | inl q => exact Or.inl q
      | inr q => exact Or.inr ⟨q, PySem.W.cellsFrom_some _ _ _ (Or.inl q)⟩
    refine wpAny_newFunctionEnv_cells Sc.kind kinds fun env he s1 x => ?_
    subst he
    refine ⟨(e0.mod.nolimit.keeps old).keeps x.toInCall.keep, codeAny_func ?_⟩
    have I := inv_start (CX := CX) (E := E) Sc room.hd e0 many rel x
    refine wpAny_mono (ht.run [] s1 (start N vs) H _ I hq) (fun fl s' h => ?_) (fun _ _ h => h)
    match fl, h with
    | .ret u, ⟨v, σ', H', J, rv, q⟩ => exact ⟨v, H', J.os, J.bare, J.base, J.hok, rv, q⟩
    | .next, ⟨σ', H', J, q⟩ => exact ⟨V.non, H', J.os, J.bare, J.base, J.hok, rfl, q⟩
    | .brk, ⟨_, _, _, q⟩ => exact q.elim
    | .cont, ⟨_, _, _, q⟩ => exact q.elim
end
section
variable {g : Bool} {X : Cx} {CX : CXT} {k : Nat} {f : Addr} {fd : FuncData} {ps : List Str} {sp : Sp} {dvs : List V} {ds : List Value} {E : XK} {x : Str} {p pos : Pos} {e : Expr} {es : List Expr} {t : TA}
/-- a call of a def, by name -/
theorem peB_call (F : FnB g X.prog X.w X.K X.mg X.base CX k f fd ps sp) (hgd : g = true → X.A.guards = some []) (hr : Room k X.A) (hg : Gl X x) (hm : X.mg x = some (.ref f)) (hk : PySem.W.keepIn X.K (.ref f) = true) (hb : Binds X.K fd ps ds) (hd : Vals dvs ds) (hx : Passes CX X E)
    (ha : PA X (e :: es) t) (hdb : (x == ("__debug__" : Str)) = false) (he : starEach (e :: es) X.env = (false, eval e X.env) :: starEach es X.env) (hpl : (backTo pos (starEach es X.env)).any (·.1) = false) :
    PE X (.Call (.Name x p) (e :: es) [] pos) (tCall sp dvs E t) := by
  constructor
  intro pins s σ H Q I h
  refine wpAny_Call_Name_kw (ld_glob I hg hm (PySem.W.callWith_K (h₀ := X.base) I.ok.mod.kin hk (thn (ha.run pos pins s σ H _ I h) fun us s1 a => ?_) he hpl) hdb)
  obtain ⟨vs, H1, J, r, q⟩ := a
  refine ⟨J.kIn, ?_⟩
  have rr := r.append hd
  have many : (us ++ ds).length = ps.length := rr.length.symm.trans (F.num _ _ _ _ q)
  refine wpAny_call (codeAny_mono (F.does X.A X.stack s1 H1 ⟨us, []⟩ (us ++ ds) (vs ++ dvs) Q E hgd hr J.env0 (hb s1 us J.kIn many) rr q) fun o s' z => ?_)
  match o, z with
  | .ok (.ret u), z => exact J.after z
  | .error c, z => exact hx pins σ H1 s1 c s' J z
end

/-! ### the end of a law -/
/-- the state ahead of the law's call -/
structure Ahead (P : Program) (w : World) (K : PySem.W.Frag) (mg : Str → Option Value) (a : Addr) (cs : List (Addr × Addr)) (s : Shared) (vs : List Value) (ns : List Int) : Prop where
  kin : K.In s.heap
  glob : s.heap.Ns mainGlobals mg
  blt : ∃ mb, s.heap.Ns builtinsNs mb ∧ ∀ x : Str, x ≠ "__name__" → mb x = bootBuiltins x
  lim : s.heap.NoLimit
  gens : s.gens = #[]
  tab : ∀ p ∈ cs, s.heap.get? p.2 = some { cls := .none, data := .fields #[] }
  out : ∀ p ∈ cs, K.lookup p.2 = none
  code : ∀ p ∈ cs, PySem.W.CodeHd s.heap p.1 p.2
  bm : ∃ (b : Addr) (o : Obj), mg "__builtins__" = some (.ref b) ∧ b ≠ builtinsNs ∧ s.heap.get? b = some o ∧ o.cls = .type "module" ∧ o.dict = some builtinsNs ∧ o.data = .plain
  lst : s.heap.get? a = some { cls := .type "list", data := .seq vs.toArray }
  nums : IntsAre vs ns
  size : ns.length ≤ sizeLine
/-- what is tracked ahead of the call: the tables, perhaps the script -/
structure Start (P : Program) (w : World) (K : PySem.W.Frag) (a : Addr) (cs : List (Addr × Addr)) (s : Shared) (ns : List Int) (H : Hp) : Prop where
  tab : ∀ p ∈ cs, H p.2 = some (.tbl #[])
  sq : SqL K H a (ns.map V.int)
  ok : HOk P w H s.heap
  only : ∀ b u, H b = some u → (b = a ∧ K.lookup a = none ∧ ∃ o xs, u = .frz o (.lst xs)) ∨ ∃ p ∈ cs, p.2 = b
section
variable {P : Program} {w : World} {K : PySem.W.Frag} {mg : Str → Option Value} {a : Addr} {cs : List (Addr × Addr)} {s : Shared} {vs : List Value} {ns : List Int} {H : Hp}
theorem Start.free (B : Ahead P w K mg a cs s vs ns) (S : Start P w K a cs s ns H) {b : Addr} {o : Obj} (e : s.heap.get? b = some o) (h1 : ∀ xs n, o.data ≠ .seq xs n) (h2 : o.data ≠ .fields #[]) : H b = none := by
  match q : H b with
  | none => rfl
  | some u =>
    rcases S.only b u q with ⟨rfl, _⟩ | ⟨p, hp, rfl⟩
    · rw [B.lst] at e
      obtain rfl := Option.some.inj e
      exact (h1 _ _ rfl).elim
    · rw [B.tab p hp] at e
      obtain rfl := Option.some.inj e
      exact (h2 rfl).elim
theorem Start.nsp (B : Ahead P w K mg a cs s vs ns) (S : Start P w K a cs s ns H) {b : Addr} {m : Str → Option Value} (h : s.heap.Ns b m) : (hidT s.heap H).Ns b m := by
  obtain ⟨o, es, ep, e, d, r⟩ := h
  exact ⟨o, es, ep, hidT_get e (S.free B e (by rw [d]; exact fun _ _ z => nomatch z) (by rw [d]; exact fun z => nomatch z)), d, r⟩
theorem Start.kin (B : Ahead P w K mg a cs s vs ns) (S : Start P w K a cs s ns H) : K.In (hidT s.heap H) := fun b o e => hidT_get (B.kin b o e) (by
  match q : H b with
  | none => rfl
  | some u =>
    rcases S.only b u q with ⟨rfl, n, _⟩ | ⟨p, hp, rfl⟩
    · rw [n] at e; cases e
    · rw [B.out p hp] at e; cases e)
theorem Start.mod (B : Ahead P w K mg a cs s vs ns) (S : Start P w K a cs s ns H) : L2.Mod K mg (hidT s.heap H) := by
  obtain ⟨mb, b1, b2⟩ := B.blt
  obtain ⟨mc, l1, l2⟩ := B.lim
  exact ⟨S.kin B, S.nsp B B.glob, ⟨mb, S.nsp B b1, b2⟩, ⟨mc, S.nsp B l1, l2⟩⟩
theorem Start.tabB (B : Ahead P w K mg a cs s vs ns) (S : Start P w K a cs s ns H) : ∀ p ∈ cs, LamX.TabB (hidT s.heap H) mg p.1 p.2 := by
  intro p hp
  have none_ : ∀ {b : Addr}, b = p.2 → ∀ {o : Obj}, s.heap.get? b = some o → o = { cls := .none, data := .fields #[] } := by
    rintro b rfl o e
    rw [B.tab p hp] at e
    exact (Option.some.inj e).symm
  constructor
  · obtain ⟨o, us, fl, tf, i, ti, b, j, tj, e, c, d, g1, g2, g3, g4, g5, g6, ne⟩ := B.code p hp
    refine ⟨o, us, fl, tf, i, ti, b, j, tj, hidT_get e (S.free B e (by rw [d]; exact fun _ _ z => nomatch z) fun z => ?_), c, d, g1, g2, g3, g4, g5, g6, ne⟩
    rw [d] at z
    obtain rfl := Data.fields.inj z
    exact absurd g1 (by simp)
  · obtain ⟨b, o, e1, e2, e3, e4, e5, e6⟩ := B.bm
    refine ⟨b, o, e1, e2, fun z => ?_, fun z => ?_, hidT_get e3 (S.free B e3 (by rw [e6]; exact fun _ _ z => nomatch z) (by rw [e6]; exact fun z => nomatch z)), e4, e5, e6⟩
    · obtain ⟨o', es, ep, g1, g2, _⟩ := B.glob
      rw [← z, e3] at g1
      obtain rfl := Option.some.inj g1
      rw [e6] at g2
      cases g2
    · rw [none_ z e3] at e6
      cases e6
  · intro z
    obtain ⟨o, es, ep, g1, g2, _⟩ := B.glob
    rw [none_ z g1] at g2
    cases g2
theorem Start.env (B : Ahead P w K mg a cs s vs ns) (S : Start P w K a cs s ns H) : Env0 P w K mg (hidT s.heap H) callerA [] s H where
  frames := rfl
  mod := S.mod B
  bs := fun b o e => of_hidT e
  bsz := by rw [hidT_size]; exact Nat.le_refl _
  funs := trivial
  frf := fun b hb => nomatch hb
  hok := S.ok
  bare := .of_eq B.gens
/-- behind the call: what stood stands, the tables have grown -/
theorem Start.old (B : Ahead P w K mg a cs s vs ns) (S : Start P w K a cs s ns H) {s' : Shared} {H' : Hp} (un : Un (frs []) [] H H' s.heap s'.heap) (ok : HOk P w H' s'.heap) : OldK s.heap s'.heap := by
  have grown : ∀ p ∈ cs, ∃ more : Array Value, s'.heap.get? p.2 = some { cls := .none, data := .fields more } := by
    intro p hp
    obtain ⟨more, z⟩ := un.tbls p.2 #[] (S.tab p hp)
    exact ⟨_, ok p.2 _ z⟩
  have key : ∀ b o, s.heap.get? b = some o → (∃ p ∈ cs, p.2 = b) ∨ s'.heap.get? b = some o := by
    intro b o e
    match q : H b with
    | none => exact .inr (un.keep b o e q (fun z => nomatch z) (fun z => nomatch z))
    | some u =>
      rcases S.only b u q with ⟨rfl, _, ob, xs, rfl⟩ | z
      · obtain ⟨e1, _⟩ := S.ok _ _ q
        obtain ⟨e2, _⟩ := ok _ _ (un.frzs _ _ _ q)
        exact .inr (e2.trans (e1.symm.trans e))
      · exact .inl z
  refine ⟨fun b o e => ?_, fun b o e => ?_⟩
  · rcases key b o e with ⟨p, hp, rfl⟩ | z
    · obtain ⟨more, g⟩ := grown p hp
      have t := B.tab p hp
      have q := Option.some.inj (t.symm.trans e)
      subst q
      exact .inr (.inl ⟨((B.code p hp).tab t).isCodeTable, rfl, #[], more, rfl, by rw [Array.empty_append]; exact g⟩)
    · exact .inl z
  · rcases key b o e with ⟨p, hp, rfl⟩ | z
    · obtain ⟨more, g⟩ := grown p hp
      exact ⟨_, g⟩
    · exact ⟨o, z⟩
theorem start_ex (B : Ahead P w K mg a cs s vs ns) : ∃ H, Start P w K a cs s ns H := by
  classical
  have rv := vals_ints B.nums
  have lv : vs.length = ns.length := B.nums.length
  have aT : ¬ ∃ p ∈ cs, p.2 = a := by
    rintro ⟨p, hp, rfl⟩
    have q := (B.tab p hp).symm.trans B.lst
    cases q
  match hk : K.lookup a with
  | some o =>
    have e := B.kin a o hk
    obtain rfl := Option.some.inj (B.lst.symm.trans e)
    refine ⟨fun b => if ∃ p ∈ cs, p.2 = b then some (.tbl #[]) else none, fun p hp => if_pos ⟨p, hp, rfl⟩, .inr ⟨_, vs.toArray, _, hk, rfl, rfl, rfl, by rw [List.size_toArray, lv]; exact B.size, by simpa using rv⟩, fun b u q => ?_, fun b u q => ?_⟩
    · by_cases hb : ∃ p ∈ cs, p.2 = b
      · rw [if_pos hb] at q
        obtain rfl := Option.some.inj q
        obtain ⟨p, hp, rfl⟩ := hb
        exact B.tab p hp
      · rw [if_neg hb] at q; cases q
    · by_cases hb : ∃ p ∈ cs, p.2 = b
      · exact .inr hb
      · rw [if_neg hb] at q; cases q
  | none =>
    refine ⟨fun b => if b = a then some (.frz { cls := .type "list", data := .seq vs.toArray } (.lst (ns.map V.int))) else if ∃ p ∈ cs, p.2 = b then some (.tbl #[]) else none, fun p hp => ?_, .inl (.inr ⟨{ cls := .type "list", data := .seq vs.toArray }, if_pos rfl⟩), fun b u q => ?_, fun b u q => ?_⟩
    · rw [if_neg (fun z => aT ⟨p, hp, z⟩), if_pos ⟨p, hp, rfl⟩]
    · by_cases hb : b = a
      · rw [if_pos hb] at q
        obtain rfl := Option.some.inj q
        subst hb
        exact ⟨B.lst, by rw [List.length_map]; exact B.size, vs, _, rv, B.lst⟩
      · rw [if_neg hb] at q
        by_cases h2 : ∃ p ∈ cs, p.2 = b
        · rw [if_pos h2] at q
          obtain rfl := Option.some.inj q
          obtain ⟨p, hp, rfl⟩ := h2
          exact B.tab p hp
        · rw [if_neg h2] at q; cases q
    · by_cases hb : b = a
      · rw [if_pos hb] at q
        exact .inl ⟨hb, hk, _, _, (Option.some.inj q).symm⟩
      · rw [if_neg hb] at q
        by_cases h2 : ∃ p ∈ cs, p.2 = b
        · exact .inr h2
        · rw [if_neg h2] at q; cases q
end
/-- the law's promise at the heap behind the head -/
def LawAtB (l : PySem.W.OpenLaw) (w : World) (K : PySem.W.Frag) (CX : CXT) (k n : Nat) (x : Str) (mg : Str → Option Value) (fa : Addr) (h : Heap) : Prop :=
  ∃ (g : Bool) (fd : FuncData) (cs : List (Addr × Addr)) (sp : Sp), (∀ p ∈ cs, h.get? p.2 = some { cls := .none, data := .fields #[] }) ∧ (∀ p ∈ cs, K.lookup p.2 = none) ∧ (∀ p ∈ cs, PySem.W.CodeHd h p.1 p.2) ∧
    (∀ (s : Shared) (u : Value), BindsTo s fd ⟨[u], []⟩ [(x, u)]) ∧
    (∀ (H : Hp) (a : Addr) (ns : List Int), ns.length ≤ n → (∀ p ∈ cs, H p.2 = some (.tbl #[])) → SqL K H a (ns.map V.int) → sp [.ref a] H (fun v _ => v = .bl true) fun _ _ _ => False) ∧
    ∀ base : Heap, K.In base → base.Ns mainGlobals mg → (∀ p ∈ cs, LamX.TabB base mg p.1 p.2) → FnB g l.prog w K mg base CX k fa fd [x] sp
theorem walk_ofB {l : PySem.W.OpenLaw} {n k : Nat} {q : Program} {loose : List Str} {XP : (Str → Option Value) → Heap → Prop} {YP : World → Heap → Prop} {d : DefRec} {CX : World → CXT} {x : Str}
    (hn : l.most = some n) (hn2 : n ≤ sizeLine) (hdf : d.params.defaults = []) (hr : Room k callerA)
    (F : ∀ (w : World) (mg : Str → Option Value) (fa : Addr) (h : Heap), YP w h → h.Ns mainGlobals mg → mg d.name = some (.ref fa) → ∃ K : PySem.W.Frag, K.In h ∧ LawAtB l w K (CX w) k n x mg fa h)
    (hCX : ∀ (w : World) (H : Hp) (s : Shared) (e : Value) (s' : Shared), CX w [] H s (fun _ _ _ => False) e s' → False) : PySem.W.WalkO q loose XP YP l.row.toRowW d [] (fun f vs => PySem.call f vs) := by
  refine Att.attach_callB hn hdf fun w s₀ s mg mb fa o pm cd doc a vs ns G Y _ _ _ hmg hobj hints hlen _ hg => ?_
  obtain ⟨K, kin, g, fd, cs, sp, tab, out, code, bind, want, does⟩ := F w mg fa _ Y G.T.g hmg
  have B : Ahead l.prog w K mg a cs s vs ns := ⟨kin, G.T.g, ⟨mb, G.T.b, G.T.builtins⟩, G.T.nolimit, hg, tab, out, code, G.T.bmain, hobj, hints, Nat.le_trans hlen hn2⟩
  obtain ⟨H, S⟩ := start_ex B
  refine codeAny_mono ((does _ (S.kin B) (S.nsp B B.glob) (S.tabB B)).does callerA [] s H ⟨[.ref a], []⟩ [.ref a] [.ref a] _ _ (fun _ => rfl) hr (S.env B) (bind s (.ref a)) (.cons rfl .nil) (want H a ns hlen S.tab S.sq)) fun r s' z => ?_
  match r, z with
  | .error c, z => exact (hCX w H s c s' z).elim
  | .ok (.ret u), ⟨v, H', os, bare, un, ok, rel, e⟩ =>
    have e : v = V.bl true := e
    subst e
    have rel : u = Value.bool true := rel
    subst rel
    exact ⟨rfl, S.old B un ok, os, bare⟩
end DE

/-! DEtab: tables of the module by words (X.get(a)); sorted(dict(pairs)). -/
namespace DE
open PySem PySem.Spec PyProof.Rows L2 PySem.Calls
/-- at X stands a table with just these words -/
def TbIs (K : PySem.W.Frag) (w : World) (mg : Str → Option Value) (q : Str × List (Str × Int)) : Prop :=
  ∃ a es n, mg q.1 = some (.ref a) ∧ KDict K w a es n ∧ ∀ z, ∃ r : Option Value, PySem.W.nsIn K a z = some r ∧ match q.2.lookup z with
    | some i => ∃ t, r = some (.int i t)
    | none => r = none
def tabV (kvs : List (Str × Int)) (z : Str) : V := match kvs.lookup z with
  | some i => .int i
  | none => .non
def tGt (kvs : List (Str × Int)) (te : TE) : TE := fun σ H Q => te σ H fun y H1 => ∃ z, y = .str z ∧ Q (tabV kvs z) H1
theorem star_cons1 {e : Expr} {es : List Expr} {env : PySem.Env} (h : notStar e = true) : starEach (e :: es) env = (false, eval e env) :: starEach es env := by
  cases e <;> first | rfl | cases h
section
variable {X : Cx}
theorem pe_gget {x : Str} {kvs : List (Str × Int)} {p ap cp : Pos} {e : Expr} {te : TE} (T : TbIs X.K X.w X.mg (x, kvs)) (hg : Gl X x) (hd : (x == ("__debug__" : Str)) = false) (he : PE X e te) (hs : notStar e = true) (hl : (ap.endLine == cp.line) = true) :
    PE X (.Call (.Attribute (.Name x p) "get" ap) [e] [] cp) (tGt kvs te) := by
  obtain ⟨a, es, n, hm, D, look⟩ := T
  have tr : backTo cp (starEach [e] X.env) = [(false, eval e X.env)] := by rw [star_cons1 hs]; rfl
  refine ⟨fun pins s σ H Q I h => ?_⟩
  refine wpAny_Call_method (T := "dict") rfl (by rw [tr]; rfl) hl PySem.F.plainAttrs_dict PySem.F.slot_dict_get PySem.F.type_dict_get (thn ((pe_glob (v := .ref a) hg hm rfl hd).run pins s σ H (fun v H1 => v = .ref a ∧ te σ H1 fun y H2 => ∃ z, y = .str z ∧ Q (tabV kvs z) H2) I ⟨rfl, h⟩) fun u s1 ⟨v, H1, I1, rx, ev, q1⟩ => ?_)
  subst ev
  obtain rfl : u = Value.ref a := rx
  refine ⟨kd_type D I1, fun b q => ?_, ?_⟩
  · cases q
    exact ⟨_, I1.kIn _ _ D.at_, rfl⟩
  rw [tr]
  refine Calls.callWith_builtin rfl (Calls.evalArgs_plain (Calls.spliced_cons (thn (he.run pins s1 σ H1 _ I1 q1) fun iv s2 ⟨y, H2, I2, ry, z, ey, q2⟩ => Calls.spliced_nil ?_)))
  subst ey
  obtain ⟨t, rfl⟩ := ry
  obtain ⟨r, e1, e2⟩ := look z
  refine call_meetsIn PySem.F.slot_dict_get (kd_type D I2) PySem.F.entry_dict_get (PySem.F.args_dict_get_2 _ _) (meets_dict_get (PySem.strKind X.prog X.w) a (PySem.strKind_is X.prog X.w z t) D.low) ⟨_, PySem.W.mapOf_K (prog := X.prog) I2.kIn D.at_ D.lit, ?_⟩
  rw [PySem.W.find_K D.at_ e1]
  refine ⟨tabV kvs z, H2, I2.tok _, ?_, q2⟩
  unfold tabV
  cases e3 : kvs.lookup z with
  | none =>
    rw [e3] at e2
    subst e2
    rfl
  | some i =>
    rw [e3] at e2
    obtain ⟨t', rfl⟩ := e2
    exact ⟨t', rfl⟩
end
/-! ### sorted(dict(pairs)) -/
theorem keys_putK {κ : Type} [DecidableEq κ] (kvs : List (κ × V)) (k : κ) (v : V) : (putK kvs k v).map (·.1) = if k ∈ kvs.map (·.1) then kvs.map (·.1) else kvs.map (·.1) ++ [k] := by
  unfold putK
  have e : (kvs.any fun kv => decide (kv.1 = k)) = true ↔ k ∈ kvs.map (·.1) := by
    simp only [List.any_eq_true, decide_eq_true_eq, List.mem_map]
  by_cases q : k ∈ kvs.map (·.1)
  · rw [if_pos (e.mpr q), if_pos q, List.map_map]
    refine List.map_congr_left fun a _ => ?_
    show (if a.1 = k then (a.1, v) else a).1 = a.1
    split <;> rfl
  · rw [if_neg (fun z => q (e.mp z)), if_neg q, List.map_append]
    rfl
theorem keys_mergeK : ∀ (more kvs : List (Key × V)), (kvs.map (·.1)).Nodup → ((mergeK kvs more).map (·.1)).Nodup ∧ ∀ k, k ∈ (mergeK kvs more).map (·.1) ↔ k ∈ kvs.map (·.1) ∨ k ∈ more.map (·.1)
  | [], kvs, h => ⟨h, fun k => by simp [mergeK]⟩
  | q :: r, kvs, h => by
    have e := keys_putK kvs q.1 q.2
    have nd : ((putK kvs q.1 q.2).map (·.1)).Nodup := by
      rw [e]
      split
      · exact h
      · rename_i z
        exact List.nodup_append.mpr ⟨h, List.nodup_cons.mpr ⟨List.not_mem_nil, List.nodup_nil⟩, fun a ha b hb => by
          rw [List.mem_singleton.mp hb]
          intro z2
          exact z (z2 ▸ ha)⟩
    obtain ⟨h1, h2⟩ := keys_mergeK r (putK kvs q.1 q.2) nd
    refine ⟨h1, fun k => (h2 k).trans ?_⟩
    rw [e, List.map_cons, List.mem_cons]
    by_cases z : q.1 ∈ kvs.map (·.1)
    · rw [if_pos z]
      constructor
      · rintro (a | a)
        · exact .inl a
        · exact .inr (.inr a)
      · rintro (a | rfl | a)
        · exact .inl a
        · exact .inl z
        · exact .inr a
    · rw [if_neg z, List.mem_append, List.mem_singleton]
      constructor
      · rintro ((a | a) | a)
        · exact .inl a
        · exact .inr (.inl a)
        · exact .inr (.inr a)
      · rintro (a | a | a)
        · exact .inl (.inl a)
        · exact .inl (.inr a)
        · exact .inr a
theorem insI_mem {x y : Int} : ∀ {l : List Int}, y ∈ insI x l ↔ y = x ∨ y ∈ l
  | [] => by simp [insI]
  | z :: l => by
    unfold insI
    split
    · simp
    · split
      · rename_i h1 h2
        subst h2
        simp
      · rw [List.mem_cons, insI_mem (l := l), List.mem_cons]
        constructor
        · rintro (a | a | a)
          · exact .inr (.inl a)
          · exact .inl a
          · exact .inr (.inr a)
        · rintro (a | a | a)
          · exact .inr (.inl a)
          · exact .inl a
          · exact .inr (.inr a)
theorem insI_pw {x : Int} : ∀ {l : List Int}, l.Pairwise (· < ·) → (insI x l).Pairwise (· < ·)
  | [], _ => List.pairwise_singleton _ _
  | z :: l, h => by
    obtain ⟨h1, h2⟩ := List.pairwise_cons.mp h
    unfold insI
    split
    · rename_i q
      exact List.pairwise_cons.mpr ⟨fun b hb => by
        rcases List.mem_cons.mp hb with rfl | hb
        · exact q
        · exact Int.lt_trans q (h1 b hb), h⟩
    · split
      · exact h
      · rename_i q1 q2
        refine List.pairwise_cons.mpr ⟨fun b hb => ?_, insI_pw h2⟩
        rcases insI_mem.mp hb with rfl | hb
        · omega
        · exact h1 b hb
theorem setI_mem {y : Int} : ∀ {l : List Int}, y ∈ setI l ↔ y ∈ l
  | [] => by simp [setI]
  | z :: l => by
    show y ∈ insI z (setI l) ↔ _
    rw [insI_mem, setI_mem (l := l), List.mem_cons]
theorem setI_pw : ∀ (l : List Int), (setI l).Pairwise (· < ·)
  | [] => .nil
  | z :: l => insI_pw (setI_pw l)
theorem setI_of {ys ks : List Int} (hm : ∀ y, y ∈ ys ↔ y ∈ ks) (nd : ys.Nodup) (pw : ys.Pairwise (· ≤ ·)) : ys = setI ks := by
  have p : ys.Perm (setI ks) := (List.perm_ext_iff_of_nodup nd ((setI_pw ks).imp fun h => Int.ne_of_lt h)).mpr fun y => (hm y).trans setI_mem.symm
  exact p.eq_of_pairwise (le := (· ≤ ·)) (fun a b _ _ h1 h2 => Int.le_antisymm h1 h2) pw ((setI_pw ks).imp fun h => Int.le_of_lt h)
theorem firsts_rp {K : PySem.W.Frag} {H : Hp} {w : Wd} : ∀ {ds : List D} {vs : List V} {ks : List Int}, RpL K H w vs ds → firsts? ds = some ks →
    ∃ (ps : List Addr) (kvs : List (Key × V)), vs = ps.map V.ref ∧ Paired (fun p kv => SqT K H p [kV kv.1, kv.2]) ps kvs ∧ kvs.map (·.1) = ks.map Sum.inl
  | [], vs, ks, r, h => by
    cases r
    cases h
    exact ⟨[], [], rfl, .nil, rfl⟩
  | d :: ds, vs, ks, r, h => by
    cases r with
    | cons r1 r2 =>
      unfold firsts? at h
      split at h
      · cases ‹_ = []›
      · rename_i i e rest heq
        injection heq with h1 h2
        subst h1 h2
        cases r1 with
        | tup hq rl =>
          cases rl with
          | cons a1 rl2 =>
            cases rl2 with
            | cons a2 rl3 =>
              cases rl3
              cases a1
              cases e3 : firsts? ds with
              | none => rw [e3] at h; cases h
              | some ks' =>
                rw [e3] at h
                cases h
                obtain ⟨ps, kvs, rfl, hp, hk⟩ := firsts_rp r2 e3
                exact ⟨_ :: ps, (Sum.inl i, _) :: kvs, rfl, .cons hq hp, by rw [List.map_cons, List.map_cons, hk]⟩
      · cases h
section
variable {X : Cx}
/-- dict(pairs), the firsts ints -/
def rDpI (K : PySem.W.Frag) : List V → Hp → VK → Prop := fun xs H Q => ∃ (a : Addr) (ps : List Addr) (kvs : List (Key × V)) (ks : List Int), xs = [.ref a] ∧ SqL K H a (ps.map V.ref) ∧ Paired (fun p kv => SqT K H p [kV kv.1, kv.2]) ps kvs ∧ kvs.map (·.1) = ks.map Sum.inl ∧ ks.length < 64 ∧
  ∀ p, H p = none → Q (.ref p) (upd H p (.dK (mergeK [] kvs)))
/-- sorted of that dict -/
def rSdI : List V → Hp → VK → Prop := fun xs H Q => ∃ (a : Addr) (kvs : List (Key × V)) (ks : List Int), xs = [.ref a] ∧ H a = some (.dK (mergeK [] kvs)) ∧ kvs.map (·.1) = ks.map Sum.inl ∧ ks.length < 64 ∧
  ∀ p, H p = none → Q (.ref p) (upd H p (.lst ((setI ks).map V.int)))
theorem cr_dpI (hc : X.calm = true) : CallR X (.type "dict") (rDpI X.K) := fun pins s σ H xs us Q I r h => by
  obtain ⟨a, ps, kvs, ks, h1, h2, h3, h4, h5, h6⟩ := h
  exact call_dictP hc pins s σ H xs us Q I r ⟨a, ps, kvs, h1, h2, h3, h6⟩
theorem inl_list : ∀ {l : List Key} {ks : List Int}, (∀ k ∈ l, k ∈ ks.map Sum.inl) → ∃ js : List Int, l = js.map Sum.inl
  | [], _, _ => ⟨[], rfl⟩
  | k :: l, ks, h => by
    obtain ⟨i, _, rfl⟩ := List.mem_map.mp (h k List.mem_cons_self)
    obtain ⟨js, rfl⟩ := inl_list (l := l) (ks := ks) fun k hk => h k (List.mem_cons_of_mem _ hk)
    exact ⟨i :: js, rfl⟩
theorem cr_sdI (hc : X.calm = true) : CallR X (.builtin "sorted") rSdI := fun pins s σ H xs us Q I r h => by
  obtain ⟨a, kvs, ks, h1, h2, h3, h4, h5⟩ := h
  obtain ⟨nd, mem⟩ := keys_mergeK kvs [] List.nodup_nil
  obtain ⟨js, ej⟩ := inl_list (l := (mergeK [] kvs).map (·.1)) (ks := ks) fun k hk => by
    rcases (mem k).mp hk with z | z
    · cases z
    · rw [h3] at z; exact z
  have hm : ∀ y, y ∈ js ↔ y ∈ ks := fun y => by
    have q := mem (Sum.inl y)
    rw [ej, h3] at q
    simpa using q
  have nj : js.Nodup := by
    rw [ej] at nd
    exact (List.pairwise_map.mp nd).imp fun h e => h (congrArg _ e)
  have lj : js.length < 64 := by
    have z := length_mergeK kvs []
    have e1 := congrArg List.length ej
    have e2 := congrArg List.length h3
    simp only [List.length_map, List.length_nil] at e1 e2 z
    omega
  exact call_sortedDI hc pins s σ H xs us Q I r ⟨a, _, js, h1, .of h2, ej, lj, fun ys p py pw hp => by
    rw [setI_of (ys := ys) (ks := ks) (fun y => (py.mem_iff).trans (hm y)) (py.nodup_iff.mpr nj) pw]
    exact h5 p hp⟩
theorem pe_sdict {p1 p2 q1 q2 : Pos} {e : Expr} {te : TE} (hc : X.calm = true) (hg1 : Gl X "sorted") (hm1 : X.mg "sorted" = none) (hg2 : Gl X "dict") (hm2 : X.mg "dict" = none) (he : PE X e te) (hs : notStar e = true) :
    PE X (.Call (.Name "sorted" p1) [.Call (.Name "dict" p2) [e] [] q2] [] q1) (tCB rSdI (tCons (tCB (rDpI X.K) (tCons te tNil)) tNil)) :=
  pe_callB (cr_sdI hc) hg1 hm1 (by decide +kernel) (pa_cons (pe_callTy (cr_dpI hc) hg2 hm2 (by decide +kernel) (pa_cons he pa_nil (star_cons1 hs)) (by decide) (by decide) (star_cons1 hs) rfl) pa_nil rfl) (by decide) (by decide) rfl rfl
end
end DE

/-! DErev: x[::-1] of a list or a tuple. -/
namespace DE
open PySem PySem.Spec PyProof.Rows L2 PySem.Calls
section
variable {prog : Program} {w : World} {A : Around} {E : Value → Shared → Prop} {s : Shared}
theorem adjust_rev (n : Nat) : Builtin.Slice.sliceAdjust none none (-1) (n : Int) = ((n : Int) - 1, -1) := by
  unfold Builtin.Slice.sliceAdjust
  rfl
theorem places_rev (n : Nat) : Builtin.Slice.slicePlaces ((n : Int) - 1) (-1) (-1) = n := by
  unfold Builtin.Slice.slicePlaces
  have h1 : ¬ ((-1 : Int) > 0) := by decide
  simp only [h1, if_false]
  split <;> simp <;> omega
theorem sliceApplied_rev {sl : Addr} {vk : Value} {n : Nat} {Q : Int × Int × Nat → Shared → Prop} (hs : s.heap.IsSliceOf sl .none .none vk) (pk : IsPart vk (some (-1)))
    (h : Q ((n : Int) - 1, -1, n) s) : wpAny (model prog w) A (Builtin.Slice.sliceApplied (.ref sl) (pure (n : Int))) Q E s := by
  obtain ⟨os, hos, hcs, hds⟩ := id hs
  unfold Builtin.Slice.sliceApplied Builtin.Slice.sliceFields
  refine wpAny_bind (wpAny_bind (wpAny_field hos hds (x := .none) rfl (wpAny_bind (wpAny_field hos hds (x := .none) rfl (wpAny_bind (wpAny_field hos hds (x := vk) rfl (wpAny_pure ?_)))))))
  refine wpAny_bind (HT.slicePart_ pk ?_)
  show wpAny _ _ (if ((-1 : Int) == 0) = true then _ else _) _ _ s
  rw [if_neg (by decide)]
  refine wpAny_bind (HT.slicePart_ .none (wpAny_bind (HT.slicePart_ .none (wpAny_bind (wpAny_pure ?_)))))
  show wpAny _ _ (match Builtin.Slice.sliceAdjust none none (-1) (n : Int) with | (lo, hi) => pure (lo, (-1 : Int), Builtin.Slice.slicePlaces lo hi (-1))) _ _ s
  rw [adjust_rev]
  show wpAny _ _ (pure ((n : Int) - 1, (-1 : Int), Builtin.Slice.slicePlaces ((n : Int) - 1) (-1) (-1))) _ _ s
  rw [places_rev]
  exact wpAny_pure h
theorem pick_rev (xs : Array Value) : ((List.range xs.size).filterMap fun (m : Nat) => xs[(((xs.size : Int) - 1) + (m : Int) * (-1)).toNat]?).toArray = xs.toList.reverse.toArray := by
  have e : (fun (m : Nat) => xs[(((xs.size : Int) - 1) + (m : Int) * (-1)).toNat]?) = fun m => xs[xs.size - 1 - m]? := by
    funext m
    have : (((xs.size : Int) - 1) + (m : Int) * (-1)).toNat = xs.size - 1 - m := by omega
    rw [this]
  have e2 : (List.range xs.size).filterMap (fun m => xs[xs.size - 1 - m]?) = ((List.range xs.size).map fun k => xs.size - 1 - k).filterMap (xs[·]?) := by
    rw [List.filterMap_map]
    rfl
  rw [e, e2, PySem.W.krv_range, List.filterMap_reverse, PySem.W.krv_all]
theorem getItem_tuple_rev {t sl : Addr} {items : Array Value} {vk : Value} {Q : Value → Shared → Prop} (ht : IsTup s.heap t items) (hs : s.heap.IsSliceOf sl .none .none vk) (pk : IsPart vk (some (-1)))
    (h : Q (.ref s.heap.objs.size) { s with heap := s.heap.push { cls := .type "tuple", data := .seq items.toList.reverse.toArray } })
    (hsz : items.size ≤ sizeLine) : wpAny (model prog w) A (getItem (.ref t) (.ref sl)) Q E s := by
  have htake : sizeOk (.seq items.toList.reverse.toArray) := by
    show items.toList.reverse.toArray.size ≤ sizeLine
    rw [List.size_toArray, List.length_reverse, Array.length_toList]
    omega
  obtain ⟨os, hos, hcs, hds⟩ := id hs
  have hTs : s.TypeIs (.ref sl) "slice" := ⟨os, hos, hcs⟩
  unfold getItem
  try with_reducible refine wpAny_holding ?_
  first | refine wpAny_bind (wpAny_pure ?_) | skip
  refine wpAny_bind (wpAny_sequenceKey ht.typeIs (by decide) ?_)
  refine wpAny_bind (wpAny_callSpecial?_slot (name := Str.ofString "__getitem__") ht.typeIs PyProof.Rows.slot_tuple_getitem
    (wpAny_call_entry PyProof.Rows.slot_tuple_getitem ht.typeIs entry_tuple_getitem ?_ (args_tuple_getitem _ _)))
  show wpAny _ _ (Builtin.Tuple.tupleItemsOf (.ref t) >>= _) _ _ s
  refine wpAny_bind (tupleItemsOf_ ht ?_)
  refine wpAny_bind (wpAny_typeOf hTs ?_)
  rw [if_pos (by decide)]
  refine wpAny_bind (sliceApplied_rev hs pk ?_)
  have hno : ¬ ((((items.size : Int) - 1) == 0 && (-1 : Int) == 1 && items.size == items.size) = true) := by
    intro q
    rw [Bool.and_eq_true, Bool.and_eq_true] at q
    exact absurd q.1.2 (by decide)
  show wpAny _ _ (if ((((items.size : Int) - 1) == 0 && (-1 : Int) == 1 && items.size == items.size) = true) then _ else _) _ _ s
  rw [if_neg hno, pick_rev]
  first
    | exact wpAny_bind (m := Builtin.Tuple.tupleExact _) (wpAny_newObj_type (wpAny_pure ⟨_, rfl, wpAny_pure h⟩) htake)
    | exact wpAny_bind (m := Builtin.Tuple.tupleExact _) (wpAny_newObj_type (wpAny_bind (wpAny_pure (wpAny_pure ⟨_, rfl, wpAny_pure h⟩))) htake)
    | exact wpAny_bind (wpAny_bind (m := Builtin.Tuple.tupleExact _) (wpAny_newObj_type (wpAny_pure (wpAny_pure ⟨_, rfl, wpAny_pure h⟩)) htake))
    | exact wpAny_bind (wpAny_bind (m := Builtin.Tuple.tupleExact _) (wpAny_newObj_type (wpAny_pure ⟨_, rfl, wpAny_pure h⟩) htake))
end
/-- x[::-1], by values -/
def rRv (K : PySem.W.Frag) (x : V) (H : Hp) (Q : VK) : Prop := ∃ a xs, x = .ref a ∧ ((SqL K H a xs ∧ ∀ p, H p = none → Q (.ref p) (upd H p (.lst xs.reverse))) ∨ (SqT K H a xs ∧ ∀ p, H p = none → Q (.ref p) (upd H p (.tup xs.reverse))))
def tRv (K : PySem.W.Frag) (te : TE) : TE := fun σ H Q => te σ H fun x H1 => rRv K x H1 Q
section
variable {X : Cx}
theorem pe_rev {e : Expr} {te : TE} {j : Nat} {p p2 p3 p4 : Pos} (he : PE X e te) : PE X (.Subscript e (.Slice none none (some (.UnaryOp .USub (.Constant (.int 1) j p4) p3)) p2) p) (tRv X.K te) := by
  have st : PE X (.UnaryOp .USub (.Constant (.int 1) j p4) p3) _ := pe_un un_neg pe_int
  refine ⟨fun pins s σ H Q I h => ?_⟩
  refine Subscript_ (thn (he.run pins s σ H _ I h) fun v s1 ⟨x, H1, I1, r1, q1⟩ => ?_)
  refine wpAny_Slice ?_
  rw [evalPart_none]
  refine wpAny_pure (wpAny_pure ?_)
  show wpAny _ _ (eval (.UnaryOp .USub (.Constant (.int 1) j p4) p3) X.env) _ _ _
  refine thn (st.run pins s1 σ H1 (fun v H2 => v = .int (-1) ∧ H2 = H1) I1 ⟨1, rfl, rfl, rfl⟩) fun vk s3 ⟨k, H3, I3, rk, ek, eh⟩ => ?_
  subst ek eh
  obtain ⟨tk, rfl⟩ := rk
  obtain ⟨a, xs, rfl, q1⟩ := q1
  cases r1
  have I4 : L2.Inv X pins σ H3 { s3 with heap := s3.heap.push { cls := .type "slice", data := .fields #[.none, .none, .int (-1) tk] } } := I3.kept (t' := s3.toks) fun b ob q => Heap.get?_push_of_some _ q
  show wpAny (model X.prog X.w) X.A (subscriptTail e (.Slice none none (some (.UnaryOp .USub (.Constant (.int 1) j p4) p3)) p2) (.ref a) (.ref s3.heap.objs.size)) (EP X pins σ Q) X.xe { s3 with heap := s3.heap.push { cls := .type "slice", data := .fields #[.none, .none, .int (-1) tk] } }
  rcases q1 with ⟨hx, q⟩ | ⟨hx, q⟩
  · obtain ⟨its, r, ht, hz⟩ := I4.list hx
    refine tail_any (ops := [.ref a, .ref s3.heap.objs.size]) ht.isList.typeIs slot_list_getitem.lookup (wpAny_getItem_list_slice ht.isList (Heap.IsSliceOf.new ..) .none .none (.int (-1) tk) (by decide) ?_ (by rw [List.size_toArray, ← r.length]; exact hz)) (by with_unfolding_all rfl)
    rw [PySem.W.krv_pick]
    refine ⟨.ref _, _, I4.laid (t' := s3.toks) (o := .lst xs.reverse) (fun b ob q => Heap.get?_push_of_some _ q) (Nat.le_refl _) ?_, rfl, q _ (I4.hok.fresh (Nat.le_refl _))⟩
    exact ⟨by rw [List.length_reverse]; exact hz, _, 0, r.reverse, Heap.get?_push_size _ rfl⟩
  · obtain ⟨its, r, ht, hz⟩ := I4.tuple hx
    refine tail_any (ops := [.ref a, .ref s3.heap.objs.size]) ht.typeIs PyProof.Rows.slot_tuple_getitem.lookup (getItem_tuple_rev ht (Heap.IsSliceOf.new ..) (.int (-1) tk) ?_ (by rw [List.size_toArray, ← r.length]; exact hz)) (by with_unfolding_all rfl)
    refine ⟨.ref _, _, I4.laid (t' := s3.toks) (o := .tup xs.reverse) (fun b ob q => Heap.get?_push_of_some _ q) (Nat.le_refl _) ?_, rfl, q _ (I4.hok.fresh (Nat.le_refl _))⟩
    exact ⟨by rw [List.length_reverse]; exact hz, _, r.reverse, IsTup.new _ _⟩
end
end DE

/-! DEread: readings of terms, and the steps of the big induction that need no induction. -/
namespace DE
open PySem PySem.Spec PyProof.Rows L2

section
variable (K : PySem.W.Frag) (H0 : Hp) (w0 : Wd) (xk : Exn → S → Prop) (ω : List Nat)
def tD (m : Md) (f : Env → M D) : TE := fun σ H Q => ∃ w ρ, Rel K H0 w0 ω σ H w ρ ∧ (f ρ w.S).wp (Post K H w m Q) xk
def PostT (K : PySem.W.Frag) (H : Hp) (w : Wd) (Q : Bool → Hp → Prop) : Bool → S → Prop := fun b S' => ∀ H' w', w'.S = S' → Ext H w H' w' → WOk K H' w' → Q b H'
def tT (f : Env → M Bool) : TT := fun σ H Q => ∃ w ρ, Rel K H0 w0 ω σ H w ρ ∧ (f ρ w.S).wp (PostT K H w Q) xk
def PostL (K : PySem.W.Frag) (H : Hp) (w : Wd) (Q : List V → Hp → Prop) : List D → S → Prop := fun ds S' => ∀ vs H' w', w'.S = S' → Ext H w H' w' → WOk K H' w' → RpL K H' w' vs ds → Q vs H'
def PostLk (K : PySem.W.Frag) (H : Hp) (w : Wd) (Q : List V → Hp → Prop) : List D → S → Prop := fun ds S' => ∀ vs H' w', w'.S = S' → Ext H w H' w' → WOk K H' w' → Paired (Look K H' w') vs ds → Q vs H'
/-- items that are kept; items that are looked at -/
def tA (f : Env → M (List D)) : TA := fun σ H Q => ∃ w ρ, Rel K H0 w0 ω σ H w ρ ∧ (f ρ w.S).wp (PostL K H w Q) xk
def tAk (f : Env → M (List D)) : TA := fun σ H Q => ∃ w ρ, Rel K H0 w0 ω σ H w ρ ∧ (f ρ w.S).wp (PostLk K H w Q) xk
def PostI (K : PySem.W.Frag) (H : Hp) (w : Wd) (L : Bool) (R : It → Hp → Prop) : List D → S → Prop := fun ds S' => ∀ J H' w', w'.S = S' → Ext H w H' w' → WOk K H' w' → JIs K H' w' (fun h => L = false → Keep H' w' h) J ds → R J H'
/-- L: the list is nobody's to write -/
def tI (L : Bool) (f : Env → M (List D)) : TI := fun σ H R => ∃ w ρ, Rel K H0 w0 ω σ H w ρ ∧ (f ρ w.S).wp (PostI K H w L R) xk
end
theorem pe_weak {X : Cx} {e : Expr} {t t' : TE} (h : PE X e t) (i : ∀ σ H Q, t' σ H Q → t σ H Q) : PE X e t' := ⟨fun pins s σ H Q I q => h.run pins s σ H Q I (i σ H Q q)⟩
theorem pt_weak {X : Cx} {e : Expr} {t t' : TT} (h : PT X e t) (i : ∀ σ H Q, t' σ H Q → t σ H Q) : PT X e t' := ⟨fun pins s σ H Q I q => h.run pins s σ H Q I (i σ H Q q)⟩
theorem pa_weak {X : Cx} {e : List Expr} {t t' : TA} (h : PA X e t) (i : ∀ σ H Q, t' σ H Q → t σ H Q) : PA X e t' := ⟨fun pos pins s σ H Q I q => h.run pos pins s σ H Q I (i σ H Q q)⟩
theorem pi_weak {X : Cx} {tg e : Expr} {t t' : TI} (h : PI X tg e t) (i : ∀ σ H Q, t' σ H Q → t σ H Q) : PI X tg e t' := ⟨fun pins s σ H Q I q => h.run pins s σ H Q I (i σ H Q q)⟩

/-! ### what a def of the table promises -/
def spF (Z : Exs) (Φf : List D → M D) (K : PySem.W.Frag) (F : FnT) : Sp := fun vs H Q E => ∃ w ds, vs.length = F.ar ∧ WOk K H w ∧ RpL K H w vs ds ∧ w.T = Z.tb ∧ (Φf ds w.S).wp (Post K H w (md F.own) Q) (fun x S' => ∀ cl dx H' w', w'.S = S' → Ext H w H' w' → WOk K H' w' → Z.XR K H' w' x cl dx → E cl dx H')
/-- a def stands, and keeps its promise k calls deep -/
def FnIs (Z : Exs) (c : Ctx) (P : Program) (w : World) (K : PySem.W.Frag) (mg : Str → Option Value) (base : Heap) (k : Nat) (f : Nat) (F : FnT) : Prop :=
  ∃ a fd ps, ps.length = F.ar ∧ mg F.name = some (.ref a) ∧ PySem.W.keepIn K (.ref a) = true ∧ Binds K fd ps [] ∧ FnB F.gd P w K mg base Z.CX (k + 2) a fd ps (spF Z (c.Φ f) K F)
def FnsOk (Z : Exs) (c : Ctx) (T : Tab) (P : Program) (w : World) (K : PySem.W.Frag) (mg : Str → Option Value) (base : Heap) (k : Nat) : Prop := ∀ f F, T.fn[f]? = some F → FnIs Z c P w K mg base k f F
/-- a def that catches errors stands -/
def TdIs (K : PySem.W.Frag) (mg : Str → Option Value) (t : Td) : Prop := ∃ (g : Addr) (a : Str) (Ng : List Str) (pg : Arguments) (bg : List Stmt) (sg : Scope) (fd : FuncData),
  mg t.nm = some (.ref g) ∧ PySem.W.keepIn K (.ref g) = true ∧ FunD K t.nm t.nm pg bg sg [] [] g fd ∧ Binds K fd [a] [] ∧ FnScope Ng [a] sg ∧ mTd Ng sg a t bg = true ∧ okN a = true ∧ Vis sg a ∧ ∀ h ∈ t.hs, ∃ c, mg h.cls = some c
/-- around a def that makes lambdas -/
structure LmOk (Z : Exs) (c : Ctx) (T : Tab) (k : Nat) (X : Cx) : Prop where
  tb : ∃ cd Pt, X.env.code = .ref cd ∧ LamX.TabB X.base X.mg cd Pt ∧ (Pt, X.env.qual ++ "<lambda>") ∈ Z.tb ∧ ∀ p ∈ Z.tb, p.1 = Pt → p.2 = X.env.qual ++ "<lambda>"
  lo : ∀ j, k = j + 2 → ∃ c' : Ctx, (∀ b ρ, c.Λ b ρ = evE c' ρ b) ∧ c'.xt = c.xt ∧ c'.Γ = c.Γ ∧ FnsOk Z c' T X.prog X.w X.K X.mg X.base j
  lz : k < 2 → ∀ b ρ, c.Λ b ρ = stuck
/-- what stands around -/
structure XOk (Z : Exs) (c : Ctx) (T : Tab) (k : Nat) (sc : Scope) (X : Cx) (H0 : Hp) (w0 : Wd) (xk : Exn → S → Prop) (EX : XK) : Prop where
  nd : X.N.Nodup
  calm : X.calm = true
  room : Room (k + 2) X.A
  gd : T.gd = true → X.A.guards = some []
  scope : X.env.scope = sc
  eP : Z.P = X.prog
  ew : Z.w = X.w
  em : Z.mg = X.mg
  xt : c.xt = T.xt
  xs : Z.xcs = T.xt.xcs
  wT : w0.T = Z.tb
  fns : FnsOk Z c T X.prog X.w X.K X.mg X.base k
  xcs : ∀ r ∈ T.xt.xcs, XcIs X.prog X.w X.K X.mg X.base Z.CX 1 r
  xfs : ∀ r ∈ T.xt.xcs, ∀ C, X.mg r.nm = some (.ref C) → XfC X.K C ∧ PySem.W.findIn X.K (.ref C) r.fl = some none
  subs : ∀ r ∈ T.xt.xcs, ∀ y b C d, T.xt.sub r.nm y = some b → X.mg r.nm = some (.ref C) → X.mg y = some d → PySem.W.exmOne X.K (.ref C) d = some b
  tds : ∀ (i : Nat) t, T.xt.tds[i]? = some t → TdIs X.K X.mg t
  lm : T.lm = true → LmOk Z c T k X
  gls : ∀ g x, T.gl[g]? = some x → ∃ v u, X.mg x = some u ∧ RelV v u ∧ ∀ H w, Rp X.K H w v (c.Γ g)
  bi : ∀ b, X.mg (biN b) = none
  ty : ∀ t, X.mg (tyN t) = none
  isi : X.mg ("isinstance" : Str) = none
  rng : X.mg ("range" : Str) = none
  enu : X.mg ("enumerate" : Str) = none
  zip : X.mg ("zip" : Str) = none
  tbs : ∀ q ∈ T.tbs, TbIs X.K X.w X.mg q
  pass : Passes Z.CX X EX
  lk : ∀ x S', xk x S' → ∀ cl dx H' w', w'.S = S' → Ext H0 w0 H' w' → WOk X.K H' w' → Z.XR X.K H' w' x cl dx → EX cl dx H'

/-- no error is raised -/
def NX {α : Type} (m : M α) : Prop := ∀ s x s', m s ≠ .exc x s'
theorem NX.pure {α : Type} (a : α) : NX (Pure.pure a : M α) := fun _ _ _ h => by cases h
theorem NX.stuck {α : Type} : NX (stuck : M α) := fun _ _ _ h => by cases h
theorem NX.bind {α β : Type} {m : M α} {f : α → M β} (h : NX m) (g : ∀ a, NX (f a)) : NX (m >>= f) := fun s x s' e => by
  have e' : M.bind m f s = .exc x s' := e
  unfold M.bind at e'
  cases q : m s with
  | ok a s1 => rw [q] at e'; exact g a s1 x s' e'
  | exc y s1 => exact h s y s1 q
  | stuck => rw [q] at e'; cases e'
theorem NX.ite {α : Type} {p : Prop} [Decidable p] {m n : M α} (h : NX m) (g : NX n) : NX (if p then m else n) := by
  by_cases q : p
  · rw [if_pos q]; exact h
  · rw [if_neg q]; exact g
theorem NX.wp {α : Type} {m : M α} (h : NX m) {s : S} {Q : α → S → Prop} {xk : Exn → S → Prop} (q : (m s).wp Q xk) : (m s).wp Q NoX := by
  cases e : m s with
  | ok a s1 => rw [e] at q; exact q
  | exc y s1 => exact absurd e (h s y s1)
  | stuck => rw [e] at q; exact q
theorem nx_bin (op : Bop) (a b : D) : NX (binD op a b) := by
  cases op <;> cases a <;> cases b <;> first
    | exact NX.pure _
    | exact NX.stuck
    | exact NX.ite (NX.pure _) NX.stuck
theorem nx_eq (a b : D) : NX (eqD a b) := by
  rcases eqD_ds a b with ⟨x, y, rfl, rfl, e⟩ | e
  · rw [e]; exact NX.pure _
  · rw [e]; exact NX.ite (NX.pure _) NX.stuck
theorem nx_lt (a b : D) : NX (ltD a b) := NX.ite (NX.pure _) NX.stuck
theorem nx_le (a b : D) : NX (leD a b) := NX.ite (NX.pure _) NX.stuck
theorem nx_gt (a b : D) : NX (gtD a b) := NX.ite (NX.pure _) NX.stuck
theorem nx_ge (a b : D) : NX (geD a b) := NX.ite (NX.pure _) NX.stuck
theorem nx_in (a b : D) : NX (inD a b) := by
  cases b <;> first
    | exact NX.stuck
    | exact NX.ite (NX.pure _) NX.stuck
theorem nx_is (a b : D) : NX (isD a b) := by cases a <;> cases b <;> first | exact NX.pure _ | exact NX.stuck
theorem nx_cmp (op : Cop) (a b : D) : NX (cmpD op a b) := by
  cases op with
  | eq => exact nx_eq a b
  | ne => exact (nx_eq a b).bind fun _ => NX.pure _
  | lt => cases a <;> first | exact nx_lt _ _ | (cases b <;> first | exact NX.pure _ | exact nx_lt _ _)
  | le => cases a <;> first | exact nx_le _ _ | (cases b <;> first | exact NX.pure _ | exact nx_le _ _)
  | gt => cases a <;> first | exact nx_gt _ _ | (cases b <;> first | exact NX.pure _ | exact nx_gt _ _)
  | ge => cases a <;> first | exact nx_ge _ _ | (cases b <;> first | exact NX.pure _ | exact nx_ge _ _)
  | in_ => exact nx_in a b
  | nin => exact (nx_in a b).bind fun _ => NX.pure _
  | is_ => exact nx_is a b
  | isn => exact (nx_is a b).bind fun _ => NX.pure _
theorem nx_opt {α : Type} (o : Option α) : NX (optM o) := by cases o <;> first | exact NX.stuck | exact NX.pure _
theorem nx_sub (a b : D) : NX (subD a b) := by cases a <;> first | exact NX.stuck | (cases b <;> first | exact NX.stuck | exact nx_opt _)
theorem nx_slice (a : D) (l h : Option Int) : NX (sliceD a l h) := by cases a <;> first | exact NX.stuck | exact NX.pure _
theorem nx_int (a : D) : NX (intD a) := by cases a <;> first | exact NX.stuck | exact NX.pure _
theorem nx_bool (a : D) : NX (boolD a) := by cases a <;> first | exact NX.stuck | exact NX.pure _
theorem nx_items (a : D) : NX (itemsD a) := by cases a <;> first | exact NX.stuck | exact NX.pure _
theorem nx_optI (a : Option D) : NX (optI a) := by
  cases a with
  | none => exact NX.pure _
  | some a => cases a <;> first | exact NX.stuck | exact NX.pure _
theorem nx_isi (t : Ty) (a : D) : NX (isiD t a) := by cases t <;> cases a <;> first | exact NX.stuck | exact NX.pure _
theorem nx_optF {α : Type} (o : Option α) (f : α → M D) (h : ∀ a, NX (f a)) : NX (optF o f) := by
  cases o with
  | none => exact NX.stuck
  | some a => exact h a
theorem nx_sort (xs : List D) : NX (sortD xs) := NX.ite (NX.pure _) NX.stuck
theorem nx_bi (b : Bi) (ds : List D) : NX (biD b ds) := by
  cases ds with
  | nil => cases b <;> exact NX.stuck
  | cons x r =>
    cases r with
    | nil =>
      cases b <;> cases x <;> first
        | exact NX.stuck
        | exact NX.pure _
        | exact nx_sort _
        | exact nx_optF _ _ fun _ => NX.pure _
        | exact nx_optF _ _ fun _ => nx_optF _ _ fun _ => NX.pure _
        | exact NX.ite (NX.pure _) NX.stuck
    | cons y r =>
      cases r with
      | nil => cases b <;> cases x <;> first | exact NX.stuck | (cases y <;> first | exact NX.stuck | exact NX.pure _)
      | cons z r => cases b <;> cases x <;> first | exact NX.stuck | (cases y <;> exact NX.stuck)
theorem wpm {α : Type} {r : R α} {Q Q' : α → S → Prop} {Ex Ex' : Exn → S → Prop} (h : r.wp Q Ex) (hq : ∀ a s, Q a s → Q' a s) (he : ∀ x s, Ex x s → Ex' x s) : r.wp Q' Ex' := R.wp_mono h hq he
theorem wpq {α : Type} {r : R α} {Q Q' : α → S → Prop} {Ex : Exn → S → Prop} (h : r.wp Q Ex) (hq : ∀ a s, Q a s → Q' a s) : r.wp Q' Ex := R.wp_mono h hq fun _ _ z => z

section
variable {K : PySem.W.Frag} {H0 : Hp} {w0 : Wd} {xk : Exn → S → Prop} {ω : List Nat}
theorem Post.back {H H1 : Hp} {w w1 : Wd} {m : Md} {Q : VK} {d : D} {s : S} (e : Ext H w H1 w1) (h : Post K H w m Q d s) : Post K H1 w1 m Q d s := fun v H' w' es ex wo hv => h v H' w' es (e.trans ex) wo (by
  cases m with
  | sh => exact hv
  | own => exact Own.back e hv
  | look => exact hv)
theorem Val.ext {H H1 : Hp} {w w1 : Wd} {v : V} {d : D} (wo : WOk K H w) (e : Ext H w H1 w1) (h : Look K H w v d) : Look K H1 w1 v d := h.ext wo e
theorem tD_look {m : Md} {f : Env → M D} {σ : L2.St} {H : Hp} {Q : VK} (h : tD K H0 w0 xk ω .look f σ H Q) : tD K H0 w0 xk ω m f σ H Q := by
  obtain ⟨w, ρ, R, h⟩ := h
  exact ⟨w, ρ, R, wpq h fun d s q v H' w' es ex wo hv => q v H' w' es ex wo (Val.look hv)⟩
/-- a list that was just made is frozen -/
theorem tD_sh {f : Env → M D} {σ : L2.St} {H : Hp} {Q : VK} (h : tD K H0 w0 xk ω .sh f σ H Q) : tD K H0 w0 xk ω .own f σ H Q := by
  obtain ⟨w, ρ, R, h⟩ := h
  refine ⟨w, ρ, R, wpq h fun d s q v H' w' es ex wo hv => ?_⟩
  cases d with
  | lst ds =>
    obtain ⟨a, vs, rfl, g1, g2, nu, nb, g0⟩ := hv
    exact q _ H' (w'.fz a) es (ex.fz g0) (wo.fz g1 nb) (.lst (.inr rfl) g1 g2.fz)
  | _ => exact q v H' w' es ex wo hv
/-- one term's reading, then the rest -/
theorem tD_then {m : Md} {f : Env → M D} {σ : L2.St} {H : Hp} {Q : VK} {w : Wd} {ρ : Env} (R : Rel K H0 w0 ω σ H w ρ) {P : D → S → Prop} (h : (f ρ w.S).wp P xk)
    (n : ∀ d w1 H1 v, P d w1.S → Ext H w H1 w1 → Rel K H0 w0 ω σ H1 w1 ρ → Val K H H1 w1 m v d → Q v H1) : tD K H0 w0 xk ω m f σ H Q :=
  ⟨w, ρ, R, wpq h fun d s q v H' w' es ex wo hv => n d w' H' v (by rw [es]; exact q) ex (R.mono ex wo) hv⟩
theorem tT_then {f : Env → M Bool} {σ : L2.St} {H : Hp} {Q : Bool → Hp → Prop} {w : Wd} {ρ : Env} (R : Rel K H0 w0 ω σ H w ρ) {P : Bool → S → Prop} (h : (f ρ w.S).wp P xk)
    (n : ∀ d w1 H1, P d w1.S → Ext H w H1 w1 → Rel K H0 w0 ω σ H1 w1 ρ → Q d H1) : tT K H0 w0 xk ω f σ H Q :=
  ⟨w, ρ, R, wpq h fun d s q H' w' es ex wo => n d w' H' (by rw [es]; exact q) ex (R.mono ex wo)⟩
theorem rd_bin {f g : Env → M D} {h : D → D → M D} {m : Md} {σ : L2.St} {H : Hp} {Q : VK} (hy : tD K H0 w0 xk ω m (fun ρ => do let x ← f ρ; let y ← g ρ; h x y) σ H Q) (hx : ∀ a b, NX (h a b)) :
    tOp (rD K m h) (tD K H0 w0 xk ω .look f) (tD K H0 w0 xk ω .look g) σ H Q := by
  obtain ⟨w, ρ, R, hy⟩ := hy
  rw [wp_bind] at hy
  refine tD_then R hy fun x w1 H1 v hy e1 R1 l1 => ?_
  rw [wp_bind] at hy
  refine tD_then R1 hy fun y w2 H2 u hy e2 R2 l2 => ?_
  exact ⟨w2, x, y, R2.wo, Look.ext R1.wo e2 l1, l2, (hx x y).wp (wpq hy fun d s q => q.back (e1.trans e2))⟩
theorem rd_cmp {f g : Env → M D} {h : D → D → M Bool} {m : Md} {σ : L2.St} {H : Hp} {Q : VK} (hy : tD K H0 w0 xk ω m (fun ρ => do let x ← f ρ; let y ← g ρ; return .bl (← h x y)) σ H Q) (hx : ∀ a b, NX (h a b)) :
    tOp (rC K h) (tD K H0 w0 xk ω .look f) (tD K H0 w0 xk ω .look g) σ H Q := by
  obtain ⟨w, ρ, R, hy⟩ := hy
  rw [wp_bind] at hy
  refine tD_then R hy fun x w1 H1 v hy e1 R1 l1 => ?_
  rw [wp_bind] at hy
  refine tD_then R1 hy fun y w2 H2 u hy e2 R2 l2 => ?_
  rw [wp_bind] at hy
  refine ⟨w2, x, y, R2.wo, Look.ext R1.wo e2 l1, l2, (hx x y).wp (wpq hy fun d s q es => ?_)⟩
  have q' := Post.back (e1.trans e2) q
  rw [← es] at q'
  exact Post.bl R2.wo q'
theorem rd_test {f : Env → M D} {σ : L2.St} {H : Hp} {Q : Bool → Hp → Prop} (hy : tT K H0 w0 xk ω (fun ρ => do boolD (← f ρ)) σ H Q) :
    tB (tD K H0 w0 xk ω .look f) σ H Q := by
  obtain ⟨w, ρ, R, hy⟩ := hy
  rw [wp_bind] at hy
  refine tD_then R hy fun x w1 H1 v hy e1 R1 l1 => ?_
  cases x with
  | bl b =>
    obtain rfl := Look.bl l1
    exact ⟨b, rfl, hy H1 w1 rfl e1 R1.wo⟩
  | _ => exact hy.elim
theorem rd_cmpT {f g : Env → M D} {h : D → D → M Bool} {σ : L2.St} {H : Hp} {Q : Bool → Hp → Prop} (hy : tT K H0 w0 xk ω (fun ρ => do boolD (← (do let x ← f ρ; let y ← g ρ; return .bl (← h x y)))) σ H Q) (hx : ∀ a b, NX (h a b)) :
    tTest (tOp (rC K h) (tD K H0 w0 xk ω .look f) (tD K H0 w0 xk ω .look g)) σ H Q := by
  obtain ⟨w, ρ, R, hy⟩ := hy
  simp only [bind_assoc'] at hy
  rw [wp_bind] at hy
  refine tD_then R hy fun x w1 H1 v hy e1 R1 l1 => ?_
  rw [wp_bind] at hy
  refine tD_then R1 hy fun y w2 H2 u hy e2 R2 l2 => ?_
  rw [wp_bind] at hy
  exact ⟨w2, x, y, R2.wo, Look.ext R1.wo e2 l1, l2, (hx x y).wp (wpq hy fun d s q es => ⟨d, rfl, q H2 w2 es (e1.trans e2) R2.wo⟩)⟩
theorem rd_neg {f : Env → M D} {m : Md} {σ : L2.St} {H : Hp} {Q : VK} (hy : tD K H0 w0 xk ω m (fun ρ => do return .int (-(← intD (← f ρ)))) σ H Q) : tUn (rU fun i => .int (-i)) (tD K H0 w0 xk ω .look f) σ H Q := by
  obtain ⟨w, ρ, R, hy⟩ := hy
  rw [wp_bind] at hy
  refine tD_then R hy fun x w1 H1 v hy e1 R1 l1 => ?_
  cases x with
  | int i =>
    obtain rfl := Look.int l1
    exact ⟨i, rfl, Post.int R1.wo (Post.back e1 hy)⟩
  | _ => exact hy.elim
theorem rd_not {f : Env → M D} {m : Md} {σ : L2.St} {H : Hp} {Q : VK} (hy : tD K H0 w0 xk ω m (fun ρ => do return .bl (!(← boolD (← f ρ)))) σ H Q) : tNotV (tD K H0 w0 xk ω .look f) σ H Q := by
  obtain ⟨w, ρ, R, hy⟩ := hy
  rw [wp_bind] at hy
  refine tD_then R hy fun x w1 H1 v hy e1 R1 l1 => ?_
  cases x with
  | bl i =>
    obtain rfl := Look.bl l1
    exact ⟨i, rfl, Post.bl R1.wo (Post.back e1 hy)⟩
  | _ => exact hy.elim
theorem rd_notT {f : Env → M D} {σ : L2.St} {H : Hp} {Q : Bool → Hp → Prop} (hy : tT K H0 w0 xk ω (fun ρ => do boolD (← (do return .bl (!(← boolD (← f ρ)))))) σ H Q) : tNot (tT K H0 w0 xk ω fun ρ => do boolD (← f ρ)) σ H Q := by
  obtain ⟨w, ρ, R, hy⟩ := hy
  simp only [bind_assoc'] at hy
  refine ⟨w, ρ, R, ?_⟩
  rw [wp_bind] at hy ⊢
  refine wpq hy fun d s q => ?_
  rw [wp_bind] at q
  exact wpq q fun b s' q' H' w' es ex wo => q' H' w' es ex wo
theorem rd_and {f g : Env → M D} {m : Md} {σ : L2.St} {H : Hp} {Q : VK} (hy : tD K H0 w0 xk ω m (fun ρ => do if ← boolD (← f ρ) then g ρ else return .bl false) σ H Q) : tAndV (tD K H0 w0 xk ω .look f) (tD K H0 w0 xk ω m g) σ H Q := by
  obtain ⟨w, ρ, R, hy⟩ := hy
  rw [wp_bind] at hy
  refine tD_then R hy fun x w1 H1 v hy e1 R1 l1 => ?_
  cases x with
  | bl i =>
    obtain rfl := Look.bl l1
    refine ⟨i, rfl, ?_⟩
    cases i with
    | true => exact ⟨w1, ρ, R1, wpq hy fun d s q => Post.back e1 q⟩
    | false => exact Post.bl R1.wo (Post.back e1 hy)
  | _ => exact hy.elim
theorem rd_or {f g : Env → M D} {m : Md} {σ : L2.St} {H : Hp} {Q : VK} (hy : tD K H0 w0 xk ω m (fun ρ => do if ← boolD (← f ρ) then return .bl true else g ρ) σ H Q) : tOrV (tD K H0 w0 xk ω .look f) (tD K H0 w0 xk ω m g) σ H Q := by
  obtain ⟨w, ρ, R, hy⟩ := hy
  rw [wp_bind] at hy
  refine tD_then R hy fun x w1 H1 v hy e1 R1 l1 => ?_
  cases x with
  | bl i =>
    obtain rfl := Look.bl l1
    refine ⟨i, rfl, ?_⟩
    cases i with
    | false => exact ⟨w1, ρ, R1, wpq hy fun d s q => Post.back e1 q⟩
    | true => exact Post.bl R1.wo (Post.back e1 hy)
  | _ => exact hy.elim
theorem rd_andT {f g : Env → M D} {σ : L2.St} {H : Hp} {Q : Bool → Hp → Prop} (hy : tT K H0 w0 xk ω (fun ρ => do boolD (← (do if ← boolD (← f ρ) then g ρ else return .bl false))) σ H Q) :
    tAnd (tT K H0 w0 xk ω fun ρ => do boolD (← f ρ)) (tT K H0 w0 xk ω fun ρ => do boolD (← g ρ)) σ H Q := by
  obtain ⟨w, ρ, R, hy⟩ := hy
  simp only [bind_assoc'] at hy
  rw [wp_bind] at hy
  have hy' : ((do boolD (← f ρ) : M Bool) w.S).wp (fun b s => ((do boolD (← (if b = true then g ρ else return .bl false)) : M Bool) s).wp (PostT K H w Q) xk) xk := by
    rw [wp_bind]
    refine wpq hy fun d s q => ?_
    rw [wp_bind] at q
    exact q
  refine tT_then R hy' fun b w1 H1 q e1 R1 => ?_
  cases b with
  | true => exact ⟨w1, ρ, R1, wpq q fun d s q H' w' es ex wo => q H' w' es (e1.trans ex) wo⟩
  | false => exact q H1 w1 rfl e1 R1.wo
theorem rd_orT {f g : Env → M D} {σ : L2.St} {H : Hp} {Q : Bool → Hp → Prop} (hy : tT K H0 w0 xk ω (fun ρ => do boolD (← (do if ← boolD (← f ρ) then return .bl true else g ρ))) σ H Q) :
    tOr (tT K H0 w0 xk ω fun ρ => do boolD (← f ρ)) (tT K H0 w0 xk ω fun ρ => do boolD (← g ρ)) σ H Q := by
  obtain ⟨w, ρ, R, hy⟩ := hy
  simp only [bind_assoc'] at hy
  rw [wp_bind] at hy
  have hy' : ((do boolD (← f ρ) : M Bool) w.S).wp (fun b s => ((do boolD (← (if b = true then (return .bl true) else g ρ)) : M Bool) s).wp (PostT K H w Q) xk) xk := by
    rw [wp_bind]
    refine wpq hy fun d s q => ?_
    rw [wp_bind] at q
    exact q
  refine tT_then R hy' fun b w1 H1 q e1 R1 => ?_
  cases b with
  | true => exact q H1 w1 rfl e1 R1.wo
  | false => exact ⟨w1, ρ, R1, wpq q fun d s q H' w' es ex wo => q H' w' es (e1.trans ex) wo⟩
theorem rd_ife {t f g : Env → M D} {m : Md} {σ : L2.St} {H : Hp} {Q : VK} (hy : tD K H0 w0 xk ω m (fun ρ => do if ← boolD (← t ρ) then f ρ else g ρ) σ H Q) :
    tIf (tT K H0 w0 xk ω fun ρ => do boolD (← t ρ)) (tD K H0 w0 xk ω m f) (tD K H0 w0 xk ω m g) σ H Q := by
  obtain ⟨w, ρ, R, hy⟩ := hy
  rw [wp_bind] at hy
  have hy' : ((do boolD (← t ρ) : M Bool) w.S).wp (fun b s => ((if b = true then f ρ else g ρ : M D) s).wp (Post K H w m Q) xk) xk := by
    rw [wp_bind]
    refine wpq hy fun d s q => ?_
    rw [wp_bind] at q
    exact q
  refine tT_then R hy' fun b w1 H1 q e1 R1 => ?_
  cases b with
  | true => exact ⟨w1, ρ, R1, wpq q fun d s q => Post.back e1 q⟩
  | false => exact ⟨w1, ρ, R1, wpq q fun d s q => Post.back e1 q⟩
theorem rd_ifeT {t f g : Env → M D} {σ : L2.St} {H : Hp} {Q : Bool → Hp → Prop} (hy : tT K H0 w0 xk ω (fun ρ => do boolD (← (do if ← boolD (← t ρ) then f ρ else g ρ))) σ H Q) :
    tT K H0 w0 xk ω (fun ρ => do boolD (← t ρ)) σ H fun b H1 => if b = true then tT K H0 w0 xk ω (fun ρ => do boolD (← f ρ)) σ H1 Q else tT K H0 w0 xk ω (fun ρ => do boolD (← g ρ)) σ H1 Q := by
  obtain ⟨w, ρ, R, hy⟩ := hy
  simp only [bind_assoc'] at hy
  rw [wp_bind] at hy
  have hy' : ((do boolD (← t ρ) : M Bool) w.S).wp (fun b s => ((do boolD (← (if b = true then f ρ else g ρ)) : M Bool) s).wp (PostT K H w Q) xk) xk := by
    rw [wp_bind]
    refine wpq hy fun d s q => ?_
    rw [wp_bind] at q
    exact q
  refine tT_then R hy' fun b w1 H1 q e1 R1 => ?_
  cases b with
  | true => exact ⟨w1, ρ, R1, wpq q fun d s q H' w' es ex wo => q H' w' es (e1.trans ex) wo⟩
  | false => exact ⟨w1, ρ, R1, wpq q fun d s q H' w' es ex wo => q H' w' es (e1.trans ex) wo⟩
theorem rd_chain {f g e : Env → M D} {o1 o2 : Cop} {m : Md} {σ : L2.St} {H : Hp} {Q : VK}
    (hy : tD K H0 w0 xk ω m (fun ρ => do let x ← f ρ; let y ← g ρ; if ← cmpD o1 x y then do let z ← e ρ; return .bl (← cmpD o2 y z) else return .bl false) σ H Q) :
    tChain (rC K (cmpD o1)) (rC K (cmpD o2)) (tD K H0 w0 xk ω .look f) (tD K H0 w0 xk ω .look g) (tD K H0 w0 xk ω .look e) σ H Q := by
  obtain ⟨w, ρ, R, hy⟩ := hy
  rw [wp_bind] at hy
  refine tD_then R hy fun x w1 H1 v hy e1 R1 l1 => ?_
  rw [wp_bind] at hy
  refine tD_then R1 hy fun y w2 H2 u hy e2 R2 l2 => ?_
  rw [wp_bind] at hy
  refine ⟨w2, x, y, R2.wo, Look.ext R1.wo e2 l1, l2, (nx_cmp o1 x y).wp (wpq hy fun b s q es => ⟨b, rfl, ?_⟩)⟩
  cases b with
  | false =>
    have q' := Post.back (e1.trans e2) q
    rw [← es] at q'
    exact Post.bl R2.wo q'
  | true =>
    have q' : ((do let z ← e ρ; return .bl (← cmpD o2 y z) : M D) s).wp (Post K H w m Q) xk := q
    rw [wp_bind, ← es] at q'
    refine tD_then R2 q' fun z w3 H3 t q' e3 R3 l3 => ?_
    rw [wp_bind] at q'
    refine ⟨w3, y, z, R3.wo, Look.ext R2.wo e3 l2, l3, (nx_cmp o2 y z).wp (wpq q' fun b s q es => ?_)⟩
    have q'' := Post.back ((e1.trans e2).trans e3) q
    rw [← es] at q''
    exact Post.bl R3.wo q''
theorem rd_chainT {f g e : Env → M D} {o1 o2 : Cop} {σ : L2.St} {H : Hp} {Q : Bool → Hp → Prop}
    (hy : tT K H0 w0 xk ω (fun ρ => do boolD (← (do let x ← f ρ; let y ← g ρ; if ← cmpD o1 x y then do let z ← e ρ; return .bl (← cmpD o2 y z) else return .bl false))) σ H Q) :
    tTest (tChain (rC K (cmpD o1)) (rC K (cmpD o2)) (tD K H0 w0 xk ω .look f) (tD K H0 w0 xk ω .look g) (tD K H0 w0 xk ω .look e)) σ H Q := by
  obtain ⟨w, ρ, R, hy⟩ := hy
  simp only [bind_assoc'] at hy
  rw [wp_bind] at hy
  refine tD_then R hy fun x w1 H1 v hy e1 R1 l1 => ?_
  rw [wp_bind] at hy
  refine tD_then R1 hy fun y w2 H2 u hy e2 R2 l2 => ?_
  rw [wp_bind] at hy
  refine ⟨w2, x, y, R2.wo, Look.ext R1.wo e2 l1, l2, (nx_cmp o1 x y).wp (wpq hy fun b s q es => ⟨b, rfl, ?_⟩)⟩
  cases b with
  | false => exact ⟨false, rfl, q H2 w2 es (e1.trans e2) R2.wo⟩
  | true =>
    have q' : ((do boolD (← (do let z ← e ρ; return .bl (← cmpD o2 y z))) : M Bool) s).wp (PostT K H w Q) xk := q
    simp only [bind_assoc'] at q'
    rw [wp_bind, ← es] at q'
    refine tD_then R2 q' fun z w3 H3 t q' e3 R3 l3 => ?_
    rw [wp_bind] at q'
    exact ⟨w3, y, z, R3.wo, Look.ext R2.wo e3 l2, l3, (nx_cmp o2 y z).wp (wpq q' fun b s q es => ⟨b, rfl, q H3 w3 es ((e1.trans e2).trans e3) R3.wo⟩)⟩
end
/-- a BoolOp's test does not look at its value -/
theorem pw_of {X : Cx} {op : BoolOp} {vs : List Expr} {pos : Pos} {t : TT} (h : PT X (.BoolOp op vs pos) t) : PW X (.BoolOp op vs pos) t := ⟨fun _ pins s σ H Q I q => h.run pins s σ H Q I q⟩
theorem pt_ife {X : Cx} {a b d : Expr} {pos : Pos} {ta tb td : TT} (ha : PT X a ta) (hb : PT X b tb) (hd : PT X d td) : PT X (.IfExp a b d pos) (fun σ H Q => ta σ H fun k H1 => if k = true then tb σ H1 Q else td σ H1 Q) := by
  refine ⟨fun pins s σ H Q I h => ?_⟩
  show wpAny _ _ (do if ← isTrue a X.env (eval a X.env) then isTrue b X.env (eval b X.env) else isTrue d X.env (eval d X.env)) _ _ _
  refine wpAny_bind (thn (ha.run pins s σ H _ I h) fun k s1 ⟨H1, I1, q⟩ => ?_)
  cases k with
  | true => exact hb.run pins s1 σ H1 Q I1 q
  | false => exact hd.run pins s1 σ H1 Q I1 q
end DE

/-! DEcomp: targets and comprehensions. -/
namespace DE
open PySem PySem.Spec PyProof.Rows L2

/-! ### targets -/
def gNs : List Nat → TGs
  | [] => gNil
  | i :: is => gCons (gName i) (gNs is)
def gT (K : PySem.W.Frag) : Tg → TG
  | .v i => gName i
  | .tup is => gTup K is.length (gNs is)
def sets (σ : L2.St) (is : List Nat) (vs : List V) : L2.St := (is.zip vs).foldl (fun σ p => σ.set p.1 (some p.2)) σ
theorem gNs_of {H : Hp} {Q : L2.St → Hp → Prop} : ∀ (is : List Nat) (vs : List V) (σ : L2.St), vs.length = is.length → Q (sets σ is vs) H → gNs is vs σ H Q
  | [], [], σ, _, q => ⟨rfl, q⟩
  | [], _ :: _, _, h, _ => by cases h
  | _ :: _, [], _, h, _ => by cases h
  | i :: is, v :: vs, σ, h, q => ⟨v, vs, rfl, gNs_of is vs _ (by simpa using h) q⟩
theorem wipe_get (σ : L2.St) : ∀ (vs : List Nat) (j : Nat), (wipe σ vs)[j]? = if j ∈ vs then (if j < σ.length then some none else none) else σ[j]?
  | [], j => by simp [wipe]
  | v :: vs, j => by
    show ((wipe σ vs).set v none)[j]? = _
    by_cases hj : v = j
    · subst hj
      rw [List.getElem?_set, if_pos rfl, wipe_length, if_pos (List.mem_cons_self ..)]
    · rw [List.getElem?_set_ne hj, wipe_get σ vs j]
      have e : (j ∈ v :: vs) = (j ∈ vs) := by simp [Ne.symm hj]
      simp only [e]
theorem wipeE_get (σ : Env) : ∀ (vs : List Nat) (j : Nat), (wipeE σ vs)[j]? = if j ∈ vs then (if j < σ.length then some none else none) else σ[j]?
  | [], j => by simp [wipeE]
  | v :: vs, j => by
    have hl : (wipeE σ vs).length = σ.length := by
      clear j
      induction vs with
      | nil => rfl
      | cons u us ih => simp [wipeE, ih]
    show ((wipeE σ vs).set v none)[j]? = _
    by_cases hj : v = j
    · subst hj
      rw [List.getElem?_set, if_pos rfl, hl, if_pos (List.mem_cons_self ..)]
    · rw [List.getElem?_set_ne hj, wipeE_get σ vs j]
      have e : (j ∈ v :: vs) = (j ∈ vs) := by simp [Ne.symm hj]
      simp only [e]
theorem wipeE_length (σ : Env) (vs : List Nat) : (wipeE σ vs).length = σ.length := by
  induction vs with
  | nil => rfl
  | cons u us ih => simp [wipeE, ih]
theorem sets_length : ∀ (is : List Nat) (vs : List V) (σ : L2.St), (sets σ is vs).length = σ.length
  | [], _, _ => rfl
  | _ :: _, [], _ => rfl
  | i :: is, v :: vs, σ => by
    show (sets (σ.set i (some v)) is vs).length = _
    rw [sets_length, List.length_set]
theorem sets_get : ∀ (is : List Nat) (vs : List V) (σ : L2.St) (j : Nat), j ∉ is → (sets σ is vs)[j]? = σ[j]?
  | [], _, _, _, _ => rfl
  | _ :: _, [], _, _, _ => rfl
  | i :: is, v :: vs, σ, j, h => by
    show (sets (σ.set i (some v)) is vs)[j]? = _
    have n : i ≠ j := by rintro rfl; exact h (List.mem_cons_self ..)
    rw [sets_get is vs _ j fun z => h (List.mem_cons_of_mem _ z), List.getElem?_set_ne n]
theorem wipe_sets {σ : L2.St} {is vs : List Nat} {us : List V} (h : ∀ i ∈ is, i ∈ vs) : wipe (sets (wipe σ vs) is us) vs = wipe σ vs := by
  apply List.ext_getElem?
  intro j
  rw [wipe_get, wipe_get, sets_length, wipe_length]
  by_cases hj : j ∈ vs
  · rw [if_pos hj, if_pos hj]
  · rw [if_neg hj, if_neg hj, sets_get _ _ _ _ fun z => hj (h j z), wipe_get, if_neg hj]
theorem mem_minus {ω is : List Nat} {i : Nat} : i ∈ minus ω is ↔ i ∈ ω ∧ i ∉ is := by
  unfold minus
  rw [List.mem_filter]
  simp
theorem minus_minus (ω is js : List Nat) (h : ∀ j ∈ js, j ∈ is) : minus (minus ω is) js = minus ω is := by
  unfold minus
  rw [List.filter_filter]
  congr 1
  funext j
  by_cases hj : j ∈ js
  · simp [hj, h j hj]
  · simp [hj]
section
variable {K : PySem.W.Frag} {H0 H : Hp} {w0 w : Wd} {ω : List Nat} {σ : L2.St} {ρ : Env}
theorem Rel.wipe (R : Rel K H0 w0 ω σ H w ρ) (is : List Nat) : Rel K H0 w0 (minus ω is) (wipe σ is) H w (wipeE ρ is) where
  wo := R.wo
  ex := R.ex
  len := by rw [wipeE_length, wipe_length]; exact R.len
  get := fun i d h => by
    rw [wipeE_get] at h
    by_cases hi : i ∈ is
    · rw [if_pos hi] at h
      split at h <;> cases h
    · rw [if_neg hi] at h
      obtain ⟨v, h1, h2, h3⟩ := R.get i d h
      exact ⟨v, by rw [wipe_get, if_neg hi]; exact h1, fun q => h2 (mem_minus.mp q).1, fun q => h3 fun z => q (mem_minus.mpr ⟨z, hi⟩)⟩
  ap := fun i j ds es a b n h1 h2 => by
    have ha := mem_minus.mp a
    have hb := mem_minus.mp b
    rw [wipeE_get, if_neg ha.2] at h1
    rw [wipeE_get, if_neg hb.2] at h2
    rw [wipe_get, if_neg ha.2, wipe_get, if_neg hb.2]
    exact R.ap i j ds es ha.1 hb.1 n h1 h2
/-- a target is stored -/
theorem gT_ok {t : Tg} {x : V} {d : D} {ρ' : Env} {s s' : S} (R : Rel K H0 w0 ω σ H w ρ) (hx : Rp K H w x d) (h : t.set d ρ s = .ok ρ' s') :
    s' = s ∧ ∃ us : List V, us.length = t.slots.length ∧ Rel K H0 w0 (minus ω t.slots) (sets σ t.slots us) H w ρ' ∧ ∀ Q : L2.St → Hp → Prop, Q (sets σ t.slots us) H → gT K t x σ H Q := by
  cases t with
  | v i =>
    cases h
    refine ⟨rfl, [x], rfl, ?_, fun Q q => q⟩
    have R' := R.set hx (i := i)
    show Rel K H0 w0 (minus ω [i]) (σ.set i (some x)) H w _
    rw [minus_cons, minus_nil]
    exact R'
  | tup is =>
    cases d with
    | tup ds =>
      cases hx with
      | tup hs r =>
        obtain ⟨e, l, R'⟩ := Rel.setAll is R r h
        exact ⟨e, _, l, R', fun Q q => ⟨_, _, rfl, hs, l, gNs_of is _ σ l q⟩⟩
    | _ => cases h
end
section
variable {X : Cx}
theorem mNames_pgs {N : List Str} {L : List (Str × NameKind)} (hN : X.N = N) (nd : X.N.Nodup) (hL : ∀ x, locB L x = true → Loc X.env.scope x ∧ (X.fn x = true ∨ X.env.scope.names.lookup x = some .local)) :
    ∀ (is : List Nat) (es : List Expr), mNames N L is es = true → PGs X es (gNs is) ∧ (assignEach es X.env).length = is.length ∧ (assignEach es X.env).findIdx? (·.1) = none
  | [], [], _ => ⟨pgs_nil, rfl, rfl⟩
  | [], _ :: _, h => by cases h
  | _ :: _, [], h => by cases h
  | i :: is, e :: es, h => by
    cases e with
    | Name x p =>
      simp only [mNames, Bool.and_eq_true, decide_eq_true_eq] at h
      obtain ⟨⟨h1, h2⟩, h3⟩ := h
      obtain ⟨a1, a2, a3⟩ := mNames_pgs hN nd hL is es h3
      obtain ⟨l1, l2⟩ := hL x h2
      refine ⟨pgs_cons (pg_name nd (by rw [hN]; exact h1) l1 l2) a1 rfl, ?_, ?_⟩
      · show (_ :: assignEach es X.env).length = _
        rw [List.length_cons, a2, List.length_cons]
      · show List.findIdx? (fun q : Bool × (Value → Sem Unit) => q.1) ((false, assign (.Name x p) X.env) :: assignEach es X.env) = none
        rw [List.findIdx?_cons]
        simp only [Bool.false_eq_true, if_false, a3, Option.map_none]
    | _ => cases h
theorem mTg_pg {N : List Str} {L : List (Str × NameKind)} (hN : X.N = N) (nd : X.N.Nodup) (hc : X.calm = true) (hL : ∀ x, locB L x = true → Loc X.env.scope x ∧ (X.fn x = true ∨ X.env.scope.names.lookup x = some .local)) {t : Tg} {e : Expr} (h : mTg N L t e = true) :
    PG X e (gT X.K t) := by
  cases t with
  | v i =>
    cases e with
    | Name x p =>
      simp only [mTg, Bool.and_eq_true, decide_eq_true_eq] at h
      obtain ⟨l1, l2⟩ := hL x h.2
      exact pg_name nd (by rw [hN]; exact h.1) l1 l2
    | _ => cases h
  | tup is =>
    cases e with
    | Tuple es k p =>
      obtain ⟨a1, a2, a3⟩ := mNames_pgs hN nd hL is es h
      exact pg_tup hc a1 a2 a3
    | _ => cases h
/-- in a comprehension's block -/
theorem loc_blk {s : Shared} {H : Hp} {scope : Scope} {C : Addr} {cl : List (Str × Addr)} {fp : List Addr} (x : Str) (h : locB scope.names x = true) :
    Loc (X.blk s H scope (compEnvC scope cl C X.env) fp).env.scope x ∧ ((X.blk s H scope (compEnvC scope cl C X.env) fp).fn x = true ∨ (X.blk s H scope (compEnvC scope cl C X.env) fp).env.scope.names.lookup x = some .local) := by
  unfold locB at h
  cases e : scope.names.lookup x with
  | none => rw [e] at h; cases h
  | some kd =>
    cases kd with
    | «local» =>
      have q : (relS scope X.env.scope).names.lookup x = some .local := lookup_relS_keep (by decide) e
      exact ⟨.inl q, .inr q⟩
    | cell =>
      have q : (relS scope X.env.scope).names.lookup x = some .cell := lookup_relS_keep (by decide) e
      refine ⟨.inr q, .inl ?_⟩
      show (scope.names.lookup x == some .cell) = true
      rw [e]
      rfl
    | _ => rw [e] at h; cases h
end

/-! ### steps of the abstract heap -/
section
variable {K : PySem.W.Frag} {H H1 : Hp} {w w1 : Wd}
theorem Ext.updN {a : Addr} {o : HO} (e : Ext H w H1 w1) (hn : Nw H a) : Ext H w (upd H1 a o) w1 :=
  ⟨fun b u h nt n => by rw [upd_ne (hn.ne h nt)]; exact e.keep b u h nt n, fun b u h nt => by rw [upd_ne (hn.ne h nt)]; exact e.has b u h nt, e.tt, e.uu, e.new, e.on, e.bx⟩
theorem Mono.updN {a : Addr} {o : HO} {xs : List V} (ha : H a = some (.lst xs)) (nu : ¬ w.U a) : Mono H w (upd H a o) w where
  kt := fun b vs h => by rw [upd_ne fun e => by rw [e, ha] at h; cases h]; exact h
  kf := fun b u v h => by rw [upd_ne fun e => by rw [e, ha] at h; cases h]; exact h
  ku := fun b u q h => by rw [upd_ne (by rintro rfl; exact nu q)]; exact h
  uu := fun _ h => h
  on := fun h => ⟨h, rfl⟩
theorem WOk.updN {a : Addr} {o : HO} {xs : List V} (wo : WOk K H w) (ha : H a = some (.lst xs)) (nu : ¬ w.U a) (nb : ¬ box w a) : WOk K (upd H a o) w where
  u := fun b h => by
    by_cases e : b = a
    · exact absurd (e ▸ h) nu
    · rw [upd_ne e]; exact wo.u b h
  tb := tabs_upd wo.tb ha
  ub := wo.ub
  bx := fun h => by
    obtain ⟨h1, h2, h3, h4⟩ := wo.bx h
    refine ⟨h1, ?_, ?_, h4.mono (Mono.updN ha nu)⟩
    · rw [upd_ne fun e => nb ⟨h, .inl e.symm⟩]; exact h2
    · rw [upd_ne fun e => nb ⟨h, .inr e.symm⟩]; exact h3
theorem Ext.nU {a : Addr} {o : List V} (e : Ext H w H1 w1) (ha : H a = some (.lst o)) (nu : ¬ w.U a) : ¬ w1.U a := fun q => by
  rcases e.new a q with z | z
  · exact nu z
  · exact z.lst ha
theorem Ext.nUK {a : Addr} {o : List (Key × V)} (e : Ext H w H1 w1) (ha : H a = some (.dK o)) (nu : ¬ w.U a) : ¬ w1.U a := fun q => by
  rcases e.new a q with z | z
  · exact nu z
  · exact z.dK ha
theorem Ext.nBK {a : Addr} {o : List (Key × V)} (e : Ext H w H1 w1) (ha : H a = some (.dK o)) (nb : ¬ DE.box w a) : ¬ DE.box w1 a := fun q => by
  rcases e.bx a q with z | z
  · exact nb z
  · exact z.dK ha
theorem Ext.nB {a : Addr} {o : List V} (e : Ext H w H1 w1) (ha : H a = some (.lst o)) (nb : ¬ DE.box w a) : ¬ DE.box w1 a := fun q => by
  rcases e.bx a q with z | z
  · exact nb z
  · exact z.lst ha
end
theorem calm_wp {α : Type} {m : M α} {s : S} {Q : α → S → Prop} {xk : Exn → S → Prop} (h : ((calm m) s).wp Q xk) : (m s).wp Q NoX := by
  unfold calm at h
  cases e : m s with
  | ok a s1 => rw [e] at h; exact h
  | exc x s1 => rw [e] at h; exact h.elim
  | stuck => rw [e] at h; exact h.elim
theorem line_wp {ds : List D} {s : S} {Q : List D → S → Prop} {xk : Exn → S → Prop} (h : ((lineL ds) s).wp Q xk) : ds.length ≤ LINE ∧ Q ds s := by
  unfold lineL at h
  by_cases e : ds.length ≤ LINE
  · rw [if_pos e] at h; exact ⟨e, h⟩
  · rw [if_neg e] at h; exact h.elim
/-- something comes out where no error may -/
theorem wp_ok {α : Type} {r : R α} {Q : α → S → Prop} (h : r.wp Q NoX) : ∃ a s, Q a s := by
  cases r with
  | ok a s => exact ⟨a, s, h⟩
  | exc x s => exact h.elim
  | stuck => exact h.elim
theorem set_wp {t : Tg} {d : D} {ρ : Env} {s : S} {Q : Env → S → Prop} {xk : Exn → S → Prop} (h : (t.set d ρ s).wp Q xk) (nx : NX (t.set d ρ)) : ∃ ρ' s', t.set d ρ s = .ok ρ' s' ∧ Q ρ' s' := by
  cases e : t.set d ρ s with
  | ok a s1 => rw [e] at h; exact ⟨a, s1, rfl, h⟩
  | exc x s1 => exact absurd e (nx s x s1)
  | stuck => rw [e] at h; exact h.elim
theorem nx_setAll : ∀ (is : List Nat) (ds : List D) (ρ : Env), NX (setAll ρ is ds)
  | [], [], _ => NX.pure _
  | [], _ :: _, _ => NX.stuck
  | _ :: _, [], _ => NX.stuck
  | _ :: is, _ :: ds, ρ => nx_setAll is ds _
theorem nx_set (t : Tg) (d : D) (ρ : Env) : NX (t.set d ρ) := by
  cases t with
  | v i => exact NX.pure _
  | tup is => cases d <;> first | exact nx_setAll _ _ _ | exact NX.stuck

/-! ### a comprehension -/
section
variable {K : PySem.W.Frag} {H0 : Hp} {w0 : Wd} {xk : Exn → S → Prop} {ω : List Nat}
/-- what a comprehension's turn does -/
def turnF (t : Tg) (sl : List Nat) (ρ : Env) (cnd : Env → M Bool) (elt : Env → M D) (d : D) : M (Option D) := do
  let ρ' ← t.set d (wipeE ρ sl)
  if ← cnd ρ' then do return some (← elt ρ') else return none
/-- the list so far -/
def Acc (K : PySem.W.Frag) (H1 : Hp) (w1 : Wd) (Dd : Addr) (F : List D → S → Prop) (H : Hp) (w : Wd) : Prop :=
  ∃ acc ds, Ext H1 w1 H w ∧ WOk K H w ∧ H Dd = some (.lst acc) ∧ RpL K H w acc ds ∧ ¬ w.U Dd ∧ ¬ box w Dd ∧ F ds w.S
/-- no owned list is the one at Dd -/
def Nd (ω : List Nat) (σ : L2.St) (ρ : Env) (Dd : Addr) : Prop := ∀ i ∈ ω, ∀ ds, ρ[i]? = some (some (.lst ds)) → σ[i]? ≠ some (some (.ref Dd))
theorem Rel.updD {H : Hp} {w : Wd} {σ : L2.St} {ρ : Env} {Dd : Addr} {o : HO} {xs : List V} (R : Rel K H0 w0 ω σ H w ρ) (ha : H Dd = some (.lst xs)) (nu : ¬ w.U Dd) (nb : ¬ box w Dd) (h0 : Nw H0 Dd) (nd : Nd ω σ ρ Dd) : Rel K H0 w0 ω σ (upd H Dd o) w ρ where
  wo := R.wo.updN ha nu nb
  ex := R.ex.updN h0
  len := R.len
  get := fun i d h => by
    obtain ⟨v, h1, h2, h3⟩ := R.get i d h
    refine ⟨v, h1, fun q => ?_, fun q => (h3 q).mono (Mono.updN ha nu)⟩
    have o2 := h2 q
    cases d with
    | lst ds =>
      obtain ⟨a, vs, rfl, g1, g2, g3⟩ := o2
      refine ⟨a, vs, rfl, ?_, g2.mono (Mono.updN ha nu), g3⟩
      rw [upd_ne (by rintro rfl; exact nd i q ds h h1)]
      exact g1
    | _ => exact Rp.mono (Mono.updN ha nu) o2
  ap := R.ap
theorem Nd.of {H : Hp} {w : Wd} {σ : L2.St} {ρ : Env} {Dd : Addr} (R : Rel K H0 w0 ω σ H w ρ) (hn : H Dd = none) : Nd ω σ ρ Dd := fun i hi ds h q => by
  obtain ⟨v, h1, h2, _⟩ := R.get i _ h
  obtain ⟨a, vs, rfl, g1, _⟩ := h2 hi
  rw [h1] at q
  cases q
  rw [hn] at g1
  cases g1
theorem setAll_other : ∀ (is : List Nat) (ds : List D) (ρ ρ' : Env) (s s' : S), setAll ρ is ds s = .ok ρ' s' → ∀ i, i ∉ is → ρ'[i]? = ρ[i]?
  | [], [], ρ, ρ', s, s', h, i, _ => by cases h; rfl
  | [], _ :: _, _, _, _, _, h, _, _ => by cases h
  | _ :: _, [], _, _, _, _, h, _, _ => by cases h
  | j :: is, d :: ds, ρ, ρ', s, s', h, i, hi => by
    have e := setAll_other is ds _ ρ' s s' h i fun z => hi (List.mem_cons_of_mem _ z)
    have n : j ≠ i := by rintro rfl; exact hi (List.mem_cons_self ..)
    rw [e, List.getElem?_set_ne n]
theorem set_other {t : Tg} {d : D} {ρ ρ' : Env} {s s' : S} (h : t.set d ρ s = .ok ρ' s') (i : Nat) (hi : i ∉ t.slots) : ρ'[i]? = ρ[i]? := by
  cases t with
  | v j =>
    cases h
    have n : j ≠ i := by rintro rfl; exact hi (List.mem_cons_self ..)
    rw [List.getElem?_set_ne n]
  | tup is => cases d <;> first | exact setAll_other is _ _ _ _ _ h i hi | cases h
theorem Nd.sets {σ : L2.St} {ρ ρ' : Env} {Dd : Addr} {is : List Nat} {us : List V} (nd : Nd ω σ ρ Dd) (h1 : ∀ i, i ∉ is → ρ'[i]? = ρ[i]?) (h2 : ∀ i ∈ ω, i ∉ is) : Nd ω (DE.sets σ is us) ρ' Dd := fun i hi ds h => by
  rw [h1 i (h2 i hi)] at h
  rw [sets_get _ _ _ _ (h2 i hi)]
  exact nd i hi ds h
theorem Nd.wipe {σ : L2.St} {ρ : Env} {Dd : Addr} {is : List Nat} (nd : Nd ω σ ρ Dd) : Nd (minus ω is) (L2.wipe σ is) (wipeE ρ is) Dd := fun i hi ds h => by
  have q := mem_minus.mp hi
  rw [wipeE_get, if_neg q.2] at h
  rw [wipe_get, if_neg q.2]
  exact nd i q.1 ds h
/-- the loop of a clause; F: what is wanted of the whole list behind it -/
theorem comp_loop {t : Tg} {sl : List Nat} {cnd : Env → M Bool} {elt : Env → M D} {σ : L2.St} {ρ : Env} (hsl : ∀ i ∈ t.slots, i ∈ sl) {Hb : Hp} {wb : Wd} {Dd : Addr} (hb : Hb Dd = none) (h0 : Nw H0 Dd) {F : List D → S → Prop} (hF : ∀ ds s, F ds s → ds.length ≤ LINE)
    {H1 : Hp} {w1 : Wd} {J : It} {xs : List D} {P : Hp → Prop} (hP : ∀ H w, Ext Hb wb H w → P H) (jis : JIs K H1 w1 P J xs) (R : Rel K H0 w0 ω σ H1 w1 ρ) (nd : Nd ω σ ρ Dd) (a0 : Acc K Hb wb Dd (fun ds s => ((compL (turnF t sl ρ cnd elt) xs) s).wp (fun r S' => F (ds ++ r) S') NoX) H1 w1) :
    ∃ W : Nat → Nat → Hp → Prop, (∃ m, W 0 m H1) ∧ ∀ i m H, W i m H →
      (J.stop i H ∧ ∃ w, Rel K H0 w0 (minus ω sl) (wipe σ sl) H w (wipeE ρ sl) ∧ Mono H1 w1 H w ∧ Acc K Hb wb Dd F H w) ∨
      (J.go i H ∧ ∃ Nx : Hp → Prop, (∀ H', Nx H' → ∃ m', m' < m ∧ W (i + 1) m' H') ∧ ∀ x H', J.yld i H x H' → gT K t x (wipe σ sl) H' fun σ2 H2 => wipe σ2 sl = wipe σ sl ∧ tT K H0 w0 NoX (minus ω sl) cnd σ2 H2 fun b H3 =>
        if b = true then tD K H0 w0 NoX (minus ω sl) .sh elt σ2 H3 fun y H4 => ∃ acc, H4 Dd = some (.lst acc) ∧ acc.length < sizeLine ∧ Nx (upd H4 Dd (.lst (acc ++ [y]))) else Nx H3) := by
  let G : Nat → List D → S → Prop := fun i ds s => ((compL (turnF t sl ρ cnd elt) (xs.drop i)) s).wp (fun r S' => F (ds ++ r) S') NoX
  let St : Nat → Hp → Prop := fun i H => ∃ w, Rel K H0 w0 (minus ω sl) (wipe σ sl) H w (wipeE ρ sl) ∧ Mono H1 w1 H w ∧ Acc K Hb wb Dd (G i) H w
  refine ⟨fun i m H' => m = xs.length - i ∧ i ≤ xs.length ∧ St i H', ⟨xs.length, by simp, Nat.zero_le _, w1, R.wipe sl, Mono.refl _ _, a0⟩, ?_⟩
  rintro i m H2 ⟨rfl, hi, w2, R2, m2, acc, ds, e2, wo2, g1, g2, nu, nb, f⟩
  have nd2 : Nd (minus ω sl) (wipe σ sl) (wipeE ρ sl) Dd := nd.wipe
  obtain ⟨jg, js⟩ := jis H2 w2 m2 (hP H2 w2 e2) wo2
  by_cases hlt : i < xs.length
  · obtain ⟨go, yld⟩ := jg i xs[i] (by simp [hlt])
    refine .inr ⟨go, St (i + 1), fun H' a => ⟨xs.length - (i + 1), by omega, rfl, hlt, a⟩, fun x H3 y => ?_⟩
    obtain ⟨w3, s3, e3, wo3, rx⟩ := yld x H3 y
    have f' : ((compL (turnF t sl ρ cnd elt) (xs[i] :: xs.drop (i + 1))) w2.S).wp (fun r S' => F (ds ++ r) S') NoX := by
      have z := f
      show ((compL _ _) _).wp _ _
      rw [← List.drop_eq_getElem_cons hlt]
      exact z
    have f1 : ((turnF t sl ρ cnd elt xs[i] >>= fun y => compL (turnF t sl ρ cnd elt) (xs.drop (i + 1)) >>= fun ys => (match y with | some d => pure (d :: ys) | none => pure ys : M (List D))) w2.S).wp (fun r S' => F (ds ++ r) S') NoX := f'
    rw [wp_bind] at f1
    have f2 : (((t.set xs[i] (wipeE ρ sl)) >>= fun ρ' => cnd ρ' >>= fun b => (if b = true then (elt ρ' >>= fun d => pure (some d)) else pure none : M (Option D))) w2.S).wp
        (fun y s => ((compL (turnF t sl ρ cnd elt) (xs.drop (i + 1)) >>= fun ys => (match y with | some d => pure (d :: ys) | none => pure ys : M (List D))) s).wp (fun r S' => F (ds ++ r) S') NoX) NoX := f1
    rw [wp_bind] at f2
    obtain ⟨ρ', s', hset, f3⟩ := set_wp f2 (nx_set _ _ _)
    have R3 := R2.mono e3 wo3
    rw [← s3] at hset
    obtain ⟨rfl, us, hus, R4, gq⟩ := gT_ok R3 rx hset
    rw [minus_minus _ _ _ hsl] at R4
    refine gq _ ⟨wipe_sets hsl, ?_⟩
    rw [wp_bind] at f3
    refine tT_then R4 f3 fun b w4 H4 f4 e4 R5 => ?_
    cases b with
    | true =>
      rw [if_pos rfl]
      have f5 : ((elt ρ' >>= fun d => pure (some d) : M (Option D)) w4.S).wp (fun y s => ((compL (turnF t sl ρ cnd elt) (xs.drop (i + 1)) >>= fun ys => (match y with | some d => pure (d :: ys) | none => pure ys : M (List D))) s).wp (fun r S' => F (ds ++ r) S') NoX) NoX := f4
      rw [wp_bind] at f5
      refine tD_then R5 f5 fun d w5 H5 v f6 e5 R6 rv => ?_
      have E25 : Ext H2 w2 H5 w5 := e3.trans (e4.trans e5)
      have g5 : H5 Dd = some (.lst acc) := E25.keep _ _ g1 lstT nb
      have nu5 := E25.nU g1 nu
      have nb5 := E25.nB g1 nb
      have f7 : ((compL (turnF t sl ρ cnd elt) (xs.drop (i + 1)) >>= fun ys => pure (d :: ys) : M (List D)) w5.S).wp (fun r S' => F (ds ++ r) S') NoX := f6
      rw [wp_bind] at f7
      have g2' : RpL K H5 w5 acc ds := g2.ext wo2 E25
      have hl : acc.length < sizeLine := by
        obtain ⟨ys, s', hz⟩ := wp_ok f7
        have hz := hF _ _ hz
        rw [g2'.length, ← line_eq]
        simp only [List.length_append, List.length_cons] at hz
        omega
      have mo : Mono H5 w5 (upd H5 Dd (.lst (acc ++ [v]))) w5 := Mono.updN g5 nu5
      have R7 := (R2.mono E25 R6.wo).updD (o := .lst (acc ++ [v])) g5 nu5 nb5 h0 nd2
      refine ⟨acc, g5, hl, w5, R7, (m2.trans (E25.mono wo2)).trans mo, acc ++ [v], ds ++ [d], (e2.trans E25).updN (.of hb), R6.wo.updN g5 nu5 nb5, upd_same, (g2'.mono mo).append (.cons (Rp.mono mo rv) .nil), nu5, nb5, ?_⟩
      refine wpq f7 fun ys s' hz => ?_
      have ea : ds ++ [d] ++ ys = ds ++ d :: ys := by simp
      show F (ds ++ [d] ++ ys) s'
      rw [ea]
      exact hz
    | false =>
      rw [if_neg Bool.false_ne_true]
      have f5 : ((compL (turnF t sl ρ cnd elt) (xs.drop (i + 1)) >>= fun ys => pure ys : M (List D)) w4.S).wp (fun r S' => F (ds ++ r) S') NoX := f4
      rw [bind_pure'] at f5
      have E24 : Ext H2 w2 H4 w4 := e3.trans e4
      exact ⟨w4, R2.mono E24 R5.wo, m2.trans (E24.mono wo2), acc, ds, e2.trans E24, R5.wo, E24.keep _ _ g1 lstT nb, g2.ext wo2 E24, E24.nU g1 nu, E24.nB g1 nb, f5⟩
  · have e : i = xs.length := by omega
    subst e
    refine .inl ⟨js _ (Nat.le_refl _), w2, R2, m2, acc, ds, e2, wo2, g1, g2, nu, nb, ?_⟩
    have f1 : ((compL (turnF t sl ρ cnd elt) (xs.drop xs.length)) w2.S).wp (fun r S' => F (ds ++ r) S') NoX := f
    rw [List.drop_length] at f1
    have f2 : F (ds ++ []) w2.S := f1
    rw [List.append_nil] at f2
    exact f2
theorem rd_comp {src : Env → M (List D)} {t : Tg} {sl : List Nat} {cnd : Env → M Bool} {elt : Env → M D} {σ : L2.St} {H : Hp} {Q : VK} (hsl : ∀ i ∈ t.slots, i ∈ sl)
    (hy : tD K H0 w0 xk ω .own (fun ρ => do let xs ← src ρ; let ds ← calm (compL (turnF t sl ρ cnd elt) xs); return .lst (← lineL ds)) σ H Q) :
    tLc (tI K H0 w0 xk ω false src) (gT K t) (tT K H0 w0 NoX (minus ω sl) cnd) (tD K H0 w0 NoX (minus ω sl) .sh elt) sl σ H Q := by
  obtain ⟨w, ρ, R, hy⟩ := hy
  rw [wp_bind] at hy
  refine ⟨w, ρ, R, wpq hy fun xs s q J H1 w1 es ex wo1 jis Dd hD => ?_⟩
  subst es
  rw [wp_bind] at q
  have q := calm_wp q
  have R1 := R.mono ex wo1
  have h0 : Nw H0 Dd := R1.ex.free hD
  have nd := Nd.of R1 hD
  have m1 : Mono H1 w1 (upd H1 Dd (.lst [])) w1 := (Ext.laid hD).mono wo1
  obtain ⟨W, hW, hs⟩ := comp_loop (K := K) (ω := ω) (H0 := H0) (w0 := w0) hsl hD h0 (F := fun ds s => ds.length ≤ LINE ∧ Post K H w .own Q (.lst ds) s) (fun ds s q => q.1) (P := Keep H1 w1) (fun H w e => e.keep) (fun H w m p wo => jis H w (m1.trans m) (fun _ => p) wo) (R1.mono (Ext.laid hD) (wo1.laid hD)) nd
    ⟨[], [], Ext.laid hD, wo1.laid hD, upd_same, .nil, wo1.nu hD, wo1.nb hD, wpq q fun r s' q' => by rw [wp_bind] at q'; exact line_wp q'⟩
  refine ⟨W, hW, fun i m H' wi => ?_⟩
  rcases hs i m H' wi with ⟨st, w2, R2, m2, acc, ds, e2, wo2, g1, g2, nu, nb, f⟩ | z
  · exact .inl ⟨st, f.2 _ H' w2 rfl (ex.trans e2) wo2 ⟨Dd, acc, rfl, g1, g2, nu, nb, ex.free hD⟩⟩
  · exact .inr z
/-- two clauses -/
def turnF2 (t : Tg) (sl : List Nat) (ρ : Env) (cnd : Env → M Bool) (src2 : Env → M (List D)) (t2 : Tg) (sl2 : List Nat) (cnd2 : Env → M Bool) (elt : Env → M D) (d : D) : M (List D) := do
  let ρ' ← t.set d (wipeE ρ sl)
  if ← cnd ρ' then do
    let ys ← src2 ρ'
    compL (turnF t2 sl2 ρ' cnd2 elt) ys
  else return []
theorem rd_comp2 {src src2 : Env → M (List D)} {t t2 : Tg} {sl sl2 : List Nat} {cnd cnd2 : Env → M Bool} {elt : Env → M D} {σ : L2.St} {H : Hp} {Q : VK} (hsl : ∀ i ∈ t.slots, i ∈ sl) (hsl2 : ∀ i ∈ t2.slots, i ∈ sl2) (hss : ∀ i ∈ sl2, i ∈ sl)
    (hy : tD K H0 w0 xk ω .own (fun ρ => do let xs ← src ρ; let ds ← calm (comp2L (turnF2 t sl ρ cnd src2 t2 sl2 cnd2 elt) xs); return .lst (← lineL ds)) σ H Q) :
    tLc2 (tI K H0 w0 xk ω false src) (gT K t) (tT K H0 w0 NoX (minus ω sl) cnd) (tI K H0 w0 NoX (minus ω sl) true src2) (gT K t2) (tT K H0 w0 NoX (minus ω sl) cnd2) (tD K H0 w0 NoX (minus ω sl) .sh elt) sl sl2 σ H Q := by
  obtain ⟨w, ρ, R, hy⟩ := hy
  rw [wp_bind] at hy
  refine ⟨w, ρ, R, wpq hy fun xs s q J H1 w1 es ex wo1 jis Dd hD => ?_⟩
  subst es
  rw [wp_bind] at q
  have q := calm_wp q
  have R1 := R.mono ex wo1
  have h0 : Nw H0 Dd := R1.ex.free hD
  have nd := Nd.of R1 hD
  have m1 : Mono H1 w1 (upd H1 Dd (.lst [])) w1 := (Ext.laid hD).mono wo1
  have nd2 : Nd (minus ω sl) (wipe σ sl) (wipeE ρ sl) Dd := nd.wipe
  let T := turnF2 t sl ρ cnd src2 t2 sl2 cnd2 elt
  let F : List D → S → Prop := fun ds s => ds.length ≤ LINE ∧ Post K H w .own Q (.lst ds) s
  let G : Nat → List D → S → Prop := fun i ds s => ((comp2L T (xs.drop i)) s).wp (fun r S' => F (ds ++ r) S') NoX
  let St : Nat → Hp → Prop := fun i H => ∃ w, Rel K H0 w0 (minus ω sl) (wipe σ sl) H w (wipeE ρ sl) ∧ Mono H1 w1 H w ∧ Acc K H1 w1 Dd (G i) H w
  refine ⟨fun i m H' => m = xs.length - i ∧ i ≤ xs.length ∧ St i H', ⟨xs.length, by simp, Nat.zero_le _, w1, (R1.mono (Ext.laid hD) (wo1.laid hD)).wipe sl, m1, [], [], Ext.laid hD, wo1.laid hD, upd_same, .nil, wo1.nu hD, wo1.nb hD, wpq q fun r s' q' => by rw [wp_bind] at q'; exact line_wp q'⟩, ?_⟩
  rintro i m H2 ⟨rfl, hi, w2, R2, m2, acc, ds, e2, wo2, g1, g2, nu, nb, f⟩
  obtain ⟨jg, js⟩ := jis H2 w2 m2 (fun _ => e2.keep) wo2
  by_cases hlt : i < xs.length
  · obtain ⟨go, yld⟩ := jg i xs[i] (by simp [hlt])
    refine .inr ⟨go, St (i + 1), fun H' a => ⟨xs.length - (i + 1), by omega, rfl, hlt, a⟩, fun x H3 y => ?_⟩
    obtain ⟨w3, s3, e3, wo3, rx⟩ := yld x H3 y
    have f' : ((comp2L T (xs[i] :: xs.drop (i + 1))) w2.S).wp (fun r S' => F (ds ++ r) S') NoX := by
      have z := f
      show ((comp2L _ _) _).wp _ _
      rw [← List.drop_eq_getElem_cons hlt]
      exact z
    have f1 : ((T xs[i] >>= fun y => comp2L T (xs.drop (i + 1)) >>= fun ys => (pure (y ++ ys) : M (List D))) w2.S).wp (fun r S' => F (ds ++ r) S') NoX := f'
    rw [wp_bind] at f1
    have f2 : (((t.set xs[i] (wipeE ρ sl)) >>= fun ρ' => cnd ρ' >>= fun b => (if b = true then (src2 ρ' >>= fun ys => compL (turnF t2 sl2 ρ' cnd2 elt) ys) else pure [] : M (List D))) w2.S).wp
        (fun y s => ((comp2L T (xs.drop (i + 1)) >>= fun ys => (pure (y ++ ys) : M (List D))) s).wp (fun r S' => F (ds ++ r) S') NoX) NoX := f1
    rw [wp_bind] at f2
    obtain ⟨ρ', s', hset, f3⟩ := set_wp f2 (nx_set _ _ _)
    have R3 := R2.mono e3 wo3
    rw [← s3] at hset
    obtain ⟨rfl, us, hus, R4, gq⟩ := gT_ok R3 rx hset
    rw [minus_minus _ _ _ hsl] at R4
    refine gq _ ⟨wipe_sets hsl, ?_⟩
    rw [wp_bind] at f3
    refine tT_then R4 f3 fun b w4 H4 f4 e4 R5 => ?_
    have ndσ : Nd (minus ω sl) (DE.sets (wipe σ sl) t.slots us) ρ' Dd := nd2.sets (set_other hset) fun i hi z => (mem_minus.mp hi).2 (hsl i z)
    cases b with
    | true =>
      rw [if_pos rfl]
      have f5 : ((src2 ρ' >>= fun ys => compL (turnF t2 sl2 ρ' cnd2 elt) ys : M (List D)) w4.S).wp (fun y s => ((comp2L T (xs.drop (i + 1)) >>= fun ys => (pure (y ++ ys) : M (List D))) s).wp (fun r S' => F (ds ++ r) S') NoX) NoX := f4
      rw [wp_bind] at f5
      refine ⟨w4, ρ', R5, wpq f5 fun ys2 s5 f6 J1 H5 w5 es5 ex5 wo5 jis5 => ?_⟩
      subst es5
      have E25 : Ext H2 w2 H5 w5 := e3.trans (e4.trans ex5)
      have g5 : H5 Dd = some (.lst acc) := E25.keep _ _ g1 lstT nb
      obtain ⟨W, hW, hs⟩ := comp_loop (K := K) (ω := minus ω sl) (H0 := H0) (w0 := w0) hsl2 (Hb := H1) (wb := w1) (Dd := Dd) hD h0 (F := G (i + 1)) (fun ds s q => by
          obtain ⟨r, s', hz, _⟩ := wp_ok q
          simp only [List.length_append] at hz
          omega) (fun _ _ _ z => nomatch z) jis5 (R5.mono ex5 wo5) ndσ
        ⟨acc, ds, e2.trans E25, wo5, g5, g2.ext wo2 E25, E25.nU g1 nu, E25.nB g1 nb, wpq f6 fun r s' q' => by
          rw [wp_bind] at q'
          refine wpq q' fun r2 s2 q2 => ?_
          have ea : ds ++ r ++ r2 = ds ++ (r ++ r2) := List.append_assoc ..
          show F (ds ++ r ++ r2) s2
          rw [ea]
          exact q2⟩
      rw [minus_minus _ _ _ hss] at hs
      refine ⟨W, hW, fun j k H6 wj => ?_⟩
      rcases hs j k H6 wj with ⟨st, w6, R6, m6, a6⟩ | z
      · refine .inl ⟨st, w6, ?_, (m2.trans (E25.mono wo2)).trans m6, a6⟩
        -- the names of the first clause, at this heap
        obtain ⟨acc6, ds6, e6, wo6, gg, g6, nu6, nb6, f6⟩ := a6
        refine ⟨wo6, R6.ex, by rw [wipeE_length, wipe_length]; exact R.len, fun i d h => ?_, fun i j ds es a b => R2.ap i j ds es a b⟩
        rw [wipeE_get] at h
        by_cases hi : i ∈ sl
        · rw [if_pos hi] at h
          split at h <;> cases h
        · rw [if_neg hi] at h
          have h4 : (wipeE ρ' sl2)[i]? = some (some d) := by
            rw [wipeE_get, if_neg fun z => hi (hss i z), set_other hset i fun z => hi (hsl i z), wipeE_get, if_neg hi]
            exact h
          obtain ⟨v, h1, h2, h3⟩ := R6.get i d h4
          refine ⟨v, ?_, h2, h3⟩
          rw [wipe_get, if_neg fun z => hi (hss i z), sets_get _ _ _ _ fun z => hi (hsl i z)] at h1
          exact h1
      · exact .inr z
    | false =>
      rw [if_neg Bool.false_ne_true]
      have f5 : ((comp2L T (xs.drop (i + 1)) >>= fun ys => pure ys : M (List D)) w4.S).wp (fun r S' => F (ds ++ r) S') NoX := f4
      rw [bind_pure'] at f5
      have E24 : Ext H2 w2 H4 w4 := e3.trans e4
      exact ⟨w4, R2.mono E24 R5.wo, m2.trans (E24.mono wo2), acc, ds, e2.trans E24, R5.wo, E24.keep _ _ g1 lstT nb, g2.ext wo2 E24, E24.nU g1 nu, E24.nB g1 nb, f5⟩
  · have e : i = xs.length := by omega
    subst e
    have f1 : ((comp2L T (xs.drop xs.length)) w2.S).wp (fun r S' => F (ds ++ r) S') NoX := f
    rw [List.drop_length] at f1
    have f2 : F (ds ++ []) w2.S := f1
    rw [List.append_nil] at f2
    exact .inl ⟨js _ (Nat.le_refl _), f2.2 _ H2 w2 rfl (ex.trans e2) wo2 ⟨Dd, acc, rfl, g1, g2, nu, nb, ex.free hD⟩⟩
end
end DE

/-! DEzip: zip of a list and a tuple, either way about. -/
namespace DE
open PySem PySem.Spec PyProof.Rows L2
/-- a side: true, a tuple; false, a list -/
def Sd (K : PySem.W.Frag) : Bool → Hp → Addr → List V → Prop
  | true => SqT K
  | false => SqL K
def sdI : Bool → Heap → Addr → Addr → Nat → Prop
  | true => Heap.IsTupleIter
  | false => Heap.IsListIter
def sdQ : Bool → Heap → Addr → Array Value → Prop
  | true => Heap.IsTuple
  | false => Heap.IsList
def sdO : Bool → Addr → Obj
  | true, l => { cls := .type "tuple_iterator", data := .fields #[.ref l, .int 0 0] }
  | false, l => { cls := .type "list_iterator", data := .fields #[.ref l, .int 0 0] }
/-- a side's iterator from its place k on -/
theorem sd_draws {P : Program} {w : World} {A : Around} (k : Bool) (hh : A.handled = none) (it l : Addr) (ne : l ≠ it) (us : Array Value) (n : Nat) :
    Draws P w A it [it, l] (us.size - n) (fun i v => us[n + i]? = some v) (fun i h => sdI k h it l (n + i) ∧ sdQ k h l us) := by
  cases k
  · exact {
      live := fun i h st => by obtain ⟨o, e, _⟩ := st.1; exact ⟨o, e⟩
      frame := fun i h h' st q => ⟨Heap.IsListIter.at st.1 fun o e => q _ List.mem_cons_self o e, Heap.IsList.at st.2 fun o e => q _ (List.mem_cons_of_mem _ List.mem_cons_self) o e⟩
      item := fun i s Q E hi st hQ => by
        have hl : n + i < us.size := by omega
        refine wpAny_nextOf_list_item st.1 st.2 (Array.getElem?_eq_getElem hl) fun h1 g1 sb => ?_
        exact hQ _ h1 s.toks (Array.getElem?_eq_getElem hl) ⟨g1, Heap.IsList.extBut st.2 sb.extBut ne⟩ sb
      done := fun s Q E st hE => wpAny_nextOf_list_end hh st.1 st.2 (Array.getElem?_eq_none (by omega)) hE }
  · exact {
      live := fun i h st => by obtain ⟨o, e, _⟩ := st.1; exact ⟨o, e⟩
      frame := fun i h h' st q => ⟨Heap.IsTupleIter.at st.1 fun o e => q _ List.mem_cons_self o e, Heap.IsTuple.at st.2 fun o e => q _ (List.mem_cons_of_mem _ List.mem_cons_self) o e⟩
      item := fun i s Q E hi st hQ => by
        have hl : n + i < us.size := by omega
        refine wpAny_nextOf_tuple_item st.1 st.2 (Array.getElem?_eq_getElem hl) fun h1 g1 sb => ?_
        exact hQ _ h1 s.toks (Array.getElem?_eq_getElem hl) ⟨g1, Heap.IsTuple.extBut st.2 sb.extBut ne⟩ sb
      done := fun s Q E st hE => wpAny_nextOf_tuple_end hh st.1 st.2 (Array.getElem?_eq_none (by omega)) hE }
theorem sd_begins (k : Bool) (l : Addr) (us : Array Value) : Begins (.ref l) (sdO k l) fun h => sdQ k h l us := by
  cases k
  · exact begins_list l us
  · exact begins_tuple l us
theorem sd_at {k : Bool} {h h' : Heap} {it l : Addr} {i : Nat} (q : sdI k h it l i) (e : ∀ o, h.get? it = some o → h'.get? it = some o) : sdI k h' it l i := by
  cases k
  · exact Heap.IsListIter.at q e
  · exact Heap.IsTupleIter.at q e
theorem sd_start (k : Bool) {h : Heap} {it l : Addr} (e : h.get? it = some (sdO k l)) : sdI k h it l 0 := by
  cases k
  · exact ⟨_, e, rfl, rfl⟩
  · exact ⟨_, e, rfl, rfl⟩
theorem sd_obj {k : Bool} {h : Heap} {it l : Addr} {i : Nat} (q : sdI k h it l i) : ∃ o, h.get? it = some o ∧ ∀ v, o.data ≠ .cell v := by
  cases k
  · obtain ⟨o, e, _, d⟩ := q
    exact ⟨o, e, fun v z => by rw [d] at z; cases z⟩
  · obtain ⟨o, e, _, d⟩ := q
    exact ⟨o, e, fun v z => by rw [d] at z; cases z⟩
section
variable {X : Cx} {pins : List (Addr × Obj)} {σ : L2.St} {H : Hp} {s : Shared} {a : Addr} {xs ys : List V}
theorem sd_inv {k : Bool} (I : Inv X pins σ H s) (q : Sd X.K k H a xs) : ∃ us : List Value, Vals xs us ∧ sdQ k s.heap a us.toArray ∧ a < s.heap.objs.size := by
  cases k
  · obtain ⟨us, r, p, _⟩ := I.list q
    exact ⟨us, r, p.isList, p.lt⟩
  · obtain ⟨us, r, p, _⟩ := I.tuple q
    obtain ⟨o, e, _⟩ := id p
    exact ⟨us, r, p, Heap.lt_size e⟩
theorem sd_inj {k : Bool} (I : Inv X pins σ H s) (p : Sd X.K k H a xs) (q : Sd X.K k H a ys) : xs = ys := by
  cases k
  · exact I.list_inj p q
  · exact I.tuple_inj p q
end
/-- what a zip of two sides yields: new pairs of the things as they stand -/
def ItzS (K : PySem.W.Frag) (k m : Bool) (a b : Addr) : It where
  go := fun i H => ∃ (vs us : List V) (v u : V), Sd K k H a vs ∧ Sd K m H b us ∧ vs[i]? = some v ∧ us[i]? = some u
  yld := fun i H r H' => ∃ (c : Addr) (v u : V), r = .ref c ∧ H c = none ∧ H' = upd H c (.tup [v, u]) ∧ (∀ vs, Sd K k H a vs → vs[i]? = some v) ∧ (∀ us, Sd K m H b us → us[i]? = some u)
  stop := fun i H => ∃ (vs us : List V), Sd K k H a vs ∧ Sd K m H b us ∧ (vs.length ≤ i ∨ us.length ≤ i)
theorem sep_of {z TI TO i1 i2 a b : Addr} (D : ZipApart z TI TO i1 i2 a b) : ZipSep2 z TI TO i1 i2 [i1, a] [i2, b] where
  TIz := D.TIz
  TOz := D.TOz
  TITO := D.TITO
  TIi1 := D.TIi1
  mem1 := by simp
  zf1 := by simp [D.i1z.symm, D.l1z.symm]
  Tf1 := by simp [D.TOi1, D.l1TO.symm]
  TIi2 := D.TIi2
  mem2 := by simp
  zf2 := by simp [D.i2z.symm, D.l2z.symm]
  Tf2 := by simp [D.TOi2, D.l2TO.symm]
  sep1_2 := by simp [D.i12, D.l2i1.symm]
  sep2_1 := by simp [D.i12.symm, D.l1i2.symm]
theorem turn_zipS {P : Program} {w : World} {K : PySem.W.Frag} {ex : List Expr} {n : Nat} {tp : Pos} {k m : Bool} {a b z TI TO i1 i2 : Addr} (D : ZipApart z TI TO i1 i2 a b) :
    Turn P w K (.Tuple ex n tp) (ItzS K k m a b) [z, TI, TO, i1, i2] z
      (fun i h => IsZip h z TI TO .none ∧ IsTupOf2 h TI (.ref i1) (.ref i2) ∧ (∃ x y, IsTupOf2 h TO x y) ∧ sdI k h i1 a i ∧ sdI m h i2 b i) where
  mem := List.mem_cons_self
  obj := fun i h st c hc => by
    obtain ⟨g1, g2, ⟨x, y, g3⟩, g4, g5⟩ := st
    simp only [List.mem_cons, List.not_mem_nil, or_false] at hc
    rcases hc with rfl | rfl | rfl | rfl | rfl
    · exact ⟨_, g1, fun v q => by cases q⟩
    · exact ⟨_, g2, fun v q => by cases q⟩
    · exact ⟨_, g3, fun v q => by cases q⟩
    · exact sd_obj g4
    · exact sd_obj g5
  keep := fun i h h' st q => by
    obtain ⟨g1, g2, ⟨x, y, g3⟩, g4, g5⟩ := st
    exact ⟨q _ (by simp) _ g1, q _ (by simp) _ g2, ⟨x, y, q _ (by simp) _ g3⟩, sd_at g4 (q _ (by simp)), sd_at g5 (q _ (by simp))⟩
  item := by
    intro X eP eW eK calm i pins s σ H E I hf st go
    subst eP eW eK
    obtain ⟨g1, g2, ⟨x0, y0, g3⟩, g4, g5⟩ := st
    obtain ⟨vs, us, v, u, qv, qu, hv, hu⟩ := go
    obtain ⟨rs, r1, p1, l1⟩ := sd_inv I qv
    obtain ⟨ts, r2, p2, l2⟩ := sd_inv I qu
    obtain ⟨x, hx, rx⟩ := r1.get hv
    obtain ⟨y, hy, ry⟩ := r2.get hu
    have hh : X.A.in1.handled = none := I.ok.hd calm
    have lz : z < s.heap.objs.size := Heap.lt_size g1
    refine wpAny_pyNext_zipD2_item (sep_of D) (i := 0) (sd_draws k hh i1 a D.l1i1 rs.toArray i) (sd_draws m hh i2 b D.l2i2 ts.toArray i) g1 g2 g3 ⟨g4, p1⟩ ⟨g5, p2⟩ ?_ ?_ fun x1 y1 h1 tk e1 e2 n1 n2 n3 n4 n5 n6 n7 => ?_
    · have := (List.getElem?_eq_some_iff.mp hx).1
      show 0 < rs.toArray.size - i
      simp only [List.size_toArray]
      omega
    · have := (List.getElem?_eq_some_iff.mp hy).1
      show 0 < ts.toArray.size - i
      simp only [List.size_toArray]
      omega
    obtain rfl : x = x1 := by simpa [hx] using e1
    obtain rfl : y = y1 := by simpa [hy] using e2
    refine ⟨_, rfl, wpAny_letOwnedTupleGo_zip (s := { s with heap := h1, toks := tk }) n1 fun h2 n8 sb => ?_⟩
    have nT : h2.get? s.heap.objs.size = some { cls := .type "tuple", data := .seq #[x, y] } := (sb.2 _ (Nat.ne_of_gt lz)).trans n5
    have new : ObjOk X.prog X.w (upd H s.heap.objs.size (.tup [v, u])) h2 s.heap.objs.size (.tup [v, u]) := ⟨Nat.le_of_ble_eq_true rfl, [x, y], .cons rx (.cons ry .nil), _, nT, rfl, _, rfl⟩
    have I1 : Inv X pins σ (upd H s.heap.objs.size (.tup [v, u])) { s with heap := h2, toks := tk } := by
      refine I.turnedNew (ch := [z, TI, TO, i1, i2]) (fun c o hc e => ?_) hf (Nat.le_refl _) new
      simp only [List.mem_cons, List.not_mem_nil, or_false, not_or] at hc
      exact (sb.2 c hc.1).trans (n7 c o hc.1 hc.2.2.1 hc.2.2.2.1 hc.2.2.2.2 e)
    refine ⟨.ref s.heap.objs.size, _, I1, rfl, ⟨_, v, u, rfl, I.hok.fresh (Nat.le_refl _), rfl, fun l q => ?_, fun l q => ?_⟩, ⟨n8, ?_, ⟨x, y, ?_⟩, ?_, ?_⟩, fun c hc => ?_⟩
    · rw [sd_inj I q qv]; exact hv
    · rw [sd_inj I q qu]; exact hu
    · exact (sb.2 _ D.TIz).trans (n7 _ _ D.TIz D.TITO D.TIi1 D.TIi2 g2)
    · exact (sb.2 _ D.TOz).trans n2
    · exact sd_at n3.1 fun o q => (sb.2 _ D.i1z).trans q
    · exact sd_at n4.1 fun o q => (sb.2 _ D.i2z).trans q
    · rw [upd_ne ?_]
      · exact (hf c hc).1
      · simp only [List.mem_cons, List.not_mem_nil, or_false] at hc
        rcases hc with rfl | rfl | rfl | rfl | rfl
        · exact Nat.ne_of_lt lz
        · exact Nat.ne_of_lt (Heap.lt_size g2)
        · exact Nat.ne_of_lt (Heap.lt_size g3)
        · obtain ⟨_, e, _⟩ := sd_obj g4; exact Nat.ne_of_lt (Heap.lt_size e)
        · obtain ⟨_, e, _⟩ := sd_obj g5; exact Nat.ne_of_lt (Heap.lt_size e)
  done := by
    intro X eP eW eK calm i pins s σ H E I hf st go
    subst eP eW eK
    obtain ⟨g1, g2, ⟨x0, y0, g3⟩, g4, g5⟩ := st
    obtain ⟨vs, us, qv, qu, hend⟩ := go
    obtain ⟨rs, r1, p1, l1⟩ := sd_inv I qv
    obtain ⟨ts, r2, p2, l2⟩ := sd_inv I qu
    have hh : X.A.in1.handled = none := I.ok.hd calm
    have e1 := r1.length
    have e2 := r2.length
    refine wpAny_pyNext_zipD2_end (sep_of D) (i := 0) (sd_draws k hh i1 a D.l1i1 rs.toArray i) (sd_draws m hh i2 b D.l2i2 ts.toArray i) g1 g2 g3 ⟨g4, p1⟩ ⟨g5, p2⟩ (Nat.zero_le _) (Nat.zero_le _) ?_ fun h1 tk q => ⟨rfl, ?_⟩
    · simp only [List.size_toArray]
      omega
    · refine I.turnedL (ch := [z, TI, TO, i1, i2]) (fun c o hc e => ?_) hf
      simp only [List.mem_cons, List.not_mem_nil, or_false, not_or] at hc
      exact q c o hc.1 hc.2.2.1 hc.2.2.2.1 hc.2.2.2.2 e
  self := fun A i s Q E st q => wpAny_pyIter_zip st.1 q
/-- zip of any two sides -/
def iZipS (K : PySem.W.Frag) (ta : TA) : TI := fun σ H R => ta σ H fun vs H1 => ∃ (k m : Bool) (a b : Addr) (xs ys : List V), vs = [.ref a, .ref b] ∧ Sd K k H1 a xs ∧ Sd K m H1 b ys ∧ R (ItzS K k m a b) H1
theorem pi_zipS {X : Cx} {e d : Expr} {ta : TA} {p q tp : Pos} {ex : List Expr} {n : Nat} (hg : Gl X "zip") (hm : X.mg "zip" = none) (ha : PA X [e, d] ta)
    (hs : starEach [e, d] X.env = (false, eval e X.env) :: starEach [d] X.env) (hp : (backTo q (starEach [d] X.env)).any (·.1) = false) :
    PI X (.Tuple ex n tp) (.Call (.Name "zip" p) [e, d] [] q) (iZipS X.K ta) := by
  constructor
  intro pins s σ H R I h
  refine Call_ (ld_blt I hg hm PyProof.Rows.boot_zip (PyProof.Rows.callWith_type1 (thn (ha.run q pins s σ H _ I h) fun us s1 r => ?_) hs hp))
  obtain ⟨vs, H1, I1, r1, k, m, a, b, xs, ys, rfl, qa, qb, r2⟩ := r
  cases r1 with | cons ra r1 =>
  cases r1 with | cons rb r1 =>
  cases r1
  cases ra
  cases rb
  obtain ⟨rs, _, p1, l1⟩ := sd_inv I1 qa
  obtain ⟨ts, _, p2, l2⟩ := sd_inv I1 qb
  refine zip_begins2 (sd_begins k a rs.toArray) (sd_begins m b ts.toArray) p1 p2 fun h1 g1 g2 g3 g4 g5 _ kp => wpAny_pyIter_zip g1 ?_
  refine ⟨s1.heap.objs.size + 4, [s1.heap.objs.size + 4, s1.heap.objs.size + 2, s1.heap.objs.size + 3, s1.heap.objs.size, s1.heap.objs.size + 1], _, _, H1, rfl, I1.kept (t' := s1.toks) kp,
    turn_zipS (k := k) (m := m) (PySem.W.ktu_apart s1.heap.objs.size a b l1 l2), ⟨g1, g2, ⟨_, _, g3⟩, sd_start k g4, sd_start m g5⟩, fun c hc => ?_, r2⟩
  have hle : s1.heap.objs.size ≤ c := by
    simp only [List.mem_cons, List.not_mem_nil, or_false] at hc
    rcases hc with rfl | rfl | rfl | rfl | rfl <;> first | exact Nat.le_add_right _ _ | exact Nat.le_refl _
  exact I1.fpOk hle (I1.hok.fresh hle)
/-- a side that stays: a list, or a tuple -/
def Sp (K : PySem.W.Frag) (H : Hp) (w : Wd) (P : Hp → Prop) : Bool → Addr → List V → Prop
  | true => SqT K H
  | false => StP K H w P
theorem sp_at {K : PySem.W.Frag} {H H' : Hp} {w w' : Wd} {P : Hp → Prop} {k : Bool} {a : Addr} {vs : List V} (h : Sp K H w P k a vs) (e : Mono H w H' w') (p : P H') : Sd K k H' a vs := by
  cases k
  · exact h H' w' e p
  · exact SqT.mono e h
theorem jis_zipS {K : PySem.W.Frag} {H1 : Hp} {w1 : Wd} {P : Hp → Prop} {k m : Bool} {a b : Addr} {vs us : List V} {ds es : List D} (h : Sp K H1 w1 P k a vs) (r : RpL K H1 w1 vs ds) (g : Sp K H1 w1 P m b us) (q : RpL K H1 w1 us es) :
    JIs K H1 w1 P (ItzS K k m a b) ((ds.zip es).map fun p => .tup [p.1, p.2]) := fun H w e pp wo => by
  have h' := sp_at h e pp
  have r' := r.mono e
  have g' := sp_at g e pp
  have q' := q.mono e
  refine ⟨fun i d hd => ?_, fun i hi => ⟨vs, us, h', g', by rw [r.length, q.length]; simp only [List.length_map, List.length_zip] at hi; omega⟩⟩
  obtain ⟨x, y, hx, hy, rfl⟩ := zip_get hd
  obtain ⟨v, hv, rv⟩ := r'.get hx
  obtain ⟨u, hu, ru⟩ := q'.get hy
  refine ⟨⟨vs, us, v, u, h', g', hv, hu⟩, fun x H' y => ?_⟩
  obtain ⟨T, z1, z2, rfl, hT, rfl, y1, y2⟩ := y
  have p1 := y1 vs h'
  rw [hv] at p1
  obtain rfl := Option.some.inj p1
  have p2 := y2 us g'
  rw [hu] at p2
  obtain rfl := Option.some.inj p2
  exact ⟨w, rfl, Ext.laid hT, wo.laid hT, rp_pair wo hT rv ru⟩
end DE

/-! DErule: the rules of terms, with our readings. -/
namespace DE
open PySem PySem.Spec PyProof.Rows L2 PySem.Calls

theorem star_cons {e : Expr} {es : List Expr} {env : PySem.Env} (h : notStar e = true) : starEach (e :: es) env = (false, eval e env) :: starEach es env := by
  cases e <;> first | rfl | cases h
theorem plain_of {env : PySem.Env} {pos : Pos} : ∀ {es : List Expr}, es.all notStar = true → (backTo pos (starEach es env)).any (·.1) = false
  | [], _ => rfl
  | e :: es, h => by
    simp only [List.all_cons, Bool.and_eq_true] at h
    rw [star_cons h.1]
    have ih := plain_of (env := env) (pos := pos) h.2
    show (false || (backTo pos (starEach es env)).any (·.1)) = false
    rw [ih]
    rfl
theorem plainIx {b : Expr} (h : notSlice b = true) : PlainIx b := by
  intro o i
  cases b <;> first | rfl | cases h
theorem vis_of {sc : Scope} {X : Cx} {x : Str} (hs : X.env.scope = sc) (h : vis sc x = true) : Vis X.env.scope x := by
  rw [hs]
  unfold vis at h
  unfold Vis
  cases e : sc.names.lookup x with
  | none => rw [e] at h; cases h
  | some kd => rw [e] at h; cases kd <;> simp_all
theorem gl_of {sc : Scope} {X : Cx} {x : Str} (hs : X.env.scope = sc) (h : isGl sc x = true) : Gl X x := by
  unfold isGl at h
  rw [← hs] at h
  have q := of_decide_eq_true h
  exact q
theorem okName_db {x : Str} (h : okName x = true) : (x == ("__debug__" : Str)) = false ∧ (x == ("__classdict__" : Str)) = false ∧ x ≠ ("__name__" : Str) := by
  unfold okName at h
  simp only [Bool.and_eq_true, Bool.not_eq_true', decide_eq_true_eq] at h
  exact ⟨h.1.1, h.1.2, h.2⟩

section
variable {K : PySem.W.Frag} {H0 : Hp} {w0 : Wd} {xk : Exn → S → Prop} {ω : List Nat} {σ : L2.St} {H : Hp}
theorem rd_var {i : Nat} {Q : VK} (h : tD K H0 w0 xk ω .look (fun ρ => ρ.get i) σ H Q) : tVar i σ H Q := by
  obtain ⟨w, ρ, R, h⟩ := h
  have h : ((ρ.get i) w.S).wp _ _ := h
  unfold Env.get at h
  cases e : ρ[i]? with
  | none => rw [e] at h; exact h.elim
  | some o =>
    cases o with
    | none => rw [e] at h; exact h.elim
    | some d =>
      rw [e] at h
      obtain ⟨v, h1, l⟩ := R.look e
      exact ⟨v, h1, h v H w rfl (Ext.refl _ _) R.wo l⟩
theorem rd_var_sh {i : Nat} {Q : VK} (hi : (!ω.contains i) = true) (h : tD K H0 w0 xk ω .sh (fun ρ => ρ.get i) σ H Q) : tVar i σ H Q := by
  obtain ⟨w, ρ, R, h⟩ := h
  have h : ((ρ.get i) w.S).wp _ _ := h
  unfold Env.get at h
  cases e : ρ[i]? with
  | none => rw [e] at h; exact h.elim
  | some o =>
    cases o with
    | none => rw [e] at h; exact h.elim
    | some d =>
      rw [e] at h
      obtain ⟨v, h1, _, l⟩ := R.get i d e
      exact ⟨v, h1, h v H w rfl (Ext.refl _ _) R.wo (l (by simpa using hi))⟩
theorem rd_pure {m : Md} {v : V} {d : D} {Q : VK} (hv : ∀ H w, Val K H H w m v d) (h : tD K H0 w0 xk ω m (fun _ => pure d) σ H Q) : tC v σ H Q := by
  obtain ⟨w, ρ, R, h⟩ := h
  exact h v H w rfl (Ext.refl _ _) R.wo (hv H w)
/-! ### slices -/
def PostO (K : PySem.W.Frag) (H : Hp) (w : Wd) (Q : Option Int → Hp → Prop) : Option Int → S → Prop := fun o S' => ∀ H' w', w'.S = S' → Ext H w H' w' → WOk K H' w' → Q o H'
def tO (K : PySem.W.Frag) (H0 : Hp) (w0 : Wd) (xk : Exn → S → Prop) (ω : List Nat) (f : Env → M (Option Int)) : TO := fun σ H Q => ∃ w ρ, Rel K H0 w0 ω σ H w ρ ∧ (f ρ w.S).wp (PostO K H w Q) xk
theorem rd_ono {Q : Option Int → Hp → Prop} (h : tO K H0 w0 xk ω (fun _ => do optI (← pure none)) σ H Q) : tNoPart σ H Q := by
  obtain ⟨w, ρ, R, h⟩ := h
  exact h H w rfl (Ext.refl _ _) R.wo
theorem rd_oyes {f : Env → M D} {Q : Option Int → Hp → Prop} (h : tO K H0 w0 xk ω (fun ρ => do optI (← (do return some (← f ρ)))) σ H Q) : tPart (tD K H0 w0 xk ω .look f) σ H Q := by
  obtain ⟨w, ρ, R, h⟩ := h
  simp only [bind_assoc'] at h
  rw [wp_bind] at h
  refine tD_then R h fun x w1 H1 v h e1 R1 l1 => ?_
  cases x with
  | int i =>
    obtain rfl := Look.int l1
    exact ⟨i, rfl, h H1 w1 rfl e1 R1.wo⟩
  | _ => exact h.elim
theorem rd_slice {f : Env → M D} {l h : Env → M (Option Int)} {Q : VK} (hy : tD K H0 w0 xk ω .own (fun ρ => do let x ← f ρ; let a ← l ρ; let b ← h ρ; sliceD x a b) σ H Q) :
    tSl (rSlD K) (tD K H0 w0 xk ω .look f) (tO K H0 w0 xk ω l) (tO K H0 w0 xk ω h) σ H Q := by
  obtain ⟨w, ρ, R, hy⟩ := hy
  rw [wp_bind] at hy
  refine tD_then R hy fun x w1 H1 v hy e1 R1 l1 => ?_
  rw [wp_bind] at hy
  refine ⟨w1, ρ, R1, wpq hy fun a s q H2 w2 es e2 wo2 => ?_⟩
  have R2 := R1.mono e2 wo2
  rw [wp_bind] at q
  rw [← es] at q
  refine ⟨w2, ρ, R2, wpq q fun b s q H3 w3 es3 e3 wo3 => ?_⟩
  rw [← es3] at q
  exact ⟨w3, x, wo3, Look.ext R1.wo (e2.trans e3) l1 , (nx_slice x a b).wp (wpq q fun d s q => q.back ((e1.trans e2).trans e3))⟩
/-! ### argument lists -/
theorem rd_anil {Q : List V → Hp → Prop} (h : tA K H0 w0 xk ω (fun _ => pure []) σ H Q) : tNil σ H Q := by
  obtain ⟨w, ρ, R, h⟩ := h
  exact h [] H w rfl (Ext.refl _ _) R.wo .nil
theorem rd_akil {Q : List V → Hp → Prop} (h : tAk K H0 w0 xk ω (fun _ => pure []) σ H Q) : tNil σ H Q := by
  obtain ⟨w, ρ, R, h⟩ := h
  exact h [] H w rfl (Ext.refl _ _) R.wo .nil
theorem rd_acons {f : Env → M D} {g : Env → M (List D)} {Q : List V → Hp → Prop} (h : tA K H0 w0 xk ω (fun ρ => do let x ← f ρ; let xs ← g ρ; return x :: xs) σ H Q) :
    tCons (tD K H0 w0 xk ω .sh f) (tA K H0 w0 xk ω g) σ H Q := by
  obtain ⟨w, ρ, R, hy⟩ := h
  rw [wp_bind] at hy
  refine tD_then R hy fun x w1 H1 v hy e1 R1 l1 => ?_
  rw [wp_bind] at hy
  exact ⟨w1, ρ, R1, wpq hy fun ds s q vs H' w' es ex wo r => q (v :: vs) H' w' es (e1.trans ex) wo (.cons (Rp.ext R1.wo ex l1) r)⟩
theorem look_extL {H1 : Hp} {w1 : Wd} {w : Wd} (wo : WOk K H w) (e : Ext H w H1 w1) : ∀ {vs : List V} {ds : List D}, Paired (Look K H w) vs ds → Paired (Look K H1 w1) vs ds
  | _, _, .nil => .nil
  | _, _, .cons a r => .cons (Look.ext wo e a) (look_extL wo e r)
theorem rd_akcons {f : Env → M D} {g : Env → M (List D)} {Q : List V → Hp → Prop} (h : tAk K H0 w0 xk ω (fun ρ => do let x ← f ρ; let xs ← g ρ; return x :: xs) σ H Q) :
    tCons (tD K H0 w0 xk ω .look f) (tAk K H0 w0 xk ω g) σ H Q := by
  obtain ⟨w, ρ, R, hy⟩ := h
  rw [wp_bind] at hy
  refine tD_then R hy fun x w1 H1 v hy e1 R1 l1 => ?_
  rw [wp_bind] at hy
  exact ⟨w1, ρ, R1, wpq hy fun ds s q vs H' w' es ex wo r => q (v :: vs) H' w' es (e1.trans ex) wo (.cons (Look.ext R1.wo ex l1) r)⟩
theorem rd_astar {f : Env → M D} {g : Env → M (List D)} {Q : List V → Hp → Prop} (h : tA K H0 w0 xk ω (fun ρ => do let x ← f ρ; let ys ← starD x; let xs ← g ρ; return ys ++ xs) σ H Q) :
    StX.tStar K (tD K H0 w0 xk ω .look f) (tA K H0 w0 xk ω g) σ H Q := by
  obtain ⟨w, ρ, R, hy⟩ := h
  rw [wp_bind] at hy
  refine tD_then R hy fun x w1 H1 v hy e1 R1 l1 => ?_
  have l1' : Look K H1 w1 v x := l1
  have go : ∀ (p : Addr) (us : List V) (es : List D), v = .ref p → (SqT K H1 p us ∨ SqL K H1 p us) → RpL K H1 w1 us es → ((g ρ >>= fun xs => (pure (es ++ xs) : M (List D))) w1.S).wp (PostL K H w Q) xk → _ := fun p us es e1' hs rl hz => by
    rw [wp_bind] at hz
    exact (⟨p, us, e1', hs, w1, ρ, R1, wpq hz fun ds s q vs H' w' es' ex wo r => q (us ++ vs) H' w' es' (e1.trans ex) wo ((RpL.ext R1.wo ex rl).append r)⟩ : ∃ p xs, v = V.ref p ∧ (SqT K H1 p xs ∨ SqL K H1 p xs) ∧ tA K H0 w0 xk ω g σ H1 fun ys H2 => Q (xs ++ ys) H2)
  cases x with
  | lst es =>
    obtain ⟨p, us, e, hs, rl⟩ := l1'.lst
    exact go p us es e (.inr hs) rl (by simpa only [starD, itemsD, pure_bind'] using hy)
  | tup es =>
    obtain ⟨p, us, e, hs, rl⟩ := l1'.tup
    exact go p us es e (.inl hs) rl (by simpa only [starD, itemsD, pure_bind'] using hy)
  | _ => simp only [starD, itemsD, stuck_bind] at hy; exact hy.elim
/-! ### calls -/
theorem wp_and {α : Type} {r : R α} {P : α → Prop} {Q : α → S → Prop} {xk : Exn → S → Prop} (h : r.wp Q xk) (p : ∀ a s, r = .ok a s → P a) : r.wp (fun a s => P a ∧ Q a s) xk := by
  cases r with
  | ok a s => exact ⟨p a s rfl, h⟩
  | exc x s => exact h
  | stuck => exact h
theorem ok_bind {α β : Type} {m : M α} {f : α → M β} {s s' : S} {b : β} (h : (m >>= f) s = .ok b s') : ∃ a s1, m s = .ok a s1 ∧ f a s1 = .ok b s' := by
  have h' : M.bind m f s = .ok b s' := h
  unfold M.bind at h'
  cases e : m s with
  | ok a s1 => rw [e] at h'; exact ⟨a, s1, rfl, h'⟩
  | exc x s1 => rw [e] at h'; cases h'
  | stuck => rw [e] at h'; cases h'
theorem evEs_len {c : Ctx} {T : Tab} {N : List Str} {sc : Scope} {ρ : Env} : ∀ (as : Es) (es : List Expr) (s s' : S) (ds : List D), mEs T N sc as es = true → evEs c ρ as s = .ok ds s' → ds.length = es.length
  | .nil, [], _, _, _, _, h => by cases h; rfl
  | .nil, _ :: _, _, _, _, m, _ => by simp [mEs] at m
  | .cons _ _, [], _, _, _, m, _ => by simp [mEs] at m
  | .cons a as, e :: es, s, s', ds, m, h => by
    simp only [mEs, Bool.and_eq_true] at m
    simp only [evEs] at h
    obtain ⟨x, s1, h1, h⟩ := ok_bind h
    obtain ⟨xs, s2, h2, h⟩ := ok_bind h
    cases h
    rw [List.length_cons, List.length_cons, evEs_len as es s1 _ xs m.2 h2]
theorem mEs_stars {T : Tab} {N : List Str} {sc : Scope} : ∀ {as : Es} {es : List Expr}, mEs T N sc as es = true → es.all notStar = true
  | .nil, [], _ => rfl
  | .nil, _ :: _, m => by simp [mEs] at m
  | .cons _ _, [], m => by simp [mEs] at m
  | .cons a as, e :: es, m => by
    simp only [mEs, Bool.and_eq_true] at m
    simp only [List.all_cons, Bool.and_eq_true]
    exact ⟨m.1.1, mEs_stars m.2⟩
theorem rd_bi {b : Bi} {g : Env → M (List D)} {Q : VK} (h : tD K H0 w0 xk ω .own (fun ρ => do let ds ← g ρ; biD b ds) σ H Q) : tCB (rB K b) (tAk K H0 w0 xk ω g) σ H Q := by
  obtain ⟨w, ρ, R, hy⟩ := h
  rw [wp_bind] at hy
  exact ⟨w, ρ, R, wpq hy fun ds s q vs H' w' es ex wo r => ⟨w', ds, wo, r, (nx_bi b ds).wp (by rw [es]; exact wpq q fun d s q => q.back ex)⟩⟩
theorem rd_isi {t : Ty} {f : Env → M D} {m : Md} {Q : VK} (h : tD K H0 w0 xk ω m (fun ρ => do let x ← f ρ; return .bl (← isiD t x)) σ H Q) :
    tCB (fun vs H Q => ∃ w x d, WOk K H w ∧ vs = [x, .ty (tyS t)] ∧ DE.Look K H w x d ∧ (isiD t d w.S).wp (PostB K H w Q) NoX) (tCons (tD K H0 w0 xk ω .look f) (tCons (tC (.ty (tyS t))) tNil)) σ H Q := by
  obtain ⟨w, ρ, R, hy⟩ := h
  rw [wp_bind] at hy
  refine tD_then R hy fun x w1 H1 v hy e1 R1 l1 => ?_
  rw [wp_bind] at hy
  refine ⟨w1, v, x, R1.wo, rfl, l1, (nx_isi t x).wp (wpq hy fun d s q es => ?_)⟩
  have q' := Post.back e1 q
  rw [← es] at q'
  exact Post.bl R1.wo q'
theorem Post.non {m : Md} {Q : VK} {w : Wd} (wo : WOk K H w) (h : Post K H w m Q .non w.S) : Q .non H := h.here wo rfl (by cases m <;> first | exact .non | exact .inl .non)
theorem rpl_ints0 : ∀ (ns : List Int) {w : Wd}, RpL K H w (ns.map V.int) (ns.map D.int)
  | [], _ => .nil
  | n :: r, _ => .cons (.int n) (rpl_ints0 r)
theorem rd_gget {kvs : List (Str × Int)} {f : Env → M D} {m : Md} {Q : VK} (h : tD K H0 w0 xk ω m (fun ρ => do let d ← f ρ; tabGet kvs d) σ H Q) : tGt kvs (tD K H0 w0 xk ω .look f) σ H Q := by
  obtain ⟨w, ρ, R, hy⟩ := h
  rw [wp_bind] at hy
  refine tD_then R hy fun d w1 H1 v hy e1 R1 l1 => ?_
  cases d with
  | str z =>
    obtain rfl := Look.str l1
    refine ⟨z, rfl, ?_⟩
    have q := Post.back e1 (show Post K H w m Q (match kvs.lookup z with
      | some i => .int i
      | none => .non) w1.S from hy)
    unfold tabV
    cases e : kvs.lookup z with
    | none =>
      rw [e] at q
      exact Post.non R1.wo q
    | some i =>
      rw [e] at q
      exact Post.int R1.wo q
  | _ => cases hy
theorem rd_sdict {f : Env → M D} {Q : VK} (h : tD K H0 w0 xk ω .own (fun ρ => do let d ← f ρ; sdictD d) σ H Q) :
    tCB rSdI (tCons (tCB (rDpI K) (tCons (tD K H0 w0 xk ω .look f) tNil)) tNil) σ H Q := by
  obtain ⟨w, ρ, R, hy⟩ := h
  rw [wp_bind] at hy
  refine tD_then R hy fun d w1 H1 v hy e1 R1 l1 => ?_
  cases d with
  | lst ds =>
    have hy : ((optF (firsts? ds) fun ks => if ks.length < 64 then pure (.lst ((setI ks).map .int)) else stuck : M D) w1.S).wp (Post K H w .own Q) xk := hy
    cases e : firsts? ds with
    | none => rw [e] at hy; cases hy
    | some ks =>
      rw [e] at hy
      unfold optF at hy
      simp only at hy
      split at hy
      · rename_i h64
        obtain ⟨a, vs, rfl, hq, r⟩ := Look.lst l1
        obtain ⟨ps, kvs, rfl, hp, hk⟩ := firsts_rp r e
        refine ⟨a, ps, kvs, ks, rfl, hq, hp, hk, h64, fun p hp1 => ⟨p, kvs, ks, rfl, upd_same, hk, h64, fun q hq1 => ?_⟩⟩
        exact Post.lst (R1.wo.laid hp1) (Post.back (e1.trans (Ext.laid hp1)) (show Post K H w .own Q (.lst ((setI ks).map .int)) w1.S from hy)) (rpl_ints0 _) q hq1
      · cases hy
  | _ => cases hy
theorem RpL.rev {K : PySem.W.Frag} {H : Hp} {w : Wd} : ∀ {vs : List V} {ds : List D}, RpL K H w vs ds → RpL K H w vs.reverse ds.reverse := fun {vs ds} r => by
  have aux : ∀ (vs : List V) (ds : List D) (us : List V) (es : List D), RpL K H w vs ds → RpL K H w us es → RpL K H w (vs.reverseAux us) (ds.reverseAux es) := by
    intro vs
    induction vs with
    | nil =>
      intro ds us es r q
      cases r
      exact q
    | cons v vs ih =>
      intro ds us es r q
      cases r with
      | cons a b =>
        have z := ih _ _ _ b (.cons a q)
        exact z
  exact aux _ _ _ _ r .nil
theorem rd_rev {f : Env → M D} {Q : VK} (h : tD K H0 w0 xk ω .own (fun ρ => do let d ← f ρ; revD d) σ H Q) : tRv K (tD K H0 w0 xk ω .look f) σ H Q := by
  obtain ⟨w, ρ, R, hy⟩ := h
  rw [wp_bind] at hy
  refine tD_then R hy fun d w1 H1 v hy e1 R1 l1 => ?_
  cases d with
  | lst ds =>
    obtain ⟨a, vs, rfl, hq, r⟩ := Look.lst l1
    exact ⟨a, vs, rfl, .inl ⟨hq, fun p hp => Post.lst R1.wo (Post.back e1 (show Post K H w .own Q (.lst ds.reverse) w1.S from hy)) r.rev p hp⟩⟩
  | tup ds =>
    obtain ⟨a, vs, rfl, hq, r⟩ := Look.tup l1
    exact ⟨a, vs, rfl, .inr ⟨hq, fun p hp => Post.tup R1.wo (Post.back e1 (show Post K H w .own Q (.tup ds.reverse) w1.S from hy)) r.rev p hp⟩⟩
  | _ => cases hy
/-! ### displays -/
theorem rd_tup {g : Env → M (List D)} {m : Md} {Q : VK} (h : tD K H0 w0 xk ω m (fun ρ => do return .tup (← lineL (← g ρ))) σ H Q) : tTup (tA K H0 w0 xk ω g) σ H Q := by
  obtain ⟨w, ρ, R, hy⟩ := h
  rw [wp_bind] at hy
  refine ⟨w, ρ, R, wpq hy fun ds s q vs H' w' es ex wo r => ?_⟩
  rw [wp_bind] at q
  obtain ⟨hl, q⟩ := line_wp q
  refine ⟨by rw [r.length, ← line_eq]; exact hl, ?_⟩
  subst es
  exact Post.tup wo (Post.back ex q) r
theorem rd_lst {g : Env → M (List D)} {Q : VK} (h : tD K H0 w0 xk ω .own (fun ρ => do return .lst (← lineL (← g ρ))) σ H Q) : tLst (tA K H0 w0 xk ω g) σ H Q := by
  obtain ⟨w, ρ, R, hy⟩ := h
  rw [wp_bind] at hy
  refine ⟨w, ρ, R, wpq hy fun ds s q vs H' w' es ex wo r => ?_⟩
  rw [wp_bind] at q
  obtain ⟨hl, q⟩ := line_wp q
  refine ⟨by rw [r.length, ← line_eq]; exact hl, ?_⟩
  subst es
  exact Post.lst wo (Post.back ex q) r
end

/-! ### what a loop walks -/
section
variable {X : Cx} {tg : Expr}
def iSeq (K : PySem.W.Frag) (tl : TE) : TI := fun σ H R => tl σ H fun x H1 => ∃ a, x = .ref a ∧ (((∃ xs, SqL K H1 a xs) ∧ R (Itl K a) H1) ∨ ((∃ xs, SqT K H1 a xs) ∧ R (Itt K a) H1))
theorem pi_seq {l : Expr} {tl : TE} (hl : PE X l tl) : PI X tg l (iSeq X.K tl) := by
  refine ⟨fun pins s σ H R I h => ?_⟩
  refine thn (hl.run pins s σ H _ I h) fun v s1 ⟨x, H1, I1, r1, q1⟩ => ?_
  obtain ⟨a, e, q1⟩ := q1
  subst e
  cases r1
  rcases q1 with ⟨⟨xs, hq⟩, q⟩ | ⟨⟨xs, hq⟩, q⟩
  · obtain ⟨its, rv, p, hz⟩ := I1.list hq
    refine wpAny_pyIter_list p.isList ?_
    refine ⟨s1.heap.objs.size, [s1.heap.objs.size], _, _, H1, rfl, I1.kept (t' := s1.toks) fun b o e => Heap.get?_push_of_some _ e, turn_list a _, ⟨_, Heap.get?_push_size _ rfl, rfl, rfl⟩, fun b hb => ?_, q⟩
    have e : b = s1.heap.objs.size := by simpa using hb
    subst e
    exact I1.fpOk (Nat.le_refl _) (I1.hok.fresh (Nat.le_refl _))
  · obtain ⟨its, rv, p, hz⟩ := I1.tuple hq
    refine wpAny_pyIter_tuple (show s1.heap.IsTuple a its.toArray from p) ?_
    refine ⟨s1.heap.objs.size, [s1.heap.objs.size], _, _, H1, rfl, I1.kept (t' := s1.toks) fun b o e => Heap.get?_push_of_some _ e, turn_tuple a _, ⟨_, Heap.get?_push_size _ rfl, rfl, rfl⟩, fun b hb => ?_, q⟩
    have e : b = s1.heap.objs.size := by simpa using hb
    subst e
    exact I1.fpOk (Nat.le_refl _) (I1.hok.fresh (Nat.le_refl _))
def iEnumA (K : PySem.W.Frag) (ta : TA) : TI := fun σ H R => ta σ H fun vs H1 => ∃ a xs, vs = [.ref a] ∧ ((SqL K H1 a xs ∧ R (Ite K a) H1) ∨ (SqT K H1 a xs ∧ R (IteT K a) H1))
theorem pi_enumA {e : Expr} {ta : TA} {p pos tpos : Pos} {elts : List Expr} {kk : Nat} (hg : Gl X "enumerate") (hm : X.mg "enumerate" = none) (ha : PA X [e] ta) (hs : starEach [e] X.env = [(false, eval e X.env)]) :
    PI X (.Tuple elts kk tpos) (.Call (.Name "enumerate" p) [e] [] pos) (iEnumA X.K ta) := by
  refine ⟨fun pins s σ H R I h => ?_⟩
  refine Call_ (ld_blt I hg hm boot_enumerate (PyProof.Rows.callWith_type1 (thn (ha.run pos pins s σ H _ I h) fun us s1 ⟨vs, H1, I1, r1, q1⟩ => ?_) hs rfl))
  obtain ⟨a, xs, ex, q1⟩ := q1
  subst ex
  cases r1 with
  | cons r rr =>
    cases rr
    cases r
    rcases q1 with ⟨hq, q⟩ | ⟨hq, q⟩
    · obtain ⟨its, rv, p', hz⟩ := I1.list hq
      refine call_enumerate_list p'.isList fun h' he hit hsz hk => wpAny_pyIter_enum he ?_
      have I2 : Inv X pins σ H1 { s1 with heap := h' } := I1.kept (t' := s1.toks) hk
      refine ⟨s1.heap.objs.size + 1, [s1.heap.objs.size + 1, s1.heap.objs.size], _, _, H1, rfl, I2, turn_enum a (s1.heap.objs.size + 1) s1.heap.objs.size, ⟨⟨.none, he⟩, hit, Nat.succ_ne_self _⟩, fun b hb => ?_, q⟩
      have e' : b = s1.heap.objs.size + 1 ∨ b = s1.heap.objs.size := by simpa using hb
      have hle : s1.heap.objs.size ≤ b := by
        rcases e' with z | z
        · rw [z]; exact Nat.le_add_right _ _
        · rw [z]; exact Nat.le_refl _
      exact I1.fpOk hle (I1.hok.fresh hle)
    · obtain ⟨its, rv, p', hz⟩ := I1.tuple hq
      refine enum1_begins (begins_tuple a its.toArray) p' fun h' he hit hk => wpAny_pyIter_enum he ?_
      have I2 : Inv X pins σ H1 { s1 with heap := h' } := I1.kept (t' := s1.toks) hk
      refine ⟨s1.heap.objs.size + 1, [s1.heap.objs.size + 1, s1.heap.objs.size], _, _, H1, rfl, I2, turn_enumT a (s1.heap.objs.size + 1) s1.heap.objs.size, ⟨⟨.none, he⟩, ⟨_, hit, rfl, rfl⟩, Nat.succ_ne_self _⟩, fun b hb => ?_, q⟩
      have e' : b = s1.heap.objs.size + 1 ∨ b = s1.heap.objs.size := by simpa using hb
      have hle : s1.heap.objs.size ≤ b := by
        rcases e' with z | z
        · rw [z]; exact Nat.le_add_right _ _
        · rw [z]; exact Nat.le_refl _
      exact I1.fpOk hle (I1.hok.fresh hle)
end
section
variable {K : PySem.W.Frag} {H0 : Hp} {w0 : Wd} {xk : Exn → S → Prop} {ω : List Nat} {σ : L2.St} {H : Hp}
/-- how a source's value is taken: L: kept -/
def mL (L : Bool) : Md := if L then .sh else .look
/-- a list's place, and that it stays -/
theorem val_lst {L : Bool} {H1 : Hp} {w1 : Wd} {v : V} {ds : List D} (h : Val K H H1 w1 (mL L) v (.lst ds)) : ∃ a vs, v = .ref a ∧ SqL K H1 a vs ∧ RpL K H1 w1 vs ds ∧ StP K H1 w1 (fun h => L = false → Keep H1 w1 h) a vs := by
  have rp : ∀ {v}, Rp K H1 w1 v (.lst ds) → ∃ a vs, v = .ref a ∧ SqL K H1 a vs ∧ RpL K H1 w1 vs ds ∧ StP K H1 w1 (fun h => L = false → Keep H1 w1 h) a vs := fun h => by
    cases h with
    | lst u h r => exact ⟨_, _, rfl, .of h, r, (show Stays K H1 w1 _ _ from .inl ⟨u, h⟩).stp⟩
    | lstK h r => exact ⟨_, _, rfl, h.sq, r, (show Stays K H1 w1 _ _ from .inr h).stp⟩
  cases L with
  | true => exact rp h
  | false =>
    rcases (show DE.Look K H1 w1 v (.lst ds) from h) with h | ⟨a, vs, ds', rfl, e, h1, h2, nb⟩
    · exact rp h
    · cases e
      exact ⟨a, vs, rfl, .of h1, h2, stp_keep h1 nb fun H p => p rfl⟩
theorem val_tup {L : Bool} {H1 : Hp} {w1 : Wd} {v : V} {ds : List D} (h : Val K H H1 w1 (mL L) v (.tup ds)) : ∃ a vs, v = .ref a ∧ SqT K H1 a vs ∧ RpL K H1 w1 vs ds := (Val.look h).tup
theorem rd_seq {f : Env → M D} {L : Bool} {R : It → Hp → Prop} (h : tI K H0 w0 xk ω L (fun ρ => do itemsD (← f ρ)) σ H R) : iSeq K (tD K H0 w0 xk ω (mL L) f) σ H R := by
  obtain ⟨w, ρ, Rl, hy⟩ := h
  rw [wp_bind] at hy
  refine tD_then Rl hy fun x w1 H1 v hy e1 R1 l1 => ?_
  cases x with
  | lst ds =>
    obtain ⟨a, vs, rfl, h1, h2, h3⟩ := val_lst l1
    exact ⟨a, rfl, .inl ⟨⟨vs, h1⟩, hy _ H1 w1 rfl e1 R1.wo (jis_list h3 h2)⟩⟩
  | tup ds =>
    obtain ⟨a, vs, rfl, h1, h2⟩ := val_tup l1
    exact ⟨a, rfl, .inr ⟨⟨vs, h1⟩, hy _ H1 w1 rfl e1 R1.wo (jis_tup h1 h2)⟩⟩
  | _ => exact hy.elim
theorem rd_enum {f : Env → M D} {L : Bool} {R : It → Hp → Prop} (h : tI K H0 w0 xk ω L (fun ρ => do return enumD 0 (← itemsD (← f ρ))) σ H R) : iEnumA K (tCons (tD K H0 w0 xk ω (mL L) f) tNil) σ H R := by
  obtain ⟨w, ρ, Rl, hy⟩ := h
  rw [wp_bind] at hy
  refine tD_then Rl hy fun x w1 H1 v hy e1 R1 l1 => ?_
  cases x with
  | lst ds =>
    obtain ⟨a, vs, rfl, h1, h2, h3⟩ := val_lst l1
    exact ⟨a, vs, rfl, .inl ⟨h1, hy _ H1 w1 rfl e1 R1.wo (jis_enum h3 h2)⟩⟩
  | tup ds =>
    obtain ⟨a, vs, rfl, h1, h2⟩ := val_tup l1
    exact ⟨a, vs, rfl, .inr ⟨h1, hy _ H1 w1 rfl e1 R1.wo (jis_enumT h1 h2)⟩⟩
  | _ => exact hy.elim
theorem StP.ext {L : Bool} {H1 H2 : Hp} {w1 w2 : Wd} {a : Addr} {vs : List V} (wo : WOk K H1 w1) (e : Ext H1 w1 H2 w2) (h : StP K H1 w1 (fun h => L = false → Keep H1 w1 h) a vs) : StP K H2 w2 (fun h => L = false → Keep H2 w2 h) a vs :=
  fun H' w' m p => h H' w' ((e.mono wo).trans m) fun z b o hb nt nb => p z b o (e.keep b o hb nt nb) nt fun q => by
    rcases e.bx b q with y | y
    · exact nb y
    · obtain ⟨ps, y'⟩ := y _ hb
      exact nt ps y'
theorem rd_zip {f g : Env → M D} {L : Bool} {R : It → Hp → Prop} (h : tI K H0 w0 xk ω L (fun ρ => do let x ← f ρ; let y ← g ρ; zipD x y) σ H R) : iZipS K (tCons (tD K H0 w0 xk ω (mL L) f) (tCons (tD K H0 w0 xk ω (mL L) g) tNil)) σ H R := by
  obtain ⟨w, ρ, Rl, hy⟩ := h
  rw [wp_bind] at hy
  refine tD_then Rl hy fun x w1 H1 v hy e1 R1 l1 => ?_
  rw [wp_bind] at hy
  refine tD_then R1 hy fun y w2 H2 u hy e2 R2 l2 => ?_
  have left : ∀ ds, (x = .lst ds ∨ x = .tup ds) → ∃ k a vs, v = .ref a ∧ Sp K H2 w2 (fun h => L = false → Keep H2 w2 h) k a vs ∧ Sd K k H2 a vs ∧ RpL K H2 w2 vs ds := by
    intro ds q
    rcases q with rfl | rfl
    · obtain ⟨a, vs, rfl, h1, h2, h3⟩ := val_lst l1
      exact ⟨false, a, vs, rfl, StP.ext R1.wo e2 h3, h3 H2 w2 (e2.mono R1.wo) (fun _ => e2.keep), h2.ext R1.wo e2⟩
    · obtain ⟨a, vs, rfl, h1, h2⟩ := val_tup l1
      exact ⟨true, a, vs, rfl, SqT.mono (e2.mono R1.wo) h1, SqT.mono (e2.mono R1.wo) h1, h2.ext R1.wo e2⟩
  have right : ∀ es, (y = .lst es ∨ y = .tup es) → ∃ k a vs, u = .ref a ∧ Sp K H2 w2 (fun h => L = false → Keep H2 w2 h) k a vs ∧ Sd K k H2 a vs ∧ RpL K H2 w2 vs es := by
    intro es q
    rcases q with rfl | rfl
    · obtain ⟨a, vs, rfl, h1, h2, h3⟩ := val_lst l2
      exact ⟨false, a, vs, rfl, h3, h1, h2⟩
    · obtain ⟨a, vs, rfl, h1, h2⟩ := val_tup l2
      exact ⟨true, a, vs, rfl, h1, h1, h2⟩
  have go : ∀ ds es, (x = .lst ds ∨ x = .tup ds) → (y = .lst es ∨ y = .tup es) → zipD x y = pure ((ds.zip es).map fun p => .tup [p.1, p.2]) → ∃ (k m : Bool) (a b : Addr) (xs ys : List V), [v, u] = [V.ref a, V.ref b] ∧ Sd K k H2 a xs ∧ Sd K m H2 b ys ∧ R (ItzS K k m a b) H2 := fun ds es p q z => by
    obtain ⟨k, a, vs, rfl, s1, g1, r1⟩ := left ds p
    obtain ⟨m, b, us, rfl, s2, g2, r2⟩ := right es q
    rw [z] at hy
    exact ⟨k, m, a, b, vs, us, rfl, g1, g2, hy _ H2 w2 rfl (e1.trans e2) R2.wo (jis_zipS s1 r1 s2 r2)⟩
  cases x with
  | lst ds =>
    cases y with
    | lst es => exact go ds es (.inl rfl) (.inl rfl) rfl
    | tup es => exact go ds es (.inl rfl) (.inr rfl) rfl
    | _ => exact hy.elim
  | tup ds =>
    cases y with
    | lst es => exact go ds es (.inr rfl) (.inl rfl) rfl
    | tup es => exact go ds es (.inr rfl) (.inr rfl) rfl
    | _ => exact hy.elim
  | _ => exact hy.elim
theorem range_wp {lo hi : Int} {s : S} {Q : List D → S → Prop} {xk : Exn → S → Prop} (h : (rangeD lo hi s).wp Q xk) : (-(2 ^ 62) ≤ lo ∧ lo < 2 ^ 62 ∧ -(2 ^ 62) ≤ hi ∧ hi < 2 ^ 62) ∧ Q ((List.range (hi - lo).toNat).map fun (k : Nat) => D.int (lo + (k : Int))) s := by
  unfold rangeD at h
  by_cases e : -(2 ^ 62) ≤ lo ∧ lo < 2 ^ 62 ∧ -(2 ^ 62) ≤ hi ∧ hi < 2 ^ 62
  · rw [if_pos e] at h; exact ⟨e, h⟩
  · rw [if_neg e] at h; exact h.elim
theorem rd_range1 {f : Env → M D} {L : Bool} {R : It → Hp → Prop} (h : tI K H0 w0 xk ω L (fun ρ => do rangeD 0 (← intD (← f ρ))) σ H R) : iRng1 (tCons (tD K H0 w0 xk ω .look f) tNil) σ H R := by
  obtain ⟨w, ρ, Rl, hy⟩ := h
  rw [wp_bind] at hy
  refine tD_then Rl hy fun x w1 H1 v hy e1 R1 l1 => ?_
  cases x with
  | int i =>
    obtain rfl := Look.int l1
    obtain ⟨hb, q⟩ := range_wp hy
    refine ⟨i, rfl, hb.2.2.1, hb.2.2.2, ?_⟩
    rw [Int.sub_zero] at q
    exact q _ H1 w1 rfl e1 R1.wo jis_range
  | _ => exact hy.elim
theorem rd_range2 {f g : Env → M D} {L : Bool} {R : It → Hp → Prop} (h : tI K H0 w0 xk ω L (fun ρ => do let i ← f ρ; let j ← g ρ; rangeD (← intD i) (← intD j)) σ H R) :
    iRng2 (tCons (tD K H0 w0 xk ω .look f) (tCons (tD K H0 w0 xk ω .look g) tNil)) σ H R := by
  obtain ⟨w, ρ, Rl, hy⟩ := h
  rw [wp_bind] at hy
  refine tD_then Rl hy fun x w1 H1 v hy e1 R1 l1 => ?_
  rw [wp_bind] at hy
  refine tD_then R1 hy fun y w2 H2 u hy e2 R2 l2 => ?_
  cases x with
  | int i =>
    obtain rfl := Look.int l1
    cases y with
    | int j =>
      obtain rfl := Look.int l2
      obtain ⟨hb, q⟩ := range_wp hy
      exact ⟨i, j, rfl, hb, q _ H2 w2 rfl (e1.trans e2) R2.wo jis_range⟩
    | _ => exact hy.elim
  | _ => exact hy.elim
end
end DE

/-! DEinv: what a text is that a term stands for. -/
namespace DE
open PySem PySem.Spec PyProof.Rows L2
section
variable {T : Tab} {N : List Str} {sc : Scope} {e : Expr}
theorem inv_var {i : Nat} (h : mE T N sc (.var i) e = true) : ∃ x p, e = .Name x p ∧ N[i]? = some x ∧ vis sc x = true ∧ okName x = true := by
  cases e with
  | Name x p => simp only [mE, Bool.and_eq_true, decide_eq_true_eq] at h; exact ⟨x, p, rfl, h.1.1, h.1.2, h.2⟩
  | _ => simp [mE] at h
theorem inv_cst {c : Cst} (h : mE T N sc (.cst c) e = true) : ∃ v j p, e = .Constant v j p ∧ mCst c v = true := by
  cases e with
  | Constant v j p => simp only [mE] at h; exact ⟨v, j, p, rfl, h⟩
  | _ => simp [mE] at h
theorem inv_glob {g : Nat} (h : mE T N sc (.glob g) e = true) : ∃ x p, e = .Name x p ∧ T.gl[g]? = some x ∧ isGl sc x = true ∧ okName x = true := by
  cases e with
  | Name x p => simp only [mE, Bool.and_eq_true, decide_eq_true_eq] at h; exact ⟨x, p, rfl, h.1.1, h.1.2, h.2⟩
  | _ => simp [mE] at h
theorem inv_neg {a : E} (h : mE T N sc (.neg a) e = true) : ∃ a' p, e = .UnaryOp .USub a' p ∧ mE T N sc a a' = true := by
  cases e with
  | UnaryOp op a' p => cases op <;> simp only [mE] at h <;> first | exact ⟨a', p, rfl, h⟩ | cases h
  | _ => simp [mE] at h
theorem inv_not {a : E} (h : mE T N sc (.not a) e = true) : ∃ a' p, e = .UnaryOp .Not a' p ∧ mE T N sc a a' = true := by
  cases e with
  | UnaryOp op a' p => cases op <;> simp only [mE] at h <;> first | exact ⟨a', p, rfl, h⟩ | cases h
  | _ => simp [mE] at h
theorem inv_bin {op : Bop} {a b : E} (h : mE T N sc (.bin op a b) e = true) : ∃ a' b' p, e = .BinOp a' (bopA op) b' p ∧ mE T N sc a a' = true ∧ mE T N sc b b' = true := by
  cases e with
  | BinOp a' op' b' p =>
    simp only [mE, Bool.and_eq_true, decide_eq_true_eq] at h
    obtain ⟨⟨rfl, h1⟩, h2⟩ := h
    exact ⟨a', b', p, rfl, h1, h2⟩
  | _ => simp [mE] at h
theorem inv_cmp {op : Cop} {a b : E} (h : mE T N sc (.cmp op a b) e = true) : ∃ a' b' p, e = .Compare a' [copA op] [b'] p ∧ behindInMarks (copA op) b' = false ∧ mE T N sc a a' = true ∧ mE T N sc b b' = true := by
  cases e with
  | Compare a' ops bs p =>
    cases ops with
    | nil => simp [mE] at h
    | cons op' r =>
      cases r with
      | cons _ _ => simp [mE] at h
      | nil =>
        cases bs with
        | nil => simp [mE] at h
        | cons b' r =>
          cases r with
          | cons _ _ => simp [mE] at h
          | nil =>
            simp only [mE, Bool.and_eq_true, decide_eq_true_eq, Bool.not_eq_true'] at h
            obtain ⟨⟨⟨rfl, h0⟩, h1⟩, h2⟩ := h
            exact ⟨a', b', p, rfl, h0, h1, h2⟩
  | _ => simp [mE] at h
theorem inv_chain {o1 o2 : Cop} {a b d : E} (h : mE T N sc (.chain o1 o2 a b d) e = true) : ∃ a' b' d' p, e = .Compare a' [copA o1, copA o2] [b', d'] p ∧ lastMarks [copA o1, copA o2] [b', d'] = false ∧ mE T N sc a a' = true ∧ mE T N sc b b' = true ∧ mE T N sc d d' = true := by
  cases e with
  | Compare a' ops bs p =>
    match ops, bs, h with
    | [p1, p2], [b', d'], h =>
      simp only [mE, Bool.and_eq_true, decide_eq_true_eq, Bool.not_eq_true'] at h
      obtain ⟨⟨⟨⟨⟨rfl, rfl⟩, h0⟩, h1⟩, h2⟩, h3⟩ := h
      exact ⟨a', b', d', p, rfl, h0, h1, h2, h3⟩
    | [], _, h => simp [mE] at h
    | [_], _, h => simp [mE] at h
    | _ :: _ :: _ :: _, _, h => simp [mE] at h
    | [_, _], [], h => simp [mE] at h
    | [_, _], [_], h => simp [mE] at h
    | [_, _], _ :: _ :: _ :: _, h => simp [mE] at h
  | _ => simp [mE] at h
theorem inv_and {a b : E} (h : mE T N sc (.and a b) e = true) : ∃ v u rest p, e = .BoolOp .And (v :: u :: rest) p ∧ mE T N sc a v = true ∧ ((rest = [] ∧ mE T N sc b u = true) ∨ (rest ≠ [] ∧ mE T N sc b (.BoolOp .And (u :: rest) p) = true)) := by
  cases e with
  | BoolOp op vs p =>
    match op, vs, h with
    | .And, v :: u :: rest, h =>
      cases rest with
      | nil =>
        simp only [mE, Bool.and_eq_true] at h
        exact ⟨v, u, [], p, rfl, h.1, .inl ⟨rfl, h.2⟩⟩
      | cons r rest =>
        simp only [mE, Bool.and_eq_true] at h
        exact ⟨v, u, r :: rest, p, rfl, h.1, .inr ⟨by simp, h.2⟩⟩
    | .And, [], h => simp [mE] at h
    | .And, [_], h => simp [mE] at h
    | .Or, _, h => simp [mE] at h
  | _ => simp [mE] at h
theorem inv_or {a b : E} (h : mE T N sc (.or a b) e = true) : ∃ v u rest p, e = .BoolOp .Or (v :: u :: rest) p ∧ mE T N sc a v = true ∧ ((rest = [] ∧ mE T N sc b u = true) ∨ (rest ≠ [] ∧ mE T N sc b (.BoolOp .Or (u :: rest) p) = true)) := by
  cases e with
  | BoolOp op vs p =>
    match op, vs, h with
    | .Or, v :: u :: rest, h =>
      cases rest with
      | nil =>
        simp only [mE, Bool.and_eq_true] at h
        exact ⟨v, u, [], p, rfl, h.1, .inl ⟨rfl, h.2⟩⟩
      | cons r rest =>
        simp only [mE, Bool.and_eq_true] at h
        exact ⟨v, u, r :: rest, p, rfl, h.1, .inr ⟨by simp, h.2⟩⟩
    | .Or, [], h => simp [mE] at h
    | .Or, [_], h => simp [mE] at h
    | .And, _, h => simp [mE] at h
  | _ => simp [mE] at h
theorem inv_ife {t a b : E} (h : mE T N sc (.ife t a b) e = true) : ∃ t' a' b' p, e = .IfExp t' a' b' p ∧ mE T N sc t t' = true ∧ mE T N sc a a' = true ∧ mE T N sc b b' = true := by
  cases e with
  | IfExp t' a' b' p =>
    simp only [mE, Bool.and_eq_true] at h
    exact ⟨t', a', b', p, rfl, h.1.1, h.1.2, h.2⟩
  | _ => simp [mE] at h
theorem inv_call {f : Nat} {as : Es} (h : mE T N sc (.call f as) e = true) : ∃ F x p u es q, e = .Call (.Name x p) (u :: es) [] q ∧ T.fn[f]? = some F ∧ F.name = x ∧ (u :: es).length = F.ar ∧ isGl sc x = true ∧ okName x = true ∧ mEs T N sc as (u :: es) = true ∧ (F.gd = true → T.gd = true) := by
  cases e with
  | Call g args kws q =>
    cases g with
    | Name x p =>
      match args, kws, h with
      | u :: es, [], h =>
        simp only [mE, Bool.and_eq_true] at h
        obtain ⟨⟨⟨h1, h2⟩, h3⟩, h4⟩ := h
        cases hF : T.fn[f]? with
        | none => rw [hF] at h1; cases h1
        | some F =>
          rw [hF] at h1
          simp only [Bool.and_eq_true, decide_eq_true_eq] at h1
          exact ⟨F, x, p, u, es, q, rfl, rfl, h1.1.1, h1.1.2, h2, h3, h4, fun z => by rw [z] at h1; simpa using h1.2⟩
      | [], _, h => simp [mE] at h
      | _ :: _, _ :: _, h => simp [mE] at h
    | _ => simp [mE] at h
  | _ => simp [mE] at h
theorem inv_bi {b : Bi} {as : Es} (h : mE T N sc (.bi b as) e = true) : ∃ p u es q, e = .Call (.Name (biN b) p) (u :: es) [] q ∧ isGl sc (biN b) = true ∧ mEs T N sc as (u :: es) = true ∧ (gdB b = true → T.gd = true) := by
  cases e with
  | Call g args kws q =>
    cases g with
    | Name x p =>
      match args, kws, h with
      | u :: es, [], h =>
        simp only [mE, Bool.and_eq_true, decide_eq_true_eq] at h
        obtain ⟨⟨⟨rfl, g⟩, h2⟩, h3⟩ := h
        exact ⟨p, u, es, q, rfl, h2, h3, fun z => by rw [z] at g; simpa using g⟩
      | [], _, h => simp [mE] at h
      | _ :: _, _ :: _, h => simp [mE] at h
    | _ => simp [mE] at h
  | _ => simp [mE] at h
theorem inv_isi {a : E} {t : Ty} (h : mE T N sc (.isi a t) e = true) : ∃ p a' p2 q, e = .Call (.Name "isinstance" p) [a', .Name (tyN t) p2] [] q ∧ isGl sc "isinstance" = true ∧ isGl sc (tyN t) = true ∧ notStar a' = true ∧ mE T N sc a a' = true := by
  cases e with
  | Call g args kws q =>
    cases g with
    | Name x p =>
      match args, kws, h with
      | [a', .Name y p2], [], h =>
        simp only [mE, Bool.and_eq_true, decide_eq_true_eq] at h
        obtain ⟨⟨⟨⟨⟨rfl, h1⟩, rfl⟩, h2⟩, h3⟩, h4⟩ := h
        exact ⟨p, a', p2, q, rfl, h1, h2, h3, h4⟩
      | [], _, h => simp [mE] at h
      | [_], _, h => simp [mE] at h
      | _ :: _ :: _ :: _, _, h => simp [mE] at h
      | [_, _], _ :: _, h => simp [mE] at h
      | [_, b], [], h => cases b <;> first | (simp [mE] at h; done) | (simp only [mE, Bool.and_eq_true, decide_eq_true_eq] at h; obtain ⟨⟨⟨⟨⟨rfl, h1⟩, rfl⟩, h2⟩, h3⟩, h4⟩ := h; exact ⟨p, _, _, q, rfl, h1, h2, h3, h4⟩)
    | _ => simp [mE] at h
  | _ => simp [mE] at h
theorem inv_sub {a b : E} (h : mE T N sc (.sub a b) e = true) : ∃ a' b' p, e = .Subscript a' b' p ∧ notSlice b' = true ∧ mE T N sc a a' = true ∧ mE T N sc b b' = true := by
  cases e with
  | Subscript a' b' p =>
    simp only [mE, Bool.and_eq_true] at h
    exact ⟨a', b', p, rfl, h.1.1, h.1.2, h.2⟩
  | _ => simp [mE] at h
theorem inv_slice {a : E} {lo hi : Oe} (h : mE T N sc (.slice a lo hi) e = true) : ∃ a' lo' hi' p2 p, e = .Subscript a' (.Slice lo' hi' none p2) p ∧ mE T N sc a a' = true ∧ mO T N sc lo lo' = true ∧ mO T N sc hi hi' = true := by
  cases e with
  | Subscript a' b' p =>
    cases b' with
    | Slice lo' hi' st p2 =>
      cases st with
      | none =>
        simp only [mE, Bool.and_eq_true] at h
        exact ⟨a', lo', hi', p2, p, rfl, h.1.1, h.1.2, h.2⟩
      | some _ => simp [mE] at h
    | _ => simp [mE] at h
  | _ => simp [mE] at h
theorem inv_tup {as : Ss} (h : mE T N sc (.tup as) e = true) : ∃ es j p, e = .Tuple es j p ∧ mSs T N sc as es = true := by
  cases e with
  | Tuple es j p => simp only [mE] at h; exact ⟨es, j, p, rfl, h⟩
  | _ => simp [mE] at h
theorem inv_lst {as : Ss} (h : mE T N sc (.lst as) e = true) : ∃ es p, e = .List es p ∧ mSs T N sc as es = true := by
  cases e with
  | List es p => simp only [mE] at h; exact ⟨es, p, rfl, h⟩
  | _ => simp [mE] at h
theorem inv_comp {t : Tg} {src : Sr} {c : Oe} {elt : E} (h : mE T N sc (.comp t src c elt) e = true) : ∃ elt' tg iter ifs scope p, e = .ListComp elt' [⟨tg, iter, ifs, 0⟩] scope p ∧ blkC N sc scope (ownOf N t.slots) = true ∧ mTg N scope.names t tg = true ∧ mI T N sc (isTup tg) src iter = true ∧ mC T N (relS scope sc) c ifs = true ∧ mE T N (relS scope sc) elt elt' = true := by
  cases e with
  | ListComp elt' gens scope p =>
    match gens, h with
    | [⟨tg, iter, ifs, asy⟩], h =>
      simp only [mE, Bool.and_eq_true, decide_eq_true_eq] at h
      obtain ⟨⟨⟨⟨⟨rfl, h1⟩, h2⟩, h3⟩, h4⟩, h5⟩ := h
      exact ⟨elt', tg, iter, ifs, scope, p, rfl, h1, h2, h3, h4, h5⟩
    | [], h => simp [mE] at h
    | _ :: _ :: _, h => simp [mE] at h
  | _ => simp [mE] at h
theorem inv_comp2 {t t2 : Tg} {src src2 : Sr} {c c2 : Oe} {elt : E} (h : mE T N sc (.comp2 t src c t2 src2 c2 elt) e = true) : ∃ elt' tg iter ifs tg2 iter2 ifs2 scope p, e = .ListComp elt' [⟨tg, iter, ifs, 0⟩, ⟨tg2, iter2, ifs2, 0⟩] scope p ∧ blkC N sc scope (ownOf N (t.slots ++ t2.slots)) = true ∧
    mTg N scope.names t tg = true ∧ mI T N sc (isTup tg) src iter = true ∧ mC T N (relS scope sc) c ifs = true ∧ mTg N scope.names t2 tg2 = true ∧ mI T N (relS scope sc) (isTup tg2) src2 iter2 = true ∧ mC T N (relS scope sc) c2 ifs2 = true ∧ mE T N (relS scope sc) elt elt' = true := by
  cases e with
  | ListComp elt' gens scope p =>
    match gens, h with
    | [⟨tg, iter, ifs, asy⟩, ⟨tg2, iter2, ifs2, asy2⟩], h =>
      simp only [mE, Bool.and_eq_true, decide_eq_true_eq] at h
      obtain ⟨⟨⟨⟨⟨⟨⟨⟨⟨rfl, rfl⟩, h1⟩, h2⟩, h3⟩, h4⟩, h5⟩, h6⟩, h7⟩, h8⟩ := h
      exact ⟨elt', tg, iter, ifs, tg2, iter2, ifs2, scope, p, rfl, h1, h2, h3, h4, h5, h6, h7, h8⟩
    | [], h => simp [mE] at h
    | [_], h => simp [mE] at h
    | _ :: _ :: _ :: _, h => simp [mE] at h
  | _ => simp [mE] at h
/-! sources -/
theorem inv_seq {tp : Bool} {a : E} (h : mI T N sc tp (.seq a) e = true) : notSet e = true ∧ mE T N sc a e = true := by
  simp only [mI, Bool.and_eq_true] at h
  exact h
theorem inv_range1 {tp : Bool} {a : E} (h : mI T N sc tp (.range1 a) e = true) : ∃ p u q, e = .Call (.Name "range" p) [u] [] q ∧ isGl sc "range" = true ∧ notStar u = true ∧ mE T N sc a u = true := by
  cases e with
  | Call g args kws q =>
    cases g with
    | Name x p =>
      match args, kws, h with
      | [u], [], h =>
        simp only [mI, Bool.and_eq_true, decide_eq_true_eq] at h
        obtain ⟨⟨⟨rfl, h1⟩, h2⟩, h3⟩ := h
        exact ⟨p, u, q, rfl, h1, h2, h3⟩
      | [], _, h => simp [mI] at h
      | _ :: _ :: _, _, h => simp [mI] at h
      | [_], _ :: _, h => simp [mI] at h
    | _ => simp [mI] at h
  | _ => simp [mI] at h
theorem inv_range2 {tp : Bool} {a b : E} (h : mI T N sc tp (.range2 a b) e = true) : ∃ p u v q, e = .Call (.Name "range" p) [u, v] [] q ∧ isGl sc "range" = true ∧ notStar u = true ∧ notStar v = true ∧ mE T N sc a u = true ∧ mE T N sc b v = true := by
  cases e with
  | Call g args kws q =>
    cases g with
    | Name x p =>
      match args, kws, h with
      | [u, v], [], h =>
        simp only [mI, Bool.and_eq_true, decide_eq_true_eq] at h
        obtain ⟨⟨⟨⟨⟨rfl, h1⟩, h2⟩, h3⟩, h4⟩, h5⟩ := h
        exact ⟨p, u, v, q, rfl, h1, h2, h3, h4, h5⟩
      | [], _, h => simp [mI] at h
      | [_], _, h => simp [mI] at h
      | _ :: _ :: _ :: _, _, h => simp [mI] at h
      | [_, _], _ :: _, h => simp [mI] at h
    | _ => simp [mI] at h
  | _ => simp [mI] at h
theorem inv_enum {tp : Bool} {a : E} (h : mI T N sc tp (.enum a) e = true) : ∃ p u q, tp = true ∧ e = .Call (.Name "enumerate" p) [u] [] q ∧ isGl sc "enumerate" = true ∧ notStar u = true ∧ mE T N sc a u = true := by
  cases e with
  | Call g args kws q =>
    cases g with
    | Name x p =>
      match args, kws, h with
      | [u], [], h =>
        simp only [mI, Bool.and_eq_true, decide_eq_true_eq] at h
        obtain ⟨⟨⟨⟨h0, rfl⟩, h1⟩, h2⟩, h3⟩ := h
        exact ⟨p, u, q, h0, rfl, h1, h2, h3⟩
      | [], _, h => simp [mI] at h
      | _ :: _ :: _, _, h => simp [mI] at h
      | [_], _ :: _, h => simp [mI] at h
    | _ => simp [mI] at h
  | _ => simp [mI] at h
theorem inv_zip {tp : Bool} {a b : E} (h : mI T N sc tp (.zip a b) e = true) : ∃ p u v q, tp = true ∧ e = .Call (.Name "zip" p) [u, v] [] q ∧ isGl sc "zip" = true ∧ notStar u = true ∧ notStar v = true ∧ mE T N sc a u = true ∧ mE T N sc b v = true := by
  cases e with
  | Call g args kws q =>
    cases g with
    | Name x p =>
      match args, kws, h with
      | [u, v], [], h =>
        simp only [mI, Bool.and_eq_true, decide_eq_true_eq] at h
        obtain ⟨⟨⟨⟨⟨⟨h0, rfl⟩, h1⟩, h2⟩, h3⟩, h4⟩, h5⟩ := h
        exact ⟨p, u, v, q, h0, rfl, h1, h2, h3, h4, h5⟩
      | [], _, h => simp [mI] at h
      | [_], _, h => simp [mI] at h
      | _ :: _ :: _ :: _, _, h => simp [mI] at h
      | [_, _], _ :: _, h => simp [mI] at h
    | _ => simp [mI] at h
  | _ => simp [mI] at h
theorem tup_of {tg : Expr} (h : isTup tg = true) : ∃ es j p, tg = .Tuple es j p := by
  cases tg <;> first | exact ⟨_, _, _, rfl⟩ | cases h
end
end DE

/-! DEstate: the draw state. -/
namespace DE
open PySem PySem.Spec PyProof.Rows L2 PySem.Calls

theorem nCL : ("cells" : Str) ≠ "lefts" := by decide +kernel
theorem nCA : ("cells" : Str) ≠ "at" := by decide +kernel
theorem nCR : ("cells" : Str) ≠ "room" := by decide +kernel
theorem nLA : ("lefts" : Str) ≠ "at" := by decide +kernel
theorem nLR : ("lefts" : Str) ≠ "room" := by decide +kernel
theorem nAR : ("at" : Str) ≠ "room" := by decide +kernel
def stDict (w : Wd) : List (Key × V) := [(Sum.inr "cells", .ref w.C), (Sum.inr "lefts", .ref w.L), (Sum.inr "at", .int w.S.at_), (Sum.inr "room", .int 0)]
section
variable {K : PySem.W.Frag} {H0 : Hp} {w0 : Wd} {xk : Exn → S → Prop} {ω : List Nat} {σ : L2.St} {H : Hp}
theorem st_wp {β : Type} {ρ : Env} {i : Nat} {f : Unit → M β} {s : S} {Q : β → S → Prop} (h : ((ρ.get i >>= fun d => stD d >>= f) s).wp Q xk) : ρ[i]? = some (some .st) ∧ s.on = true ∧ (f () s).wp Q xk := by
  rw [wp_bind] at h
  unfold Env.get at h
  cases e : ρ[i]? with
  | none => rw [e] at h; exact h.elim
  | some o =>
    cases o with
    | none => rw [e] at h; exact h.elim
    | some d =>
      rw [e] at h
      cases d with
      | st =>
        have h' : ((stD .st >>= f) s).wp Q xk := h
        rw [wp_bind] at h'
        unfold stD at h'
        cases e2 : s.on with
        | false => rw [e2] at h'; exact h'.elim
        | true => rw [e2] at h'; exact ⟨rfl, rfl, h'⟩
      | _ => exact h.elim
theorem Rel.st {w : Wd} {ρ : Env} {i : Nat} (R : Rel K H0 w0 ω σ H w ρ) (h : ρ[i]? = some (some .st)) : σ[i]? = some (some (.ref w.A)) := by
  obtain ⟨v, h1, h2, h3⟩ := R.get i _ h
  have rp : Rp K H w v .st := by
    by_cases q : i ∈ ω
    · exact h2 q
    · exact h3 q
  cases rp
  exact h1
theorem rpl_ints : ∀ (ns : List Int) {w : Wd}, RpL K H w (ns.map V.int) (ns.map D.int)
  | [], _ => .nil
  | n :: ns, _ => .cons (.int n) (rpl_ints ns)
theorem val_rp {H1 : Hp} {w : Wd} {m : Md} {v : V} {d : D} (h : Rp K H w v d) (n : ∀ ds, d ≠ .lst ds) : Val K H1 H w m v d := by
  cases m with
  | sh => exact h
  | own =>
    cases d with
    | lst ds => exact absurd rfl (n ds)
    | _ => exact h
  | look => exact .inl h
theorem rd_stAt {i : Nat} {m : Md} {Q : VK} (h : tD K H0 w0 xk ω m (fun ρ => do let d ← ρ.get i; stD d; atSt) σ H Q) : tDGet (tVar i) (tC (.str "at")) σ H Q := by
  obtain ⟨w, ρ, R, h⟩ := h
  obtain ⟨h1, h2, h3⟩ := st_wp h
  obtain ⟨_, b1, _, _⟩ := R.wo.bx h2
  exact ⟨_, R.st h1, w.A, .int w.S.at_, rfl, DGet.k (k := Sum.inr "at") b1, h3 _ H w rfl (Ext.refl _ _) R.wo (val_rp (.int _) fun _ z => by cases z)⟩
theorem rd_stCells {i : Nat} {Q : VK} (h : tD K H0 w0 xk ω .sh (fun ρ => do let d ← ρ.get i; stD d; cellsSt) σ H Q) : tDGet (tVar i) (tC (.str "cells")) σ H Q := by
  obtain ⟨w, ρ, R, h⟩ := h
  obtain ⟨h1, h2, h3⟩ := st_wp h
  obtain ⟨_, b1, _, b3⟩ := R.wo.bx h2
  refine ⟨_, R.st h1, w.A, .ref w.C, rfl, DGet.k (k := Sum.inr "cells") b1, h3 _ H w rfl (Ext.refl _ _) R.wo ?_⟩
  rcases b3 with ⟨u, b3⟩ | b3
  · exact Rp.lst u b3 (rpl_ints _)
  · exact Rp.lstK b3 (rpl_ints _)
theorem at_map (ns : List Int) (n : Int) : L2.atI (ns.map V.int) n = (DE.atD ns n).map V.int := by
  unfold L2.atI DE.atD
  rw [List.length_map]
  show (DE.ixN ns.length n).bind _ = _
  cases DE.ixN ns.length n with
  | none => rfl
  | some j =>
    show (ns.map V.int)[j]? = Option.map V.int ns[j]?
    rw [List.getElem?_map]
theorem rd_stLeft {i : Nat} {f : Env → M D} {m : Md} {Q : VK} (h : tD K H0 w0 xk ω m (fun ρ => do let d ← ρ.get i; stD d; let k ← f ρ; leftSt k) σ H Q) :
    tOp (rIxL K) (tDGet (tVar i) (tC (.str "lefts"))) (tD K H0 w0 xk ω .look f) σ H Q := by
  obtain ⟨w, ρ, R, h⟩ := h
  obtain ⟨h1, h2, h3⟩ := st_wp h
  obtain ⟨_, b1, _, _⟩ := R.wo.bx h2
  refine ⟨_, R.st h1, w.A, .ref w.L, rfl, DGet.k (k := Sum.inr "lefts") b1, ?_⟩
  rw [wp_bind] at h3
  refine tD_then R h3 fun k w1 H1 u q e1 R1 l1 => ?_
  obtain ⟨o1, _, oL⟩ := e1.on h2
  obtain ⟨_, _, c2, _⟩ := R1.wo.bx o1
  cases k with
  | int n =>
    obtain rfl := Look.int l1
    have q : (leftSt (.int n) w1.S).wp (Post K H w m Q) xk := q
    unfold leftSt at q
    cases e : atD w1.S.lefts n with
    | none => simp only [e] at q; exact q.elim
    | some v =>
      simp only [e] at q
      refine ⟨w.L, w1.S.lefts.map V.int, n, .int v, rfl, rfl, ?_, ?_, q _ H1 w1 rfl e1 R1.wo (val_rp (.int _) fun _ z => by cases z)⟩
      · rw [← oL]; exact .of c2
      · rw [at_map, e]; rfl
  | _ => exact q.elim
theorem mk_wp {x y : D} {s : S} {Q : D → S → Prop} (h : (mkStD x y s).wp Q xk) : ∃ xs ys a b, s.on = false ∧ x = .lst xs ∧ y = .lst ys ∧ ints? xs = some a ∧ ints? ys = some b ∧ Q .st ⟨true, a, b, 0⟩ := by
  unfold mkStD at h
  cases e : s.on with
  | true => rw [e] at h; exact h.elim
  | false =>
    rw [e] at h
    cases x with
    | lst xs =>
      cases y with
      | lst ys =>
        cases e1 : ints? xs with
        | none => simp only [e1] at h; exact h.elim
        | some a =>
          cases e2 : ints? ys with
          | none => simp only [e1, e2] at h; exact h.elim
          | some b =>
            simp only [e1, e2] at h
            exact ⟨xs, ys, a, b, rfl, rfl, rfl, e1, e2, h⟩
      | _ => exact h.elim
    | _ => exact h.elim
theorem rd_mkSt {f g : Env → M D} {m : Md} {Q : VK} (h : tD K H0 w0 xk ω m (fun ρ => do let x ← f ρ; let y ← g ρ; mkStD x y) σ H Q) :
    tDisp [(tC (.str "cells"), tD K H0 w0 xk ω .sh f), (tC (.str "lefts"), tD K H0 w0 xk ω .own g), (tC (.str "at"), tC (.int 0)), (tC (.str "room"), tC (.int 0))] σ H Q := by
  obtain ⟨w, ρ, R, h⟩ := h
  intro p hp
  have R' := R.mono (Ext.laid (o := .dK []) hp) (R.wo.laid hp)
  have ep : (upd H p (.dK [])) p = some (.dK []) := upd_same
  have np := R.wo.nu hp
  have nbp := R.wo.nb hp
  rw [wp_bind] at h
  show tD K H0 w0 xk ω .sh f σ (upd H p (.dK [])) _
  refine tD_then R' h fun x w1 H1 v h e1 R1 rv => ?_
  rw [wp_bind] at h
  show tD K H0 w0 xk ω .own g σ H1 _
  refine tD_then R1 h fun y w2 H2 u h e2 R2 ru => ?_
  obtain ⟨xs, ys, a, b, hon, rfl, rfl, ia, ib, hq⟩ := mk_wp h
  have e02 : Ext H w H2 w2 := (Ext.laid hp).trans (e1.trans e2)
  have p1 : H1 p = some (.dK []) := e1.keep _ _ ep dKT nbp
  have p2 : H2 p = some (.dK []) := e2.keep _ _ p1 dKT (e1.nBK ep nbp)
  have np1 : ¬ w1.U p := e1.nUK ep np
  have np2 : ¬ w2.U p := e2.nUK p1 np1
  obtain ⟨L, us, rfl, hL, rL, nuL, nbL, hL1⟩ := ru
  have hLp : p ≠ L := fun q => by
    rw [← q] at hL1
    exact hL1.dK p1
  have hus := rL.ints ib
  subst hus
  have offw : w2.S.on = true → False := fun q => by rw [hon] at q; cases q
  have rx : Rp K H1 w1 v (.lst xs) := rv
  obtain ⟨C, vs, rfl, sC, rC⟩ : ∃ C vs, v = .ref C ∧ Stays K H1 w1 C vs ∧ RpL K H1 w1 vs xs := by
    cases rx with
    | lst u h r => exact ⟨_, _, rfl, .inl ⟨u, h⟩, r⟩
    | lstK h r => exact ⟨_, _, rfl, .inr h, r⟩
  have hvs := rC.ints ia
  subst hvs
  let w' : Wd := ⟨w2.U, p, L, C, ⟨true, a, b, 0⟩, w2.T⟩
  let dd : List (Key × V) := [(Sum.inr "cells", .ref C), (Sum.inr "lefts", .ref L), (Sum.inr "at", .int 0), (Sum.inr "room", .int 0)]
  let H3 : Hp := upd H2 p (.dK dd)
  have mo : Mono H2 w2 H3 w' := ⟨fun z zs q => by
      show upd H2 p _ z = _
      rw [upd_ne fun e => by rw [e, p2] at q; cases q]; exact q, fun z o u q => by
      show upd H2 p _ z = _
      rw [upd_ne fun e => by rw [e, p2] at q; cases q]; exact q, fun z o uz q => by
      show upd H2 p _ z = _
      rw [upd_ne (by rintro rfl; exact np2 uz)]; exact q, fun _ h => h, fun q => (offw q).elim⟩
  have ext : Ext H w H3 w' := ⟨fun z o q nt n => by
      show upd H2 p _ z = _
      rw [upd_ne (ne_of_none q hp)]; exact e02.keep z o q nt n, fun z o q nt => by
      obtain ⟨o', q', nt'⟩ := e02.has z o q nt
      exact ⟨o', by show upd H2 p _ z = _; rw [upd_ne (ne_of_none q hp)]; exact q', nt'⟩, e02.tt, e02.uu, e02.new, fun q => (offw (e02.on q).1).elim, fun z q => by
      rcases q.2 with rfl | rfl
      · exact .inr (.of hp)
      · exact .inr (Ext.freeN (w := w) (w1 := w) (Ext.laid hp) (e1.freeN hL1))⟩
  have wo' : WOk K H3 w' := ⟨fun z q => by
      obtain ⟨o, q'⟩ := R2.wo.u z q
      exact ⟨o, by show upd H2 p _ z = _; rw [upd_ne (by rintro rfl; exact np2 q)]; exact q'⟩, tabs_updK R2.wo.tb p2, fun z q bq => by
      rcases bq.2 with rfl | rfl
      · exact np2 q
      · exact nuL q, fun _ => ⟨hLp, upd_same, by show upd H2 p _ L = _; rw [upd_ne (Ne.symm hLp)]; exact hL, (sC.mono (e2.mono R1.wo)).mono mo⟩⟩
  refine ⟨p2, dd, rfl, by show 4 ≤ 15; decide, ?_⟩
  have hm : mergeK [] dd = dd := by
    simp [mergeK, putK, dd, nCL, nCA, nCR, nLA, nLR, nAR]
  rw [hm]
  exact hq _ H3 w' rfl ext wo' (val_rp (.st (w := w') rfl) fun _ z => by cases z)
/-- the state is written -/
theorem Rel.setBox {w : Wd} {ρ : Env} {a : Addr} {o : HO} {S' : S} (R : Rel K H0 w0 ω σ H w ρ) (no : ∀ ps, o ≠ .tbl ps) (hb : box w a) (hS : S'.on = true) (hw : WOk K (upd H a o) { w with S := S' }) : Rel K H0 w0 ω σ (upd H a o) { w with S := S' } ρ ∧ Mono H w (upd H a o) { w with S := S' } := by
  obtain ⟨hon, ha⟩ := hb
  obtain ⟨_, b1, b2, _⟩ := R.wo.bx hon
  have nt : ∀ vs, H a ≠ some (.tup vs) := fun vs q => by
    rcases ha with rfl | rfl
    · rw [b1] at q; cases q
    · rw [b2] at q; cases q
  have nf : ∀ u v, H a ≠ some (.frz u v) := fun u v q => by
    rcases ha with rfl | rfl
    · rw [b1] at q; cases q
    · rw [b2] at q; cases q
  have mo : Mono H w (upd H a o) { w with S := S' } := ⟨fun z zs q => by rw [upd_ne fun e => nt zs (by rw [← e]; exact q)]; exact q, fun z u v q => by rw [upd_ne fun e => nf u v (by rw [← e]; exact q)]; exact q,
    fun z u uz q => by rw [upd_ne fun e => R.wo.ub z uz (by rw [e]; exact ⟨hon, ha⟩)]; exact q, fun _ h => h, fun _ => ⟨hS, rfl⟩⟩
  have bx' : ∀ z, box { w with S := S' } z ↔ box w z := fun z => ⟨fun q => ⟨hon, q.2⟩, fun q => ⟨hS, q.2⟩⟩
  refine ⟨⟨hw, ⟨fun z u q nq n => ?_, fun z u q nq => ?_, R.ex.tt, R.ex.uu, R.ex.new, fun q => ⟨hS, (R.ex.on q).2⟩, fun z q => R.ex.bx z ((bx' z).mp q)⟩, R.len, fun i d q => ?_, R.ap⟩, mo⟩
  · rw [upd_ne fun e => ?_]
    · exact R.ex.keep z u q nq n
    · subst e
      rcases R.ex.bx z ⟨hon, ha⟩ with y | y
      · exact n y
      · obtain ⟨ps, y'⟩ := y _ q
        exact nq ps y'
  · by_cases e : z = a
    · exact ⟨o, by rw [e]; exact upd_same, no⟩
    · obtain ⟨u', q', nt'⟩ := R.ex.has z u q nq
      exact ⟨u', by rw [upd_ne e]; exact q', nt'⟩
  · obtain ⟨v, h1, h2, h3⟩ := R.get i d q
    refine ⟨v, h1, fun z => ?_, fun z => (h3 z).mono mo⟩
    have o2 := h2 z
    cases d with
    | lst ds =>
      obtain ⟨b, vs, rfl, g1, g2, g3, g4, g5⟩ := o2
      exact ⟨b, vs, rfl, by rw [upd_ne fun e => g4 (by rw [e]; exact ⟨hon, ha⟩)]; exact g1, g2.mono mo, g3, fun q => g4 ((bx' b).mp q), g5⟩
    | _ => exact Rp.mono mo o2
theorem setAt_wp {v : D} {s : S} {Q : Unit → S → Prop} (h : (setAtSt v s).wp Q xk) : ∃ n, v = .int n ∧ Q () { s with at_ := n } := by
  cases v with
  | int n => exact ⟨n, rfl, h⟩
  | _ => exact h.elim
theorem setLeft_wp {k v : D} {s : S} {Q : Unit → S → Prop} (h : (setLeftSt k v s).wp Q xk) : ∃ n j x, k = .int n ∧ v = .int x ∧ DE.ixN s.lefts.length n = some j ∧ Q () { s with lefts := s.lefts.set j x } := by
  cases k with
  | int n =>
    cases v with
    | int x =>
      unfold setLeftSt at h
      cases e : DE.ixN s.lefts.length n with
      | none => simp only [e] at h; exact h.elim
      | some j => simp only [e] at h; exact ⟨n, j, x, rfl, rfl, e, h⟩
    | _ => exact h.elim
  | _ => exact h.elim
/-- a statement that goes on, the names as they are -/
def tS' (K : PySem.W.Frag) (H0 : Hp) (w0 : Wd) (xk : Exn → S → Prop) (own : Bool) (lp : List Nat) (ω : List Nat) (f : Env → M Unit) : TS := fun Dn σ H => ∃ w ρ, Rel K H0 w0 ω σ H w ρ ∧ (f ρ w.S).wp (fun _ S' => ∀ σ' H' w', w'.S = S' → Mono H w H' w' → Rel K H0 w0 ω σ' H' w' ρ → Dn.nx σ' H') xk
theorem rd_setAt {own : Bool} {lp : List Nat} {Dn : Ends} {i : Nat} {f : Env → M D} (hy : tS' K H0 w0 xk own lp ω (fun ρ => do let v ← f ρ; let d ← ρ.get i; stD d; setAtSt v) Dn σ H) : sDPut (tVar i) (tC (.str "at")) (tD K H0 w0 xk ω .look f) Dn σ H := by
  obtain ⟨w, ρ, R, hy⟩ := hy
  rw [wp_bind] at hy
  refine tD_then R hy fun v w1 H1 u hy e1 R1 l1 => ?_
  obtain ⟨h1, h2, h3⟩ := st_wp hy
  obtain ⟨n, rfl, hq⟩ := setAt_wp h3
  obtain rfl := Look.int l1
  obtain ⟨b0, b1, b2, b3⟩ := R1.wo.bx h2
  let dd : List (Key × V) := [(Sum.inr "cells", .ref w1.C), (Sum.inr "lefts", .ref w1.L), (Sum.inr "at", .int n), (Sum.inr "room", .int 0)]
  have hp : putK (stDict w1) (Sum.inr "at") (.int n) = dd := by
    simp [putK, dd, stDict, nCA, nLA, Ne.symm nAR]
  have bA : box w1 w1.A := ⟨h2, .inl rfl⟩
  obtain ⟨R2, mo⟩ := R1.setBox (o := .dK dd) (S' := { w1.S with at_ := n }) dKT bA h2 ⟨fun z q => by
      obtain ⟨o, q'⟩ := R1.wo.u z q
      exact ⟨o, by rw [upd_ne (by rintro rfl; exact R1.wo.ub _ q bA)]; exact q'⟩, tabs_updK R1.wo.tb b1, fun z q => R1.wo.ub z q, fun _ => ⟨b0, upd_same, by rw [upd_ne (Ne.symm b0)]; exact b2, by
      rcases b3 with ⟨u, b3⟩ | b3
      · exact .inl ⟨u, by rw [upd_ne (by rintro e; exact R1.wo.ub _ u (by rw [e]; exact bA))]; exact b3⟩
      · refine .inr ?_
        rcases b3 with ⟨o, b3⟩ | b3
        · exact .inl ⟨o, by rw [upd_ne fun e => by rw [e, b1] at b3; cases b3]; exact b3⟩
        · exact .inr b3⟩⟩
  refine ⟨_, R1.st h1, w1.A, upd H1 w1.A (.dK dd), rfl, ?_, hq _ _ { w1 with S := { w1.S with at_ := n } } rfl ((e1.mono R.wo).trans mo) R2⟩
  have q := DPut.k (k := Sum.inr "at") (v := .int n) b1 (by show 4 < sizeLine; decide)
  rw [← hp]
  exact q
theorem rd_setLeft {own : Bool} {lp : List Nat} {Dn : Ends} {i : Nat} {f g : Env → M D} (hy : tS' K H0 w0 xk own lp ω (fun ρ => do let v ← f ρ; let d ← ρ.get i; stD d; let n ← g ρ; setLeftSt n v) Dn σ H) :
    tAsg (tD K H0 w0 xk ω .look f) (gSub (tDGet (tVar i) (tC (.str "lefts"))) (tD K H0 w0 xk ω .look g) rSetL) Dn σ H := by
  obtain ⟨w, ρ, R, hy⟩ := hy
  rw [wp_bind] at hy
  refine tD_then R hy fun v w1 H1 u hy e1 R1 l1 => ?_
  obtain ⟨h1, h2, h3⟩ := st_wp hy
  obtain ⟨_, b1, _, _⟩ := R1.wo.bx h2
  refine ⟨_, R1.st h1, w1.A, .ref w1.L, rfl, DGet.k (k := Sum.inr "lefts") b1, ?_⟩
  rw [wp_bind] at h3
  refine tD_then R1 h3 fun k w2 H2 t h4 e2 R2 l2 => ?_
  obtain ⟨n, j, x, rfl, rfl, hj, hq⟩ := setLeft_wp h4
  obtain rfl := Look.int l1
  obtain rfl := Look.int l2
  obtain ⟨o1, _, oL⟩ := e2.on h2
  obtain ⟨c0, c1, c2, c3⟩ := R2.wo.bx o1
  have bL : box w2 w2.L := ⟨o1, .inr rfl⟩
  obtain ⟨R3, mo⟩ := R2.setBox (o := .lst ((w2.S.lefts.set j x).map V.int)) (S' := { w2.S with lefts := w2.S.lefts.set j x }) lstT bL o1 ⟨fun z q => by
      obtain ⟨o, q'⟩ := R2.wo.u z q
      exact ⟨o, by rw [upd_ne (by rintro rfl; exact R2.wo.ub _ q bL)]; exact q'⟩, tabs_upd R2.wo.tb c2, fun z q => R2.wo.ub z q, fun _ => ⟨c0, by rw [upd_ne c0]; exact c1, upd_same, by
      rcases c3 with ⟨u, c3⟩ | c3
      · exact .inl ⟨u, by rw [upd_ne (by rintro e; exact R2.wo.ub _ u (by rw [e]; exact bL))]; exact c3⟩
      · refine .inr ?_
        rcases c3 with ⟨o, c3⟩ | c3
        · exact .inl ⟨o, by rw [upd_ne fun e => by rw [e, c2] at c3; cases c3]; exact c3⟩
        · exact .inr c3⟩⟩
  refine ⟨w2.L, w2.S.lefts.map V.int, n, j, by rw [oL], rfl, c2, by rw [List.length_map]; exact hj, ?_⟩
  have em : (w2.S.lefts.map V.int).set j (.int x) = (w2.S.lefts.set j x).map V.int := by rw [List.map_set]
  rw [em]
  exact hq _ _ { w2 with S := { w2.S with lefts := w2.S.lefts.set j x } } rfl (((e1.mono R.wo).trans (e2.mono R1.wo)).trans mo) R3
end
end DE

/-! DElam: what a call of a def with a lambda is, by readings. -/
namespace DE
open PySem PySem.Spec PyProof.Rows L2 PySem.Calls

section
variable {K : PySem.W.Frag} {H H1 : Hp} {w : Wd}
theorem extN (eN : LamX.ExtN H H1) (T1 : LamX.Tabs w.T H1) (wo : WOk K H w) : Ext H w H1 w ∧ WOk K H1 w := by
  have e : Ext H w H1 w := ⟨fun a o h n _ => eN a o h n, fun a o h n => ⟨o, eN a o h n, n⟩, rfl, fun _ h => h, fun _ h => .inl h, fun h => ⟨h, rfl, rfl⟩, fun _ h => .inl h⟩
  refine ⟨e, ⟨fun a h => ?_, T1, wo.ub, fun h => ?_⟩⟩
  · obtain ⟨xs, q⟩ := wo.u a h
    exact ⟨xs, eN _ _ q lstT⟩
  · obtain ⟨h1, h2, h3, h4⟩ := wo.bx h
    exact ⟨h1, eN _ _ h2 dKT, eN _ _ h3 lstT, h4.mono (e.mono wo)⟩
/-- a list just made, in any mode -/
theorem Post.lstM {m : Md} {Q : VK} {ds : List D} {vs : List V} (wo : WOk K H w) (h : Post K H w m Q (.lst ds) w.S) (r : RpL K H w vs ds) : ∀ p, H p = none → Q (.ref p) (upd H p (.lst vs)) := by
  refine Post.lst wo (fun v H' w' es ex wo' hv => ?_) r
  cases m with
  | own => exact h v H' w' es ex wo' hv
  | look => exact h v H' w' es ex wo' (Val.look (m := .own) (H0 := H) hv)
  | sh =>
    obtain ⟨a, us, rfl, g1, g2, nu, nb, g0⟩ := hv
    exact h _ H' (w'.fz a) es (ex.fz g0) (wo'.fz g1 nb) (.lst (.inr rfl) g1 g2.fz)
end
/-! ### errors caught -/
section
variable {Z : Exs} {K : PySem.W.Frag} {xt : Xt} {mg : Str → Option Value} {H : Hp} {w : Wd} {x : Exn} {cl : Value} {dx : Option Addr}
theorem hx_of (xs : Z.xcs = xt.xcs) (em : Z.mg = mg) (xfs : ∀ r ∈ xt.xcs, ∀ C, mg r.nm = some (.ref C) → XfC K C ∧ PySem.W.findIn K (.ref C) r.fl = some none) (hr : Z.XR K H w x cl dx) : ∀ {h : Hx} {d : D}, hxD xt x h = some d → ∃ v, hxR K cl dx H h v ∧ Rp K H w v d
  | .str y, d, e => by
    cases e
    exact ⟨.str y, rfl, .str y⟩
  | .fld f, d, e => by
    obtain ⟨r, C, dd, v, d0, hm, rfl, hC, rfl, rfl, hd, rp⟩ := hr
    simp only [hxD] at e
    split at e
    · rename_i hf
      cases e
      rw [xs] at hm
      rw [em] at hC
      unfold Xt.fld at hf
      have q := List.all_eq_true.mp hf r hm
      simp only [decide_true, Bool.not_true, Bool.false_or, decide_eq_true_eq] at q
      obtain ⟨h1, h2⟩ := xfs r hm C hC
      subst q
      exact ⟨v, ⟨C, dd, _, rfl, h1, h2, rfl, hd, by simp⟩, rp⟩
    · cases e
theorem hxs_of (xs : Z.xcs = xt.xcs) (em : Z.mg = mg) (xfs : ∀ r ∈ xt.xcs, ∀ C, mg r.nm = some (.ref C) → XfC K C ∧ PySem.W.findIn K (.ref C) r.fl = some none) (hr : Z.XR K H w x cl dx) : ∀ {hs : List Hx} {ds : List D}, hxsD xt x hs = some ds → ∃ vs, hxsR K cl dx H hs vs ∧ RpL K H w vs ds ∧ vs.length = hs.length
  | [], ds, e => by
    cases e
    exact ⟨[], rfl, .nil, rfl⟩
  | h :: r, ds, e => by
    simp only [hxsD] at e
    split at e
    · rename_i d ds' e1 e2
      cases e
      obtain ⟨v, h1, h2⟩ := hx_of xs em xfs hr e1
      obtain ⟨vs, h3, h4, h5⟩ := hxs_of xs em xfs hr e2
      exact ⟨v :: vs, ⟨v, vs, rfl, h1, h3⟩, .cons h2 h4, congrArg Nat.succ h5⟩
    · cases e
theorem hv_of {m : Md} {Q : VK} (xs : Z.xcs = xt.xcs) (em : Z.mg = mg) (xfs : ∀ r ∈ xt.xcs, ∀ C, mg r.nm = some (.ref C) → XfC K C ∧ PySem.W.findIn K (.ref C) r.fl = some none) (hr : Z.XR K H w x cl dx) (wo : WOk K H w) {v : Hv} {d : D} (ho : hvOne v = false)
    (e : hvD xt x v = some d) (h : Post K H w m Q d w.S) : hvR K cl dx H Q v := by
  have small : ∀ n : Nat, n ≤ 100 → n ≤ sizeLine := fun n hn => by rw [sizeLine_eq]; omega
  cases v with
  | one y =>
    cases y with
    | fld f => cases ho
    | str y =>
      cases e
      exact ⟨.str y, rfl, Post.str wo h⟩
  | lst hs =>
    simp only [hvD] at e
    cases e1 : hxsD xt x hs with
    | none => rw [e1] at e; cases e
    | some ds =>
      rw [e1] at e
      cases e
      obtain ⟨vs, h1, h2, h3⟩ := hxs_of xs em xfs hr e1
      simp only [hvOne, decide_eq_false_iff_not] at ho
      exact ⟨vs, h1, small _ (by omega), Post.lstM wo h h2⟩
  | tup hs =>
    simp only [hvD] at e
    cases e1 : hxsD xt x hs with
    | none => rw [e1] at e; cases e
    | some ds =>
      rw [e1] at e
      cases e
      obtain ⟨vs, h1, h2, h3⟩ := hxs_of xs em xfs hr e1
      simp only [hvOne, decide_eq_false_iff_not] at ho
      exact ⟨vs, h1, small _ (by omega), Post.tup wo h h2⟩
theorem wEch_of {m : Md} {Q : VK} (xs : Z.xcs = xt.xcs) (em : Z.mg = mg) (xfs : ∀ r ∈ xt.xcs, ∀ C, mg r.nm = some (.ref C) → XfC K C ∧ PySem.W.findIn K (.ref C) r.fl = some none)
    (subs : ∀ r ∈ xt.xcs, ∀ y b C d, xt.sub r.nm y = some b → mg r.nm = some (.ref C) → mg y = some d → PySem.W.exmOne K (.ref C) d = some b) (hr : Z.XR K H w x cl dx) (wo : WOk K H w) : ∀ {hs : List Hd} {d : D}, (hs.all fun h => !hvOne h.v) = true →
      hdD xt x hs = some d → Post K H w m Q d w.S → wEch K mg Q hs cl dx H
  | [], d, _, e, _ => by cases e
  | h :: r, d, ho, e, q => by
    simp only [List.all_cons, Bool.and_eq_true, Bool.not_eq_true'] at ho
    have sb : ∀ b, xt.sub x.cls h.cls = some b → ∀ c, mg h.cls = some c → PySem.W.exmOne K cl c = some b := fun b hb c hc => by
      obtain ⟨r, C, dd, v, d0, hm, rfl, hC, rfl, rfl, hd, rp⟩ := hr
      rw [xs] at hm
      rw [em] at hC
      exact subs r hm _ b C c hb hC hc
    simp only [hdD] at e
    split at e
    · rename_i hb
      exact ⟨true, sb true hb, fun _ => hv_of xs em xfs hr wo ho.1 e q, fun z => by cases z⟩
    · rename_i hb
      exact ⟨false, sb false hb, (fun z => by cases z), fun _ => wEch_of xs em xfs subs hr wo ho.2 e q⟩
    · cases e
end
/-! ### the lambda's body, the call -/
def xkB (Z : Exs) (K : PySem.W.Frag) (E : XK) (H : Hp) (w : Wd) : Exn → S → Prop := fun x S' => ∀ cl dx H' w', w'.S = S' → Ext H w H' w' → WOk K H' w' → Z.XR K H' w' x cl dx → E cl dx H'
def tB (Z : Exs) (K : PySem.W.Frag) (m : Md) (f : Env → M D) (E : XK) : TE := fun σ H Q => ∃ w ρ, w.T = Z.tb ∧ Rel K H w [] σ H w ρ ∧ (f ρ w.S).wp (Post K H w m Q) (xkB Z K E H w)
/-- the mode of the body's value, the mode of the call's -/
def mdB (m : Md) : Tk → Md
  | .same => m
  | _ => .sh
def mdR (m : Md) : Tk → Md
  | .same => m
  | _ => .own
theorem rd_lam {Z : Exs} {K : PySem.W.Frag} {H0 : Hp} {w0 : Wd} {xk : Exn → S → Prop} {ω us : List Nat} {m : Md} {xt : Xt} {mg : Str → Option Value} {t : Nat} {td : Td} {f : Env → M D} {σ : L2.St} {H : Hp} {Q : VK} (wT : w0.T = Z.tb) (xs : Z.xcs = xt.xcs) (em : Z.mg = mg)
    (xfs : ∀ r ∈ xt.xcs, ∀ C, mg r.nm = some (.ref C) → XfC K C ∧ PySem.W.findIn K (.ref C) r.fl = some none)
    (subs : ∀ r ∈ xt.xcs, ∀ y b C d, xt.sub r.nm y = some b → mg r.nm = some (.ref C) → mg y = some d → PySem.W.exmOne K (.ref C) d = some b) (ht : xt.tds[t]? = some td) (ho : (td.hs.all fun h => !hvOne h.v) = true) (hω : ∀ i ∈ ω, i ∈ us)
    (h : tD K H0 w0 xk ω (mdR m td.kind) (fun ρ => tdD xt t (f (wipeE ρ us))) σ H Q) : LamX.tLam Z.tb (TTd K mg td) (tB Z K (mdB m td.kind) f) σ H Q := by
  obtain ⟨w, ρ, R, h⟩ := h
  have wT' : w.T = Z.tb := R.ex.tt.trans wT
  refine ⟨by rw [← wT']; exact R.wo.tb, fun H1 eN T1 Q' hQ => ?_⟩
  rw [← wT'] at T1
  obtain ⟨e1, wo1⟩ := extN eN T1 R.wo
  refine ⟨w, wipeE ρ us, wT', ⟨wo1, Ext.refl _ _, by rw [wipeE_length]; exact R.len, fun i d q => ?_, fun i j ds es a => by cases a⟩, ?_⟩
  · rw [wipeE_get] at q
    by_cases hi : i ∈ us
    · rw [if_pos hi] at q
      split at q <;> cases q
    · rw [if_neg hi] at q
      obtain ⟨v, h1, h2, h3⟩ := R.get i d q
      exact ⟨v, h1, fun z => (by cases z), fun _ => (h3 fun z => hi (hω i z)).ext R.wo e1⟩
  · unfold tdD at h
    simp only [ht] at h
    cases er : f (wipeE ρ us) w.S with
    | stuck => rw [er] at h; exact h.elim
    | ok d s' =>
      rw [er] at h
      have h : Post K H w (mdR m td.kind) Q (tkD td.kind d) s' := h
      show Post K H1 w (mdB m td.kind) Q' d s'
      intro v H' w' es ex wo hv
      refine hQ v H' ?_
      subst es
      have hb := h.back (e1.trans ex)
      cases hk : td.kind with
      | same =>
        rw [hk] at h hv
        exact h v H' w' rfl (e1.trans ex) wo (by
          cases m with
          | own => exact Own.back e1 hv
          | sh => exact hv
          | look => exact hv)
      | lst =>
        rw [hk] at hb hv
        exact Post.lst wo hb (.cons hv .nil)
      | non =>
        rw [hk] at hb
        exact hb _ H' w' rfl (Ext.refl _ _) wo (by exact Rp.non)
    | exc x s' =>
      rw [er] at h
      dsimp only at h
      cases hd : hdD xt x td.hs with
      | none => rw [hd] at h; exact h.elim
      | some d =>
        rw [hd] at h
        have h : Post K H w (mdR m td.kind) Q d s' := h
        intro cl dx H' w' es ex wo hr
        subst es
        exact wEch_of xs em xfs subs hr wo ho hd (h.back (e1.trans ex))
end DE

/-! DEsound: a text that a term stands for does what the term means. -/
namespace DE
open PySem PySem.Spec PyProof.Rows L2 PySem.Calls

/-- what a term's text does -/
structure SE (c : Ctx) (T : Tab) (X : Cx) (H0 : Hp) (w0 : Wd) (xk : Exn → S → Prop) (ω : List Nat) (a : E) (e : Expr) : Prop where
  look : rdE ω a = true → PE X e (tD X.K H0 w0 xk ω .look fun ρ => evE c ρ a)
  val : okE ω a = true → PE X e (tD X.K H0 w0 xk ω (md (fresh T a)) fun ρ => evE c ρ a)
  test : rdE ω a = true → PT X e (tT X.K H0 w0 xk ω fun ρ => do boolD (← evE c ρ a))
section
variable {Z : Exs} {c : Ctx} {T : Tab} {N : List Str} {k : Nat} {sc : Scope} {X : Cx} {H0 : Hp} {w0 : Wd} {xk : Exn → S → Prop} {EX : XK} {ω : List Nat} {a : E} {e : Expr}
theorem SE.of {m : Md} (hv : rdE ω a = true → PE X e (tD X.K H0 w0 xk ω m fun ρ => evE c ρ a)) (hm : md (fresh T a) = m) (ho : okE ω a = true → rdE ω a = true)
    (he : ∀ whole, isTrue e X.env whole = (do let v ← whole; standAt e.pos; holding [v] (truthy v))) : SE c T X H0 w0 xk ω a e where
  look := fun h => pe_weak (hv h) fun _ _ _ => tD_look
  val := fun h => by rw [hm]; exact hv (ho h)
  test := fun h => pt_weak (pt_val (pe_weak (hv h) fun _ _ _ => tD_look) he) fun _ _ _ => rd_test
theorem SE.sh (s : SE c T X H0 w0 xk ω a e) (h : okE ω a = true) : PE X e (tD X.K H0 w0 xk ω .sh fun ρ => evE c ρ a) := by
  have q := s.val h
  cases hf : fresh T a with
  | true => rw [hf] at q; exact pe_weak q fun _ _ _ => tD_sh
  | false => rw [hf] at q; exact q
theorem SE.mL (s : SE c T X H0 w0 xk ω a e) (L : Bool) (h : (if L then okE ω a else rdE ω a) = true) : PE X e (tD X.K H0 w0 xk ω (mL L) fun ρ => evE c ρ a) := by
  cases L with
  | true => exact s.sh h
  | false => exact s.look h
theorem blkX (x : XOk Z c T k sc X H0 w0 xk EX) (s : Shared) (H : Hp) (scope : Scope) (C : Addr) (cl : List (Str × Addr)) (fp : List Addr) :
    XOk Z c T k (relS scope sc) (X.blk s H scope (compEnvC scope cl C X.env) fp) H0 w0 NoX (fun _ _ _ => False) where
  nd := x.nd
  calm := x.calm
  room := x.room
  gd := x.gd
  scope := by
    show relS scope X.env.scope = _
    rw [x.scope]
  eP := x.eP
  ew := x.ew
  em := x.em
  xt := x.xt
  xs := x.xs
  wT := x.wT
  fns := x.fns
  xcs := x.xcs
  xfs := x.xfs
  subs := x.subs
  tds := x.tds
  lm := fun h => ⟨(x.lm h).tb, (x.lm h).lo, (x.lm h).lz⟩
  gls := x.gls
  bi := x.bi
  ty := x.ty
  isi := x.isi
  rng := x.rng
  enu := x.enu
  zip := x.zip
  tbs := x.tbs
  pass := fun pins σ H s e s' _ h => Z.nox _ _ _ _ _ h
  lk := fun _ _ h => h.elim
theorem boot_bi (b : Bi) : bootBuiltins (biN b) = some (biV b) := by
  cases b <;> (simp only [biN, biV]; decide +kernel)
theorem boot_ty (t : Ty) : bootBuiltins (tyN t) = some (.type (tyS t)) := by
  cases t <;> (simp only [tyN, tyS]; decide +kernel)
theorem biN_ok (b : Bi) : biN b ≠ ("__name__" : Str) ∧ (biN b == ("__debug__" : Str)) = false := by
  cases b <;> (simp only [biN]; decide +kernel)
theorem tyN_ok (b : Ty) : tyN b ≠ ("__name__" : Str) ∧ (tyN b == ("__debug__" : Str)) = false := by
  cases b <;> (simp only [tyN]; decide +kernel)
theorem pe_bi {b : Bi} {p pos : Pos} {u : Expr} {es : List Expr} {t : TA} (x : XOk Z c T k sc X H0 w0 xk EX) (hg : Gl X (biN b)) (ha : PA X (u :: es) t) (hs : (u :: es).all notStar = true) (hgd : gdB b = true → T.gd = true) : PE X (.Call (.Name (biN b) p) (u :: es) [] pos) (tCB (rB X.K b) t) := by
  simp only [List.all_cons, Bool.and_eq_true] at hs
  have cr := cr_bi (X := X) x.calm (by have := x.room.un; omega) b fun z => x.gd (hgd z)
  have hv := boot_bi b
  obtain ⟨n1, n2⟩ := biN_ok b
  have hm := x.bi b
  cases b <;> first
    | exact pe_callB cr hg hm hv ha n1 n2 (star_cons hs.1) (plain_of hs.2)
    | exact pe_callTy cr hg hm hv ha n1 n2 (star_cons hs.1) (plain_of hs.2)
theorem folded {src : Sr} {tp : Bool} {e : Expr} (h : mI T N sc tp src e = true) (env : PySem.Env) (v : Value) : foldedSetIterable e env v = pure v := by
  have aux : notSet e = true → foldedSetIterable e env v = pure v := fun q => by
    cases e <;> first | rfl | cases q
  cases src with
  | seq a => exact aux (inv_seq h).1
  | range1 a => obtain ⟨_, _, _, rfl, _⟩ := inv_range1 h; rfl
  | range2 a b => obtain ⟨_, _, _, _, rfl, _⟩ := inv_range2 h; rfl
  | enum a => obtain ⟨_, _, _, _, rfl, _⟩ := inv_enum h; rfl
  | zip a b => obtain ⟨_, _, _, _, _, rfl, _⟩ := inv_zip h; rfl
theorem minus_eq (is : List Nat) : (ω.filter fun i => !is.contains i) = minus ω is := rfl
theorem own_snd (N : List Str) (is : List Nat) : (ownOf N is).map (·.2) = is := by
  unfold ownOf
  rw [List.map_map]
  exact List.map_id _
theorem blkN {s : Shared} {H : Hp} {scope : Scope} {C : Addr} {cl : List (Str × Addr)} {fp : List Addr} (hN : X.N = N) : (X.blk s H scope (compEnvC scope cl C X.env) fp).N = N := hN
theorem op_and (p q : Bool) (h : (p && q) = true) : p = true ∧ q = true := by simpa using h
end
theorem ok_rd {ω : List Nat} : ∀ a : E, okE ω a = true → rdE ω a = true
  | .var _, _ => by simp only [rdE]
  | .cst _, _ => by simp only [rdE]
  | .glob _, _ => by simp only [rdE]
  | .neg _, h => by simpa only [okE, rdE] using h
  | .not _, h => by simpa only [okE, rdE] using h
  | .bin .., h => by simpa only [okE, rdE] using h
  | .cmp .., h => by simpa only [okE, rdE] using h
  | .chain .., h => by simpa only [okE, rdE] using h
  | .and .., h => by simpa only [okE, rdE] using h
  | .or .., h => by simpa only [okE, rdE] using h
  | .ife .., h => by simpa only [okE, rdE] using h
  | .call .., h => by simpa only [okE, rdE] using h
  | .lam .., h => by simpa only [okE, rdE] using h
  | .bi .., h => by simpa only [okE, rdE] using h
  | .isi .., h => by simpa only [okE, rdE] using h
  | .sub .., h => by simpa only [okE, rdE] using h
  | .slice .., h => by simpa only [okE, rdE] using h
  | .stAt .., h => by simp only [rdE]
  | .stCells .., h => by simp only [rdE]
  | .stLeft .., h => by simpa only [okE, rdE] using h
  | .mkSt .., h => by simpa only [okE, rdE] using h
  | .gget .., h => by simpa only [okE, rdE] using h
  | .sdict .., h => by simpa only [okE, rdE] using h
  | .rev .., h => by simpa only [okE, rdE] using h
  | .tup .., h => by simpa only [okE, rdE] using h
  | .lst .., h => by simpa only [okE, rdE] using h
  | .comp .., h => by simpa only [okE, rdE] using h
  | .comp2 .., h => by simpa only [okE, rdE] using h

/-! ### the terms one by one -/
section
variable {Z : Exs} {c : Ctx} {T : Tab} {N : List Str} {k : Nat} {sc : Scope} {X : Cx} {H0 : Hp} {w0 : Wd} {xk : Exn → S → Prop} {EX : XK} {ω : List Nat} {e : Expr}
theorem se_var (x : XOk Z c T k sc X H0 w0 xk EX) (hN : X.N = N) {i : Nat} (h : mE T N sc (.var i) e = true) : SE c T X H0 w0 xk ω (.var i) e := by
  obtain ⟨y, p, rfl, h1, h2, h3⟩ := inv_var h
  obtain ⟨d1, d2, d3⟩ := okName_db h3
  have pv : PE X (.Name y p) (tVar i) := pe_var (by rw [hN]; exact h1) (vis_of x.scope h2) d1 d2
  refine ⟨fun _ => pe_weak pv fun _ _ _ q => rd_var (by simpa only [evE] using q), fun hi => pe_weak pv fun _ _ _ q => ?_, fun _ => ?_⟩
  · simp only [okE] at hi
    simp only [fresh, evE] at q
    exact rd_var_sh hi q
  · exact pt_weak (pt_val (pe_weak pv fun _ _ _ q => rd_var (by simpa only [evE] using q)) fun _ => rfl) fun _ _ _ => rd_test
theorem se_cst {k0 : Cst} (h : mE T N sc (.cst k0) e = true) : SE c T X H0 w0 xk ω (.cst k0) e := by
  obtain ⟨v, j, p, rfl, h⟩ := inv_cst h
  have go : ∀ (u : V), PE X (.Constant v j p) (tC u) → (∀ H w, Rp X.K H w u k0.d) → SE c T X H0 w0 xk ω (.cst k0) (.Constant v j p) := fun u pv hr =>
    SE.of (m := .own) (fun _ => pe_weak pv fun _ _ _ q => rd_pure (m := .own) (d := k0.d) (fun H w => by
      have q := hr H w
      cases k0 <;> exact q) (by simpa only [evE] using q)) (by simp only [fresh, md]; rfl) (fun h => ok_rd _ h) (fun _ => rfl)
  cases k0 with
  | non => cases v <;> first | (cases h; done) | exact go _ pe_non fun _ _ => .non
  | bl b =>
    cases v with
    | bool b' =>
      obtain rfl : b = b' := of_decide_eq_true h
      exact go _ pe_bl fun _ _ => .bl _
    | _ => cases h
  | int b =>
    cases v with
    | int b' =>
      obtain rfl : b = b' := of_decide_eq_true h
      exact go _ pe_int fun _ _ => .int _
    | _ => cases h
  | str b =>
    cases v with
    | str b' =>
      obtain rfl : b = b' := of_decide_eq_true h
      exact go _ pe_str fun _ _ => .str _
    | _ => cases h
theorem se_glob (x : XOk Z c T k sc X H0 w0 xk EX) {g : Nat} (h : mE T N sc (.glob g) e = true) : SE c T X H0 w0 xk ω (.glob g) e := by
  obtain ⟨y, p, rfl, h1, h2, h3⟩ := inv_glob h
  obtain ⟨d1, d2, d3⟩ := okName_db h3
  obtain ⟨v, u, m1, m2, m3⟩ := x.gls g y h1
  exact SE.of (m := .sh) (fun _ => pe_weak (pe_glob (gl_of x.scope h2) m1 m2 d1) fun _ _ _ q => rd_pure (m := .sh) m3 (by simpa only [evE] using q)) (by simp only [fresh, md]; rfl) (fun h => ok_rd _ h) (fun _ => rfl)
theorem se_neg {a : E} {a' : Expr} {p : Pos} (s : SE c T X H0 w0 xk ω a a') : SE c T X H0 w0 xk ω (.neg a) (.UnaryOp .USub a' p) :=
  SE.of (m := .sh) (fun h => by
    simp only [rdE] at h
    exact pe_weak (pe_un un_neg (s.look h)) fun _ _ _ q => rd_neg (by simpa only [evE] using q)) (by simp only [fresh, md]; rfl) (fun h => ok_rd _ h) (fun _ => rfl)
theorem se_not {a : E} {a' : Expr} {p : Pos} (s : SE c T X H0 w0 xk ω a a') : SE c T X H0 w0 xk ω (.not a) (.UnaryOp .Not a' p) where
  look := fun h => by
    simp only [rdE] at h
    exact pe_weak (pe_not (s.look h)) fun _ _ _ q => rd_not (by simpa only [evE] using q)
  val := fun h => by
    simp only [okE] at h
    exact pe_weak (pe_not (s.look h)) fun _ _ _ q => rd_not (by simpa only [evE] using q)
  test := fun h => by
    simp only [rdE] at h
    exact pt_weak (pt_not (s.test h)) fun _ _ _ q => rd_notT (by simpa only [evE] using q)
theorem se_bin {op : Bop} {a b : E} {a' b' : Expr} {p : Pos} (s : SE c T X H0 w0 xk ω a a') (t : SE c T X H0 w0 xk ω b b') : SE c T X H0 w0 xk ω (.bin op a b) (.BinOp a' (bopA op) b' p) :=
  SE.of (m := .own) (fun h => by
    simp only [rdE, Bool.and_eq_true] at h
    exact pe_weak (pe_op (op_bin op) (s.look h.1) (t.look h.2)) fun _ _ _ q => rd_bin (by simpa only [evE] using q) (nx_bin op)) (by simp only [fresh, md]; rfl) (fun h => ok_rd _ h) (fun _ => rfl)
theorem se_cmp (x : XOk Z c T k sc X H0 w0 xk EX) {op : Cop} {a b : E} {a' b' : Expr} {p : Pos} (hb : behindInMarks (copA op) b' = false) (s : SE c T X H0 w0 xk ω a a') (t : SE c T X H0 w0 xk ω b b') : SE c T X H0 w0 xk ω (.cmp op a b) (.Compare a' [copA op] [b'] p) := by
  have hu : X.A.units + 65 < cLine := by have := x.room.un; omega
  have pv : rdE ω (.cmp op a b) = true → ∀ m, PE X (.Compare a' [copA op] [b'] p) (tD X.K H0 w0 xk ω m fun ρ => evE c ρ (.cmp op a b)) := fun h m => by
    simp only [rdE, Bool.and_eq_true] at h
    exact pe_weak (pe_cmpR (op_cmp hu op) (s.look h.1) (t.look h.2) hb) fun _ _ _ q => rd_cmp (by simpa only [evE] using q) (nx_cmp op)
  refine ⟨fun h => pv h _, fun h => pv (ok_rd _ h) _, fun h => ?_⟩
  simp only [rdE, Bool.and_eq_true] at h
  exact pt_weak (pt_cmpR (op_cmp hu op) (s.look h.1) (t.look h.2) hb) fun _ _ _ q => rd_cmpT (by simpa only [evE] using q) (nx_cmp op)
theorem se_chain (x : XOk Z c T k sc X H0 w0 xk EX) {o1 o2 : Cop} {a b d : E} {a' b' d' : Expr} {p : Pos} (hb : lastMarks [copA o1, copA o2] [b', d'] = false) (s : SE c T X H0 w0 xk ω a a') (t : SE c T X H0 w0 xk ω b b') (u : SE c T X H0 w0 xk ω d d') :
    SE c T X H0 w0 xk ω (.chain o1 o2 a b d) (.Compare a' [copA o1, copA o2] [b', d'] p) := by
  have hu : X.A.units + 65 < cLine := by have := x.room.un; omega
  have pv : rdE ω (.chain o1 o2 a b d) = true → ∀ m, PE X (.Compare a' [copA o1, copA o2] [b', d'] p) (tD X.K H0 w0 xk ω m fun ρ => evE c ρ (.chain o1 o2 a b d)) := fun h m => by
    simp only [rdE, Bool.and_eq_true] at h
    exact pe_weak (pe_chain (op_cmp hu o1) (op_cmp hu o2) (s.look h.1.1) (t.look h.1.2) (u.look h.2) hb) fun _ _ _ q => rd_chain (by simpa only [evE] using q)
  refine ⟨fun h => pv h _, fun h => pv (ok_rd _ h) _, fun h => ?_⟩
  simp only [rdE, Bool.and_eq_true] at h
  exact pt_weak (pt_chain (op_cmp hu o1) (op_cmp hu o2) (s.look h.1.1) (t.look h.1.2) (u.look h.2) hb) fun _ _ _ q => rd_chainT (by simpa only [evE] using q)
theorem se_and {a b : E} {v u : Expr} {rest : List Expr} {p : Pos} (s : SE c T X H0 w0 xk ω a v) (t : SE c T X H0 w0 xk ω b (.BoolOp .And (u :: rest) p) ∨ (rest = [] ∧ SE c T X H0 w0 xk ω b u)) : SE c T X H0 w0 xk ω (.and a b) (.BoolOp .And (v :: u :: rest) p) := by
  have pb : okE ω b = true → PE X (.BoolOp .And (u :: rest) p) (tD X.K H0 w0 xk ω .sh fun ρ => evE c ρ b) := fun h => by
    rcases t with t | ⟨rfl, t⟩
    · exact t.sh h
    · exact pe_one (t.sh h)
  have tb : rdE ω b = true → PT X (.BoolOp .And (u :: rest) p) (tT X.K H0 w0 xk ω fun ρ => do boolD (← evE c ρ b)) := fun h => by
    rcases t with t | ⟨rfl, t⟩
    · exact t.test h
    · exact (pw_and1 (t.test h)).pt
  have pv : rdE ω (.and a b) = true → PE X (.BoolOp .And (v :: u :: rest) p) (tD X.K H0 w0 xk ω .sh fun ρ => evE c ρ (.and a b)) := fun h => by
    simp only [rdE, Bool.and_eq_true] at h
    exact pe_weak (pe_and (s.look h.1) (pb h.2)) fun _ _ _ q => rd_and (by simpa only [evE] using q)
  refine ⟨fun h => pe_weak (pv h) fun _ _ _ => tD_look, fun h => by simp only [fresh, md]; exact pv (ok_rd _ h), fun h => ?_⟩
  simp only [rdE, Bool.and_eq_true] at h
  exact pt_weak (pw_and (s.test h.1) (pw_of (tb (ok_rd _ h.2)))).pt fun _ _ _ q => rd_andT (by simpa only [evE] using q)
theorem se_or {a b : E} {v u : Expr} {rest : List Expr} {p : Pos} (s : SE c T X H0 w0 xk ω a v) (t : SE c T X H0 w0 xk ω b (.BoolOp .Or (u :: rest) p) ∨ (rest = [] ∧ SE c T X H0 w0 xk ω b u)) : SE c T X H0 w0 xk ω (.or a b) (.BoolOp .Or (v :: u :: rest) p) := by
  have pb : okE ω b = true → PE X (.BoolOp .Or (u :: rest) p) (tD X.K H0 w0 xk ω .sh fun ρ => evE c ρ b) := fun h => by
    rcases t with t | ⟨rfl, t⟩
    · exact t.sh h
    · exact pe_one (t.sh h)
  have tb : rdE ω b = true → PT X (.BoolOp .Or (u :: rest) p) (tT X.K H0 w0 xk ω fun ρ => do boolD (← evE c ρ b)) := fun h => by
    rcases t with t | ⟨rfl, t⟩
    · exact t.test h
    · exact (pw_or1 (t.test h)).pt
  have pv : rdE ω (.or a b) = true → PE X (.BoolOp .Or (v :: u :: rest) p) (tD X.K H0 w0 xk ω .sh fun ρ => evE c ρ (.or a b)) := fun h => by
    simp only [rdE, Bool.and_eq_true] at h
    exact pe_weak (pe_or (s.look h.1) (pb h.2)) fun _ _ _ q => rd_or (by simpa only [evE] using q)
  refine ⟨fun h => pe_weak (pv h) fun _ _ _ => tD_look, fun h => by simp only [fresh, md]; exact pv (ok_rd _ h), fun h => ?_⟩
  simp only [rdE, Bool.and_eq_true] at h
  exact pt_weak (pw_or (s.test h.1) (pw_of (tb (ok_rd _ h.2)))).pt fun _ _ _ q => rd_orT (by simpa only [evE] using q)
theorem se_ife {t a b : E} {t' a' b' : Expr} {p : Pos} (r : SE c T X H0 w0 xk ω t t') (s : SE c T X H0 w0 xk ω a a') (u : SE c T X H0 w0 xk ω b b') : SE c T X H0 w0 xk ω (.ife t a b) (.IfExp t' a' b' p) := by
  have pv : okE ω (.ife t a b) = true → PE X (.IfExp t' a' b' p) (tD X.K H0 w0 xk ω (md (fresh T (.ife t a b))) fun ρ => evE c ρ (.ife t a b)) := fun h => by
    simp only [okE, Bool.and_eq_true] at h
    cases hf : fresh T (.ife t a b) with
    | true =>
      simp only [fresh, Bool.and_eq_true] at hf
      have q1 := s.val h.1.2
      have q2 := u.val h.2
      rw [hf.1] at q1
      rw [hf.2] at q2
      exact pe_weak (pe_ifExp (r.test h.1.1) q1 q2) fun _ _ _ q => rd_ife (by simpa only [evE] using q)
    | false => exact pe_weak (pe_ifExp (r.test h.1.1) (s.sh h.1.2) (u.sh h.2)) fun _ _ _ q => rd_ife (m := .sh) (by simp only [evE] at q; exact q)
  refine ⟨fun h => pe_weak (pv (by simpa only [rdE, okE] using h)) fun _ _ _ => tD_look, pv, fun h => ?_⟩
  simp only [rdE, Bool.and_eq_true] at h
  exact pt_weak (pt_ife (r.test h.1.1) (s.test (ok_rd _ h.1.2)) (u.test (ok_rd _ h.2))) fun _ _ _ q => rd_ifeT (by simpa only [evE] using q)
theorem se_call (x : XOk Z c T k sc X H0 w0 xk EX) {f : Nat} {as : Es} {F : FnT} {y : Str} {p q : Pos} {u : Expr} {es : List Expr} (hF : T.fn[f]? = some F) (hn : F.name = y) (ha : (u :: es).length = F.ar) (hg : isGl sc y = true) (ho : okName y = true)
    (hm : mEs T N sc as (u :: es) = true) (hgd : F.gd = true → T.gd = true) (s : okEs ω as = true → PA X (u :: es) (tA X.K H0 w0 xk ω fun ρ => evEs c ρ as)) : SE c T X H0 w0 xk ω (.call f as) (.Call (.Name y p) (u :: es) [] q) := by
  subst hn
  obtain ⟨d1, d2, d3⟩ := okName_db ho
  obtain ⟨a, fd, ps, hp, hmg, hk, hb, hfn⟩ := x.fns f F hF
  have st := mEs_stars hm
  simp only [List.all_cons, Bool.and_eq_true] at st
  refine SE.of (m := md F.own) (fun h => ?_) (by simp only [fresh, hF]) (fun h => ok_rd _ h) (fun _ => rfl)
  simp only [rdE] at h
  refine pe_weak (peB_call hfn (fun z => x.gd (hgd z)) x.room (gl_of x.scope hg) hmg hk hb .nil x.pass (s h) d1 (star_cons st.1) (plain_of st.2)) fun σ H Q hy => ?_
  simp only [evE] at hy
  obtain ⟨w, ρ, R, hy⟩ := hy
  rw [wp_bind] at hy
  refine ⟨w, ρ, R, wpq (wp_and hy fun ds s hds => evEs_len as (u :: es) _ _ ds hm hds) fun ds s q vs H' w' es' ex wo r => ?_⟩
  obtain ⟨ql, q⟩ := q
  rw [List.append_nil]
  subst es'
  exact ⟨w', ds, by rw [r.length, ql, ha], wo, r, (R.ex.trans ex).tt.trans x.wT, wpm q (fun d s q => q.back ex) fun y S' hx cl dx H2 w2 e2 ex2 wo2 hr => x.lk y S' hx cl dx H2 w2 e2 (R.ex.trans (ex.trans ex2)) wo2 hr⟩
/-! lambdas -/
theorem XcIs.mono {P : Program} {w : World} {K : PySem.W.Frag} {mg : Str → Option Value} {base : Heap} {CX : CXT} {j k : Nat} {r : XcT} (x : XcIs P w K mg base CX j r) (h : j ≤ k) : XcIs P w K mg base CX k r := by
  obtain ⟨C, fI, fd, z, h1, h2, h3, h4, h5, h6, F⟩ := x
  exact ⟨C, fI, fd, z, h1, h2, h3, h4, h5, h6, F.mono h⟩
theorem inv_lam {t : Nat} {us : List Nat} {b : E} (h : mE T N sc (.lam t us b) e = true) : ∃ y ps u scope p q r td, e = .Call (.Name y p) [.Lambda ps u scope q] [] r ∧ T.lm = true ∧ T.xt.tds[t]? = some td ∧ td.nm = y ∧ (td.hs.all fun h => !hvOne h.v) = true ∧
    isGl sc y = true ∧ okName y = true ∧ noPar ps = true ∧ LamX.lamSB sc scope = true ∧ mE T.noLm N scope b u = true := by
  simp only [mE] at h
  obtain ⟨⟨y, ps, u, scope⟩, h1, h2⟩ := has_ex h
  obtain ⟨p, q, r, rfl⟩ := dLam_eq h1
  simp only [Bool.and_eq_true] at h2
  obtain ⟨⟨⟨⟨⟨⟨g1, g2⟩, g3⟩, g4⟩, g5⟩, g6⟩, g7⟩ := h2
  split at g2
  · rename_i td ht
    simp only [Bool.and_eq_true, decide_eq_true_eq] at g2
    exact ⟨y, ps, u, scope, p, q, r, td, rfl, g1, ht, g2.1, g2.2, g3, g4, g5, g6, g7⟩
  · cases g2
theorem noPar_eq {ps : Arguments} (h : noPar ps = true) : ps = ⟨[], [], none, [], [], none, []⟩ := by
  unfold noPar at h
  split at h
  · rfl
  · cases h
theorem tdD_stuck {xt : Xt} {t : Nat} : tdD xt t stuck = stuck := by
  unfold tdD
  cases xt.tds[t]? <;> rfl
theorem fresh_noLm (T : Tab) : ∀ b, fresh T.noLm b = fresh T b
  | .ife _ a b => by simp only [fresh, fresh_noLm T a, fresh_noLm T b]
  | .lam t _ b => by
    simp only [fresh, fresh_noLm T b]
    rfl
  | .var _ | .cst _ | .glob _ | .neg _ | .not _ | .bin _ _ _ | .cmp _ _ _ | .chain _ _ _ _ _ | .and _ _ | .or _ _ | .call _ _ | .bi _ _ | .isi _ _ | .sub _ _ | .slice _ _ _ | .stAt _ | .stCells _ | .stLeft _ _ | .mkSt _ _ | .gget _ _ _ | .sdict _ | .rev _ | .tup _ | .lst _ | .comp _ _ _ _ | .comp2 _ _ _ _ _ _ _ => by simp only [fresh] <;> rfl
/-- around a lambda's body -/
theorem lamX (x : XOk Z c T k sc X H0 w0 xk EX) {c' : Ctx} {j : Nat} (hxt : c'.xt = c.xt) (hΓ : c'.Γ = c.Γ) (hfn : FnsOk Z c' T X.prog X.w X.K X.mg X.base j) {A : Around} {outer : List PySem.Env} {s : Shared} {H H2 : Hp} {w : Wd} {E : XK} {scope : Scope} {f c1 : Addr}
    (hr : Room (j + 2) (A.deeper (LamX.lamEnv X scope s.heap.objs.size f c1))) (hw : w.T = Z.tb) : XOk Z c' T.noLm j scope (LamX.lamCx X A outer s H E scope f c1) H2 w (xkB Z X.K E H2 w) E where
  nd := x.nd
  calm := rfl
  room := hr
  gd := fun h => by cases h
  scope := rfl
  eP := x.eP
  ew := x.ew
  em := x.em
  xt := hxt.trans x.xt
  xs := x.xs
  wT := hw
  fns := hfn
  xcs := x.xcs
  xfs := x.xfs
  subs := x.subs
  tds := x.tds
  lm := fun h => by cases h
  gls := fun g y hg => by
    obtain ⟨v, u, h1, h2, h3⟩ := x.gls g y hg
    exact ⟨v, u, h1, h2, by rw [hΓ]; exact h3⟩
  bi := x.bi
  ty := x.ty
  isi := x.isi
  rng := x.rng
  enu := x.enu
  zip := x.zip
  tbs := x.tbs
  pass := by
    unfold Exs.CX
    rw [x.eP, x.ew]
    exact passes_call (takes_of rfl rfl rfl rfl) fun _ _ _ _ h => h
  lk := fun y S' h => h
theorem se_lam (x : XOk Z c T k sc X H0 w0 xk EX) {t : Nat} {us : List Nat} {b : E} {y : Str} {ps : Arguments} {u : Expr} {scope : Scope} {p q r : Pos} {td : Td} (hlm : T.lm = true) (ht : T.xt.tds[t]? = some td) (hy : td.nm = y) (hone : (td.hs.all fun h => !hvOne h.v) = true)
    (hg : isGl sc y = true) (ho : okName y = true) (hp : noPar ps = true) (hL : LamX.lamSB sc scope = true)
    (ih : ∀ {c' : Ctx} {j : Nat} {X' : Cx} {H0' : Hp} {w0' : Wd} {xk' : Exn → S → Prop} {EX' : XK}, XOk Z c' T.noLm j scope X' H0' w0' xk' EX' → X'.N = X.N → SE c' T.noLm X' H0' w0' xk' [] b u) :
    SE c T X H0 w0 xk ω (.lam t us b) (.Call (.Name y p) [.Lambda ps u scope q] [] r) := by
  subst hy
  obtain rfl := noPar_eq hp
  obtain ⟨d1, d2, d3⟩ := okName_db ho
  refine SE.of (m := mdR (md (fresh T b)) td.kind) (fun h => ?_) (by
    simp only [fresh, ht]
    cases td.kind <;> rfl) (fun h => by simpa only [rdE, okE] using h) (fun _ => rfl)
  simp only [rdE, Bool.and_eq_true] at h
  obtain ⟨h1, h2⟩ := h
  have hω : ∀ i ∈ ω, i ∈ us := fun i hi => by simpa using List.all_eq_true.mp h1 i hi
  have L := x.lm hlm
  rcases Nat.lt_or_ge k 2 with hk | hk
  · refine ⟨fun pins s σ H Q I hq => ?_⟩
    obtain ⟨w, ρ, R, hq⟩ := hq
    simp only [evE] at hq
    have e : c.Λ b (wipeE ρ us) = stuck := L.lz hk _ _
    rw [e, tdD_stuck] at hq
    exact hq.elim
  · obtain ⟨j, rfl⟩ : ∃ j, k = j + 2 := ⟨k - 2, by omega⟩
    obtain ⟨cd, Pt, hcode, TB, hmT, hu⟩ := L.tb
    obtain ⟨c', hΛ, hxt, hΓ, hfn⟩ := L.lo j rfl
    obtain ⟨g, a, Ng, pg, bg, sg, fd, hm, hkp, F0, hb, Sg, mt, oka, va, hcl⟩ := x.tds t td ht
    obtain ⟨oc, od, dV, kV, doc, pm, an, cdv, ct, osl, rfl, lk, hcg, _, _⟩ := F0.ex
    have hNg : Ng[0]? = some a := by
      have q := Sg.pre
      cases Ng with
      | nil => simp at q
      | cons z zs =>
        simp at q
        rw [q]; rfl
    have st0 : ∀ f : Addr, (L2.start Ng [V.ref f])[0]? = some (some (V.ref f)) := fun f => by
      unfold L2.start
      rfl
    have G := td_gives (X := X) (x := td.nm) (g := g) (cdg := cdv) (q := X.env.qual ++ "<lambda>") hcl Sg mt st0
    have body : ∀ (A : Around) (outer : List PySem.Env) (s : Shared) (H : Hp) (E : XK) (f c1 : Addr), Room (j + 2) (A.deeper (LamX.lamEnv X scope s.heap.objs.size f c1)) →
        PE (LamX.lamCx X A outer s H E scope f c1) u (tB Z X.K (mdB (md (fresh T b)) td.kind) (fun ρ => evE c' ρ b) E) := fun A outer s H E f c1 hr => by
      refine ⟨fun pins s' σ H' Q I hq => ?_⟩
      obtain ⟨w, ρ, hw, R, hq⟩ := hq
      have sb := ih (lamX (outer := outer) (H := H) (H2 := H') (s := s) (E := E) x hxt hΓ hfn hr hw) rfl
      cases hk : td.kind with
      | same =>
        rw [hk] at hq
        have q := sb.val h2
        rw [fresh_noLm] at q
        exact q.run pins s' σ H' Q I ⟨w, ρ, R, hq⟩
      | lst =>
        rw [hk] at hq
        exact (sb.sh h2).run pins s' σ H' Q I ⟨w, ρ, R, hq⟩
      | non =>
        rw [hk] at hq
        exact (sb.sh h2).run pins s' σ H' Q I ⟨w, ρ, R, hq⟩
    refine pe_weak (LamX.pe_lamcall (T := Z.tb) (TT := TTd X.K X.mg td) (k := j + 2) (gl_of x.scope hg) hm hkp lk hcg hb Sg hNg va G TB hcode hmT hu x.room (LamX.lamS_by (by rw [x.scope]; exact hL)) rfl (fun _ _ _ _ _ => rfl) body d1 (okN_db oka).1 (okN_db oka).2) fun σ H Q hq => ?_
    refine rd_lam (xk := xk) (H0 := H0) (w0 := w0) (ω := ω) (us := us) (xt := T.xt) (t := t) x.wT x.xs x.em x.xfs x.subs ht hone hω ?_
    simp only [evE, x.xt, hΛ] at hq
    exact hq
theorem se_bi (x : XOk Z c T k sc X H0 w0 xk EX) {b : Bi} {as : Es} {p q : Pos} {u : Expr} {es : List Expr} (hg : isGl sc (biN b) = true) (hm : mEs T N sc as (u :: es) = true) (hgd : gdB b = true → T.gd = true) (s : rdEs ω as = true → PA X (u :: es) (tAk X.K H0 w0 xk ω fun ρ => evEs c ρ as)) :
    SE c T X H0 w0 xk ω (.bi b as) (.Call (.Name (biN b) p) (u :: es) [] q) :=
  SE.of (m := .own) (fun h => by
    simp only [rdE] at h
    exact pe_weak (pe_bi x (gl_of x.scope hg) (s h) (mEs_stars hm) hgd) fun _ _ _ q => rd_bi (by simpa only [evE] using q)) (by simp only [fresh, md]; rfl) (fun h => ok_rd _ h) (fun _ => rfl)
theorem se_isi (x : XOk Z c T k sc X H0 w0 xk EX) {a : E} {t : Ty} {p p2 q : Pos} {a' : Expr} (h1 : isGl sc "isinstance" = true) (h2 : isGl sc (tyN t) = true) (h3 : notStar a' = true) (s : SE c T X H0 w0 xk ω a a') :
    SE c T X H0 w0 xk ω (.isi a t) (.Call (.Name "isinstance" p) [a', .Name (tyN t) p2] [] q) := by
  obtain ⟨n1, n2⟩ := tyN_ok t
  refine SE.of (m := .sh) (fun h => ?_) (by simp only [fresh, md]; rfl) (fun h => ok_rd _ h) (fun _ => rfl)
  simp only [rdE] at h
  refine pe_weak (pe_callB (cr_isi t) (gl_of x.scope h1) x.isi PyProof.Rows.boot_isinstance (pa_cons (s.look h) (pa_cons (pe_bltn (v := .ty (tyS t)) (gl_of x.scope h2) (x.ty t) (boot_ty t) rfl n1 n2) pa_nil rfl) (star_cons h3)) (by decide) (by decide) (star_cons h3) rfl) fun _ _ _ q => rd_isi (by simpa only [evE] using q)
theorem se_gget (x : XOk Z c T k sc X H0 w0 xk EX) {y : Str} {kvs : List (Str × Int)} {a : E} {p ap q : Pos} {a' : Expr} (ht : (y, kvs) ∈ T.tbs) (h1 : isGl sc y = true) (h2 : okName y = true) (h3 : (ap.endLine == q.line) = true) (h4 : notStar a' = true) (s : SE c T X H0 w0 xk ω a a') :
    SE c T X H0 w0 xk ω (.gget y kvs a) (.Call (.Attribute (.Name y p) "get" ap) [a'] [] q) := by
  refine SE.of (m := .sh) (fun h => ?_) (by simp only [fresh, md]; rfl) (fun h => ok_rd _ h) (fun _ => rfl)
  simp only [rdE] at h
  exact pe_weak (pe_gget (x.tbs _ ht) (gl_of x.scope h1) (okName_db h2).1 (s.look h) h4 h3) fun _ _ _ q => rd_gget (by simpa only [evE] using q)
theorem se_sdict (x : XOk Z c T k sc X H0 w0 xk EX) {a : E} {p1 p2 q1 q2 : Pos} {a' : Expr} (h1 : isGl sc "sorted" = true) (h2 : isGl sc "dict" = true) (h3 : notStar a' = true) (s : SE c T X H0 w0 xk ω a a') :
    SE c T X H0 w0 xk ω (.sdict a) (.Call (.Name "sorted" p1) [.Call (.Name "dict" p2) [a'] [] q2] [] q1) :=
  SE.of (m := .own) (fun h => by
    simp only [rdE] at h
    exact pe_weak (pe_sdict x.calm (gl_of x.scope h1) (x.bi .sorted) (gl_of x.scope h2) (x.ty .dict) (s.look h) h3) fun _ _ _ q => rd_sdict (by simpa only [evE] using q)) (by simp only [fresh, md]; rfl) (fun h => ok_rd _ h) (fun _ => rfl)
theorem se_rev {a : E} {a' : Expr} {p p2 p3 p4 : Pos} {j : Nat} (s : SE c T X H0 w0 xk ω a a') : SE c T X H0 w0 xk ω (.rev a) (.Subscript a' (.Slice none none (some (.UnaryOp .USub (.Constant (.int 1) j p4) p3)) p2) p) :=
  SE.of (m := .own) (fun h => by
    simp only [rdE] at h
    exact pe_weak (pe_rev (s.look h)) fun _ _ _ q => rd_rev (by simpa only [evE] using q)) (by simp only [fresh, md]; rfl) (fun h => ok_rd _ h) (fun _ => rfl)
theorem se_sub {a b : E} {a' b' : Expr} {p : Pos} (h3 : notSlice b' = true) (s : SE c T X H0 w0 xk ω a a') (t : SE c T X H0 w0 xk ω b b') : SE c T X H0 w0 xk ω (.sub a b) (.Subscript a' b' p) :=
  SE.of (m := .sh) (fun h => by
    simp only [rdE, Bool.and_eq_true] at h
    exact pe_weak (pe_ix ix_D (s.look h.1) (t.look h.2) (plainIx h3)) fun _ _ _ q => rd_bin (by simpa only [evE] using q) nx_sub) (by simp only [fresh, md]; rfl) (fun h => ok_rd _ h) (fun _ => rfl)
theorem se_slice {a : E} {lo hi : Oe} {a' : Expr} {lo' hi' : Option Expr} {p p2 : Pos} (s : SE c T X H0 w0 xk ω a a') (t : rdO ω lo = true → PO X lo' (tO X.K H0 w0 xk ω fun ρ => do optI (← evO c ρ lo))) (u : rdO ω hi = true → PO X hi' (tO X.K H0 w0 xk ω fun ρ => do optI (← evO c ρ hi))) :
    SE c T X H0 w0 xk ω (.slice a lo hi) (.Subscript a' (.Slice lo' hi' none p2) p) :=
  SE.of (m := .own) (fun h => by
    simp only [rdE, Bool.and_eq_true] at h
    exact pe_weak (pe_slice sl_D (s.look h.1.1) (t h.1.2) (u h.2)) fun _ _ _ q => rd_slice (by simpa only [evE, bind_assoc'] using q)) (by simp only [fresh, md]; rfl) (fun h => ok_rd _ h) (fun _ => rfl)
theorem isVar_pe (x : XOk Z c T k sc X H0 w0 xk EX) (hN : X.N = N) {i : Nat} {e : Expr} (h : isVar N sc i e = true) : ∃ y p, e = .Name y p ∧ PE X (.Name y p) (tVar i) := by
  obtain ⟨⟨y, p⟩, h1, h2⟩ := has_ex h
  obtain rfl := dName_eq h1
  simp only [Bool.and_eq_true, decide_eq_true_eq] at h2
  obtain ⟨d1, d2, d3⟩ := okName_db h2.2
  exact ⟨y, p, rfl, pe_var (by rw [hN]; exact h2.1.1) (vis_of x.scope h2.1.2) d1 d2⟩
theorem XOk.u1 (x : XOk Z c T k sc X H0 w0 xk EX) : X.A.units + 1 < cLine := by have := x.room.un; omega
theorem se_stAt (x : XOk Z c T k sc X H0 w0 xk EX) (hN : X.N = N) {i : Nat} (h : mE T N sc (.stAt i) e = true) : SE c T X H0 w0 xk ω (.stAt i) e := by
  simp only [mE] at h
  obtain ⟨⟨o, s⟩, h1, h2⟩ := has_ex h
  obtain ⟨j, p2, p, rfl⟩ := dKey_eq h1
  simp only [Bool.and_eq_true, decide_eq_true_eq] at h2
  obtain ⟨rfl, h3⟩ := h2
  obtain ⟨y, q, rfl, pv⟩ := isVar_pe x hN h3
  exact SE.of (m := .sh) (fun _ => pe_weak (pe_dget x.u1 pv pe_str fun _ _ => rfl) fun _ _ _ hy => rd_stAt (by simp only [evE] at hy; exact hy)) (by simp only [fresh, md]; rfl) (fun h => ok_rd _ h) (fun _ => rfl)
theorem se_stCells (x : XOk Z c T k sc X H0 w0 xk EX) (hN : X.N = N) {i : Nat} (h : mE T N sc (.stCells i) e = true) : SE c T X H0 w0 xk ω (.stCells i) e := by
  simp only [mE] at h
  obtain ⟨⟨o, s⟩, h1, h2⟩ := has_ex h
  obtain ⟨j, p2, p, rfl⟩ := dKey_eq h1
  simp only [Bool.and_eq_true, decide_eq_true_eq] at h2
  obtain ⟨rfl, h3⟩ := h2
  obtain ⟨y, q, rfl, pv⟩ := isVar_pe x hN h3
  exact SE.of (m := .sh) (fun _ => pe_weak (pe_dget x.u1 pv pe_str fun _ _ => rfl) fun _ _ _ hy => rd_stCells (by simp only [evE] at hy; exact hy)) (by simp only [fresh, md]; rfl) (fun h => ok_rd _ h) (fun _ => rfl)
theorem inv_gget {x : Str} {kvs : List (Str × Int)} {a : E} (h : mE T N sc (.gget x kvs a) e = true) : ∃ p ap a' cp, e = .Call (.Attribute (.Name x p) "get" ap) [a'] [] cp ∧ (x, kvs) ∈ T.tbs ∧ isGl sc x = true ∧ okName x = true ∧ (ap.endLine == cp.line) = true ∧ notStar a' = true ∧ mE T N sc a a' = true := by
  rw [mE] at h
  obtain ⟨⟨y, m, ap, a', cp⟩, h0, hh⟩ := has_ex h
  obtain ⟨p, rfl⟩ := dGet_eq h0
  simp only [Bool.and_eq_true, decide_eq_true_eq] at hh
  obtain ⟨⟨⟨⟨⟨⟨⟨rfl, rfl⟩, h1⟩, h2⟩, h3⟩, h4⟩, h5⟩, h6⟩ := hh
  exact ⟨_, _, _, _, rfl, List.contains_iff_mem.mp h1, h2, h3, h4, h5, h6⟩
theorem inv_sdict {a : E} (h : mE T N sc (.sdict a) e = true) : ∃ p1 p2 a' q2 q1, e = .Call (.Name "sorted" p1) [.Call (.Name "dict" p2) [a'] [] q2] [] q1 ∧ isGl sc "sorted" = true ∧ isGl sc "dict" = true ∧ notStar a' = true ∧ mE T N sc a a' = true := by
  rw [mE] at h
  obtain ⟨⟨x, y, a'⟩, h0, hh⟩ := has_ex h
  obtain ⟨p1, p2, q2, q1, rfl⟩ := dSd_eq h0
  simp only [Bool.and_eq_true, decide_eq_true_eq] at hh
  obtain ⟨⟨⟨⟨⟨rfl, rfl⟩, h1⟩, h2⟩, h3⟩, h4⟩ := hh
  exact ⟨_, _, _, _, _, rfl, h1, h2, h3, h4⟩
theorem inv_rev {a : E} (h : mE T N sc (.rev a) e = true) : ∃ a' p p2 p3 j p4, e = .Subscript a' (.Slice none none (some (.UnaryOp .USub (.Constant (.int 1) j p4) p3)) p2) p ∧ mE T N sc a a' = true := by
  rw [mE] at h
  obtain ⟨a', h0, hh⟩ := has_ex h
  obtain ⟨p, p2, p3, j, p4, rfl⟩ := dRev_eq h0
  exact ⟨_, _, _, _, _, _, rfl, hh⟩
theorem inv_stLeft {i : Nat} {a : E} (h : mE T N sc (.stLeft i a) e = true) : ∃ o j p2 p3 i' p, e = .Subscript (.Subscript o (.Constant (.str "lefts") j p2) p3) i' p ∧ isVar N sc i o = true ∧ notSlice i' = true ∧ mE T N sc a i' = true := by
  simp only [mE] at h
  obtain ⟨⟨u, i'⟩, h1, h2⟩ := has_ex h
  obtain ⟨p, rfl⟩ := dSub_eq h1
  obtain ⟨⟨o, s⟩, h3, h4⟩ := has_ex h2
  obtain ⟨j, p2, p3, rfl⟩ := dKey_eq h3
  simp only [Bool.and_eq_true, decide_eq_true_eq] at h4
  obtain ⟨⟨⟨rfl, g1⟩, g2⟩, g3⟩ := h4
  exact ⟨o, j, p2, p3, i', p, rfl, g1, g2, g3⟩
theorem se_stLeft (x : XOk Z c T k sc X H0 w0 xk EX) (hN : X.N = N) {i : Nat} {a : E} {o i' : Expr} {j p2 p3 p} (h1 : isVar N sc i o = true) (h2 : notSlice i' = true) (s : SE c T X H0 w0 xk ω a i') :
    SE c T X H0 w0 xk ω (.stLeft i a) (.Subscript (.Subscript o (.Constant (.str "lefts") j p2) p3) i' p) := by
  obtain ⟨y, q, rfl, pv⟩ := isVar_pe x hN h1
  exact SE.of (m := .sh) (fun h => by
    simp only [rdE] at h
    exact pe_weak (pe_ix ix_list (pe_dget x.u1 pv pe_str fun _ _ => rfl) (s.look h) (plainIx h2)) fun _ _ _ hy => rd_stLeft (by simp only [evE] at hy; exact hy)) (by simp only [fresh, md]; rfl) (fun h => ok_rd _ h) (fun _ => rfl)
theorem inv_mkSt {a b : E} (h : mE T N sc (.mkSt a b) e = true) : ∃ u v j1 p1 j2 p2 j3 p3 j4 p4 j5 p5 j6 p6 p, e = .Dict [some (.Constant (.str "cells") j1 p1), some (.Constant (.str "lefts") j2 p2), some (.Constant (.str "at") j3 p3), some (.Constant (.str "room") j4 p4)] [u, v, .Constant (.int 0) j5 p5, .Constant (.int 0) j6 p6] p ∧
    fresh T b = true ∧ mE T N sc a u = true ∧ mE T N sc b v = true := by
  simp only [mE] at h
  obtain ⟨⟨u, v⟩, h1, h2⟩ := has_ex h
  obtain ⟨j1, p1, j2, p2, j3, p3, j4, p4, j5, p5, j6, p6, p, rfl⟩ := dSt_eq h1
  simp only [Bool.and_eq_true] at h2
  exact ⟨u, v, j1, p1, j2, p2, j3, p3, j4, p4, j5, p5, j6, p6, p, rfl, h2.1.1, h2.1.2, h2.2⟩
theorem se_mkSt {a b : E} {u v : Expr} {j1 p1 j2 p2 j3 p3 j4 p4 j5 p5 j6 p6 p} (hf : fresh T b = true) (s : SE c T X H0 w0 xk ω a u) (t : SE c T X H0 w0 xk ω b v) :
    SE c T X H0 w0 xk ω (.mkSt a b) (.Dict [some (.Constant (.str "cells") j1 p1), some (.Constant (.str "lefts") j2 p2), some (.Constant (.str "at") j3 p3), some (.Constant (.str "room") j4 p4)] [u, v, .Constant (.int 0) j5 p5, .Constant (.int 0) j6 p6] p) :=
  SE.of (m := .sh) (fun h => by
    simp only [rdE, Bool.and_eq_true] at h
    have q := t.val h.2
    rw [hf] at q
    exact pe_weak (pe_disp (pps_cons pe_str (s.sh h.1) (pps_cons pe_str q (pps_cons pe_str pe_int (pps_cons pe_str pe_int pps_nil)))) rfl rfl (by simp) (by simp)) fun _ _ _ hy => rd_mkSt (by simp only [evE] at hy; exact hy)) (by simp only [fresh, md]; rfl) (fun h => ok_rd _ h) (fun _ => rfl)
theorem se_tup {as : Ss} {es : List Expr} {j p} (s : okSs ω as = true → PA X es (tA X.K H0 w0 xk ω fun ρ => evSs c ρ as)) : SE c T X H0 w0 xk ω (.tup as) (.Tuple es j p) :=
  SE.of (m := .sh) (fun h => by
    simp only [rdE] at h
    exact pe_weak (pe_tup (s h)) fun _ _ _ q => rd_tup (by simpa only [evE] using q)) (by simp only [fresh, md]; rfl) (fun h => ok_rd _ h) (fun _ => rfl)
theorem se_lst {as : Ss} {es : List Expr} {p} (s : okSs ω as = true → PA X es (tA X.K H0 w0 xk ω fun ρ => evSs c ρ as)) : SE c T X H0 w0 xk ω (.lst as) (.List es p) :=
  SE.of (m := .own) (fun h => by
    simp only [rdE] at h
    exact pe_weak (pe_lst (s h)) fun _ _ _ q => rd_lst (by simpa only [evE] using q)) (by simp only [fresh, md]; rfl) (fun h => ok_rd _ h) (fun _ => rfl)
end

/-! ### all terms -/
mutual
theorem snd_E {Z : Exs} {c : Ctx} {T : Tab} {N : List Str} {k : Nat} : ∀ (a : E) {sc : Scope} {X : Cx} {H0 : Hp} {w0 : Wd} {xk : Exn → S → Prop} {EX : XK} (ω : List Nat) {e : Expr}, XOk Z c T k sc X H0 w0 xk EX → X.N = N → mE T N sc a e = true → SE c T X H0 w0 xk ω a e
  | .var i, sc, X, H0, w0, xk, EX, ω, e, x, hN, h => se_var x hN h
  | .cst k0, sc, X, H0, w0, xk, EX, ω, e, x, hN, h => se_cst h
  | .glob g, sc, X, H0, w0, xk, EX, ω, e, x, hN, h => se_glob x h
  | .neg a, sc, X, H0, w0, xk, EX, ω, e, x, hN, h => by
    obtain ⟨a', p, rfl, h1⟩ := inv_neg h
    exact se_neg (snd_E a ω x hN h1)
  | .not a, sc, X, H0, w0, xk, EX, ω, e, x, hN, h => by
    obtain ⟨a', p, rfl, h1⟩ := inv_not h
    exact se_not (snd_E a ω x hN h1)
  | .bin op a b, sc, X, H0, w0, xk, EX, ω, e, x, hN, h => by
    obtain ⟨a', b', p, rfl, h1, h2⟩ := inv_bin h
    exact se_bin (snd_E a ω x hN h1) (snd_E b ω x hN h2)
  | .cmp op a b, sc, X, H0, w0, xk, EX, ω, e, x, hN, h => by
    obtain ⟨a', b', p, rfl, h0, h1, h2⟩ := inv_cmp h
    exact se_cmp x h0 (snd_E a ω x hN h1) (snd_E b ω x hN h2)
  | .chain o1 o2 a b d, sc, X, H0, w0, xk, EX, ω, e, x, hN, h => by
    obtain ⟨a', b', d', p, rfl, h0, h1, h2, h3⟩ := inv_chain h
    exact se_chain x h0 (snd_E a ω x hN h1) (snd_E b ω x hN h2) (snd_E d ω x hN h3)
  | .and a b, sc, X, H0, w0, xk, EX, ω, e, x, hN, h => by
    obtain ⟨v, u, rest, p, rfl, h1, h2⟩ := inv_and h
    refine se_and (snd_E a ω x hN h1) ?_
    rcases h2 with ⟨rfl, h2⟩ | ⟨_, h2⟩
    · exact .inr ⟨rfl, snd_E b ω x hN h2⟩
    · exact .inl (snd_E b ω x hN h2)
  | .or a b, sc, X, H0, w0, xk, EX, ω, e, x, hN, h => by
    obtain ⟨v, u, rest, p, rfl, h1, h2⟩ := inv_or h
    refine se_or (snd_E a ω x hN h1) ?_
    rcases h2 with ⟨rfl, h2⟩ | ⟨_, h2⟩
    · exact .inr ⟨rfl, snd_E b ω x hN h2⟩
    · exact .inl (snd_E b ω x hN h2)
  | .ife t a b, sc, X, H0, w0, xk, EX, ω, e, x, hN, h => by
    obtain ⟨t', a', b', p, rfl, h0, h1, h2⟩ := inv_ife h
    exact se_ife (snd_E t ω x hN h0) (snd_E a ω x hN h1) (snd_E b ω x hN h2)
  | .call f as, sc, X, H0, w0, xk, EX, ω, e, x, hN, h => by
    obtain ⟨F, y, p, u, es, q, rfl, hF, hn, ha, hg, ho, hm, hgd⟩ := inv_call h
    exact se_call x hF hn ha hg ho hm hgd (snd_Es as ω x hN hm).1
  | .lam t us b, sc, X, H0, w0, xk, EX, ω, e, x, hN, h => by
    obtain ⟨y, ps, u, scope, p, q, r, td, rfl, h1, h2, h3, h4, h5, h6, h7, h8, h9⟩ := inv_lam h
    exact se_lam x h1 h2 h3 h4 h5 h6 h7 h8 fun x' hN' => snd_E b [] x' (hN'.trans hN) h9
  | .bi b as, sc, X, H0, w0, xk, EX, ω, e, x, hN, h => by
    obtain ⟨p, u, es, q, rfl, hg, hm, hgd⟩ := inv_bi h
    exact se_bi x hg hm hgd (snd_Es as ω x hN hm).2
  | .gget y kvs a, sc, X, H0, w0, xk, EX, ω, e, x, hN, h => by
    obtain ⟨p, ap, a', q, rfl, h1, h2, h3, h4, h5, h6⟩ := inv_gget h
    exact se_gget x h1 h2 h3 h4 h5 (snd_E a ω x hN h6)
  | .rev a, sc, X, H0, w0, xk, EX, ω, e, x, hN, h => by
    obtain ⟨a', p, p2, p3, j, p4, rfl, h1⟩ := inv_rev h
    exact se_rev (snd_E a ω x hN h1)
  | .sdict a, sc, X, H0, w0, xk, EX, ω, e, x, hN, h => by
    obtain ⟨p1, p2, a', q2, q1, rfl, h1, h2, h3, h4⟩ := inv_sdict h
    exact se_sdict x h1 h2 h3 (snd_E a ω x hN h4)
  | .isi a t, sc, X, H0, w0, xk, EX, ω, e, x, hN, h => by
    obtain ⟨p, a', p2, q, rfl, h1, h2, h3, h4⟩ := inv_isi h
    exact se_isi x h1 h2 h3 (snd_E a ω x hN h4)
  | .sub a b, sc, X, H0, w0, xk, EX, ω, e, x, hN, h => by
    obtain ⟨a', b', p, rfl, h0, h1, h2⟩ := inv_sub h
    exact se_sub h0 (snd_E a ω x hN h1) (snd_E b ω x hN h2)
  | .slice a lo hi, sc, X, H0, w0, xk, EX, ω, e, x, hN, h => by
    obtain ⟨a', lo', hi', p2, p, rfl, h0, h1, h2⟩ := inv_slice h
    exact se_slice (snd_E a ω x hN h0) (snd_O lo ω x hN h1) (snd_O hi ω x hN h2)
  | .stAt i, sc, X, H0, w0, xk, EX, ω, e, x, hN, h => se_stAt x hN h
  | .stCells i, sc, X, H0, w0, xk, EX, ω, e, x, hN, h => se_stCells x hN h
  | .stLeft i a, sc, X, H0, w0, xk, EX, ω, e, x, hN, h => by
    obtain ⟨o, j, p2, p3, i', p, rfl, h1, h2, h3⟩ := inv_stLeft h
    exact se_stLeft x hN h1 h2 (snd_E a ω x hN h3)
  | .mkSt a b, sc, X, H0, w0, xk, EX, ω, e, x, hN, h => by
    obtain ⟨u, v, j1, p1, j2, p2, j3, p3, j4, p4, j5, p5, j6, p6, p, rfl, h1, h2, h3⟩ := inv_mkSt h
    exact se_mkSt h1 (snd_E a ω x hN h2) (snd_E b ω x hN h3)
  | .tup as, sc, X, H0, w0, xk, EX, ω, e, x, hN, h => by
    obtain ⟨es, j, p, rfl, h1⟩ := inv_tup h
    exact se_tup (snd_Ss as ω x hN h1)
  | .lst as, sc, X, H0, w0, xk, EX, ω, e, x, hN, h => by
    obtain ⟨es, p, rfl, h1⟩ := inv_lst h
    exact se_lst (snd_Ss as ω x hN h1)
  | .comp t src cnd elt, sc, X, H0, w0, xk, EX, ω, e, x, hN, h => by
    obtain ⟨elt', tg, iter, ifs, scope, p, rfl, h1, h2, h3, h4, h5⟩ := inv_comp h
    refine SE.of (m := .own) (fun hr => ?_) (by simp only [fresh, md]; rfl) (fun h => ok_rd _ h) (fun _ => rfl)
    simp only [rdE, Bool.and_eq_true] at hr
    have bk := fun s H C cl fp => blkX x s H scope C cl fp
    have q := pe_lc (pos := p) (g := gT X.K t) (tt := tT X.K H0 w0 NoX (minus ω t.slots) fun ρ => evC c ρ cnd) (te := tD X.K H0 w0 NoX (minus ω t.slots) .sh fun ρ => evE c ρ elt) x.calm x.nd ((snd_I src ω x hN tg h3).1 hr.1.1) (blkOk_by (by rw [hN, x.scope]; exact h1))
      (fun s H C cl fp => mTg_pg (X := X.blk s H scope (compEnvC scope cl C X.env) fp) (blkN hN) x.nd x.calm (fun y hy => loc_blk y hy) h2)
      (fun s H C cl fp => snd_C cnd (minus ω t.slots) (bk s H C cl fp) (blkN hN) h4 hr.1.2)
      (fun s H C cl fp => (snd_E elt (minus ω t.slots) (bk s H C cl fp) (blkN hN) h5).sh hr.2) (fun v => folded h3 X.env v)
    rw [own_snd] at q
    exact pe_weak q fun _ _ _ hy => rd_comp (fun i hi => hi) (by simp only [evE] at hy; exact hy)
  | .comp2 t src cnd t2 src2 cnd2 elt, sc, X, H0, w0, xk, EX, ω, e, x, hN, h => by
    obtain ⟨elt', tg, iter, ifs, tg2, iter2, ifs2, scope, p, rfl, h1, h2, h3, h4, h5, h6, h7, h8⟩ := inv_comp2 h
    refine SE.of (m := .own) (fun hr => ?_) (by simp only [fresh, md]; rfl) (fun h => ok_rd _ h) (fun _ => rfl)
    simp only [rdE, Bool.and_eq_true] at hr
    have bk := fun s H C cl fp => blkX x s H scope C cl fp
    have q := pe_lc2 (pos := p) (vs1 := t2.slots) (g := gT X.K t) (tt := tT X.K H0 w0 NoX (minus ω (t.slots ++ t2.slots)) fun ρ => evC c ρ cnd) (wi1 := tI X.K H0 w0 NoX (minus ω (t.slots ++ t2.slots)) true fun ρ => evIt c ρ src2) (g1 := gT X.K t2) (tt1 := tT X.K H0 w0 NoX (minus ω (t.slots ++ t2.slots)) fun ρ => evC c ρ cnd2) (te := tD X.K H0 w0 NoX (minus ω (t.slots ++ t2.slots)) .sh fun ρ => evE c ρ elt) x.calm x.nd ((snd_I src ω x hN tg h3).1 hr.1.1.1.1) (blkOk_by (by rw [hN, x.scope]; exact h1)) (fun i hi => by rw [own_snd]; exact List.mem_append_right _ hi)
      (fun s H C cl fp => mTg_pg (X := X.blk s H scope (compEnvC scope cl C X.env) fp) (blkN hN) x.nd x.calm (fun y hy => loc_blk y hy) h2)
      (fun s H C cl fp => snd_C cnd (minus ω (t.slots ++ t2.slots)) (bk s H C cl fp) (blkN hN) h4 hr.1.1.1.2)
      (fun s H C cl fp => (snd_I src2 (minus ω (t.slots ++ t2.slots)) (bk s H C cl fp) (blkN hN) tg2 h6).2 hr.1.1.2)
      (fun s H C cl fp => mTg_pg (X := X.blk s H scope (compEnvC scope cl C X.env) fp) (blkN hN) x.nd x.calm (fun y hy => loc_blk y hy) h5)
      (fun s H C cl fp => snd_C cnd2 (minus ω (t.slots ++ t2.slots)) (bk s H C cl fp) (blkN hN) h7 hr.1.2)
      (fun s H C cl fp => (snd_E elt (minus ω (t.slots ++ t2.slots)) (bk s H C cl fp) (blkN hN) h8).sh hr.2) (fun v => folded h3 X.env v) (fun env v => folded h6 env v)
    rw [own_snd] at q
    exact pe_weak q fun _ _ _ hy => rd_comp2 (fun i hi => List.mem_append_left _ hi) (fun i hi => hi) (fun i hi => List.mem_append_right _ hi) (by simp only [evE] at hy; exact hy)
theorem snd_O {Z : Exs} {c : Ctx} {T : Tab} {N : List Str} {k : Nat} : ∀ (a : Oe) {sc : Scope} {X : Cx} {H0 : Hp} {w0 : Wd} {xk : Exn → S → Prop} {EX : XK} (ω : List Nat) {e : Option Expr}, XOk Z c T k sc X H0 w0 xk EX → X.N = N → mO T N sc a e = true → rdO ω a = true →
    PO X e (tO X.K H0 w0 xk ω fun ρ => do optI (← evO c ρ a))
  | .no, sc, X, H0, w0, xk, EX, ω, e, x, hN, h, hr => by
    cases e with
    | none => exact ⟨fun pins s σ H Q I q => po_none.run pins s σ H Q I (rd_ono (by simpa only [evO] using q))⟩
    | some _ => simp [mO] at h
  | .yes a, sc, X, H0, w0, xk, EX, ω, e, x, hN, h, hr => by
    cases e with
    | none => simp [mO] at h
    | some e =>
      simp only [mO] at h
      simp only [rdO] at hr
      exact ⟨fun pins s σ H Q I q => (po_some ((snd_E a ω x hN h).look hr)).run pins s σ H Q I (rd_oyes (by simpa only [evO] using q))⟩
theorem snd_C {Z : Exs} {c : Ctx} {T : Tab} {N : List Str} {k : Nat} : ∀ (a : Oe) {sc : Scope} {X : Cx} {H0 : Hp} {w0 : Wd} {xk : Exn → S → Prop} {EX : XK} (ω : List Nat) {e : List Expr}, XOk Z c T k sc X H0 w0 xk EX → X.N = N → mC T N sc a e = true → rdO ω a = true →
    PTs X e (tT X.K H0 w0 xk ω fun ρ => evC c ρ a)
  | .no, sc, X, H0, w0, xk, EX, ω, e, x, hN, h, hr => by
    cases e with
    | nil =>
      refine ⟨fun pins s σ H Q I q => pts_nil.run pins s σ H Q I ?_⟩
      obtain ⟨w, ρ, R, q⟩ := q
      simp only [evC] at q
      exact q H w rfl (Ext.refl _ _) R.wo
    | cons _ _ => simp [mC] at h
  | .yes a, sc, X, H0, w0, xk, EX, ω, e, x, hN, h, hr => by
    match e, h with
    | [], h => simp [mC] at h
    | _ :: _ :: _, h => simp [mC] at h
    | [e], h =>
      simp only [mC] at h
      simp only [rdO] at hr
      exact ⟨fun pins s σ H Q I q => (pts_one ((snd_E a ω x hN h).test hr)).run pins s σ H Q I (by simpa only [evC] using q)⟩
theorem snd_Es {Z : Exs} {c : Ctx} {T : Tab} {N : List Str} {k : Nat} : ∀ (a : Es) {sc : Scope} {X : Cx} {H0 : Hp} {w0 : Wd} {xk : Exn → S → Prop} {EX : XK} (ω : List Nat) {e : List Expr}, XOk Z c T k sc X H0 w0 xk EX → X.N = N → mEs T N sc a e = true →
    (okEs ω a = true → PA X e (tA X.K H0 w0 xk ω fun ρ => evEs c ρ a)) ∧ (rdEs ω a = true → PA X e (tAk X.K H0 w0 xk ω fun ρ => evEs c ρ a))
  | .nil, sc, X, H0, w0, xk, EX, ω, e, x, hN, h => by
    cases e with
    | nil => exact ⟨fun _ => pa_weak pa_nil fun _ _ _ q => rd_anil (by simpa only [evEs] using q), fun _ => pa_weak pa_nil fun _ _ _ q => rd_akil (by simpa only [evEs] using q)⟩
    | cons _ _ => simp [mEs] at h
  | .cons a as, sc, X, H0, w0, xk, EX, ω, e, x, hN, h => by
    cases e with
    | nil => simp [mEs] at h
    | cons e es =>
      simp only [mEs, Bool.and_eq_true] at h
      have s := snd_E a ω x hN h.1.2
      have t := snd_Es as ω x hN h.2
      refine ⟨fun hr => ?_, fun hr => ?_⟩
      · simp only [okEs, Bool.and_eq_true] at hr
        exact pa_weak (pa_cons (s.sh hr.1) (t.1 hr.2) (star_cons h.1.1)) fun _ _ _ q => rd_acons (by simpa only [evEs] using q)
      · simp only [rdEs, Bool.and_eq_true] at hr
        exact pa_weak (pa_cons (s.look hr.1) (t.2 hr.2) (star_cons h.1.1)) fun _ _ _ q => rd_akcons (by simpa only [evEs] using q)
theorem snd_Ss {Z : Exs} {c : Ctx} {T : Tab} {N : List Str} {k : Nat} : ∀ (a : Ss) {sc : Scope} {X : Cx} {H0 : Hp} {w0 : Wd} {xk : Exn → S → Prop} {EX : XK} (ω : List Nat) {e : List Expr}, XOk Z c T k sc X H0 w0 xk EX → X.N = N → mSs T N sc a e = true → okSs ω a = true →
    PA X e (tA X.K H0 w0 xk ω fun ρ => evSs c ρ a)
  | .nil, sc, X, H0, w0, xk, EX, ω, e, x, hN, h, hr => by
    cases e with
    | nil => exact pa_weak pa_nil fun _ _ _ q => rd_anil (by simpa only [evSs] using q)
    | cons _ _ => simp [mSs] at h
  | .cons a as, sc, X, H0, w0, xk, EX, ω, e, x, hN, h, hr => by
    cases e with
    | nil => simp [mSs] at h
    | cons e es =>
      simp only [mSs, Bool.and_eq_true] at h
      simp only [okSs, Bool.and_eq_true] at hr
      exact pa_weak (pa_cons ((snd_E a ω x hN h.1.2).sh hr.1) (snd_Ss as ω x hN h.2 hr.2) (star_cons h.1.1)) fun _ _ _ q => rd_acons (by simpa only [evSs] using q)
  | .star a as, sc, X, H0, w0, xk, EX, ω, e, x, hN, h, hr => by
    cases e with
    | nil => simp [mSs] at h
    | cons e es =>
      cases e with
      | Starred e p =>
        simp only [mSs, Bool.and_eq_true] at h
        simp only [okSs, Bool.and_eq_true] at hr
        exact pa_weak (StX.pa_star ((snd_E a ω x hN h.1).look hr.1) (snd_Ss as ω x hN h.2 hr.2)) fun _ _ _ q => rd_astar (by simpa only [evSs] using q)
      | _ => simp [mSs] at h
theorem snd_I {Z : Exs} {c : Ctx} {T : Tab} {N : List Str} {k : Nat} : ∀ (a : Sr) {sc : Scope} {X : Cx} {H0 : Hp} {w0 : Wd} {xk : Exn → S → Prop} {EX : XK} (ω : List Nat) {e : Expr}, XOk Z c T k sc X H0 w0 xk EX → X.N = N → ∀ tg, mI T N sc (isTup tg) a e = true →
    (rdI ω a = true → PI X tg e (tI X.K H0 w0 xk ω false fun ρ => evIt c ρ a)) ∧ (okI ω a = true → PI X tg e (tI X.K H0 w0 xk ω true fun ρ => evIt c ρ a))
  | .seq a, sc, X, H0, w0, xk, EX, ω, e, x, hN, tg, h => by
    have s := snd_E a ω x hN (inv_seq h).2
    have go : ∀ L : Bool, (if L then okE ω a else rdE ω a) = true → PI X tg e (tI X.K H0 w0 xk ω L fun ρ => evIt c ρ (.seq a)) := fun L hr =>
      pi_weak (pi_seq (s.mL L hr)) fun _ _ _ q => rd_seq (by simpa only [evIt] using q)
    exact ⟨fun hr => go false (by simp only [rdI] at hr; exact hr), fun hr => go true (by simp only [okI] at hr; exact hr)⟩
  | .range1 a, sc, X, H0, w0, xk, EX, ω, e, x, hN, tg, h => by
    obtain ⟨p, u, q, rfl, h1, h2, h3⟩ := inv_range1 h
    have s := snd_E a ω x hN h3
    have go : ∀ L : Bool, rdE ω a = true → PI X tg (.Call (.Name "range" p) [u] [] q) (tI X.K H0 w0 xk ω L fun ρ => evIt c ρ (.range1 a)) := fun L hr =>
      pi_weak (pi_range1 (gl_of x.scope h1) x.rng (pa_cons (s.look hr) pa_nil (star_cons h2)) (star_cons h2)) fun _ _ _ q => rd_range1 (by simpa only [evIt] using q)
    exact ⟨fun hr => go false (by simp only [rdI] at hr; exact hr), fun hr => go true (by simp only [okI] at hr; exact hr)⟩
  | .range2 a b, sc, X, H0, w0, xk, EX, ω, e, x, hN, tg, h => by
    obtain ⟨p, u, v, q, rfl, h1, h2, h3, h4, h5⟩ := inv_range2 h
    have s := snd_E a ω x hN h4
    have t := snd_E b ω x hN h5
    have go : ∀ L : Bool, (rdE ω a && rdE ω b) = true → PI X tg (.Call (.Name "range" p) [u, v] [] q) (tI X.K H0 w0 xk ω L fun ρ => evIt c ρ (.range2 a b)) := fun L hr => by
      simp only [Bool.and_eq_true] at hr
      exact pi_weak (pi_range2 (gl_of x.scope h1) x.rng (pa_cons (s.look hr.1) (pa_cons (t.look hr.2) pa_nil (star_cons h3)) (star_cons h2)) (by rw [star_cons h2, star_cons h3]; rfl) (star_cons h3)) fun _ _ _ q => rd_range2 (by simpa only [evIt] using q)
    exact ⟨fun hr => go false (by simp only [rdI] at hr; exact hr), fun hr => go true (by simp only [okI] at hr; exact hr)⟩
  | .enum a, sc, X, H0, w0, xk, EX, ω, e, x, hN, tg, h => by
    obtain ⟨p, u, q, h0, rfl, h1, h2, h3⟩ := inv_enum h
    obtain ⟨els, j, p3, rfl⟩ := tup_of h0
    have s := snd_E a ω x hN h3
    have go : ∀ L : Bool, (if L then okE ω a else rdE ω a) = true → PI X (.Tuple els j p3) (.Call (.Name "enumerate" p) [u] [] q) (tI X.K H0 w0 xk ω L fun ρ => evIt c ρ (.enum a)) := fun L hr =>
      pi_weak (pi_enumA (gl_of x.scope h1) x.enu (pa_cons (s.mL L hr) pa_nil (star_cons h2)) (star_cons h2)) fun _ _ _ q => rd_enum (by simpa only [evIt] using q)
    exact ⟨fun hr => go false (by simp only [rdI] at hr; exact hr), fun hr => go true (by simp only [okI] at hr; exact hr)⟩
  | .zip a b, sc, X, H0, w0, xk, EX, ω, e, x, hN, tg, h => by
    obtain ⟨p, u, v, q, h0, rfl, h1, h2, h3, h4, h5⟩ := inv_zip h
    obtain ⟨els, j, p3, rfl⟩ := tup_of h0
    have s := snd_E a ω x hN h4
    have t := snd_E b ω x hN h5
    have go : ∀ L : Bool, (if L then okE ω a else rdE ω a) = true → (if L then okE ω b else rdE ω b) = true → PI X (.Tuple els j p3) (.Call (.Name "zip" p) [u, v] [] q) (tI X.K H0 w0 xk ω L fun ρ => evIt c ρ (.zip a b)) := fun L ha hb =>
      pi_weak (pi_zipS (gl_of x.scope h1) x.zip (pa_cons (s.mL L ha) (pa_cons (t.mL L hb) pa_nil (star_cons h3)) (star_cons h2)) (star_cons h2) (plain_of (by simp [h3]))) fun _ _ _ q => rd_zip (by simpa only [evIt] using q)
    refine ⟨fun hr => ?_, fun hr => ?_⟩
    · simp only [rdI, Bool.and_eq_true] at hr; exact go false hr.1 hr.2
    · simp only [okI, Bool.and_eq_true] at hr; exact go true hr.1 hr.2
end
end DE

/-! DEstmt: statements against the text; what is owned; rules. -/
namespace DE
open PySem PySem.Spec PyProof.Rows L2 PySem.Calls

/-! ### is the text this statement? -/
def notComp : Expr → Bool
  | .ListComp .. => false
  | .SetComp .. => false
  | .DictComp .. => false
  | _ => true
def isTupE : Expr → Bool
  | .Tuple .. => true
  | _ => false
/-- a list comprehension stored under a name -/
def swB (sc : Scope) (x : Str) (p : Pos) : Expr → Bool
  | .ListComp _ _ s p2 => (decide (sc.names.lookup x = some .local) && (p.line == p2.line) && !(s.names.any fun (n, k) => n == x && (k == .local || k == .cell))) || decide (sc.names.lookup x = some .cell)
  | .SetComp .. => false
  | .DictComp .. => false
  | _ => true
def parB (sc : Scope) (x y : Str) (px py : Pos) (a b : Expr) : Bool :=
  decide (sc.names.lookup x = some .local) && decide (sc.names.lookup y = some .local) && decide (px.line = py.line) && decide (x ≠ y) && notStar a && notStar b && !(foldedForSure 8 a && foldedForSure 8 b) && !(constantsAlone 8 a && constantsAlone 8 b)
/-- one of the two is read by a lambda or a comprehension: stored one after another -/
def parC (sc : Scope) (x y : Str) (a b : Expr) : Bool :=
  locB sc.names x && locB sc.names y && (decide (sc.names.lookup x = some .cell) || decide (sc.names.lookup y = some .cell)) && notStar a && notStar b
def tupConst : Expr → Bool
  | .Tuple es _ _ => es.all (foldedForSure 8)
  | _ => true
def dAsg : Stmt → Option (Expr × Expr × Pos)
  | .Assign [tg] e q => some (tg, e, q)
  | _ => none
def dTup : Expr → Option (List Expr × Nat × Pos)
  | .Tuple es j p => some (es, j, p)
  | _ => none
def d2 : List Expr → Option (Expr × Expr)
  | [a, b] => some (a, b)
  | _ => none
/-- o.m(e): o, m, where; e, where -/
def dMeth : Expr → Option (Expr × Str × Pos × List Expr × Pos)
  | .Call (.Attribute o m ap) es [] cp => some (o, m, ap, es, cp)
  | _ => none
def d1 : List Expr → Option Expr
  | [a] => some a
  | _ => none
def dExpr : Stmt → Option (Expr × Pos)
  | .Expr e p => some (e, p)
  | _ => none
def dRet : Stmt → Option (Option Expr × Pos)
  | .Return e p => some (e, p)
  | _ => none
/-- raise x(e) -/
def dRaise : Stmt → Option (Str × Expr)
  | .Raise (some (.Call (.Name x _) [e] [] _)) none _ => some (x, e)
  | _ => none
theorem dRaise_eq {st x e} (h : dRaise st = some (x, e)) : ∃ p q r, st = .Raise (some (.Call (.Name x p) [e] [] q)) none r := by
  unfold dRaise at h
  split at h <;> cases h
  exact ⟨_, _, _, rfl⟩
def dIf : Stmt → Option (Expr × List Stmt × List Stmt × Pos)
  | .If t a b p => some (t, a, b, p)
  | _ => none
def dFor : Stmt → Option (Expr × Expr × List Stmt × Pos)
  | .For tg it b [] p => some (tg, it, b, p)
  | _ => none
def dWhile : Stmt → Option (Expr × List Stmt × Pos)
  | .While t b [] p => some (t, b, p)
  | _ => none
def dBrk : Stmt → Option Pos
  | .Break p => some p
  | _ => none
def dCont : Stmt → Option Pos
  | .Continue p => some p
  | _ => none
def dPass : Stmt → Option Pos
  | .Pass p => some p
  | _ => none
theorem dAsg_eq {st tg e q} (h : dAsg st = some (tg, e, q)) : st = .Assign [tg] e q := by
  unfold dAsg at h; split at h <;> cases h; rfl
theorem dTup_eq {e es j p} (h : dTup e = some (es, j, p)) : e = .Tuple es j p := by
  unfold dTup at h; split at h <;> cases h; rfl
theorem d2_eq {es a b} (h : d2 es = some (a, b)) : es = [a, b] := by
  unfold d2 at h; split at h <;> cases h; rfl
theorem d1_eq {es a} (h : d1 es = some a) : es = [a] := by
  unfold d1 at h; split at h <;> cases h; rfl
theorem dMeth_eq {e o m ap es cp} (h : dMeth e = some (o, m, ap, es, cp)) : e = .Call (.Attribute o m ap) es [] cp := by
  unfold dMeth at h; split at h <;> cases h; rfl
theorem dExpr_eq {st e p} (h : dExpr st = some (e, p)) : st = .Expr e p := by
  unfold dExpr at h; split at h <;> cases h; rfl
theorem dRet_eq {st e p} (h : dRet st = some (e, p)) : st = .Return e p := by
  unfold dRet at h; split at h <;> cases h; rfl
theorem dIf_eq {st t a b p} (h : dIf st = some (t, a, b, p)) : st = .If t a b p := by
  unfold dIf at h; split at h <;> cases h; rfl
theorem dFor_eq {st tg it b p} (h : dFor st = some (tg, it, b, p)) : st = .For tg it b [] p := by
  unfold dFor at h; split at h <;> cases h; rfl
theorem dWhile_eq {st t b p} (h : dWhile st = some (t, b, p)) : st = .While t b [] p := by
  unfold dWhile at h; split at h <;> cases h; rfl
theorem dBrk_eq {st p} (h : dBrk st = some p) : st = .Break p := by
  unfold dBrk at h; split at h <;> cases h; rfl
theorem dCont_eq {st p} (h : dCont st = some p) : st = .Continue p := by
  unfold dCont at h; split at h <;> cases h; rfl
theorem dPass_eq {st p} (h : dPass st = some p) : st = .Pass p := by
  unfold dPass at h; split at h <;> cases h; rfl
section
variable (T : Tab) (N : List Str) (sc : Scope)
mutual
def mS : C → Stmt → Bool
  | .asg t e, st => has (dAsg st) fun (tg, e', _) => (match t with
    | .v i => has (dName tg) fun (x, p) => decide (N[i]? = some x) && locB sc.names x && swB sc x p e'
    | .tup is => has (dTup tg) fun (es, _, _) => mNames N sc.names is es && notComp e' && tupConst e') && mE T N sc e e'
  | .par i j a b, st => has (dAsg st) fun (tg, e', _) => has (dTup tg) fun (es, _, _) => has (d2 es) fun (tx, ty) => has (dName tx) fun (x, px) => has (dName ty) fun (y, py) => has (dTup e') fun (vs, _, _) => has (d2 vs) fun (a', b') =>
      decide (N[i]? = some x) && decide (N[j]? = some y) && (parB sc x y px py a' b' || parC sc x y a' b') && mE T N sc a a' && mE T N sc b b'
  | .app i e, st => has (dExpr st) fun (u, _) => has (dMeth u) fun (o, m, ap, es, cp) => has (d1 es) fun e' => decide (m = ("append" : Str)) && isVar N sc i o && (ap.endLine == cp.line) && notStar e' && mE T N sc e e'
  | .popA j i e, st => has (dAsg st) fun (tg, u, _) => has (dName tg) fun (y, _) => has (dMeth u) fun (o, m, ap, es, cp) => has (d1 es) fun e' => decide (m = ("pop" : Str)) && decide (N[j]? = some y) && locB sc.names y && isVar N sc i o && (ap.endLine == cp.line) && notStar e' && mE T N sc e e'
  | .popApp j i e, st => has (dExpr st) fun (u, _) => has (dMeth u) fun (o, m, ap, es, cp) => has (d1 es) fun u2 => has (dMeth u2) fun (o2, m2, ap2, es2, cp2) => has (d1 es2) fun e' =>
      decide (m = ("append" : Str)) && decide (m2 = ("pop" : Str)) && isVar N sc j o && isVar N sc i o2 && (ap.endLine == cp.line) && (ap2.endLine == cp2.line) && notStar e' && mE T N sc e e'
  | .popL t i, st => has (dAsg st) fun (tg, u, _) => has (dMeth u) fun (o, m, ap, es, cp) => decide (m = ("pop" : Str)) && es.isEmpty && mTg N sc.names t tg && isVar N sc i o && (ap.endLine == cp.line)
  | .expr e, st => has (dExpr st) fun (e', _) => notComp e' && mE T N sc e e'
  | .setAt i e, st => has (dAsg st) fun (tg, e', _) => has (dKey tg) fun (o, s) => decide (s = ("at" : Str)) && isVar N sc i o && notComp e' && mE T N sc e e'
  | .setLeft i a e, st => has (dAsg st) fun (tg, e', _) => has (dSub tg) fun (u, i') => has (dKey u) fun (o, s) => decide (s = ("lefts" : Str)) && isVar N sc i o && notSlice i' && notComp e' && mE T N sc a i' && mE T N sc e e'
  | .ret e, st => has (dRet st) fun (o, _) => has o fun e' => mE T N sc e e'
  | .retN, st => has (dRet st) fun (o, _) => o.isNone
  | .raise x e, st => has (dRaise st) fun (y, e') => T.xt.xcs.any (fun r => decide (r.nm = x)) && decide (y = x) && isGl sc x && okName x && notStar e' && mE T N sc e e'
  | .ifs t a b, st => has (dIf st) fun (t', a', b', _) => mE T N sc t t' && mCs a a' && mCs b b'
  | .for_ _ t src body, st => has (dFor st) fun (tg, iter, body', _) => mTg N sc.names t tg && mI T N sc (isTup tg) src iter && mCs body body'
  | .while_ _ t body, st => has (dWhile st) fun (t', body', _) => mE T N sc t t' && mCs body body'
  | .never, _ => true
  | .brk, st => (dBrk st).isSome
  | .cont, st => (dCont st).isSome
  | .pass, st => (dPass st).isSome
def mCs : Cs → List Stmt → Bool
  | .nil, sts => sts.isEmpty
  | .cons s r, sts => match sts with
    | st :: sts => mS s st && mCs r sts
    | [] => false
  | .fz _ r, sts => mCs r sts
end
end

/-! ### what is owned behind -/
def ownVar (ω : List Nat) : E → Bool
  | .var i => ω.contains i
  | _ => false
mutual
def okS (T : Tab) (own : Bool) (lp : List Nat) (ω : List Nat) : C → Option (Option (List Nat))
  | .asg (.v i) e => if okE ω e then some (some (if fresh T e then i :: minus ω [i] else minus ω [i])) else none
  | .asg (.tup is) e => if okE ω e then some (some (minus ω is)) else none
  | .par i j a b => if okE ω a && okE ω b && decide (i ≠ j) then some (some ((if fresh T b then [j] else []) ++ ((if fresh T a then [i] else []) ++ minus ω [i, j]))) else none
  | .app i e => if ω.contains i && okE ω e then some (some ω) else none
  | .popA j i e => if ω.contains i && rdE ω e && decide (i ≠ j) then some (some (minus ω [j])) else none
  | .popApp j i e => if ω.contains i && ω.contains j && rdE ω e && decide (i ≠ j) then some (some ω) else none
  | .popL t i => if ω.contains i && !t.slots.contains i then some (some (minus ω t.slots)) else none
  | .expr e => if rdE ω e then some (some ω) else none
  | .setAt _ e => if rdE ω e then some (some ω) else none
  | .setLeft _ a e => if rdE ω a && rdE ω e then some (some ω) else none
  | .ret e => if (if own then (fresh T e && okE ω e) || ownVar ω e else okE ω e) then some none else none
  | .retN => some none
  | .raise _ e => if okE ω e then some none else none
  | .ifs t a b => if rdE ω t then (match okCs T own lp ω a, okCs T own lp ω b with
      | some (some x), some (some y) => some (some (x.filter y.contains))
      | some (some x), some none => some (some x)
      | some none, some r => some r
      | _, _ => none) else none
  | .for_ h t src body => if h.all ω.contains && okI ω src then (match okCs T own h (minus h t.slots) body with
      | some (some y) => if h.all y.contains then some (some h) else none
      | some none => some (some h)
      | none => none) else none
  | .while_ h t body => if h.all ω.contains && rdE h t then (match okCs T own h h body with
      | some (some y) => if h.all y.contains then some (some h) else none
      | some none => some (some h)
      | none => none) else none
  | .never => some none
  | .brk => if lp.all ω.contains then some none else none
  | .cont => if lp.all ω.contains then some none else none
  | .pass => some (some ω)
def okCs (T : Tab) (own : Bool) (lp : List Nat) (ω : List Nat) : Cs → Option (Option (List Nat))
  | .nil => some (some ω)
  | .fz is r => okCs T own lp (minus ω is) r
  | .cons s r => match okS T own lp ω s with
    | some (some ω') => okCs T own lp ω' r
    | some none => match r with
      | .nil => some none
      | _ => none
    | none => none
end

/-! ### names and values -/
section
variable {K : PySem.W.Frag} {H0 H H1 : Hp} {w0 w w1 : Wd} {ω : List Nat} {σ : L2.St} {ρ : Env}
theorem Rel.congr {ω' : List Nat} (R : Rel K H0 w0 ω σ H w ρ) (h : ∀ i, i ∈ ω' ↔ i ∈ ω) : Rel K H0 w0 ω' σ H w ρ :=
  R.drop_own (fun i q => (h i).mp q) fun i d q n => absurd ((h i).mpr q) n
theorem Rel.sub {h : List Nat} (R : Rel K H0 w0 ω σ H w ρ) (hs : ∀ i ∈ h, i ∈ ω) : ∃ w', w'.S = w.S ∧ Mono H w H w' ∧ Rel K H0 w0 h σ H w' ρ := by
  obtain ⟨w', e, m, R'⟩ := R.fz (ω.filter fun i => !h.contains i)
  refine ⟨w', e, m, R'.congr fun i => ?_⟩
  rw [mem_minus]
  constructor
  · intro q
    exact ⟨hs i q, fun z => by have := (List.mem_filter.mp z).2; simp [q] at this⟩
  · rintro ⟨q1, q2⟩
    by_cases z : i ∈ h
    · exact z
    · exact absurd (List.mem_filter.mpr ⟨q1, by simpa using z⟩) q2
theorem all_mem' {h ω : List Nat} (q : h.all ω.contains = true) : ∀ i ∈ h, i ∈ ω := fun i hi => by
  have := List.all_eq_true.mp q i hi
  simpa using this
/-- a new list is stored under a name -/
theorem Rel.setOwn {i : Nat} {v : V} {d : D} (R : Rel K H0 w0 ω σ H w ρ) (hv : Own K H w H0 v d) (ap : ∀ j ∈ ω, j ≠ i → ∀ ds es, d = .lst ds → ρ[j]? = some (some (.lst es)) → σ[j]? ≠ some (some v)) :
    Rel K H0 w0 (i :: minus ω [i]) (σ.set i (some v)) H w (ρ.set i (some d)) where
  wo := R.wo
  ex := R.ex
  len := by rw [List.length_set, List.length_set]; exact R.len
  get := fun j e h => by
    by_cases hj : i = j
    · subst hj
      by_cases hl : i < ρ.length
      · rw [List.getElem?_set_self hl] at h
        cases h
        exact ⟨v, List.getElem?_set_self (by rw [← R.len]; exact hl), fun _ => hv, fun q => absurd (List.mem_cons_self ..) q⟩
      · rw [List.getElem?_eq_none (by simpa using hl)] at h
        cases h
    · rw [List.getElem?_set_ne hj] at h
      obtain ⟨u, h1, h2, h3⟩ := R.get j e h
      refine ⟨u, by rw [List.getElem?_set_ne hj]; exact h1, fun q => h2 ?_, fun q => h3 fun z => q (List.mem_cons_of_mem _ (mem_minus.mpr ⟨z, by simpa using Ne.symm hj⟩))⟩
      rcases List.mem_cons.mp q with z | z
      · exact absurd z.symm hj
      · exact (mem_minus.mp z).1
  ap := fun j k ds es a b n h1 h2 => by
    have hm : ∀ {l}, l ∈ i :: minus ω [i] → l ≠ i → l ∈ ω := fun q z => by
      rcases List.mem_cons.mp q with y | y
      · exact absurd y z
      · exact (mem_minus.mp y).1
    by_cases hj : i = j
    · subst hj
      have hl : i < ρ.length := by
        by_cases hl : i < ρ.length
        · exact hl
        · rw [List.getElem?_eq_none (by simpa using hl)] at h1; cases h1
      rw [List.getElem?_set_self hl] at h1
      cases h1
      rw [List.getElem?_set_ne n] at h2
      rw [List.getElem?_set_self (by rw [← R.len]; exact hl), List.getElem?_set_ne n]
      exact Ne.symm (ap k (hm b (Ne.symm n)) (Ne.symm n) ds es rfl h2)
    · by_cases hk : i = k
      · subst hk
        have hl : i < ρ.length := by
          by_cases hl : i < ρ.length
          · exact hl
          · rw [List.getElem?_eq_none (by simpa using hl)] at h2; cases h2
        rw [List.getElem?_set_self hl] at h2
        cases h2
        rw [List.getElem?_set_ne hj] at h1
        rw [List.getElem?_set_self (by rw [← R.len]; exact hl), List.getElem?_set_ne hj]
        exact ap j (hm a n) n es ds rfl h1
      · rw [List.getElem?_set_ne hj] at h1 ⊢
        rw [List.getElem?_set_ne hk] at h2 ⊢
        exact R.ap j k ds es (hm a (Ne.symm hj)) (hm b (Ne.symm hk)) n h1 h2
/-- a new value is apart from what the names own -/
theorem Rel.apart (R : Rel K H0 w0 ω σ H w ρ) {H1 : Hp} {w1 : Wd} {v : V} {d : D} (hv : Own K H1 w1 H v d) : ∀ j ∈ ω, ∀ ds es, d = .lst ds → ρ[j]? = some (some (.lst es)) → σ[j]? ≠ some (some v) := fun j hj ds es e hρ hσ => by
  subst e
  obtain ⟨a, vs, rfl, _, _, _, _, hn⟩ := hv
  obtain ⟨u, h1, h2, _⟩ := R.get j _ hρ
  obtain ⟨b, us, rfl, g, _⟩ := h2 hj
  rw [h1] at hσ
  cases hσ
  obtain ⟨ps, q⟩ := hn _ g
  cases q
/-- a list that a name owns is written -/
theorem Rel.write {i : Nat} {a : Addr} {vs vs' : List V} {ds ds' : List D} (R : Rel K H0 w0 ω σ H w ρ) (hi : i ∈ ω) (hρ : ρ[i]? = some (some (.lst ds))) (hσ : σ[i]? = some (some (.ref a))) (hH : H a = some (.lst vs)) (nu : ¬ w.U a) (nb : ¬ box w a) (h0 : Nw H0 a)
    (r : RpL K H w vs' ds') : Rel K H0 w0 ω σ (upd H a (.lst vs')) w (ρ.set i (some (.lst ds'))) ∧ Mono H w (upd H a (.lst vs')) w := by
  have mo : Mono H w (upd H a (.lst vs')) w := Mono.updN hH nu
  have hil : i < ρ.length := by
    rw [List.getElem?_eq_some_iff] at hρ
    exact hρ.1
  refine ⟨⟨R.wo.updN hH nu nb, R.ex.updN h0, by rw [List.length_set]; exact R.len, fun j d h => ?_, fun j k es fs q1 q2 n h1 h2 => ?_⟩, mo⟩
  · by_cases hj : i = j
    · subst hj
      rw [List.getElem?_set_self hil] at h
      cases h
      exact ⟨.ref a, hσ, fun _ => ⟨a, vs', rfl, upd_same, r.mono mo, nu, nb, h0⟩, fun q => absurd hi q⟩
    · rw [List.getElem?_set_ne hj] at h
      obtain ⟨u, h1, h2, h3⟩ := R.get j d h
      refine ⟨u, h1, fun q => ?_, fun q => (h3 q).mono mo⟩
      have o2 := h2 q
      cases d with
      | lst es =>
        obtain ⟨b, us, rfl, g1, g2, g3⟩ := o2
        have nba : b ≠ a := fun e => by
          subst e
          exact R.ap j i es ds q hi (Ne.symm hj) h hρ (by rw [h1, hσ])
        refine ⟨b, us, rfl, ?_, g2.mono mo, g3⟩
        rw [upd_ne nba]
        exact g1
      | _ => exact Rp.mono mo o2
  · have fix : ∀ {l xs}, (ρ.set i (some (D.lst ds')))[l]? = some (some (D.lst xs)) → ∃ ys, ρ[l]? = some (some (D.lst ys)) := fun {l xs} h => by
      by_cases e : i = l
      · subst e; exact ⟨ds, hρ⟩
      · rw [List.getElem?_set_ne e] at h; exact ⟨xs, h⟩
    obtain ⟨_, h1'⟩ := fix h1
    obtain ⟨_, h2'⟩ := fix h2
    exact R.ap j k _ _ q1 q2 n h1' h2'
end

/-! ### readings of statements -/
def PostS (K : PySem.W.Frag) (H0 : Hp) (w0 : Wd) (own : Bool) (lp : List Nat) (r : Option (List Nat)) (H : Hp) (w : Wd) (D : Ends) : (Fl × Env) → S → Prop := fun x S' => match x.1 with
  | .nx => match r with
    | none => True
    | some ω' => ∀ σ' H' w', w'.S = S' → Mono H w H' w' → Rel K H0 w0 ω' σ' H' w' x.2 → D.nx σ' H'
  | .brk => ∀ σ' H' w', w'.S = S' → Mono H w H' w' → Rel K H0 w0 lp σ' H' w' x.2 → D.bk σ' H'
  | .cont => ∀ σ' H' w', w'.S = S' → Mono H w H' w' → Rel K H0 w0 lp σ' H' w' x.2 → D.ct σ' H'
  | .ret d => Post K H0 w0 (md own) D.rt d S'
def tS (K : PySem.W.Frag) (H0 : Hp) (w0 : Wd) (xk : Exn → S → Prop) (own : Bool) (lp : List Nat) (r : Option (List Nat)) (ω : List Nat) (f : Env → M (Fl × Env)) : TS := fun D σ H => ∃ w ρ, Rel K H0 w0 ω σ H w ρ ∧ (f ρ w.S).wp (PostS K H0 w0 own lp r H w D) xk
theorem PostS.back {K : PySem.W.Frag} {H0 : Hp} {w0 : Wd} {own : Bool} {lp : List Nat} {r : Option (List Nat)} {H H1 : Hp} {w w1 : Wd} {D : Ends} {x : Fl × Env} {s : S} (m : Mono H w H1 w1) (h : PostS K H0 w0 own lp r H w D x s) : PostS K H0 w0 own lp r H1 w1 D x s := by
  obtain ⟨f, ρ⟩ := x
  cases f with
  | nx =>
    cases r with
    | none => trivial
    | some ω' => exact fun σ' H' w' e m' R => h σ' H' w' e (m.trans m') R
  | brk => exact fun σ' H' w' e m' R => h σ' H' w' e (m.trans m') R
  | cont => exact fun σ' H' w' e m' R => h σ' H' w' e (m.trans m') R
  | ret d => exact h
theorem ps_weak {X : Cx} {st : Stmt} {t t' : TS} (h : PS X st t) (i : ∀ D σ H, t' D σ H → t D σ H) : PS X st t' := ⟨fun pins s σ H D I q => h.run pins s σ H D I (i D σ H q)⟩
theorem pss_weak {X : Cx} {st : List Stmt} {t t' : TS} (h : PSs X st t) (i : ∀ D σ H, t' D σ H → t D σ H) : PSs X st t' := ⟨fun pins s σ H D I q => h.run pins s σ H D I (i D σ H q)⟩
/-- around a body -/
structure XB (Z : Exs) (c : Ctx) (T : Tab) (k : Nat) (sc : Scope) (X : Cx) (H0 : Hp) (w0 : Wd) (xk : Exn → S → Prop) (EX : XK) : Prop extends XOk Z c T k sc X H0 w0 xk EX where
  own : PassesOwn (model X.prog X.w) X.A X.env X.xe
  fn : ∀ y, X.fn y = true
  kind : X.env.scope.kind = .function
  tk : Takes X fun cls d _ H => EX cls d H
section
variable {Z : Exs} {c : Ctx} {T : Tab} {N : List Str} {k : Nat} {sc : Scope} {X : Cx} {H0 : Hp} {w0 : Wd} {xk : Exn → S → Prop} {EX : XK}
theorem XB.loc (x : XB Z c T k sc X H0 w0 xk EX) (y : Str) (h : locB sc.names y = true) : L2.Loc X.env.scope y ∧ (X.fn y = true ∨ X.env.scope.names.lookup y = some .local) := by
  refine ⟨?_, .inl (x.fn y)⟩
  rw [x.scope]
  unfold locB at h
  unfold L2.Loc
  cases e : sc.names.lookup y with
  | none => rw [e] at h; cases h
  | some kd => rw [e] at h; cases kd <;> simp_all
theorem sw_plain {e : Expr} {t : Option Expr} {l : Nat} {env : PySem.Env} (h : notComp e = true) : swapsWith e t l env = pure false := by
  cases e <;> first | rfl | cases h
theorem sw_cell {elt : Expr} {gs : List Comprehension} {scope : Scope} {pos py : Pos} {y : Str} {l : Nat} {env : PySem.Env} (hy : env.scope.names.lookup y = some .cell) : swapsWith (.ListComp elt gs scope pos) (some (.Name y py)) l env = pure false := by
  have ky : env.kindOf y = some .cell := hy
  unfold swapsWith
  simp only [ky]
  have e : ((env.blockKind == ScopeKind.function) && (some NameKind.cell == some NameKind.local)) = false := by
    rw [show (some NameKind.cell == some NameKind.local) = false from rfl, Bool.and_false]
  rw [e]
  rfl
theorem sw_tup {e tg : Expr} {l : Nat} {env : PySem.Env} (h : notComp e = true) : swapsWithSole [tg] e l env = pure false := sw_plain h
theorem stores_none {es : List Expr} {j : Nat} {p : Pos} {e : Expr} {env : PySem.Env} (h : tupConst e = true) : swappedStores [.Tuple es j p] e env = pure none := by
  cases e with
  | Tuple vs j2 p2 =>
    have h' : vs.all (foldedForSure 8) = true := h
    unfold swappedStores
    simp only [h']
    repeat' split
    all_goals first
      | rfl
      | (rename_i q _; exact absurd trivial q)
      | (rename_i q; exact absurd trivial q)
      | (exfalso; simp_all)
  | _ => rfl
theorem nst {a : Expr} (h : notStar a = true) : (fun e : Expr => match e with | .Starred .. => true | _ => false) a = false := by cases a <;> first | rfl | cases h
theorem sw_par {x y : Str} {px py pt pt2 : Pos} {kt k2 : Nat} {a b : Expr} {env : PySem.Env} (hk : env.scope.kind = .function) (h : parB env.scope x y px py a b = true) : swappedStores [.Tuple [.Name x px, .Name y py] kt pt] (.Tuple [a, b] k2 pt2) env = pure (some [x, y]) := by
  unfold parB at h
  simp only [Bool.and_eq_true, decide_eq_true_eq, Bool.not_eq_true'] at h
  obtain ⟨⟨⟨⟨⟨⟨⟨h1, h2⟩, h3⟩, h4⟩, h5⟩, h6⟩, h7⟩, h8⟩ := h
  have kx : env.kindOf x = some .local := h1
  have ky : env.kindOf y = some .local := h2
  have hb : env.blockKind = .function := by unfold Env.blockKind; rw [hk]; rfl
  have hs : ([a, b].any fun | .Starred .. => true | _ => false) = false := by
    exact Bool.or_eq_false_iff.mpr ⟨nst h5, Bool.or_eq_false_iff.mpr ⟨nst h6, rfl⟩⟩
  have f1 : [a, b].all (foldedForSure 8) = false := by simpa using h7
  have f2 : [a, b].all (constantsAlone 8) = false := by simpa using h8
  have hn : [Expr.Name x px, Expr.Name y py].filterMap (fun
    | .Name id pos => if env.kindOf id == some .local && pos.line == px.line then some id else none
    | _ => none) = [x, y] := by
    simp [kx, ky, h3]
  have hd : [x, y].eraseDups = [x, y] := by
    have e : (y == x) = false := by simpa using Ne.symm h4
    simp [List.eraseDups, List.eraseDupsBy, List.eraseDupsBy.loop, e]
  have q5 : ([a, b].any fun | .Starred .. => true | _ => false) = false := hs
  unfold swappedStores
  simp only [List.length_cons, List.length_nil, hb, f1, f2, List.head?_cons, Option.map_some, Option.getD_some]
  generalize hg : List.filterMap _ [Expr.Name x px, Expr.Name y py] = g
  obtain rfl : g = [x, y] := hg.symm.trans hn
  generalize hg2 : ([a, b].any _) = g2
  obtain rfl : g2 = false := hg2.symm.trans q5
  rw [hd]
  rfl
theorem sw_parC {x y : Str} {px py pt pt2 : Pos} {kt k2 : Nat} {a b : Expr} {env : PySem.Env} (hk : env.scope.kind = .function) (h : parC env.scope x y a b = true) : swappedStores [.Tuple [.Name x px, .Name y py] kt pt] (.Tuple [a, b] k2 pt2) env = pure none := by
  unfold parC at h
  simp only [Bool.and_eq_true, Bool.or_eq_true, decide_eq_true_eq] at h
  obtain ⟨⟨⟨⟨h1, h2⟩, h3⟩, h5⟩, h6⟩ := h
  have hb : env.blockKind = .function := by unfold Env.blockKind; rw [hk]; rfl
  have q5 : ([a, b].any fun | .Starred .. => true | _ => false) = false := Bool.or_eq_false_iff.mpr ⟨nst h5, Bool.or_eq_false_iff.mpr ⟨nst h6, rfl⟩⟩
  have kinds : (env.kindOf x = some .cell ∨ env.kindOf x = some .local ∧ env.kindOf y = some .cell) := by
    rcases h3 with q | q
    · exact .inl q
    · unfold locB at h1
      cases e : env.scope.names.lookup x with
      | none => rw [e] at h1; cases h1
      | some kd => rw [e] at h1; cases kd <;> first | exact .inl e | exact .inr ⟨e, q⟩ | cases h1
  have e1 : (some NameKind.cell == some NameKind.local) = false := rfl
  have e2 : (some NameKind.local == some NameKind.local) = true := rfl
  unfold swappedStores
  simp only [List.length_cons, List.length_nil, hb, List.head?_cons, Option.map_some, Option.getD_some]
  rcases kinds with kx | ⟨kx, ky⟩
  · by_cases hl : (env.kindOf y == some .local && py.line == (Expr.Name x px).pos.line) = true
    · simp only [List.filterMap_cons, List.filterMap_nil, kx, e1, Bool.false_and, hl]
      generalize hg2 : ([a, b].any _) = g2
      obtain rfl : g2 = false := hg2.symm.trans q5
      rfl
    · have hl' := Bool.eq_false_iff.mpr hl
      simp only [List.filterMap_cons, List.filterMap_nil, kx, e1, Bool.false_and, hl']
      generalize hg2 : ([a, b].any _) = g2
      obtain rfl : g2 = false := hg2.symm.trans q5
      rfl
  · have e3 : (px.line == (Expr.Name x px).pos.line) = true := beq_self_eq_true px.line
    simp only [List.filterMap_cons, List.filterMap_nil, kx, ky, e1, e2, e3, Bool.false_and, Bool.true_and]
    generalize hg2 : ([a, b].any _) = g2
    obtain rfl : g2 = false := hg2.symm.trans q5
    rfl
end
section
variable {X : Cx} {pos : Pos}
/-- a, b = x, y where one of the names is read from within: stored from the left; the pair itself is not tracked -/
theorem ps_parC {i j : Nat} {x y : Str} {a b : Expr} {ta : TA} {px py pt : Pos} {kt k2 pt2} (hc : X.calm = true) (hN : X.N.Nodup) (hi : X.N[i]? = some x) (hj : X.N[j]? = some y)
    (hx : L2.Loc X.env.scope x ∧ (X.fn x = true ∨ X.env.scope.names.lookup x = some .local)) (hy : L2.Loc X.env.scope y ∧ (X.fn y = true ∨ X.env.scope.names.lookup y = some .local)) (ha : PA X [a, b] ta)
    (hw : swappedStores [.Tuple [.Name x px, .Name y py] kt pt] (.Tuple [a, b] k2 pt2) X.env = pure none)
    (hs : swapsWithSole [.Tuple [.Name x px, .Name y py] kt pt] (.Tuple [a, b] k2 pt2) pos.line X.env = pure false := by rfl) :
    PS X (.Assign [.Tuple [.Name x px, .Name y py] kt pt] (.Tuple [a, b] k2 pt2) pos) (tPar i j ta) := by
  refine ⟨fun pins s σ H D I h => ?_⟩
  refine wpAny_Assign_stores (Tuple_ (thn (ha.run _ pins s σ H _ I h) fun us s1 ⟨vs, H1, I1, r1, q1⟩ => ?_)) hs hw
  obtain ⟨v, w, e1, q1⟩ := q1
  subst e1
  obtain ⟨u1, u2, rfl, rv, rw'⟩ : ∃ u1 u2, us = [u1, u2] ∧ RelV v u1 ∧ RelV w u2 := by
    cases r1 with
    | cons p q =>
      cases q with
      | cons p' q' =>
        cases q'
        exact ⟨_, _, rfl, p, p'⟩
  refine wpAny_newObj_type ?_ (by show 2 ≤ sizeLine; decide)
  have I2 : Inv X pins σ H1 { s1 with heap := s1.heap.push { cls := .type "tuple", data := .seq [u1, u2].toArray } } := I1.kept (t' := s1.toks) fun b o e => Heap.get?_push_of_some _ e
  show wpAny _ _ (assign (.Tuple [.Name x px, .Name y py] kt pt) X.env (.ref s1.heap.objs.size)) _ _ _
  refine (assign_Tuple_tuple (items := #[u1, u2]) (I1.ok.hd hc) (IsTup.new s1.heap _) rfl rfl fun h' hx' => ?_)
  have I3 := I2.kept (h' := h') (t' := s1.toks) fun b o e => hx' b o (Nat.ne_of_lt (Heap.lt_size e)) e
  exact (pgs_cons (pg_name hN hi hx.1 hx.2) (pgs_cons (pg_name hN hj hy.1 hy.2) pgs_nil)).run pins _ σ H1 [v, w] [u1, u2] D.nx I3 (.cons rv (.cons rw' .nil)) ⟨v, [w], rfl, w, [], rfl, rfl, q1⟩
end
end DE

/-! DEflow: the rules of statements, with our readings. -/
namespace DE
open PySem PySem.Spec PyProof.Rows L2 PySem.Calls

def isComp : E → Bool
  | .comp .. => true
  | .comp2 .. => true
  | _ => false
theorem notComp_of {T : Tab} {N : List Str} {sc : Scope} {e : E} {e' : Expr} (h : mE T N sc e e' = true) (hc : isComp e = false) : notComp e' = true := by
  cases e' <;> first
    | rfl
    | (cases e <;> first | (simp [isComp] at hc; done) | (simp [mE] at h; done) | (simp [mE, has, dKey, dSub, dSt, dLam, dGet, dSd, dRev] at h; done))
section
variable {Z : Exs} {c : Ctx} {T : Tab} {N : List Str} {k : Nat} {sc : Scope} {X : Cx} {H0 : Hp} {w0 : Wd} {xk : Exn → S → Prop} {EX : XK} {ω : List Nat}
/-- name = e -/
theorem ps_name (x : XB Z c T k sc X H0 w0 xk EX) (hN : X.N = N) {i : Nat} {y : Str} {py pos : Pos} {e : E} {e' : Expr} (hi : N[i]? = some y) (hl : locB sc.names y = true) (hs : swB sc y py e' = true) (h : mE T N sc e e' = true) (ho : okE ω e = true) :
    PS X (.Assign [.Name y py] e' pos) (tAsg (tD X.K H0 w0 xk ω (md (fresh T e)) fun ρ => evE c ρ e) (gName i)) := by
  have plain : swapsWith e' (some (.Name y py)) pos.line X.env = pure false → PS X (.Assign [.Name y py] e' pos) (tAsg (tD X.K H0 w0 xk ω (md (fresh T e)) fun ρ => evE c ρ e) (gName i)) := fun q =>
    ps_set x.nd (by rw [hN]; exact hi) (x.loc y hl).1 ((snd_E e ω x.toXOk hN h).val ho) q (x.loc y hl).2
  by_cases hc : isComp e = true
  · have hr := ok_rd _ ho
    cases e with
    | comp t src cnd elt =>
      obtain ⟨elt', tg, iter, ifs, scope, p, rfl, h1, h2, h3, h4, h5⟩ := inv_comp h
      by_cases hcell : sc.names.lookup y = some .cell
      · exact plain (sw_cell (by rw [x.scope]; exact hcell))
      · simp only [swB, hcell, decide_false, Bool.or_false, Bool.and_eq_true, decide_eq_true_eq, Bool.not_eq_true'] at hs
        have hyl : X.env.scope.names.lookup y = some .local := by rw [x.scope]; exact hs.1.1
        simp only [rdE, Bool.and_eq_true] at hr
        have bk := fun s H C cl fp => blkX x.toXOk s H scope C cl fp
        have q := ps_setLc (spos := pos) (pos := p) (g := gT X.K t) (tt := tT X.K H0 w0 NoX (minus ω t.slots) fun ρ => evC c ρ cnd) (te := tD X.K H0 w0 NoX (minus ω t.slots) .sh fun ρ => evE c ρ elt) x.calm x.nd (by rw [hN]; exact hi) hyl
          (sw_true x.kind hyl hs.1.2 hs.2) ((snd_I src ω x.toXOk hN tg h3).1 hr.1.1) (blkOk_by (by rw [hN, x.scope]; exact h1))
          (fun s H C cl fp => mTg_pg (X := X.blk s H scope (compEnvC scope cl C X.env) fp) (blkN hN) x.nd x.calm (fun y hy => loc_blk y hy) h2)
          (fun s H C cl fp => snd_C cnd (minus ω t.slots) (bk s H C cl fp) (blkN hN) h4 hr.1.2)
          (fun s H C cl fp => (snd_E elt (minus ω t.slots) (bk s H C cl fp) (blkN hN) h5).sh hr.2) (fun v => folded h3 X.env v)
        rw [own_snd] at q
        exact ps_weak q fun D σ H hy => rd_comp (Q := fun x H1 => gName i x σ H1 D.nx) (fun i hi => hi) (by
          have hy' : tD X.K H0 w0 xk ω (md (fresh T (.comp t src cnd elt))) (fun ρ => evE c ρ (.comp t src cnd elt)) σ H (fun x H1 => gName i x σ H1 D.nx) := hy
          simp only [evE] at hy'
          exact hy')
    | comp2 t src cnd t2 src2 cnd2 elt =>
      obtain ⟨elt', tg, iter, ifs, tg2, iter2, ifs2, scope, p, rfl, h1, h2, h3, h4, h5, h6, h7, h8⟩ := inv_comp2 h
      by_cases hcell : sc.names.lookup y = some .cell
      · exact plain (sw_cell (by rw [x.scope]; exact hcell))
      · simp only [swB, hcell, decide_false, Bool.or_false, Bool.and_eq_true, decide_eq_true_eq, Bool.not_eq_true'] at hs
        have hyl : X.env.scope.names.lookup y = some .local := by rw [x.scope]; exact hs.1.1
        simp only [rdE, Bool.and_eq_true] at hr
        have bk := fun s H C cl fp => blkX x.toXOk s H scope C cl fp
        have q := ps_setLc2 (spos := pos) (pos := p) (vs1 := t2.slots) (g := gT X.K t) (tt := tT X.K H0 w0 NoX (minus ω (t.slots ++ t2.slots)) fun ρ => evC c ρ cnd) (wi1 := tI X.K H0 w0 NoX (minus ω (t.slots ++ t2.slots)) true fun ρ => evIt c ρ src2) (g1 := gT X.K t2) (tt1 := tT X.K H0 w0 NoX (minus ω (t.slots ++ t2.slots)) fun ρ => evC c ρ cnd2) (te := tD X.K H0 w0 NoX (minus ω (t.slots ++ t2.slots)) .sh fun ρ => evE c ρ elt)
          x.calm x.nd (by rw [hN]; exact hi) hyl (sw_true x.kind hyl hs.1.2 hs.2) ((snd_I src ω x.toXOk hN tg h3).1 hr.1.1.1.1) (blkOk_by (by rw [hN, x.scope]; exact h1)) (fun i hi => by rw [own_snd]; exact List.mem_append_right _ hi)
          (fun s H C cl fp => mTg_pg (X := X.blk s H scope (compEnvC scope cl C X.env) fp) (blkN hN) x.nd x.calm (fun y hy => loc_blk y hy) h2)
          (fun s H C cl fp => snd_C cnd (minus ω (t.slots ++ t2.slots)) (bk s H C cl fp) (blkN hN) h4 hr.1.1.1.2)
          (fun s H C cl fp => (snd_I src2 (minus ω (t.slots ++ t2.slots)) (bk s H C cl fp) (blkN hN) tg2 h6).2 hr.1.1.2)
          (fun s H C cl fp => mTg_pg (X := X.blk s H scope (compEnvC scope cl C X.env) fp) (blkN hN) x.nd x.calm (fun y hy => loc_blk y hy) h5)
          (fun s H C cl fp => snd_C cnd2 (minus ω (t.slots ++ t2.slots)) (bk s H C cl fp) (blkN hN) h7 hr.1.2)
          (fun s H C cl fp => (snd_E elt (minus ω (t.slots ++ t2.slots)) (bk s H C cl fp) (blkN hN) h8).sh hr.2) (fun v => folded h3 X.env v) (fun env v => folded h6 env v)
        rw [own_snd] at q
        exact ps_weak q fun D σ H hy => rd_comp2 (Q := fun x H1 => gName i x σ H1 D.nx) (fun i hi => List.mem_append_left _ hi) (fun i hi => hi) (fun i hi => List.mem_append_right _ hi) (by
          have hy' : tD X.K H0 w0 xk ω (md (fresh T (.comp2 t src cnd t2 src2 cnd2 elt))) (fun ρ => evE c ρ (.comp2 t src cnd t2 src2 cnd2 elt)) σ H (fun x H1 => gName i x σ H1 D.nx) := hy
          simp only [evE] at hy'
          exact hy')
    | _ => simp [isComp] at hc
  · exact plain (sw_plain (notComp_of h (by simpa using hc)))
end

section
variable {K : PySem.W.Frag} {H0 : Hp} {w0 : Wd} {xk : Exn → S → Prop} {ω : List Nat} {own : Bool} {lp : List Nat} {Dn : Ends} {σ : L2.St} {H : Hp}
theorem Rel.setSh {w : Wd} {ρ : Env} {i : Nat} {v : V} {d : D} (R : Rel K H0 w0 ω σ H w ρ) (hv : Rp K H w v d) : Rel K H0 w0 (minus ω [i]) (σ.set i (some v)) H w (ρ.set i (some d)) :=
  (R.set hv).congr fun j => by
    rw [mem_minus, List.mem_filter]
    simp
/-- a value of either kind is stored -/
theorem Rel.setM {H1 : Hp} {w w1 : Wd} {ρ : Env} {i : Nat} {v : V} {d : D} {b : Bool} (R : Rel K H0 w0 ω σ H w ρ) (e : Ext H w H1 w1) (wo : WOk K H1 w1) (hv : Val K H H1 w1 (md b) v d) :
    Rel K H0 w0 (if b then i :: minus ω [i] else minus ω [i]) (σ.set i (some v)) H1 w1 (ρ.set i (some d)) := by
  have R1 := R.mono e wo
  cases b with
  | true => exact R1.setOwn (Own.back R.ex hv) fun j hj _ => R.apart hv j hj
  | false => exact R1.setSh hv
theorem rd_name {i : Nat} {f : Env → M D} {b : Bool} (hy : tS K H0 w0 xk own lp (some (if b then i :: minus ω [i] else minus ω [i])) ω (fun ρ => do let d ← f ρ; let ρ' ← (Tg.v i).set d ρ; return (.nx, ρ')) Dn σ H) : tAsg (tD K H0 w0 xk ω (md b) f) (gName i) Dn σ H := by
  obtain ⟨w, ρ, R, hy⟩ := hy
  rw [wp_bind] at hy
  exact tD_then R hy fun d w1 H1 v hy e1 R1 hv => hy _ H1 w1 rfl (e1.mono R.wo) (R.setM e1 R1.wo hv)
theorem rd_asgT {is : List Nat} {f : Env → M D} (hy : tS K H0 w0 xk own lp (some (minus ω is)) ω (fun ρ => do let d ← f ρ; let ρ' ← (Tg.tup is).set d ρ; return (.nx, ρ')) Dn σ H) : tAsg (tD K H0 w0 xk ω .sh f) (gT K (.tup is)) Dn σ H := by
  obtain ⟨w, ρ, R, hy⟩ := hy
  rw [wp_bind] at hy
  refine tD_then R hy fun d w1 H1 v hy e1 R1 hv => ?_
  rw [wp_bind] at hy
  obtain ⟨ρ', s', hset, hq⟩ := set_wp hy (nx_set _ _ _)
  obtain ⟨rfl, us, hus, R2, gq⟩ := gT_ok R1 hv hset
  exact gq _ (hq _ H1 w1 rfl (e1.mono R.wo) R2)
theorem rd_par {i j : Nat} {f g : Env → M D} {a b : Bool} (hij : i ≠ j) (hy : tS K H0 w0 xk own lp (some ((if b then [j] else []) ++ ((if a then [i] else []) ++ minus ω [i, j]))) ω (fun ρ => do let x ← f ρ; let y ← g ρ; return (.nx, (ρ.set i (some x)).set j (some y))) Dn σ H) :
    tPar i j (tCons (tD K H0 w0 xk ω (md a) f) (tCons (tD K H0 w0 xk ω (md b) g) tNil)) Dn σ H := by
  obtain ⟨w, ρ, R, hy⟩ := hy
  rw [wp_bind] at hy
  refine tD_then R hy fun x w1 H1 v hy e1 R1 hv => ?_
  rw [wp_bind] at hy
  refine tD_then R1 hy fun y w2 H2 u hy e2 R2 hu => ?_
  refine ⟨v, u, rfl, hy _ H2 w2 rfl ((e1.trans e2).mono R.wo) ?_⟩
  have Ra := R.setM (i := i) e1 R1.wo hv
  have Rb := Ra.setM (i := j) e2 R2.wo hu
  refine Rb.congr fun l => ?_
  cases a <;> cases b <;> simp [mem_minus] <;> grind
/-! ### lists that are written -/
theorem get_lst {β : Type} {ρ : Env} {i : Nat} {f : List D → M β} {s : S} {Q : β → S → Prop} (h : ((ρ.get i >>= fun x => lstOf x >>= f) s).wp Q xk) : ∃ ds, ρ[i]? = some (some (.lst ds)) ∧ (f ds s).wp Q xk := by
  rw [wp_bind] at h
  unfold Env.get at h
  cases e : ρ[i]? with
  | none => rw [e] at h; exact h.elim
  | some o =>
    cases o with
    | none => rw [e] at h; exact h.elim
    | some d =>
      rw [e] at h
      cases d with
      | lst ds => exact ⟨ds, rfl, h⟩
      | _ => exact h.elim
theorem Rel.lst {w : Wd} {ρ : Env} {i : Nat} {ds : List D} (R : Rel K H0 w0 ω σ H w ρ) (hi : i ∈ ω) (h : ρ[i]? = some (some (.lst ds))) : ∃ a vs, σ[i]? = some (some (.ref a)) ∧ H a = some (.lst vs) ∧ RpL K H w vs ds ∧ ¬ w.U a ∧ ¬ box w a ∧ Nw H0 a := by
  obtain ⟨v, h1, h2, _⟩ := R.get i _ h
  obtain ⟨a, vs, rfl, g⟩ := h2 hi
  exact ⟨a, vs, h1, g⟩
theorem app_wp {ρ : Env} {i : Nat} {d : D} {s : S} {Q : Env → S → Prop} (h : (appD ρ i d s).wp Q xk) : ∃ ds, ρ[i]? = some (some (.lst ds)) ∧ ds.length < LINE ∧ Q (ρ.set i (some (.lst (ds ++ [d])))) s := by
  obtain ⟨ds, h1, h2⟩ := get_lst h
  by_cases q : ds.length < LINE
  · rw [if_pos q] at h2; exact ⟨ds, h1, q, h2⟩
  · rw [if_neg q] at h2; exact h2.elim
theorem pop_wp {ρ : Env} {i : Nat} {k : D} {s : S} {Q : D × Env → S → Prop} (h : (popD ρ i k s).wp Q xk) : ∃ ds n j d, ρ[i]? = some (some (.lst ds)) ∧ k = .int n ∧ -(2 ^ 63) ≤ n ∧ n < 2 ^ 63 ∧ DE.ixN ds.length n = some j ∧ ds[j]? = some d ∧ Q (d, ρ.set i (some (.lst (ds.eraseIdx j)))) s := by
  obtain ⟨ds, h1, h2⟩ := get_lst h
  cases k with
  | int n =>
    have h3 : ((if -(2 ^ 63) ≤ n ∧ n < 2 ^ 63 then (match DE.ixN ds.length n with
      | some j => match ds[j]? with
        | some d => pure (d, ρ.set i (some (.lst (ds.eraseIdx j))))
        | none => stuck
      | none => stuck) else stuck : M (D × Env)) s).wp Q xk := h2
    by_cases q : -(2 ^ 63) ≤ n ∧ n < 2 ^ 63
    · rw [if_pos q] at h3
      cases e : DE.ixN ds.length n with
      | none => rw [e] at h3; exact h3.elim
      | some j =>
        rw [e] at h3
        cases e2 : ds[j]? with
        | none => simp only [e2] at h3; exact h3.elim
        | some d => simp only [e2] at h3; exact ⟨ds, n, j, d, h1, rfl, q.1, q.2, e, e2, h3⟩
    · rw [if_neg q] at h3; exact h3.elim
  | _ => exact h2.elim
theorem rd_app {i : Nat} {f : Env → M D} (hi : i ∈ ω) (hy : tS K H0 w0 xk own lp (some ω) ω (fun ρ => do let _ ← lstOf (← ρ.get i); let d ← f ρ; return (.nx, ← appD ρ i d)) Dn σ H) :
    tDrop (tBM K "list" rAppend (tVar i) (tCons (tD K H0 w0 xk ω .sh f) tNil)) Dn σ H := by
  obtain ⟨w, ρ, R, hy⟩ := hy
  obtain ⟨ds, hρ, hy⟩ := get_lst hy
  obtain ⟨a, vs, hσ, hH, r, nu, nb, h0⟩ := R.lst hi hρ
  refine ⟨.ref a, hσ, .inl ⟨rfl, vs, SqL.of hH⟩, ?_⟩
  rw [wp_bind] at hy
  refine tD_then R hy fun d w1 H1 v hy e1 R1 hv => ?_
  rw [wp_bind] at hy
  obtain ⟨es, hρ', hl, hq⟩ := app_wp hy
  rw [hρ] at hρ'
  cases hρ'
  have hH1 := e1.keep _ _ hH lstT nb
  have r1 := r.ext R.wo e1
  obtain ⟨R2, mo⟩ := R1.write hi hρ hσ hH1 (e1.nU hH nu) (e1.nB hH nb) h0 (r1.append (.cons hv .nil))
  exact ⟨a, vs, v, rfl, rfl, hH1, by rw [r.length, ← line_eq]; exact hl, hq _ _ w1 rfl ((e1.mono R.wo).trans mo) R2⟩
theorem rd_popA {i j : Nat} {f : Env → M D} (hi : i ∈ ω) (hij : i ≠ j) (hy : tS K H0 w0 xk own lp (some (minus ω [j])) ω (fun ρ => do let _ ← lstOf (← ρ.get i); let k ← f ρ; let r ← popD ρ i k; return (.nx, r.2.set j (some r.1))) Dn σ H) :
    tAsg (tBM K "list" rPopAt (tVar i) (tCons (tD K H0 w0 xk ω .look f) tNil)) (gName j) Dn σ H := by
  obtain ⟨w, ρ, R, hy⟩ := hy
  obtain ⟨ds, hρ, hy⟩ := get_lst hy
  obtain ⟨a, vs, hσ, hH, r, nu, nb, h0⟩ := R.lst hi hρ
  refine ⟨.ref a, hσ, .inl ⟨rfl, vs, SqL.of hH⟩, ?_⟩
  rw [wp_bind] at hy
  refine tD_then R hy fun d w1 H1 v hy e1 R1 hv => ?_
  rw [wp_bind] at hy
  obtain ⟨es, n, l, y, hρ', rfl, b1, b2, hx, hg, hq⟩ := pop_wp hy
  rw [hρ] at hρ'
  cases hρ'
  obtain rfl := Look.int hv
  have hH1 := e1.keep _ _ hH lstT nb
  have r1 := r.ext R.wo e1
  obtain ⟨R2, mo⟩ := R1.write hi hρ hσ hH1 (e1.nU hH nu) (e1.nB hH nb) h0 (r1.erase l)
  obtain ⟨u, hu, ru⟩ := r1.get hg
  refine ⟨a, vs, n, l, u, rfl, rfl, hH1, b1, b2, ?_, hu, ?_⟩
  · rw [r.length]
    exact (L2.ixN_seq hx).1
  · exact hq _ _ w1 rfl ((e1.mono R.wo).trans mo) (R2.setSh (ru.mono mo))
theorem erase_last {α : Type} (xs : List α) : xs.eraseIdx (xs.length - 1) = xs.dropLast := by
  induction xs with
  | nil => rfl
  | cons x r ih =>
    cases r with
    | nil => rfl
    | cons y r =>
      show x :: (y :: r).eraseIdx ((y :: r).length - 1) = x :: (y :: r).dropLast
      rw [ih]
theorem rd_popL {i : Nat} {t : Tg} (hi : i ∈ ω) (hij : i ∉ t.slots) (hy : tS K H0 w0 xk own lp (some (minus ω t.slots)) ω (fun ρ => do let r ← popD ρ i (.int (-1)); let ρ' ← t.set r.1 r.2; return (.nx, ρ')) Dn σ H) :
    tAsg (tBM0 K "list" rPop (tVar i)) (gT K t) Dn σ H := by
  obtain ⟨w, ρ, R, hy⟩ := hy
  rw [wp_bind] at hy
  obtain ⟨ds, n, l, y, hρ, hn, b1, b2, hx, hg, hq⟩ := pop_wp hy
  cases hn
  obtain ⟨a, vs, hσ, hH, r, nu, nb, h0⟩ := R.lst hi hρ
  have hl : l = ds.length - 1 := by
    unfold DE.ixN at hx
    rw [if_neg (by omega)] at hx
    split at hx
    · cases hx; omega
    · cases hx
  subst hl
  obtain ⟨R2, mo⟩ := R.write hi hρ hσ hH nu nb h0 (r.erase (ds.length - 1))
  obtain ⟨u, hu, ru⟩ := r.get hg
  rw [wp_bind] at hq
  obtain ⟨ρ', s', hset, hq⟩ := set_wp hq (nx_set _ _ _)
  obtain ⟨rfl, us, hus, R3, gq⟩ := gT_ok R2 (ru.mono mo) hset
  refine ⟨.ref a, hσ, .inl ⟨rfl, vs, SqL.of hH⟩, a, vs, u, rfl, rfl, hH, by rw [r.length]; exact hu, ?_⟩
  rw [← r.length, erase_last] at gq R3 mo
  exact gq _ (hq _ _ w rfl mo R3)
theorem rd_popApp {i j : Nat} {f : Env → M D} (hi : i ∈ ω) (hj : j ∈ ω) (hij : i ≠ j) (hy : tS K H0 w0 xk own lp (some ω) ω (fun ρ => do let _ ← lstOf (← ρ.get j); let _ ← lstOf (← ρ.get i); let k ← f ρ; let r ← popD ρ i k; return (.nx, ← appD r.2 j r.1)) Dn σ H) :
    tDrop (tBM K "list" rAppend (tVar j) (tCons (tBM K "list" rPopAt (tVar i) (tCons (tD K H0 w0 xk ω .look f) tNil)) tNil)) Dn σ H := by
  obtain ⟨w, ρ, R, hy⟩ := hy
  obtain ⟨dj, hρj, hy⟩ := get_lst hy
  obtain ⟨ds, hρ, hy⟩ := get_lst hy
  obtain ⟨a, vs, hσ, hH, r, nu, nb, h0⟩ := R.lst hi hρ
  obtain ⟨b, us, hσj, hHj, rj, nuj, nbj, h0j⟩ := R.lst hj hρj
  have hab : a ≠ b := by
    rintro rfl
    exact R.ap i j _ _ hi hj hij hρ hρj (by rw [hσ, hσj])
  refine ⟨.ref b, hσj, .inl ⟨rfl, us, SqL.of hHj⟩, .ref a, hσ, .inl ⟨rfl, vs, SqL.of hH⟩, ?_⟩
  rw [wp_bind] at hy
  refine tD_then R hy fun d w1 H1 v hy e1 R1 hv => ?_
  rw [wp_bind] at hy
  obtain ⟨es, n, l, y, hρ', rfl, b1, b2, hx, hg, hq⟩ := pop_wp hy
  rw [hρ] at hρ'
  cases hρ'
  obtain rfl := Look.int hv
  have hH1 := e1.keep _ _ hH lstT nb
  have hHj1 := e1.keep _ _ hHj lstT nbj
  have r1 := r.ext R.wo e1
  obtain ⟨R2, mo⟩ := R1.write hi hρ hσ hH1 (e1.nU hH nu) (e1.nB hH nb) h0 (r1.erase l)
  obtain ⟨u, hu, ru⟩ := r1.get hg
  refine ⟨a, vs, n, l, u, rfl, rfl, hH1, b1, b2, by rw [r.length]; exact (L2.ixN_seq hx).1, hu, ?_⟩
  rw [wp_bind] at hq
  obtain ⟨fs, hρ2, hl, hq⟩ := app_wp hq
  have hρj2 : (ρ.set i (some (.lst (ds.eraseIdx l))))[j]? = some (some (.lst dj)) := by rw [List.getElem?_set_ne hij]; exact hρj
  rw [hρj2] at hρ2
  cases hρ2
  have hHj2 : (upd H1 a (.lst (vs.eraseIdx l))) b = some (.lst us) := by rw [upd_ne (Ne.symm hab)]; exact hHj1
  obtain ⟨R3, mo2⟩ := R2.write hj hρj2 hσj hHj2 (e1.nU hHj nuj) (e1.nB hHj nbj) h0j (((rj.ext R.wo e1).mono mo).append (.cons (ru.mono mo) .nil))
  exact ⟨b, us, u, rfl, rfl, hHj2, by rw [rj.length, ← line_eq]; exact hl, hq _ _ w1 rfl (((e1.mono R.wo).trans mo).trans mo2) R3⟩
end
section
variable {X : Cx}
theorem pe_append {i : Nat} {y : Str} {p ap cp : Pos} {e : Expr} {te : TE} (ho : PE X (.Name y p) (tVar i)) (ha : PE X e te) (hs : notStar e = true) (hl : (ap.endLine == cp.line) = true) :
    PE X (.Call (.Attribute (.Name y p) "append" ap) [e] [] cp) (tBM X.K "list" rAppend (tVar i) (tCons te tNil)) :=
  pe_bm F.plainAttrs_list F.slot_list_append F.type_list_append mt_append ho (pa_cons ha pa_nil (star_cons hs)) rfl (by rw [star_cons hs]; rfl) hl (star_cons hs) rfl
theorem pe_popAt {i : Nat} {y : Str} {p ap cp : Pos} {e : Expr} {te : TE} (ho : PE X (.Name y p) (tVar i)) (ha : PE X e te) (hs : notStar e = true) (hl : (ap.endLine == cp.line) = true) :
    PE X (.Call (.Attribute (.Name y p) "pop" ap) [e] [] cp) (tBM X.K "list" rPopAt (tVar i) (tCons te tNil)) :=
  pe_bm F.plainAttrs_list F.slot_list_pop F.type_list_pop mt_popAt ho (pa_cons ha pa_nil (star_cons hs)) rfl (by rw [star_cons hs]; rfl) hl (star_cons hs) rfl
theorem pe_pop0 {i : Nat} {y : Str} {p ap cp : Pos} (ho : PE X (.Name y p) (tVar i)) (hl : (ap.endLine == cp.line) = true) :
    PE X (.Call (.Attribute (.Name y p) "pop" ap) [] [] cp) (tBM0 X.K "list" rPop (tVar i)) :=
  pe_bm0 F.plainAttrs_list F.slot_list_pop F.type_list_pop mt_pop ho rfl hl
end
end DE

/-! DEall: statements: a text that a term stands for does what the term means. -/
namespace DE
open PySem PySem.Spec PyProof.Rows L2 PySem.Calls

section
variable {K : PySem.W.Frag} {H0 : Hp} {w0 : Wd} {xk : Exn → S → Prop} {ω : List Nat} {own : Bool} {lp : List Nat} {Dn : Ends} {σ : L2.St} {H : Hp}
/-- r1 is owned where one comes from, r behind -/
def Join (r1 r : Option (List Nat)) : Prop := r1 = none ∨ ∃ x z, r1 = some x ∧ r = some z ∧ ∀ i ∈ z, i ∈ x
theorem PostS.join {r1 r : Option (List Nat)} {w : Wd} {x : Fl × Env} {s : S} (j : Join r1 r) (h : PostS K H0 w0 own lp r H w Dn x s) : PostS K H0 w0 own lp r1 H w Dn x s := by
  obtain ⟨f, ρ⟩ := x
  cases f with
  | nx =>
    rcases j with rfl | ⟨x, z, rfl, rfl, hz⟩
    · trivial
    · intro σ' H' w' e m R
      obtain ⟨w2, e2, m2, R2⟩ := R.sub hz
      exact h σ' H' w2 (e2.trans e) (m.trans m2) R2
  | brk => exact h
  | cont => exact h
  | ret d => exact h
theorem rd_ifS {t : Env → M Bool} {f g : Env → M (Fl × Env)} {ra rb r : Option (List Nat)} (ja : Join ra r) (jb : Join rb r) (hy : tS K H0 w0 xk own lp r ω (fun ρ => do if ← t ρ then f ρ else g ρ) Dn σ H) :
    tIfS (tT K H0 w0 xk ω t) (tS K H0 w0 xk own lp ra ω f) (tS K H0 w0 xk own lp rb ω g) Dn σ H := by
  obtain ⟨w, ρ, R, hy⟩ := hy
  rw [wp_bind] at hy
  refine tT_then R hy fun b w1 H1 q e1 R1 => ?_
  cases b with
  | true => exact ⟨w1, ρ, R1, wpq q fun x s q => (q.join ja).back (e1.mono R.wo)⟩
  | false => exact ⟨w1, ρ, R1, wpq q fun x s q => (q.join jb).back (e1.mono R.wo)⟩
theorem rd_seqS {f : Env → M (Fl × Env)} {g : Env → M (Fl × Env)} {ω' : List Nat} {r : Option (List Nat)} (hy : tS K H0 w0 xk own lp r ω (fun ρ => do
    let x ← f ρ
    match x.1 with
    | .nx => g x.2
    | _ => return x) Dn σ H) : tSeq (tS K H0 w0 xk own lp (some ω') ω f) (tS K H0 w0 xk own lp r ω' g) Dn σ H := by
  obtain ⟨w, ρ, R, hy⟩ := hy
  rw [wp_bind] at hy
  refine ⟨w, ρ, R, wpq hy fun x s q => ?_⟩
  obtain ⟨fl, ρ'⟩ := x
  cases fl with
  | nx => exact fun σ' H' w' e m R' => ⟨w', ρ', R', by rw [e]; exact wpq q fun y s q => q.back m⟩
  | brk => exact q
  | cont => exact q
  | ret d => exact q
theorem rd_lastS {f : Env → M (Fl × Env)} (hy : tS K H0 w0 xk own lp none ω (fun ρ => do
    let x ← f ρ
    match x.1 with
    | .nx => pure (.nx, x.2)
    | _ => return x) Dn σ H) : tS K H0 w0 xk own lp none ω f Dn σ H := by
  obtain ⟨w, ρ, R, hy⟩ := hy
  rw [wp_bind] at hy
  refine ⟨w, ρ, R, wpq hy fun x s q => ?_⟩
  obtain ⟨fl, ρ'⟩ := x
  cases fl with
  | nx => trivial
  | brk => exact q
  | cont => exact q
  | ret d => exact q
theorem rd_fz {f : Env → M (Fl × Env)} {is : List Nat} {r : Option (List Nat)} (hy : tS K H0 w0 xk own lp r ω f Dn σ H) : tS K H0 w0 xk own lp r (minus ω is) f Dn σ H := by
  obtain ⟨w, ρ, R, hy⟩ := hy
  obtain ⟨w', e, m, R'⟩ := R.fz is
  exact ⟨w', ρ, R', by rw [e]; exact wpq hy fun x s q => q.back m⟩
theorem rd_ret {f : Env → M D} {m : Md} (hb : m = md own ∨ (own = false ∧ m = .sh)) (hy : tS K H0 w0 xk own lp none ω (fun ρ => do let d ← f ρ; return (.ret d, ρ)) Dn σ H) : tRet (tD K H0 w0 xk ω m f) Dn σ H := by
  obtain ⟨w, ρ, R, hy⟩ := hy
  rw [wp_bind] at hy
  have hm' : m = md own := by
    rcases hb with h | ⟨rfl, h⟩
    · exact h
    · rw [h]; rfl
  refine tD_then R hy fun d w1 H1 v hy e1 R1 hv => hy v H1 w1 rfl R1.ex R1.wo ?_
  subst hm'
  cases own with
  | true => exact Own.back R.ex hv
  | false => exact hv
theorem rd_retOwn {i : Nat} (hi : i ∈ ω) (hy : tS K H0 w0 xk true lp none ω (fun ρ => do let d ← ρ.get i; return (.ret d, ρ)) Dn σ H) : tRet (tVar i) Dn σ H := by
  obtain ⟨w, ρ, R, hy⟩ := hy
  rw [wp_bind] at hy
  unfold Env.get at hy
  cases e : ρ[i]? with
  | none => rw [e] at hy; exact hy.elim
  | some o =>
    cases o with
    | none => rw [e] at hy; exact hy.elim
    | some d =>
      rw [e] at hy
      obtain ⟨v, h1, h2, _⟩ := R.get i d e
      exact ⟨v, h1, hy v H w rfl R.ex R.wo (h2 hi)⟩
theorem rd_exprS {f : Env → M D} (hy : tS K H0 w0 xk own lp (some ω) ω (fun ρ => do let _ ← f ρ; return (.nx, ρ)) Dn σ H) : tDrop (tD K H0 w0 xk ω .look f) Dn σ H := by
  obtain ⟨w, ρ, R, hy⟩ := hy
  rw [wp_bind] at hy
  exact tD_then R hy fun d w1 H1 v hy e1 R1 hv => hy _ H1 w1 rfl (e1.mono R.wo) R1
theorem rd_for {h : List Nat} {t : Tg} {src : Env → M (List D)} {body : Env → M (Fl × Env)} {rb : Option (List Nat)} (hs : h.all ω.contains = true) (hb : Join rb (some h))
    (hy : tS K H0 w0 xk own lp (some h) ω (fun ρ => do let xs ← src ρ; forL (fun d ρ => do let ρ' ← t.set d ρ; body ρ') xs ρ) Dn σ H) : tFor (tI K H0 w0 xk ω true src) (gT K t) (tS K H0 w0 xk own h rb (minus h t.slots) body) Dn σ H := by
  obtain ⟨w, ρ, R, hy⟩ := hy
  rw [wp_bind] at hy
  refine ⟨w, ρ, R, wpq hy fun xs s q J H1 w1 es ex wo1 jis => ?_⟩
  subst es
  have R1 := R.mono ex wo1
  have mex := ex.mono R.wo
  obtain ⟨w2, e2, m2, R2⟩ := R1.sub (all_mem' hs)
  let F : D → Env → M (Fl × Env) := fun d ρ => t.set d ρ >>= body
  let W : Nat → Nat → L2.St → Hp → Prop := fun i m σ' H' => m = xs.length - i ∧ i ≤ xs.length ∧ ∃ w' ρ', Rel K H0 w0 h σ' H' w' ρ' ∧ Mono H1 w1 H' w' ∧ (forL F (xs.drop i) ρ' w'.S).wp (PostS K H0 w0 own lp (some h) H w Dn) xk
  refine ⟨W, ⟨xs.length, by simp, Nat.zero_le _, w2, ρ, R2, m2, by rw [e2]; exact q⟩, ?_⟩
  rintro i m σ3 H3 ⟨rfl, hi, w3, ρ3, R3, m3, f⟩
  obtain ⟨jg, js⟩ := jis H3 w3 m3 (fun z => nomatch z) R3.wo
  by_cases hlt : i < xs.length
  · obtain ⟨go, yld⟩ := jg i xs[i] (by simp [hlt])
    refine .inr ⟨go, fun σ' H' => W (i + 1) (xs.length - (i + 1)) σ' H', fun σ' H' a => ⟨_, by omega, a⟩, fun x H4 y => ?_⟩
    obtain ⟨w4, s4, e4, wo4, rx⟩ := yld x H4 y
    have R4 := R3.mono e4 wo4
    have m34 := e4.mono R3.wo
    rw [List.drop_eq_getElem_cons hlt] at f
    have f1 : ((t.set xs[i] ρ3 >>= body) >>= fun r => (match r.1 with
      | .nx => forL F (xs.drop (i + 1)) r.2
      | .cont => forL F (xs.drop (i + 1)) r.2
      | .brk => pure (Fl.nx, r.2)
      | .ret d => pure (Fl.ret d, r.2) : M (Fl × Env))) w3.S |>.wp (PostS K H0 w0 own lp (some h) H w Dn) xk := f
    rw [wp_bind, wp_bind] at f1
    obtain ⟨ρ', s', hset, f3⟩ := set_wp f1 (nx_set _ _ _)
    rw [← s4] at hset
    obtain ⟨rfl, us, hus, R5, gq⟩ := gT_ok R4 rx hset
    refine gq _ ⟨w4, ρ', R5, wpq f3 fun r s6 f6 => ?_⟩
    obtain ⟨fl, ρ6⟩ := r
    cases fl with
    | nx =>
      rcases hb with rfl | ⟨y, z, rfl, hz, hyz⟩
      · trivial
      · cases hz
        intro σ' H' w' es mo Rb
        obtain ⟨w7, e7, m7, Rh⟩ := Rb.sub hyz
        exact ⟨rfl, hlt, w7, ρ6, Rh, (m3.trans m34).trans (mo.trans m7), by rw [e7, es]; exact f6⟩
    | cont => exact fun σ' H' w' es mo Rb => ⟨rfl, hlt, w', ρ6, Rb, (m3.trans m34).trans mo, by rw [es]; exact f6⟩
    | brk => exact fun σ' H' w' es mo Rb => f6 σ' H' w' es (mex.trans ((m3.trans m34).trans mo)) Rb
    | ret d => exact f6
  · have e : i = xs.length := by omega
    subst e
    rw [List.drop_length] at f
    exact .inl ⟨js _ (Nat.le_refl _), f σ3 H3 w3 rfl (mex.trans m3) R3⟩
theorem rd_while {h : List Nat} {t : Env → M Bool} {body : Env → M (Fl × Env)} {rb : Option (List Nat)} {n : Nat} (hs : h.all ω.contains = true) (hb : Join rb (some h))
    (hy : tS K H0 w0 xk own lp (some h) ω (fun ρ => whileL t body n ρ) Dn σ H) : tWhile (tT K H0 w0 xk h t) (tS K H0 w0 xk own h rb h body) Dn σ H := by
  obtain ⟨w, ρ, R, hy⟩ := hy
  obtain ⟨w2, e2, m2, R2⟩ := R.sub (all_mem' hs)
  let W : Nat → L2.St → Hp → Prop := fun m σ' H' => ∃ w' ρ', Rel K H0 w0 h σ' H' w' ρ' ∧ Mono H w H' w' ∧ (whileL t body m ρ' w'.S).wp (PostS K H0 w0 own lp (some h) H w Dn) xk
  refine ⟨W, ⟨n, w2, ρ, R2, m2, by rw [e2]; exact hy⟩, ?_⟩
  rintro m σ3 H3 ⟨w3, ρ3, R3, m3, f⟩
  cases m with
  | zero => exact f.elim
  | succ m =>
    have f1 : ((t ρ3 >>= fun b => (if b = true then (body ρ3 >>= fun r => (match r.1 with
      | .nx => whileL t body m r.2
      | .cont => whileL t body m r.2
      | .brk => pure (Fl.nx, r.2)
      | .ret d => pure (Fl.ret d, r.2) : M (Fl × Env))) else pure (Fl.nx, ρ3) : M (Fl × Env))) w3.S).wp (PostS K H0 w0 own lp (some h) H w Dn) xk := f
    rw [wp_bind] at f1
    refine tT_then R3 f1 fun b w4 H4 f2 e4 R4 => ?_
    have m34 := e4.mono R3.wo
    cases b with
    | false => exact f2 σ3 H4 w4 rfl (m3.trans m34) R4
    | true =>
      rw [if_pos rfl]
      rw [if_pos rfl, wp_bind] at f2
      refine ⟨fun σ' H' => W m σ' H', fun σ' H' a => ⟨m, Nat.lt_succ_self _, a⟩, w4, ρ3, R4, wpq f2 fun r s6 f6 => ?_⟩
      obtain ⟨fl, ρ6⟩ := r
      cases fl with
      | nx =>
        rcases hb with rfl | ⟨y, z, rfl, hz, hyz⟩
        · trivial
        · cases hz
          intro σ' H' w' es mo Rb
          obtain ⟨w7, e7, m7, Rh⟩ := Rb.sub hyz
          exact ⟨w7, ρ6, Rh, (m3.trans m34).trans (mo.trans m7), by rw [e7, es]; exact f6⟩
      | cont => exact fun σ' H' w' es mo Rb => ⟨w', ρ6, Rb, (m3.trans m34).trans mo, by rw [es]; exact f6⟩
      | brk => exact fun σ' H' w' es mo Rb => f6 σ' H' w' es ((m3.trans m34).trans mo) Rb
      | ret d => exact f6
end

/-! ### all statements -/
section
variable {Z : Exs} {c : Ctx} {T : Tab} {N : List Str} {k : Nat} {sc : Scope} {X : Cx} {H0 : Hp} {w0 : Wd} {xk : Exn → S → Prop} {EX : XK} {ω lp : List Nat} {own : Bool} {r : Option (List Nat)} {st : Stmt}
theorem sS_asg (x : XB Z c T k sc X H0 w0 xk EX) (hN : X.N = N) {t : Tg} {e : E} (h : mS T N sc (.asg t e) st = true) (ho : okS T own lp ω (.asg t e) = some r) : PS X st (tS X.K H0 w0 xk own lp r ω (evS c (.asg t e))) := by
  simp only [mS] at h
  obtain ⟨⟨tg, e', q⟩, h1, h2⟩ := has_ex h
  obtain rfl := dAsg_eq h1
  simp only [Bool.and_eq_true] at h2
  cases t with
  | v i =>
    obtain ⟨⟨y, p⟩, h3, h4⟩ := has_ex h2.1
    obtain rfl := dName_eq h3
    simp only [Bool.and_eq_true, decide_eq_true_eq] at h4
    simp only [okS] at ho
    split at ho
    · rename_i hk
      cases ho
      refine ps_weak (ps_name x hN h4.1.1 h4.1.2 h4.2 h2.2 hk) fun D σ H hy => rd_name (lp := lp) (own := own) (b := fresh T e) ?_
      simp only [evS] at hy
      exact hy
    · cases ho
  | tup is =>
    obtain ⟨⟨es, j, p⟩, h3, h4⟩ := has_ex h2.1
    obtain rfl := dTup_eq h3
    simp only [Bool.and_eq_true] at h4
    simp only [okS] at ho
    split at ho
    · rename_i hk
      cases ho
      refine ps_weak (ps_asg ((snd_E e ω x.toXOk hN h2.2).sh hk) (mTg_pg (t := .tup is) hN x.nd x.calm (fun y hy => x.loc y hy) h4.1.1) (sw_tup h4.1.2) (stores_none h4.2)) fun D σ H hy => rd_asgT (lp := lp) (own := own) ?_
      simp only [evS] at hy
      exact hy
    · cases ho
theorem sS_par (x : XB Z c T k sc X H0 w0 xk EX) (hN : X.N = N) {i j : Nat} {a b : E} (h : mS T N sc (.par i j a b) st = true) (ho : okS T own lp ω (.par i j a b) = some r) : PS X st (tS X.K H0 w0 xk own lp r ω (evS c (.par i j a b))) := by
  simp only [mS] at h
  obtain ⟨⟨tg, e', q⟩, h1, hh1⟩ := has_ex h
  obtain rfl := dAsg_eq h1
  obtain ⟨⟨es, kt, pt⟩, h1, hh2⟩ := has_ex hh1
  obtain rfl := dTup_eq h1
  obtain ⟨⟨tx, ty⟩, h1, hh3⟩ := has_ex hh2
  obtain rfl := d2_eq h1
  obtain ⟨⟨y1, px⟩, h1, hh4⟩ := has_ex hh3
  obtain rfl := dName_eq h1
  obtain ⟨⟨y2, py⟩, h1, hh5⟩ := has_ex hh4
  obtain rfl := dName_eq h1
  obtain ⟨⟨vs, k2, p2⟩, h1, hh6⟩ := has_ex hh5
  obtain rfl := dTup_eq h1
  obtain ⟨⟨a', b'⟩, h1, hh7⟩ := has_ex hh6
  obtain rfl := d2_eq h1
  simp only [Bool.and_eq_true, decide_eq_true_eq] at hh7
  obtain ⟨⟨⟨⟨g1, g2⟩, g3⟩, g4⟩, g5⟩ := hh7
  simp only [okS] at ho
  split at ho
  · rename_i hk
    simp only [Bool.and_eq_true, decide_eq_true_eq] at hk
    cases ho
    rcases Bool.or_eq_true_iff.mp g3 with g3 | g3
    · have g3' := g3
      unfold parB at g3'
      simp only [Bool.and_eq_true, decide_eq_true_eq] at g3'
      obtain ⟨⟨⟨⟨⟨⟨⟨l1, l2⟩, _⟩, _⟩, s1⟩, s2⟩, _⟩, _⟩ := g3'
      refine ps_weak (ps_par x.calm x.nd (by rw [hN]; exact g1) (by rw [hN]; exact g2) hk.2 (by rw [x.scope]; exact l1) (by rw [x.scope]; exact l2) (pa_cons ((snd_E a ω x.toXOk hN g4).val hk.1.1) (pa_cons ((snd_E b ω x.toXOk hN g5).val hk.1.2) pa_nil (star_cons s2)) (star_cons s1)) (sw_par x.kind (by rw [x.scope]; exact g3))) fun D σ H hy => rd_par (lp := lp) (own := own) hk.2 ?_
      simp only [evS] at hy
      exact hy
    · have g3' := g3
      unfold parC at g3'
      simp only [Bool.and_eq_true] at g3'
      obtain ⟨⟨⟨⟨l1, l2⟩, _⟩, s1⟩, s2⟩ := g3'
      refine ps_weak (ps_parC x.calm x.nd (by rw [hN]; exact g1) (by rw [hN]; exact g2) (x.loc _ l1) (x.loc _ l2) (pa_cons ((snd_E a ω x.toXOk hN g4).val hk.1.1) (pa_cons ((snd_E b ω x.toXOk hN g5).val hk.1.2) pa_nil (star_cons s2)) (star_cons s1)) (sw_parC x.kind (by rw [x.scope]; exact g3))) fun D σ H hy => rd_par (lp := lp) (own := own) hk.2 ?_
      simp only [evS] at hy
      exact hy
  · cases ho
theorem sS_app (x : XB Z c T k sc X H0 w0 xk EX) (hN : X.N = N) {i : Nat} {e : E} (h : mS T N sc (.app i e) st = true) (ho : okS T own lp ω (.app i e) = some r) : PS X st (tS X.K H0 w0 xk own lp r ω (evS c (.app i e))) := by
  simp only [mS] at h
  obtain ⟨⟨u, q⟩, h1, hh1⟩ := has_ex h
  obtain rfl := dExpr_eq h1
  obtain ⟨⟨o, m, ap, es, cp⟩, h1, hh2⟩ := has_ex hh1
  obtain rfl := dMeth_eq h1
  obtain ⟨e', h1, hh3⟩ := has_ex hh2
  obtain rfl := d1_eq h1
  simp only [Bool.and_eq_true, decide_eq_true_eq] at hh3
  obtain ⟨⟨⟨⟨rfl, g2⟩, g3⟩, g4⟩, g5⟩ := hh3
  obtain ⟨y, p, rfl, pv⟩ := isVar_pe x.toXOk hN g2
  simp only [okS] at ho
  split at ho
  · rename_i hk
    simp only [Bool.and_eq_true] at hk
    cases ho
    refine ps_weak (ps_expr (pe_append pv ((snd_E e ω x.toXOk hN g5).sh hk.2) g4 g3)) fun D σ H hy => rd_app (lp := lp) (own := own) (by simpa using hk.1) ?_
    simp only [evS] at hy
    exact hy
  · cases ho
theorem sS_popA (x : XB Z c T k sc X H0 w0 xk EX) (hN : X.N = N) {i j : Nat} {e : E} (h : mS T N sc (.popA j i e) st = true) (ho : okS T own lp ω (.popA j i e) = some r) : PS X st (tS X.K H0 w0 xk own lp r ω (evS c (.popA j i e))) := by
  simp only [mS] at h
  obtain ⟨⟨tg, u, q⟩, h1, hh1⟩ := has_ex h
  obtain rfl := dAsg_eq h1
  obtain ⟨⟨y0, p0⟩, h1, hh2⟩ := has_ex hh1
  obtain rfl := dName_eq h1
  obtain ⟨⟨o, m, ap, es, cp⟩, h1, hh3⟩ := has_ex hh2
  obtain rfl := dMeth_eq h1
  obtain ⟨e', h1, hh4⟩ := has_ex hh3
  obtain rfl := d1_eq h1
  simp only [Bool.and_eq_true, decide_eq_true_eq] at hh4
  obtain ⟨⟨⟨⟨⟨⟨rfl, g0⟩, g1⟩, g2⟩, g3⟩, g4⟩, g5⟩ := hh4
  obtain ⟨y, p, rfl, pv⟩ := isVar_pe x.toXOk hN g2
  simp only [okS] at ho
  split at ho
  · rename_i hk
    simp only [Bool.and_eq_true, decide_eq_true_eq] at hk
    cases ho
    refine ps_weak (ps_set x.nd (by rw [hN]; exact g0) (x.loc y0 g1).1 (pe_popAt pv ((snd_E e ω x.toXOk hN g5).look hk.1.2) g4 g3) rfl (x.loc y0 g1).2) fun D σ H hy => rd_popA (lp := lp) (own := own) (by simpa using hk.1.1) hk.2 ?_
    simp only [evS] at hy
    exact hy
  · cases ho
theorem sS_popL (x : XB Z c T k sc X H0 w0 xk EX) (hN : X.N = N) {i : Nat} {t : Tg} (h : mS T N sc (.popL t i) st = true) (ho : okS T own lp ω (.popL t i) = some r) : PS X st (tS X.K H0 w0 xk own lp r ω (evS c (.popL t i))) := by
  simp only [mS] at h
  obtain ⟨⟨tg, u, q⟩, h1, hh1⟩ := has_ex h
  obtain rfl := dAsg_eq h1
  obtain ⟨⟨o, m, ap, es, cp⟩, h1, hh2⟩ := has_ex hh1
  obtain rfl := dMeth_eq h1
  simp only [Bool.and_eq_true, decide_eq_true_eq] at hh2
  obtain ⟨⟨⟨⟨rfl, g0⟩, g1⟩, g2⟩, g3⟩ := hh2
  obtain ⟨y, p, rfl, pv⟩ := isVar_pe x.toXOk hN g2
  obtain rfl : es = [] := by simpa using g0
  simp only [okS] at ho
  split at ho
  · rename_i hk
    simp only [Bool.and_eq_true, Bool.not_eq_true'] at hk
    cases ho
    have pg := mTg_pg hN x.nd x.calm (fun y hy => x.loc y hy) g1
    have q1 : (assignEach [tg] X.env).map (·.2) = [assign tg X.env] := by
      cases t with
      | v i => cases tg <;> first | rfl | (simp [mTg] at g1; done)
      | tup is => cases tg <;> first | rfl | (simp [mTg] at g1; done)
    have q2 : swappedStores [tg] (.Call (.Attribute (.Name y p) "pop" ap) [] [] cp) X.env = pure none := by
      cases tg <;> rfl
    refine ps_weak (ps_asg (pe_pop0 pv g3) pg (sw_tup rfl) q2 q1) fun D σ H hy => rd_popL (xk := xk) (H0 := H0) (w0 := w0) (lp := lp) (own := own) (by simpa using hk.1) (by simpa using hk.2) ?_
    simp only [evS] at hy
    exact hy
  · cases ho
theorem sS_popApp (x : XB Z c T k sc X H0 w0 xk EX) (hN : X.N = N) {i j : Nat} {e : E} (h : mS T N sc (.popApp j i e) st = true) (ho : okS T own lp ω (.popApp j i e) = some r) : PS X st (tS X.K H0 w0 xk own lp r ω (evS c (.popApp j i e))) := by
  simp only [mS] at h
  obtain ⟨⟨u, q⟩, h1, hh1⟩ := has_ex h
  obtain rfl := dExpr_eq h1
  obtain ⟨⟨o, m, ap, es, cp⟩, h1, hh2⟩ := has_ex hh1
  obtain rfl := dMeth_eq h1
  obtain ⟨u2, h1, hh3⟩ := has_ex hh2
  obtain rfl := d1_eq h1
  obtain ⟨⟨o2, m2, ap2, es2, cp2⟩, h1, hh4⟩ := has_ex hh3
  obtain rfl := dMeth_eq h1
  obtain ⟨e', h1, hh5⟩ := has_ex hh4
  obtain rfl := d1_eq h1
  simp only [Bool.and_eq_true, decide_eq_true_eq] at hh5
  obtain ⟨⟨⟨⟨⟨⟨⟨rfl, rfl⟩, g2⟩, g2'⟩, g3⟩, g3'⟩, g4⟩, g5⟩ := hh5
  obtain ⟨y, p, rfl, pv⟩ := isVar_pe x.toXOk hN g2
  obtain ⟨y', p', rfl, pv'⟩ := isVar_pe x.toXOk hN g2'
  simp only [okS] at ho
  split at ho
  · rename_i hk
    simp only [Bool.and_eq_true, decide_eq_true_eq] at hk
    cases ho
    refine ps_weak (ps_expr (pe_append pv (pe_popAt pv' ((snd_E e ω x.toXOk hN g5).look hk.1.2) g4 g3') rfl g3)) fun D σ H hy => rd_popApp (lp := lp) (own := own) (by simpa using hk.1.1.1) (by simpa using hk.1.1.2) hk.2 ?_
    simp only [evS] at hy
    exact hy
  · cases ho
theorem rd_unit {K : PySem.W.Frag} {f : Env → M Unit} {D : Ends} {σ : L2.St} {H : Hp} (hy : tS K H0 w0 xk own lp (some ω) ω (fun ρ => do f ρ; return (.nx, ρ)) D σ H) : tS' K H0 w0 xk own lp ω f D σ H := by
  obtain ⟨w, ρ, R, hy⟩ := hy
  rw [wp_bind] at hy
  exact ⟨w, ρ, R, wpq hy fun _ s q => q⟩
theorem sS_setAt (x : XB Z c T k sc X H0 w0 xk EX) (hN : X.N = N) {i : Nat} {e : E} (h : mS T N sc (.setAt i e) st = true) (ho : okS T own lp ω (.setAt i e) = some r) : PS X st (tS X.K H0 w0 xk own lp r ω (evS c (.setAt i e))) := by
  simp only [mS] at h
  obtain ⟨⟨tg, e', q⟩, h1, h2⟩ := has_ex h
  obtain rfl := dAsg_eq h1
  obtain ⟨⟨o, s⟩, h3, h4⟩ := has_ex h2
  obtain ⟨j, p2, p, rfl⟩ := dKey_eq h3
  simp only [Bool.and_eq_true, decide_eq_true_eq] at h4
  obtain ⟨⟨⟨rfl, g1⟩, g2⟩, g3⟩ := h4
  obtain ⟨y, q', rfl, pv⟩ := isVar_pe x.toXOk hN g1
  simp only [okS] at ho
  split at ho
  · rename_i hk
    cases ho
    refine ps_weak (ps_dput x.toXOk.u1 pv pe_str ((snd_E e ω x.toXOk hN g3).look hk) (sw_plain g2)) fun D σ H hy => rd_setAt (own := own) (lp := lp) (rd_unit ?_)
    simp only [evS] at hy
    simp only [bind_assoc']
    exact hy
  · cases ho
theorem sS_setLeft (x : XB Z c T k sc X H0 w0 xk EX) (hN : X.N = N) {i : Nat} {a e : E} (h : mS T N sc (.setLeft i a e) st = true) (ho : okS T own lp ω (.setLeft i a e) = some r) : PS X st (tS X.K H0 w0 xk own lp r ω (evS c (.setLeft i a e))) := by
  simp only [mS] at h
  obtain ⟨⟨tg, e', q⟩, h1, h2⟩ := has_ex h
  obtain rfl := dAsg_eq h1
  obtain ⟨⟨u, i'⟩, h3, h4⟩ := has_ex h2
  obtain ⟨p, rfl⟩ := dSub_eq h3
  obtain ⟨⟨o, s⟩, h5, h6⟩ := has_ex h4
  obtain ⟨j, p2, p3, rfl⟩ := dKey_eq h5
  simp only [Bool.and_eq_true, decide_eq_true_eq] at h6
  obtain ⟨⟨⟨⟨⟨rfl, g1⟩, g1'⟩, g2⟩, g3⟩, g4⟩ := h6
  obtain ⟨y, q', rfl, pv⟩ := isVar_pe x.toXOk hN g1
  simp only [okS] at ho
  split at ho
  · rename_i hk
    simp only [Bool.and_eq_true] at hk
    cases ho
    have q2 : swappedStores [.Subscript (.Subscript (.Name y q') (.Constant (.str "lefts") j p2) p3) i' p] e' X.env = pure none := by
      cases e' <;> rfl
    have q3 := pg_sub (pos := p) (pe_dget (pos := p3) x.toXOk.u1 pv (pe_str (x := "lefts") (j := j) (pos := p2)) fun _ _ => rfl) ((snd_E a ω x.toXOk hN g3).look hk.1) set_list (by intro v; cases i' <;> first | rfl | cases g1')
    refine ps_weak (ps_asg ((snd_E e ω x.toXOk hN g4).look hk.2) q3 (sw_tup g2) q2 rfl) fun D σ H hy => rd_setLeft (own := own) (lp := lp) (rd_unit ?_)
    simp only [evS] at hy
    simp only [bind_assoc']
    exact hy
  · cases ho
theorem sS_ret (x : XB Z c T k sc X H0 w0 xk EX) (hN : X.N = N) {e : E} (h : mS T N sc (.ret e) st = true) (ho : okS T own lp ω (.ret e) = some r) : PS X st (tS X.K H0 w0 xk own lp r ω (evS c (.ret e))) := by
  simp only [mS] at h
  obtain ⟨⟨o, q⟩, h1, hh1⟩ := has_ex h
  obtain rfl := dRet_eq h1
  obtain ⟨e', rfl, hh2⟩ := has_ex hh1
  have s := snd_E e ω x.toXOk hN hh2
  simp only [okS] at ho
  by_cases hk : (if own then (fresh T e && okE ω e) || ownVar ω e else okE ω e) = true
  · rw [if_pos hk] at ho
    cases ho
    cases own with
    | false =>
      refine ps_weak (ps_ret (s.sh hk)) fun D σ H hy => rd_ret (lp := lp) (own := false) (.inr ⟨rfl, rfl⟩) ?_
      simp only [evS] at hy
      exact hy
    | true =>
      simp only [if_true, Bool.or_eq_true, Bool.and_eq_true] at hk
      rcases hk with hk | hk
      · have q := s.val hk.2
        rw [hk.1] at q
        refine ps_weak (ps_ret q) fun D σ H hy => rd_ret (lp := lp) (own := true) (.inl rfl) ?_
        simp only [evS] at hy
        exact hy
      · cases e with
        | var i =>
          obtain ⟨y, p, rfl, h1, h2, h3⟩ := inv_var hh2
          obtain ⟨d1, d2, d3⟩ := okName_db h3
          refine ps_weak (ps_ret (pe_var (by rw [hN]; exact h1) (vis_of x.scope h2) d1 d2)) fun D σ H hy => rd_retOwn (K := X.K) (xk := xk) (H0 := H0) (w0 := w0) (lp := lp) (by simpa [ownVar] using hk) ?_
          simp only [evS, evE] at hy
          exact hy
        | _ => simp [ownVar] at hk
  · rw [if_neg hk] at ho
    cases ho
end
theorem join_filter (x y : List Nat) : Join (some x) (some (x.filter y.contains)) ∧ Join (some y) (some (x.filter y.contains)) :=
  ⟨.inr ⟨x, _, rfl, rfl, fun i hi => (List.mem_filter.mp hi).1⟩, .inr ⟨y, _, rfl, rfl, fun i hi => by simpa using (List.mem_filter.mp hi).2⟩⟩
theorem join_self (r : Option (List Nat)) : Join r r := by
  cases r with
  | none => exact .inl rfl
  | some x => exact .inr ⟨x, x, rfl, rfl, fun _ h => h⟩
mutual
theorem rd_raise {Z : Exs} {c : Ctx} {T : Tab} {k : Nat} {sc : Scope} {X : Cx} {H0 : Hp} {w0 : Wd} {xk : Exn → S → Prop} {EX : XK} {ω lp : List Nat} {own : Bool} {x : XOk Z c T k sc X H0 w0 xk EX} {r : XcT} (hr : r ∈ T.xt.xcs) {f : Env → M D} {ro : Option (List Nat)} {Dn : Ends} {σ : L2.St} {H : Hp}
    (hy : tS X.K H0 w0 xk own lp ro ω (fun ρ => do let d ← f ρ; DE.raise ⟨r.nm, [d]⟩) Dn σ H) :
    tCons (tD X.K H0 w0 xk ω .sh f) tNil σ H fun vs H1 => ∃ v : V, vs = [v] ∧ ∀ C, X.mg r.nm = some (.ref C) → ∀ d, H1 d = none → EX (.ref C) (some d) (upd H1 d (.xd [(r.fl, v)])) := by
  obtain ⟨w, ρ, R, hy⟩ := hy
  rw [wp_bind] at hy
  refine tD_then R hy fun d w1 H1 v hx e1 R1 hv => ⟨v, rfl, fun C hC dd hd => ?_⟩
  have hx : xk ⟨r.nm, [d]⟩ w1.S := hx
  exact x.lk _ _ hx (.ref C) (some dd) _ w1 rfl (R1.ex.trans (Ext.laid hd)) (R1.wo.laid hd) ⟨r, C, dd, v, d, by rw [x.xs]; exact hr, rfl, by rw [x.em]; exact hC, rfl, rfl, upd_same, Rp.ext R1.wo (Ext.laid hd) hv⟩
theorem sS_raise {Z : Exs} {c : Ctx} {T : Tab} {N : List Str} {k : Nat} {sc : Scope} {X : Cx} {H0 : Hp} {w0 : Wd} {xk : Exn → S → Prop} {EX : XK} {ω lp : List Nat} {own : Bool} {r : Option (List Nat)} {st : Stmt} (x : XB Z c T k sc X H0 w0 xk EX) (hN : X.N = N) {y : Str} {e : E} (h : mS T N sc (.raise y e) st = true)
    (ho : okS T own lp ω (.raise y e) = some r) : PS X st (tS X.K H0 w0 xk own lp r ω (evS c (.raise y e))) := by
  simp only [mS] at h
  obtain ⟨⟨z, e'⟩, h1, h2⟩ := has_ex h
  obtain ⟨p, q, p2, rfl⟩ := dRaise_eq h1
  simp only [Bool.and_eq_true, decide_eq_true_eq] at h2
  obtain ⟨⟨⟨⟨⟨g1, rfl⟩, g3⟩, g4⟩, g5⟩, g6⟩ := h2
  obtain ⟨rw', hr, hn⟩ := List.any_eq_true.mp g1
  have hn : rw'.nm = z := of_decide_eq_true hn
  subst hn
  simp only [okS] at ho
  split at ho
  · rename_i hk
    cases ho
    obtain ⟨d1, d2, d3⟩ := okName_db g4
    have pm := pmk_rz (X := X) (p := p) (pos := q) (XcIs.mono (x.xcs rw' hr) (show 1 ≤ k + 1 by omega)) x.room (fun pins σ H s e s2 _ h => (Z.nox _ _ _ _ _ h).elim) (gl_of x.scope g3) (pa_cons ((snd_E e ω x.toXOk hN g6).sh hk) pa_nil (star_cons g5)) d1 (star_cons g5) rfl
      (fun σ H Q Q' ⟨w, ρ, R, hw⟩ i => ⟨w, ρ, R, wpq hw fun d s q v H' w' es ex wo hv => i _ _ (q v H' w' es ex wo hv)⟩)
    refine ps_weak (ps_raise x.calm x.tk pm) fun D σ H hy => rd_raise (Dn := D) (x := x.toXOk) (lp := lp) (own := own) (ro := none) hr ?_
    simp only [evS] at hy
    exact hy
  · cases ho
theorem snd_S {Z : Exs} {c : Ctx} {T : Tab} {N : List Str} {k : Nat} : ∀ (s : C) {sc : Scope} {X : Cx} {H0 : Hp} {w0 : Wd} {xk : Exn → S → Prop} {EX : XK} {ω lp : List Nat} {own : Bool} {r : Option (List Nat)} {st : Stmt}, XB Z c T k sc X H0 w0 xk EX → X.N = N → mS T N sc s st = true → okS T own lp ω s = some r →
    PS X st (tS X.K H0 w0 xk own lp r ω (evS c s))
  | .asg t e, sc, X, H0, w0, xk, EX, ω, lp, own, r, st, x, hN, h, ho => sS_asg x hN h ho
  | .par i j a b, sc, X, H0, w0, xk, EX, ω, lp, own, r, st, x, hN, h, ho => sS_par x hN h ho
  | .app i e, sc, X, H0, w0, xk, EX, ω, lp, own, r, st, x, hN, h, ho => sS_app x hN h ho
  | .popA j i e, sc, X, H0, w0, xk, EX, ω, lp, own, r, st, x, hN, h, ho => sS_popA x hN h ho
  | .popApp j i e, sc, X, H0, w0, xk, EX, ω, lp, own, r, st, x, hN, h, ho => sS_popApp x hN h ho
  | .popL t i, sc, X, H0, w0, xk, EX, ω, lp, own, r, st, x, hN, h, ho => sS_popL x hN h ho
  | .expr e, sc, X, H0, w0, xk, EX, ω, lp, own, r, st, x, hN, h, ho => by
    simp only [mS] at h
    obtain ⟨⟨e', q⟩, h1, hh1⟩ := has_ex h
    obtain rfl := dExpr_eq h1
    simp only [Bool.and_eq_true] at hh1
    simp only [okS] at ho
    split at ho
    · rename_i hk
      cases ho
      refine ps_weak (ps_expr ((snd_E e ω x.toXOk hN hh1.2).look hk) (sw_plain hh1.1)) fun D σ H hy => rd_exprS (lp := lp) (own := own) ?_
      simp only [evS] at hy
      exact hy
    · cases ho
  | .setAt i e, sc, X, H0, w0, xk, EX, ω, lp, own, r, st, x, hN, h, ho => sS_setAt x hN h ho
  | .setLeft i a e, sc, X, H0, w0, xk, EX, ω, lp, own, r, st, x, hN, h, ho => sS_setLeft x hN h ho
  | .ret e, sc, X, H0, w0, xk, EX, ω, lp, own, r, st, x, hN, h, ho => sS_ret x hN h ho
  | .raise y e, sc, X, H0, w0, xk, EX, ω, lp, own, r, st, x, hN, h, ho => sS_raise x hN h ho
  | .retN, sc, X, H0, w0, xk, EX, ω, lp, own, r, st, x, hN, h, ho => by
    simp only [mS] at h
    obtain ⟨⟨o, q⟩, h1, hh1⟩ := has_ex h
    obtain rfl := dRet_eq h1
    cases o with
    | some _ => cases hh1
    | none =>
      refine ps_weak ps_retN fun D σ H hy => ?_
      obtain ⟨w, ρ, R, hy⟩ := hy
      simp only [evS] at hy
      have hy : Post X.K H0 w0 (md own) D.rt .non w.S := hy
      exact hy _ H w rfl R.ex R.wo (by cases own <;> exact Rp.non)
  | .ifs t a b, sc, X, H0, w0, xk, EX, ω, lp, own, r, st, x, hN, h, ho => by
    simp only [mS] at h
    obtain ⟨⟨t', a', b', q⟩, h1, hh1⟩ := has_ex h
    obtain rfl := dIf_eq h1
    simp only [Bool.and_eq_true] at hh1
    simp only [okS] at ho
    split at ho
    · rename_i hk
      have ht := (snd_E t ω x.toXOk hN hh1.1.1).test hk
      have go : ∀ {ra rb}, okCs T own lp ω a = some ra → okCs T own lp ω b = some rb → Join ra r → Join rb r → PS X (.If t' a' b' q) (tS X.K H0 w0 xk own lp r ω (evS c (.ifs t a b))) := fun ha hb ja jb => by
        refine ps_weak (ps_if ht (snd_Cs a x hN hh1.1.2 ha) (snd_Cs b x hN hh1.2 hb)) fun D σ H hy => rd_ifS (lp := lp) (own := own) ja jb ?_
        simp only [evS] at hy
        simp only [bind_assoc']
        exact hy
      split at ho
      · rename_i x1 y1 e1 e2
        cases ho
        exact go e1 e2 (join_filter x1 y1).1 (join_filter x1 y1).2
      · rename_i x1 e1 e2
        cases ho
        exact go e1 e2 (join_self _) (.inl rfl)
      · rename_i r1 e1 e2
        cases ho
        exact go e1 e2 (.inl rfl) (join_self _)
      · cases ho
    · cases ho
  | .for_ hd t src body, sc, X, H0, w0, xk, EX, ω, lp, own, r, st, x, hN, h, ho => by
    simp only [mS] at h
    obtain ⟨⟨tg, iter, body', q⟩, h1, hh1⟩ := has_ex h
    obtain rfl := dFor_eq h1
    simp only [Bool.and_eq_true] at hh1
    simp only [okS] at ho
    split at ho
    · rename_i hk
      simp only [Bool.and_eq_true] at hk
      have go : ∀ {rb}, okCs T own hd (minus hd t.slots) body = some rb → Join rb (some hd) → r = some hd → PS X (.For tg iter body' [] q) (tS X.K H0 w0 xk own lp r ω (evS c (.for_ hd t src body))) := fun hb jb hr => by
        subst hr
        refine ps_weak (ps_for x.own x.calm ((snd_I src ω x.toXOk hN tg hh1.1.2).2 hk.2) (mTg_pg hN x.nd x.calm (fun y hy => x.loc y hy) hh1.1.1) (snd_Cs body x hN hh1.2 hb) (fun v => folded hh1.1.2 X.env v)) fun D σ H hy => rd_for (lp := lp) (own := own) hk.1 jb ?_
        simp only [evS] at hy
        exact hy
      split at ho
      · rename_i y1 e1
        split at ho
        · rename_i hy1
          cases ho
          exact go e1 (.inr ⟨y1, hd, rfl, rfl, all_mem' hy1⟩) rfl
        · cases ho
      · rename_i e1
        cases ho
        exact go e1 (.inl rfl) rfl
      · cases ho
    · cases ho
  | .while_ hd t body, sc, X, H0, w0, xk, EX, ω, lp, own, r, st, x, hN, h, ho => by
    simp only [mS] at h
    obtain ⟨⟨t', body', q⟩, h1, hh1⟩ := has_ex h
    obtain rfl := dWhile_eq h1
    simp only [Bool.and_eq_true] at hh1
    simp only [okS] at ho
    split at ho
    · rename_i hk
      simp only [Bool.and_eq_true] at hk
      have go : ∀ {rb}, okCs T own hd hd body = some rb → Join rb (some hd) → r = some hd → PS X (.While t' body' [] q) (tS X.K H0 w0 xk own lp r ω (evS c (.while_ hd t body))) := fun hb jb hr => by
        subst hr
        refine ps_weak (ps_while x.own ((snd_E t hd x.toXOk hN hh1.1).test hk.2) (snd_Cs body x hN hh1.2 hb)) fun D σ H hy => rd_while (n := FUEL) (lp := lp) (own := own) hk.1 jb ?_
        simp only [evS] at hy
        exact hy
      split at ho
      · rename_i y1 e1
        split at ho
        · rename_i hy1
          cases ho
          exact go e1 (.inr ⟨y1, hd, rfl, rfl, all_mem' hy1⟩) rfl
        · cases ho
      · rename_i e1
        cases ho
        exact go e1 (.inl rfl) rfl
      · cases ho
    · cases ho
  | .never, sc, X, H0, w0, xk, EX, ω, lp, own, r, st, x, hN, h, ho => ps_weak ps_never fun D σ H hy => by
    obtain ⟨w, ρ, R, hy⟩ := hy
    simp only [evS] at hy
    exact hy
  | .brk, sc, X, H0, w0, xk, EX, ω, lp, own, r, st, x, hN, h, ho => by
    simp only [mS] at h
    cases e : dBrk st with
    | none => rw [e] at h; cases h
    | some p =>
      obtain rfl := dBrk_eq e
      simp only [okS] at ho
      split at ho
      · rename_i hk
        refine ps_weak ps_break fun D σ H hy => ?_
        obtain ⟨w, ρ, R, hy⟩ := hy
        simp only [evS] at hy
        obtain ⟨w', e', m', R'⟩ := R.sub (all_mem' hk)
        exact hy σ H w' e' m' R'
      · cases ho
  | .cont, sc, X, H0, w0, xk, EX, ω, lp, own, r, st, x, hN, h, ho => by
    simp only [mS] at h
    cases e : dCont st with
    | none => rw [e] at h; cases h
    | some p =>
      obtain rfl := dCont_eq e
      simp only [okS] at ho
      split at ho
      · rename_i hk
        refine ps_weak ps_continue fun D σ H hy => ?_
        obtain ⟨w, ρ, R, hy⟩ := hy
        simp only [evS] at hy
        obtain ⟨w', e', m', R'⟩ := R.sub (all_mem' hk)
        exact hy σ H w' e' m' R'
      · cases ho
  | .pass, sc, X, H0, w0, xk, EX, ω, lp, own, r, st, x, hN, h, ho => by
    simp only [mS] at h
    cases e : dPass st with
    | none => rw [e] at h; cases h
    | some p =>
      obtain rfl := dPass_eq e
      simp only [okS] at ho
      cases ho
      refine ps_weak ps_pass fun D σ H hy => ?_
      obtain ⟨w, ρ, R, hy⟩ := hy
      simp only [evS] at hy
      exact hy σ H w rfl (Mono.refl _ _) R
theorem snd_Cs {Z : Exs} {c : Ctx} {T : Tab} {N : List Str} {k : Nat} : ∀ (s : Cs) {sc : Scope} {X : Cx} {H0 : Hp} {w0 : Wd} {xk : Exn → S → Prop} {EX : XK} {ω lp : List Nat} {own : Bool} {r : Option (List Nat)} {st : List Stmt}, XB Z c T k sc X H0 w0 xk EX → X.N = N → mCs T N sc s st = true → okCs T own lp ω s = some r →
    PSs X st (tS X.K H0 w0 xk own lp r ω (evCs c s))
  | .nil, sc, X, H0, w0, xk, EX, ω, lp, own, r, st, x, hN, h, ho => by
    simp only [mCs] at h
    obtain rfl : st = [] := by simpa using h
    simp only [okCs] at ho
    cases ho
    refine pss_weak pss_nil fun D σ H hy => ?_
    obtain ⟨w, ρ, R, hy⟩ := hy
    simp only [evCs] at hy
    exact hy σ H w rfl (Mono.refl _ _) R
  | .cons s q, sc, X, H0, w0, xk, EX, ω, lp, own, r, st, x, hN, h, ho => by
    cases st with
    | nil => simp [mCs] at h
    | cons st sts =>
      simp only [mCs, Bool.and_eq_true] at h
      simp only [okCs] at ho
      split at ho
      · rename_i ω' e1
        refine pss_weak (pss_cons (snd_S s x hN h.1 e1) (snd_Cs q x hN h.2 ho)) fun D σ H hy => rd_seqS (lp := lp) (own := own) ?_
        simp only [evCs] at hy
        exact hy
      · rename_i e1
        split at ho
        · cases ho
          have hq := h.2
          simp only [mCs] at hq
          obtain rfl : sts = [] := by simpa using hq
          refine pss_weak (pss_one (snd_S s x hN h.1 e1)) fun D σ H hy => rd_lastS (lp := lp) (own := own) ?_
          simp only [evCs] at hy
          exact hy
        · cases ho
      · cases ho
  | .fz is q, sc, X, H0, w0, xk, EX, ω, lp, own, r, st, x, hN, h, ho => by
    simp only [mCs] at h
    simp only [okCs] at ho
    refine pss_weak (snd_Cs q x hN h ho) fun D σ H hy => rd_fz (lp := lp) (own := own) ?_
    simp only [evCs] at hy
    exact hy
end
end DE

/-! DEfun: defs. -/
namespace DE
open PySem PySem.Spec PyProof.Rows L2 PySem.Calls

/-! ### binding -/
theorem zip_out {n : Str} : ∀ {ps : List Str} {us : List Value}, n ∉ ps → (ps.zip us).lookup n = none
  | [], _, _ => rfl
  | _ :: _, [], _ => rfl
  | p :: ps, u :: us, h => by
    have e : (n == p) = false := by
      rw [beq_eq_false_iff_ne]
      rintro rfl
      exact h (List.mem_cons_self ..)
    rw [List.zip_cons_cons, List.lookup_cons, e]
    exact zip_out fun z => h (List.mem_cons_of_mem _ z)
theorem zip_binds : ∀ {ps : List Str} {us : List Value} {pre : List (Str × Value)}, ps.Nodup → us.length = ps.length → (∀ p ∈ ps, pre.lookup p = none) → ps.filterMap (fun n => ((pre ++ ps.zip us).lookup n).map (n, ·)) = ps.zip us
  | [], _, _, _, _, _ => by simp
  | p :: ps, [], _, _, h, _ => by simp at h
  | p :: ps, u :: us, pre, nd, h, hp => by
    have nd' := List.nodup_cons.mp nd
    have e1 : (pre ++ (p, u) :: ps.zip us).lookup p = some u := by
      rw [List.lookup_append, hp p (List.mem_cons_self ..)]
      simp
    rw [List.zip_cons_cons, List.filterMap_cons, e1]
    show (p, u) :: _ = _
    congr 1
    have e2 : pre ++ (p, u) :: ps.zip us = (pre ++ [(p, u)]) ++ ps.zip us := by simp
    rw [e2]
    refine zip_binds nd'.2 (by simpa using h) fun q hq => ?_
    rw [List.lookup_append, hp q (List.mem_cons_of_mem _ hq)]
    have e : (q == p) = false := by
      rw [beq_eq_false_iff_ne]
      rintro rfl
      exact nd'.1 hq
    show ([(p, u)] : List (Str × Value)).lookup q = none
    rw [List.lookup_cons, e]
    rfl
def plainArgs (p : Arguments) (ps : List Str) : Bool := p.posonlyargs.isEmpty && p.vararg.isNone && p.kwonlyargs.isEmpty && p.kwarg.isNone && decide (p.args.map (·.arg) = ps) && decide ps.Nodup
theorem bind_plain {x qual : Str} {p : Arguments} {body : List Stmt} {scope : Scope} {kV doc pm cdv ct : Value} {an : Option Addr} {ps : List Str} {us : List Value} (h : plainArgs p ps = true) (hl : us.length = ps.length) :
    bindArgs (PySem.W.fnOf x qual p body scope .none kV doc pm an cdv ct) ⟨us, []⟩ = pure (ps.zip us) := by
  obtain ⟨po, ar, va, ko, kd, ka, df⟩ := p
  simp only [plainArgs, Bool.and_eq_true, decide_eq_true_eq, List.isEmpty_iff, Option.isNone_iff_eq_none] at h
  obtain ⟨⟨⟨⟨⟨rfl, rfl⟩, rfl⟩, rfl⟩, rfl⟩, nd⟩ := h
  have h0 : (ar.map (·.arg)).filterMap (fun n => (((ar.map (·.arg)).zip us).lookup n).map (n, ·)) = (ar.map (·.arg)).zip us := by
    have q := zip_binds (pre := []) nd hl fun p _ => rfl
    simpa using q
  have h1 : ((ar.map (·.arg)).filter fun n => (((ar.map (·.arg)).zip us).lookup n).isNone) = [] := by
    rw [List.filter_eq_nil_iff]
    intro n hn hz
    have hz' : ((ar.map (·.arg)).zip us).lookup n = none := by simpa using hz
    have : ∀ {ps : List Str} {us : List Value}, us.length = ps.length → n ∈ ps → (ps.zip us).lookup n ≠ none := by
      intro ps
      induction ps with
      | nil => intro us _ hn; cases hn
      | cons p ps ih =>
        intro us hl hn
        cases us with
        | nil => simp at hl
        | cons u us =>
          rw [List.zip_cons_cons, List.lookup_cons]
          cases e : n == p with
          | true => simp
          | false =>
            rcases List.mem_cons.mp hn with rfl | hn
            · simp at e
            · exact ih (by simpa using hl) hn
    exact this hl hn hz'
  have hl' : us.length = ar.length := by simpa using hl
  unfold bindArgs
  simp only [PySem.W.fnOf, List.map_nil, List.nil_append, List.append_nil]
  have h2 := h0
  rw [List.filterMap_map] at h2
  simp [seqItems?, hl', notAStandIn]
  rw [if_neg]
  · exact congrArg pure h2
  · have ht : List.take ((List.map (fun x => x.arg) ar).length - (List.drop ((#[] : Array Value).size - (List.map (fun x => x.arg) ar).length) ([] : List Value)).length) (List.map (fun x => x.arg) ar) = List.map (fun x => x.arg) ar := by
      simp
      exact List.take_of_length_le (by simp)
    rw [ht, h1]
    simp

/-- a row of the table: terms, names, the statement's place -/
structure Rw where
  df : Df
  nm : List Str
  ix : Nat
/-- the def of row f -/
def dfOf (rows : List Rw) (f : Nat) : Df := (rows.getD f ⟨⟨0, .nil⟩, [], 0⟩).df
def w0S : S := ⟨false, [], [], 0⟩
/-- what the defs mean, k calls deep, and one less deep -/
def CtxP (df : Nat → Df) (Γ : Nat → D) (xt : Xt) : Nat → Ctx × Ctx
  | 0 => (⟨fun _ _ => stuck, Γ, fun _ _ => stuck, xt⟩, ⟨fun _ _ => stuck, Γ, fun _ _ => stuck, xt⟩)
  | k + 1 => (⟨fun f ds => runF (CtxP df Γ xt k).1 (df f) ds, Γ, fun b ρ => match k with
    | 0 => stuck
    | _ + 1 => evE (CtxP df Γ xt k).2 ρ b, xt⟩, (CtxP df Γ xt k).1)
/-- what the defs mean, k calls deep; a lambda's body: two less deep -/
def CtxN (df : Nat → Df) (Γ : Nat → D) (xt : Xt) (k : Nat) : Ctx := (CtxP df Γ xt k).1
theorem CtxN_lam {df : Nat → Df} {Γ : Nat → D} {xt : Xt} {k : Nat} {b : E} {ρ : Env} : (CtxN df Γ xt (k + 2)).Λ b ρ = evE (CtxN df Γ xt k) ρ b := rfl
theorem CtxN_Γ {df : Nat → Df} {Γ : Nat → D} {xt : Xt} (k : Nat) : (CtxN df Γ xt k).Γ = Γ := by cases k <;> rfl
theorem CtxN_xt {df : Nat → Df} {Γ : Nat → D} {xt : Xt} (k : Nat) : (CtxN df Γ xt k).xt = xt := by cases k <;> rfl
/-- the name of a lambda in the def x -/
def lamQ (x : Str) : Str := (x ++ (".<locals>." : Str)) ++ ("<lambda>" : Str)
/-- the module behind its top -/
structure ModOk (Z : Exs) (Γ : Nat → D) (T : Tab) (P : Program) (w : World) (K : PySem.W.Frag) (mg : Str → Option Value) (base : Heap) : Prop where
  eP : Z.P = P
  ew : Z.w = w
  em : Z.mg = mg
  xs : Z.xcs = T.xt.xcs
  xcs : ∀ r ∈ T.xt.xcs, XcIs P w K mg base Z.CX 1 r
  xfs : ∀ r ∈ T.xt.xcs, ∀ C, mg r.nm = some (.ref C) → XfC K C ∧ PySem.W.findIn K (.ref C) r.fl = some none
  subs : ∀ r ∈ T.xt.xcs, ∀ y b C d, T.xt.sub r.nm y = some b → mg r.nm = some (.ref C) → mg y = some d → PySem.W.exmOne K (.ref C) d = some b
  tds : ∀ (i : Nat) t, T.xt.tds[i]? = some t → TdIs K mg t
  lms : ∀ F ∈ T.fn, F.lm = true → ∀ a oc od fd osl, mg F.name = some (.ref a) → K.lookup a = some ⟨oc, od, .func fd, osl⟩ → ∃ cd Pt, fd.code = .ref cd ∧ LamX.TabB base mg cd Pt ∧ (Pt, lamQ F.name) ∈ Z.tb ∧ ∀ p ∈ Z.tb, p.1 = Pt → p.2 = lamQ F.name
  gls : ∀ g x, T.gl[g]? = some x → ∃ v u, mg x = some u ∧ RelV v u ∧ ∀ H w, Rp K H w v (Γ g)
  bi : ∀ b, mg (biN b) = none
  ty : ∀ t, mg (tyN t) = none
  isi : mg ("isinstance" : Str) = none
  rng : mg ("range" : Str) = none
  enu : mg ("enumerate" : Str) = none
  zip : mg ("zip" : Str) = none
  tbs : ∀ q ∈ T.tbs, TbIs K w mg q
def Tab.setLm (T : Tab) (b g : Bool) : Tab := { T with lm := b, gd := g }
def rowOk (T : Tab) (F : FnT) (df : Df) (N : List Str) (params : Arguments) (scope : Scope) (body : List Stmt) : Bool :=
  decide (df.n = N.length) && decide ((N.take F.ar).length = F.ar) && C8.scC N (N.take F.ar) scope && plainArgs params (N.take F.ar) && mCs (T.setLm F.lm F.gd) N scope df.body body && (okCs (T.setLm F.lm F.gd) F.own [] [] df.body).isSome
theorem rel_start {K : PySem.W.Frag} {H : Hp} {w : Wd} {vs : List V} {ds : List D} {N : List Str} (wo : WOk K H w) (r : RpL K H w vs ds) : Rel K H w [] (L2.start N vs) H w (ds.map some ++ List.replicate (N.length - ds.length) none) where
  wo := wo
  ex := Ext.refl _ _
  len := by
    unfold L2.start
    rw [List.length_append, List.length_append, List.length_map, List.length_map, List.length_replicate, List.length_replicate, r.length]
  get := fun i d h => by
    have hi : i < ds.length := by
      by_cases hi : i < ds.length
      · exact hi
      · rw [List.getElem?_append_right (by simpa using hi), List.getElem?_replicate] at h
        split at h <;> cases h
    rw [List.getElem?_append_left (by simpa using hi), List.getElem?_map] at h
    cases e : ds[i]? with
    | none => rw [e] at h; cases h
    | some a =>
      rw [e] at h
      cases h
      obtain ⟨v, h1, h2⟩ := r.get e
      refine ⟨v, ?_, fun q => (by cases q), fun _ => h2⟩
      unfold L2.start
      rw [List.getElem?_append_left (by rw [List.length_map, r.length]; exact hi), List.getElem?_map, h1]
      rfl
  ap := fun i j ds es a => (by cases a)
section
variable {Z : Exs} {T : Tab} {P : Program} {w : World} {K : PySem.W.Frag} {mg : Str → Option Value} {base : Heap}
theorem fn_row2 {c : Ctx} (Mo : ModOk Z c.Γ T P w K mg base) {k : Nat} (hk : FnsOk Z c T P w K mg base k) (hc : c.xt = T.xt)
    (hlo : ∀ j, k = j + 2 → ∃ c' : Ctx, (∀ b ρ, c.Λ b ρ = evE c' ρ b) ∧ c'.xt = c.xt ∧ c'.Γ = c.Γ ∧ FnsOk Z c' T P w K mg base j) (hlz : k < 2 → ∀ b ρ, c.Λ b ρ = stuck) {F : FnT} (hF : F ∈ T.fn) {df : Df} {N : List Str} {params : Arguments} {scope : Scope} {body : List Stmt} {a : Addr} {fd : FuncData}
    (F0 : FunD K F.name F.name params body scope [] [] a fd) (hm : mg F.name = some (.ref a)) (hr : rowOk T F df N params scope body = true) : FnB F.gd P w K mg base Z.CX (k + 3) a fd (N.take F.ar) (spF Z (runF c df) K F) := by
  unfold rowOk at hr
  simp only [Bool.and_eq_true, decide_eq_true_eq] at hr
  obtain ⟨⟨⟨⟨⟨h1, h2⟩, h3⟩, h4⟩, h5⟩, h6⟩ := hr
  have Sc := C8.fnScope_by h3
  obtain ⟨r, ho⟩ := Option.isSome_iff_exists.mp h6
  obtain ⟨oc, od, dV, kV, doc, pm, an, cdv, ct, osl, rfl, lk, hcd, _, _⟩ := F0.ex
  refine fnB_of lk hcd Sc (fun vs H Q E h => ?_) (fun A outer s H vs Q E hgd hroom h => ?_)
  · obtain ⟨_, _, hl, _⟩ := h
    rw [hl, h2]
  · obtain ⟨w0, ds, hl, wo, rp, hwT, hw⟩ := h
    let xk : Exn → S → Prop := fun x S' => ∀ cl dx H' w', w'.S = S' → Ext H w0 H' w' → WOk K H' w' → Z.XR K H' w' x cl dx → E cl dx H'
    have tk : Takes (cxOf Z.CX P w K mg base N F.name scope a cdv A outer s H E) (fun cls d _ H => E cls d H) := by
      unfold Exs.CX
      rw [Mo.eP, Mo.ew]
      exact takes_of (E := E) rfl rfl rfl rfl
    have x : XB Z c (T.setLm F.lm F.gd) k scope (cxOf Z.CX P w K mg base N F.name scope a cdv A outer s H E) H w0 xk E := {
      nd := Sc.nd
      calm := rfl
      room := hroom
      gd := hgd
      scope := rfl
      eP := Mo.eP
      ew := Mo.ew
      em := Mo.em
      xt := hc
      xs := Mo.xs
      wT := hwT
      fns := fun g G hG => hk g G hG
      xcs := Mo.xcs
      xfs := Mo.xfs
      subs := Mo.subs
      tds := Mo.tds
      lm := fun h => ⟨Mo.lms F hF h a _ _ _ _ hm lk, hlo, hlz⟩
      gls := Mo.gls
      bi := Mo.bi
      ty := Mo.ty
      isi := Mo.isi
      tbs := Mo.tbs
      rng := Mo.rng
      enu := Mo.enu
      zip := Mo.zip
      pass := by
        have q := passes_call tk fun cls d σ H h => (h : E cls d H)
        have e : L2.CX (cxOf Z.CX P w K mg base N F.name scope a cdv A outer s H E).prog (cxOf Z.CX P w K mg base N F.name scope a cdv A outer s H E).w = Z.CX := by
          show L2.CX P w = Z.CX
          unfold Exs.CX
          rw [Mo.eP, Mo.ew]
        rw [e] at q
        exact q
      lk := fun _ _ h => h
      own := passes_of rfl
      fn := fun _ => rfl
      kind := Sc.kind
      tk := tk }
    refine ⟨_, snd_Cs df.body x rfl h5 ho, w0, _, rel_start wo rp, ?_⟩
    have hw' : ((evCs c df.body (ds.map some ++ List.replicate (df.n - ds.length) none) >>= fun r => (match r.1 with
      | .ret d => pure d
      | .nx => pure D.non
      | _ => stuck : M D)) w0.S).wp (Post K H w0 (md F.own) Q) xk := hw
    rw [wp_bind, h1] at hw'
    refine wpq hw' fun y s' q => ?_
    obtain ⟨fl, ρ⟩ := y
    cases fl with
    | ret d => exact q
    | nx =>
      cases r with
      | none => trivial
      | some ω' => exact fun σ' H' w' e m R => q .non H' w' e R.ex R.wo (by cases F.own <;> exact Rp.non)
    | brk => exact q.elim
    | cont => exact q.elim
/-- the whole table: each def is there by its row -/
theorem fns_one {df : Nat → Df} {Γ : Nat → D} (Mo : ModOk Z Γ T P w K mg base) (h : ∀ f F, T.fn[f]? = some F → ∃ N params scope body a fd, FunD K F.name F.name params body scope [] [] a fd ∧ rowOk T F (df f) N params scope body = true ∧ mg F.name = some (.ref a)) {k : Nat}
    (ih : ∀ j, j ≤ k → FnsOk Z (CtxN df Γ T.xt j) T P w K mg base j) : ∀ (F : FnT) (f : Nat), T.fn[f]? = some F → ∀ {N params scope body a fd}, FunD K F.name F.name params body scope [] [] a fd → rowOk T F (df f) N params scope body = true → mg F.name = some (.ref a) →
      FnB F.gd P w K mg base Z.CX (k + 3) a fd (N.take F.ar) (spF Z (runF (CtxN df Γ T.xt k) (df f)) K F) := fun F f hF N params scope body a fd F0 hr hm => by
  have Mo' : ModOk Z (CtxN df Γ T.xt k).Γ T P w K mg base := by rw [CtxN_Γ]; exact Mo
  refine fn_row2 (c := CtxN df Γ T.xt k) Mo' (ih k (Nat.le_refl _)) (CtxN_xt k) (fun j hj => ?_) (fun hk b ρ => ?_) (List.mem_of_getElem? hF) F0 hm hr
  · subst hj
    exact ⟨CtxN df Γ T.xt j, fun _ _ => rfl, by rw [CtxN_xt, CtxN_xt], by rw [CtxN_Γ, CtxN_Γ], ih j (by omega)⟩
  · match k, hk with
    | 0, _ => rfl
    | 1, _ => rfl
theorem fns_all {df : Nat → Df} {Γ : Nat → D} (Mo : ModOk Z Γ T P w K mg base) (h : ∀ f F, T.fn[f]? = some F → ∃ N params scope body a fd, FunD K F.name F.name params body scope [] [] a fd ∧ rowOk T F (df f) N params scope body = true ∧ mg F.name = some (.ref a)) :
    ∀ k, ∀ j, j ≤ k → FnsOk Z (CtxN df Γ T.xt j) T P w K mg base j := by
  have zero : FnsOk Z (CtxN df Γ T.xt 0) T P w K mg base 0 := fun f F hF => by
    obtain ⟨N, params, scope, body, a, fd, F0, hr, hm⟩ := h f F hF
    unfold rowOk at hr
    simp only [Bool.and_eq_true, decide_eq_true_eq] at hr
    have no : ∀ vs H Q E, spF Z ((CtxN df Γ T.xt 0).Φ f) K F vs H Q E → False := fun vs H Q E ⟨_, _, _, _, _, _, h⟩ => h
    exact ⟨a, fd, N.take F.ar, hr.1.1.1.1.2, hm, F0.kp, F0.bindsN fun kV doc pm an cdv ct us hl => bind_plain hr.1.1.2 hl, fun vs H Q E h => (no _ _ _ _ h).elim, fun _ _ _ _ _ _ _ _ _ _ _ _ _ _ h => (no _ _ _ _ h).elim⟩
  intro k
  induction k with
  | zero =>
    intro j hj
    obtain rfl : j = 0 := by omega
    exact zero
  | succ k ih =>
    intro j hj
    rcases Nat.lt_or_ge j (k + 1) with q | q
    · exact ih j (by omega)
    · obtain rfl : j = k + 1 := by omega
      intro f F hF
      obtain ⟨N, params, scope, body, a, fd, F0, hr, hm⟩ := h f F hF
      have q := fns_one Mo h ih F f hF F0 hr hm
      unfold rowOk at hr
      simp only [Bool.and_eq_true, decide_eq_true_eq] at hr
      exact ⟨a, fd, N.take F.ar, hr.1.1.1.1.2, hm, F0.kp, F0.bindsN fun kV doc pm an cdv ct us hl => bind_plain hr.1.1.2 hl, q⟩
end
end DE

/-! DErun: Lean values as the language's values; what terms and statements do to them, step by step. -/
namespace DE
open PySem PySem.Spec

/-! ### encoders -/
def enT {α : Type} (e : α → D) (xs : List α) : D := .tup (xs.map e)
def enL {α : Type} (e : α → D) (xs : List α) : D := .lst (xs.map e)
def enP {α β : Type} (e : α → D) (f : β → D) (p : α × β) : D := .tup [e p.1, f p.2]
def enP3 {α β γ : Type} (e : α → D) (f : β → D) (g : γ → D) (p : α × β × γ) : D := .tup [e p.1, f p.2.1, g p.2.2]
/-- a text that is not too long -/
abbrev Wo := {x : Str // PyData.strOk x = true}
def enW (x : Wo) : D := .str x.1
/-- two things in a list -/
def enL2 {α β : Type} (e : α → D) (f : β → D) (p : α × β) : D := .lst [e p.1, f p.2]
/-- comparable by == -/
class Eqv {α : Type} [DecidableEq α] (e : α → D) where
  lay : ∀ a, (e a).py.canLay0 = true
  dep : Nat
  depth : ∀ a, (e a).py.depth ≤ dep
  eqv : ∀ a b, PyData.eqv (e a).py (e b).py = decide (a = b)
/-- the first difference decides, else the shorter is less -/
def lexL {α : Type} [DecidableEq α] (lt : α → α → Bool) : List α → List α → Bool
  | [], [] => false
  | [], _ :: _ => true
  | _ :: _, [] => false
  | x :: xs, y :: ys => if x = y then lexL lt xs ys else lt x y
/-- an order by <, told by a Bool function -/
structure Lin {α : Type} (lt : α → α → Bool) : Prop where
  irr : ∀ a, lt a a = false
  tr : ∀ a b c, lt a b = true → lt b c = true → lt a c = true
  tot : ∀ a b, a = b ∨ lt a b = true ∨ lt b a = true
theorem Lin.as {α : Type} {lt : α → α → Bool} (h : Lin lt) (a b : α) (q : lt a b = true) : ¬ lt b a = true := fun r => by
  have := h.tr _ _ _ q r
  rw [h.irr] at this
  cases this
theorem lin_int : Lin (fun a b : Int => decide (a < b)) := ⟨fun a => by simp, fun a b c h1 h2 => by simp at *; omega, fun a b => by simp; omega⟩
theorem lin_lex {α : Type} [DecidableEq α] {lt : α → α → Bool} (h : Lin lt) : Lin (lexL lt) where
  irr := fun a => by
    induction a with
    | nil => rfl
    | cons x a ih => rw [lexL, if_pos rfl, ih]
  tr := fun a => by
    induction a with
    | nil => intro b c h1 h2; cases b <;> cases c <;> simp_all [lexL]
    | cons x a ih =>
      intro b c h1 h2
      cases b with
      | nil => simp [lexL] at h1
      | cons y b =>
        cases c with
        | nil => simp [lexL] at h2
        | cons z c =>
          simp only [lexL] at h1 h2 ⊢
          by_cases e1 : x = y
          · subst e1
            rw [if_pos rfl] at h1
            by_cases e2 : x = z
            · subst e2
              rw [if_pos rfl] at h2 ⊢
              exact ih _ _ h1 h2
            · rw [if_neg e2] at h2 ⊢
              exact h2
          · rw [if_neg e1] at h1
            by_cases e2 : y = z
            · subst e2
              rw [if_neg e1]
              exact h1
            · rw [if_neg e2] at h2
              have h3 := h.tr _ _ _ h1 h2
              have e3 : x ≠ z := fun e => by
                subst e
                rw [h.irr] at h3
                cases h3
              rw [if_neg e3]
              exact h3
  tot := fun a => by
    induction a with
    | nil => intro b; cases b <;> simp [lexL]
    | cons x a ih =>
      intro b
      cases b with
      | nil => simp [lexL]
      | cons y b =>
        simp only [lexL]
        by_cases e : x = y
        · subst e
          rw [if_pos rfl, if_pos rfl]
          rcases ih b with rfl | q | q
          · exact .inl rfl
          · exact .inr (.inl q)
          · exact .inr (.inr q)
        · rw [if_neg e, if_neg (Ne.symm e)]
          rcases h.tot x y with q | q | q
          · exact absurd q e
          · exact .inr (.inl q)
          · exact .inr (.inr q)
def ltP2 {α β : Type} [DecidableEq α] [DecidableEq β] (l1 : α → α → Bool) (l2 : β → β → Bool) (p q : α × β) : Bool := if p.1 = q.1 then (if p.2 = q.2 then false else l2 p.2 q.2) else l1 p.1 q.1
theorem lin_P2 {α β : Type} [DecidableEq α] [DecidableEq β] {l1 : α → α → Bool} {l2 : β → β → Bool} (h1 : Lin l1) (h2 : Lin l2) : Lin (ltP2 l1 l2) where
  irr := fun a => by simp [ltP2]
  tr := fun ⟨a, a'⟩ ⟨b, b'⟩ ⟨c, c'⟩ q r => by
    unfold ltP2 at *
    dsimp only at *
    by_cases e1 : a = b
    · subst e1
      rw [if_pos rfl] at q
      by_cases e2 : a' = b'
      · rw [if_pos e2] at q; cases q
      · rw [if_neg e2] at q
        by_cases e3 : a = c
        · subst e3
          rw [if_pos rfl] at r ⊢
          by_cases e4 : b' = c'
          · rw [if_pos e4] at r; cases r
          · rw [if_neg e4] at r
            have t := h2.tr _ _ _ q r
            have e5 : a' ≠ c' := fun e => by rw [e, h2.irr] at t; cases t
            rw [if_neg e5]
            exact t
        · rw [if_neg e3] at r ⊢
          exact r
    · rw [if_neg e1] at q
      by_cases e2 : b = c
      · subst e2
        rw [if_neg e1]
        exact q
      · rw [if_neg e2] at r
        have t := h1.tr _ _ _ q r
        have e3 : a ≠ c := fun e => by rw [e, h1.irr] at t; cases t
        rw [if_neg e3]
        exact t
  tot := fun ⟨a, a'⟩ ⟨b, b'⟩ => by
    unfold ltP2
    dsimp only
    by_cases e : a = b
    · subst e
      rw [if_pos rfl, if_pos rfl]
      by_cases e' : a' = b'
      · exact .inl (by rw [e'])
      · rw [if_neg e', if_neg (Ne.symm e')]
        rcases h2.tot a' b' with r | r | r
        · exact absurd r e'
        · exact .inr (.inl r)
        · exact .inr (.inr r)
    · rw [if_neg e, if_neg (Ne.symm e)]
      rcases h1.tot a b with r | r | r
      · exact absurd r e
      · exact .inr (.inl r)
      · exact .inr (.inr r)
/-- comparable by <; t: a tuple -/
class Ord {α : Type} [DecidableEq α] (e : α → D) extends Eqv e where
  alike : ∀ a b, W.alike (e a).py (e b).py = true
  lt : α → α → Bool
  lt_eq : ∀ a b, W.dataLt (e a).py (e b).py = lt a b
  nn : ∀ a, notNon (e a) = true
  lin : Lin lt
section
variable {α β γ : Type} [DecidableEq α] [DecidableEq β] [DecidableEq γ] {e : α → D} {f : β → D} {g : γ → D}
theorem py_mapE (xs : List α) : pyAll (xs.map e) = xs.map fun x => (e x).py := by
  rw [pyAll_map, List.map_map]
  rfl
theorem lay_allE [Eqv e] : ∀ xs : List α, PyData.canLayAll0 (xs.map fun x => (e x).py) = true
  | [] => rfl
  | x :: xs => by
    simp only [List.map_cons, PyData.canLayAll0, Bool.and_eq_true]
    exact ⟨Eqv.lay x, lay_allE xs⟩
theorem depth_allE [Eqv e] : ∀ xs : List α, PyData.depthAll (xs.map fun x => (e x).py) ≤ Eqv.dep e
  | [] => Nat.zero_le _
  | x :: xs => by
    simp only [List.map_cons, PyData.depthAll]
    exact Nat.max_le.mpr ⟨Eqv.depth x, depth_allE xs⟩
theorem eqv_allE [Eqv e] : ∀ xs ys : List α, PyData.eqvAll (xs.map fun x => (e x).py) (ys.map fun x => (e x).py) = decide (xs = ys)
  | [], [] => by simp [PyData.eqvAll]
  | [], y :: ys => by simp [PyData.eqvAll]
  | x :: xs, [] => by simp [PyData.eqvAll]
  | x :: xs, y :: ys => by
    simp only [List.map_cons, PyData.eqvAll, Eqv.eqv, eqv_allE xs ys, List.cons.injEq]
    by_cases h : x = y <;> by_cases h2 : xs = ys <;> simp [h, h2]
theorem alike_allE [Ord e] : ∀ xs ys : List α, W.alikeAll (xs.map fun x => (e x).py) (ys.map fun x => (e x).py) = true
  | [], _ => by simp [W.alikeAll]
  | _ :: _, [] => by simp [W.alikeAll]
  | x :: xs, y :: ys => by
    simp only [List.map_cons, W.alikeAll, Bool.and_eq_true]
    exact ⟨Ord.alike x y, alike_allE xs ys⟩
theorem lex_allE [Ord e] : ∀ xs ys : List α, PyProof.Rows.lexLt PyProof.Rows.itemOrd (W.keyToksAll (xs.map fun x => (e x).py)) (W.keyToksAll (ys.map fun x => (e x).py)) = lexL (Ord.lt e) xs ys
  | [], [] => PyProof.Rows.lex_irrefl _
  | [], y :: ys => by
    rw [List.map_nil, List.map_cons, W.toks_all_cons]
    simp only [W.keyToksAll]
    rw [PyProof.Rows.lex_diff (O := PyProof.Rows.itemOrd) (by simp)]
    rfl
  | x :: xs, [] => by
    rw [List.map_nil, List.map_cons, W.toks_all_cons]
    simp only [W.keyToksAll]
    rw [PyProof.Rows.lex_diff (O := PyProof.Rows.itemOrd) (by simp)]
    rfl
  | x :: xs, y :: ys => by
    rw [List.map_cons, List.map_cons, lexL]
    by_cases h : x = y
    · rw [if_pos h, W.dataLt_all_yes (Ord.alike x y) (by rw [Eqv.eqv, decide_eq_true_eq]; exact h), lex_allE xs ys]
    · rw [if_neg h, W.dataLt_all_no (Ord.alike x y) (by rw [Eqv.eqv, decide_eq_false_iff_not]; exact h)]
      exact Ord.lt_eq x y
instance : Ord D.int where
  lay _ := rfl
  dep := 0
  depth _ := Nat.le_refl _
  eqv a b := by simp only [D.py, PyData.eqv]; rfl
  alike a b := by simp only [D.py, W.alike]
  lt a b := decide (a < b)
  lt_eq a b := W.dataLt_int a b
  nn _ := rfl
  lin := lin_int
instance : Eqv D.bl where
  lay _ := rfl
  dep := 0
  depth _ := Nat.le_refl _
  eqv a b := by cases a <;> cases b <;> rfl
instance : Eqv enW where
  lay x := x.2
  dep := 0
  depth _ := Nat.le_refl _
  eqv a b := by
    simp only [enW, D.py, PyData.eqv]
    rw [Bool.eq_iff_iff, beq_iff_eq, decide_eq_true_eq, Subtype.ext_iff]
instance [Eqv e] : Eqv (enT e) where
  lay xs := by
    simp only [enT, D.py, py_mapE, PyData.canLay0]
    exact lay_allE xs
  dep := Eqv.dep e + 1
  depth xs := by
    simp only [enT, D.py, py_mapE, PyData.depth]
    exact Nat.succ_le_succ (depth_allE xs)
  eqv xs ys := by
    simp only [enT, D.py, py_mapE, PyData.eqv]
    exact eqv_allE xs ys
instance [Eqv e] : Eqv (enL e) where
  lay xs := by
    simp only [enL, D.py, py_mapE, PyData.canLay0]
    exact lay_allE xs
  dep := Eqv.dep e + 1
  depth xs := by
    simp only [enL, D.py, py_mapE, PyData.depth]
    exact Nat.succ_le_succ (depth_allE xs)
  eqv xs ys := by
    simp only [enL, D.py, py_mapE, PyData.eqv]
    exact eqv_allE xs ys
instance [Eqv e] [Eqv f] : Eqv (enP e f) where
  lay p := by
    simp only [enP, D.py, pyAll, PyData.canLay0, PyData.canLayAll0, Bool.and_eq_true]
    exact ⟨Eqv.lay p.1, Eqv.lay p.2, trivial⟩
  dep := max (Eqv.dep e) (Eqv.dep f) + 1
  depth p := by
    simp only [enP, D.py, pyAll, PyData.depth, PyData.depthAll]
    have h1 := Eqv.depth (e := e) p.1
    have h2 := Eqv.depth (e := f) p.2
    omega
  eqv p q := by
    simp only [enP, D.py, pyAll, PyData.eqv, PyData.eqvAll, Eqv.eqv]
    obtain ⟨a, b⟩ := p
    obtain ⟨c, d⟩ := q
    by_cases h : a = c <;> by_cases h2 : b = d <;> simp [h, h2]
instance [Eqv e] [Eqv f] : Eqv (enL2 e f) where
  lay p := by
    simp only [enL2, D.py, pyAll, PyData.canLay0, PyData.canLayAll0, Bool.and_eq_true]
    exact ⟨Eqv.lay p.1, Eqv.lay p.2, trivial⟩
  dep := max (Eqv.dep e) (Eqv.dep f) + 1
  depth p := by
    simp only [enL2, D.py, pyAll, PyData.depth, PyData.depthAll]
    have h1 := Eqv.depth (e := e) p.1
    have h2 := Eqv.depth (e := f) p.2
    omega
  eqv p q := by
    simp only [enL2, D.py, pyAll, PyData.eqv, PyData.eqvAll, Eqv.eqv]
    obtain ⟨a, b⟩ := p
    obtain ⟨c, d⟩ := q
    by_cases h : a = c <;> by_cases h2 : b = d <;> simp [h, h2]
instance [Eqv e] [Eqv f] [Eqv g] : Eqv (enP3 e f g) where
  lay p := by
    simp only [enP3, D.py, pyAll, PyData.canLay0, PyData.canLayAll0, Bool.and_eq_true]
    exact ⟨Eqv.lay p.1, Eqv.lay p.2.1, Eqv.lay p.2.2, trivial⟩
  dep := max (Eqv.dep e) (max (Eqv.dep f) (Eqv.dep g)) + 1
  depth p := by
    simp only [enP3, D.py, pyAll, PyData.depth, PyData.depthAll]
    have h1 := Eqv.depth (e := e) p.1
    have h2 := Eqv.depth (e := f) p.2.1
    have h3 := Eqv.depth (e := g) p.2.2
    omega
  eqv p q := by
    simp only [enP3, D.py, pyAll, PyData.eqv, PyData.eqvAll, Eqv.eqv]
    obtain ⟨a, b, c⟩ := p
    obtain ⟨a', b', c'⟩ := q
    by_cases h : a = a' <;> by_cases h2 : b = b' <;> by_cases h3 : c = c' <;> simp [h, h2, h3]
instance [Ord e] : Ord (enT e) where
  alike xs ys := by
    simp only [enT, D.py, py_mapE, W.alike]
    exact alike_allE xs ys
  lt := lexL (Ord.lt e)
  lt_eq xs ys := by
    simp only [enT, D.py, py_mapE]
    exact lex_allE xs ys
  nn _ := rfl
  lin := lin_lex Ord.lin
instance [Ord e] [Ord f] : Ord (enP e f) where
  alike p q := by
    simp only [enP, D.py, pyAll, W.alike, W.alikeAll, Bool.and_eq_true]
    exact ⟨Ord.alike p.1 q.1, Ord.alike p.2 q.2, trivial⟩
  lt := ltP2 (Ord.lt e) (Ord.lt f)
  lt_eq p q := by
    simp only [enP, D.py, pyAll]
    rw [W.dataLt_pair (Ord.alike p.1 q.1) (Ord.alike p.2 q.2), Eqv.eqv, Eqv.eqv, Ord.lt_eq, Ord.lt_eq]
    simp only [decide_eq_true_eq]
    rfl
  nn _ := rfl
  lin := lin_P2 Ord.lin Ord.lin
theorem shpE [Eqv e] (a : α) (h : Eqv.dep e ≤ 64) : shp (e a) = true := by
  unfold shp SeqAt.shaped
  rw [Bool.and_eq_true, decide_eq_true_eq]
  exact ⟨Eqv.lay a, Nat.le_trans (Eqv.depth a) h⟩
theorem eqDE [Eqv e] (a b : α) (h : Eqv.dep e ≤ 64) : eqD (e a) (e b) = pure (decide (a = b)) := by
  rw [eqD_of (shpE a h) (shpE b h), Eqv.eqv]
theorem ltDE [Ord e] (a b : α) (h : Eqv.dep e ≤ 64) : ltD (e a) (e b) = pure (Ord.lt e a b) := by
  unfold ltD
  rw [shpE a h, shpE b h, Ord.alike, Ord.nn, Ord.lt_eq]
  rfl
theorem any_eqvE [Eqv e] (a : α) (xs : List α) : ((xs.map e).any fun z => PyData.eqv z.py (e a).py) = decide (a ∈ xs) := by
  rw [List.any_map]
  induction xs with
  | nil => simp
  | cons x xs ih =>
    simp only [List.any_cons, ih, Function.comp_apply, Eqv.eqv, List.mem_cons]
    by_cases h : x = a
    · simp [h]
    · have h' : ¬ a = x := fun e => h e.symm
      simp [h, h']
theorem inTE [Eqv e] (a : α) (xs : List α) (h : Eqv.dep e ≤ 63) : inD (e a) (enT e xs) = pure (decide (a ∈ xs)) := by
  have h2 := shpE (e := enT e) xs (Nat.succ_le_succ h)
  unfold enT at h2 ⊢
  unfold inD
  simp only [shpE a (Nat.le_succ_of_le h), h2, any_eqvE]
  rfl
theorem inLE [Eqv e] (a : α) (xs : List α) (h : Eqv.dep e ≤ 63) : inD (e a) (enL e xs) = pure (decide (a ∈ xs)) := by
  have h2 := shpE (e := enL e) xs (Nat.succ_le_succ h)
  unfold enL at h2 ⊢
  unfold inD
  simp only [shpE a (Nat.le_succ_of_le h), h2, any_eqvE]
  rfl
/-! sorting -/
def leO (e : α → D) [Ord e] (a b : α) : Bool := !Ord.lt e b a
/-- merging, with as many steps as told -/
def mrg (lt : α → α → Bool) : Nat → List α → List α → List α
  | 0, xs, ys => xs ++ ys
  | _ + 1, [], ys => ys
  | _ + 1, x :: xs, [] => x :: xs
  | n + 1, x :: xs, y :: ys => if lt y x then y :: mrg lt n (x :: xs) ys else x :: mrg lt n xs (y :: ys)
def msort (lt : α → α → Bool) : Nat → List α → List α
  | 0, xs => xs
  | _ + 1, [] => []
  | _ + 1, [x] => [x]
  | n + 1, x :: y :: xs => mrg lt (xs.length + 2) (msort lt n ((x :: y :: xs).take ((xs.length + 2) / 2))) (msort lt n ((x :: y :: xs).drop ((xs.length + 2) / 2)))
theorem mrg_perm (lt : α → α → Bool) : ∀ (n : Nat) (xs ys : List α), (mrg lt n xs ys).Perm (xs ++ ys)
  | 0, _, _ => .refl _
  | _ + 1, [], _ => .refl _
  | _ + 1, x :: xs, [] => by rw [List.append_nil]; exact .refl _
  | n + 1, x :: xs, y :: ys => by
    rw [mrg]
    split
    · exact ((mrg_perm lt n (x :: xs) ys).cons y).trans List.perm_middle.symm
    · exact (mrg_perm lt n xs (y :: ys)).cons x
theorem msort_perm (lt : α → α → Bool) : ∀ (n : Nat) (xs : List α), (msort lt n xs).Perm xs
  | 0, _ => .refl _
  | _ + 1, [] => .refl _
  | _ + 1, [x] => .refl _
  | n + 1, x :: y :: xs => by
    rw [msort]
    refine (mrg_perm lt _ _ _).trans (((msort_perm lt n _).append (msort_perm lt n _)).trans ?_)
    rw [List.take_append_drop]
theorem mrg_pw {lt : α → α → Bool} (h : Lin lt) : ∀ (n : Nat) (xs ys : List α), xs.length + ys.length ≤ n → xs.Pairwise (fun a b => lt b a = false) → ys.Pairwise (fun a b => lt b a = false) → (mrg lt n xs ys).Pairwise (fun a b => lt b a = false)
  | 0, xs, ys, hl, h1, h2 => by
    have e1 : xs = [] := List.eq_nil_of_length_eq_zero (by omega)
    subst e1
    exact h2
  | _ + 1, [], ys, _, _, h2 => h2
  | _ + 1, x :: xs, [], _, h1, _ => h1
  | n + 1, x :: xs, y :: ys, hl, h1, h2 => by
    have tr : ∀ a b c, lt b a = false → lt c b = false → lt c a = false := fun a b c q r => by
      cases e : lt c a with
      | false => rfl
      | true =>
        rcases h.tot b c with rfl | w | w
        · rw [q] at e; cases e
        · have := h.tr _ _ _ w e
          rw [q] at this; cases this
        · rw [r] at w; cases w
    rw [List.pairwise_cons] at h1 h2
    simp only [List.length_cons] at hl
    rw [mrg]
    split
    · rename_i q
      have hq : lt x y = false := by
        cases e : lt x y with
        | false => rfl
        | true => exact absurd q (h.as _ _ e)
      rw [List.pairwise_cons]
      refine ⟨fun z hz => ?_, mrg_pw h n (x :: xs) ys (by simp only [List.length_cons]; omega) (List.pairwise_cons.mpr h1) h2.2⟩
      rcases List.mem_append.mp ((mrg_perm lt n _ _).mem_iff.mp hz) with r | r
      · rcases List.mem_cons.mp r with rfl | r
        · exact hq
        · exact tr _ _ _ hq (h1.1 z r)
      · exact h2.1 z r
    · rename_i q
      have hq : lt y x = false := by simpa using q
      rw [List.pairwise_cons]
      refine ⟨fun z hz => ?_, mrg_pw h n xs (y :: ys) (by simp only [List.length_cons]; omega) h1.2 (List.pairwise_cons.mpr h2)⟩
      rcases List.mem_append.mp ((mrg_perm lt n _ _).mem_iff.mp hz) with r | r
      · exact h1.1 z r
      · rcases List.mem_cons.mp r with rfl | r
        · exact hq
        · exact tr _ _ _ hq (h2.1 z r)
theorem msort_pw {lt : α → α → Bool} (h : Lin lt) : ∀ (n : Nat) (xs : List α), xs.length ≤ n → (msort lt n xs).Pairwise (fun a b => lt b a = false)
  | 0, xs, hl => by
    have e1 : xs = [] := List.eq_nil_of_length_eq_zero (by omega)
    subst e1
    exact .nil
  | _ + 1, [], _ => .nil
  | _ + 1, [x], _ => by simp [msort]
  | n + 1, x :: y :: xs, hl => by
    simp only [List.length_cons] at hl
    rw [msort]
    refine mrg_pw h _ _ _ ?_ (msort_pw h n _ ?_) (msort_pw h n _ ?_)
    · rw [(msort_perm lt n _).length_eq, (msort_perm lt n _).length_eq, List.length_take, List.length_drop]
      simp only [List.length_cons]
      omega
    · rw [List.length_take]; simp only [List.length_cons]; omega
    · rw [List.length_drop]; simp only [List.length_cons]; omega
def srt (e : α → D) [Ord e] (xs : List α) : List α := msort (Ord.lt e) xs.length xs
theorem srt_perm [Ord e] (xs : List α) : (srt e xs).Perm xs := msort_perm _ _ xs
theorem srt_length [Ord e] (xs : List α) : (srt e xs).length = xs.length := (srt_perm xs).length_eq
@[simp] theorem mem_srt [Ord e] {xs : List α} {a : α} : a ∈ srt e xs ↔ a ∈ xs := (srt_perm xs).mem_iff
theorem srt_pw0 [Ord e] (xs : List α) : (srt e xs).Pairwise fun a b => Ord.lt e b a = false := msort_pw Ord.lin _ xs (Nat.le_refl _)
theorem srt_merge [Ord e] (xs : List α) : xs.mergeSort (leO e) = srt e xs := by
  have h : Lin (Ord.lt e) := Ord.lin
  have q := List.pairwise_mergeSort (le := leO e) (fun a b c h1 h2 => by
    unfold leO at *
    simp only [Bool.not_eq_true'] at *
    cases q : Ord.lt e c a with
    | false => rfl
    | true =>
      rcases h.tot a b with rfl | r | r
      · rw [q] at h2; cases h2
      · have := h.tr _ _ _ q r
        rw [this] at h2; cases h2
      · rw [r] at h1; cases h1) (fun a b => by
    unfold leO
    rcases h.tot a b with rfl | r | r
    · rw [h.irr]; rfl
    · have := h.as _ _ r
      simp only [Bool.not_eq_true] at this
      rw [this]; rfl
    · have := h.as _ _ r
      simp only [Bool.not_eq_true] at this
      rw [this]; simp) xs
  refine ((List.mergeSort_perm xs _).trans (srt_perm xs).symm).eq_of_pairwise (le := fun a b => Ord.lt e b a = false) (fun a b _ _ h1 h2 => ?_) (q.imp fun {a b} hab => ?_) (srt_pw0 xs)
  · rcases h.tot a b with r | r | r
    · exact r
    · rw [r] at h2; cases h2
    · rw [r] at h1; cases h1
  · unfold leO at hab
    simpa using hab
theorem sortDE [Ord e] (xs : List α) (hd : Eqv.dep e ≤ 64) (hl : xs.length ≤ LINE) (ht : (∀ x ∈ xs, fullTup (e x) = true) ∨ ∀ x ∈ xs, noTup (e x) = true) : sortD (xs.map e) = pure (enL e (srt e xs)) := by
  have hs : sortable (xs.map e) = true := by
    unfold sortable
    simp only [Bool.and_eq_true, List.all_eq_true, List.mem_map, decide_eq_true_eq, List.length_map, Bool.or_eq_true]
    refine ⟨⟨⟨?_, ?_⟩, hl⟩, ?_⟩
    · rintro _ ⟨a, _, rfl⟩ _ ⟨b, _, rfl⟩
      exact Ord.alike a b
    · rintro _ ⟨a, _, rfl⟩
      exact shpE a hd
    · rcases ht with h | h
      · left
        rintro _ ⟨a, ha, rfl⟩
        exact h a ha
      · right
        rintro _ ⟨a, ha, rfl⟩
        exact h a ha
  unfold sortD
  rw [if_pos hs]
  rw [← srt_merge]
  unfold enL
  congr 2
  refine (List.map_mergeSort fun a _ b _ => ?_).symm
  show (!Ord.lt e b a) = (!W.dataLt (e b).py (e a).py)
  rw [Ord.lt_eq]
end

/-! ### what terms say -/
def Ev (c : Ctx) (ρ : Env) (e : E) (d : D) : Prop := evE c ρ e = pure d
def Evs (c : Ctx) (ρ : Env) (e : Es) (ds : List D) : Prop := evEs c ρ e = pure ds
def Evss (c : Ctx) (ρ : Env) (e : Ss) (ds : List D) : Prop := evSs c ρ e = pure ds
def Evi (c : Ctx) (ρ : Env) (e : Sr) (ds : List D) : Prop := evIt c ρ e = pure ds
def Evc (c : Ctx) (ρ : Env) (o : Oe) (b : Bool) : Prop := evC c ρ o = pure b
section
variable {c : Ctx} {ρ : Env} {α β γ δ : Type} {ea : α → D} {eb : β → D}
theorem ev_of {a : E} {x y : D} (h : Ev c ρ a x) (q : x = y) : Ev c ρ a y := q ▸ h
/-- an expression's value by another name -/
theorem ev_eq {a : E} {x y : α} (q : x = y) (h : Ev c ρ a (ea y)) : Ev c ρ a (ea x) := q ▸ h
theorem ev_var {i : Nat} {d : D} (h : ρ[i]? = some (some d)) : Ev c ρ (.var i) d := by
  show Env.get ρ i = _
  unfold Env.get
  rw [h]
theorem ev_cst (k : Cst) : Ev c ρ (.cst k) k.d := by simp only [Ev, evE]
theorem ev_int (i : Int) : Ev c ρ (.cst (.int i)) (.int i) := ev_cst (.int i)
theorem ev_bl (i : Bool) : Ev c ρ (.cst (.bl i)) (.bl i) := ev_cst (.bl i)
theorem ev_str (i : Str) : Ev c ρ (.cst (.str i)) (.str i) := ev_cst (.str i)
theorem ev_non : Ev c ρ (.cst .non) .non := ev_cst .non
theorem ev_glob {g : Nat} {d : D} (h : c.Γ g = d) : Ev c ρ (.glob g) d := by
  subst h
  simp only [Ev, evE]
theorem ev_neg {a : E} {i : Int} (h : Ev c ρ a (.int i)) : Ev c ρ (.neg a) (.int (-i)) := by
  unfold Ev at h ⊢
  simp only [evE, h, pure_bind']
  rfl
theorem ev_not {a : E} {i : Bool} (h : Ev c ρ a (.bl i)) : Ev c ρ (.not a) (.bl (!i)) := by
  unfold Ev at h ⊢
  simp only [evE, h, pure_bind', boolD]
theorem ev_bin {op : Bop} {a b : E} {x y z : D} (h : Ev c ρ a x) (h2 : Ev c ρ b y) (q : binD op x y = pure z) : Ev c ρ (.bin op a b) z := by
  unfold Ev at h h2 ⊢
  simp only [evE, h, h2, pure_bind', q]
theorem ev_add {a b : E} {i j : Int} (h : Ev c ρ a (.int i)) (h2 : Ev c ρ b (.int j)) : Ev c ρ (.bin .add a b) (.int (i + j)) := ev_bin h h2 rfl
theorem ev_sub {a b : E} {i j : Int} (h : Ev c ρ a (.int i)) (h2 : Ev c ρ b (.int j)) : Ev c ρ (.bin .sub a b) (.int (i - j)) := ev_bin h h2 rfl
theorem ev_mul {a b : E} {i j : Int} (h : Ev c ρ a (.int i)) (h2 : Ev c ρ b (.int j)) (q : (small i || small j) = true) : Ev c ρ (.bin .mul a b) (.int (i * j)) := ev_bin h h2 (if_pos q)
theorem ev_fdiv {a b : E} {i j : Int} (h : Ev c ρ a (.int i)) (h2 : Ev c ρ b (.int j)) (q : j ≠ 0 ∧ j.natAbs < 1073741824) : Ev c ρ (.bin .fdiv a b) (.int (i.fdiv j)) := ev_bin h h2 (if_pos q)
theorem ev_mod {a b : E} {i j : Int} (h : Ev c ρ a (.int i)) (h2 : Ev c ρ b (.int j)) (q : j ≠ 0) : Ev c ρ (.bin .mod a b) (.int (i.fmod j)) := ev_bin h h2 (if_pos q)
theorem ev_pow {a b : E} {i j : Int} (h : Ev c ρ a (.int i)) (h2 : Ev c ρ b (.int j)) (q : 0 ≤ j ∧ j ≤ 1000000 ∧ i.natAbs < 2 ^ 64) : Ev c ρ (.bin .pow a b) (.int (i ^ j.toNat)) := ev_bin h h2 (if_pos q)
theorem ev_catT {a b : E} {x y : List α} (h : Ev c ρ a (enT ea x)) (h2 : Ev c ρ b (enT ea y)) (q : x.length + y.length ≤ LINE) : Ev c ρ (.bin .add a b) (enT ea (x ++ y)) := ev_bin h h2 (by
  unfold enT
  rw [List.map_append]
  exact if_pos (by simpa only [List.length_map] using q))
theorem ev_catL {a b : E} {x y : List α} (h : Ev c ρ a (enL ea x)) (h2 : Ev c ρ b (enL ea y)) (q : x.length + y.length ≤ LINE) : Ev c ρ (.bin .add a b) (enL ea (x ++ y)) := ev_bin h h2 (by
  unfold enL
  rw [List.map_append]
  exact if_pos (by simpa only [List.length_map] using q))
theorem ev_repT {a b : E} {x : List α} {k : Int} (h : Ev c ρ a (enT ea x)) (h2 : Ev c ρ b (.int k)) (q : 1 ≤ x.length ∧ 2 ≤ k ∧ k ≤ 1000 ∧ x.length ≤ 1000) : Ev c ρ (.bin .mul a b) (enT ea (List.replicate k.toNat x).flatten) := ev_bin h h2 (by
  unfold enT
  simp only [binD, List.length_map]
  rw [if_pos q, List.map_flatten, List.map_replicate])
theorem ev_cmp {o : Cop} {a b : E} {x y : D} {r : Bool} (h : Ev c ρ a x) (h2 : Ev c ρ b y) (q : cmpD o x y = pure r) : Ev c ρ (.cmp o a b) (.bl r) := by
  unfold Ev at h h2 ⊢
  simp only [evE, h, h2, pure_bind', q]
theorem cm_lt (i j : Int) : cmpD .lt (.int i) (.int j) = pure (decide (i < j)) := rfl
theorem cm_le (i j : Int) : cmpD .le (.int i) (.int j) = pure (decide (i ≤ j)) := rfl
theorem cm_gt (i j : Int) : cmpD .gt (.int i) (.int j) = pure (decide (j < i)) := rfl
theorem cm_ge (i j : Int) : cmpD .ge (.int i) (.int j) = pure (decide (j ≤ i)) := rfl
theorem cm_eq [DecidableEq α] [Eqv ea] (x y : α) (h : Eqv.dep ea ≤ 64) [Decidable (x = y)] : cmpD .eq (ea x) (ea y) = pure (decide (x = y)) := (eqDE x y h).trans (by congr)
theorem cm_ne [DecidableEq α] [Eqv ea] (x y : α) (h : Eqv.dep ea ≤ 64) [Decidable (x = y)] : cmpD .ne (ea x) (ea y) = pure (!decide (x = y)) := by
  show (eqD _ _ >>= fun r => pure !r) = _
  rw [eqDE x y h]
  show (pure _ : M Bool) = _
  congr
theorem cm_inT [DecidableEq α] [Eqv ea] (x : α) (y : List α) (h : Eqv.dep ea ≤ 63) [Decidable (x ∈ y)] : cmpD .in_ (ea x) (enT ea y) = pure (decide (x ∈ y)) := by
  have e : inD (ea x) (enT ea y) = pure (decide (x ∈ y)) := (inTE x y h).trans (by congr)
  rw [← e]
  cases ea x <;> rfl
theorem cm_inL [DecidableEq α] [Eqv ea] (x : α) (y : List α) (h : Eqv.dep ea ≤ 63) [Decidable (x ∈ y)] : cmpD .in_ (ea x) (enL ea y) = pure (decide (x ∈ y)) := by
  have e : inD (ea x) (enL ea y) = pure (decide (x ∈ y)) := (inLE x y h).trans (by congr)
  rw [← e]
  cases ea x <;> rfl
theorem cm_nin (x y : D) : cmpD .nin x y = (inD x y >>= fun r => pure !r) := by cases x <;> rfl
theorem cm_ninT [DecidableEq α] [Eqv ea] (x : α) (y : List α) (h : Eqv.dep ea ≤ 63) [Decidable (x ∈ y)] : cmpD .nin (ea x) (enT ea y) = pure (!decide (x ∈ y)) := by
  rw [cm_nin, inTE x y h]
  show (pure _ : M Bool) = _
  congr
theorem cm_ninL [DecidableEq α] [Eqv ea] (x : α) (y : List α) (h : Eqv.dep ea ≤ 63) [Decidable (x ∈ y)] : cmpD .nin (ea x) (enL ea y) = pure (!decide (x ∈ y)) := by
  rw [cm_nin, inLE x y h]
  show (pure _ : M Bool) = _
  congr
theorem cm_ltD (x y : D) : cmpD .lt x y = ltD x y := by
  cases x <;> cases y <;> first
    | rfl
    | (rename_i i j
       show pure (decide (i < j)) = ltD (.int i) (.int j)
       exact (ltDE (e := D.int) i j (by decide)).symm)
theorem cm_ltE [DecidableEq α] [Ord ea] (x y : α) (h : Eqv.dep ea ≤ 64) : cmpD .lt (ea x) (ea y) = pure (Ord.lt ea x y) := by rw [cm_ltD, ltDE x y h]
theorem geDE [DecidableEq α] [Ord ea] (x y : α) (h : Eqv.dep ea ≤ 64) : geD (ea x) (ea y) = pure (!Ord.lt ea x y) := by
  have e := ltDE (e := ea) x y h
  unfold geD
  have n : notNon (ea x) = true := Ord.nn x
  rw [shpE x h, shpE y h, Ord.alike x y, n, Ord.lt_eq]
  rfl
theorem cm_geD [DecidableEq α] [Ord ea] (x y : α) (h : Eqv.dep ea ≤ 64) (hn : ∀ x i, ea x ≠ .int i) : cmpD .ge (ea x) (ea y) = pure (!Ord.lt ea x y) := by
  rw [← geDE x y h]
  cases e : ea x with
  | int i => exact absurd e (hn x i)
  | _ => rfl
theorem ev_chain {o1 o2 : Cop} {a b e : E} {x y z : D} {r1 r2 : Bool} (h1 : Ev c ρ a x) (h2 : Ev c ρ b y) (h3 : Ev c ρ e z) (q1 : cmpD o1 x y = pure r1) (q2 : cmpD o2 y z = pure r2) : Ev c ρ (.chain o1 o2 a b e) (.bl (r1 && r2)) := by
  unfold Ev at h1 h2 h3 ⊢
  simp only [evE, h1, h2, pure_bind', q1]
  cases r1 with
  | true => simp only [if_true, h3, pure_bind', q2]; rfl
  | false => rfl
theorem ev_and {a b : E} {x y : Bool} (h1 : Ev c ρ a (.bl x)) (h2 : x = true → Ev c ρ b (.bl y)) : Ev c ρ (.and a b) (.bl (x && y)) := by
  unfold Ev at *
  simp only [evE, h1, pure_bind', boolD]
  cases x with
  | true => simp only [if_true, h2 rfl, Bool.true_and]
  | false => rfl
theorem ev_or {a b : E} {x y : Bool} (h1 : Ev c ρ a (.bl x)) (h2 : x = false → Ev c ρ b (.bl y)) : Ev c ρ (.or a b) (.bl (x || y)) := by
  unfold Ev at *
  simp only [evE, h1, pure_bind', boolD]
  cases x with
  | true => rfl
  | false => simp only [Bool.false_eq_true, if_false, h2 rfl, Bool.false_or]
theorem ev_ife {t a b : E} {z : Bool} {x y : α} (h1 : Ev c ρ t (.bl z)) (h2 : z = true → Ev c ρ a (ea x)) (h3 : z = false → Ev c ρ b (ea y)) : Ev c ρ (.ife t a b) (ea (if z then x else y)) := by
  unfold Ev at *
  simp only [evE, h1, pure_bind', boolD]
  cases z with
  | true => simp only [if_true, h2 rfl]
  | false => simp only [Bool.false_eq_true, if_false, h3 rfl]
theorem evs_nil : Evs c ρ .nil [] := by simp only [Evs, evEs]
theorem evs_cons {a : E} {as : Es} {x : D} {xs : List D} (h : Ev c ρ a x) (t : Evs c ρ as xs) : Evs c ρ (.cons a as) (x :: xs) := by
  unfold Ev at h
  unfold Evs at t ⊢
  simp only [evEs, h, t, pure_bind']
theorem evss_nil : Evss c ρ .nil [] := by simp only [Evss, evSs]
theorem evss_cons {a : E} {as : Ss} {x : D} {xs : List D} (h : Ev c ρ a x) (t : Evss c ρ as xs) : Evss c ρ (.cons a as) (x :: xs) := by
  unfold Ev at h
  unfold Evss at t ⊢
  simp only [evSs, h, t, pure_bind']
theorem evss_starT {a : E} {as : Ss} {x : List α} {xs : List D} (h : Ev c ρ a (enT ea x)) (t : Evss c ρ as xs) : Evss c ρ (.star a as) (x.map ea ++ xs) := by
  unfold Ev at h
  unfold Evss at t ⊢
  simp only [evSs, h, t, pure_bind', enT, starD, itemsD]
theorem evss_starL {a : E} {as : Ss} {x : List α} {xs : List D} (h : Ev c ρ a (enL ea x)) (t : Evss c ρ as xs) : Evss c ρ (.star a as) (x.map ea ++ xs) := by
  unfold Ev at h
  unfold Evss at t ⊢
  simp only [evSs, h, t, pure_bind', enL, starD, itemsD]
theorem ev_call {f : Nat} {as : Es} {ds : List D} {d : D} (h : Evs c ρ as ds) (q : c.Φ f ds = pure d) : Ev c ρ (.call f as) d := by
  unfold Evs at h
  unfold Ev
  simp only [evE, h, pure_bind', q]
theorem ev_bi {b : Bi} {as : Es} {ds : List D} {d : D} (h : Evs c ρ as ds) (q : biD b ds = pure d) : Ev c ρ (.bi b as) d := by
  unfold Evs at h
  unfold Ev
  simp only [evE, h, pure_bind', q]
theorem ev_bi1 {b : Bi} {a : E} {x d : D} (h : Ev c ρ a x) (q : biD b [x] = pure d) : Ev c ρ (.bi b (.cons a .nil)) d := ev_bi (evs_cons h evs_nil) q
theorem ev_bi2 {b : Bi} {a a' : E} {x y d : D} (h : Ev c ρ a x) (h2 : Ev c ρ a' y) (q : biD b [x, y] = pure d) : Ev c ρ (.bi b (.cons a (.cons a' .nil))) d := ev_bi (evs_cons h (evs_cons h2 evs_nil)) q
theorem ev_lenT {a : E} {x : List α} (h : Ev c ρ a (enT ea x)) : Ev c ρ (.bi .len (.cons a .nil)) (.int x.length) := ev_bi1 h (by
  show pure (D.int ((x.map ea).length : Nat)) = _
  rw [List.length_map])
theorem ev_lenL {a : E} {x : List α} (h : Ev c ρ a (enL ea x)) : Ev c ρ (.bi .len (.cons a .nil)) (.int x.length) := ev_bi1 h (by
  show pure (D.int ((x.map ea).length : Nat)) = _
  rw [List.length_map])
theorem intsE (ns : List Int) : ints? (ns.map D.int) = some ns := by
  induction ns with
  | nil => rfl
  | cons n ns ih => simp only [List.map_cons, ints?, ih, Option.map_some]
theorem boolsE (ns : List Bool) : bools? (ns.map D.bl) = some ns := by
  induction ns with
  | nil => rfl
  | cons n ns ih => simp only [List.map_cons, bools?, ih, Option.map_some]
theorem ev_sum {a : E} {x : List Int} (h : Ev c ρ a (enL D.int x)) : Ev c ρ (.bi .sum (.cons a .nil)) (.int x.sum) := ev_bi1 h (by
  show optF (ints? (x.map D.int)) _ = _
  rw [intsE]
  rfl)
theorem ev_all {a : E} {x : List Bool} (h : Ev c ρ a (enL D.bl x)) : Ev c ρ (.bi .all (.cons a .nil)) (.bl (x.all id)) := ev_bi1 h (by
  show optF (bools? (x.map D.bl)) _ = _
  rw [boolsE]
  rfl)
theorem ev_any {a : E} {x : List Bool} (h : Ev c ρ a (enL D.bl x)) : Ev c ρ (.bi .any (.cons a .nil)) (.bl (x.any id)) := ev_bi1 h (by
  show optF (bools? (x.map D.bl)) _ = _
  rw [boolsE]
  rfl)
theorem ev_sortT [DecidableEq α] [Ord ea] {a : E} {x : List α} (h : Ev c ρ a (enT ea x)) (hd : Eqv.dep ea ≤ 64) (hl : x.length ≤ LINE) (ht : (∀ y ∈ x, fullTup (ea y) = true) ∨ ∀ y ∈ x, noTup (ea y) = true) : Ev c ρ (.bi .sorted (.cons a .nil)) (enL ea (srt ea x)) := ev_bi1 h (sortDE x hd hl ht)
theorem ev_sortL [DecidableEq α] [Ord ea] {a : E} {x : List α} (h : Ev c ρ a (enL ea x)) (hd : Eqv.dep ea ≤ 64) (hl : x.length ≤ LINE) (ht : (∀ y ∈ x, fullTup (ea y) = true) ∨ ∀ y ∈ x, noTup (ea y) = true) : Ev c ρ (.bi .sorted (.cons a .nil)) (enL ea (srt ea x)) := ev_bi1 h (sortDE x hd hl ht)
theorem full_T {x : α} {xs : List α} : fullTup (enT ea (x :: xs)) = true := rfl
theorem full_ne {xs : List α} (h : xs ≠ []) : fullTup (enT ea xs) = true := by
  cases xs with
  | nil => exact absurd rfl h
  | cons x xs => rfl
theorem ev_tupL {a : E} {x : List α} (h : Ev c ρ a (enL ea x)) : Ev c ρ (.bi .tuple (.cons a .nil)) (enT ea x) := ev_bi1 h rfl
theorem ev_tupT {a : E} {x : List α} (h : Ev c ρ a (enT ea x)) : Ev c ρ (.bi .tuple (.cons a .nil)) (enT ea x) := ev_bi1 h rfl
theorem ev_lstL {a : E} {x : List α} (h : Ev c ρ a (enL ea x)) : Ev c ρ (.bi .list (.cons a .nil)) (enL ea x) := ev_bi1 h rfl
theorem ev_lstT {a : E} {x : List α} (h : Ev c ρ a (enT ea x)) : Ev c ρ (.bi .list (.cons a .nil)) (enL ea x) := ev_bi1 h rfl
theorem ev_int1 {a : E} {i : Int} (h : Ev c ρ a (.int i)) : Ev c ρ (.bi .int1 (.cons a .nil)) (.int i) := ev_bi1 h rfl
theorem ev_min2 {a b : E} {i j : Int} (h : Ev c ρ a (.int i)) (h2 : Ev c ρ b (.int j)) : Ev c ρ (.bi .min2 (.cons a (.cons b .nil))) (.int (min i j)) := ev_bi2 h h2 (by
  show pure (D.int (if j < i then j else i)) = _
  congr 2
  rw [Int.min_def]
  split <;> split <;> omega)
theorem ev_max2 {a b : E} {i j : Int} (h : Ev c ρ a (.int i)) (h2 : Ev c ρ b (.int j)) : Ev c ρ (.bi .max2 (.cons a (.cons b .nil))) (.int (max i j)) := ev_bi2 h h2 (by
  show pure (D.int (if i < j then j else i)) = _
  congr 2
  rw [Int.max_def]
  split <;> split <;> omega)
theorem ev_min1 {a : E} {x : List Int} (h : Ev c ρ a (enL D.int x)) (q : x ≠ []) : Ev c ρ (.bi .min1 (.cons a .nil)) (.int (x.min?.getD 0)) := ev_bi1 h (by
  show optF (ints? (x.map D.int)) _ = _
  rw [intsE]
  cases e : x.min? with
  | none => exact absurd (List.min?_eq_none_iff.mp e) q
  | some m => show optF (x.min?) _ = _; rw [e]; rfl)
theorem ev_max1 {a : E} {x : List Int} (h : Ev c ρ a (enL D.int x)) (q : x ≠ []) : Ev c ρ (.bi .max1 (.cons a .nil)) (.int (x.max?.getD 0)) := ev_bi1 h (by
  show optF (ints? (x.map D.int)) _ = _
  rw [intsE]
  cases e : x.max? with
  | none => exact absurd (List.max?_eq_none_iff.mp e) q
  | some m => show optF (x.max?) _ = _; rw [e]; rfl)
theorem ev_rev {a : E} {d d' : D} (h : Ev c ρ a d) (q : revD d = pure d') : Ev c ρ (.rev a) d' := by
  unfold Ev at *
  simp only [evE]
  rw [h]
  exact q
theorem ev_gget {x : Str} {kvs : List (Str × Int)} {a : E} {d d' : D} (h : Ev c ρ a d) (q : tabGet kvs d = pure d') : Ev c ρ (.gget x kvs a) d' := by
  unfold Ev at *
  simp only [evE]
  rw [h]
  exact q
theorem ev_sdict {a : E} {d d' : D} (h : Ev c ρ a d) (q : sdictD d = pure d') : Ev c ρ (.sdict a) d' := by
  unfold Ev at *
  simp only [evE]
  rw [h]
  exact q
theorem ev_isi {a : E} {t : Ty} {d : D} {b : Bool} (h : Ev c ρ a d) (q : isiD t d = pure b) : Ev c ρ (.isi a t) (.bl b) := by
  unfold Ev at h ⊢
  simp only [evE, h, pure_bind', q]
theorem ev_subD {a i : E} {x y z : D} (h : Ev c ρ a x) (h2 : Ev c ρ i y) (q : subD x y = pure z) : Ev c ρ (.sub a i) z := by
  unfold Ev at h h2 ⊢
  simp only [evE, h, h2, pure_bind', q]
theorem atE [Inhabited α] (x : List α) (k : Int) (h0 : 0 ≤ k) (h1 : k < x.length) : optM (atD (x.map ea) k) = pure (ea (x.getD k.toNat default)) := by
  unfold atD ixN
  rw [if_pos h0, List.length_map, if_pos h1]
  show optM ((x.map ea)[k.toNat]?) = _
  have hl : k.toNat < x.length := by omega
  rw [List.getElem?_map, List.getElem?_eq_getElem hl, List.getD_eq_getElem?_getD, List.getElem?_eq_getElem hl]
  rfl
theorem atEn [Inhabited α] (x : List α) (k : Int) (h0 : k < 0) (h1 : -k ≤ x.length) : optM (atD (x.map ea) k) = pure (ea (x.getD (k + x.length).toNat default)) := by
  unfold atD ixN
  rw [if_neg (by omega), List.length_map, if_pos (by omega)]
  show optM ((x.map ea)[(k + x.length).toNat]?) = _
  have hl : (k + x.length).toNat < x.length := by omega
  rw [List.getElem?_map, List.getElem?_eq_getElem hl, List.getD_eq_getElem?_getD, List.getElem?_eq_getElem hl]
  rfl
theorem ev_subT [Inhabited α] {a i : E} {x : List α} {k : Int} (h : Ev c ρ a (enT ea x)) (h2 : Ev c ρ i (.int k)) (q : 0 ≤ k ∧ k < x.length) : Ev c ρ (.sub a i) (ea (x.getD k.toNat default)) := ev_subD h h2 (atE x k q.1 q.2)
theorem ev_subL [Inhabited α] {a i : E} {x : List α} {k : Int} (h : Ev c ρ a (enL ea x)) (h2 : Ev c ρ i (.int k)) (q : 0 ≤ k ∧ k < x.length) : Ev c ρ (.sub a i) (ea (x.getD k.toNat default)) := ev_subD h h2 (atE x k q.1 q.2)
theorem ev_lastT [Inhabited α] {a : E} {x : List α} (h : Ev c ρ a (enT ea x)) (q : x ≠ []) : Ev c ρ (.sub a (.neg (.cst (.int 1)))) (ea (x.getD (x.length - 1) default)) := by
  have hl : 0 < x.length := List.length_pos_iff.mpr q
  have e := ev_subD h (ev_neg (ev_int 1)) (atEn (ea := ea) x (-1) (by decide) (by omega))
  rwa [show (-1 + (x.length : Int)).toNat = x.length - 1 by omega] at e
theorem ev_lastL [Inhabited α] {a : E} {x : List α} (h : Ev c ρ a (enL ea x)) (q : x ≠ []) : Ev c ρ (.sub a (.neg (.cst (.int 1)))) (ea (x.getD (x.length - 1) default)) := by
  have hl : 0 < x.length := List.length_pos_iff.mpr q
  have e := ev_subD h (ev_neg (ev_int 1)) (atEn (ea := ea) x (-1) (by decide) (by omega))
  rwa [show (-1 + (x.length : Int)).toNat = x.length - 1 by omega] at e
theorem ev_fst {a : E} {p : α × β} (h : Ev c ρ a (enP ea eb p)) : Ev c ρ (.sub a (.cst (.int 0))) (ea p.1) := ev_subD h (ev_int 0) rfl
theorem ev_snd {a : E} {p : α × β} (h : Ev c ρ a (enP ea eb p)) : Ev c ρ (.sub a (.cst (.int 1))) (eb p.2) := ev_subD h (ev_int 1) rfl
theorem ev_p1 {ec : γ → D} {a : E} {p : α × β × γ} (h : Ev c ρ a (enP3 ea eb ec p)) : Ev c ρ (.sub a (.cst (.int 0))) (ea p.1) := ev_subD h (ev_int 0) rfl
theorem ev_p2 {ec : γ → D} {a : E} {p : α × β × γ} (h : Ev c ρ a (enP3 ea eb ec p)) : Ev c ρ (.sub a (.cst (.int 1))) (eb p.2.1) := ev_subD h (ev_int 1) rfl
theorem ev_p3 {ec : γ → D} {a : E} {p : α × β × γ} (h : Ev c ρ a (enP3 ea eb ec p)) : Ev c ρ (.sub a (.cst (.int 2))) (ec p.2.2) := ev_subD h (ev_int 2) rfl
def Evo (c : Ctx) (ρ : Env) (o : Oe) (i : Option Int) : Prop := (evO c ρ o >>= optI) = pure i
theorem evo_no : Evo c ρ .no none := by simp only [Evo, evO, pure_bind', optI]
theorem evo_yes {a : E} {i : Int} (h : Ev c ρ a (.int i)) : Evo c ρ (.yes a) (some i) := by
  unfold Ev at h
  simp only [Evo, evO, h, pure_bind', optI]
theorem ev_slice {a : E} {lo hi : Oe} {x y : D} {l h : Option Int} (ha : Ev c ρ a x) (hl : Evo c ρ lo l) (hh : Evo c ρ hi h) (q : sliceD x l h = pure y) : Ev c ρ (.slice a lo hi) y := by
  unfold Ev at ha ⊢
  unfold Evo at hl hh
  have e : evE c ρ (.slice a lo hi) = evE c ρ a >>= fun x => (evO c ρ lo >>= optI) >>= fun l => (evO c ρ hi >>= optI) >>= fun h => sliceD x l h := by
    simp only [evE, bind_assoc']
  rw [e, ha, hl, hh]
  exact q
theorem cut_map (f : α → D) (xs : List α) (l h : Option Int) : cut (xs.map f) l h = (cut xs l h).map f := by
  unfold cut
  rw [List.length_map, ← List.map_drop, ← List.map_take]
theorem ev_slT {a : E} {lo hi : Oe} {x : List α} {l h : Option Int} (ha : Ev c ρ a (enT ea x)) (hl : Evo c ρ lo l) (hh : Evo c ρ hi h) : Ev c ρ (.slice a lo hi) (enT ea (cut x l h)) := ev_slice ha hl hh (by
  show pure (D.tup (cut (x.map ea) l h)) = _
  rw [cut_map]
  rfl)
theorem ev_slL {a : E} {lo hi : Oe} {x : List α} {l h : Option Int} (ha : Ev c ρ a (enL ea x)) (hl : Evo c ρ lo l) (hh : Evo c ρ hi h) : Ev c ρ (.slice a lo hi) (enL ea (cut x l h)) := ev_slice ha hl hh (by
  show pure (D.lst (cut (x.map ea) l h)) = _
  rw [cut_map]
  rfl)
theorem cut_drop (xs : List α) (k : Nat) : cut xs (some (k : Int)) none = xs.drop k := by
  unfold cut
  have e1 : sIx xs.length 0 (some (k : Int)) = min (k : Int).toNat xs.length := by
    show (if (k : Int) < 0 then ((k : Int) + (xs.length : Int)).toNat else min (k : Int).toNat xs.length) = _
    rw [if_neg (by omega)]
  rw [e1, show sIx xs.length xs.length none = xs.length from rfl]
  by_cases h : k ≤ xs.length
  · rw [show min (k : Int).toNat xs.length = k by omega]
    exact List.take_of_length_le (by simp)
  · rw [show min (k : Int).toNat xs.length = xs.length by omega]
    rw [List.drop_of_length_le (Nat.le_refl _), List.drop_of_length_le (by omega), List.take_nil]
theorem cut_take (xs : List α) (k : Nat) : cut xs none (some (k : Int)) = xs.take k := by
  unfold cut
  have e1 : sIx xs.length xs.length (some (k : Int)) = min (k : Int).toNat xs.length := by
    show (if (k : Int) < 0 then ((k : Int) + (xs.length : Int)).toNat else min (k : Int).toNat xs.length) = _
    rw [if_neg (by omega)]
  rw [e1, show sIx xs.length 0 none = 0 from rfl, List.drop_zero, Nat.sub_zero]
  by_cases h : k ≤ xs.length
  · rw [show min (k : Int).toNat xs.length = k by omega]
  · rw [show min (k : Int).toNat xs.length = xs.length by omega, List.take_of_length_le (Nat.le_refl _), List.take_of_length_le (by omega)]
theorem cut_length (xs : List α) (l h : Option Int) : (cut xs l h).length ≤ xs.length := by
  unfold cut
  rw [List.length_take, List.length_drop]
  omega
theorem mem_cut {xs : List α} {l h : Option Int} {a : α} (q : a ∈ cut xs l h) : a ∈ xs := List.mem_of_mem_drop (List.mem_of_mem_take q)
theorem ev_dropT {a : E} {x : List α} (n : Nat) (ha : Ev c ρ a (enT ea x)) : Ev c ρ (.slice a (.yes (.cst (.int n))) .no) (enT ea (x.drop n)) := by
  have := ev_slT ha (evo_yes (ev_int n)) evo_no
  rwa [cut_drop] at this
theorem ev_dropL {a : E} {x : List α} (n : Nat) (ha : Ev c ρ a (enL ea x)) : Ev c ρ (.slice a (.yes (.cst (.int n))) .no) (enL ea (x.drop n)) := by
  have := ev_slL ha (evo_yes (ev_int n)) evo_no
  rwa [cut_drop] at this
theorem ev_takeT {a : E} {x : List α} (n : Nat) (ha : Ev c ρ a (enT ea x)) : Ev c ρ (.slice a .no (.yes (.cst (.int n)))) (enT ea (x.take n)) := by
  have := ev_slT ha evo_no (evo_yes (ev_int n))
  rwa [cut_take] at this
theorem ev_takeL {a : E} {x : List α} (n : Nat) (ha : Ev c ρ a (enL ea x)) : Ev c ρ (.slice a .no (.yes (.cst (.int n)))) (enL ea (x.take n)) := by
  have := ev_slL ha evo_no (evo_yes (ev_int n))
  rwa [cut_take] at this
theorem lineE {ds : List D} (h : ds.length ≤ LINE) : lineL ds = pure ds := if_pos h
theorem ev_dispT {as : Ss} {x : List α} {ds : List D} (h : Evss c ρ as ds) (e : ds = x.map ea) (q : x.length ≤ LINE) : Ev c ρ (.tup as) (enT ea x) := by
  subst e
  unfold Evss at h
  unfold Ev
  simp only [evE, h, pure_bind']
  rw [lineE (by rwa [List.length_map])]
  rfl
theorem ev_dispL {as : Ss} {x : List α} {ds : List D} (h : Evss c ρ as ds) (e : ds = x.map ea) (q : x.length ≤ LINE) : Ev c ρ (.lst as) (enL ea x) := by
  subst e
  unfold Evss at h
  unfold Ev
  simp only [evE, h, pure_bind']
  rw [lineE (by rwa [List.length_map])]
  rfl
theorem ev_pair {a b : E} {x : α} {y : β} (h : Ev c ρ a (ea x)) (h2 : Ev c ρ b (eb y)) : Ev c ρ (.tup (.cons a (.cons b .nil))) (enP ea eb (x, y)) := by
  have q := evss_cons h (evss_cons h2 evss_nil)
  unfold Evss at q
  unfold Ev
  simp only [evE, q, pure_bind']
  rw [lineE (by show 2 ≤ 16777216; decide)]
  rfl
theorem ev_trip {ec : γ → D} {a b d : E} {x : α} {y : β} {z : γ} (h : Ev c ρ a (ea x)) (h2 : Ev c ρ b (eb y)) (h3 : Ev c ρ d (ec z)) : Ev c ρ (.tup (.cons a (.cons b (.cons d .nil)))) (enP3 ea eb ec (x, y, z)) := by
  have q := evss_cons h (evss_cons h2 (evss_cons h3 evss_nil))
  unfold Evss at q
  unfold Ev
  simp only [evE, q, pure_bind']
  rw [lineE (by show 3 ≤ 16777216; decide)]
  rfl
/-! sources -/
def rangeI (lo hi : Int) : List Int := (List.range (hi - lo).toNat).map fun (k : Nat) => lo + (k : Int)
def enumI : Nat → List α → List (Int × α)
  | _, [] => []
  | n, x :: xs => ((n : Int), x) :: enumI (n + 1) xs
theorem evi_T {a : E} {x : List α} (h : Ev c ρ a (enT ea x)) : Evi c ρ (.seq a) (x.map ea) := by
  unfold Ev at h
  simp only [Evi, evIt, h, pure_bind', enT, itemsD]
theorem evi_L {a : E} {x : List α} (h : Ev c ρ a (enL ea x)) : Evi c ρ (.seq a) (x.map ea) := by
  unfold Ev at h
  simp only [Evi, evIt, h, pure_bind', enL, itemsD]
theorem range_E {lo hi : Int} (q : -(2 ^ 62) ≤ lo ∧ lo < 2 ^ 62 ∧ -(2 ^ 62) ≤ hi ∧ hi < 2 ^ 62) : rangeD lo hi = pure ((rangeI lo hi).map D.int) := by
  unfold rangeD rangeI
  rw [if_pos q, List.map_map]
  rfl
theorem evi_range1 {a : E} {n : Int} (h : Ev c ρ a (.int n)) (q : -(2 ^ 62) ≤ n ∧ n < 2 ^ 62) : Evi c ρ (.range1 a) ((rangeI 0 n).map D.int) := by
  unfold Ev at h
  simp only [Evi, evIt, h, pure_bind', intD]
  exact range_E (by omega)
theorem evi_range2 {a b : E} {m n : Int} (h : Ev c ρ a (.int m)) (h2 : Ev c ρ b (.int n)) (q : -(2 ^ 62) ≤ m ∧ m < 2 ^ 62 ∧ -(2 ^ 62) ≤ n ∧ n < 2 ^ 62) : Evi c ρ (.range2 a b) ((rangeI m n).map D.int) := by
  unfold Ev at h h2
  simp only [Evi, evIt, h, h2, pure_bind', intD]
  exact range_E q
theorem enum_E (n : Nat) (x : List α) : enumD n (x.map ea) = (enumI n x).map (enP D.int ea) := by
  induction x generalizing n with
  | nil => rfl
  | cons y x ih => simp only [List.map_cons, enumD, enumI, ih]; rfl
theorem evi_enumT {a : E} {x : List α} (h : Ev c ρ a (enT ea x)) : Evi c ρ (.enum a) ((enumI 0 x).map (enP D.int ea)) := by
  unfold Ev at h
  simp only [Evi, evIt, h, pure_bind', enT, itemsD]
  rw [enum_E]
theorem evi_enumL {a : E} {x : List α} (h : Ev c ρ a (enL ea x)) : Evi c ρ (.enum a) ((enumI 0 x).map (enP D.int ea)) := by
  unfold Ev at h
  simp only [Evi, evIt, h, pure_bind', enL, itemsD]
  rw [enum_E]
theorem zip_E (x : List α) (y : List β) : ((x.map ea).zip (y.map eb)).map (fun p => D.tup [p.1, p.2]) = (x.zip y).map (enP ea eb) := by
  rw [List.zip_map, List.map_map]
  rfl
theorem evi_zipT {a b : E} {x : List α} {y : List β} (h : Ev c ρ a (enT ea x)) (h2 : Ev c ρ b (enT eb y)) : Evi c ρ (.zip a b) ((x.zip y).map (enP ea eb)) := by
  unfold Ev at h h2
  simp only [Evi, evIt, h, h2, pure_bind', enT, zipD]
  rw [zip_E]
theorem evi_zipL {a b : E} {x : List α} {y : List β} (h : Ev c ρ a (enL ea x)) (h2 : Ev c ρ b (enL eb y)) : Evi c ρ (.zip a b) ((x.zip y).map (enP ea eb)) := by
  unfold Ev at h h2
  simp only [Evi, evIt, h, h2, pure_bind', enL, zipD]
  rw [zip_E]
/-! comprehensions -/
theorem evi_zipTL {a b : E} {x : List α} {y : List β} (h : Ev c ρ a (enT ea x)) (h2 : Ev c ρ b (enL eb y)) : Evi c ρ (.zip a b) ((x.zip y).map (enP ea eb)) := by
  unfold Ev at h h2
  simp only [Evi, evIt, h, h2, pure_bind', enT, enL, zipD]
  rw [zip_E]
theorem evi_zipLT {a b : E} {x : List α} {y : List β} (h : Ev c ρ a (enL ea x)) (h2 : Ev c ρ b (enT eb y)) : Evi c ρ (.zip a b) ((x.zip y).map (enP ea eb)) := by
  unfold Ev at h h2
  simp only [Evi, evIt, h, h2, pure_bind', enT, enL, zipD]
  rw [zip_E]
theorem evc_no : Evc c ρ .no true := by simp only [Evc, evC]
theorem evc_yes {a : E} {b : Bool} (h : Ev c ρ a (.bl b)) : Evc c ρ (.yes a) b := by
  unfold Ev at h
  simp only [Evc, evC, h, pure_bind', boolD]
theorem compE {f : D → M (Option D)} {p : α → Bool} {g : α → β} : ∀ {xs : List α}, (∀ x ∈ xs, f (ea x) = pure (if p x then some (eb (g x)) else none)) → compL f (xs.map ea) = pure (((xs.filter p).map g).map eb)
  | [], _ => rfl
  | x :: xs, h => by
    have ih := compE (f := f) (p := p) (g := g) (xs := xs) fun y hy => h y (List.mem_cons_of_mem _ hy)
    show (f (ea x) >>= fun y => compL f (xs.map ea) >>= fun ys => (match y with | some d => pure (d :: ys) | none => pure ys : M (List D))) = _
    rw [h x (List.mem_cons_self ..), ih, List.filter_cons]
    cases p x <;> rfl
theorem compE' {f : D → M (Option D)} {g : α → β} {xs : List α} (h : ∀ x ∈ xs, f (ea x) = pure (some (eb (g x)))) : compL f (xs.map ea) = pure ((xs.map g).map eb) := by
  have q := compE (f := f) (p := fun _ => true) (g := g) (ea := ea) (eb := eb) (xs := xs) fun x hx => by rw [h x hx]; rfl
  rwa [List.filter_eq_self.mpr (by simp)] at q
theorem comp2E {f : D → M (List D)} {g : α → List β} : ∀ {xs : List α}, (∀ x ∈ xs, f (ea x) = pure ((g x).map eb)) → comp2L f (xs.map ea) = pure ((xs.flatMap g).map eb)
  | [], _ => rfl
  | x :: xs, h => by
    have ih := comp2E (f := f) (g := g) (xs := xs) fun y hy => h y (List.mem_cons_of_mem _ hy)
    show (f (ea x) >>= fun y => comp2L f (xs.map ea) >>= fun ys => (pure (y ++ ys) : M (List D))) = _
    rw [h x (List.mem_cons_self ..), ih, List.flatMap_cons, List.map_append]
    rfl
theorem ev_comp {t : Tg} {src : Sr} {cnd : Oe} {elt : E} {xs : List α} {p : α → Bool} {g : α → β} {r : α → Env} (hs : Evi c ρ src (xs.map ea)) (ht : ∀ x, t.set (ea x) (wipeE ρ t.slots) = pure (r x))
    (hc : ∀ x ∈ xs, Evc c (r x) cnd (p x)) (he : ∀ x ∈ xs, p x = true → Ev c (r x) elt (eb (g x))) (hl : ((xs.filter p).map g).length ≤ LINE) : Ev c ρ (.comp t src cnd elt) (enL eb ((xs.filter p).map g)) := by
  unfold Evi at hs
  unfold Ev
  simp only [evE, hs, pure_bind']
  rw [compE (p := p) (g := g) fun x hx => by
    have h1 : evC c (r x) cnd = pure (p x) := hc x hx
    rw [ht x, pure_bind', h1, pure_bind']
    cases q : p x with
    | true =>
      have h2 : evE c (r x) elt = _ := he x hx q
      rw [if_pos rfl, h2, pure_bind']
      rfl
    | false => rfl]
  show (lineL _ >>= fun l => pure (D.lst l)) = _
  rw [lineE (by rwa [List.length_map])]
  rfl
theorem ev_compN {t : Tg} {src : Sr} {elt : E} {xs : List α} {g : α → β} {r : α → Env} (hs : Evi c ρ src (xs.map ea)) (ht : ∀ x, t.set (ea x) (wipeE ρ t.slots) = pure (r x))
    (he : ∀ x ∈ xs, Ev c (r x) elt (eb (g x))) (hl : xs.length ≤ LINE) : Ev c ρ (.comp t src .no elt) (enL eb (xs.map g)) := by
  have q := ev_comp (p := fun _ => true) hs ht (fun x _ => evc_no) (fun x hx _ => he x hx) (by rw [List.filter_eq_self.mpr (by simp), List.length_map]; exact hl)
  rwa [List.filter_eq_self.mpr (by simp)] at q
/-- the element is the item itself -/
theorem ev_compF {t : Tg} {src : Sr} {cnd : Oe} {elt : E} {xs : List α} {p : α → Bool} {r : α → Env} (hs : Evi c ρ src (xs.map ea)) (ht : ∀ x, t.set (ea x) (wipeE ρ t.slots) = pure (r x))
    (hc : ∀ x ∈ xs, Evc c (r x) cnd (p x)) (he : ∀ x ∈ xs, p x = true → Ev c (r x) elt (ea x)) (hl : xs.length ≤ LINE) : Ev c ρ (.comp t src cnd elt) (enL ea (xs.filter p)) := by
  have q := ev_comp (g := fun x => x) hs ht hc he (by rw [List.length_map]; exact Nat.le_trans (List.length_filter_le _ _) hl)
  rwa [List.map_id'] at q
theorem ev_compI {t : Tg} {src : Sr} {elt : E} {xs : List α} {r : α → Env} (hs : Evi c ρ src (xs.map ea)) (ht : ∀ x, t.set (ea x) (wipeE ρ t.slots) = pure (r x))
    (he : ∀ x ∈ xs, Ev c (r x) elt (ea x)) (hl : xs.length ≤ LINE) : Ev c ρ (.comp t src .no elt) (enL ea xs) := by
  have q := ev_compN (g := fun x => x) hs ht he hl
  rwa [List.map_id'] at q
theorem ev_comp2 {t t' : Tg} {src src' : Sr} {cnd cnd' : Oe} {elt : E} {xs : List α} {ys : α → List β} {ed : δ → D} {p : α → Bool} {p' : α → β → Bool} {g : α → β → δ} {r : α → Env} {r' : α → β → Env} (hs : Evi c ρ src (xs.map ea)) (ht : ∀ x, t.set (ea x) (wipeE ρ (t.slots ++ t'.slots)) = pure (r x))
    (hc : ∀ x ∈ xs, Evc c (r x) cnd (p x)) (hs' : ∀ x ∈ xs, p x = true → Evi c (r x) src' ((ys x).map eb)) (ht' : ∀ x y, t'.set (eb y) (wipeE (r x) t'.slots) = pure (r' x y))
    (hc' : ∀ x ∈ xs, p x = true → ∀ y ∈ ys x, Evc c (r' x y) cnd' (p' x y)) (he : ∀ x ∈ xs, p x = true → ∀ y ∈ ys x, p' x y = true → Ev c (r' x y) elt (ed (g x y)))
    (hl : ((xs.filter p).flatMap fun x => ((ys x).filter (p' x)).map (g x)).length ≤ LINE) : Ev c ρ (.comp2 t src cnd t' src' cnd' elt) (enL ed ((xs.filter p).flatMap fun x => ((ys x).filter (p' x)).map (g x))) := by
  unfold Evi at hs
  unfold Ev
  have ef : xs.flatMap (fun x => if p x then ((ys x).filter (p' x)).map (g x) else []) = (xs.filter p).flatMap fun x => ((ys x).filter (p' x)).map (g x) := by
    clear hl he hc' hs' hc hs
    induction xs with
    | nil => rfl
    | cons x xs ih =>
      rw [List.flatMap_cons, List.filter_cons, ih]
      cases p x <;> simp
  simp only [evE, hs, pure_bind']
  rw [comp2E (g := fun x => if p x then ((ys x).filter (p' x)).map (g x) else []) (eb := ed) fun x hx => by
    have h1 : evC c (r x) cnd = pure (p x) := hc x hx
    rw [ht x, pure_bind', h1, pure_bind']
    cases q : p x with
    | true =>
      have h2 : evIt c (r x) src' = _ := hs' x hx q
      rw [if_pos rfl, h2, pure_bind', compE (p := p' x) (g := g x) (eb := ed) fun y hy => by
        have h3 : evC c (r' x y) cnd' = pure (p' x y) := hc' x hx q y hy
        rw [ht' x y, pure_bind', h3, pure_bind']
        cases q' : p' x y with
        | true =>
          have h4 : evE c (r' x y) elt = _ := he x hx q y hy q'
          rw [if_pos rfl, h4, pure_bind']
          rfl
        | false => rfl]
      rfl
    | false => rfl]
  show (lineL _ >>= fun l => pure (D.lst l)) = _
  rw [ef, lineE (by rwa [List.length_map])]
  rfl
theorem ev_comp2N {t t' : Tg} {src src' : Sr} {elt : E} {xs : List α} {ys : α → List β} {ed : δ → D} {g : α → β → δ} {r : α → Env} {r' : α → β → Env} (hs : Evi c ρ src (xs.map ea)) (ht : ∀ x, t.set (ea x) (wipeE ρ (t.slots ++ t'.slots)) = pure (r x))
    (hs' : ∀ x ∈ xs, Evi c (r x) src' ((ys x).map eb)) (ht' : ∀ x y, t'.set (eb y) (wipeE (r x) t'.slots) = pure (r' x y))
    (he : ∀ x ∈ xs, ∀ y ∈ ys x, Ev c (r' x y) elt (ed (g x y)))
    (hl : (xs.flatMap fun x => (ys x).map (g x)).length ≤ LINE) : Ev c ρ (.comp2 t src .no t' src' .no elt) (enL ed (xs.flatMap fun x => (ys x).map (g x))) := by
  have e : ((xs.filter fun _ => true).flatMap fun x => ((ys x).filter fun _ => true).map (g x)) = xs.flatMap fun x => (ys x).map (g x) := by
    rw [List.filter_eq_self.mpr (by simp)]
    congr 1
    funext x
    rw [List.filter_eq_self.mpr (by simp)]
  have q := ev_comp2 (p := fun _ => true) (p' := fun _ _ => true) hs ht (fun _ _ => evc_no) (fun x hx _ => hs' x hx) ht' (fun _ _ _ _ _ => evc_no) (fun x hx _ y hy _ => he x hx y hy) (by rw [e]; exact hl)
  rwa [e] at q
end

/-! ### what statements do: behind them κ goes on, and Q holds of what comes of it -/
def Kt {β : Type} (c : Ctx) (cs : Cs) (ρ : Env) (κ : Fl × Env → M β) (s : S) (Q : R β → Prop) : Prop := Q ((evCs c cs ρ >>= κ) s)
/-- a value -/
def QV {δ γ : Type} (er : δ → γ) (s : S) (v : δ) (o : R γ) : Prop := o = .ok (er v) s
/-- names behind a turn -/
def QL {V J : Type} (env : V → J → Env) (s : S) (v : V) (o : R (Fl × Env)) : Prop := ∃ j, o = .ok (.nx, env v j) s
/-- what a turn leaves that may hand out something -/
def outR {δ V J : Type} (ed : δ → D) (env : V → J → Env) (j : J) : δ ⊕ V → Fl × Env
  | .inl d => (.ret (ed d), [])
  | .inr v => (.nx, env v j)
def QR {δ V J : Type} (ed : δ → D) (env : V → J → Env) (s : S) (v : δ ⊕ V) (o : R (Fl × Env)) : Prop := ∃ j, o = .ok (outR ed env j v) s
/-- a def's end -/
def fin (r : Fl × Env) : M D := match r.1 with
  | .ret d => pure d
  | .nx => pure .non
  | _ => stuck
/-- a body's end: of what is handed out the names are let go -/
def nrm (r : Fl × Env) : M (Fl × Env) := match r.1 with
  | .ret d => pure (.ret d, [])
  | .cont => pure (.nx, r.2)
  | _ => pure r
def nrmV (r : Fl × Env) : Fl × Env := match r.1 with
  | .ret d => (.ret d, [])
  | .cont => (.nx, r.2)
  | _ => r
theorem nrm_eq (r : Fl × Env) (s : S) : nrm r s = .ok (nrmV r) s := by
  obtain ⟨fl, ρ⟩ := r
  cases fl <;> rfl
/-- behind a statement's suite -/
def sq {β : Type} (c : Ctx) (cs : Cs) (κ : Fl × Env → M β) (r : Fl × Env) : M β := match r.1 with
  | .nx => evCs c cs r.2 >>= κ
  | _ => κ r
/-- the names do not matter behind a return -/
def Ends {β : Type} (κ : Fl × Env → M β) : Prop := ∀ d ρ, κ (.ret d, ρ) = κ (.ret d, [])
theorem ends_fin : Ends fin := fun _ _ => rfl
theorem ends_nrm : Ends nrm := fun _ _ => rfl
theorem ends_sq {β : Type} {c : Ctx} {cs : Cs} {κ : Fl × Env → M β} (h : Ends κ) : Ends (sq c cs κ) := fun d ρ => h d ρ
theorem runF_of {c : Ctx} {f : Df} {ds : List D} {s : S} {Q : R D → Prop} (h : Kt c f.body (ds.map some ++ List.replicate (f.n - ds.length) none) fin s Q) : Q (runF c f ds s) := h
/-- a def that leaves the draws alone -/
theorem runF_pure {c : Ctx} {f : Df} {ds : List D} {α : Type} {e : α → D} {v : α} (h : ∀ s, Kt c f.body (ds.map some ++ List.replicate (f.n - ds.length) none) fin s (QV e s v)) : runF c f ds = pure (e v) := funext h
theorem bind_ok {α β : Type} {m : M α} {f : α → M β} {s s' : S} {a : α} (h : m s = .ok a s') : (m >>= f) s = f a s' := by
  show M.bind m f s = _
  unfold M.bind
  rw [h]
section
variable {c : Ctx} {ρ ρ' : Env} {α β γ δ V J : Type} {ea : α → D} {eb : β → D} {κ : Fl × Env → M γ} {s s' : S} {Q : R γ → Prop} {r : Cs}
theorem kt_nil (h : Q (κ (.nx, ρ) s)) : Kt c .nil ρ κ s Q := by
  show Q ((evCs c .nil ρ >>= κ) s)
  simp only [evCs, pure_bind']
  exact h
theorem kt_sq {cs : Cs} (h : Kt c cs ρ κ s Q) : Kt c .nil ρ (sq c cs κ) s Q := kt_nil h
theorem kt_cons {st : C} {x : Fl × Env} (h : evS c st ρ s = .ok x s') (k : Q (sq c r κ x s')) : Kt c (.cons st r) ρ κ s Q := by
  show Q ((evCs c (.cons st r) ρ >>= κ) s)
  simp only [evCs, bind_assoc']
  rw [bind_ok h]
  have e : (fun x => ((match x.1 with
    | .nx => evCs c r x.2
    | _ => pure x : M (Fl × Env))) >>= κ) = sq c r κ := by
    funext x
    obtain ⟨fl, ρ1⟩ := x
    cases fl <;> rfl
  have k' := k
  rw [← e] at k'
  exact k'
theorem kt_fz {is : List Nat} (h : Kt c r ρ κ s Q) : Kt c (.fz is r) ρ κ s Q := by
  show Q ((evCs c (.fz is r) ρ >>= κ) s)
  simp only [evCs]
  exact h
theorem kt_asgS {t : Tg} {e : E} {d : D} (h : evE c ρ e s = .ok d s') (hs : t.set d ρ = pure ρ') (k : Kt c r ρ' κ s' Q) : Kt c (.cons (.asg t e) r) ρ κ s Q := kt_cons (x := (.nx, ρ')) (by
  simp only [evS]
  rw [bind_ok h, hs]
  rfl) k
theorem kt_asg {t : Tg} {e : E} {d : D} (h : Ev c ρ e d) (hs : t.set d ρ = pure ρ') (k : Kt c r ρ' κ s Q) : Kt c (.cons (.asg t e) r) ρ κ s Q := kt_asgS (by rw [h]; rfl) hs k
theorem kt_par {i j : Nat} {a b : E} {x y : D} (h : Ev c ρ a x) (h2 : Ev c ρ b y) (hs : (ρ.set i (some x)).set j (some y) = ρ') (k : Kt c r ρ' κ s Q) : Kt c (.cons (.par i j a b) r) ρ κ s Q := kt_cons (x := (.nx, ρ')) (by
  unfold Ev at h h2
  simp only [evS, h, h2, pure_bind', hs]
  rfl) k
theorem kt_app {i : Nat} {e : E} {xs : List α} {x : α} (hx : ρ[i]? = some (some (enL ea xs))) (h : Ev c ρ e (ea x)) (hl : xs.length < LINE) (hs : ρ.set i (some (enL ea (xs ++ [x]))) = ρ') (k : Kt c r ρ' κ s Q) : Kt c (.cons (.app i e) r) ρ κ s Q := kt_cons (x := (.nx, ρ')) (by
  unfold Ev at h
  have hg : Env.get ρ i = pure (.lst (xs.map ea)) := by
    unfold Env.get
    rw [hx]
    rfl
  simp only [evS, hg, h, pure_bind', lstOf, appD]
  rw [if_pos (by rwa [List.length_map]), ← hs]
  unfold enL
  rw [List.map_append]
  rfl) k
theorem kt_expr {e : E} {d : D} (h : evE c ρ e s = .ok d s') (k : Kt c r ρ κ s' Q) : Kt c (.cons (.expr e) r) ρ κ s Q := kt_cons (x := (.nx, ρ)) (by
  simp only [evS]
  rw [bind_ok h]
  rfl) k
theorem kt_exprE {e : E} {d : D} (h : Ev c ρ e d) (k : Kt c r ρ κ s Q) : Kt c (.cons (.expr e) r) ρ κ s Q := kt_expr (by rw [h]; rfl) k
theorem kt_retS {e : E} {d : D} (h : evE c ρ e s = .ok d s') (k : Q (κ (.ret d, ρ) s')) : Kt c (.cons (.ret e) r) ρ κ s Q := kt_cons (x := (.ret d, ρ)) (by
  simp only [evS]
  rw [bind_ok h]
  rfl) k
theorem kt_ret {e : E} {d : D} (h : Ev c ρ e d) (k : Q (κ (.ret d, ρ) s)) : Kt c (.cons (.ret e) r) ρ κ s Q := kt_retS (by rw [h]; rfl) k
theorem kt_retN (k : Q (κ (.ret .non, ρ) s)) : Kt c (.cons .retN r) ρ κ s Q := kt_cons (x := (.ret .non, ρ)) (by simp only [evS]; rfl) k
theorem kt_pass (k : Kt c r ρ κ s Q) : Kt c (.cons .pass r) ρ κ s Q := kt_cons (x := (.nx, ρ)) (by simp only [evS]; rfl) k
theorem kt_cont (k : Q (κ (.cont, ρ) s)) : Kt c (.cons .cont r) ρ κ s Q := kt_cons (x := (.cont, ρ)) (by simp only [evS]; rfl) k
theorem kt_brk (k : Q (κ (.brk, ρ) s)) : Kt c (.cons .brk r) ρ κ s Q := kt_cons (x := (.brk, ρ)) (by simp only [evS]; rfl) k
theorem kt_ifS {t : E} {a b : Cs} {z : Bool} (h : evE c ρ t s = .ok (.bl z) s') (ht : z = true → Kt c a ρ (sq c r κ) s' Q) (hf : z = false → Kt c b ρ (sq c r κ) s' Q) : Kt c (.cons (.ifs t a b) r) ρ κ s Q := by
  show Q ((evCs c (.cons (.ifs t a b) r) ρ >>= κ) s)
  have e : (evCs c (.cons (.ifs t a b) r) ρ >>= κ) = (evE c ρ t >>= fun d => boolD d >>= fun q => (if q then evCs c a ρ else evCs c b ρ) >>= sq c r κ) := by
    simp only [evCs, evS, bind_assoc']
    congr 1
    funext d
    congr 1
    funext q
    congr 1
    funext x
    obtain ⟨fl, ρ1⟩ := x
    cases fl <;> rfl
  rw [e, bind_ok h]
  cases z with
  | true => exact ht rfl
  | false => exact hf rfl
theorem kt_if {t : E} {a b : Cs} {z : Bool} (h : Ev c ρ t (.bl z)) (ht : z = true → Kt c a ρ (sq c r κ) s Q) (hf : z = false → Kt c b ρ (sq c r κ) s Q) : Kt c (.cons (.ifs t a b) r) ρ κ s Q := kt_ifS (by rw [h]; rfl) ht hf
/-- both ways give a value -/
theorem kt_ifQ {t : E} {a b : Cs} {z : Bool} {Q : δ → R γ → Prop} {x y : δ} (h : Ev c ρ t (.bl z)) (ht : z = true → Kt c a ρ (sq c r κ) s (Q x)) (hf : z = false → Kt c b ρ (sq c r κ) s (Q y)) : Kt c (.cons (.ifs t a b) r) ρ κ s (Q (if z then x else y)) :=
  kt_if h (fun e => by rw [e]; exact ht e) (fun e => by rw [e]; exact hf e)
/-- a test that is never so -/
theorem kt_ifN {t : E} {a b : Cs} {z : Bool} (h : Ev c ρ t (.bl z)) (hz : z = false) (hf : Kt c b ρ (sq c r κ) s Q) : Kt c (.cons (.ifs t a b) r) ρ κ s Q := kt_if h (fun e => by rw [hz] at e; cases e) fun _ => hf
/-- a test that is always so -/
theorem kt_ifY {t : E} {a b : Cs} {z : Bool} (h : Ev c ρ t (.bl z)) (hz : z = true) (hf : Kt c a ρ (sq c r κ) s Q) : Kt c (.cons (.ifs t a b) r) ρ κ s Q := kt_if h (fun _ => hf) fun e => by rw [hz] at e; cases e
/-- both ways go on -/
theorem kt_ifJ {t : E} {a b : Cs} {z : Bool} (env : J → Env) (h : Ev c ρ t (.bl z)) (ht : z = true → ∀ s, Kt c a ρ pure s (fun o => ∃ j, o = .ok (.nx, env j) s)) (hf : z = false → ∀ s, Kt c b ρ pure s (fun o => ∃ j, o = .ok (.nx, env j) s)) (k : ∀ j, Kt c r (env j) κ s Q) : Kt c (.cons (.ifs t a b) r) ρ κ s Q := by
  have go : ∀ cs, (∃ j, (evCs c cs ρ >>= pure) s = .ok (.nx, env j) s) → Kt c cs ρ (sq c r κ) s Q := fun cs ⟨j, e⟩ => by
    rw [bind_pure'] at e
    show Q ((evCs c cs ρ >>= sq c r κ) s)
    rw [bind_ok e]
    exact k j
  exact kt_if h (fun e => go a (ht e s)) (fun e => go b (hf e s))

/-! loops -/
theorem forL_fold {body : D → Env → M (Fl × Env)} (env : V → J → Env) (f : V → α → V) (Inv : List α → V → Prop) : ∀ (xs pre : List α) (v : V) (j : J), Inv pre v →
    (∀ p x q v j, pre ++ xs = p ++ x :: q → Inv p v → Inv (p ++ [x]) (f v x) ∧ ∀ s, QL env s (f v x) ((body (ea x) (env v j) >>= nrm) s)) →
    ∀ s, QL env s (xs.foldl f v) (forL body (xs.map ea) (env v j) s) ∧ Inv (pre ++ xs) (xs.foldl f v)
  | [], pre, v, j, h, _, s => ⟨⟨j, rfl⟩, by rw [List.append_nil]; exact h⟩
  | x :: xs, pre, v, j, h, hs, s => by
    obtain ⟨i1, q1⟩ := hs pre x xs v j rfl h
    obtain ⟨j1, e1⟩ := q1 s
    obtain ⟨⟨j2, e2⟩, i2⟩ := forL_fold env f Inv xs (pre ++ [x]) (f v x) j1 i1 (fun p y q v j e' hp => hs p y q v j (by rw [← e']; simp) hp) s
    refine ⟨⟨j2, ?_⟩, by rw [show pre ++ x :: xs = pre ++ [x] ++ xs by simp]; exact i2⟩
    have e0 : ∃ y, body (ea x) (env v j) s = .ok y s ∧ (y = (.nx, env (f v x) j1) ∨ y = (.cont, env (f v x) j1)) := by
      have e1' : M.bind (body (ea x) (env v j)) nrm s = _ := e1
      unfold M.bind at e1'
      cases q : body (ea x) (env v j) s with
      | ok y s2 =>
        rw [q] at e1'
        have e3 : (R.ok (nrmV y) s2 : R (Fl × Env)) = .ok (.nx, env (f v x) j1) s := (nrm_eq y s2).symm.trans e1'
        injection e3 with e4 e5
        subst e5
        obtain ⟨fl, ρ1⟩ := y
        refine ⟨_, rfl, ?_⟩
        cases fl with
        | nx => exact .inl e4
        | cont => injection e4 with _ e5; right; rw [← e5]
        | ret d => injection e4 with e5 _; cases e5
        | brk => injection e4 with e5 _; cases e5
      | exc y s2 => rw [q] at e1'; cases e1'
      | stuck => rw [q] at e1'; cases e1'
    obtain ⟨y, e3, hy⟩ := e0
    show (body (ea x) (env v j) >>= fun r => (match r.1 with
      | .nx => forL body (xs.map ea) r.2
      | .cont => forL body (xs.map ea) r.2
      | .brk => pure (.nx, r.2)
      | .ret d => pure (.ret d, r.2) : M (Fl × Env))) s = _
    rw [bind_ok e3]
    rcases hy with rfl | rfl <;> exact e2
theorem kt_for {t : Tg} {h : List Nat} {src : Sr} {body : Cs} {xs : List α} (env : V → J → Env) (f : V → α → V) (Inv : List α → V → Prop) {v0 : V} {j0 : J} (hs : Evi c ρ src (xs.map ea)) (h0 : ρ = env v0 j0) (i0 : Inv [] v0)
    (hb : ∀ p x q v j, xs = p ++ x :: q → Inv p v → Inv (p ++ [x]) (f v x) ∧ ∃ ρ', t.set (ea x) (env v j) = pure ρ' ∧ ∀ s, Kt c body ρ' nrm s (QL env s (f v x)))
    (hk : ∀ j, Inv xs (xs.foldl f v0) → Kt c r (env (xs.foldl f v0) j) κ s Q) : Kt c (.cons (.for_ h t src body) r) ρ κ s Q := by
  subst h0
  obtain ⟨⟨j, e⟩, i⟩ := forL_fold (ea := ea) (body := fun d ρ => do let ρ' ← t.set d ρ; evCs c body ρ') env f Inv xs [] v0 j0 i0 (fun p x q v j e hp => by
    obtain ⟨i1, ρ', e1, e2⟩ := hb p x q v j e hp
    refine ⟨i1, fun s => ?_⟩
    show QL env s (f v x) (((t.set (ea x) (env v j) >>= fun ρ' => evCs c body ρ') >>= nrm) s)
    rw [e1, pure_bind']
    exact e2 s) s
  unfold Evi at hs
  refine kt_cons (x := (.nx, env (xs.foldl f v0) j)) (s' := s) ?_ (hk j i)
  simp only [evS, hs, pure_bind']
  exact e
/-- a loop that may hand out something -/
def loopR (f : V → α → δ ⊕ V) : List α → V → δ ⊕ V
  | [], v => .inr v
  | x :: xs, v => match f v x with
    | .inl d => .inl d
    | .inr v' => loopR f xs v'
theorem forL_R {ed : δ → D} {body : D → Env → M (Fl × Env)} (env : V → J → Env) (f : V → α → δ ⊕ V) (Inv : List α → V → Prop) : ∀ (xs pre : List α) (v : V) (j : J), Inv pre v →
    (∀ p x q v j, pre ++ xs = p ++ x :: q → Inv p v → (∀ v', f v x = .inr v' → Inv (p ++ [x]) v') ∧ ∀ s, QR ed env s (f v x) ((body (ea x) (env v j) >>= nrm) s)) →
    ∀ s, (∃ y, forL body (xs.map ea) (env v j) s = .ok y s ∧ y.1 ≠ .brk ∧ y.1 ≠ .cont ∧ ∃ j', nrmV y = outR ed env j' (loopR f xs v)) ∧ ∀ v', loopR f xs v = .inr v' → Inv (pre ++ xs) v'
  | [], pre, v, j, h, _, s => ⟨⟨_, rfl, (fun e => by cases e), (fun e => by cases e), j, rfl⟩, fun v' e => by rw [List.append_nil]; cases e; exact h⟩
  | x :: xs, pre, v, j, h, hs, s => by
    obtain ⟨i1, q1⟩ := hs pre x xs v j rfl h
    obtain ⟨j1, e1⟩ := q1 s
    have e0 : ∃ y, body (ea x) (env v j) s = .ok y s ∧ nrmV y = outR ed env j1 (f v x) := by
      have e1' : M.bind (body (ea x) (env v j)) nrm s = _ := e1
      unfold M.bind at e1'
      cases q : body (ea x) (env v j) s with
      | ok y s2 =>
        rw [q] at e1'
        have e3 : (R.ok (nrmV y) s2 : R (Fl × Env)) = .ok (outR ed env j1 (f v x)) s := (nrm_eq y s2).symm.trans e1'
        injection e3 with e4 e5
        subst e5
        exact ⟨y, rfl, e4⟩
      | exc y s2 => rw [q] at e1'; cases e1'
      | stuck => rw [q] at e1'; cases e1'
    obtain ⟨y, e3, e4⟩ := e0
    have eB : forL body ((x :: xs).map ea) (env v j) s = ((match y.1 with
      | .nx => forL body (xs.map ea) y.2
      | .cont => forL body (xs.map ea) y.2
      | .brk => pure (.nx, y.2)
      | .ret d => pure (.ret d, y.2) : M (Fl × Env))) s := by
      show (body (ea x) (env v j) >>= fun r => (match r.1 with
        | .nx => forL body (xs.map ea) r.2
        | .cont => forL body (xs.map ea) r.2
        | .brk => pure (.nx, r.2)
        | .ret d => pure (.ret d, r.2) : M (Fl × Env))) s = _
      rw [bind_ok e3]
    rw [eB]
    obtain ⟨fl, ρ1⟩ := y
    cases q : f v x with
    | inl d =>
      rw [q] at e4
      have er : loopR f (x :: xs) v = .inl d := by simp only [loopR, q]
      rw [er]
      refine ⟨?_, fun v' e => by cases e⟩
      cases fl with
      | ret d' =>
        refine ⟨_, rfl, (fun e => by cases e), (fun e => by cases e), j1, ?_⟩
        exact e4
      | nx => injection e4 with e5 _; cases e5
      | cont => injection e4 with e5 _; cases e5
      | brk => injection e4 with e5 _; cases e5
    | inr v1 =>
      rw [q] at e4
      have er : loopR f (x :: xs) v = loopR f xs v1 := by simp only [loopR, q]
      rw [er]
      have go := forL_R (ed := ed) env f Inv xs (pre ++ [x]) v1 j1 (i1 v1 q) (fun p y q v j e' hp => hs p y q v j (by rw [← e']; simp) hp) s
      rw [show pre ++ x :: xs = pre ++ [x] ++ xs by simp]
      cases fl with
      | ret d' => injection e4 with e5 _; cases e5
      | nx =>
        injection e4 with _ e5
        subst e5
        exact go
      | cont =>
        injection e4 with _ e5
        subst e5
        exact go
      | brk => injection e4 with e5 _; cases e5
theorem kt_forR {ed : δ → D} {t : Tg} {h : List Nat} {src : Sr} {body : Cs} {xs : List α} (env : V → J → Env) (f : V → α → δ ⊕ V) (Inv : List α → V → Prop) {v0 : V} {j0 : J} (hκ : Ends κ) (hs : Evi c ρ src (xs.map ea)) (h0 : ρ = env v0 j0) (i0 : Inv [] v0)
    (hb : ∀ p x q v j, xs = p ++ x :: q → Inv p v → (∀ v', f v x = .inr v' → Inv (p ++ [x]) v') ∧ ∃ ρ', t.set (ea x) (env v j) = pure ρ' ∧ ∀ s, Kt c body ρ' nrm s (QR ed env s (f v x)))
    (hr : ∀ d, loopR f xs v0 = .inl d → Q (κ (.ret (ed d), []) s)) (hk : ∀ j v, loopR f xs v0 = .inr v → Inv xs v → Kt c r (env v j) κ s Q) : Kt c (.cons (.for_ h t src body) r) ρ κ s Q := by
  subst h0
  obtain ⟨⟨y, e, n1, n2, j', e4⟩, i⟩ := forL_R (ea := ea) (ed := ed) (body := fun d ρ => do let ρ' ← t.set d ρ; evCs c body ρ') env f Inv xs [] v0 j0 i0 (fun p x q v j e hp => by
    obtain ⟨i1, ρ', e1, e2⟩ := hb p x q v j e hp
    refine ⟨i1, fun s => ?_⟩
    show QR ed env s (f v x) (((t.set (ea x) (env v j) >>= fun ρ' => evCs c body ρ') >>= nrm) s)
    rw [e1, pure_bind']
    exact e2 s) s
  unfold Evi at hs
  refine kt_cons (x := y) (s' := s) (by
    simp only [evS, hs, pure_bind']
    exact e) ?_
  obtain ⟨fl, ρ1⟩ := y
  cases q : loopR f xs v0 with
  | inl d =>
    rw [q] at e4
    cases fl with
    | ret d' =>
      injection e4 with e5 _
      injection e5 with e6
      show Q (κ (.ret d', ρ1) s)
      rw [hκ, e6]
      exact hr d q
    | nx => injection e4 with e5 _; cases e5
    | cont => exact absurd rfl n2
    | brk => exact absurd rfl n1
  | inr v =>
    rw [q] at e4
    cases fl with
    | ret d' => injection e4 with e5 _; cases e5
    | nx =>
      injection e4 with _ e5
      subst e5
      exact hk j' v q (i v q)
    | cont => exact absurd rfl n2
    | brk => exact absurd rfl n1
def whileN (tst : V → Bool) (f : V → V) : Nat → V → V
  | 0, v => v
  | n + 1, v => if tst v then whileN tst f n (f v) else v
theorem whileL_N {test : Env → M Bool} {body : Env → M (Fl × Env)} (env : V → J → Env) (tst : V → Bool) (f : V → V) (Inv : V → Prop) (μ : V → Nat)
    (hs : ∀ v j, Inv v → test (env v j) = pure (tst v) ∧ (tst v = true → Inv (f v) ∧ μ (f v) < μ v ∧ ∀ s, QL env s (f v) (body (env v j) s))) : ∀ (n m : Nat) (v : V) (j : J), Inv v → μ v ≤ n → μ v < m → ∀ s,
    QL env s (whileN tst f n v) (whileL test body m (env v j) s) ∧ Inv (whileN tst f n v) ∧ tst (whileN tst f n v) = false
  | n, 0, v, j, i, hn, hm, s => absurd hm (Nat.not_lt_zero _)
  | n, m + 1, v, j, i, hn, hm, s => by
    obtain ⟨e1, h2⟩ := hs v j i
    have eB : whileL test body (m + 1) (env v j) = (test (env v j) >>= fun b => if b = true then (body (env v j) >>= fun r => (match r.1 with
      | .nx => whileL test body m r.2
      | .cont => whileL test body m r.2
      | .brk => pure (.nx, r.2)
      | .ret d => pure (.ret d, r.2) : M (Fl × Env))) else pure (.nx, env v j)) := rfl
    rw [eB, e1, pure_bind']
    cases q : tst v with
    | false =>
      have e : whileN tst f n v = v := by
        cases n with
        | zero => rfl
        | succ n => simp only [whileN, q, Bool.false_eq_true, if_false]
      rw [e]
      exact ⟨⟨j, rfl⟩, i, q⟩
    | true =>
      obtain ⟨i1, hμ, q2⟩ := h2 q
      obtain ⟨j1, e2⟩ := q2 s
      cases n with
      | zero => omega
      | succ n =>
        obtain ⟨⟨j2, e3⟩, i3, t3⟩ := whileL_N env tst f Inv μ hs n m (f v) j1 i1 (by omega) (by omega) s
        rw [if_pos rfl]
        have e : whileN tst f (n + 1) v = whileN tst f n (f v) := by simp only [whileN, q, if_true]
        rw [e]
        refine ⟨⟨j2, ?_⟩, i3, t3⟩
        rw [bind_ok e2]
        exact e3
theorem kt_while {h : List Nat} {t : E} {body : Cs} (env : V → J → Env) (tst : V → Bool) (f : V → V) (Inv : V → Prop) (μ : V → Nat) (n : Nat) {v0 : V} {j0 : J} (h0 : ρ = env v0 j0) (i0 : Inv v0) (hn : μ v0 ≤ n) (hm : μ v0 < FUEL)
    (ht : ∀ v j, Inv v → Ev c (env v j) t (.bl (tst v))) (hb : ∀ v j, Inv v → tst v = true → Inv (f v) ∧ μ (f v) < μ v ∧ ∀ s, Kt c body (env v j) pure s (QL env s (f v)))
    (hk : ∀ j, Inv (whileN tst f n v0) → tst (whileN tst f n v0) = false → Kt c r (env (whileN tst f n v0) j) κ s Q) : Kt c (.cons (.while_ h t body) r) ρ κ s Q := by
  subst h0
  obtain ⟨⟨j, e⟩, i, q⟩ := whileL_N (test := fun ρ => do boolD (← evE c ρ t)) (body := fun ρ => evCs c body ρ) env tst f Inv μ (fun v j hv => by
    refine ⟨?_, fun hq => ?_⟩
    · have := ht v j hv
      unfold Ev at this
      simp only [this, pure_bind', boolD]
    · obtain ⟨i1, hμ, e⟩ := hb v j hv hq
      refine ⟨i1, hμ, fun s => ?_⟩
      have := e s
      unfold Kt at this
      rwa [bind_pure'] at this) n FUEL v0 j0 i0 hn hm s
  refine kt_cons (x := (.nx, env (whileN tst f n v0) j)) (s' := s) ?_ (hk j i q)
  simp only [evS]
  exact e
end
/-! small things -/
theorem LINE_eq : LINE = 16777216 := rfl
theorem FUEL_eq : FUEL = 1000000 := rfl
theorem flat_le {α : Type} {xss : List (List α)} {m n : Nat} (h : ∀ xs ∈ xss, xs.length ≤ m) (h2 : xss.length ≤ n) : xss.flatten.length ≤ n * m := by
  have : ∀ xss : List (List α), (∀ xs ∈ xss, xs.length ≤ m) → xss.flatten.length ≤ xss.length * m := by
    intro xss
    induction xss with
    | nil => simp
    | cons x xss ih =>
      intro h
      have h1 := h x (List.mem_cons_self ..)
      have h2 := ih fun y hy => h y (List.mem_cons_of_mem _ hy)
      rw [List.flatten_cons, List.length_append, List.length_cons, Nat.succ_mul]
      omega
  exact Nat.le_trans (this xss h) (Nat.mul_le_mul_right m h2)
theorem flatMap_le {α β : Type} {xs : List α} {f : α → List β} (m n : Nat) (h : ∀ x ∈ xs, (f x).length ≤ m) (h2 : xs.length ≤ n) : (xs.flatMap f).length ≤ n * m := by
  rw [List.flatMap_def]
  exact flat_le (fun ys hy => by
    obtain ⟨x, hx, rfl⟩ := List.mem_map.mp hy
    exact h x hx) (by rwa [List.length_map])
theorem rangeI_length (lo hi : Int) : (rangeI lo hi).length = (hi - lo).toNat := by
  unfold rangeI
  rw [List.length_map, List.length_range]
theorem mem_rangeI {lo hi i : Int} : i ∈ rangeI lo hi ↔ lo ≤ i ∧ i < hi := by
  unfold rangeI
  simp only [List.mem_map, List.mem_range]
  constructor
  · rintro ⟨k, hk, rfl⟩
    omega
  · rintro ⟨h1, h2⟩
    exact ⟨(i - lo).toNat, by omega, by omega⟩
theorem enumI_length {α : Type} (n : Nat) (xs : List α) : (enumI n xs).length = xs.length := by
  induction xs generalizing n with
  | nil => rfl
  | cons x xs ih => simp only [enumI, List.length_cons, ih]
theorem mem_enumI {α : Type} {n : Nat} {xs : List α} {p : Int × α} (h : p ∈ enumI n xs) : ∃ i : Nat, p.1 = n + i ∧ xs[i]? = some p.2 := by
  induction xs generalizing n with
  | nil => cases h
  | cons x xs ih =>
    rcases List.mem_cons.mp h with rfl | h
    · exact ⟨0, by simp, rfl⟩
    · obtain ⟨i, h1, h2⟩ := ih h
      exact ⟨i + 1, by rw [h1]; omega, by simpa using h2⟩
theorem enumI_snd {α : Type} {n : Nat} {xs : List α} {p : Int × α} (h : p ∈ enumI n xs) : p.2 ∈ xs := by
  obtain ⟨i, _, h2⟩ := mem_enumI h
  exact List.mem_of_getElem? h2
theorem enumI_fst {α : Type} {n : Nat} {xs : List α} {p : Int × α} (h : p ∈ enumI n xs) : (n : Int) ≤ p.1 ∧ p.1 < n + xs.length := by
  obtain ⟨i, h1, h2⟩ := mem_enumI h
  have := (List.getElem?_eq_some_iff.mp h2).1
  omega
theorem lenLit {n : Nat} (h : n ≤ 100) : n ≤ LINE := by rw [LINE_eq]; omega
theorem nxE {ρ ρ' : Env} {s : S} (h : ρ = ρ') : (pure (Fl.nx, ρ) : M (Fl × Env)) s = .ok (.nx, ρ') s := by
  subst h
  rfl
def idD (d : D) : D := d
def enN (_ : Unit) : D := .non
end DE

/-! DErunS: terms that draw; the laws' own draws. -/
namespace DE
open PySem PySem.Spec
/-- e says d and leaves s', and Q holds -/
def EvS (c : Ctx) (ρ : Env) (e : E) (s : S) (Q : D → S → Prop) : Prop := ∃ d s', evE c ρ e s = .ok d s' ∧ Q d s'
def EvsS (c : Ctx) (ρ : Env) (e : Es) (s : S) (Q : List D → S → Prop) : Prop := ∃ d s', evEs c ρ e s = .ok d s' ∧ Q d s'
def EviS (c : Ctx) (ρ : Env) (e : Sr) (s : S) (Q : List D → S → Prop) : Prop := ∃ d s', evIt c ρ e s = .ok d s' ∧ Q d s'
section
variable {c : Ctx} {ρ ρ' : Env} {α β γ δ V J : Type} {ea : α → D} {eb : β → D} {s s' : S} {Q : D → S → Prop}
theorem es_pure {e : E} {d : D} (h : Ev c ρ e d) (q : Q d s) : EvS c ρ e s Q := ⟨d, s, by rw [h]; rfl, q⟩
theorem es_imp {e : E} {Q' : D → S → Prop} (h : EvS c ρ e s Q') (i : ∀ d s, Q' d s → Q d s) : EvS c ρ e s Q := let ⟨d, s', e, q⟩ := h; ⟨d, s', e, i _ _ q⟩
theorem es_of {e : E} {d : D} (h : evE c ρ e s = .ok d s') (q : Q d s') : EvS c ρ e s Q := ⟨d, s', h, q⟩
theorem es_bin {o : Bop} {a b : E} (h : EvS c ρ a s fun x s1 => EvS c ρ b s1 fun y s2 => ∃ z, binD o x y = pure z ∧ Q z s2) : EvS c ρ (.bin o a b) s Q := by
  obtain ⟨x, s1, e1, y, s2, e2, z, e3, q⟩ := h
  refine ⟨z, s2, ?_, q⟩
  simp only [evE]
  rw [bind_ok e1, bind_ok e2, e3]
  rfl
theorem es_cmp {o : Cop} {a b : E} (h : EvS c ρ a s fun x s1 => EvS c ρ b s1 fun y s2 => ∃ r, cmpD o x y = pure r ∧ Q (.bl r) s2) : EvS c ρ (.cmp o a b) s Q := by
  obtain ⟨x, s1, e1, y, s2, e2, r, e3, q⟩ := h
  refine ⟨.bl r, s2, ?_, q⟩
  simp only [evE]
  rw [bind_ok e1, bind_ok e2, e3]
  rfl
theorem es_not {a : E} (h : EvS c ρ a s fun x s1 => ∃ b, x = .bl b ∧ Q (.bl (!b)) s1) : EvS c ρ (.not a) s Q := by
  obtain ⟨x, s1, e1, b, rfl, q⟩ := h
  refine ⟨_, s1, ?_, q⟩
  simp only [evE]
  rw [bind_ok e1]
  rfl
theorem es_or {a b : E} (h : EvS c ρ a s fun x s1 => ∃ p, x = .bl p ∧ (p = true → Q (.bl true) s1) ∧ (p = false → EvS c ρ b s1 Q)) : EvS c ρ (.or a b) s Q := by
  obtain ⟨x, s1, e1, p, rfl, h1, h2⟩ := h
  cases p with
  | true =>
    refine ⟨_, s1, ?_, h1 rfl⟩
    simp only [evE]
    rw [bind_ok e1]
    rfl
  | false =>
    obtain ⟨y, s2, e2, q⟩ := h2 rfl
    refine ⟨y, s2, ?_, q⟩
    simp only [evE]
    rw [bind_ok e1]
    exact e2
theorem es_and {a b : E} (h : EvS c ρ a s fun x s1 => ∃ p, x = .bl p ∧ (p = false → Q (.bl false) s1) ∧ (p = true → EvS c ρ b s1 Q)) : EvS c ρ (.and a b) s Q := by
  obtain ⟨x, s1, e1, p, rfl, h1, h2⟩ := h
  cases p with
  | false =>
    refine ⟨_, s1, ?_, h1 rfl⟩
    simp only [evE]
    rw [bind_ok e1]
    rfl
  | true =>
    obtain ⟨y, s2, e2, q⟩ := h2 rfl
    refine ⟨y, s2, ?_, q⟩
    simp only [evE]
    rw [bind_ok e1]
    exact e2
theorem es_ife {t a b : E} (h : EvS c ρ t s fun x s1 => ∃ p, x = .bl p ∧ (p = true → EvS c ρ a s1 Q) ∧ (p = false → EvS c ρ b s1 Q)) : EvS c ρ (.ife t a b) s Q := by
  obtain ⟨x, s1, e1, p, rfl, h1, h2⟩ := h
  cases p with
  | true =>
    obtain ⟨y, s2, e2, q⟩ := h1 rfl
    refine ⟨y, s2, ?_, q⟩
    simp only [evE]
    rw [bind_ok e1]
    exact e2
  | false =>
    obtain ⟨y, s2, e2, q⟩ := h2 rfl
    refine ⟨y, s2, ?_, q⟩
    simp only [evE]
    rw [bind_ok e1]
    exact e2
theorem ess_nil {Q : List D → S → Prop} (q : Q [] s) : EvsS c ρ .nil s Q := ⟨[], s, by simp only [evEs]; rfl, q⟩
theorem ess_cons {a : E} {as : Es} {Q : List D → S → Prop} (h : EvS c ρ a s fun x s1 => EvsS c ρ as s1 fun xs s2 => Q (x :: xs) s2) : EvsS c ρ (.cons a as) s Q := by
  obtain ⟨x, s1, e1, xs, s2, e2, q⟩ := h
  refine ⟨x :: xs, s2, ?_, q⟩
  simp only [evEs]
  rw [bind_ok e1, bind_ok e2]
  rfl
theorem es_call {f : Nat} {as : Es} (h : EvsS c ρ as s fun ds s1 => ∃ d s2, c.Φ f ds s1 = .ok d s2 ∧ Q d s2) : EvS c ρ (.call f as) s Q := by
  obtain ⟨ds, s1, e1, d, s2, e2, q⟩ := h
  refine ⟨d, s2, ?_, q⟩
  simp only [evE]
  rw [bind_ok e1]
  exact e2
/-- a call whose arguments draw nothing -/
theorem es_call0 {f : Nat} {as : Es} {ds : List D} (h : Evs c ρ as ds) (q : ∃ d s2, c.Φ f ds s = .ok d s2 ∧ Q d s2) : EvS c ρ (.call f as) s Q := es_call ⟨ds, s, by rw [h]; rfl, q⟩
theorem es_bi {b : Bi} {as : Es} (h : EvsS c ρ as s fun ds s1 => ∃ d, biD b ds = pure d ∧ Q d s1) : EvS c ρ (.bi b as) s Q := by
  obtain ⟨ds, s1, e1, d, e2, q⟩ := h
  refine ⟨d, s1, ?_, q⟩
  simp only [evE]
  rw [bind_ok e1, e2]
  rfl
theorem es_bi1 {b : Bi} {a : E} (h : EvS c ρ a s fun x s1 => ∃ d, biD b [x] = pure d ∧ Q d s1) : EvS c ρ (.bi b (.cons a .nil)) s Q := es_bi (ess_cons (es_imp h fun x s1 q => ess_nil q))
theorem es_sub {a i : E} (h : EvS c ρ a s fun x s1 => EvS c ρ i s1 fun y s2 => ∃ z, subD x y = pure z ∧ Q z s2) : EvS c ρ (.sub a i) s Q := by
  obtain ⟨x, s1, e1, y, s2, e2, z, e3, q⟩ := h
  refine ⟨z, s2, ?_, q⟩
  simp only [evE]
  rw [bind_ok e1, bind_ok e2, e3]
  rfl
theorem is_range1 {a : E} {Q : List D → S → Prop} (h : EvS c ρ a s fun x s1 => ∃ n, x = .int n ∧ (-(2 ^ 62) ≤ n ∧ n < 2 ^ 62) ∧ Q ((rangeI 0 n).map D.int) s1) : EviS c ρ (.range1 a) s Q := by
  obtain ⟨x, s1, e1, n, rfl, h1, q⟩ := h
  refine ⟨_, s1, ?_, q⟩
  simp only [evIt]
  rw [bind_ok e1]
  show (rangeD 0 n) s1 = _
  rw [range_E (by omega)]
  rfl
theorem is_pure {e : Sr} {ds : List D} {Q : List D → S → Prop} (h : Evi c ρ e ds) (q : Q ds s) : EviS c ρ e s Q := ⟨ds, s, by rw [h]; rfl, q⟩
/-- a comprehension whose element draws -/
theorem compS {f : D → M (Option D)} (Inv : List α → List β → S → Prop) : ∀ (xs pre : List α) (ys : List β) (s : S), Inv pre ys s → (∀ p x q ys s, pre ++ xs = p ++ x :: q → Inv p ys s → ∃ y s', f (ea x) s = .ok (some (eb y)) s' ∧ Inv (p ++ [x]) (ys ++ [y]) s') →
    ∃ zs s', compL f (xs.map ea) s = .ok (zs.map eb) s' ∧ Inv (pre ++ xs) (ys ++ zs) s'
  | [], pre, ys, s, i, _ => ⟨[], s, rfl, by rw [List.append_nil, List.append_nil]; exact i⟩
  | x :: xs, pre, ys, s, i, h => by
    obtain ⟨y, s1, e1, i1⟩ := h pre x xs ys s rfl i
    obtain ⟨zs, s2, e2, i2⟩ := compS (f := f) Inv xs (pre ++ [x]) (ys ++ [y]) s1 i1 fun p z q ys s e' hp => h p z q ys s (by rw [← e']; simp) hp
    refine ⟨y :: zs, s2, ?_, by rw [show pre ++ x :: xs = pre ++ [x] ++ xs by simp, show ys ++ y :: zs = ys ++ [y] ++ zs by simp]; exact i2⟩
    show (f (ea x) >>= fun y => compL f (xs.map ea) >>= fun ys => (match y with | some d => pure (d :: ys) | none => pure ys : M (List D))) s = _
    rw [bind_ok e1, bind_ok e2]
    rfl
theorem es_compN {t : Tg} {src : Sr} {elt : E} {xs : List α} {r : α → Env} (Inv : List α → List β → S → Prop) (hs : EviS c ρ src s fun ds s1 => ds = xs.map ea ∧ Inv [] [] s1) (ht : ∀ x, t.set (ea x) (wipeE ρ t.slots) = pure (r x))
    (hb : ∀ p x q ys s, xs = p ++ x :: q → Inv p ys s → EvS c (r x) elt s fun d s' => ∃ y, d = eb y ∧ Inv (p ++ [x]) (ys ++ [y]) s') (hl : xs.length ≤ LINE)
    (hq : ∀ ys s', Inv xs ys s' → ys.length = xs.length → Q (enL eb ys) s') : EvS c ρ (.comp t src .no elt) s Q := by
  obtain ⟨ds, s1, e1, rfl, i0⟩ := hs
  obtain ⟨zs, s2, e2, i2, il⟩ := compS (ea := ea) (eb := eb) (f := fun d => (do
      let ρ' ← t.set d (wipeE ρ t.slots)
      if ← evC c ρ' .no then do return some (← evE c ρ' elt) else return none : M (Option D))) (fun p ys s => Inv p ys s ∧ ys.length = p.length) xs [] [] s1 ⟨i0, rfl⟩ (fun p x q ys s e ⟨i, l⟩ => by
    obtain ⟨d, s', e3, y, rfl, i3⟩ := hb p x q ys s e i
    refine ⟨y, s', ?_, i3, by rw [List.length_append, List.length_append, l]; rfl⟩
    show (t.set (ea x) (wipeE ρ t.slots) >>= fun ρ' => evC c ρ' .no >>= fun b => (if b = true then (evE c ρ' elt >>= fun d => pure (some d)) else pure none : M (Option D))) s = _
    rw [ht x, pure_bind']
    have e4 : evC c (r x) .no = pure true := by simp only [evC]
    rw [e4, pure_bind', if_pos rfl, bind_ok e3]
    rfl)
  refine ⟨enL eb zs, s2, ?_, hq zs s2 i2 (by simpa using il)⟩
  simp only [evE]
  rw [bind_ok e1]
  have e5 : calm (compL (fun d => (do
      let ρ' ← t.set d (wipeE ρ t.slots)
      if ← evC c ρ' .no then do return some (← evE c ρ' elt) else return none : M (Option D))) (xs.map ea)) s1 = .ok (zs.map eb) s2 := by
    unfold calm
    rw [e2]
  rw [bind_ok e5]
  have : (zs.map eb).length ≤ LINE := by
    rw [List.length_map]
    have : zs.length = xs.length := by simpa using il
    omega
  rw [lineE this]
  rfl

/-! statements -/
variable {κ : Fl × Env → M γ} {Q : R γ → Prop} {r : Cs}
theorem kt_asgQ {t : Tg} {e : E} (h : EvS c ρ e s fun d s' => ∃ ρ', t.set d ρ = pure ρ' ∧ Kt c r ρ' κ s' Q) : Kt c (.cons (.asg t e) r) ρ κ s Q := by
  obtain ⟨d, s', e1, ρ', e2, k⟩ := h
  exact kt_asgS e1 e2 k
theorem kt_exprQ {e : E} (h : EvS c ρ e s fun d s' => Kt c r ρ κ s' Q) : Kt c (.cons (.expr e) r) ρ κ s Q := by
  obtain ⟨d, s', e1, k⟩ := h
  exact kt_expr e1 k
theorem kt_retQ {e : E} (h : EvS c ρ e s fun d s' => Q (κ (.ret d, ρ) s')) : Kt c (.cons (.ret e) r) ρ κ s Q := by
  obtain ⟨d, s', e1, k⟩ := h
  exact kt_retS e1 k
theorem kt_ifE {t : E} {a b : Cs} (h : EvS c ρ t s fun d s' => ∃ z, d = .bl z ∧ (z = true → Kt c a ρ (sq c r κ) s' Q) ∧ (z = false → Kt c b ρ (sq c r κ) s' Q)) : Kt c (.cons (.ifs t a b) r) ρ κ s Q := by
  obtain ⟨d, s', e1, z, rfl, k1, k2⟩ := h
  exact kt_ifS e1 k1 k2
theorem kt_setAt {i : Nat} {e : E} {n : Int} (h : Ev c ρ e (.int n)) (hd : ρ[i]? = some (some .st)) (on : s.on = true) (k : Kt c r ρ κ { s with at_ := n } Q) : Kt c (.cons (.setAt i e) r) ρ κ s Q := kt_cons (x := (.nx, ρ)) (s' := { s with at_ := n }) (by
  unfold Ev at h
  have hg : Env.get ρ i = pure .st := by
    unfold Env.get
    rw [hd]
  simp only [evS, h, hg, pure_bind']
  have e1 : stD .st s = .ok () s := by show (if s.on then R.ok () s else .stuck) = _; rw [on]; rfl
  rw [bind_ok e1]
  rfl) k
theorem kt_setLeft {i : Nat} {e a : E} {n v : Int} (h : Ev c ρ e (.int v)) (h2 : Ev c ρ a (.int n)) (hd : ρ[i]? = some (some .st)) (on : s.on = true) (hn : 0 ≤ n ∧ n < s.lefts.length) (k : Kt c r ρ κ { s with lefts := s.lefts.set n.toNat v } Q) : Kt c (.cons (.setLeft i a e) r) ρ κ s Q := kt_cons (x := (.nx, ρ)) (s' := { s with lefts := s.lefts.set n.toNat v }) (by
  unfold Ev at h h2
  have hg : Env.get ρ i = pure .st := by
    unfold Env.get
    rw [hd]
  simp only [evS, h, h2, hg, pure_bind']
  have e1 : stD .st s = .ok () s := by show (if s.on then R.ok () s else .stuck) = _; rw [on]; rfl
  rw [bind_ok e1]
  have e2 : setLeftSt (.int n) (.int v) s = .ok () { s with lefts := s.lefts.set n.toNat v } := by
    show (match ixN s.lefts.length n with
      | some j => R.ok () { s with lefts := s.lefts.set j v }
      | none => R.stuck) = _
    unfold ixN
    rw [if_pos hn.1, if_pos hn.2]
  rw [bind_ok e2]
  rfl) k
theorem es_stAt {i : Nat} {Q : D → S → Prop} (hd : ρ[i]? = some (some .st)) (on : s.on = true) (q : Q (.int s.at_) s) : EvS c ρ (.stAt i) s Q := by
  refine ⟨_, s, ?_, q⟩
  have hg : Env.get ρ i = pure .st := by
    unfold Env.get
    rw [hd]
  simp only [evE, hg, pure_bind']
  have e1 : stD .st s = .ok () s := by show (if s.on then R.ok () s else .stuck) = _; rw [on]; rfl
  rw [bind_ok e1]
  rfl
theorem es_stCells {i : Nat} {Q : D → S → Prop} (hd : ρ[i]? = some (some .st)) (on : s.on = true) (q : Q (enL D.int s.cells) s) : EvS c ρ (.stCells i) s Q := by
  refine ⟨_, s, ?_, q⟩
  have hg : Env.get ρ i = pure .st := by
    unfold Env.get
    rw [hd]
  simp only [evE, hg, pure_bind']
  have e1 : stD .st s = .ok () s := by show (if s.on then R.ok () s else .stuck) = _; rw [on]; rfl
  rw [bind_ok e1]
  rfl
theorem es_stLeft {i : Nat} {a : E} {n : Int} {Q : D → S → Prop} (h2 : Ev c ρ a (.int n)) (hd : ρ[i]? = some (some .st)) (on : s.on = true) (hn : 0 ≤ n ∧ n < s.lefts.length) (q : Q (.int (s.lefts.getD n.toNat default)) s) : EvS c ρ (.stLeft i a) s Q := by
  refine ⟨_, s, ?_, q⟩
  unfold Ev at h2
  have hg : Env.get ρ i = pure .st := by
    unfold Env.get
    rw [hd]
  simp only [evE, hg, h2, pure_bind']
  have e1 : stD .st s = .ok () s := by show (if s.on then R.ok () s else .stuck) = _; rw [on]; rfl
  rw [bind_ok e1]
  show (match atD s.lefts n with
    | some v => R.ok (D.int v) s
    | none => R.stuck) = _
  unfold atD ixN
  rw [if_pos hn.1, if_pos hn.2]
  have hl : n.toNat < s.lefts.length := by omega
  show (match s.lefts[n.toNat]? with
    | some v => R.ok (D.int v) s
    | none => R.stuck) = _
  rw [List.getD_eq_getElem?_getD, List.getElem?_eq_getElem hl]
  rfl
theorem map_eraseIdx {α β : Type} (f : α → β) : ∀ (xs : List α) (i : Nat), (xs.eraseIdx i).map f = (xs.map f).eraseIdx i
  | [], _ => rfl
  | _ :: _, 0 => rfl
  | x :: xs, i + 1 => by simp [List.eraseIdx, map_eraseIdx f xs i]
theorem evE_mkSt {c : Ctx} {ρ : Env} {a b : E} : evE c ρ (.mkSt a b) = (evE c ρ a >>= fun x => evE c ρ b >>= fun y => mkStD x y) := by simp only [evE]
theorem kt_popA {j i : Nat} {e : E} {xs : List α} (hx : ρ[i]? = some (some (enL ea xs))) (h : EvS c ρ e s fun d s' => ∃ n x, d = .int n ∧ 0 ≤ n ∧ xs[n.toNat]? = some x ∧ xs.length < 2 ^ 62 ∧ Kt c r ((ρ.set i (some (enL ea (xs.eraseIdx n.toNat)))).set j (some (ea x))) κ s' Q) : Kt c (.cons (.popA j i e) r) ρ κ s Q := by
  obtain ⟨d, s', e1, n, x, rfl, h0, hx', h2, k⟩ := h
  have hl := (List.getElem?_eq_some_iff.mp hx').1
  refine kt_cons (s' := s') (x := (.nx, (ρ.set i (some (enL ea (xs.eraseIdx n.toNat)))).set j (some (ea x)))) ?_ k
  have hg : Env.get ρ i = pure (.lst (xs.map ea)) := by
    unfold Env.get
    rw [hx]
    rfl
  simp only [evS, hg, pure_bind', lstOf]
  rw [bind_ok e1]
  have e2 : popD ρ i (.int n) = pure (ea x, ρ.set i (some (enL ea (xs.eraseIdx n.toNat)))) := by
    unfold popD
    simp only [hg, pure_bind', lstOf, intD]
    rw [if_pos (by omega)]
    unfold ixN
    rw [if_pos h0, List.length_map, if_pos (by omega)]
    simp only [List.getElem?_map, hx', Option.map_some]
    unfold enL
    rw [map_eraseIdx]
  rw [e2, pure_bind']
  rfl
/-- a loop that goes on to its end, and draws -/
theorem kt_forQ {t : Tg} {h : List Nat} {src : Sr} {body : Cs} {xs : List α} (env : V → J → Env) (Inv : List α → V → S → Prop) {v0 : V} {j0 : J} (h0 : ρ = env v0 j0) (hs : EviS c ρ src s fun ds s1 => ds = xs.map ea ∧ Inv [] v0 s1)
    (hb : ∀ p x q v j s, xs = p ++ x :: q → Inv p v s → ∃ ρ', t.set (ea x) (env v j) = pure ρ' ∧ Kt c body ρ' nrm s fun o => ∃ v' j' s', o = .ok (.nx, env v' j') s' ∧ Inv (p ++ [x]) v' s')
    (hk : ∀ v j s, Inv xs v s → Kt c r (env v j) κ s Q) : Kt c (.cons (.for_ h t src body) r) ρ κ s Q := by
  subst h0
  obtain ⟨ds, s1, e1, rfl, i0⟩ := hs
  have go : ∀ (xs' pre : List α) (v : V) (j : J) (s : S), pre ++ xs' = xs → Inv pre v s → ∃ v' j' s', forL (fun d ρ => do let ρ' ← t.set d ρ; evCs c body ρ') (xs'.map ea) (env v j) s = .ok (.nx, env v' j') s' ∧ Inv xs v' s' := by
    intro xs'
    induction xs' with
    | nil =>
      intro pre v j s e i
      rw [List.append_nil] at e
      subst e
      exact ⟨v, j, s, rfl, i⟩
    | cons x xs' ih =>
      intro pre v j s e i
      obtain ⟨ρ', e2, v1, j1, s2, e3, i1⟩ := hb pre x xs' v j s e.symm i
      obtain ⟨v2, j2, s3, e4, i2⟩ := ih (pre ++ [x]) v1 j1 s2 (by rw [← e]; simp) i1
      refine ⟨v2, j2, s3, ?_, i2⟩
      have e3' : M.bind (evCs c body ρ') nrm s = _ := e3
      unfold M.bind at e3'
      cases q : evCs c body ρ' s with
      | ok y s4 =>
        rw [q] at e3'
        have e5 : (R.ok (nrmV y) s4 : R (Fl × Env)) = .ok (.nx, env v1 j1) s2 := (nrm_eq y s4).symm.trans e3'
        injection e5 with e6 e7
        subst e7
        show ((t.set (ea x) (env v j) >>= fun ρ' => evCs c body ρ') >>= fun r => (match r.1 with
          | .nx => forL (fun d ρ => do let ρ' ← t.set d ρ; evCs c body ρ') (xs'.map ea) r.2
          | .cont => forL (fun d ρ => do let ρ' ← t.set d ρ; evCs c body ρ') (xs'.map ea) r.2
          | .brk => pure (.nx, r.2)
          | .ret d => pure (.ret d, r.2) : M (Fl × Env))) s = _
        rw [e2, pure_bind', bind_ok q]
        obtain ⟨fl, ρ1⟩ := y
        cases fl with
        | nx => injection e6 with _ e8; subst e8; exact e4
        | cont => injection e6 with _ e8; subst e8; exact e4
        | ret d => injection e6 with e8 _; cases e8
        | brk => injection e6 with e8 _; cases e8
      | exc y s4 => rw [q] at e3'; cases e3'
      | stuck => rw [q] at e3'; cases e3'
  obtain ⟨v', j', s', e2, i⟩ := go xs [] v0 j0 s1 rfl i0
  refine kt_cons (x := (.nx, env v' j')) (s' := s') ?_ (hk v' j' s' i)
  simp only [evS]
  rw [bind_ok e1]
  exact e2
end

/-! ### the laws' own draws -/
structure Dr (N : Int) (s : S) : Prop where
  on : s.on = true
  cells : s.cells ≠ []
  len : s.lefts.length = s.cells.length
  at0 : 0 ≤ s.at_
  at1 : s.at_ ≤ N
theorem Dr.mono {M N : Int} {s : S} (h : Dr M s) (q : M ≤ N) : Dr N s := ⟨h.on, h.cells, h.len, h.at0, by have := h.at1; omega⟩
def mixed (cell k : Int) : Int := Int.fmod (Int.fmod (Int.fmod cell 2147483647 * (48271 + 2 * k * k) + 69621 * k + 11) 2147483647 * 69621) 2147483629
def bMixed : Cs := (.cons (.asg (.v 0) (.bin .mod (.bi .int1 (.cons (.var 0) .nil)) (.cst (.int 2147483647)))) (.cons (.ret (.bin .mod (.bin .mul (.bin .mod (.bin .add (.bin .add (.bin .mul (.var 0) (.bin .add (.cst (.int 48271)) (.bin .mul (.bin .mul (.cst (.int 2)) (.var 1)) (.var 1)))) (.bin .mul (.cst (.int 69621)) (.var 1))) (.cst (.int 11))) (.cst (.int 2147483647))) (.cst (.int 69621))) (.cst (.int 2147483629)))) .nil))
theorem small_of {i : Int} (h : -(2 ^ 64) < i) (h2 : i < 2 ^ 64) : small i = true := by
  unfold small
  simp only [Bool.and_eq_true, decide_eq_true_eq]
  exact ⟨h, h2⟩
theorem fmod_bd (a : Int) {b : Int} (h : 0 < b) : 0 ≤ Int.fmod a b ∧ Int.fmod a b < b := ⟨Int.fmod_nonneg_of_pos a h, Int.fmod_lt_of_pos a h⟩
theorem run_mixed {c : Ctx} (a k : Int) (h : 0 ≤ k) (h2 : k < 2 ^ 60) : runF c ⟨2, bMixed⟩ [.int a, .int k] = pure (.int (mixed a k)) := by
  have hb := fmod_bd a (b := 2147483647) (by decide)
  refine runF_pure (c := c) (f := ⟨2, bMixed⟩) (e := D.int) (v := mixed a k) fun σ => (show Kt c bMixed [some (.int a), some (.int k)] fin σ (QV _ σ _) from ?_)
  refine kt_asg (d := .int (Int.fmod a 2147483647)) (ρ' := [some (.int (Int.fmod a 2147483647)), some (.int k)]) (ev_mod (ev_int1 (ev_var rfl)) (ev_int _) (by decide)) rfl ?_
  refine kt_ret (d := .int (mixed a k)) ?_ rfl
  refine ev_mod (ev_mul (ev_mod (ev_add (ev_add (ev_mul (ev_var rfl) (ev_add (ev_int _) (ev_mul (ev_mul (ev_int _) (ev_var rfl) ?_) (ev_var rfl) ?_)) ?_) (ev_mul (ev_int _) (ev_var rfl) ?_)) (ev_int _)) (ev_int _) (by decide)) (ev_int _) ?_) (ev_int _) (by decide)
  · rw [show small 2 = true from by decide]; rfl
  · rw [small_of (i := k) (by omega) (by omega), Bool.or_true]
  · rw [small_of (i := Int.fmod a 2147483647) (by omega) (by omega)]; rfl
  · rw [show small 69621 = true from by decide]; rfl
  · rw [show small 69621 = true from by decide, Bool.or_true]
theorem mixed_bd (a k : Int) : 0 ≤ mixed a k ∧ mixed a k < 2147483629 := fmod_bd _ (by decide)
def bBegin : Cs := (.cons (.asg (.v 1) (.ife (.cmp .ne (.var 0) (.lst .nil)) (.bi .list (.cons (.var 0) .nil)) (.lst (.cons (.cst (.int 0)) .nil)))) (.fz [1] (.cons (.ret (.mkSt (.var 1) (.comp (.v 2) (.seq (.var 1)) .no (.ife (.cmp .ge (.var 2) (.bin .pow (.cst (.int 10)) (.cst (.int 18)))) (.var 2) (.cst (.int 0)))))) .nil)))
theorem run_begin {c : Ctx} (ns : List Int) (hn : ns.length ≤ 63) (s : S) (off : s.on = false) : ∃ s', runF c ⟨3, bBegin⟩ [enL D.int ns] s = .ok .st s' ∧ Dr 0 s' := by
  let cells : List Int := if (!decide (ns = [])) then ns else [0]
  let lefts : List Int := cells.map fun x => if decide (1000000000000000000 ≤ x) then x else 0
  have hc : cells ≠ [] := by
    show (if (!decide (ns = [])) then ns else [0]) ≠ []
    split <;> simp_all
  have hl : cells.length ≤ LINE := by
    rw [LINE_eq]
    show (if (!decide (ns = [])) then ns else [0]).length ≤ _
    split
    · omega
    · show 1 ≤ _; omega
  refine ⟨⟨true, cells, lefts, 0⟩, ?_, ⟨rfl, hc, by simp [lefts], Int.le_refl _, Int.le_refl _⟩⟩
  refine runF_of (c := c) (f := ⟨3, bBegin⟩) (Q := fun o => o = .ok .st ⟨true, cells, lefts, 0⟩) (show Kt c bBegin [some (enL D.int ns), none, none] fin s _ from ?_)
  refine kt_asg (d := enL D.int cells) (ρ' := [some (enL D.int ns), some (enL D.int cells), none]) (ev_ife (ea := enL D.int) (ev_cmp (x := enL D.int ns) (y := enL D.int []) (ev_var rfl) (ev_dispL (ea := D.int) evss_nil rfl (lenLit (Nat.le_of_ble_eq_true rfl))) (cm_ne (ea := enL D.int) _ _ (by decide))) (fun _ => ev_lstL (ea := D.int) (ev_var rfl)) (fun _ => ev_dispL (ea := D.int) (evss_cons (ev_int 0) evss_nil) rfl (lenLit (Nat.le_of_ble_eq_true rfl)))) rfl ?_
  refine kt_fz (kt_retS (d := .st) (s' := ⟨true, cells, lefts, 0⟩) ?_ rfl)
  have e1 : Ev c [some (enL D.int ns), some (enL D.int cells), none] (.var 1) (enL D.int cells) := ev_var rfl
  have e2 : Ev c [some (enL D.int ns), some (enL D.int cells), none] (.comp (.v 2) (.seq (.var 1)) .no (.ife (.cmp .ge (.var 2) (.bin .pow (.cst (.int 10)) (.cst (.int 18)))) (.var 2) (.cst (.int 0)))) (enL D.int lefts) :=
    ev_compN (ea := D.int) (eb := D.int) (xs := cells) (r := fun x => [some (enL D.int ns), some (enL D.int cells), some (.int x)]) (evi_L (ev_var rfl)) (fun _ => rfl) (fun x hx => ev_ife (ea := D.int) (ev_cmp (ev_var rfl) (ev_pow (ev_int 10) (ev_int 18) (by decide)) (cm_ge _ _)) (fun _ => ev_var rfl) (fun _ => ev_int 0)) hl
  unfold Ev at e1 e2
  rw [evE_mkSt, e1, e2]
  show mkStD (.lst (cells.map D.int)) (.lst (lefts.map D.int)) s = _
  show (if s.on then R.stuck else match ints? (cells.map D.int), ints? (lefts.map D.int) with
    | some a, some b => R.ok D.st ⟨true, a, b, 0⟩
    | _, _ => R.stuck) = _
  rw [off, intsE, intsE]
  rfl
def bDraw (m : Nat) : Cs := (.cons (.asg (.v 2) (.stAt 0)) (.cons (.setAt 0 (.bin .add (.var 2) (.cst (.int 1)))) (.cons (.asg (.v 3) (.bin .mod (.bi .int1 (.cons (.var 2) .nil)) (.bi .len (.cons (.stCells 0) .nil)))) (.cons (.asg (.v 4) (.stLeft 0 (.var 3))) (.cons (.ifs (.cmp .gt (.var 4) (.cst (.int 0))) (.cons (.setLeft 0 (.var 3) (.bin .fdiv (.var 4) (.var 1))) (.cons (.ret (.bin .mod (.bi .int1 (.cons (.var 4) .nil)) (.var 1))) .nil)) .nil) (.cons (.asg (.v 5) (.call m (.cons (.call m (.cons (.sub (.stCells 0) (.var 3)) (.cons (.var 2) .nil))) (.cons (.bin .add (.cst (.int 40)) (.var 2)) .nil)))) (.fz [5] (.cons (.ret (.bin .mod (.bin .fdiv (.bi .int1 (.cons (.bin .add (.bin .mul (.var 5) (.cst (.int 2147483647))) (.call m (.cons (.var 5) (.cons (.bin .add (.cst (.int 7)) (.var 2)) .nil)))) .nil)) (.cst (.int 64))) (.var 1))) .nil))))))))
theorem run_draw {c : Ctx} {m : Nat} (hm : ∀ a k : Int, 0 ≤ k → k < 2 ^ 60 → c.Φ m [.int a, .int k] = pure (.int (mixed a k))) {N : Int} {s : S} (d : Dr N s) (hN : N < 2 ^ 50) {n : Int} (h1 : 1 ≤ n) (h2 : n < 1073741824) :
    ∃ i s', runF c ⟨6, bDraw m⟩ [.st, .int n] s = .ok (.int i) s' ∧ 0 ≤ i ∧ i < n ∧ Dr (N + 1) s' := by
  obtain ⟨on, cs, ln, a0, a1⟩ := d
  have hc : 0 < s.cells.length := List.length_pos_iff.mpr cs
  let at_ := s.at_
  let pl := Int.fmod s.at_ s.cells.length
  have hp := fmod_bd s.at_ (b := s.cells.length) (by omega)
  let s1 : S := { s with at_ := s.at_ + 1 }
  have goal : ∀ (Q : R D → Prop), (∀ i s', 0 ≤ i → i < n → Dr (N + 1) s' → Q (.ok (.int i) s')) → Kt c (bDraw m) [some .st, some (.int n), none, none, none, none] fin s Q := fun Q hQ => by
    refine kt_asgQ (es_stAt rfl on ⟨[some .st, some (.int n), some (.int s.at_), none, none, none], rfl, ?_⟩)
    refine kt_setAt (n := s.at_ + 1) (ev_add (ev_var rfl) (ev_int 1)) rfl on ?_
    refine kt_asgQ (es_bin (es_pure (d := .int s.at_) (ev_int1 (ev_var rfl)) (es_bi1 (es_stCells rfl on ⟨.int s.cells.length, ?_, .int pl, if_pos (show (s.cells.length : Int) ≠ 0 by omega), [some .st, some (.int n), some (.int s.at_), some (.int pl), none, none], rfl, ?_⟩))))
    · show pure (D.int ((s.cells.map D.int).length : Nat)) = _
      rw [List.length_map]
    · have hp1 : 0 ≤ pl := hp.1
      have hp2 : pl < s.cells.length := hp.2
      refine kt_asgQ (es_stLeft (ev_var rfl) rfl on (by show 0 ≤ pl ∧ pl < (s.lefts.length : Int); omega) ⟨[some .st, some (.int n), some (.int s.at_), some (.int pl), some (.int (s.lefts.getD pl.toNat default)), none], rfl, ?_⟩)
      refine kt_if (z := decide (0 < s.lefts.getD pl.toNat default)) (ev_cmp (ev_var rfl) (ev_int 0) (cm_gt _ _)) (fun q => ?_) (fun q => ?_)
      · refine kt_setLeft (v := Int.fdiv (s.lefts.getD pl.toNat default) n) (n := pl) (ev_fdiv (ev_var rfl) (ev_var rfl) (by omega)) (ev_var rfl) rfl on (by show 0 ≤ pl ∧ pl < (s.lefts.length : Int); omega) ?_
        refine kt_ret (d := .int (Int.fmod (s.lefts.getD pl.toNat default) n)) (ev_mod (ev_int1 (ev_var rfl)) (ev_var rfl) (by omega)) ?_
        have hb := fmod_bd (s.lefts.getD pl.toNat default) (b := n) (by omega)
        exact hQ _ _ hb.1 hb.2 ⟨on, cs, by show (s.lefts.set _ _).length = _; rw [List.length_set]; exact ln, by show 0 ≤ s.at_ + 1; omega, by show s.at_ + 1 ≤ N + 1; omega⟩
      · refine kt_sq ?_
        have hm1 : ∀ a : Int, ∀ k : Int, 0 ≤ k → k ≤ N → c.Φ m [.int a, .int k] = pure (.int (mixed a k)) := fun a k h h' => hm a k h (by omega)
        let cell := s.cells.getD pl.toNat default
        let w := mixed (mixed cell s.at_) (40 + s.at_)
        refine kt_asgQ (es_call (ess_cons (es_call (ess_cons (es_sub (es_stCells rfl on (es_pure (d := .int pl) (ev_var rfl) ⟨.int cell, atE s.cells pl hp1 hp2, ess_cons (es_pure (d := .int s.at_) (ev_var rfl) (ess_nil ?_))⟩)))))))
        refine ⟨.int (mixed cell s.at_), { s with at_ := s.at_ + 1 }, by rw [hm _ _ a0 (by omega)]; rfl, ?_⟩
        refine ess_cons (es_pure (d := .int (40 + s.at_)) (ev_add (ev_int 40) (ev_var rfl)) (ess_nil ?_))
        refine ⟨.int w, { s with at_ := s.at_ + 1 }, by rw [hm _ _ (by omega) (by omega)]; rfl, [some .st, some (.int n), some (.int s.at_), some (.int pl), some (.int (s.lefts.getD pl.toNat default)), some (.int w)], rfl, ?_⟩
        refine kt_fz ?_
        have hw := mixed_bd (mixed cell s.at_) (40 + s.at_)
        refine kt_ret (d := .int (Int.fmod (Int.fdiv (w * 2147483647 + mixed w (7 + s.at_)) 64) n)) (ev_mod (ev_fdiv (ev_int1 (ev_add (ev_mul (ev_var rfl) (ev_int _) ?_) (ev_call (ds := [.int w, .int (7 + s.at_)]) (evs_cons (ev_var rfl) (evs_cons (ev_add (ev_int 7) (ev_var rfl)) evs_nil)) (hm _ _ (by omega) (by omega))))) (ev_int 64) (by decide)) (ev_var rfl) (by omega)) ?_
        · rw [show small 2147483647 = true from by decide, Bool.or_true]
        · have hb := fmod_bd (Int.fdiv (w * 2147483647 + mixed w (7 + s.at_)) 64) (b := n) (by omega)
          exact hQ _ _ hb.1 hb.2 ⟨on, cs, ln, by show 0 ≤ s.at_ + 1; omega, by show s.at_ + 1 ≤ N + 1; omega⟩
  have := goal (fun o => ∃ i s', o = .ok (.int i) s' ∧ 0 ≤ i ∧ i < n ∧ Dr (N + 1) s') fun i s' b1 b2 b3 => ⟨i, s', rfl, b1, b2, b3⟩
  exact this
/-- the def dr draws -/
def DrawOk (c : Ctx) (dr : Nat) : Prop := ∀ (N : Int) (s : S) (n : Int), Dr N s → N < 2 ^ 50 → 1 ≤ n → n < 1073741824 → ∃ i s', c.Φ dr [.st, .int n] s = .ok (.int i) s' ∧ 0 ≤ i ∧ i < n ∧ Dr (N + 1) s'
/-- a draw as a term -/
theorem es_draw {c : Ctx} {ρ : Env} {dr : Nat} (hd : DrawOk c dr) {a b : E} {N n : Int} {s : S} {Q : D → S → Prop} (d : Dr N s) (hN : N < 2 ^ 50) (ha : Ev c ρ a .st) (hb : Ev c ρ b (.int n)) (h1 : 1 ≤ n ∧ n < 1073741824) (q : ∀ i s', 0 ≤ i → i < n → Dr (N + 1) s' → Q (.int i) s') : EvS c ρ (.call dr (.cons a (.cons b .nil))) s Q := by
  obtain ⟨i, s', e, h2, h3, h4⟩ := hd N s n d hN h1.1 h1.2
  exact es_call0 (ds := [.st, .int n]) (evs_cons ha (evs_cons hb evs_nil)) ⟨_, s', e, q i s' h2 h3 h4⟩
def bHeaps (dr : Nat) : Cs := (.cons (.asg (.v 2) (.sub (.lst (.cons (.cst (.int 3)) (.cons (.cst (.int 9)) (.cons (.bin .pow (.cst (.int 10)) (.cst (.int 9))) .nil)))) (.call dr (.cons (.var 0) (.cons (.cst (.int 3)) .nil))))) (.cons (.ret (.bi .tuple (.cons (.comp (.v 3) (.range1 (.bin .add (.cst (.int 1)) (.call dr (.cons (.var 0) (.cons (.var 1) .nil))))) .no (.bin .add (.cst (.int 1)) (.call dr (.cons (.var 0) (.cons (.var 2) .nil))))) .nil))) .nil))
/-- drawn heaps -/
structure Hs (most : Int) (h : List Int) : Prop where
  l1 : 1 ≤ h.length
  l2 : (h.length : Int) ≤ most
  w : ∀ x ∈ h, 1 ≤ x ∧ x ≤ 1000000000
theorem run_heaps {c : Ctx} {dr : Nat} (hd : DrawOk c dr) {N : Int} {s : S} (d : Dr N s) (hN : N < 2 ^ 49) {most : Int} (h1 : 1 ≤ most ∧ most ≤ 1000) : ∃ h s', runF c ⟨4, bHeaps dr⟩ [.st, .int most] s = .ok (enT D.int h) s' ∧ Hs most h ∧ Dr (N + 2 + most) s' := by
  have goal : ∀ (Q : R D → Prop), (∀ h s', Hs most h → Dr (N + 2 + most) s' → Q (.ok (enT D.int h) s')) → Kt c (bHeaps dr) [some .st, some (.int most), none, none] fin s Q := fun Q hQ => by
    refine kt_asgQ (es_sub (es_pure (d := enL D.int [3, 9, 1000000000]) (ev_dispL (ea := D.int) (evss_cons (ev_int 3) (evss_cons (ev_int 9) (evss_cons (ev_pow (ev_int 10) (ev_int 9) (by decide)) evss_nil))) rfl (lenLit (Nat.le_of_ble_eq_true rfl))) (es_draw hd d (by omega) (ev_var rfl) (ev_int 3) (by decide) fun i s1 i0 i1 d1 => ?_)))
    have hw : ∃ wd : Int, subD (enL D.int [3, 9, 1000000000]) (.int i) = pure (.int wd) ∧ 1 ≤ wd ∧ wd ≤ 1000000000 := by
      refine ⟨_, atE (ea := D.int) [3, 9, 1000000000] i i0 (by show i < 3; omega), ?_⟩
      have : i = 0 ∨ i = 1 ∨ i = 2 := by omega
      rcases this with rfl | rfl | rfl <;> decide
    obtain ⟨wd, e1, w1, w2⟩ := hw
    refine ⟨.int wd, e1, [some .st, some (.int most), some (.int wd), none], rfl, ?_⟩
    have hsrc : EviS c [some .st, some (.int most), some (.int wd), none] (.range1 (.bin .add (.cst (.int 1)) (.call dr (.cons (.var 0) (.cons (.var 1) .nil))))) s1 fun ds s2 => ∃ m : Int, 1 ≤ m ∧ m ≤ most ∧ ds = (rangeI 0 m).map D.int ∧ Dr (N + 2) s2 := by
      refine is_range1 (es_bin (es_pure (ev_int 1) (es_draw hd d1 (by omega) (ev_var rfl) (ev_var rfl) (by omega) fun i s2 i0 i1 d2 => ⟨.int (1 + i), rfl, 1 + i, rfl, by omega, 1 + i, by omega, by omega, rfl, ?_⟩)))
      rwa [show N + 2 = N + 1 + 1 by omega]
    obtain ⟨ds, s2, e2, m, m1, m2, rfl, d2⟩ := hsrc
    refine kt_retQ (es_bi1 (es_compN (ea := D.int) (eb := D.int) (xs := rangeI 0 m) (r := fun x => [some .st, some (.int most), some (.int wd), some (.int x)]) (fun p ys s => (∀ x ∈ ys, 1 ≤ x ∧ x ≤ 1000000000) ∧ Dr (N + 2 + p.length) s) ⟨_, s2, e2, rfl, by simp, by simpa using d2⟩ (fun _ => rfl) (fun p x q ys s e i => ?_) ?_ fun ys s' i hl => ⟨enT D.int ys, rfl, ?_⟩))
    · obtain ⟨i1, d3⟩ := i
      have hp : (p.length : Int) ≤ most := by
        have := congrArg List.length e
        rw [rangeI_length, List.length_append, List.length_cons] at this
        omega
      refine es_bin (es_pure (ev_int 1) (es_draw hd d3 (by omega) (ev_var rfl) (ev_var rfl) (by omega) fun i s4 j0 j1 d4 => ⟨.int (1 + i), rfl, 1 + i, rfl, ?_, ?_⟩))
      · intro x hx
        rcases List.mem_append.mp hx with h | h
        · exact i1 x h
        · rw [List.mem_singleton] at h
          omega
      · rw [List.length_append, List.length_singleton]
        rwa [show N + 2 + ((p.length + 1 : Nat) : Int) = N + 2 + p.length + 1 by omega]
    · rw [rangeI_length, LINE_eq]
      omega
    · obtain ⟨i1, d3⟩ := i
      rw [rangeI_length] at hl
      refine hQ ys s' ⟨by omega, by omega, i1⟩ (d3.mono ?_)
      rw [rangeI_length]
      omega
  exact goal (fun o => ∃ h s', o = .ok (enT D.int h) s' ∧ Hs most h ∧ Dr (N + 2 + most) s') fun h s' a b => ⟨h, s', rfl, a, b⟩
end DE

/-! DErunX: errors and lambdas in runs. -/
namespace DE
open PySem

/-- the term raises x -/
def Exc (c : Ctx) (ρ : Env) (e : E) (x : Exn) : Prop := evE c ρ e = DE.raise x
section
variable {c : Ctx} {ρ : Env} {γ : Type} {κ : Fl × Env → M γ} {s : S} {Q : R γ → Prop} {r : Cs}
theorem exc_call {f : Nat} {as : Es} {ds : List D} {x : Exn} (h : Evs c ρ as ds) (q : c.Φ f ds = DE.raise x) : Exc c ρ (.call f as) x := by
  unfold Evs at h
  unfold Exc
  simp only [evE, h, pure_bind', q]
theorem kt_raise {y : Str} {e : E} {d : D} (h : Ev c ρ e d) (k : Q (.exc ⟨y, [d]⟩ s)) : Kt c (.cons (.raise y e) r) ρ κ s Q := by
  unfold Ev at h
  show Q ((evCs c (.cons (.raise y e) r) ρ >>= κ) s)
  have e1 : (evCs c (.cons (.raise y e) r) ρ >>= κ) = DE.raise ⟨y, [d]⟩ := by
    simp only [evCs, evS, bind_assoc', h, pure_bind', raise_bind]
  rw [e1]
  exact k
/-- a statement whose value raises -/
theorem kt_exprX {e : E} {x : Exn} (h : Exc c ρ e x) (k : Q (.exc x s)) : Kt c (.cons (.expr e) r) ρ κ s Q := by
  unfold Exc at h
  show Q ((evCs c (.cons (.expr e) r) ρ >>= κ) s)
  have e1 : (evCs c (.cons (.expr e) r) ρ >>= κ) = DE.raise x := by
    simp only [evCs, evS, bind_assoc', h, raise_bind]
  rw [e1]
  exact k
theorem runF_raise {f : Df} {ds : List D} {x : Exn} (h : ∀ s, Kt c f.body (ds.map some ++ List.replicate (f.n - ds.length) none) fin s fun o => o = .exc x s) : runF c f ds = DE.raise x := funext h
/-! a call of a def with a lambda -/
theorem ev_lam {t : Nat} {us : List Nat} {b : E} {td : Td} {d : D} (ht : c.xt.tds[t]? = some td) (h : c.Λ b (wipeE ρ us) = pure d) : Ev c ρ (.lam t us b) (tkD td.kind d) := by
  unfold Ev
  simp only [evE, tdD, ht, h]
  rfl
theorem ev_lamX {t : Nat} {us : List Nat} {b : E} {td : Td} {x : Exn} {d : D} (ht : c.xt.tds[t]? = some td) (h : c.Λ b (wipeE ρ us) = DE.raise x) (hd : hdD c.xt x td.hs = some d) : Ev c ρ (.lam t us b) d := by
  unfold Ev
  simp only [evE, tdD, ht, h]
  funext s
  show (match hdD c.xt x td.hs with
    | some d => R.ok d s
    | none => R.stuck) = R.ok d s
  rw [hd]
end
/-! one of some things -/
def bOf (dr : Nat) : Cs := (.cons (.ret (.sub (.var 1) (.call dr (.cons (.var 0) (.cons (.bi .len (.cons (.var 1) .nil)) .nil))))) .nil)
theorem run_of {c : Ctx} {dr : Nat} (hd : DrawOk c dr) {α : Type} [Inhabited α] {ea : α → D} {xs : List α} {N : Int} {s : S} (d : Dr N s) (hN : N < 2 ^ 50) (hx : xs ≠ []) (hl : xs.length ≤ 1000) :
    ∃ x s', runF c ⟨2, bOf dr⟩ [.st, enL ea xs] s = .ok (ea x) s' ∧ x ∈ xs ∧ Dr (N + 1) s' := by
  have h0 : 0 < xs.length := List.length_pos_iff.mpr hx
  have goal : Kt c (bOf dr) [some .st, some (enL ea xs)] fin s (fun o => ∃ x s', o = .ok (ea x) s' ∧ x ∈ xs ∧ Dr (N + 1) s') := by
    refine kt_retQ (es_sub (es_pure (d := enL ea xs) (ev_var rfl) (es_draw hd d hN (n := xs.length) (ev_var rfl) (ev_lenL (ea := ea) (ev_var rfl)) ⟨by omega, by omega⟩ fun i s' g0 g1 d' => ?_)))
    refine ⟨_, atE xs i g0 g1, _, s', rfl, ?_, d'⟩
    rw [List.getD_eq_getElem?_getD, List.getElem?_eq_getElem (by omega)]
    exact List.getElem_mem _
  exact goal
/-! a comprehension whose condition draws -/
theorem compO {α β : Type} {ea : α → D} {eb : β → D} {f : D → M (Option D)} (Inv : List α → List β → S → Prop) : ∀ (xs pre : List α) (ys : List β) (s : S), Inv pre ys s → (∀ p x q ys s, pre ++ xs = p ++ x :: q → Inv p ys s → ∃ (o : Option β) (s' : S), f (ea x) s = .ok (o.map eb) s' ∧ Inv (p ++ [x]) (ys ++ o.toList) s') →
    ∃ zs s', compL f (xs.map ea) s = .ok (zs.map eb) s' ∧ Inv (pre ++ xs) (ys ++ zs) s' ∧ zs.length ≤ xs.length
  | [], pre, ys, s, i, _ => ⟨[], s, rfl, by rw [List.append_nil, List.append_nil]; exact i, Nat.le_refl _⟩
  | x :: xs, pre, ys, s, i, h => by
    obtain ⟨o, s1, e1, i1⟩ := h pre x xs ys s rfl i
    obtain ⟨zs, s2, e2, i2, l2⟩ := compO (f := f) Inv xs (pre ++ [x]) (ys ++ o.toList) s1 i1 fun p z q ys s e' hp => h p z q ys s (by rw [← e']; simp) hp
    refine ⟨o.toList ++ zs, s2, ?_, by rw [show pre ++ x :: xs = pre ++ [x] ++ xs by simp, ← List.append_assoc]; exact i2, by cases o <;> simp <;> omega⟩
    show (f (ea x) >>= fun y => compL f (xs.map ea) >>= fun ys => (match y with | some d => pure (d :: ys) | none => pure ys : M (List D))) s = _
    rw [bind_ok e1, bind_ok e2]
    cases o <;> rfl
theorem es_compC {α β : Type} {ea : α → D} {eb : β → D} {c : Ctx} {ρ : Env} {s : S} {Q : D → S → Prop} {t : Tg} {src : Sr} {cn elt : E} {xs : List α} {r : α → Env} {g : α → β} (Inv : List α → List β → S → Prop) (hs : EviS c ρ src s fun ds s1 => ds = xs.map ea ∧ Inv [] [] s1) (ht : ∀ x, t.set (ea x) (wipeE ρ t.slots) = pure (r x))
    (hb : ∀ p x q ys s, xs = p ++ x :: q → Inv p ys s → EvS c (r x) cn s fun d s' => ∃ z, d = .bl z ∧ Inv (p ++ [x]) (ys ++ if z then [g x] else []) s') (he : ∀ x, Ev c (r x) elt (eb (g x))) (hl : xs.length ≤ LINE)
    (hq : ∀ ys s', Inv xs ys s' → Q (enL eb ys) s') : EvS c ρ (.comp t src (.yes cn) elt) s Q := by
  obtain ⟨ds, s1, e1, rfl, i0⟩ := hs
  obtain ⟨zs, s2, e2, i2, il⟩ := compO (ea := ea) (eb := eb) (f := fun d => (do
      let ρ' ← t.set d (wipeE ρ t.slots)
      if ← evC c ρ' (.yes cn) then do return some (← evE c ρ' elt) else return none : M (Option D))) Inv xs [] [] s1 i0 (fun p x q ys s e i => by
    obtain ⟨d, s', e3, z, rfl, i3⟩ := hb p x q ys s e i
    refine ⟨if z then some (g x) else none, s', ?_, by cases z <;> simpa using i3⟩
    show (t.set (ea x) (wipeE ρ t.slots) >>= fun ρ' => evC c ρ' (.yes cn) >>= fun b => (if b = true then (evE c ρ' elt >>= fun d => pure (some d)) else pure none : M (Option D))) s = _
    rw [ht x, pure_bind']
    have e4 : evC c (r x) (.yes cn) s = .ok z s' := by
      simp only [evC]
      rw [bind_ok e3]
      rfl
    rw [bind_ok e4]
    have e5 : evE c (r x) elt = pure (eb (g x)) := he x
    cases z with
    | true => rw [if_pos rfl, e5, pure_bind']; rfl
    | false => rfl)
  refine ⟨enL eb zs, s2, ?_, hq zs s2 i2⟩
  simp only [evE]
  rw [bind_ok e1]
  have e5 : calm (compL (fun d => (do
      let ρ' ← t.set d (wipeE ρ t.slots)
      if ← evC c ρ' (.yes cn) then do return some (← evE c ρ' elt) else return none : M (Option D))) (xs.map ea)) s1 = .ok (zs.map eb) s2 := by
    unfold calm
    rw [e2]
  rw [bind_ok e5]
  have : (zs.map eb).length ≤ LINE := by
    rw [List.length_map]
    omega
  rw [lineE this]
  rfl
end DE
/-! repr -/
namespace DE
open PySem
section
variable {c : Ctx} {ρ : Env} {α : Type} {ea : α → D}
theorem ev_reprL {a : E} {x : List α} (h : Ev c ρ a (enL ea x)) (q : showB (enL ea x) = true) : Ev c ρ (.bi .repr (.cons a .nil)) (.str (enL ea x).py.shown) := ev_bi1 h (by
  show reprD (enL ea x) = _
  unfold reprD
  rw [if_pos q])
theorem ev_reprT {a : E} {x : List α} (h : Ev c ρ a (enT ea x)) (q : showB (enT ea x) = true) : Ev c ρ (.bi .repr (.cons a .nil)) (.str (enT ea x).py.shown) := ev_bi1 h (by
  show reprD (enT ea x) = _
  unfold reprD
  rw [if_pos q])
theorem cm_neS (x y : Str) : cmpD .ne (.str x) (.str y) = pure (!decide (x = y)) := rfl
theorem cm_eqS (x y : Str) : cmpD .eq (.str x) (.str y) = pure (decide (x = y)) := rfl
end
/-- data whose text can be told: k, how deep it is at most; n, what it weighs at most -/
structure Sw (k n : Nat) (d : D) : Prop where
  can : d.py.canLay0 = true
  dep : d.py.depth ≤ k
  wt : d.py.weight ≤ n
  sht : d.py.intsShort 13 = true
  shw : d.py.showable = true
  nod : d.py.hasDict = false
theorem Sw.mono {m n j k : Nat} {d : D} (h : Sw j m d) (p : j ≤ k) (q : m ≤ n) : Sw k n d := ⟨h.can, Nat.le_trans h.dep p, Nat.le_trans h.wt q, h.sht, h.shw, h.nod⟩
theorem Sw.show {k n : Nat} {d : D} (h : Sw k n d) (p : k ≤ 60) (q : n ≤ 2 ^ 20) : showB d = true := by
  have hd := h.dep
  have hw := h.wt
  have l : PyData.layable0 d.py = true := by
    unfold PyData.layable0
    simp only [Bool.and_eq_true, decide_eq_true_eq]
    exact ⟨⟨h.can, by omega⟩, by omega⟩
  have z := PyData.shown_fits_of_layable0 (B := 13) (by decide) (by decide) l h.sht
  unfold showB shp SeqAt.shaped
  simp only [Bool.and_eq_true, decide_eq_true_eq, Bool.not_eq_true']
  exact ⟨⟨⟨⟨h.can, by omega⟩, h.shw⟩, h.nod⟩, z⟩
theorem Sw.int {i : Int} (h : i.natAbs < 10 ^ 12) : Sw 0 40 (.int i) := by
  have lg : i.natAbs.log2 < 40 := by
    by_cases z : i.natAbs = 0
    · rw [z]; decide
    · exact (Nat.log2_lt z).mpr (Nat.lt_of_lt_of_le h (by decide))
  refine ⟨rfl, by simp only [D.py, PyData.depth]; exact Nat.le_refl _, ?_, ?_, ?_, rfl⟩
  · simp only [D.py, PyData.weight]
    split <;> omega
  · simp only [D.py, PyData.intsShort]
    exact decide_eq_true (PyData.shown_int_le h)
  · simp only [D.py, PyData.showable]
    exact decide_eq_true (by omega)
theorem sw_all {k m : Nat} : ∀ {xs : List D}, (∀ x ∈ xs, Sw k m x) → PyData.canLayAll0 (pyAll xs) = true ∧ PyData.depthAll (pyAll xs) ≤ k ∧ PyData.weightAll (pyAll xs) ≤ xs.length * (m + 1) ∧ PyData.intsShortAll 13 (pyAll xs) = true ∧ PyData.showableAll (pyAll xs) = true ∧ PyData.hasDictAll (pyAll xs) = false
  | [], _ => by simp [pyAll, PyData.canLayAll0, PyData.depthAll, PyData.weightAll, PyData.intsShortAll, PyData.showableAll, PyData.hasDictAll]
  | x :: xs, h => by
    have a := h x List.mem_cons_self
    obtain ⟨b1, b2, b3, b4, b5, b6⟩ := sw_all fun y hy => h y (List.mem_cons_of_mem _ hy)
    have a2 := a.dep
    have a3 := a.wt
    refine ⟨?_, ?_, ?_, ?_, ?_, ?_⟩
    · simp only [pyAll, PyData.canLayAll0, a.can, b1, Bool.and_self]
    · simp only [pyAll, PyData.depthAll]
      omega
    · simp only [pyAll, PyData.weightAll, List.length_cons, Nat.succ_mul]
      omega
    · simp only [pyAll, PyData.intsShortAll, a.sht, b4, Bool.and_self]
    · simp only [pyAll, PyData.showableAll, a.shw, b5, Bool.and_self]
    · simp only [pyAll, PyData.hasDictAll, a.nod, b6, Bool.or_self]
theorem Sw.lst {k m l : Nat} {xs : List D} (h : ∀ x ∈ xs, Sw k m x) (q : xs.length ≤ l) : Sw (k + 1) (l * (m + 1)) (.lst xs) := by
  obtain ⟨b1, b2, b3, b4, b5, b6⟩ := sw_all h
  have := Nat.mul_le_mul_right (m + 1) q
  refine ⟨?_, ?_, ?_, ?_, ?_, ?_⟩ <;> simp only [D.py, PyData.canLay0, PyData.depth, PyData.weight, PyData.intsShort, PyData.showable, PyData.hasDict] <;> first | assumption | omega
theorem Sw.tup {k m l : Nat} {xs : List D} (h : ∀ x ∈ xs, Sw k m x) (q : xs.length ≤ l) : Sw (k + 1) (l * (m + 1)) (.tup xs) := by
  obtain ⟨b1, b2, b3, b4, b5, b6⟩ := sw_all h
  have := Nat.mul_le_mul_right (m + 1) q
  refine ⟨?_, ?_, ?_, ?_, ?_, ?_⟩ <;> simp only [D.py, PyData.canLay0, PyData.depth, PyData.weight, PyData.intsShort, PyData.showable, PyData.hasDict] <;> first | assumption | omega
theorem Sw.enT {α : Type} {e : α → D} {k m l : Nat} {xs : List α} (h : ∀ x ∈ xs, Sw k m (e x)) (q : xs.length ≤ l) : Sw (k + 1) (l * (m + 1)) (enT e xs) := Sw.tup (fun d hd => by
  obtain ⟨x, hx, rfl⟩ := List.mem_map.mp hd
  exact h x hx) (by rwa [List.length_map])
theorem Sw.enL {α : Type} {e : α → D} {k m l : Nat} {xs : List α} (h : ∀ x ∈ xs, Sw k m (e x)) (q : xs.length ≤ l) : Sw (k + 1) (l * (m + 1)) (enL e xs) := Sw.lst (fun d hd => by
  obtain ⟨x, hx, rfl⟩ := List.mem_map.mp hd
  exact h x hx) (by rwa [List.length_map])
/-! ### reversed, tables, sorted(dict(pairs)) -/
theorem revT {α : Type} (e : α → D) (x : List α) : revD (enT e x) = pure (enT e x.reverse) := by
  unfold enT
  rw [List.map_reverse]
  rfl
theorem revL {α : Type} (e : α → D) (x : List α) : revD (enL e x) = pure (enL e x.reverse) := by
  unfold enL
  rw [List.map_reverse]
  rfl
theorem firstsE {β : Type} (f : β → D) : ∀ ps : List (Int × β), firsts? (ps.map (enP D.int f)) = some (ps.map (·.1))
  | [] => rfl
  | p :: r => by
    show (firsts? (r.map (enP D.int f))).map (p.1 :: ·) = _
    rw [firstsE f r]
    rfl
theorem sdictE {β : Type} (f : β → D) (ps : List (Int × β)) (h : ps.length < 64) : sdictD (enL (enP D.int f) ps) = pure (enL D.int (setI (ps.map (·.1)))) := by
  show optF (firsts? (ps.map (enP D.int f))) _ = _
  rw [firstsE]
  show (if (ps.map (·.1)).length < 64 then _ else _) = _
  rw [if_pos (by rw [List.length_map]; exact h)]
  rfl
end DE

/-! DErunD: drawing terms, step by step (for gen_draw). -/
namespace DE
open PySem PySem.Spec
def EvssS (c : Ctx) (ρ : Env) (e : Ss) (s : S) (Q : List D → S → Prop) : Prop := ∃ d s', evSs c ρ e s = .ok d s' ∧ Q d s'
section
variable {c : Ctx} {ρ ρ' : Env} {α β γ δ V J : Type} {ea : α → D} {eb : β → D} {s s' : S} {Q : D → S → Prop}
theorem ev_eqL {a : E} {x y : α} (q : x = y) (h : Ev c ρ a (ea y)) : Ev c ρ a (ea x) := q ▸ h
theorem callX {f : Nat} {ds : List D} {P : α → Prop} {M : Int} {Q : D → S → Prop} (h : ∃ x s', c.Φ f ds s = .ok (ea x) s' ∧ P x ∧ Dr M s') (k : ∀ x s', P x → Dr M s' → Q (ea x) s') : ∃ d s2, c.Φ f ds s = .ok d s2 ∧ Q d s2 := by
  obtain ⟨x, s', e, p, d⟩ := h
  exact ⟨_, _, e, k x s' p d⟩
/-- a call that draws nothing -/
theorem callP {f : Nat} {ds : List D} {d : D} {Q : D → S → Prop} (h : c.Φ f ds = pure d) (k : Q d s) : ∃ d s2, c.Φ f ds s = .ok d s2 ∧ Q d s2 := ⟨d, s, by rw [h]; rfl, k⟩
theorem drawX {dr : Nat} {N n : Int} {Q : D → S → Prop} (hd : DrawOk c dr) (d : Dr N s) (hN : N < 2 ^ 50) (h1 : 1 ≤ n ∧ n < 1073741824) (k : ∀ i s', 0 ≤ i → i < n → Dr (N + 1) s' → Q (.int i) s') : ∃ d s2, c.Φ dr [.st, .int n] s = .ok d s2 ∧ Q d s2 := by
  obtain ⟨i, s2, e, h2, h3, d2⟩ := hd N s n d hN h1.1 h1.2
  exact ⟨_, _, e, k i s2 h2 h3 d2⟩
/-- one of a list, at a drawn place -/
theorem subLX {xs : List α} [Inhabited α] {i : Int} {Q : D → S → Prop} (h : 0 ≤ i ∧ i < xs.length) (k : ∀ x, x ∈ xs → Q (ea x) s) : ∃ z, subD (enL ea xs) (.int i) = pure z ∧ Q z s := ⟨_, atE xs i h.1 h.2, k _ (by
  rw [List.getD_eq_getElem?_getD, List.getElem?_eq_getElem (by omega)]
  exact List.getElem_mem _)⟩
theorem subTX {xs : List α} [Inhabited α] {i : Int} {Q : D → S → Prop} (h : 0 ≤ i ∧ i < xs.length) (k : ∀ x, x ∈ xs → Q (ea x) s) : ∃ z, subD (enT ea xs) (.int i) = pure z ∧ Q z s := by
  obtain ⟨z, e, q⟩ := subLX (ea := ea) (Q := Q) (s := s) h k
  exact ⟨z, e, q⟩
theorem esss_nil {Q : List D → S → Prop} (q : Q [] s) : EvssS c ρ .nil s Q := ⟨[], s, by simp only [evSs]; rfl, q⟩
theorem esss_cons {a : E} {as : Ss} {Q : List D → S → Prop} (h : EvS c ρ a s fun x s1 => EvssS c ρ as s1 fun xs s2 => Q (x :: xs) s2) : EvssS c ρ (.cons a as) s Q := by
  obtain ⟨x, s1, e1, xs, s2, e2, q⟩ := h
  refine ⟨_, s2, ?_, q⟩
  simp only [evSs]
  rw [bind_ok e1, bind_ok e2]
  rfl
theorem es_tup {as : Ss} (h : EvssS c ρ as s fun ds s1 => ds.length ≤ LINE ∧ Q (.tup ds) s1) : EvS c ρ (.tup as) s Q := by
  obtain ⟨ds, s1, e1, hl, q⟩ := h
  refine ⟨_, s1, ?_, q⟩
  simp only [evE]
  rw [bind_ok e1, lineE hl]
  rfl
theorem es_lst {as : Ss} (h : EvssS c ρ as s fun ds s1 => ds.length ≤ LINE ∧ Q (.lst ds) s1) : EvS c ρ (.lst as) s Q := by
  obtain ⟨ds, s1, e1, hl, q⟩ := h
  refine ⟨_, s1, ?_, q⟩
  simp only [evE]
  rw [bind_ok e1, lineE hl]
  rfl
theorem es_neg {a : E} (h : EvS c ρ a s fun x s1 => ∃ i, x = .int i ∧ Q (.int (-i)) s1) : EvS c ρ (.neg a) s Q := by
  obtain ⟨x, s1, e1, i, rfl, q⟩ := h
  refine ⟨_, s1, ?_, q⟩
  simp only [evE]
  rw [bind_ok e1]
  rfl
theorem es_isi {a : E} {t : Ty} (h : EvS c ρ a s fun x s1 => ∃ b, isiD t x = pure b ∧ Q (.bl b) s1) : EvS c ρ (.isi a t) s Q := by
  obtain ⟨x, s1, e1, i, e2, q⟩ := h
  refine ⟨_, s1, ?_, q⟩
  simp only [evE]
  rw [bind_ok e1, e2]
  rfl
/-- sources -/
theorem is_L {a : E} {Q : List D → S → Prop} (h : EvS c ρ a s fun x s1 => ∃ xs : List α, x = enL ea xs ∧ Q (xs.map ea) s1) : EviS c ρ (.seq a) s Q := by
  obtain ⟨x, s1, e1, xs, rfl, q⟩ := h
  refine ⟨_, s1, ?_, q⟩
  simp only [evIt]
  rw [bind_ok e1]
  rfl
theorem is_T {a : E} {Q : List D → S → Prop} (h : EvS c ρ a s fun x s1 => ∃ xs : List α, x = enT ea xs ∧ Q (xs.map ea) s1) : EviS c ρ (.seq a) s Q := by
  obtain ⟨x, s1, e1, xs, rfl, q⟩ := h
  refine ⟨_, s1, ?_, q⟩
  simp only [evIt]
  rw [bind_ok e1]
  rfl
theorem is_range2 {a b : E} {Q : List D → S → Prop} (h : EvS c ρ a s fun x s1 => EvS c ρ b s1 fun y s2 => ∃ m n, x = .int m ∧ y = .int n ∧ (-(2 ^ 62) ≤ m ∧ m < 2 ^ 62 ∧ -(2 ^ 62) ≤ n ∧ n < 2 ^ 62) ∧ Q ((rangeI m n).map D.int) s2) : EviS c ρ (.range2 a b) s Q := by
  obtain ⟨x, s1, e1, y, s2, e2, m, n, rfl, rfl, h1, q⟩ := h
  refine ⟨_, s2, ?_, q⟩
  simp only [evIt]
  rw [bind_ok e1, bind_ok e2]
  show (rangeD m n) s2 = _
  rw [range_E h1]
  rfl
/-- what is told of each item of a comprehension that draws -/
theorem es_compD {t : Tg} {src : Sr} {elt : E} {r : α → Env} (P : β → Prop) (k0 : Int) (hs : EviS c ρ src s fun ds s1 => ∃ (xs : List α) (N : Int), ds = xs.map ea ∧ Dr N s1 ∧ xs.length ≤ LINE ∧
      (∀ x ∈ xs, ∀ (M : Int) (s : S), Dr M s → M ≤ N + k0 * xs.length → EvS c (r x) elt s fun d s' => ∃ y, d = eb y ∧ P y ∧ Dr (M + k0) s') ∧ 0 ≤ k0 ∧
      ∀ (ys : List β) s', ys.length = xs.length → (∀ y ∈ ys, P y) → Dr (N + k0 * xs.length) s' → Q (enL eb ys) s') (ht : ∀ x, t.set (ea x) (wipeE ρ t.slots) = pure (r x)) : EvS c ρ (.comp t src .no elt) s Q := by
  obtain ⟨ds, s1, e1, xs, N, rfl, d1, hl, hb, h0, hq⟩ := hs
  refine es_compN (ea := ea) (eb := eb) (xs := xs) (r := r) (fun p ys s => (∀ y ∈ ys, P y) ∧ Dr (N + k0 * p.length) s) ⟨_, s1, e1, rfl, fun y hy => (by cases hy), by simpa using d1⟩ ht (fun p x q ys s e i => ?_) hl fun ys s' i l => hq ys s' l i.1 i.2
  have hlen : p.length + q.length + 1 = xs.length := by rw [e, List.length_append, List.length_cons]; omega
  have hm : k0 * (p.length : Int) ≤ k0 * xs.length := Int.mul_le_mul_of_nonneg_left (by omega) h0
  obtain ⟨d, s2, e2, y, rfl, py, d2⟩ := hb x (by rw [e]; simp) _ s i.2 (by omega)
  refine ⟨_, s2, e2, y, rfl, fun z hz => ?_, ?_⟩
  · rcases List.mem_append.mp hz with w | w
    · exact i.1 z w
    · rw [List.mem_singleton] at w
      exact w ▸ py
  · rw [List.length_append, List.length_singleton]
    have : N + k0 * ((p.length + 1 : Nat) : Int) = N + k0 * p.length + k0 := by
      push_cast
      rw [Int.mul_add]
      omega
    rw [this]
    exact d2
/-- .. whose condition draws -/
theorem es_compE {t : Tg} {src : Sr} {cn elt : E} {r : α → Env} {g : α → β} (P : β → Prop) (k0 : Int) (hs : EviS c ρ src s fun ds s1 => ∃ (xs : List α) (N : Int), ds = xs.map ea ∧ Dr N s1 ∧ xs.length ≤ LINE ∧
      (∀ x ∈ xs, ∀ (M : Int) (s : S), Dr M s → M ≤ N + k0 * xs.length → EvS c (r x) cn s fun d s' => ∃ z, d = .bl z ∧ (z = true → P (g x)) ∧ Dr (M + k0) s') ∧ 0 ≤ k0 ∧
      ∀ (ys : List β) s', ys.length ≤ xs.length → (∀ y ∈ ys, P y) → Dr (N + k0 * xs.length) s' → Q (enL eb ys) s') (ht : ∀ x, t.set (ea x) (wipeE ρ t.slots) = pure (r x)) (he : ∀ x, Ev c (r x) elt (eb (g x))) : EvS c ρ (.comp t src (.yes cn) elt) s Q := by
  obtain ⟨ds, s1, e1, xs, N, rfl, d1, hl, hb, h0, hq⟩ := hs
  refine es_compC (ea := ea) (eb := eb) (xs := xs) (r := r) (g := g) (fun p ys s => ys.length ≤ p.length ∧ (∀ y ∈ ys, P y) ∧ Dr (N + k0 * p.length) s) ⟨_, s1, e1, rfl, Nat.le_refl _, fun y hy => (by cases hy), by simpa using d1⟩ ht (fun p x q ys s e i => ?_) he hl fun ys s' i => hq ys s' i.1 i.2.1 i.2.2
  have hlen : p.length + q.length + 1 = xs.length := by rw [e, List.length_append, List.length_cons]; omega
  have hm : k0 * (p.length : Int) ≤ k0 * xs.length := Int.mul_le_mul_of_nonneg_left (by omega) h0
  obtain ⟨d, s2, e2, z, rfl, pz, d2⟩ := hb x (by rw [e]; simp) _ s i.2.2 (by omega)
  refine ⟨_, s2, e2, z, rfl, ?_, fun y hy => ?_, ?_⟩
  · rw [List.length_append, List.length_append, List.length_singleton]
    have := i.1
    cases z <;> simp <;> omega
  · rcases List.mem_append.mp hy with w | w
    · exact i.2.1 y w
    · cases z with
      | false => simp at w
      | true =>
        simp at w
        exact w ▸ pz rfl
  · rw [List.length_append, List.length_singleton]
    have : N + k0 * ((p.length + 1 : Nat) : Int) = N + k0 * p.length + k0 := by
      push_cast
      rw [Int.mul_add]
      omega
    rw [this]
    exact d2
/-! statements -/
variable {κ : Fl × Env → M γ} {Q : R γ → Prop} {r : Cs}
theorem kt_parQ {i j : Nat} {a b : E} (h : EvS c ρ a s fun x s1 => EvS c ρ b s1 fun y s2 => ∃ ρ', (ρ.set i (some x)).set j (some y) = ρ' ∧ Kt c r ρ' κ s2 Q) : Kt c (.cons (.par i j a b) r) ρ κ s Q := by
  obtain ⟨x, s1, e1, y, s2, e2, ρ', rfl, k⟩ := h
  refine kt_cons (x := (.nx, (ρ.set i (some x)).set j (some y))) (s' := s2) ?_ k
  simp only [evS]
  rw [bind_ok e1, bind_ok e2]
  rfl
theorem kt_appQ {i : Nat} {e : E} {xs : List α} (hx : ρ[i]? = some (some (enL ea xs))) (h : EvS c ρ e s fun d s' => ∃ (x : α) (ρ' : Env), d = ea x ∧ xs.length < LINE ∧ ρ.set i (some (enL ea (xs ++ [x]))) = ρ' ∧ Kt c r ρ' κ s' Q) : Kt c (.cons (.app i e) r) ρ κ s Q := by
  obtain ⟨d, s', e1, x, ρ', rfl, hl, rfl, k⟩ := h
  have hg : Env.get ρ i = pure (.lst (xs.map ea)) := by
    unfold Env.get
    rw [hx]
    rfl
  refine kt_cons (x := (.nx, ρ.set i (some (enL ea (xs ++ [x]))))) (s' := s') ?_ k
  simp only [evS, hg, pure_bind', lstOf]
  rw [bind_ok e1]
  unfold appD
  simp only [hg, pure_bind', lstOf]
  rw [List.length_map, if_pos hl]
  unfold enL
  rw [List.map_append]
  rfl
theorem kt_popAppQ {j i : Nat} {e : E} {xs ys : List α} (hij : i ≠ j) (hx : ρ[i]? = some (some (enL ea xs))) (hy : ρ[j]? = some (some (enL ea ys))) (h : EvS c ρ e s fun d s' => ∃ (n : Int) (x : α) (ρ' : Env), d = .int n ∧ 0 ≤ n ∧ xs[n.toNat]? = some x ∧ xs.length < 2 ^ 62 ∧ ys.length < LINE ∧ (ρ.set i (some (enL ea (xs.eraseIdx n.toNat)))).set j (some (enL ea (ys ++ [x]))) = ρ' ∧ Kt c r ρ' κ s' Q) : Kt c (.cons (.popApp j i e) r) ρ κ s Q := by
  obtain ⟨d, s', e1, n, x, ρ', rfl, h0, hx', h2, hl, rfl, k⟩ := h
  have hn := (List.getElem?_eq_some_iff.mp hx').1
  have hg : Env.get ρ i = pure (.lst (xs.map ea)) := by
    unfold Env.get
    rw [hx]
    rfl
  have hg2 : Env.get ρ j = pure (.lst (ys.map ea)) := by
    unfold Env.get
    rw [hy]
    rfl
  refine kt_cons (x := (.nx, (ρ.set i (some (enL ea (xs.eraseIdx n.toNat)))).set j (some (enL ea (ys ++ [x]))))) (s' := s') ?_ k
  simp only [evS, hg, hg2, pure_bind', lstOf]
  rw [bind_ok e1]
  have e2 : popD ρ i (.int n) = pure (ea x, ρ.set i (some (enL ea (xs.eraseIdx n.toNat)))) := by
    unfold popD
    simp only [hg, pure_bind', lstOf, intD]
    rw [if_pos (by omega)]
    unfold ixN
    rw [if_pos h0, List.length_map, if_pos (by omega)]
    simp only [List.getElem?_map, hx', Option.map_some]
    unfold enL
    rw [map_eraseIdx]
  rw [e2, pure_bind']
  have hg3 : Env.get (ρ.set i (some (enL ea (xs.eraseIdx n.toNat)))) j = pure (.lst (ys.map ea)) := by
    unfold Env.get
    rw [List.getElem?_set_ne hij, hy]
    rfl
  unfold appD
  simp only [hg3, pure_bind', lstOf]
  rw [List.length_map, if_pos hl]
  unfold enL
  rw [List.map_append]
  rfl
end
section
variable {c : Ctx} {ρ ρ' : Env} {α γ : Type} {ea : α → D} {s s' : S} {κ : Fl × Env → M γ} {Q : R γ → Prop} {r : Cs}
theorem pop_facts {xs : List α} {n : Nat} (h : n < xs.length) : ∃ x, xs[n]? = some x ∧ x ∈ xs ∧ xs.Perm (x :: xs.eraseIdx n) := by
  refine ⟨_, List.getElem?_eq_getElem h, List.getElem_mem _, ?_⟩
  induction xs generalizing n with
  | nil => simp at h
  | cons y ys ih =>
    cases n with
    | zero => exact .refl _
    | succ n =>
      simp only [List.getElem_cons_succ, List.eraseIdx_cons_succ]
      exact ((ih (by simpa using h)).cons y).trans (.swap _ _ _)
theorem kt_popAK {j i : Nat} {e : E} {xs : List α} (hx : ρ[i]? = some (some (enL ea xs))) (h : EvS c ρ e s fun d s' => ∃ n, d = .int n ∧ (0 ≤ n ∧ n < xs.length) ∧ xs.length < 2 ^ 62 ∧ ∀ (x : α) (zs : List α), x ∈ xs → xs.Perm (x :: zs) → ∃ ρ', (ρ.set i (some (enL ea zs))).set j (some (ea x)) = ρ' ∧ Kt c r ρ' κ s' Q) : Kt c (.cons (.popA j i e) r) ρ κ s Q := by
  obtain ⟨d, s', e1, n, rfl, hn, hl, k⟩ := h
  obtain ⟨x, h1, h2, h3⟩ := pop_facts (xs := xs) (n := n.toNat) (by omega)
  obtain ⟨ρ', rfl, k⟩ := k x _ h2 h3
  exact kt_popA hx ⟨_, s', e1, n, x, rfl, hn.1, h1, hl, k⟩
theorem kt_popAppK {j i : Nat} {e : E} {xs ys : List α} (hij : i ≠ j) (hx : ρ[i]? = some (some (enL ea xs))) (hy : ρ[j]? = some (some (enL ea ys))) (h : EvS c ρ e s fun d s' => ∃ n, d = .int n ∧ (0 ≤ n ∧ n < xs.length) ∧ xs.length < 2 ^ 62 ∧ ys.length < LINE ∧ ∀ (x : α) (zs : List α), x ∈ xs → xs.Perm (x :: zs) → ∃ ρ', (ρ.set i (some (enL ea zs))).set j (some (enL ea (ys ++ [x]))) = ρ' ∧ Kt c r ρ' κ s' Q) : Kt c (.cons (.popApp j i e) r) ρ κ s Q := by
  obtain ⟨d, s', e1, n, rfl, hn, hl, hl2, k⟩ := h
  obtain ⟨x, h1, h2, h3⟩ := pop_facts (xs := xs) (n := n.toNat) (by omega)
  obtain ⟨ρ', rfl, k⟩ := k x _ h2 h3
  exact kt_popAppQ hij hx hy ⟨_, s', e1, n, x, _, rfl, hn.1, h1, hl, hl2, rfl, k⟩
theorem bd_catT {x y : List α} (q : x.length + y.length ≤ LINE) : binD .add (enT ea x) (enT ea y) = pure (enT ea (x ++ y)) := by
  unfold enT binD
  simp only [List.length_map, List.map_append]
  rw [if_pos q]
theorem bd_catL {x y : List α} (q : x.length + y.length ≤ LINE) : binD .add (enL ea x) (enL ea y) = pure (enL ea (x ++ y)) := by
  unfold enL binD
  simp only [List.length_map, List.map_append]
  rw [if_pos q]
theorem bd_lenT (x : List α) : biD .len [enT ea x] = pure (.int x.length) := by
  show (pure (.int ((x.map ea).length : Int)) : M D) = _
  rw [List.length_map]
theorem bd_lenL (x : List α) : biD .len [enL ea x] = pure (.int x.length) := by
  show (pure (.int ((x.map ea).length : Int)) : M D) = _
  rw [List.length_map]
theorem bd_sum (x : List Int) : biD .sum [enL D.int x] = pure (.int x.sum) := by
  show optF (ints? (x.map D.int)) _ = _
  rw [intsE]
  rfl
theorem bd_sortT [DecidableEq α] [Ord ea] {x : List α} (hd : Eqv.dep ea ≤ 64) (hl : x.length ≤ LINE) (ht : (∀ y ∈ x, fullTup (ea y) = true) ∨ ∀ y ∈ x, noTup (ea y) = true) : biD .sorted [enT ea x] = pure (enL ea (srt ea x)) := sortDE x hd hl ht
theorem bd_sortL [DecidableEq α] [Ord ea] {x : List α} (hd : Eqv.dep ea ≤ 64) (hl : x.length ≤ LINE) (ht : (∀ y ∈ x, fullTup (ea y) = true) ∨ ∀ y ∈ x, noTup (ea y) = true) : biD .sorted [enL ea x] = pure (enL ea (srt ea x)) := sortDE x hd hl ht
end
section
variable {c : Ctx} {ρ : Env} {α : Type} {ea : α → D}
theorem ev_repL {a b : E} {x : List α} {k : Int} (h : Ev c ρ a (enL ea x)) (h2 : Ev c ρ b (.int k)) (q : 0 ≤ k ∧ k ≤ 1000 ∧ x.length ≤ 1000) : Ev c ρ (.bin .mul a b) (enL ea (List.replicate k.toNat x).flatten) := ev_bin h h2 (by
  show (if 0 ≤ k ∧ k ≤ 1000 ∧ (x.map ea).length ≤ 1000 then (pure (.lst (List.replicate k.toNat (x.map ea)).flatten) : M D) else stuck) = _
  rw [if_pos (by rw [List.length_map]; exact q)]
  unfold enL
  rw [List.map_flatten, List.map_replicate])
theorem ev_ifeY {t a b : E} {d : D} (h1 : Ev c ρ t (.bl true)) (h2 : Ev c ρ a d) : Ev c ρ (.ife t a b) d := by
  unfold Ev at h1 h2 ⊢
  simp only [evE, h1, h2, pure_bind', boolD, if_true]
theorem ev_ifeN {t a b : E} {d : D} (h1 : Ev c ρ t (.bl false)) (h2 : Ev c ρ b d) : Ev c ρ (.ife t a b) d := by
  unfold Ev at h1 h2 ⊢
  simp only [evE, h1, h2, pure_bind', boolD]
  rfl
theorem ev_reprB {a : E} {b : Bool} (h : Ev c ρ a (.bl b)) : Ev c ρ (.bi .repr (.cons a .nil)) (.str (if b then "True" else "False")) := ev_bi1 h rfl
theorem ev_reprI {a : E} {i : Int} (h : Ev c ρ a (.int i)) (q : i.natAbs < 2 ^ 1000) : Ev c ρ (.bi .repr (.cons a .nil)) (.str (toString i)) := ev_bi1 h (if_pos q)
theorem ev_reprN {a : E} (h : Ev c ρ a .non) : Ev c ρ (.bi .repr (.cons a .nil)) (.str "None") := ev_bi1 h rfl
end
theorem cm_tup0 {d : D} {ds : List D} (h : shp (.tup (d :: ds)) = true) : cmpD .eq (.tup (d :: ds)) (.tup []) = pure false := by
  show eqS _ _ = _
  unfold eqS
  rw [h, show shp (.tup []) = true from rfl]
  rfl
theorem cm_tup0n {d : D} {ds : List D} (h : shp (.tup (d :: ds)) = true) : cmpD .ne (.tup (d :: ds)) (.tup []) = pure true := by
  show (eqD _ _ >>= fun r => pure !r) = _
  rw [show eqD (.tup (d :: ds)) (.tup []) = pure false from cm_tup0 h]
  rfl
theorem shp_K2 {x : Str} (h : PyData.strOk x = true) (a : Int) : shp (.tup [.str x, .int a]) = true := shpE (e := enP enW D.int) (⟨x, h⟩, a) (by decide)
theorem shp_K3 {x : Str} (h : PyData.strOk x = true) (a b : Int) : shp (.tup [.str x, .int a, .int b]) = true := shpE (e := enP3 enW D.int D.int) (⟨x, h⟩, a, b) (by decide)
theorem mem_pop {α : Type} {xs : List α} {n : Nat} (h : n < xs.length) : ∃ x, xs[n]? = some x ∧ x ∈ xs := ⟨_, List.getElem?_eq_getElem h, List.getElem_mem _⟩
end DE

/-! DEspec: what functions mean, by what is asked of them; the end of a law. -/
namespace DE
open PySem PySem.Spec PyProof.Rows L2 PySem.Calls

/-! ### the end of a law -/
def w0 : Wd := ⟨fun _ => False, 0, 0, 0, w0S, []⟩
/-- the law's promise from what its def means -/
theorem law_sp {Z : Exs} {Φf : List D → M D} {K : PySem.W.Frag} {F : FnT} (har : F.ar = 1) (h : ∀ ns : List Int, ns.length ≤ 63 → ∃ s', Φf [.lst (ns.map D.int)] w0.S = .ok (.bl true) s') (H : Hp) (a : Addr) (ns : List Int) (hn : ns.length ≤ 63) (hT : ∀ p ∈ Z.tb, H p.1 = some (.tbl #[])) (hs : SqL K H a (ns.map V.int)) :
    spF Z Φf K F [.ref a] H (fun v _ => v = .bl true) fun _ _ _ => False := by
  have tb : LamX.Tabs Z.tb H := fun p hp => LamX.TabS.nil (hT p hp)
  obtain ⟨s', e⟩ := h ns hn
  have fin : ∀ w : Wd, w.S = w0.S → (Φf [.lst (ns.map D.int)] w.S).wp (Post K H w (md F.own) fun v _ => v = .bl true) fun x S' => ∀ cl dx H' w', w'.S = S' → Ext H w H' w' → WOk K H' w' → Z.XR K H' w' x cl dx → False := fun w hw => by
    rw [hw, e]
    intro v H' w' _ _ _ hv
    cases hf : F.own with
    | true => rw [hf] at hv; cases (show Rp K H' w' v (.bl true) from hv); rfl
    | false => rw [hf] at hv; cases (show Rp K H' w' v (.bl true) from hv); rfl
  rcases hs with (hs | hs) | hs
  · let w1 : Wd := ⟨fun b => b = a, 0, 0, 0, w0S, Z.tb⟩
    have wo : WOk K H w1 := ⟨fun b hb => ⟨ns.map V.int, by rw [show b = a from hb]; exact hs⟩, tb, fun b hb q => (by cases q.1), fun h => (by cases h)⟩
    exact ⟨w1, [.lst (ns.map D.int)], by rw [har]; rfl, wo, .cons (.lst rfl hs (rpl_ints ns)) .nil, rfl, fin w1 rfl⟩
  · let w1 : Wd := ⟨fun _ => False, 0, 0, 0, w0S, Z.tb⟩
    have wo : WOk K H w1 := ⟨fun b hb => hb.elim, tb, fun b hb => hb.elim, fun h => (by cases h)⟩
    exact ⟨w1, [.lst (ns.map D.int)], by rw [har]; rfl, wo, .cons (.lstK (.inl hs) (rpl_ints ns)) .nil, rfl, fin w1 rfl⟩
  · let w1 : Wd := ⟨fun _ => False, 0, 0, 0, w0S, Z.tb⟩
    have wo : WOk K H w1 := ⟨fun b hb => hb.elim, tb, fun b hb => hb.elim, fun h => (by cases h)⟩
    exact ⟨w1, [.lst (ns.map D.int)], by rw [har]; rfl, wo, .cons (.lstK (.inr hs) (rpl_ints ns)) .nil, rfl, fin w1 rfl⟩

/-! ### a law by its table -/
def mkD (top : Nat → Stmt) (x : Str) (i : Nat) : He.DefD := ⟨(x, none), x, x, defArgs (top i), defBody (top i), defScope (top i), [], []⟩
def fnL (top : Nat → Stmt) (T : Tab) (rows : List Rw) : List He.DefD := (T.fn.zip rows).map fun p => mkD top p.1.name p.2.ix
/-- the built-ins' names that no module may bind -/
def deFa : List He.Fa := [.free "len", .free "sum", .free "all", .free "any", .free "sorted", .free "tuple", .free "list", .free "min", .free "max", .free "int", .free "bool", .free "str", .free "dict", .free "isinstance", .free "range", .free "enumerate", .free "zip", .free "repr"]
/-- a number or a word of the module -/
def cFa (q : Str × D) : He.Fa := match q.2 with
  | .int i => .int q.1 i
  | .str z => .str q.1 z
  | _ => .glo q.1
def flatC : D → Bool
  | .int _ => true
  | .str _ => true
  | _ => false
def faL (T : Tab) (consts : List (Str × D)) : List He.Fa := deFa ++ ((T.fn.map fun F => He.Fa.glo F.name) ++ (consts.map cFa ++ T.tbs.map fun q => He.Fa.glo q.1))
def chkL (top : Nat → Stmt) (T : Tab) (rows : List Rw) : Bool := (T.fn.zip rows).all fun p => rowOk T p.1 p.2.df p.2.nm (defArgs (top p.2.ix)) (defScope (top p.2.ix)) (defBody (top p.2.ix))
/-! errors, defs that catch them -/
/-- a class of errors: its row, its statement, its __init__'s first name -/
structure XcW where
  r : XcT
  ix : Nat
  z : Str
/-- a def that catches errors: its row's place, its statement, its names, its parameter -/
structure TdW where
  t : Td
  ix : Nat
  nm : List Str
  a : Str
def isIni : Stmt → Bool
  | .FunctionDef x .. => decide (x = ("__init__" : Str))
  | _ => false
/-- the __init__ within a class statement -/
def iniOf : Stmt → Stmt
  | .ClassDef _ _ _ body .. => (body.find? isIni).getD (.Pass ⟨0, 0, 0, 0⟩)
  | st => st
def xcD (top : Nat → Stmt) (q : XcW) : He.DefD := ⟨(q.r.nm, some "__init__"), "__init__", q.r.nm ++ (".__init__" : Str), defArgs (iniOf (top q.ix)), defBody (iniOf (top q.ix)), defScope (iniOf (top q.ix)), [], []⟩
def fnX (top : Nat → Stmt) (xw : List XcW) (tw : List TdW) : List He.DefD := xw.map (xcD top) ++ tw.map fun q => mkD top q.t.nm q.ix
def faX (B : Str) (xt : Xt) : List He.Fa := (if xt.xcs.isEmpty then [] else [.glo B]) ++ (xt.xcs.flatMap fun r => [.glo r.nm, .noat r.nm r.fl, .meth r.nm "__init__"]) ++ (xt.subs.flatMap fun q => [.glo q.2.1, .exm q.1 q.2.1 q.2.2]) ++ (xt.tds.flatMap fun t => .glo t.nm :: t.hs.map fun h => .glo h.cls)
def lmF (T : Tab) : List Str := (T.fn.filter (·.lm)).map (·.name)
/-- the defs that make lambdas: their code objects, their tables -/
def csK (T : Tab) (K : PySem.W.Frag) : List (Addr × Addr) := (lmF T).map fun x => He.cT K (x, none)
def tbK (T : Tab) (K : PySem.W.Frag) : List (Addr × Str) := (lmF T).map fun x => ((He.cT K (x, none)).2, lamQ x)
/-- what is asked of K itself -/
def exL (B : Str) (T : Tab) (K : PySem.W.Frag) : Bool := (T.xt.xcs.isEmpty || veiB K (He.ga K B)) && (T.xt.xcs.all fun r => oexB K (He.ga K r.nm) && xfB K (He.ga K r.nm)) && ((tbK T K).all fun p => (tbK T K).all fun q => !decide (p.1 = q.1) || decide (p.2 = q.2))
/-- what is asked of the texts -/
def chkX (top : Nat → Stmt) (B : Str) (xw : List XcW) (tw : List TdW) : Bool :=
  (xw.all fun q => iniB B q.z q.r.fl (defScope (iniOf (top q.ix))) (defBody (iniOf (top q.ix))) && plainArgs (defArgs (iniOf (top q.ix))) [q.z, q.r.fl]) &&
  tw.all fun q => C8.scC q.nm [q.a] (defScope (top q.ix)) && plainArgs (defArgs (top q.ix)) [q.a] && mTd q.nm (defScope (top q.ix)) q.a q.t (defBody (top q.ix)) && okN q.a
section
variable {P : Program} {w : World} {K : PySem.W.Frag} {h : Heap} {mg : Str → Option Value} {top : Nat → Stmt} {T : Tab} {rows : List Rw} {consts : List (Str × D)} {Γ : Nat → D}
theorem ex3 {B : Str} {T : Tab} {K : PySem.W.Frag} (h : exL B T K = true) : ((T.xt.xcs.isEmpty || veiB K (He.ga K B)) = true ∧ (T.xt.xcs.all fun r => oexB K (He.ga K r.nm) && xfB K (He.ga K r.nm)) = true) ∧ ((tbK T K).all fun p => (tbK T K).all fun q => !decide (p.1 = q.1) || decide (p.2 = q.2)) = true := by
  unfold exL at h
  obtain ⟨h1, h2⟩ := op_and _ _ h
  exact ⟨op_and _ _ h1, h2⟩
theorem mem_x0 {B : Str} {xt : Xt} (h : xt.xcs ≠ []) : He.Fa.glo B ∈ faX B xt := by
  unfold faX
  have e : xt.xcs.isEmpty = false := by
    cases q : xt.xcs with
    | nil => exact absurd q h
    | cons _ _ => rfl
  rw [e]
  exact List.mem_append_left _ (List.mem_append_left _ (List.mem_append_left _ (by simp)))
theorem mem_x1 {B : Str} {xt : Xt} {r : XcT} {f : He.Fa} (hr : r ∈ xt.xcs) (h : f ∈ [He.Fa.glo r.nm, .noat r.nm r.fl, .meth r.nm "__init__"]) : f ∈ faX B xt := by
  unfold faX
  exact List.mem_append_left _ (List.mem_append_left _ (List.mem_append_right _ (List.mem_flatMap.mpr ⟨r, hr, h⟩)))
theorem mem_x2 {B : Str} {xt : Xt} {q : Str × Str × Bool} {f : He.Fa} (hr : q ∈ xt.subs) (h : f ∈ [He.Fa.glo q.2.1, .exm q.1 q.2.1 q.2.2]) : f ∈ faX B xt := by
  unfold faX
  exact List.mem_append_left _ (List.mem_append_right _ (List.mem_flatMap.mpr ⟨q, hr, h⟩))
theorem mem_x3 {B : Str} {xt : Xt} {t : Td} {f : He.Fa} (hr : t ∈ xt.tds) (h : f ∈ He.Fa.glo t.nm :: t.hs.map fun h => He.Fa.glo h.cls) : f ∈ faX B xt := by
  unfold faX
  exact List.mem_append_right _ (List.mem_flatMap.mpr ⟨t, hr, h⟩)
theorem mod_of {B : Str} {xw : List XcW} {tw : List TdW} {fa : List He.Fa} {fn : List He.DefD} (X : K.In h) (G : h.Ns mainGlobals mg) (cc : He.SaysD fa fn K) (hlen : T.fn.length = rows.length) (hfa : ∀ f ∈ faL T consts, f ∈ fa) (hfx : ∀ f ∈ faX B T.xt, f ∈ fa) (hex : exL B T K = true)
    (hfl : ∀ d ∈ fnL top T rows, d ∈ fn) (hfn : ∀ d ∈ fnX top xw tw, d ∈ fn) (hck : chkX top B xw tw = true) (hxw : T.xt.xcs = xw.map (·.r)) (htw : T.xt.tds = tw.map (·.t)) (hgl : T.gl = consts.map (·.1)) (hΓ : ∀ g x d, consts[g]? = some (x, d) → Γ g = d ∧ flatC d = true) (htb : ∀ q ∈ T.tbs, TbIs K w mg q) (base : Heap)
    (hTB : ∀ p ∈ csK T K, LamX.TabB base mg p.1 p.2) : ModOk ⟨P, w, mg, T.xt.xcs, tbK T K⟩ Γ T P w K mg base where
  eP := rfl
  ew := rfl
  em := rfl
  xs := rfl
  xcs := fun r hr => by
    obtain ⟨⟨e1, e2⟩, _⟩ := ex3 hex
    obtain ⟨c1, _⟩ := op_and _ _ hck
    have hr0 := hr
    rw [hxw] at hr
    obtain ⟨q, hq, rfl⟩ := List.mem_map.mp hr
    obtain ⟨k1, k2⟩ := op_and _ _ (List.all_eq_true.mp c1 q hq)
    obtain ⟨o1, o2⟩ := op_and _ _ (List.all_eq_true.mp e2 _ hr0)
    obtain ⟨fd, F0⟩ := cc.defs (hfn _ (List.mem_append_left _ (List.mem_map.mpr ⟨q, hq, rfl⟩)))
    have g1 := He.glo_ok X G (cc.facts (hfx _ (mem_x1 (f := .glo q.r.nm) hr0 (by simp))))
    have g2 : PySem.W.findIn K (.ref (He.ga K q.r.nm)) q.r.fl = some none := He.eqO_ok (cc.facts (hfx _ (mem_x1 (f := .noat q.r.nm q.r.fl) hr0 (by simp))))
    have g3 := He.ba (cc.facts (hfx _ (mem_x1 (f := .meth q.r.nm "__init__") hr0 (by simp))))
    have g4 := He.ba g3.2
    have hB : mg B = some (.ref (He.ga K B)) := He.glo_ok X G (cc.facts (hfx _ (mem_x0 (List.ne_nil_of_mem hr0))))
    have vb : veiB K (He.ga K B) = true := by
      rcases Bool.or_eq_true_iff.mp e1 with z | z
      · rw [List.isEmpty_iff] at z
        rw [z] at hr0
        cases hr0
      · exact z
    exact ⟨_, He.ma K (He.ga K q.r.nm) "__init__", fd, q.z, g1, oexB_ok o1, He.eqO_ok g3.1, beq_iff_eq.mp g4.1, g2, F0.bindsN fun kV doc pm an cdv ct us hl => bind_plain k2 hl, init_ok F0 k1 hB (veiB_ok vb)⟩
  xfs := fun r hr C hC => by
    obtain ⟨⟨e1, e2⟩, _⟩ := ex3 hex
    obtain ⟨o1, o2⟩ := op_and _ _ (List.all_eq_true.mp e2 _ hr)
    have g1 := He.glo_ok X G (cc.facts (hfx _ (mem_x1 (f := .glo r.nm) hr (by simp))))
    rw [hC] at g1
    cases g1
    exact ⟨xfB_ok o2, He.eqO_ok (cc.facts (hfx _ (mem_x1 (f := .noat r.nm r.fl) hr (by simp))))⟩
  subs := fun r hr y b C d hs hC hd => by
    unfold Xt.sub at hs
    obtain ⟨q, hq, hb⟩ := Option.map_eq_some_iff.mp hs
    have hm := List.mem_of_find?_eq_some hq
    have hp := List.find?_some hq
    simp only [Bool.and_eq_true, decide_eq_true_eq] at hp
    have g1 := He.glo_ok X G (cc.facts (hfx _ (mem_x1 (f := .glo r.nm) hr (by simp))))
    have g2 := He.glo_ok X G (cc.facts (hfx _ (mem_x2 hm (f := .glo q.2.1) (by simp))))
    have g3 := He.exm_ok (cc.facts (hfx _ (mem_x2 hm (f := .exm q.1 q.2.1 q.2.2) (by simp))))
    rw [hC] at g1
    cases g1
    rw [hp.2, hd] at g2
    cases g2
    rw [hp.1, hp.2, hb] at g3
    exact g3
  tds := fun i t ht => by
    obtain ⟨_, c2⟩ := op_and _ _ hck
    have hm := List.mem_of_getElem? ht
    have hm0 := hm
    rw [htw] at hm
    obtain ⟨q, hq, rfl⟩ := List.mem_map.mp hm
    have c3 := List.all_eq_true.mp c2 q hq
    simp only [Bool.and_eq_true] at c3
    obtain ⟨⟨⟨k1, k2⟩, k3⟩, k4⟩ := c3
    obtain ⟨fd, F0⟩ := cc.defs (hfn _ (List.mem_append_right _ (List.mem_map.mpr ⟨q, hq, rfl⟩)))
    have Sg := C8.fnScope_by k1
    exact ⟨_, q.a, q.nm, _, _, _, fd, He.glo_ok X G (cc.facts (hfx _ (mem_x3 (f := .glo q.t.nm) hm0 (by simp)))), F0.kp, F0, F0.bindsN fun kV doc pm an cdv ct us hl => bind_plain k2 hl, Sg, k3, k4, (Sg.par q.a (by simp)).elim (fun z => .inl z) (fun z => .inr (.inl z)),
      fun hd hh => ⟨_, He.glo_ok X G (cc.facts (hfx _ (mem_x3 (f := .glo hd.cls) hm0 (List.mem_cons_of_mem _ (List.mem_map.mpr ⟨hd, hh, rfl⟩)))))⟩⟩
  lms := fun F hF hlm a oc od fd osl hm lk => by
    obtain ⟨_, e3⟩ := ex3 hex
    have g1 := He.glo_ok X G (cc.facts (hfa (.glo F.name) (by
      unfold faL
      exact List.mem_append_right _ (List.mem_append_left _ (List.mem_map.mpr ⟨F, hF, rfl⟩)))))
    rw [hm] at g1
    cases g1
    have hx : F.name ∈ lmF T := List.mem_map.mpr ⟨F, List.mem_filter.mpr ⟨hF, hlm⟩, rfl⟩
    obtain ⟨i, hi, ei⟩ := List.mem_iff_getElem.mp hF
    have hz : (T.fn.zip rows)[i]? = some (F, rows[i]'(by omega)) := List.getElem?_zip_eq_some.mpr ⟨by rw [List.getElem?_eq_getElem hi, ei], List.getElem?_eq_getElem (by omega)⟩
    obtain ⟨fd', F0⟩ := cc.defs (hfl (mkD top F.name (rows[i]'(by omega)).ix) (by
      unfold fnL
      exact List.mem_map.mpr ⟨_, List.mem_of_getElem? hz, rfl⟩))
    obtain ⟨oc', od', dV, kV, doc, pm, an, cdv, ct, osl', rfl, lk', hcd, _, _⟩ := F0.ex
    have lk' : K.lookup (He.ga K F.name) = _ := lk'
    rw [lk] at lk'
    cases lk'
    obtain ⟨cd, rfl⟩ := He.codeIn_ref hcd
    have ec : He.codeOf K (F.name, none) = cd := He.codeOf_eq lk rfl
    refine ⟨cd, (He.cT K (F.name, none)).2, rfl, ?_, List.mem_map.mpr ⟨F.name, hx, rfl⟩, fun p hp e => ?_⟩
    · have q := hTB _ (List.mem_map.mpr ⟨F.name, hx, rfl⟩)
      have e : (He.cT K (F.name, none)).1 = cd := ec
      rw [e] at q
      exact q
    · have q := List.all_eq_true.mp (List.all_eq_true.mp e3 p hp) ((He.cT K (F.name, none)).2, lamQ F.name) (List.mem_map.mpr ⟨F.name, hx, rfl⟩)
      simp only [Bool.or_eq_true, Bool.not_eq_true', decide_eq_false_iff_not, decide_eq_true_eq] at q
      rcases q with q | q
      · exact absurd e q
      · exact q
  gls := fun g x hx => by
    rw [hgl, List.getElem?_map] at hx
    cases e : consts[g]? with
    | none => rw [e] at hx; cases hx
    | some q =>
      rw [e] at hx
      cases hx
      obtain ⟨g1, g2⟩ := hΓ g q.1 q.2 e
      have f : (cFa q).ok K = true := by
        refine cc.facts (hfa _ ?_)
        unfold faL
        exact List.mem_append_right _ (List.mem_append_right _ (List.mem_append_left _ (List.mem_map.mpr ⟨q, List.mem_of_getElem? e, rfl⟩)))
      obtain ⟨x, d⟩ := q
      rw [g1]
      cases d with
      | int i =>
        obtain ⟨t, ht⟩ := He.int_ok X G f
        exact ⟨.int i, _, ht, ⟨t, rfl⟩, fun H w => .int _⟩
      | str z =>
        obtain ⟨t, ht⟩ := He.str_ok X G f
        exact ⟨.str z, _, ht, ⟨t, rfl⟩, fun H w => .str _⟩
      | _ => cases g2
  tbs := htb
  bi := fun b => by
    cases b with
    | len => exact He.free_ok X G (cc.facts (hfa _ (List.mem_append_left _ (List.mem_of_getElem? (i := 0) rfl))))
    | sum => exact He.free_ok X G (cc.facts (hfa _ (List.mem_append_left _ (List.mem_of_getElem? (i := 1) rfl))))
    | all => exact He.free_ok X G (cc.facts (hfa _ (List.mem_append_left _ (List.mem_of_getElem? (i := 2) rfl))))
    | any => exact He.free_ok X G (cc.facts (hfa _ (List.mem_append_left _ (List.mem_of_getElem? (i := 3) rfl))))
    | sorted => exact He.free_ok X G (cc.facts (hfa _ (List.mem_append_left _ (List.mem_of_getElem? (i := 4) rfl))))
    | tuple => exact He.free_ok X G (cc.facts (hfa _ (List.mem_append_left _ (List.mem_of_getElem? (i := 5) rfl))))
    | list => exact He.free_ok X G (cc.facts (hfa _ (List.mem_append_left _ (List.mem_of_getElem? (i := 6) rfl))))
    | min1 => exact He.free_ok X G (cc.facts (hfa _ (List.mem_append_left _ (List.mem_of_getElem? (i := 7) rfl))))
    | min2 => exact He.free_ok X G (cc.facts (hfa _ (List.mem_append_left _ (List.mem_of_getElem? (i := 7) rfl))))
    | max1 => exact He.free_ok X G (cc.facts (hfa _ (List.mem_append_left _ (List.mem_of_getElem? (i := 8) rfl))))
    | max2 => exact He.free_ok X G (cc.facts (hfa _ (List.mem_append_left _ (List.mem_of_getElem? (i := 8) rfl))))
    | int1 => exact He.free_ok X G (cc.facts (hfa _ (List.mem_append_left _ (List.mem_of_getElem? (i := 9) rfl))))
    | repr => exact He.free_ok X G (cc.facts (hfa _ (List.mem_append_left _ (List.mem_of_getElem? (i := 17) rfl))))
  ty := fun t => by
    cases t with
    | int => exact He.free_ok X G (cc.facts (hfa _ (List.mem_append_left _ (List.mem_of_getElem? (i := 9) rfl))))
    | bool => exact He.free_ok X G (cc.facts (hfa _ (List.mem_append_left _ (List.mem_of_getElem? (i := 10) rfl))))
    | str => exact He.free_ok X G (cc.facts (hfa _ (List.mem_append_left _ (List.mem_of_getElem? (i := 11) rfl))))
    | tuple => exact He.free_ok X G (cc.facts (hfa _ (List.mem_append_left _ (List.mem_of_getElem? (i := 5) rfl))))
    | list => exact He.free_ok X G (cc.facts (hfa _ (List.mem_append_left _ (List.mem_of_getElem? (i := 6) rfl))))
    | dict => exact He.free_ok X G (cc.facts (hfa _ (List.mem_append_left _ (List.mem_of_getElem? (i := 12) rfl))))
  isi := He.free_ok X G (cc.facts (hfa _ (List.mem_append_left _ (List.mem_of_getElem? (i := 13) rfl))))
  rng := He.free_ok X G (cc.facts (hfa _ (List.mem_append_left _ (List.mem_of_getElem? (i := 14) rfl))))
  enu := He.free_ok X G (cc.facts (hfa _ (List.mem_append_left _ (List.mem_of_getElem? (i := 15) rfl))))
  zip := He.free_ok X G (cc.facts (hfa _ (List.mem_append_left _ (List.mem_of_getElem? (i := 16) rfl))))
theorem row_at {fa : List He.Fa} {fn : List He.DefD} (X : K.In h) (G : h.Ns mainGlobals mg) (cc : He.SaysD fa fn K) (hfa : ∀ f ∈ faL T consts, f ∈ fa) (hfl : ∀ d ∈ fnL top T rows, d ∈ fn) (hchk : chkL top T rows = true) {f : Nat} {F : FnT} {r : Rw} (hF : T.fn[f]? = some F) (hr : rows[f]? = some r) :
    ∃ a fd, FunD K F.name F.name (defArgs (top r.ix)) (defBody (top r.ix)) (defScope (top r.ix)) [] [] a fd ∧ rowOk T F r.df r.nm (defArgs (top r.ix)) (defScope (top r.ix)) (defBody (top r.ix)) = true ∧ mg F.name = some (.ref a) := by
  have hz : (T.fn.zip rows)[f]? = some (F, r) := List.getElem?_zip_eq_some.mpr ⟨hF, hr⟩
  obtain ⟨fd, F0⟩ := cc.defs (hfl (mkD top F.name r.ix) (by
    unfold fnL
    exact List.mem_map.mpr ⟨_, List.mem_of_getElem? hz, rfl⟩))
  have hc := List.all_eq_true.mp hchk _ (List.mem_of_getElem? hz)
  have g : (He.Fa.glo F.name).ok K = true := by
    refine cc.facts (hfa _ ?_)
    unfold faL
    exact List.mem_append_right _ (List.mem_append_left _ (List.mem_map.mpr ⟨F, List.mem_of_getElem? hF, rfl⟩))
  exact ⟨_, fd, F0, hc, He.glo_ok X G g⟩
/-- a law by its table -/
structure LawT (top : Nat → Stmt) (T : Tab) (rows : List Rw) (consts : List (Str × D)) (Γ : Nat → D) (B : Str) (xw : List XcW) (tw : List TdW) (fa : List He.Fa) (fn : List He.DefD) : Prop where
  len : T.fn.length = rows.length
  chk : chkL top T rows = true
  ckx : chkX top B xw tw = true
  fal : ∀ f ∈ faL T consts, f ∈ fa
  fax : ∀ f ∈ faX B T.xt, f ∈ fa
  fnl : ∀ d ∈ fnL top T rows, d ∈ fn
  fnx : ∀ d ∈ fnX top xw tw, d ∈ fn
  xw_ : T.xt.xcs = xw.map (·.r)
  tw_ : T.xt.tds = tw.map (·.t)
  gl : T.gl = consts.map (·.1)
  gam : ∀ g x d, consts[g]? = some (x, d) → Γ g = d ∧ flatC d = true
theorem law_F {B : Str} {xw : List XcW} {tw : List TdW} {fa : List He.Fa} {fn : List He.DefD} (LT : LawT top T rows consts Γ B xw tw fa fn) {fl : Nat} {F : FnT} {r : Rw} {x : Str} (hF : T.fn[fl]? = some F) (hr : rows[fl]? = some r) (har : F.ar = 1) (hx : r.nm.take 1 = [x]) (k : Nat)
    (hlaw : ∀ ns : List Int, ns.length ≤ 63 → ∃ s', (CtxN (dfOf rows) Γ T.xt (k + 1)).Φ fl [.lst (ns.map D.int)] w0.S = .ok (.bl true) s') {fa' : Addr} (X : K.In h) (G : h.Ns mainGlobals mg) (hfa : mg F.name = some (.ref fa')) (cc : He.SaysD fa fn K) (hex : exL B T K = true) (htb : ∀ q ∈ T.tbs, TbIs K w mg q) :
    ∃ fd, (∀ (s : Shared) (u : Value), BindsTo s fd ⟨[u], []⟩ [(x, u)]) ∧
      (∀ (H : Hp) (a : Addr) (ns : List Int), ns.length ≤ 63 → (∀ p ∈ tbK T K, H p.1 = some (.tbl #[])) → SqL K H a (ns.map V.int) → spF ⟨P, w, mg, T.xt.xcs, tbK T K⟩ ((CtxN (dfOf rows) Γ T.xt (k + 1)).Φ fl) K F [.ref a] H (fun v _ => v = .bl true) fun _ _ _ => False) ∧
      ∀ base : Heap, (∀ p ∈ csK T K, LamX.TabB base mg p.1 p.2) → FnB F.gd P w K mg base (L2.CX P w) (k + 3) fa' fd [x] (spF ⟨P, w, mg, T.xt.xcs, tbK T K⟩ ((CtxN (dfOf rows) Γ T.xt (k + 1)).Φ fl) K F) := by
  obtain ⟨a, fd, F0, hrow, hm⟩ := row_at X G cc LT.fal LT.fnl LT.chk hF hr
  have ea : fa' = a := by
    rw [hm] at hfa
    cases hfa
    rfl
  subst ea
  have hps : r.nm.take F.ar = [x] := by rw [har]; exact hx
  have hpl : plainArgs (defArgs (top r.ix)) [x] = true := by
    unfold rowOk at hrow
    simp only [Bool.and_eq_true, decide_eq_true_eq] at hrow
    rw [← hps]
    exact hrow.1.1.2
  refine ⟨fd, fun s u => FunD.bindsA (ps := [x]) F0 (fun kV doc pm an cdv ct us hl => bind_plain hpl hl) s [u] rfl, fun H a ns hn hT hs => law_sp har hlaw H a ns hn hT hs, fun base hTB => ?_⟩
  have Mo : ModOk ⟨P, w, mg, T.xt.xcs, tbK T K⟩ Γ T P w K mg base := mod_of (rows := rows) X G cc LT.len LT.fal LT.fax hex LT.fnl LT.fnx LT.ckx LT.xw_ LT.tw_ LT.gl LT.gam htb base hTB
  have dfr : ∀ {f : Nat} {r : Rw}, rows[f]? = some r → dfOf rows f = r.df := fun {f r} e => by
    unfold dfOf
    rw [List.getD_eq_getElem?_getD, e]
    rfl
  have rowsAt : ∀ f F, T.fn[f]? = some F → ∃ N params scope body a fd, FunD K F.name F.name params body scope [] [] a fd ∧ rowOk T F (dfOf rows f) N params scope body = true ∧ mg F.name = some (.ref a) := fun f G' hG => by
    have hlt : f < rows.length := by rw [← LT.len]; exact (List.getElem?_eq_some_iff.mp hG).1
    obtain ⟨a', fd', E1, E2, E3⟩ := row_at X G cc LT.fal LT.fnl LT.chk hG (List.getElem?_eq_getElem hlt)
    rw [dfr (List.getElem?_eq_getElem hlt)]
    exact ⟨_, _, _, _, a', fd', E1, E2, E3⟩
  have hrow' := hrow
  rw [← dfr hr] at hrow'
  have q := fns_one Mo rowsAt (fns_all Mo rowsAt k) F fl hF F0 hrow' hm
  rw [hps] at q
  exact q
end
theorem tbK_of {T : Tab} {K : PySem.W.Frag} {H : Hp} (h : ∀ p ∈ csK T K, H p.2 = some (.tbl #[])) : ∀ p ∈ tbK T K, H p.1 = some (.tbl #[]) := fun p hp => by
  obtain ⟨x, hx, rfl⟩ := List.mem_map.mp hp
  exact h (He.cT K (x, none)) (List.mem_map.mpr ⟨x, hx, rfl⟩)
/-- the defs that make lambdas, by their places -/
def tfL (T : Tab) : List He.Defn := (lmF T).map fun x => (x, none)
section
variable {T : Tab} {K : PySem.W.Frag} {fa : List He.Fa} {fn : List He.DefD} {ts : List He.Tab} {ex : PySem.W.Frag → Bool} {w : World} {h : Heap}
theorem cs_of {p : Addr × Addr} (hp : p ∈ csK T K) : ∃ q ∈ tfL T, p = He.cT K q := by
  obtain ⟨x, hx, rfl⟩ := List.mem_map.mp hp
  exact ⟨(x, none), List.mem_map.mpr ⟨x, hx, rfl⟩, rfl⟩
theorem cs_empty (c : He.SaysX fa fn ts (tfL T) ex w h K) : ∀ p ∈ csK T K, h.get? p.2 = some { cls := .none, data := .fields #[] } := fun p hp => by
  obtain ⟨q, hq, rfl⟩ := cs_of hp
  exact c.empty q hq
theorem cs_out (c : He.SaysX fa fn ts (tfL T) ex w h K) : ∀ p ∈ csK T K, K.lookup p.2 = none := fun p hp => by
  obtain ⟨q, hq, rfl⟩ := cs_of hp
  exact c.out q hq
theorem cs_hd (X : K.In h) (c : He.SaysX fa fn ts (tfL T) ex w h K) : ∀ p ∈ csK T K, PySem.W.CodeHd h p.1 p.2 := fun p hp => by
  obtain ⟨q, hq, rfl⟩ := cs_of hp
  exact PySem.W.codeHd_of_K X (c.hd q hq)
end
/-! ### the hook, the C statics known too -/
def asY (g : Addr → Option Obj) : List Addr := cStatics :: He.asD g 6
def obsY (fa : List He.Fa) (fn : List He.DefD) (ts : List He.Tab) (tf : List He.Defn) (ex : PySem.W.Frag → Bool) (g : Addr → Option Obj) : He.AlX :=
  (He.obsT fa fn ts (He.frT g (asY g)), ex (He.frT g (asY g)) && He.tabsB g tf (He.frT g (asY g)))
theorem saysY {fa : List He.Fa} {fn : List He.DefD} {ts : List He.Tab} {tf : List He.Defn} {ex : PySem.W.Frag → Bool} {w : World} {h : Heap} (e : obsY fa fn ts tf ex h.get? = He.valX fn ts w) : He.SaysX fa fn ts tf ex w h (He.frT h.get? (asY h.get?)) := by
  obtain ⟨h1, h2⟩ := He.ba (show (ex (He.frT h.get? (asY h.get?)) && He.tabsB h.get? tf (He.frT h.get? (asY h.get?))) = true from congrArg (fun z : He.AlX => z.2) e)
  have at_ : ∀ p ∈ tf, PySem.W.codeHdIn (He.frT h.get? (asY h.get?)) (He.cT (He.frT h.get? (asY h.get?)) p).1 (He.cT (He.frT h.get? (asY h.get?)) p).2 = true ∧ ∃ o, h.get? (He.cT (He.frT h.get? (asY h.get?)) p).2 = some o ∧ He.emptyTab o = true := fun p hp => by
    obtain ⟨q1, q2⟩ := He.ba (List.all_eq_true.mp h2 p hp)
    refine ⟨q1, ?_⟩
    split at q2
    · exact ⟨_, by assumption, q2⟩
    · cases q2
  refine ⟨congrArg (fun z : He.AlX => z.1) e, h1, fun p hp => (at_ p hp).1, fun p hp => ?_, fun p hp => ?_⟩
  · obtain ⟨_, o, q, z⟩ := at_ p hp
    exact He.frT_none q z
  · obtain ⟨_, o, q, z⟩ := at_ p hp
    rw [q, He.emptyTab_eq z]
def hookY (fa : List He.Fa) (fn : List He.DefD) (ts : List He.Tab) (tf : List He.Defn) (ex : PySem.W.Frag → Bool) : PySem.W.Hook where
  α := He.AlX
  obs := fun s => obsY fa fn ts tf ex s.heap.get?
  val := fun w => He.valX fn ts w
  says := fun w h => ∃ K : PySem.W.Frag, K.In h ∧ He.SaysX fa fn ts tf ex w h K
  of := fun _ _ e => ⟨_, He.frT_in, saysY e⟩
  keeps := fun _ _ _ ⟨K, hK, c⟩ k => ⟨K, PySem.W.Frag.In.keeps hK k, ⟨c.t, c.more, c.hd, c.out, fun p hp => k _ _ (c.empty p hp)⟩⟩
theorem obsY_eq {fa : List He.Fa} {fn : List He.DefD} {ts : List He.Tab} {tf : List He.Defn} {ex : PySem.W.Frag → Bool} {g : Addr → Option Obj} {s : Shared} (h : ∀ a, g a = s.heap.get? a) : obsY fa fn ts tf ex g = (hookY fa fn ts tf ex).obs s := by
  have e : g = s.heap.get? := funext h
  rw [e] <;> rfl
/-! ### tables -/
def tsL (T : Tab) : List He.Tab := T.tbs.map fun q => (fun K => He.ga K q.1, q.2.map (·.1))
/-- the tables' values -/
def tbX (T : Tab) (K : PySem.W.Frag) : Bool := T.tbs.all fun q => He.valsB K (He.ga K q.1) (q.2.map fun p => (p.1, He.Dv.int p.2))
theorem keys_mem {P : Params} : ∀ {l : List DictEntry} {ks : List Str}, l.map He.keyOf = He.keysIn P ks → ∀ e ∈ l, ∃ x t, e.key = .str x t ∧ x ∈ ks
  | [], _, _, e, h => by cases h
  | a :: r, [], h, _, _ => by cases h
  | a :: r, k :: ks, h, e, he => by
    have h1 : He.keyOf a :: r.map He.keyOf = some (k, PyData.keyHash P k) :: He.keysIn P ks := h
    injection h1 with h2 h3
    rcases List.mem_cons.mp he with rfl | he
    · unfold He.keyOf at h2
      split at h2
      · rename_i x t q
        obtain ⟨h5, _⟩ := Prod.mk.inj (Option.some.inj h2)
        exact ⟨x, t, q, by rw [h5]; exact List.mem_cons_self⟩
      · cases h2
    · obtain ⟨x, t, q, m⟩ := keys_mem h3 e he
      exact ⟨x, t, q, List.mem_cons_of_mem _ m⟩
theorem lookup_mem' {z : Str} {i : Int} : ∀ {l : List (Str × Int)}, l.lookup z = some i → (z, i) ∈ l
  | [], h => by cases h
  | (x, j) :: r, h => by
    rw [List.lookup_cons] at h
    split at h
    · rename_i q
      cases h
      rw [beq_iff_eq.mp q]
      exact List.mem_cons_self
    · exact List.mem_cons_of_mem _ (lookup_mem' h)
theorem lookup_not {z : Str} : ∀ {l : List (Str × Int)}, l.lookup z = none → z ∉ l.map (·.1)
  | [], _, h => by cases h
  | (x, j) :: r, h, m => by
    rw [List.lookup_cons] at h
    split at h
    · cases h
    · rename_i q
      rcases List.mem_cons.mp m with rfl | m
      · simp at q
      · exact lookup_not h m
theorem tbs_of {T : Tab} {K : PySem.W.Frag} {fa : List He.Fa} {fn : List He.DefD} {w : World} {h : Heap} {mg : Str → Option Value} {consts : List (Str × D)} (X : K.In h) (G : h.Ns mainGlobals mg) (c : He.SaysT fa fn (tsL T) w K) (hfa : ∀ f ∈ faL T consts, f ∈ fa) (hx : tbX T K = true) : ∀ q ∈ T.tbs, TbIs K w mg q := fun q hq => by
  have g : (He.Fa.glo q.1).ok K = true := by
    refine (c.d).facts (hfa _ ?_)
    unfold faL
    exact List.mem_append_right _ (List.mem_append_right _ (List.mem_append_right _ (List.mem_map.mpr ⟨q, hq, rfl⟩)))
  have e : (tsL T).map (fun t => He.dicW K (t.1 K)) = (tsL T).map fun t => some (He.keysIn w.params t.2) := congrArg (fun z : He.AlT => z.2) c
  obtain ⟨i, hi, rfl⟩ := List.mem_iff_getElem.mp hq
  have e2 : He.dicW K (He.ga K T.tbs[i].1) = some (He.keysIn w.params (T.tbs[i].2.map (·.1))) := by
    have q2 := congrArg (fun l => l[i]?) e
    simp only [tsL, List.getElem?_map, List.getElem?_eq_getElem hi, Option.map_some] at q2
    exact Option.some.inj q2
  obtain ⟨es, n, D⟩ := He.dicW_ok e2
  have ke : es.toList.map He.keyOf = He.keysIn w.params (T.tbs[i].2.map (·.1)) := by
    unfold He.dicW at e2
    rw [D.at_] at e2
    simp only [D.low] at e2
    exact Option.some.inj e2
  refine ⟨_, es, n, He.glo_ok X G g, D, fun z => ?_⟩
  cases hz : T.tbs[i].2.lookup z with
  | some j =>
    obtain ⟨u, h1, h2⟩ := He.valsB_ok (List.all_eq_true.mp hx _ hq) (List.mem_map.mpr ⟨(z, j), lookup_mem' hz, rfl⟩)
    obtain ⟨t, rfl⟩ := h2
    exact ⟨_, h1, t, rfl⟩
  | none =>
    refine ⟨none, ?_, rfl⟩
    have nm := lookup_not hz
    unfold PySem.W.nsIn
    rw [D.at_]
    simp only
    have f1 : es.toList.find? (fun d => d.key.isStr z) = none := by
      refine List.find?_eq_none.mpr fun d hd => ?_
      obtain ⟨x, t, k1, k2⟩ := keys_mem ke d hd
      rw [k1]
      intro q
      have e3 : x = z := by simpa [Value.isStr] using q
      exact nm (e3 ▸ k2)
    have f2 : es.toList.any (fun d => d.refKey) = false := by
      refine List.any_eq_false.mpr fun d hd => ?_
      obtain ⟨x, t, k1, k2⟩ := keys_mem ke d hd
      simp [DictEntry.refKey, k1]
    rw [f1, f2]
    rfl
end DE

/-! Prices: pieces of prices. -/
namespace DE
open PySem
inductive Pc where
  | fee (f : Int) | slope (f : Int) | cap (m f : Int) | over (m f : Int) | step (m f : Int)
  deriving DecidableEq, Inhabited
def enPc : Pc → D
  | .fee f => .tup [.str "fee", .int f]
  | .slope f => .tup [.str "slope", .int f]
  | .cap m f => .tup [.str "cap", .int m, .int f]
  | .over m f => .tup [.str "over", .int m, .int f]
  | .step m f => .tup [.str "step", .int m, .int f]
def fOk (f : Int) : Prop := 0 ≤ f ∧ f ≤ 1000
def mOk (m : Int) : Prop := 1 ≤ m ∧ m ≤ 10 ^ 10
def Pc.Ok : Pc → Prop
  | .fee f => fOk f
  | .slope f => fOk f
  | .cap m f => fOk f ∧ mOk m
  | .over m f => fOk f ∧ mOk m
  | .step m f => fOk f ∧ mOk m
/-- what it is at a weight -/
def pcAt : Pc → Int → Int
  | .fee f, _ => f
  | .slope f, w => f * w
  | .cap m f, w => f * min w m
  | .over m f, w => f * max 0 (w - m)
  | .step m f, w => if decide (m ≤ w) then f else 0
abbrev Pr := List Pc
def prAt (p : Pr) (w : Int) : Int := (p.map fun c => pcAt c w).sum
structure PrOk (p : Pr) : Prop where
  ok : ∀ c ∈ p, c.Ok
  few : p.length ≤ 10
theorem small_w {w : Int} (h : 0 ≤ w ∧ w < 2 ^ 60) : small w = true := small_of (by omega) (by omega)
theorem small_f {f : Int} (h : fOk f) : small f = true := small_of (by have := h.1; omega) (by have := h.2; omega)
theorem pcAt_bd {c : Pc} (h : c.Ok) {w : Int} (hw : 0 ≤ w ∧ w ≤ 10 ^ 11) : 0 ≤ pcAt c w ∧ pcAt c w ≤ 10 ^ 14 := by
  have mul : ∀ f x : Int, fOk f → 0 ≤ x ∧ x ≤ 10 ^ 11 → 0 ≤ f * x ∧ f * x ≤ 10 ^ 14 := fun f x hf hx => by
    refine ⟨Int.mul_nonneg hf.1 hx.1, ?_⟩
    have := Int.mul_le_mul hf.2 hx.2 hx.1 (by decide)
    omega
  cases c with
  | fee f => have := h.1; have := h.2; exact ⟨h.1, by show f ≤ _; omega⟩
  | slope f => exact mul f w h hw
  | cap m f => exact mul f _ h.1 (by have := h.2.1; have := h.2.2; omega)
  | over m f => exact mul f _ h.1 (by have := h.2.1; have := h.2.2; omega)
  | step m f =>
    have h1 := h.1.1
    have h2 := h.1.2
    show 0 ≤ (if decide (m ≤ w) then f else 0) ∧ (if decide (m ≤ w) then f else 0) ≤ _
    split <;> omega
end DE

namespace Tm
open DE PySem
/-- is_integer(thing); names: thing -/
def b_is_integer : Cs := (.cons (.ret (.and (.isi (.var 0) .int) (.not (.isi (.var 0) .bool)))) .nil)
def d_is_integer : Df := ⟨1, b_is_integer⟩
def n_is_integer : List Str := ["thing"]
/-- are_rising(some); names: some one other -/
def b_are_rising : Cs := (.cons (.ret (.bi .all (.cons (.comp (.tup [1, 2]) (.zip (.var 0) (.slice (.var 0) (.yes (.cst (.int 1))) .no)) .no (.cmp .lt (.var 1) (.var 2))) .nil))) .nil)
def d_are_rising : Df := ⟨3, b_are_rising⟩
def n_are_rising : List Str := ["some", "one", "other"]
/-- weight_in(heaps, lot); names: heaps lot number -/
def b_weight_in : Cs := (.cons (.ret (.bi .sum (.cons (.comp (.v 2) (.seq (.var 1)) .no (.sub (.var 0) (.var 2))) .nil))) .nil)
def d_weight_in : Df := ⟨3, b_weight_in⟩
def n_weight_in : List Str := ["heaps", "lot", "number"]
/-- is_within(one, other); names: one other number -/
def b_is_within : Cs := (.cons (.ret (.and (.cmp .lt (.bi .len (.cons (.var 0) .nil)) (.bi .len (.cons (.var 1) .nil))) (.bi .all (.cons (.comp (.v 2) (.seq (.var 0)) .no (.cmp .in_ (.var 2) (.var 1))) .nil)))) .nil)
def d_is_within : Df := ⟨3, b_is_within⟩
def n_is_within : List Str := ["one", "other", "number"]
/-- are_apart(one, other); names: one other number -/
def b_are_apart : Cs := (.cons (.ret (.not (.bi .any (.cons (.comp (.v 2) (.seq (.var 0)) .no (.cmp .in_ (.var 2) (.var 1))) .nil)))) .nil)
def d_are_apart : Df := ⟨3, b_are_apart⟩
def n_are_apart : List Str := ["one", "other", "number"]
/-- is_part(forest, lot); names: forest lot -/
def b_is_part : Cs := (.cons (.ret (.or (.cmp .eq (.bi .len (.cons (.var 1) .nil)) (.cst (.int 1))) (.cmp .in_ (.var 1) (.var 0)))) .nil)
def d_is_part : Df := ⟨2, b_is_part⟩
def n_is_part : List Str := ["forest", "lot"]
/-- replaced(lot, one, other); names: lot one other number -/
def b_replaced : Cs := (.cons (.ret (.bi .tuple (.cons (.bi .sorted (.cons (.bin .add (.comp (.v 3) (.seq (.var 0)) (.yes (.cmp .nin (.var 3) (.var 1))) (.var 3)) (.bi .list (.cons (.var 2) .nil))) .nil)) .nil))) .nil)
def d_replaced : Df := ⟨4, b_replaced⟩
def n_replaced : List Str := ["lot", "one", "other", "number"]
/-- _law_mixed(_law_cell, _law_k); names: _law_cell _law_k -/
def b__law_mixed : Cs := (.cons (.asg (.v 0) (.bin .mod (.bi .int1 (.cons (.var 0) .nil)) (.cst (.int 2147483647)))) (.cons (.ret (.bin .mod (.bin .mul (.bin .mod (.bin .add (.bin .add (.bin .mul (.var 0) (.bin .add (.cst (.int 48271)) (.bin .mul (.bin .mul (.cst (.int 2)) (.var 1)) (.var 1)))) (.bin .mul (.cst (.int 69621)) (.var 1))) (.cst (.int 11))) (.cst (.int 2147483647))) (.cst (.int 69621))) (.cst (.int 2147483629)))) .nil))
def d__law_mixed : Df := ⟨2, b__law_mixed⟩
def n__law_mixed : List Str := ["_law_cell", "_law_k"]
/-- _law_begin(_law_script); names: _law_script _law_cells _law_cell -/
def b__law_begin : Cs := (.cons (.asg (.v 1) (.ife (.cmp .ne (.var 0) (.lst .nil)) (.bi .list (.cons (.var 0) .nil)) (.lst (.cons (.cst (.int 0)) .nil)))) (.fz [1] (.cons (.ret (.mkSt (.var 1) (.comp (.v 2) (.seq (.var 1)) .no (.ife (.cmp .ge (.var 2) (.bin .pow (.cst (.int 10)) (.cst (.int 18)))) (.var 2) (.cst (.int 0)))))) .nil)))
def d__law_begin : Df := ⟨3, b__law_begin⟩
def n__law_begin : List Str := ["_law_script", "_law_cells", "_law_cell"]
/-- _law_weight(_law_heaps_so, _law_lot); names: _law_heaps_so _law_lot _law_one -/
def b__law_weight : Cs := (.cons (.ret (.bi .sum (.cons (.comp (.v 2) (.seq (.var 1)) .no (.sub (.var 0) (.var 2))) .nil))) .nil)
def d__law_weight : Df := ⟨3, b__law_weight⟩
def n__law_weight : List Str := ["_law_heaps_so", "_law_lot", "_law_one"]
/-- _law_inside(_law_one, _law_other); names: _law_one _law_other _law_spot -/
def b__law_inside : Cs := (.cons (.ret (.and (.cmp .lt (.bi .len (.cons (.var 0) .nil)) (.bi .len (.cons (.var 1) .nil))) (.cmp .eq (.comp (.v 2) (.seq (.var 0)) (.yes (.cmp .nin (.var 2) (.var 1))) (.cst (.int 1))) (.lst .nil)))) .nil)
def d__law_inside : Df := ⟨3, b__law_inside⟩
def n__law_inside : List Str := ["_law_one", "_law_other", "_law_spot"]
/-- _law_apart(_law_one, _law_other); names: _law_one _law_other _law_spot -/
def b__law_apart : Cs := (.cons (.ret (.cmp .eq (.comp (.v 2) (.seq (.var 0)) (.yes (.cmp .in_ (.var 2) (.var 1))) (.cst (.int 1))) (.lst .nil))) .nil)
def d__law_apart : Df := ⟨3, b__law_apart⟩
def n__law_apart : List Str := ["_law_one", "_law_other", "_law_spot"]
/-- is_between(thing, least, most); names: thing least most -/
def b_is_between : Cs := (.cons (.ret (.and (.call 0 (.cons (.var 0) .nil)) (.chain .le .le (.var 1) (.var 0) (.var 2)))) .nil)
def d_is_between : Df := ⟨3, b_is_between⟩
def n_is_between : List Str := ["thing", "least", "most"]
/-- parts_in(forest, lot); names: forest lot inner found known one number other -/
def b_parts_in : Cs := (.cons (.asg (.v 2) (.comp (.v 5) (.seq (.var 0)) (.yes (.call 3 (.cons (.var 5) (.cons (.var 1) .nil)))) (.var 5))) (.cons (.asg (.v 3) (.comp (.v 5) (.seq (.var 2)) (.yes (.not (.bi .any (.cons (.comp (.v 7) (.seq (.var 2)) .no (.call 3 (.cons (.var 5) (.cons (.var 7) .nil)))) .nil)))) (.var 5))) (.cons (.asg (.v 4) (.comp2 (.v 5) (.seq (.var 3)) .no (.v 6) (.seq (.var 5)) .no (.var 6))) (.cons (.ret (.bi .sorted (.cons (.bin .add (.var 3) (.comp (.v 6) (.seq (.var 1)) (.yes (.cmp .nin (.var 6) (.var 4))) (.tup (.cons (.var 6) .nil)))) .nil))) .nil))))
def d_parts_in : Df := ⟨8, b_parts_in⟩
def n_parts_in : List Str := ["forest", "lot", "inner", "found", "known", "one", "number", "other"]
/-- sum_in(heaps, forest); names: heaps forest lot -/
def b_sum_in : Cs := (.cons (.ret (.bi .sum (.cons (.comp (.v 2) (.seq (.var 1)) .no (.call 2 (.cons (.var 0) (.cons (.var 2) .nil)))) .nil))) .nil)
def d_sum_in : Df := ⟨3, b_sum_in⟩
def n_sum_in : List Str := ["heaps", "forest", "lot"]
/-- exchanged_in(forest, one, other); names: forest one other found lot has_one has_other -/
def l_exchanged_in_1 : Cs := (.cons (.par 5 6 (.call 3 (.cons (.var 1) (.cons (.var 4) .nil))) (.call 3 (.cons (.var 2) (.cons (.var 4) .nil)))) (.cons (.ifs (.and (.var 5) (.not (.var 6))) (.cons (.app 3 (.call 6 (.cons (.var 4) (.cons (.var 1) (.cons (.var 2) .nil))))) .nil) (.cons (.ifs (.and (.var 6) (.not (.var 5))) (.cons (.app 3 (.call 6 (.cons (.var 4) (.cons (.var 2) (.cons (.var 1) .nil))))) .nil) (.cons (.app 3 (.var 4)) .nil)) .nil)) .nil))
def b_exchanged_in : Cs := (.cons (.asg (.v 3) (.lst .nil)) (.cons (.for_ [3] (.v 4) (.seq (.var 0)) l_exchanged_in_1) (.cons (.ret (.bi .tuple (.cons (.bi .sorted (.cons (.var 3) .nil)) .nil))) .nil)))
def d_exchanged_in : Df := ⟨7, b_exchanged_in⟩
def n_exchanged_in : List Str := ["forest", "one", "other", "found", "lot", "has_one", "has_other"]
/-- _law_draw(_law_state, _law_many); names: _law_state _law_many _law_at _law_place _law_left _law_number -/
def b__law_draw : Cs := (.cons (.asg (.v 2) (.stAt 0)) (.cons (.setAt 0 (.bin .add (.var 2) (.cst (.int 1)))) (.cons (.asg (.v 3) (.bin .mod (.bi .int1 (.cons (.var 2) .nil)) (.bi .len (.cons (.stCells 0) .nil)))) (.cons (.asg (.v 4) (.stLeft 0 (.var 3))) (.cons (.ifs (.cmp .gt (.var 4) (.cst (.int 0))) (.cons (.setLeft 0 (.var 3) (.bin .fdiv (.var 4) (.var 1))) (.cons (.ret (.bin .mod (.bi .int1 (.cons (.var 4) .nil)) (.var 1))) .nil)) .nil) (.cons (.asg (.v 5) (.call 7 (.cons (.call 7 (.cons (.sub (.stCells 0) (.var 3)) (.cons (.var 2) .nil))) (.cons (.bin .add (.cst (.int 40)) (.var 2)) .nil)))) (.fz [5] (.cons (.ret (.bin .mod (.bin .fdiv (.bi .int1 (.cons (.bin .add (.bin .mul (.var 5) (.cst (.int 2147483647))) (.call 7 (.cons (.var 5) (.cons (.bin .add (.cst (.int 7)) (.var 2)) .nil)))) .nil)) (.cst (.int 64))) (.var 1))) .nil))))))))
def d__law_draw : Df := ⟨6, b__law_draw⟩
def n__law_draw : List Str := ["_law_state", "_law_many", "_law_at", "_law_place", "_law_left", "_law_number"]
/-- _law_tops(_law_many, _law_joins_so); names: _law_many _law_joins_so _law_parts_here _law_got _law_part _law_one _law_lot -/
def l__law_tops_1 : Cs := (.cons (.ifs (.cmp .eq (.comp (.v 6) (.seq (.var 1)) (.yes (.call 10 (.cons (.var 4) (.cons (.var 6) .nil)))) (.cst (.int 1))) (.lst .nil)) (.cons (.app 3 (.var 4)) .nil) .nil) .nil)
def b__law_tops : Cs := (.cons (.asg (.v 2) (.bin .add (.comp (.v 5) (.range1 (.var 0)) .no (.tup (.cons (.var 5) .nil))) (.bi .list (.cons (.var 1) .nil)))) (.cons (.asg (.v 3) (.lst .nil)) (.fz [2] (.cons (.for_ [3] (.v 4) (.seq (.var 2)) l__law_tops_1) (.cons (.ret (.bi .sorted (.cons (.var 3) .nil))) .nil)))))
def d__law_tops : Df := ⟨7, b__law_tops⟩
def n__law_tops : List Str := ["_law_many", "_law_joins_so", "_law_parts_here", "_law_got", "_law_part", "_law_one", "_law_lot"]
/-- _law_depth(_law_joins_so, _law_part); names: _law_joins_so _law_part _law_lot -/
def b__law_depth : Cs := (.cons (.ret (.bi .len (.cons (.comp (.v 2) (.seq (.var 0)) (.yes (.call 10 (.cons (.var 1) (.cons (.var 2) .nil)))) (.var 2)) .nil))) .nil)
def d__law_depth : Df := ⟨3, b__law_depth⟩
def n__law_depth : List Str := ["_law_joins_so", "_law_part", "_law_lot"]
/-- _law_changed(_law_joins_so, _law_one, _law_far); names: _law_joins_so _law_one _law_far _law_got _law_lot _law_out _law_into _law_spot -/
def l__law_changed_1 : Cs := (.cons (.ifs (.cmp .eq (.call 10 (.cons (.var 1) (.cons (.var 4) .nil))) (.call 10 (.cons (.var 2) (.cons (.var 4) .nil)))) (.cons (.app 3 (.var 4)) .nil) (.cons (.asg (.tup [5, 6]) (.ife (.call 10 (.cons (.var 1) (.cons (.var 4) .nil))) (.tup (.cons (.var 1) (.cons (.var 2) .nil))) (.tup (.cons (.var 2) (.cons (.var 1) .nil))))) (.cons (.app 3 (.bi .tuple (.cons (.bi .sorted (.cons (.bin .add (.comp (.v 7) (.seq (.var 4)) (.yes (.cmp .nin (.var 7) (.var 5))) (.var 7)) (.bi .list (.cons (.var 6) .nil))) .nil)) .nil))) .nil))) .nil)
def b__law_changed : Cs := (.cons (.asg (.v 3) (.lst .nil)) (.cons (.for_ [3] (.v 4) (.seq (.var 0)) l__law_changed_1) (.cons (.ret (.bi .tuple (.cons (.bi .sorted (.cons (.var 3) .nil)) .nil))) .nil)))
def d__law_changed : Df := ⟨8, b__law_changed⟩
def n__law_changed : List Str := ["_law_joins_so", "_law_one", "_law_far", "_law_got", "_law_lot", "_law_out", "_law_into", "_law_spot"]
/-- is_heaps(thing); names: thing weight -/
def b_is_heaps : Cs := (.cons (.ifs (.or (.not (.isi (.var 0) .tuple)) (.not (.chain .le .le (.cst (.int 1)) (.bi .len (.cons (.var 0) .nil)) (.glob 0)))) (.cons (.ret (.cst (.bl false))) .nil) .nil) (.cons (.ret (.bi .all (.cons (.comp (.v 1) (.seq (.var 0)) .no (.call 12 (.cons (.var 1) (.cons (.cst (.int 1)) (.cons (.glob 1) .nil))))) .nil))) .nil))
def d_is_heaps : Df := ⟨2, b_is_heaps⟩
def n_is_heaps : List Str := ["thing", "weight"]
/-- is_lot(heaps, thing); names: heaps thing number -/
def b_is_lot : Cs := (.cons (.ifs (.or (.not (.isi (.var 1) .tuple)) (.cmp .eq (.var 1) (.tup .nil))) (.cons (.ret (.cst (.bl false))) .nil) .nil) (.cons (.ret (.and (.bi .all (.cons (.comp (.v 2) (.seq (.var 1)) .no (.call 12 (.cons (.var 2) (.cons (.cst (.int 0)) (.cons (.bin .sub (.bi .len (.cons (.var 0) .nil)) (.cst (.int 1))) .nil))))) .nil)) (.call 1 (.cons (.var 1) .nil)))) .nil))
def d_is_lot : Df := ⟨3, b_is_lot⟩
def n_is_lot : List Str := ["heaps", "thing", "number"]
/-- _law_heaps(_law_state, _law_most); names: _law_state _law_most _law_wide _law_k -/
def b__law_heaps : Cs := (.cons (.asg (.v 2) (.sub (.lst (.cons (.cst (.int 3)) (.cons (.cst (.int 9)) (.cons (.bin .pow (.cst (.int 10)) (.cst (.int 9))) .nil)))) (.call 16 (.cons (.var 0) (.cons (.cst (.int 3)) .nil))))) (.cons (.ret (.bi .tuple (.cons (.comp (.v 3) (.range1 (.bin .add (.cst (.int 1)) (.call 16 (.cons (.var 0) (.cons (.var 1) .nil))))) .no (.bin .add (.cst (.int 1)) (.call 16 (.cons (.var 0) (.cons (.var 2) .nil))))) .nil))) .nil))
def d__law_heaps : Df := ⟨4, b__law_heaps⟩
def n__law_heaps : List Str := ["_law_state", "_law_most", "_law_wide", "_law_k"]
/-- _law_joins(_law_state, _law_many, _law_size); names: _law_state _law_many _law_size _law_got _law_k _law_tops_here _law_one _law_far -/
def l__law_joins_1 : Cs := (.cons (.asg (.v 5) (.call 17 (.cons (.var 1) (.cons (.var 3) .nil)))) (.cons (.popA 6 5 (.call 16 (.cons (.var 0) (.cons (.bi .len (.cons (.var 5) .nil)) .nil)))) (.cons (.popA 7 5 (.call 16 (.cons (.var 0) (.cons (.bi .len (.cons (.var 5) .nil)) .nil)))) (.cons (.asg (.v 3) (.bi .tuple (.cons (.bi .sorted (.cons (.bin .add (.var 3) (.tup (.cons (.bi .tuple (.cons (.bi .sorted (.cons (.bin .add (.var 6) (.var 7)) .nil)) .nil)) .nil))) .nil)) .nil))) .nil))))
def b__law_joins : Cs := (.cons (.asg (.v 3) (.tup .nil)) (.cons (.for_ [] (.v 4) (.range1 (.var 2)) l__law_joins_1) (.cons (.ret (.var 3)) .nil)))
def d__law_joins : Df := ⟨8, b__law_joins⟩
def n__law_joins : List Str := ["_law_state", "_law_many", "_law_size", "_law_got", "_law_k", "_law_tops_here", "_law_one", "_law_far"]
/-- need_heaps(thing); names: thing -/
def b_need_heaps : Cs := (.cons (.ifs (.not (.call 20 (.cons (.var 0) .nil))) (.cons .never .nil) .nil) (.cons (.ret (.var 0)) .nil))
def d_need_heaps : Df := ⟨1, b_need_heaps⟩
def n_need_heaps : List Str := ["thing"]
/-- need_lot(heaps, lot); names: heaps lot -/
def b_need_lot : Cs := (.cons (.ifs (.not (.call 21 (.cons (.var 0) (.cons (.var 1) .nil)))) (.cons .never .nil) .nil) .nil)
def d_need_lot : Df := ⟨2, b_need_lot⟩
def n_need_lot : List Str := ["heaps", "lot"]
/-- is_forest(heaps, thing); names: heaps thing spot one other lot -/
def l_is_forest_1 : Cs := (.cons (.ifs (.and (.not (.call 3 (.cons (.var 3) (.cons (.var 4) .nil)))) (.and (.not (.call 3 (.cons (.var 4) (.cons (.var 3) .nil)))) (.not (.call 4 (.cons (.var 3) (.cons (.var 4) .nil)))))) (.cons (.ret (.cst (.bl false))) .nil) .nil) .nil)
def l_is_forest_2 : Cs := (.cons (.for_ [] (.v 4) (.seq (.slice (.var 1) (.yes (.bin .add (.var 2) (.cst (.int 1)))) .no)) l_is_forest_1) .nil)
def b_is_forest : Cs := (.cons (.ifs (.or (.not (.isi (.var 1) .tuple)) (.not (.bi .all (.cons (.comp (.v 5) (.seq (.var 1)) .no (.and (.call 21 (.cons (.var 0) (.cons (.var 5) .nil))) (.cmp .gt (.bi .len (.cons (.var 5) .nil)) (.cst (.int 1))))) .nil)))) (.cons (.ret (.cst (.bl false))) .nil) .nil) (.cons (.ifs (.not (.call 1 (.cons (.var 1) .nil))) (.cons (.ret (.cst (.bl false))) .nil) .nil) (.cons (.for_ [] (.tup [2, 3]) (.enum (.var 1)) l_is_forest_2) (.cons (.ret (.bi .all (.cons (.comp (.v 5) (.seq (.var 1)) .no (.cmp .eq (.bi .len (.cons (.call 13 (.cons (.var 1) (.cons (.var 5) .nil))) .nil)) (.cst (.int 2)))) .nil))) .nil))))
def d_is_forest : Df := ⟨6, b_is_forest⟩
def n_is_forest : List Str := ["heaps", "thing", "spot", "one", "other", "lot"]
/-- need_forest(heaps, thing); names: heaps thing -/
def b_need_forest : Cs := (.cons (.ifs (.not (.call 26 (.cons (.call 24 (.cons (.var 0) .nil)) (.cons (.var 1) .nil)))) (.cons .never .nil) .nil) (.cons (.ret (.var 1)) .nil))
def d_need_forest : Df := ⟨2, b_need_forest⟩
def n_need_forest : List Str := ["heaps", "thing"]
/-- sum_of(heaps, forest); names: heaps forest -/
def b_sum_of : Cs := (.cons (.expr (.call 27 (.cons (.var 0) (.cons (.var 1) .nil)))) (.cons (.ret (.call 14 (.cons (.var 0) (.cons (.var 1) .nil)))) .nil))
def d_sum_of : Df := ⟨2, b_sum_of⟩
def n_sum_of : List Str := ["heaps", "forest"]
/-- exchanged(heaps, forest, lot, other); names: heaps forest lot other -/
def b_exchanged : Cs := (.cons (.expr (.call 27 (.cons (.var 0) (.cons (.var 1) .nil)))) (.cons (.expr (.call 25 (.cons (.var 0) (.cons (.var 2) .nil)))) (.cons (.ifs (.not (.call 5 (.cons (.var 1) (.cons (.var 2) .nil)))) (.cons .never .nil) .nil) (.cons (.ifs (.or (.not (.call 21 (.cons (.var 0) (.cons (.var 3) .nil)))) (.or (.not (.call 5 (.cons (.var 1) (.cons (.var 3) .nil)))) (.not (.call 4 (.cons (.var 2) (.cons (.var 3) .nil)))))) (.cons .never .nil) .nil) (.cons (.ret (.call 15 (.cons (.var 1) (.cons (.var 2) (.cons (.var 3) .nil))))) .nil)))))
def d_exchanged : Df := ⟨4, b_exchanged⟩
def n_exchanged : List Str := ["heaps", "forest", "lot", "other"]
/-- _law_pairs_right(_law_heaps_so, _law_joins_so); names: _law_heaps_so _law_joins_so _law_parts_here _law_one _law_far _law_due _law_heavy _law_deep _law_part -/
def l__law_pairs_right_1 : Cs := (.cons (.asg (.v 5) (.call 19 (.cons (.var 1) (.cons (.var 3) (.cons (.var 4) .nil))))) (.cons (.ifs (.or (.cmp .ne (.call 29 (.cons (.var 0) (.cons (.var 1) (.cons (.var 3) (.cons (.var 4) .nil))))) (.var 5)) (.cmp .ne (.call 29 (.cons (.var 0) (.cons (.var 1) (.cons (.var 4) (.cons (.var 3) .nil))))) (.var 5))) (.cons (.ret (.cst (.bl false))) .nil) .nil) (.fz [5] (.cons (.ifs (.or (.cmp .ne (.call 27 (.cons (.var 0) (.cons (.var 5) .nil))) (.var 5)) (.cmp .ne (.call 29 (.cons (.var 0) (.cons (.var 5) (.cons (.var 3) (.cons (.var 4) .nil))))) (.var 1))) (.cons (.ret (.cst (.bl false))) .nil) .nil) (.cons (.asg (.v 6) (.bin .sub (.call 9 (.cons (.var 0) (.cons (.var 4) .nil))) (.call 9 (.cons (.var 0) (.cons (.var 3) .nil))))) (.cons (.asg (.v 7) (.bin .sub (.call 18 (.cons (.var 1) (.cons (.var 4) .nil))) (.call 18 (.cons (.var 1) (.cons (.var 3) .nil))))) (.cons (.ifs (.cmp .ne (.bin .sub (.call 28 (.cons (.var 0) (.cons (.var 1) .nil))) (.call 28 (.cons (.var 0) (.cons (.var 5) .nil)))) (.bin .mul (.var 6) (.var 7))) (.cons (.ret (.cst (.bl false))) .nil) .nil) .nil)))))))
def l__law_pairs_right_2 : Cs := (.cons (.for_ [] (.v 4) (.seq (.comp (.v 8) (.seq (.var 2)) (.yes (.call 11 (.cons (.var 3) (.cons (.var 8) .nil)))) (.var 8))) l__law_pairs_right_1) .nil)
def b__law_pairs_right : Cs := (.cons (.asg (.v 2) (.bin .add (.comp (.v 3) (.range1 (.bi .len (.cons (.var 0) .nil))) .no (.tup (.cons (.var 3) .nil))) (.bi .list (.cons (.var 1) .nil)))) (.fz [2] (.cons (.for_ [] (.v 3) (.seq (.var 2)) l__law_pairs_right_2) (.cons (.ret (.cst (.bl true))) .nil))))
def d__law_pairs_right : Df := ⟨9, b__law_pairs_right⟩
def n__law_pairs_right : List Str := ["_law_heaps_so", "_law_joins_so", "_law_parts_here", "_law_one", "_law_far", "_law_due", "_law_heavy", "_law_deep", "_law_part"]
/-- law(_law_script); names: _law_script _law_state _law_turn _law_joins_so _law_heaps_so _law_size -/
def l_law_1 : Cs := (.cons (.asg (.v 4) (.call 22 (.cons (.var 1) (.cons (.cst (.int 8)) .nil)))) (.cons (.asg (.v 5) (.call 16 (.cons (.var 1) (.cons (.bi .len (.cons (.var 4) .nil)) .nil)))) (.fz [4, 5] (.cons (.ifs (.not (.call 30 (.cons (.var 4) (.cons (.call 23 (.cons (.var 1) (.cons (.bi .len (.cons (.var 4) .nil)) (.cons (.var 5) .nil)))) .nil)))) (.cons (.ret (.cst (.bl false))) .nil) .nil) .nil))))
def b_law : Cs := (.cons (.asg (.v 1) (.call 8 (.cons (.var 0) .nil))) (.cons (.for_ [] (.v 2) (.range1 (.cst (.int 6))) l_law_1) (.cons (.asg (.v 3) (.tup (.cons (.tup (.cons (.cst (.int 0)) (.cons (.cst (.int 1)) .nil))) (.cons (.tup (.cons (.cst (.int 0)) (.cons (.cst (.int 1)) (.cons (.cst (.int 2)) .nil)))) (.cons (.tup (.cons (.cst (.int 3)) (.cons (.cst (.int 4)) .nil))) .nil))))) (.cons (.ifs (.cmp .ne (.call 29 (.cons (.tup (.cons (.cst (.int 1)) (.cons (.cst (.int 2)) (.cons (.cst (.int 3)) (.cons (.cst (.int 4)) (.cons (.cst (.int 5)) .nil)))))) (.cons (.var 3) (.cons (.tup (.cons (.cst (.int 0)) (.cons (.cst (.int 1)) .nil))) (.cons (.tup (.cons (.cst (.int 3)) .nil)) .nil))))) (.tup (.cons (.tup (.cons (.cst (.int 0)) (.cons (.cst (.int 1)) .nil))) (.cons (.tup (.cons (.cst (.int 0)) (.cons (.cst (.int 1)) (.cons (.cst (.int 4)) .nil)))) (.cons (.tup (.cons (.cst (.int 2)) (.cons (.cst (.int 3)) .nil))) .nil))))) (.cons (.ret (.cst (.bl false))) .nil) .nil) (.cons (.ret (.cmp .eq (.call 29 (.cons (.tup (.cons (.cst (.int 1)) (.cons (.cst (.int 2)) (.cons (.cst (.int 3)) (.cons (.cst (.int 4)) (.cons (.cst (.int 5)) .nil)))))) (.cons (.var 3) (.cons (.tup (.cons (.cst (.int 2)) .nil)) (.cons (.tup (.cons (.cst (.int 0)) .nil)) .nil))))) (.tup (.cons (.tup (.cons (.cst (.int 0)) (.cons (.cst (.int 1)) (.cons (.cst (.int 2)) .nil)))) (.cons (.tup (.cons (.cst (.int 1)) (.cons (.cst (.int 2)) .nil))) (.cons (.tup (.cons (.cst (.int 3)) (.cons (.cst (.int 4)) .nil))) .nil)))))) .nil)))))
def d_law : Df := ⟨6, b_law⟩
def n_law : List Str := ["_law_script", "_law_state", "_law_turn", "_law_joins_so", "_law_heaps_so", "_law_size"]
def tab : Tab := ⟨[⟨"is_integer", 1, false, false, false⟩, ⟨"are_rising", 1, true, false, false⟩, ⟨"weight_in", 2, true, false, false⟩, ⟨"is_within", 2, false, false, false⟩, ⟨"are_apart", 2, false, false, false⟩, ⟨"is_part", 2, false, false, false⟩, ⟨"replaced", 3, true, false, false⟩, ⟨"_law_mixed", 2, true, false, false⟩, ⟨"_law_begin", 1, false, false, false⟩, ⟨"_law_weight", 2, true, false, false⟩, ⟨"_law_inside", 2, false, false, false⟩, ⟨"_law_apart", 2, false, false, false⟩, ⟨"is_between", 3, false, false, false⟩, ⟨"parts_in", 2, true, false, false⟩, ⟨"sum_in", 2, true, false, false⟩, ⟨"exchanged_in", 3, true, false, false⟩, ⟨"_law_draw", 2, true, false, false⟩, ⟨"_law_tops", 2, true, false, false⟩, ⟨"_law_depth", 2, true, false, false⟩, ⟨"_law_changed", 3, true, false, false⟩, ⟨"is_heaps", 1, true, false, false⟩, ⟨"is_lot", 2, false, false, false⟩, ⟨"_law_heaps", 2, true, false, false⟩, ⟨"_law_joins", 3, false, false, false⟩, ⟨"need_heaps", 1, false, false, false⟩, ⟨"need_lot", 2, true, false, false⟩, ⟨"is_forest", 2, true, false, false⟩, ⟨"need_forest", 2, false, false, false⟩, ⟨"sum_of", 2, true, false, false⟩, ⟨"exchanged", 4, true, false, false⟩, ⟨"_law_pairs_right", 2, true, false, false⟩, ⟨"law", 1, false, false, false⟩], ["MOST_HEAPS", "MOST_WEIGHT"], ⟨[], [], []⟩, false, false, []⟩
end Tm

namespace Tm
open DE PySem
def rows : List Rw := [⟨d_is_integer, n_is_integer, 8⟩, ⟨d_are_rising, n_are_rising, 10⟩, ⟨d_weight_in, n_weight_in, 15⟩, ⟨d_is_within, n_is_within, 17⟩, ⟨d_are_apart, n_are_apart, 18⟩, ⟨d_is_part, n_is_part, 25⟩, ⟨d_replaced, n_replaced, 26⟩, ⟨d__law_mixed, n__law_mixed, 30⟩, ⟨d__law_begin, n__law_begin, 31⟩, ⟨d__law_weight, n__law_weight, 34⟩, ⟨d__law_inside, n__law_inside, 35⟩, ⟨d__law_apart, n__law_apart, 36⟩, ⟨d_is_between, n_is_between, 9⟩, ⟨d_parts_in, n_parts_in, 19⟩, ⟨d_sum_in, n_sum_in, 22⟩, ⟨d_exchanged_in, n_exchanged_in, 27⟩, ⟨d__law_draw, n__law_draw, 32⟩, ⟨d__law_tops, n__law_tops, 37⟩, ⟨d__law_depth, n__law_depth, 42⟩, ⟨d__law_changed, n__law_changed, 48⟩, ⟨d_is_heaps, n_is_heaps, 11⟩, ⟨d_is_lot, n_is_lot, 13⟩, ⟨d__law_heaps, n__law_heaps, 45⟩, ⟨d__law_joins, n__law_joins, 46⟩, ⟨d_need_heaps, n_need_heaps, 12⟩, ⟨d_need_lot, n_need_lot, 14⟩, ⟨d_is_forest, n_is_forest, 20⟩, ⟨d_need_forest, n_need_forest, 21⟩, ⟨d_sum_of, n_sum_of, 23⟩, ⟨d_exchanged, n_exchanged, 28⟩, ⟨d__law_pairs_right, n__law_pairs_right, 49⟩, ⟨d_law, n_law, 50⟩]
def consts : List (Str × D) := [("MOST_HEAPS", .int 8), ("MOST_WEIGHT", .int 1000000000)]
def gam (g : Nat) : D := (consts.getD g ("", .non)).2
def flatD : D → Bool
  | .int _ => true
  | .str _ => true
  | _ => false
theorem gam_at0 {g : Nat} {q : Str × D} (h : consts[g]? = some q) : gam g = q.2 := by
  unfold gam
  rw [List.getD_eq_getElem?_getD, h]
  rfl
abbrev cx : Nat → DE.Ctx := CtxN (dfOf rows) gam tab.xt
abbrev Φ (k : Nat) : Nat → List D → M D := (cx k).Φ
theorem gam_at (k : Nat) {g : Nat} {d : D} (h : gam g = d) : (cx k).Γ g = d := (congrFun (CtxN_Γ k) g).trans h
end Tm

namespace Tm
open DE PySem
def m_is_integer (thing : Int) : Bool :=
  (true && (!false))
def m_are_risingI (some' : (List Int)) : Bool :=
  (((some'.zip (some'.drop 1)).map (fun (p1 : (Int × Int)) => (decide (p1.1 < p1.2)))).all id)
def m_are_rising (some' : (List (List Int))) : Bool :=
  (((some'.zip (some'.drop 1)).map (fun (p1 : ((List Int) × (List Int))) => (Ord.lt (enT D.int) p1.1 p1.2))).all id)
def m_weight_in (heaps : (List Int)) (lot : (List Int)) : Int :=
  (lot.map (fun (number : Int) => (heaps.getD (number).toNat default))).sum
def m_is_within (one : (List Int)) (other : (List Int)) : Bool :=
  ((decide ((one.length : Int) < (other.length : Int))) && ((one.map (fun (number : Int) => (decide (number ∈ other)))).all id))
def m_are_apart (one : (List Int)) (other : (List Int)) : Bool :=
  (!((one.map (fun (number : Int) => (decide (number ∈ other)))).any id))
def m_is_part (forest : (List (List Int))) (lot : (List Int)) : Bool :=
  ((decide ((lot.length : Int) = (1 : Int))) || (decide (lot ∈ forest)))
def m_replaced (lot : (List Int)) (one : (List Int)) (other : (List Int)) : (List Int) :=
  (srt D.int ((lot.filter (fun (number : Int) => (!decide (number ∈ one)))) ++ other))
def m_weight (heaps_so : (List Int)) (lot : (List Int)) : Int :=
  (lot.map (fun (one : Int) => (heaps_so.getD (one).toNat default))).sum
def m_inside (one : (List Int)) (other : (List Int)) : Bool :=
  ((decide ((one.length : Int) < (other.length : Int))) && (decide (((one.filter (fun (spot : Int) => (!decide (spot ∈ other)))).map (fun (spot : Int) => (1 : Int))) = ([] : List Int))))
def m_apart (one : (List Int)) (other : (List Int)) : Bool :=
  (decide (((one.filter (fun (spot : Int) => (decide (spot ∈ other)))).map (fun (spot : Int) => (1 : Int))) = ([] : List Int)))
def m_is_between (thing : Int) (least : Int) (most : Int) : Bool :=
  ((m_is_integer thing) && (decide (least ≤ thing) && decide (thing ≤ most)))
def m_parts_in_inner (forest : (List (List Int))) (lot : (List Int)) : (List (List Int)) :=
  (forest.filter (fun (one : (List Int)) => (m_is_within one lot)))
def m_parts_in_found (forest : (List (List Int))) (lot : (List Int)) : (List (List Int)) :=
  ((m_parts_in_inner forest lot).filter (fun (one : (List Int)) => (!(((m_parts_in_inner forest lot).map (fun (other : (List Int)) => (m_is_within one other))).any id))))
def m_parts_in_known (forest : (List (List Int))) (lot : (List Int)) : (List Int) :=
  ((m_parts_in_found forest lot).flatMap fun (one : (List Int)) => one.map fun (number : Int) => number)
def m_parts_in (forest : (List (List Int))) (lot : (List Int)) : (List (List Int)) :=
  (srt (enT D.int) ((m_parts_in_found forest lot) ++ ((lot.filter (fun (number : Int) => (!decide (number ∈ (m_parts_in_known forest lot))))).map (fun (number : Int) => ([number] : List Int)))))
def m_sum_in (heaps : (List Int)) (forest : (List (List Int))) : Int :=
  (forest.map (fun (lot : (List Int)) => (m_weight_in heaps lot))).sum
def m_exchanged_in_found  : (List (List Int)) :=
  ([] : List (List Int))
def m_exchanged_in_has_one (one : (List Int)) (lot : (List Int)) : Bool :=
  (m_is_within one lot)
def m_exchanged_in_has_other (other : (List Int)) (lot : (List Int)) : Bool :=
  (m_is_within other lot)
def m_exchanged_in_L1 (one : (List Int)) (other : (List Int)) (v1 : (List (List Int))) (lot : (List Int)) : (List (List Int)) :=
  (if ((m_exchanged_in_has_one one lot) && (!(m_exchanged_in_has_other other lot))) then (v1 ++ [(m_replaced lot one other)]) else (if ((m_exchanged_in_has_other other lot) && (!(m_exchanged_in_has_one one lot))) then (v1 ++ [(m_replaced lot other one)]) else (v1 ++ [lot])))
def m_exchanged_in_L1_out (forest : (List (List Int))) (one : (List Int)) (other : (List Int)) : (List (List Int)) :=
  forest.foldl (m_exchanged_in_L1 one other) m_exchanged_in_found
def m_exchanged_in (forest : (List (List Int))) (one : (List Int)) (other : (List Int)) : (List (List Int)) :=
  (srt (enT D.int) (m_exchanged_in_L1_out forest one other))
def m_tops_parts_here (many : Int) (joins_so : (List (List Int))) : (List (List Int)) :=
  (((rangeI 0 many).map (fun (one : Int) => ([one] : List Int))) ++ joins_so)
def m_tops_got  : (List (List Int)) :=
  ([] : List (List Int))
def m_tops_L1 (joins_so : (List (List Int))) (v1 : (List (List Int))) (part : (List Int)) : (List (List Int)) :=
  (if (decide (((joins_so.filter (fun (lot : (List Int)) => (m_inside part lot))).map (fun (lot : (List Int)) => (1 : Int))) = ([] : List Int))) then (v1 ++ [part]) else v1)
def m_tops_L1_out (many : Int) (joins_so : (List (List Int))) : (List (List Int)) :=
  (m_tops_parts_here many joins_so).foldl (m_tops_L1 joins_so) m_tops_got
def m_tops (many : Int) (joins_so : (List (List Int))) : (List (List Int)) :=
  (srt (enT D.int) (m_tops_L1_out many joins_so))
def m_depth (joins_so : (List (List Int))) (part : (List Int)) : Int :=
  ((joins_so.filter (fun (lot : (List Int)) => (m_inside part lot))).length : Int)
def m_changed_got  : (List (List Int)) :=
  ([] : List (List Int))
def m_changed_out_into (one : (List Int)) (far : (List Int)) (lot : (List Int)) : ((List Int) × (List Int)) :=
  (if (m_inside one lot) then (one, far) else (far, one))
def m_changed_got2 (one : (List Int)) (far : (List Int)) (v1 : (List (List Int))) (lot : (List Int)) : (List (List Int)) :=
  v1 ++ [(srt D.int ((lot.filter (fun (spot : Int) => (!decide (spot ∈ (m_changed_out_into one far lot).1)))) ++ (m_changed_out_into one far lot).2))]
def m_changed_L1 (one : (List Int)) (far : (List Int)) (v1 : (List (List Int))) (lot : (List Int)) : (List (List Int)) :=
  (if (decide ((m_inside one lot) = (m_inside far lot))) then (v1 ++ [lot]) else (m_changed_got2 one far v1 lot))
def m_changed_L1_out (joins_so : (List (List Int))) (one : (List Int)) (far : (List Int)) : (List (List Int)) :=
  joins_so.foldl (m_changed_L1 one far) m_changed_got
def m_changed (joins_so : (List (List Int))) (one : (List Int)) (far : (List Int)) : (List (List Int)) :=
  (srt (enT D.int) (m_changed_L1_out joins_so one far))
def m_is_heaps (thing : (List Int)) : Bool :=
  (if ((!true) || (!(decide ((1 : Int) ≤ (thing.length : Int)) && decide ((thing.length : Int) ≤ (8 : Int))))) then false else ((thing.map (fun (weight : Int) => (m_is_between weight (1 : Int) (1000000000 : Int)))).all id))
def m_is_lot (heaps : (List Int)) (thing : (List Int)) : Bool :=
  (if ((!true) || (decide (thing = ([] : List Int)))) then false else (((thing.map (fun (number : Int) => (m_is_between number (0 : Int) ((heaps.length : Int) - (1 : Int))))).all id) && (m_are_risingI thing)))
def m_need_heaps (thing : (List Int)) : (List Int) :=
  thing
def m_need_lot (heaps : (List Int)) (lot : (List Int)) : Unit :=
  ()
def m_is_forest_L3 (p2 : (Int × (List Int))) (v3 : Unit) (other : (List Int)) : Bool ⊕ Unit :=
  (if ((!(m_is_within p2.2 other)) && ((!(m_is_within other p2.2)) && (!(m_are_apart p2.2 other)))) then (Sum.inl false) else (Sum.inr ()))
def m_is_forest_R3 (thing : (List (List Int))) (p2 : (Int × (List Int))) : Bool ⊕ Unit :=
  loopR (m_is_forest_L3 p2) (cut thing (some (p2.1 + (1 : Int))) none) ()
def m_is_forest_L1 (thing : (List (List Int))) (v1 : Unit) (p2 : (Int × (List Int))) : Bool ⊕ Unit :=
  (Sum.elim Sum.inl (fun (_ : Unit) => (Sum.inr ())) (m_is_forest_R3 thing p2))
def m_is_forest_R1 (thing : (List (List Int))) : Bool ⊕ Unit :=
  loopR (m_is_forest_L1 thing) (enumI 0 thing) ()
def m_is_forest (heaps : (List Int)) (thing : (List (List Int))) : Bool :=
  (if ((!true) || (!((thing.map (fun (lot : (List Int)) => ((m_is_lot heaps lot) && (decide ((1 : Int) < (lot.length : Int)))))).all id))) then false else (if (!(m_are_rising thing)) then false else (Sum.elim id (fun (_ : Unit) => ((thing.map (fun (lot : (List Int)) => (decide (((m_parts_in thing lot).length : Int) = (2 : Int))))).all id)) (m_is_forest_R1 thing))))
def m_need_forest (heaps : (List Int)) (thing : (List (List Int))) : (List (List Int)) :=
  thing
def m_sum_of (heaps : (List Int)) (forest : (List (List Int))) : Int :=
  (m_sum_in heaps forest)
def m_exchanged (heaps : (List Int)) (forest : (List (List Int))) (lot : (List Int)) (other : (List Int)) : (List (List Int)) :=
  (m_exchanged_in forest lot other)
theorem srt_ne {α : Type} [DecidableEq α] {e : α → D} [Ord e] {xs : List α} (h : xs ≠ []) : srt e xs ≠ [] := fun q => h (List.eq_nil_of_length_eq_zero (by have := congrArg List.length q; rwa [srt_length] at this))
theorem sort_catL_ne (x y : List Int) (h : y ≠ []) : srt D.int (x ++ y) ≠ [] := srt_ne (by simp [h])
theorem sort_cat_ne (x y : List Int) (h : x ≠ []) : srt D.int (x ++ y) ≠ [] := srt_ne (by simp [h])
theorem replaced_ne (lot one other : List Int) (h : other ≠ []) : m_replaced lot one other ≠ [] := srt_ne (by simp [h])
end Tm

/-! Ords: sorted lists as sets. -/
namespace Mth
open DE
section
variable {α : Type}
theorem pw_ext {R : α → α → Prop} (as : ∀ a b, R a b → ¬ R b a) : ∀ {l l' : List α}, l.Pairwise R → l'.Pairwise R → (∀ a, a ∈ l ↔ a ∈ l') → l = l'
  | [], [], _, _, _ => rfl
  | [], b :: l', _, _, h => by have := (h b).mpr (List.mem_cons_self ..); cases this
  | a :: l, [], _, _, h => by have := (h a).mp (List.mem_cons_self ..); cases this
  | a :: l, b :: l', h1, h2, h => by
    have irr : ∀ x, ¬ R x x := fun x hx => as x x hx hx
    rw [List.pairwise_cons] at h1 h2
    have e : a = b := by
      rcases List.mem_cons.mp ((h a).mp (List.mem_cons_self ..)) with e | e
      · exact e
      · rcases List.mem_cons.mp ((h b).mpr (List.mem_cons_self ..)) with e' | e'
        · exact e'.symm
        · exact absurd (h1.1 b e') (as _ _ (h2.1 a e))
    subst e
    congr 1
    refine pw_ext as h1.2 h2.2 fun x => ?_
    have hx := h x
    simp only [List.mem_cons] at hx
    constructor
    · intro q
      rcases hx.mp (.inr q) with rfl | q'
      · exact absurd (h1.1 _ q) (irr _)
      · exact q'
    · intro q
      rcases hx.mpr (.inr q) with rfl | q'
      · exact absurd (h2.1 _ q) (irr _)
      · exact q'
theorem sub_len [DecidableEq α] : ∀ {a b : List α}, a.Nodup → (∀ x ∈ a, x ∈ b) → a.length ≤ b.length
  | [], _, _, _ => Nat.zero_le _
  | x :: a, b, h, s => by
    have hx := s x (List.mem_cons_self ..)
    rw [List.nodup_cons] at h
    have := sub_len (b := b.erase x) h.2 fun y hy => by
      have hy' := s y (List.mem_cons_of_mem _ hy)
      exact (List.mem_erase_of_ne (fun e : y = x => h.1 (by rw [← e]; exact hy))).mpr hy'
    rw [List.length_erase_of_mem hx] at this
    have hp : 0 < b.length := List.length_pos_of_mem hx
    simp only [List.length_cons]
    omega
theorem sub_lt [DecidableEq α] {a b : List α} (h : a.Nodup) (s : ∀ x ∈ a, x ∈ b) {y : α} (hy : y ∈ b) (hn : y ∉ a) : a.length < b.length := by
  have := sub_len (a := y :: a) (b := b) (List.nodup_cons.mpr ⟨hn, h⟩) fun x hx => by
    rcases List.mem_cons.mp hx with rfl | hx
    · exact hy
    · exact s x hx
  rw [List.length_cons] at this
  exact this
theorem lt_ex [DecidableEq α] {a b : List α} (hb : b.Nodup) (h : a.length < b.length) : ∃ y ∈ b, y ∉ a := by
  apply Classical.byContradiction
  intro q
  have := sub_len (a := b) (b := a) hb fun x hx => Classical.byContradiction fun hn => q ⟨x, hx, hn⟩
  omega
/-- what is so of neighbours, where that is handed on -/
theorem zip_pw {R : α → α → Prop} [DecidableRel R] (tr : ∀ a b c, R a b → R b c → R a c) : ∀ (l : List α), (((l.zip (l.drop 1)).map fun p => decide (R p.1 p.2)).all id = true) ↔ l.Pairwise R
  | [] => by simp
  | [a] => by simp
  | a :: b :: l => by
    have ih := zip_pw tr (b :: l)
    simp only [List.drop_succ_cons, List.drop_zero, List.zip_cons_cons, List.map_cons, List.all_cons, id_eq, Bool.and_eq_true, decide_eq_true_eq] at ih ⊢
    rw [ih, List.pairwise_cons (a := a)]
    constructor
    · rintro ⟨h, h1⟩
      refine ⟨fun x hx => ?_, h1⟩
      rcases List.mem_cons.mp hx with rfl | hx
      · exact h
      · exact tr _ _ _ h ((List.pairwise_cons.mp h1).1 x hx)
    · rintro ⟨h, h1⟩
      exact ⟨h b (List.mem_cons_self ..), h1⟩
end
/-! ### orders -/
abbrev ltL : List Int → List Int → Bool := Ord.lt (enT D.int)
theorem lin_L : Lin ltL := lin_lex lin_int
section
variable {α : Type} [DecidableEq α] {e : α → D} [Ord e]
theorem srt_pw (h : Lin (Ord.lt e)) (xs : List α) : (srt e xs).Pairwise fun a b => Ord.lt e b a = false := srt_pw0 xs
theorem srt_up (h : Lin (Ord.lt e)) {xs : List α} (nd : xs.Nodup) : (srt e xs).Pairwise fun a b => Ord.lt e a b = true := by
  have nd' : (srt e xs).Nodup := (srt_perm xs).nodup_iff.mpr nd
  have q := srt_pw h xs
  rw [List.Nodup] at nd'
  refine (List.Pairwise.and q nd').imp fun {a b} hab => ?_
  rcases h.tot a b with r | r | r
  · exact absurd r hab.2
  · exact r
  · rw [hab.1] at r; cases r
theorem up_nodup (h : Lin (Ord.lt e)) {xs : List α} (u : xs.Pairwise fun a b => Ord.lt e a b = true) : xs.Nodup := u.imp fun {a b} hab => by
  rintro rfl
  rw [h.irr] at hab
  cases hab
/-- the only sorted list with these members -/
theorem srt_eq (h : Lin (Ord.lt e)) {xs ys : List α} (nd : xs.Nodup) (u : ys.Pairwise fun a b => Ord.lt e a b = true) (m : ∀ a, a ∈ xs ↔ a ∈ ys) : srt e xs = ys :=
  pw_ext (fun a b => h.as a b) (srt_up h nd) u fun a => by rw [mem_srt]; exact m a
theorem srt_congr (h : Lin (Ord.lt e)) {xs ys : List α} (n1 : xs.Nodup) (n2 : ys.Nodup) (m : ∀ a, a ∈ xs ↔ a ∈ ys) : srt e xs = srt e ys :=
  srt_eq h n1 (srt_up h n2) fun a => by rw [mem_srt]; exact m a
theorem srt_self (h : Lin (Ord.lt e)) {xs : List α} (u : xs.Pairwise fun a b => Ord.lt e a b = true) : srt e xs = xs := srt_eq h (up_nodup h u) u fun _ => Iff.rfl
/-- sorting forgets the turn -/
theorem srt_perm_eq (h : Lin (Ord.lt e)) {xs ys : List α} (p : xs.Perm ys) : srt e xs = srt e ys := by
  have q1 := srt_pw h xs
  have q2 := srt_pw h ys
  have p' : (srt e xs).Perm (srt e ys) := ((srt_perm xs).trans p).trans (srt_perm ys).symm
  refine p'.eq_of_pairwise (le := fun a b => Ord.lt e b a = false) (fun a b _ _ h1 h2 => ?_) q1 q2
  rcases h.tot a b with r | r | r
  · exact r
  · rw [r] at h2; cases h2
  · rw [r] at h1; cases h1
end
/-- ascending lists of numbers -/
abbrev Up (L : List Int) : Prop := L.Pairwise fun a b => a < b
theorem up_srt {xs : List Int} (nd : xs.Nodup) : Up (srt D.int xs) := (srt_up (e := D.int) lin_int nd).imp fun {a b} h => by
  have : decide (a < b) = true := h
  simpa using this
theorem Up.nodup {L : List Int} (u : Up L) : L.Nodup := u.imp fun {a b} h => by omega
theorem up_ext {L M : List Int} (u : Up L) (v : Up M) (h : ∀ x, x ∈ L ↔ x ∈ M) : L = M := pw_ext (fun a b h => by omega) u v h
theorem srt_int_eq {xs ys : List Int} (nd : xs.Nodup) (u : Up ys) (m : ∀ a, a ∈ xs ↔ a ∈ ys) : srt D.int xs = ys := up_ext (up_srt nd) u fun x => by rw [mem_srt]; exact m x
abbrev UpL (F : List (List Int)) : Prop := F.Pairwise fun a b => ltL a b = true
theorem UpL.nodup {F : List (List Int)} (u : UpL F) : F.Nodup := up_nodup (e := enT D.int) lin_L u
end Mth

/-! Fo: forests of lots. -/
namespace Mth
open DE
structure Lt (n : Int) (L : List Int) : Prop where
  ne : L ≠ []
  rg : ∀ x ∈ L, 0 ≤ x ∧ x < n
  up : Up L
def Sb (a b : List Int) : Prop := ∀ x ∈ a, x ∈ b
def Ss (a b : List Int) : Prop := (∀ x ∈ a, x ∈ b) ∧ ∃ y ∈ b, y ∉ a
def Ap (a b : List Int) : Prop := ∀ x ∈ a, x ∉ b
def Pt (n : Int) (F : List (List Int)) (A : List Int) : Prop := Lt n A ∧ (A.length = 1 ∨ A ∈ F)
structure Fo (n : Int) (F : List (List Int)) : Prop where
  lot : ∀ L ∈ F, Lt n L ∧ 2 ≤ L.length
  up : UpL F
  nest : ∀ L ∈ F, ∀ M ∈ F, Sb L M ∨ Sb M L ∨ Ap L M
  two : ∀ L ∈ F, ∃ A B, Pt n F A ∧ Pt n F B ∧ Ap A B ∧ ∀ x, x ∈ L ↔ x ∈ A ∨ x ∈ B
/-- within: as the program tells it -/
def wi (a b : List Int) : Bool := decide (a.length < b.length) && a.all fun x => decide (x ∈ b)
theorem wi_iff {a b : List Int} (ha : Up a) (hb : Up b) : wi a b = true ↔ Ss a b := by
  unfold wi Ss
  simp only [Bool.and_eq_true, decide_eq_true_eq, List.all_eq_true]
  constructor
  · rintro ⟨h1, h2⟩
    exact ⟨h2, lt_ex hb.nodup h1⟩
  · rintro ⟨h1, y, hy, hn⟩
    exact ⟨sub_lt ha.nodup h1 hy hn, h1⟩
theorem wi_false {a b : List Int} (ha : Up a) (hb : Up b) : wi a b = false ↔ ¬ Ss a b := by
  rw [← wi_iff ha hb]; simp
theorem one_of {A : List Int} (h : A.length = 1) : ∃ i, A = [i] := by
  match A, h with
  | [i], _ => exact ⟨i, rfl⟩
theorem ne_mem {A : List Int} (h : A ≠ []) : ∃ x, x ∈ A := by
  cases A with
  | nil => exact absurd rfl h
  | cons x A => exact ⟨x, List.mem_cons_self ..⟩
theorem lt_one {n i : Int} (h : 0 ≤ i ∧ i < n) : Lt n [i] := ⟨by simp, fun x hx => by simp at hx; subst hx; exact h, by simp⟩
theorem pt_one {n i : Int} {F : List (List Int)} (h : 0 ≤ i ∧ i < n) : Pt n F [i] := ⟨lt_one h, .inl rfl⟩
theorem Fo.pt {n : Int} {F : List (List Int)} (f : Fo n F) {L : List Int} (h : L ∈ F) : Pt n F L := ⟨(f.lot L h).1, .inr h⟩
/-- two parts are nested, or apart -/
theorem Fo.parts {n : Int} {F : List (List Int)} (f : Fo n F) {A B : List Int} (ha : Pt n F A) (hb : Pt n F B) : Sb A B ∨ Sb B A ∨ Ap A B := by
  rcases ha.2 with h | h
  · obtain ⟨i, rfl⟩ := one_of h
    by_cases q : i ∈ B
    · left; intro x hx; simp at hx; subst hx; exact q
    · right; right; intro x hx; simp at hx; subst hx; exact q
  · rcases hb.2 with h' | h'
    · obtain ⟨i, rfl⟩ := one_of h'
      by_cases q : i ∈ A
      · right; left; intro x hx; simp at hx; subst hx; exact q
      · right; right; intro x hx hx'; simp at hx'; subst hx'; exact q hx
    · exact f.nest A h B h'
theorem Ss.len {a b : List Int} (ha : Up a) (h : Ss a b) : a.length < b.length := by
  obtain ⟨h1, y, hy, hn⟩ := h
  exact sub_lt ha.nodup h1 hy hn
theorem sb_len {a b : List Int} (ha : Up a) (h : Sb a b) : a.length ≤ b.length := sub_len ha.nodup h
theorem sb_eq {a b : List Int} (ha : Up a) (hb : Up b) (h : Sb a b) (h' : Sb b a) : a = b := up_ext ha hb fun x => ⟨h x, h' x⟩
theorem sb_ss {a b : List Int} (ha : Up a) (hb : Up b) (h : Sb a b) (n : a ≠ b) : Ss a b := ⟨h, Classical.byContradiction fun q => n (sb_eq ha hb h fun x hx => Classical.byContradiction fun q' => q ⟨x, hx, q'⟩)⟩

/-! ### the two parts of a join -/
section
variable {n : Int} {F : List (List Int)}
def inner (F : List (List Int)) (L : List Int) : List (List Int) := F.filter fun P => wi P L
def found (F : List (List Int)) (L : List Int) : List (List Int) := (inner F L).filter fun P => !(inner F L).any fun Q => wi P Q
def lone (F : List (List Int)) (L : List Int) : List (List Int) := (L.filter fun x => !decide (x ∈ (found F L).flatten)).map fun x => [x]
theorem found_iff (f : Fo n F) {L A B : List Int} (hL : L ∈ F) (ha : Pt n F A) (hb : Pt n F B) (ab : Ap A B) (u : ∀ x, x ∈ L ↔ x ∈ A ∨ x ∈ B) (P : List Int) : P ∈ found F L ↔ P ∈ F ∧ (P = A ∨ P = B) := by
  have uL := (f.lot L hL).1.up
  have key : ∀ {Q}, Q ∈ F → Ss Q L → Sb Q A ∨ Sb Q B := by
    intro Q hQ ⟨h1, y, hy, hn⟩
    obtain ⟨z, hz⟩ := ne_mem (f.lot Q hQ).1.ne
    rcases f.parts (f.pt hQ) ha with q | q | q
    · exact .inl q
    · rcases f.parts (f.pt hQ) hb with r | r | r
      · exact .inr r
      · exact absurd ((u y).mp hy) (by unfold Sb at *; grind)
      · left; unfold Sb Ap at *; grind
    · right; unfold Sb Ap at *; grind
  have sA : Ss A L := ⟨fun x hx => (u x).mpr (.inl hx), by
    obtain ⟨z, hz⟩ := ne_mem hb.1.ne
    exact ⟨z, (u z).mpr (.inr hz), fun h => ab z h hz⟩⟩
  have sB : Ss B L := ⟨fun x hx => (u x).mpr (.inr hx), by
    obtain ⟨z, hz⟩ := ne_mem ha.1.ne
    exact ⟨z, (u z).mpr (.inl hz), fun h => ab z hz h⟩⟩
  have mi : ∀ Q, Q ∈ inner F L ↔ Q ∈ F ∧ Ss Q L := fun Q => by
    unfold inner
    rw [List.mem_filter]
    constructor
    · rintro ⟨h1, h2⟩
      exact ⟨h1, (wi_iff (f.lot Q h1).1.up uL).mp h2⟩
    · rintro ⟨h1, h2⟩
      exact ⟨h1, (wi_iff (f.lot Q h1).1.up uL).mpr h2⟩
  unfold found
  rw [List.mem_filter, mi]
  simp only [Bool.not_eq_true', List.any_eq_false]
  constructor
  · rintro ⟨⟨h1, h2⟩, h3⟩
    refine ⟨h1, ?_⟩
    have uP := (f.lot P h1).1.up
    have big : 2 ≤ P.length := (f.lot P h1).2
    have go : ∀ {C}, Pt n F C → Ss C L → Sb P C → P = C := by
      intro C hC sC sP
      have hCF : C ∈ F := by
        rcases hC.2 with q | q
        · have := sb_len uP sP
          omega
        · exact q
      apply Classical.byContradiction
      intro ne
      exact h3 C ((mi C).mpr ⟨hCF, sC⟩) ((wi_iff uP hC.1.up).mpr (sb_ss uP hC.1.up sP ne))
    rcases key h1 h2 with q | q
    · exact .inl (go ha sA q)
    · exact .inr (go hb sB q)
  · rintro ⟨h1, h2⟩
    have h3 : Ss P L := by rcases h2 with rfl | rfl <;> assumption
    refine ⟨⟨h1, h3⟩, fun Q hQ hw => ?_⟩
    obtain ⟨q1, q2⟩ := (mi Q).mp hQ
    obtain ⟨w1, y, hy, hn⟩ := (wi_iff (f.lot P h1).1.up (f.lot Q q1).1.up).mp hw
    obtain ⟨z, hz⟩ := ne_mem (f.lot P h1).1.ne
    rcases key q1 q2 with k | k <;> rcases h2 with rfl | rfl <;> unfold Sb Ap at * <;> grind
theorem two_parts (f : Fo n F) {L A B : List Int} (hL : L ∈ F) (ha : Pt n F A) (hb : Pt n F B) (ab : Ap A B) (u : ∀ x, x ∈ L ↔ x ∈ A ∨ x ∈ B) : srt (enT D.int) (found F L ++ lone F L) = srt (enT D.int) [A, B] := by
  have ne : A ≠ B := fun e => by
    obtain ⟨z, hz⟩ := ne_mem ha.1.ne
    exact ab z hz (e ▸ hz)
  have fi := found_iff f hL ha hb ab u
  have mem_fl : ∀ x, x ∈ (found F L).flatten ↔ (A ∈ F ∧ x ∈ A) ∨ (B ∈ F ∧ x ∈ B) := fun x => by
    rw [List.mem_flatten]
    constructor
    · rintro ⟨P, hP, hx⟩
      obtain ⟨h1, rfl | rfl⟩ := (fi P).mp hP
      · exact .inl ⟨h1, hx⟩
      · exact .inr ⟨h1, hx⟩
    · rintro (⟨h1, hx⟩ | ⟨h1, hx⟩)
      · exact ⟨A, (fi A).mpr ⟨h1, .inl rfl⟩, hx⟩
      · exact ⟨B, (fi B).mpr ⟨h1, .inr rfl⟩, hx⟩
  have ml : ∀ P, P ∈ lone F L ↔ P.length = 1 ∧ (P = A ∨ P = B) := fun P => by
    unfold lone
    simp only [List.mem_map, List.mem_filter, Bool.not_eq_true', decide_eq_false_iff_not, mem_fl]
    constructor
    · rintro ⟨x, ⟨h1, h2⟩, rfl⟩
      refine ⟨rfl, ?_⟩
      rcases (u x).mp h1 with hx | hx
      · left
        rcases ha.2 with q | q
        · obtain ⟨i, rfl⟩ := one_of q
          simp at hx; rw [hx]
        · exact absurd (.inl ⟨q, hx⟩) h2
      · right
        rcases hb.2 with q | q
        · obtain ⟨i, rfl⟩ := one_of q
          simp at hx; rw [hx]
        · exact absurd (.inr ⟨q, hx⟩) h2
    · rintro ⟨h1, h2⟩
      obtain ⟨i, rfl⟩ := one_of h1
      refine ⟨i, ⟨(u i).mpr ?_, ?_⟩, rfl⟩
      · rcases h2 with rfl | rfl
        · left; simp
        · right; simp
      · rintro (⟨q1, q2⟩ | ⟨q1, q2⟩)
        · rcases h2 with rfl | rfl
          · have := (f.lot _ q1).2
            simp at this
          · exact ab i q2 (by simp)
        · rcases h2 with rfl | rfl
          · exact ab i (by simp) q2
          · have := (f.lot _ q1).2
            simp at this
  have nd1 : (found F L).Nodup := (f.up.nodup.filter _).filter _
  have nd2 : (lone F L).Nodup := by
    unfold lone
    rw [List.Nodup, List.pairwise_map]
    exact (((f.lot L hL).1.up.nodup).filter _).imp fun {a b} h => by simpa using h
  refine srt_congr lin_L ?_ (by simp [ne]) fun P => ?_
  · rw [List.nodup_append]
    refine ⟨nd1, nd2, fun P h1 Q h2 e => ?_⟩
    subst e
    have := (f.lot P ((fi P).mp h1).1).2
    have := ((ml P).mp h2).1
    omega
  · rw [List.mem_append, fi, ml]
    simp only [List.mem_cons, List.not_mem_nil, or_false]
    constructor
    · rintro (⟨_, h⟩ | ⟨_, h⟩) <;> exact h
    · intro h
      have hP : Pt n F P := by rcases h with rfl | rfl <;> assumption
      rcases hP.2 with q | q
      · exact .inr ⟨q, h⟩
      · exact .inl ⟨q, h⟩

/-! ### growing -/
theorem fo_nil : Fo n [] := ⟨fun _ h => by simp at h, by simp, fun _ h => by simp at h, fun _ h => by simp at h⟩
def Top (n : Int) (F : List (List Int)) (A : List Int) : Prop := Pt n F A ∧ ∀ L ∈ F, ¬ Ss A L
theorem Top.apart (f : Fo n F) {A B : List Int} (ha : Top n F A) (hb : Top n F B) (ne : A ≠ B) : Ap A B := by
  have go : ∀ {A B}, Top n F A → Top n F B → A ≠ B → Sb A B → Ap A B := by
    intro A B ha hb ne s
    have s' := sb_ss ha.1.1.up hb.1.1.up s ne
    rcases hb.1.2 with q | q
    · have := s'.len ha.1.1.up
      have : A.length = 0 := by omega
      exact absurd (List.eq_nil_of_length_eq_zero this) ha.1.1.ne
    · exact absurd s' (ha.2 B q)
  rcases f.parts ha.1 hb.1 with h | h | h
  · exact go ha hb ne h
  · have := go hb ha (Ne.symm ne) h
    exact fun x hx hx' => this x hx' hx
  · exact h
/-- the join of two parts -/
def joinL (A B : List Int) : List Int := srt D.int (A ++ B)
def joinF (F : List (List Int)) (A B : List Int) : List (List Int) := srt (enT D.int) (F ++ [joinL A B])
theorem mem_joinL {A B : List Int} {x : Int} : x ∈ joinL A B ↔ x ∈ A ∨ x ∈ B := by
  unfold joinL
  rw [mem_srt, List.mem_append]
theorem up_joinL {A B : List Int} (ha : Up A) (hb : Up B) (ab : Ap A B) : Up (joinL A B) := up_srt (by
  rw [List.nodup_append]
  exact ⟨ha.nodup, hb.nodup, fun x hx y hy e => ab x hx (e ▸ hy)⟩)
theorem len_joinL {A B : List Int} : (joinL A B).length = A.length + B.length := by
  unfold joinL
  rw [srt_length, List.length_append]
theorem joinL_new (f : Fo n F) {A B : List Int} (ha : Top n F A) (hb : Top n F B) (ne : A ≠ B) : joinL A B ∉ F := fun h => by
  have ab := Top.apart f ha hb ne
  obtain ⟨z, hz⟩ := ne_mem hb.1.1.ne
  exact ha.2 _ h ⟨fun x hx => mem_joinL.mpr (.inl hx), z, mem_joinL.mpr (.inr hz), fun q => ab z q hz⟩
theorem mem_joinF {A B L : List Int} : L ∈ joinF F A B ↔ L ∈ F ∨ L = joinL A B := by
  unfold joinF
  rw [mem_srt, List.mem_append, List.mem_singleton]
theorem len_joinF {A B : List Int} : (joinF F A B).length = F.length + 1 := by
  unfold joinF
  rw [srt_length, List.length_append]
  rfl
theorem fo_join (f : Fo n F) {A B : List Int} (ha : Top n F A) (hb : Top n F B) (ne : A ≠ B) : Fo n (joinF F A B) := by
  have ab := Top.apart f ha hb ne
  have hl : Lt n (joinL A B) := ⟨fun e => by
      obtain ⟨z, hz⟩ := ne_mem ha.1.1.ne
      have := mem_joinL (A := A) (B := B) (x := z)
      rw [e] at this
      exact absurd (this.mpr (.inl hz)) (by simp), fun x hx => by
      rcases mem_joinL.mp hx with h | h
      · exact ha.1.1.rg x h
      · exact hb.1.1.rg x h, up_joinL ha.1.1.up hb.1.1.up ab⟩
  have hlen : 2 ≤ (joinL A B).length := by
    rw [len_joinL]
    have h1 := List.length_pos_iff.mpr ha.1.1.ne
    have h2 := List.length_pos_iff.mpr hb.1.1.ne
    omega
  have nj : ∀ L ∈ F, Sb L (joinL A B) ∨ Ap L (joinL A B) := fun L hL => by
    have go : ∀ {C}, Top n F C → Sb L C ∨ Ap C L := fun {C} hC => by
      rcases f.parts hC.1 (f.pt hL) with h | h | h
      · by_cases e : C = L
        · subst e; exact .inl fun x hx => hx
        · exact absurd (sb_ss hC.1.1.up (f.lot L hL).1.up h e) (hC.2 L hL)
      · exact .inl h
      · exact .inr h
    rcases go ha with h | h
    · exact .inl fun x hx => mem_joinL.mpr (.inl (h x hx))
    · rcases go hb with h' | h'
      · exact .inl fun x hx => mem_joinL.mpr (.inr (h' x hx))
      · right
        intro x hx hx'
        rcases mem_joinL.mp hx' with q | q
        · exact h x q hx
        · exact h' x q hx
  have pt' : ∀ {C}, Pt n F C → Pt n (joinF F A B) C := fun {C} hC => ⟨hC.1, by
    rcases hC.2 with q | q
    · exact .inl q
    · exact .inr (mem_joinF.mpr (.inl q))⟩
  refine ⟨fun L hL => ?_, ?_, fun L hL M hM => ?_, fun L hL => ?_⟩
  · rcases mem_joinF.mp hL with h | rfl
    · exact f.lot L h
    · exact ⟨hl, hlen⟩
  · exact srt_up lin_L (by
      rw [List.nodup_append]
      refine ⟨f.up.nodup, by simp, fun x hx y hy e => ?_⟩
      rw [List.mem_singleton] at hy
      exact joinL_new f ha hb ne (by rw [← hy, ← e]; exact hx))
  · rcases mem_joinF.mp hL with h | rfl <;> rcases mem_joinF.mp hM with h' | rfl
    · exact f.nest L h M h'
    · rcases nj L h with q | q
      · exact .inl q
      · exact .inr (.inr q)
    · rcases nj M h' with q | q
      · exact .inr (.inl q)
      · exact .inr (.inr fun x hx hx' => q x hx' hx)
    · exact .inl fun x hx => hx
  · rcases mem_joinF.mp hL with h | rfl
    · obtain ⟨C, E, h1, h2, h3, h4⟩ := f.two L h
      exact ⟨C, E, pt' h1, pt' h2, h3, h4⟩
    · exact ⟨A, B, pt' ha.1, pt' hb.1, ab, fun x => mem_joinL⟩
end
end Mth

/-! Ex: two parts exchanged. -/
namespace Mth
open DE
def ex (a b L : List Int) : List Int := if wi a L && !wi b L then srt D.int ((L.filter fun x => !decide (x ∈ a)) ++ b) else if wi b L && !wi a L then srt D.int ((L.filter fun x => !decide (x ∈ b)) ++ a) else L
section
variable {n : Int} {F : List (List Int)} {a b : List Int}
theorem mem_rep {a b L : List Int} {x : Int} : x ∈ srt D.int ((L.filter fun x => !decide (x ∈ a)) ++ b) ↔ (x ∈ L ∧ x ∉ a) ∨ x ∈ b := by
  rw [mem_srt, List.mem_append, List.mem_filter]
  simp
theorem up_rep {a b L : List Int} (hL : Up L) (hb : Up b) (h : ∀ x ∈ L, x ∉ a → x ∉ b) : Up (srt D.int ((L.filter fun x => !decide (x ∈ a)) ++ b)) := up_srt (by
  rw [List.nodup_append]
  refine ⟨hL.nodup.filter _, hb.nodup, fun x hx y hy e => ?_⟩
  subst e
  rw [List.mem_filter] at hx
  simp at hx
  exact h x hx.1 hx.2 hy)
theorem ap_symm {a b : List Int} (h : Ap a b) : Ap b a := fun x hx hx' => h x hx' hx
/-- how a join stands to the two parts -/
inductive Ty (a b L : List Int) : Prop
  | both (h1 : Ss a L) (h2 : Ss b L) (e : ex a b L = L) : Ty a b L
  | fst (h1 : Ss a L) (h2 : Ap b L) (nb : ¬ Ss b L) (u : Up (ex a b L)) (e : ∀ x, x ∈ ex a b L ↔ (x ∈ L ∧ x ∉ a) ∨ x ∈ b) : Ty a b L
  | snd (h1 : Ss b L) (h2 : Ap a L) (nb : ¬ Ss a L) (u : Up (ex a b L)) (e : ∀ x, x ∈ ex a b L ↔ (x ∈ L ∧ x ∉ b) ∨ x ∈ a) : Ty a b L
  | none (h : Sb L a ∨ Sb L b ∨ (Ap a L ∧ Ap b L)) (n1 : ¬ Ss a L) (n2 : ¬ Ss b L) (e : ex a b L = L) : Ty a b L
theorem ty (f : Fo n F) (ha : Pt n F a) (hb : Pt n F b) (ab : Ap a b) {L : List Int} (hL : L ∈ F) : Ty a b L := by
  have uL := (f.lot L hL).1.up
  have wa := wi_iff ha.1.up uL
  have wb := wi_iff hb.1.up uL
  obtain ⟨za, hza⟩ := ne_mem ha.1.ne
  obtain ⟨zb, hzb⟩ := ne_mem hb.1.ne
  obtain ⟨zl, hzl⟩ := ne_mem (f.lot L hL).1.ne
  have st : ∀ {c}, Pt n F c → Ss c L ∨ Sb L c ∨ Ap c L := fun {c} hc => by
    rcases f.parts hc (f.pt hL) with h | h | h
    · by_cases e : c = L
      · subst e; exact .inr (.inl fun x hx => hx)
      · exact .inl (sb_ss hc.1.up uL h e)
    · exact .inr (.inl h)
    · exact .inr (.inr h)
  by_cases h1 : Ss a L <;> by_cases h2 : Ss b L
  · refine .both h1 h2 ?_
    unfold ex
    rw [wa.mpr h1, wb.mpr h2]
    rfl
  · have ap : Ap b L := by
      rcases st hb with q | q | q
      · exact absurd q h2
      · exact absurd (q za (h1.1 za hza)) (ab za hza)
      · exact q
    have e : ex a b L = srt D.int ((L.filter fun x => !decide (x ∈ a)) ++ b) := by
      unfold ex
      rw [wa.mpr h1, (wi_false hb.1.up uL).mpr h2]
      rfl
    refine .fst h1 ap h2 ?_ fun x => ?_
    · rw [e]
      exact up_rep uL hb.1.up fun x hx _ hx' => ap x hx' hx
    · rw [e, mem_rep]
  · have ap : Ap a L := by
      rcases st ha with q | q | q
      · exact absurd q h1
      · exact absurd (h2.1 zb hzb) fun w => ab zb (q zb w) hzb
      · exact q
    have e : ex a b L = srt D.int ((L.filter fun x => !decide (x ∈ b)) ++ a) := by
      unfold ex
      rw [(wi_false ha.1.up uL).mpr h1, wb.mpr h2]
      rfl
    refine .snd h2 ap h1 ?_ fun x => ?_
    · rw [e]
      exact up_rep uL ha.1.up fun x hx _ hx' => ap x hx' hx
    · rw [e, mem_rep]
  · refine .none ?_ h1 h2 ?_
    · rcases st ha with q | q | q
      · exact absurd q h1
      · exact .inl q
      · rcases st hb with q' | q' | q'
        · exact absurd q' h2
        · exact .inr (.inl q')
        · exact .inr (.inr ⟨q, q'⟩)
    · unfold ex
      rw [(wi_false ha.1.up uL).mpr h1, (wi_false hb.1.up uL).mpr h2]
      rfl
theorem ty_up (f : Fo n F) {L : List Int} (hL : L ∈ F) (t : Ty a b L) : Up (ex a b L) := by
  cases t with
  | both h1 h2 e => rw [e]; exact (f.lot L hL).1.up
  | fst h1 h2 nb u e => exact u
  | snd h1 h2 nb u e => exact u
  | none h n1 n2 e => rw [e]; exact (f.lot L hL).1.up
/-- parts of the new forest: what becomes of a part -/
theorem ex_pt (f : Fo n F) (ha : Pt n F a) (hb : Pt n F b) (ab : Ap a b) {A : List Int} (hA : Pt n F A) (h1 : A.length = 1) : ¬ Ss a A ∧ ¬ Ss b A := by
  constructor
  · intro q
    have := q.len ha.1.up
    have := List.length_pos_iff.mpr ha.1.ne
    omega
  · intro q
    have := q.len hb.1.up
    have := List.length_pos_iff.mpr hb.1.ne
    omega
theorem ex_fix_a (f : Fo n F) (ha : Pt n F a) (hb : Pt n F b) (ab : Ap a b) : ex a b a = a := by
  have h1 : ¬ Ss a a := fun q => by have := q.len ha.1.up; omega
  have h2 : ¬ Ss b a := fun q => by
    obtain ⟨z, hz⟩ := ne_mem hb.1.ne
    exact ab z (q.1 z hz) hz
  unfold ex
  rw [(wi_false ha.1.up ha.1.up).mpr h1, (wi_false hb.1.up ha.1.up).mpr h2]
  rfl
theorem ex_fix_b (f : Fo n F) (ha : Pt n F a) (hb : Pt n F b) (ab : Ap a b) : ex a b b = b := by
  have h1 : ¬ Ss b b := fun q => by have := q.len hb.1.up; omega
  have h2 : ¬ Ss a b := fun q => by
    obtain ⟨z, hz⟩ := ne_mem ha.1.ne
    exact ab z hz (q.1 z hz)
  unfold ex
  rw [(wi_false ha.1.up hb.1.up).mpr h2, (wi_false hb.1.up hb.1.up).mpr h1]
  rfl
/-- exchanged back -/
theorem ex_ex (f : Fo n F) (ha : Pt n F a) (hb : Pt n F b) (ab : Ap a b) {L : List Int} (hL : L ∈ F) : ex a b (ex a b L) = L := by
  have t := ty f ha hb ab hL
  have uL := (f.lot L hL).1.up
  obtain ⟨za, hza⟩ := ne_mem ha.1.ne
  obtain ⟨zb, hzb⟩ := ne_mem hb.1.ne
  cases t with
  | both h1 h2 e => rw [e, e]
  | none h n1 n2 e => rw [e, e]
  | fst h1 h2 nb u e =>
    have sb : Ss b (ex a b L) := ⟨fun x hx => (e x).mpr (.inr hx), by
      obtain ⟨y, hy, hn⟩ := h1.2
      exact ⟨y, (e y).mpr (.inl ⟨hy, hn⟩), fun q => h2 y q hy⟩⟩
    have na : ¬ Ss a (ex a b L) := fun q => by
      rcases (e za).mp (q.1 za hza) with r | r
      · exact r.2 hza
      · exact ab za hza r
    have e2 : ex a b (ex a b L) = srt D.int (((ex a b L).filter fun x => !decide (x ∈ b)) ++ a) := by
      generalize ex a b L = M at *
      unfold ex
      rw [(wi_false ha.1.up u).mpr na, (wi_iff hb.1.up u).mpr sb]
      rfl
    rw [e2]
    refine up_ext (up_rep u ha.1.up fun x hx hn hx' => ?_) uL fun x => ?_
    · rcases (e x).mp hx with r | r
      · exact r.2 hx'
      · exact hn r
    · rw [mem_rep, e]
      have := h1.1 x
      have := h2 x
      have := ab x
      grind
  | snd h1 h2 nb u e =>
    have sb : Ss a (ex a b L) := ⟨fun x hx => (e x).mpr (.inr hx), by
      obtain ⟨y, hy, hn⟩ := h1.2
      exact ⟨y, (e y).mpr (.inl ⟨hy, hn⟩), fun q => h2 y q hy⟩⟩
    have na : ¬ Ss b (ex a b L) := fun q => by
      rcases (e zb).mp (q.1 zb hzb) with r | r
      · exact r.2 hzb
      · exact ab zb r hzb
    have e2 : ex a b (ex a b L) = srt D.int (((ex a b L).filter fun x => !decide (x ∈ a)) ++ b) := by
      generalize ex a b L = M at *
      unfold ex
      rw [(wi_iff ha.1.up u).mpr sb, (wi_false hb.1.up u).mpr na]
      rfl
    rw [e2]
    refine up_ext (up_rep u hb.1.up fun x hx hn hx' => ?_) uL fun x => ?_
    · rcases (e x).mp hx with r | r
      · exact r.2 hx'
      · exact hn r
    · rw [mem_rep, e]
      have := h1.1 x
      have := h2 x
      have := ab x
      grind
def exF (F : List (List Int)) (a b : List Int) : List (List Int) := srt (enT D.int) (F.map (ex a b))
theorem ex_nodup (f : Fo n F) (ha : Pt n F a) (hb : Pt n F b) (ab : Ap a b) : (F.map (ex a b)).Nodup := by
  rw [List.Nodup, List.pairwise_map]
  refine (List.pairwise_iff_forall_sublist.mpr ?_)
  intro L M h e
  have hL : L ∈ F := h.subset (by simp)
  have hM : M ∈ F := h.subset (by simp)
  have e' := congrArg (ex a b) e
  rw [ex_ex f ha hb ab hL, ex_ex f ha hb ab hM] at e'
  have := f.up.nodup.sublist h
  simp at this
  exact this e'
theorem mem_exF {L : List Int} : L ∈ exF F a b ↔ ∃ M ∈ F, ex a b M = L := by
  unfold exF
  rw [mem_srt, List.mem_map]
theorem len_exF : (exF F a b).length = F.length := by
  unfold exF
  rw [srt_length, List.length_map]
theorem ty_nest (f : Fo n F) (ha : Pt n F a) (hb : Pt n F b) (ab : Ap a b) {L M : List Int} (hL : L ∈ F) (hM : M ∈ F) : Sb (ex a b L) (ex a b M) ∨ Sb (ex a b M) (ex a b L) ∨ Ap (ex a b L) (ex a b M) := by
  obtain ⟨za, hza⟩ := ne_mem ha.1.ne
  obtain ⟨zb, hzb⟩ := ne_mem hb.1.ne
  obtain ⟨zl, hzl⟩ := ne_mem (f.lot L hL).1.ne
  obtain ⟨zm, hzm⟩ := ne_mem (f.lot M hM).1.ne
  -- L within M
  have sub : ∀ {L M}, L ∈ F → M ∈ F → L ≠ [] → Sb L M → Sb (ex a b L) (ex a b M) ∨ Ap (ex a b L) (ex a b M) := by
    intro L M hL hM ne s
    obtain ⟨zl, hzl⟩ := ne_mem ne
    have tL := ty f ha hb ab hL
    have tM := ty f ha hb ab hM
    have mono : ∀ {c}, Ss c L → Ss c M := fun {c} ⟨h1, y, hy, hn⟩ => ⟨fun x hx => s x (h1 x hx), y, s y hy, hn⟩
    cases tL with
    | both h1 h2 e =>
      cases tM with
      | both g1 g2 e' => rw [e, e']; exact .inl s
      | fst g1 g2 nb u e' => exact absurd (mono h2) nb
      | snd g1 g2 nb u e' => exact absurd (mono h1) nb
      | none h n1 n2 e' => exact absurd (mono h1) n1
    | fst h1 h2 nb u e =>
      cases tM with
      | both g1 g2 e' =>
        rw [e']
        left
        intro x hx
        rcases (e x).mp hx with q | q
        · exact s x q.1
        · exact g2.1 x q
      | fst g1 g2 nb' u' e' =>
        left
        intro x hx
        rcases (e x).mp hx with q | q
        · exact (e' x).mpr (.inl ⟨s x q.1, q.2⟩)
        · exact (e' x).mpr (.inr q)
      | snd g1 g2 nb u e' => exact absurd (mono h1) nb
      | none h n1 n2 e' => exact absurd (mono h1) n1
    | snd h1 h2 nb u e =>
      cases tM with
      | both g1 g2 e' =>
        rw [e']
        left
        intro x hx
        rcases (e x).mp hx with q | q
        · exact s x q.1
        · exact g1.1 x q
      | snd g1 g2 nb' u' e' =>
        left
        intro x hx
        rcases (e x).mp hx with q | q
        · exact (e' x).mpr (.inl ⟨s x q.1, q.2⟩)
        · exact (e' x).mpr (.inr q)
      | fst g1 g2 nb u e' => exact absurd (mono h1) nb
      | none h n1 n2 e' => exact absurd (mono h1) n2
    | none h n1 n2 e =>
      rw [e]
      cases tM with
      | both g1 g2 e' => rw [e']; exact .inl s
      | none _ _ _ e' => rw [e']; exact .inl s
      | fst g1 g2 nb' u' e' =>
        rcases h with h | h | h
        · right
          intro x hx hx'
          rcases (e' x).mp hx' with q | q
          · exact q.2 (h x hx)
          · exact ab x (h x hx) q
        · exact absurd (s zl hzl) (g2 zl (h zl hzl))
        · left
          intro x hx
          exact (e' x).mpr (.inl ⟨s x hx, fun q => h.1 x q hx⟩)
      | snd g1 g2 nb' u' e' =>
        rcases h with h | h | h
        · exact absurd (s zl hzl) (g2 zl (h zl hzl))
        · right
          intro x hx hx'
          rcases (e' x).mp hx' with q | q
          · exact q.2 (h x hx)
          · exact ab x q (h x hx)
        · left
          intro x hx
          exact (e' x).mpr (.inl ⟨s x hx, fun q => h.2 x q hx⟩)
  rcases f.nest L hL M hM with s | s | s
  · rcases sub hL hM (f.lot L hL).1.ne s with q | q
    · exact .inl q
    · exact .inr (.inr q)
  · rcases sub hM hL (f.lot M hM).1.ne s with q | q
    · exact .inr (.inl q)
    · exact .inr (.inr (ap_symm q))
  · -- apart
    have tL := ty f ha hb ab hL
    have tM := ty f ha hb ab hM
    cases tL with
    | both h1 h2 e =>
      rw [e]
      cases tM with
      | both g1 g2 e' => rw [e']; exact .inr (.inr s)
      | none _ _ _ e' => rw [e']; exact .inr (.inr s)
      | fst g1 g2 nb u e' => exact absurd (g1.1 za hza) (s za (h1.1 za hza))
      | snd g1 g2 nb u e' => exact absurd (g1.1 zb hzb) (s zb (h2.1 zb hzb))
    | fst h1 h2 nb u e =>
      cases tM with
      | both g1 g2 e' => exact absurd (g1.1 za hza) (s za (h1.1 za hza))
      | fst g1 g2 nb u e' => exact absurd (g1.1 za hza) (s za (h1.1 za hza))
      | snd g1 g2 nb u e' =>
        right; right
        intro x hx hx'
        have := h1.1 x; have := g1.1 x; have := ab x; have := s x; have := h2 x; have := g2 x
        rw [e] at hx; rw [e'] at hx'
        grind
      | none h n1 n2 e' =>
        rw [e']
        rcases h with h | h | h
        · exact absurd hzm (s zm (h1.1 zm (h zm hzm)))
        · right; left
          intro x hx
          exact (e x).mpr (.inr (h x hx))
        · right; right
          intro x hx hx'
          rcases (e x).mp hx with q | q
          · exact s x q.1 hx'
          · exact h.2 x q hx'
    | snd h1 h2 nb u e =>
      cases tM with
      | both g1 g2 e' => exact absurd (g2.1 zb hzb) (s zb (h1.1 zb hzb))
      | snd g1 g2 nb u e' => exact absurd (g1.1 zb hzb) (s zb (h1.1 zb hzb))
      | fst g1 g2 nb u e' =>
        right; right
        intro x hx hx'
        have := h1.1 x; have := g1.1 x; have := ab x; have := s x; have := h2 x; have := g2 x
        rw [e] at hx; rw [e'] at hx'
        grind
      | none h n1 n2 e' =>
        rw [e']
        rcases h with h | h | h
        · right; left
          intro x hx
          exact (e x).mpr (.inr (h x hx))
        · exact absurd hzm (s zm (h1.1 zm (h zm hzm)))
        · right; right
          intro x hx hx'
          rcases (e x).mp hx with q | q
          · exact s x q.1 hx'
          · exact h.1 x q hx'
    | none h n1 n2 e =>
      rw [e]
      cases tM with
      | both g1 g2 e' => rw [e']; exact .inr (.inr s)
      | none _ _ _ e' => rw [e']; exact .inr (.inr s)
      | fst g1 g2 nb u e' =>
        rcases h with h | h | h
        · exact absurd (g1.1 zl (h zl hzl)) (s zl hzl)
        · left
          intro x hx
          exact (e' x).mpr (.inr (h x hx))
        · right; right
          intro x hx hx'
          rcases (e' x).mp hx' with q | q
          · exact s x hx q.1
          · exact h.2 x q hx
      | snd g1 g2 nb u e' =>
        rcases h with h | h | h
        · left
          intro x hx
          exact (e' x).mpr (.inr (h x hx))
        · exact absurd (g1.1 zl (h zl hzl)) (s zl hzl)
        · right; right
          intro x hx hx'
          rcases (e' x).mp hx' with q | q
          · exact s x hx q.1
          · exact h.1 x q hx
/-- what becomes of a part of a join -/
def sg (a b A : List Int) : List Int := if A = a then b else if A = b then a else ex a b A
theorem sg_pt (f : Fo n F) (ha : Pt n F a) (hb : Pt n F b) (ab : Ap a b) (lt' : ∀ L ∈ F, Lt n (ex a b L)) {A : List Int} (hA : Pt n F A) : Pt n (exF F a b) (sg a b A) := by
  unfold sg
  split
  · refine ⟨hb.1, ?_⟩
    rcases hb.2 with q | q
    · exact .inl q
    · exact .inr (mem_exF.mpr ⟨b, q, ex_fix_b f ha hb ab⟩)
  · split
    · refine ⟨ha.1, ?_⟩
      rcases ha.2 with q | q
      · exact .inl q
      · exact .inr (mem_exF.mpr ⟨a, q, ex_fix_a f ha hb ab⟩)
    · rcases hA.2 with q | q
      · have ⟨n1, n2⟩ := ex_pt f ha hb ab hA q
        have e : ex a b A = A := by
          unfold ex
          rw [(wi_false ha.1.up hA.1.up).mpr n1, (wi_false hb.1.up hA.1.up).mpr n2]
          rfl
        rw [e]
        exact ⟨hA.1, .inl q⟩
      · exact ⟨lt' A q, .inr (mem_exF.mpr ⟨A, q, rfl⟩)⟩
theorem ex_lt (f : Fo n F) (ha : Pt n F a) (hb : Pt n F b) (ab : Ap a b) {L : List Int} (hL : L ∈ F) : Lt n (ex a b L) ∧ 2 ≤ (ex a b L).length := by
  have t := ty f ha hb ab hL
  have hl := f.lot L hL
  have big : ∀ {c : List Int} {y : Int}, Pt n F c → Up (ex a b L) → (∀ x ∈ c, x ∈ ex a b L) → y ∈ ex a b L → y ∉ c → 2 ≤ (ex a b L).length := fun {c y} hc u h1 h2 h3 => by
    have := sub_lt hc.1.up.nodup h1 h2 h3
    have := List.length_pos_iff.mpr hc.1.ne
    omega
  cases t with
  | both h1 h2 e => rw [e]; exact hl
  | none h n1 n2 e => rw [e]; exact hl
  | fst h1 h2 nb u e =>
    obtain ⟨y, hy, hn⟩ := h1.2
    refine ⟨⟨fun q => ?_, fun x hx => ?_, u⟩, big hb u (fun x hx => (e x).mpr (.inr hx)) ((e y).mpr (.inl ⟨hy, hn⟩)) fun q => h2 y q hy⟩
    · have := (e y).mpr (.inl ⟨hy, hn⟩)
      rw [q] at this
      cases this
    · rcases (e x).mp hx with q | q
      · exact hl.1.rg x q.1
      · exact hb.1.rg x q
  | snd h1 h2 nb u e =>
    obtain ⟨y, hy, hn⟩ := h1.2
    refine ⟨⟨fun q => ?_, fun x hx => ?_, u⟩, big ha u (fun x hx => (e x).mpr (.inr hx)) ((e y).mpr (.inl ⟨hy, hn⟩)) fun q => h2 y q hy⟩
    · have := (e y).mpr (.inl ⟨hy, hn⟩)
      rw [q] at this
      cases this
    · rcases (e x).mp hx with q | q
      · exact hl.1.rg x q.1
      · exact ha.1.rg x q
theorem ex_two (f : Fo n F) (ha : Pt n F a) (hb : Pt n F b) (ab : Ap a b) {L A B : List Int} (hL : L ∈ F) (hA : Pt n F A) (hB : Pt n F B) (AB : Ap A B) (u : ∀ x, x ∈ L ↔ x ∈ A ∨ x ∈ B) :
    Ap (sg a b A) (sg a b B) ∧ ∀ x, x ∈ ex a b L ↔ x ∈ sg a b A ∨ x ∈ sg a b B := by
  obtain ⟨za, hza⟩ := ne_mem ha.1.ne
  obtain ⟨zb, hzb⟩ := ne_mem hb.1.ne
  obtain ⟨zA, hzA⟩ := ne_mem hA.1.ne
  obtain ⟨zB, hzB⟩ := ne_mem hB.1.ne
  -- a part C of L that is apart from a and b stays; one with a in it has b for it, and so on
  have stay : ∀ {C}, Pt n F C → ¬ Ss a C → ¬ Ss b C → C ≠ a → C ≠ b → sg a b C = C := fun {C} hC n1 n2 e1 e2 => by
    unfold sg ex
    rw [if_neg e1, if_neg e2, (wi_false ha.1.up hC.1.up).mpr n1, (wi_false hb.1.up hC.1.up).mpr n2]
    rfl
  have both : ∀ {C}, Pt n F C → Sb a C → Sb b C → sg a b C = C := fun {C} hC s1 s2 => by
    have e1 : C ≠ a := fun e => by subst e; exact ab zb (s2 zb hzb) hzb
    have e2 : C ≠ b := fun e => by subst e; exact ab za hza (s1 za hza)
    have h1 := sb_ss ha.1.up hC.1.up s1 (Ne.symm e1)
    have h2 := sb_ss hb.1.up hC.1.up s2 (Ne.symm e2)
    unfold sg ex
    rw [if_neg e1, if_neg e2, (wi_iff ha.1.up hC.1.up).mpr h1, (wi_iff hb.1.up hC.1.up).mpr h2]
    rfl
  have onlyA : ∀ {C}, Pt n F C → Sb a C → Ap b C → ∀ x, x ∈ sg a b C ↔ (x ∈ C ∧ x ∉ a) ∨ x ∈ b := fun {C} hC s1 s2 x => by
    unfold sg
    by_cases e : C = a
    · rw [if_pos e]; subst e; simp
    · have e2 : C ≠ b := fun e => by subst e; exact s2 zb hzb hzb
      have h1 := sb_ss ha.1.up hC.1.up s1 (Ne.symm e)
      have h2 : ¬ Ss b C := fun q => s2 zb hzb (q.1 zb hzb)
      rw [if_neg e, if_neg e2]
      unfold ex
      rw [(wi_iff ha.1.up hC.1.up).mpr h1, (wi_false hb.1.up hC.1.up).mpr h2]
      exact mem_rep
  have onlyB : ∀ {C}, Pt n F C → Sb b C → Ap a C → ∀ x, x ∈ sg a b C ↔ (x ∈ C ∧ x ∉ b) ∨ x ∈ a := fun {C} hC s1 s2 x => by
    unfold sg
    have e1 : C ≠ a := fun e => by subst e; exact s2 za hza hza
    by_cases e : C = b
    · rw [if_neg e1, if_pos e]; subst e; simp
    · have h1 := sb_ss hb.1.up hC.1.up s1 (Ne.symm e)
      have h2 : ¬ Ss a C := fun q => s2 za hza (q.1 za hza)
      rw [if_neg e1, if_neg e]
      unfold ex
      rw [(wi_false ha.1.up hC.1.up).mpr h2, (wi_iff hb.1.up hC.1.up).mpr h1]
      exact mem_rep
  have out : ∀ {C}, Pt n F C → Ap a C → Ap b C → sg a b C = C := fun {C} hC s1 s2 =>
    stay hC (fun q => s1 za hza (q.1 za hza)) (fun q => s2 zb hzb (q.1 zb hzb)) (fun e => by subst e; exact s1 za hza hza) (fun e => by subst e; exact s2 zb hzb hzb)
  -- a part within L lies in A or in B
  have split : ∀ {c}, Pt n F c → Ss c L → (Sb c A ∧ Ap c B) ∨ (Sb c B ∧ Ap c A) := fun {c} hc s => by
    obtain ⟨z, hz⟩ := ne_mem hc.1.ne
    obtain ⟨s1, y, hy, hn⟩ := s
    rcases f.parts hc hA with q | q | q
    · exact .inl ⟨q, fun x hx hx' => AB x (q x hx) hx'⟩
    · rcases f.parts hc hB with r | r | r
      · exact .inr ⟨r, fun x hx hx' => AB x hx' (r x hx)⟩
      · exact absurd ((u y).mp hy) (by unfold Sb at *; grind)
      · left
        refine ⟨fun x hx => ?_, r⟩
        rcases (u x).mp (s1 x hx) with w | w
        · exact w
        · exact absurd w (r x hx)
    · right
      refine ⟨fun x hx => ?_, q⟩
      rcases (u x).mp (s1 x hx) with w | w
      · exact absurd w (q x hx)
      · exact w
  have tL := ty f ha hb ab hL
  have hL' := f.lot L hL
  cases tL with
  | both h1 h2 e =>
    rw [e]
    rcases split ha h1 with ⟨p1, p2⟩ | ⟨p1, p2⟩ <;> rcases split hb h2 with ⟨q1, q2⟩ | ⟨q1, q2⟩
    · rw [both hA p1 q1, out hB p2 q2]
      exact ⟨AB, u⟩
    · have m1 := onlyA hA p1 q2
      have m2 := onlyB hB q1 p2
      refine ⟨fun x hx hx' => ?_, fun x => ?_⟩
      · rw [m1] at hx; rw [m2] at hx'
        have := p1 x; have := q1 x; have := AB x; have := ab x
        grind
      · rw [m1, m2, u]
        have := p1 x; have := q1 x; have := AB x; have := ab x
        grind
    · have m1 := onlyB hA q1 p2
      have m2 := onlyA hB p1 q2
      refine ⟨fun x hx hx' => ?_, fun x => ?_⟩
      · rw [m1] at hx; rw [m2] at hx'
        have := p1 x; have := q1 x; have := AB x; have := ab x
        grind
      · rw [m1, m2, u]
        have := p1 x; have := q1 x; have := AB x; have := ab x
        grind
    · rw [both hB p1 q1, out hA p2 q2]
      exact ⟨AB, u⟩
  | fst h1 h2 nb uu e =>
    have bA : Ap b A := fun x hx hx' => h2 x hx ((u x).mpr (.inl hx'))
    have bB : Ap b B := fun x hx hx' => h2 x hx ((u x).mpr (.inr hx'))
    rcases split ha h1 with ⟨p1, p2⟩ | ⟨p1, p2⟩
    · rw [out hB p2 bB]
      have m1 := onlyA hA p1 bA
      refine ⟨fun x hx hx' => ?_, fun x => ?_⟩
      · rcases (m1 x).mp hx with q | q
        · exact AB x q.1 hx'
        · exact bB x q hx'
      · rw [m1, e, u]
        have := p1 x; have := p2 x
        grind
    · rw [out hA p2 bA]
      have m1 := onlyA hB p1 bB
      refine ⟨fun x hx hx' => ?_, fun x => ?_⟩
      · rcases (m1 x).mp hx' with q | q
        · exact AB x hx q.1
        · exact bA x q hx
      · rw [m1, e, u]
        have := p1 x; have := p2 x
        grind
  | snd h1 h2 nb uu e =>
    have bA : Ap a A := fun x hx hx' => h2 x hx ((u x).mpr (.inl hx'))
    have bB : Ap a B := fun x hx hx' => h2 x hx ((u x).mpr (.inr hx'))
    rcases split hb h1 with ⟨p1, p2⟩ | ⟨p1, p2⟩
    · rw [out hB bB p2]
      have m1 := onlyB hA p1 bA
      refine ⟨fun x hx hx' => ?_, fun x => ?_⟩
      · rcases (m1 x).mp hx with q | q
        · exact AB x q.1 hx'
        · exact bB x q hx'
      · rw [m1, e, u]
        have := p1 x; have := p2 x
        grind
    · rw [out hA bA p2]
      have m1 := onlyB hB p1 bB
      refine ⟨fun x hx hx' => ?_, fun x => ?_⟩
      · rcases (m1 x).mp hx' with q | q
        · exact AB x hx q.1
        · exact bA x q hx
      · rw [m1, e, u]
        have := p1 x; have := p2 x
        grind
  | none h n1 n2 e =>
    rw [e]
    have nss : ∀ {C}, Pt n F C → (∀ x ∈ C, x ∈ L) → (∃ y ∈ L, y ∉ C) → ¬ Ss a C ∧ ¬ Ss b C ∧ C ≠ a ∧ C ≠ b := fun {C} hC s hy => by
      refine ⟨fun q => n1 ?_, fun q => n2 ?_, fun q => n1 ?_, fun q => n2 ?_⟩
      · obtain ⟨q1, y, q2, q3⟩ := q
        exact ⟨fun x hx => s x (q1 x hx), y, s y q2, q3⟩
      · obtain ⟨q1, y, q2, q3⟩ := q
        exact ⟨fun x hx => s x (q1 x hx), y, s y q2, q3⟩
      · subst q; exact ⟨s, hy⟩
      · subst q; exact ⟨s, hy⟩
    obtain ⟨a1, a2, a3, a4⟩ := nss hA (fun x hx => (u x).mpr (.inl hx)) ⟨zB, (u zB).mpr (.inr hzB), fun q => AB zB q hzB⟩
    obtain ⟨b1, b2, b3, b4⟩ := nss hB (fun x hx => (u x).mpr (.inr hx)) ⟨zA, (u zA).mpr (.inl hzA), fun q => AB zA hzA q⟩
    rw [stay hA a1 a2 a3 a4, stay hB b1 b2 b3 b4]
    exact ⟨AB, u⟩
/-- two parts exchanged: a forest again -/
theorem fo_ex (f : Fo n F) (ha : Pt n F a) (hb : Pt n F b) (ab : Ap a b) : Fo n (exF F a b) := by
  refine ⟨fun L hL => ?_, srt_up lin_L (ex_nodup f ha hb ab), fun L hL M hM => ?_, fun L hL => ?_⟩
  · obtain ⟨M, hM, rfl⟩ := mem_exF.mp hL
    exact ex_lt f ha hb ab hM
  · obtain ⟨L', hL', e1⟩ := mem_exF.mp hL
    obtain ⟨M', hM', e2⟩ := mem_exF.mp hM
    rw [← e1, ← e2]
    exact ty_nest f ha hb ab hL' hM'
  · obtain ⟨M, hM, rfl⟩ := mem_exF.mp hL
    obtain ⟨A, B, h1, h2, h3, h4⟩ := f.two M hM
    have lt' : ∀ L ∈ F, Lt n (ex a b L) := fun L hL => (ex_lt f ha hb ab hL).1
    obtain ⟨q1, q2⟩ := ex_two f ha hb ab hM h1 h2 h3 h4
    exact ⟨_, _, sg_pt f ha hb ab lt' h1, sg_pt f ha hb ab lt' h2, q1, q2⟩
theorem pt_ex_a (f : Fo n F) (ha : Pt n F a) (hb : Pt n F b) (ab : Ap a b) : Pt n (exF F a b) a := ⟨ha.1, by
  rcases ha.2 with q | q
  · exact .inl q
  · exact .inr (mem_exF.mpr ⟨a, q, ex_fix_a f ha hb ab⟩)⟩
theorem pt_ex_b (f : Fo n F) (ha : Pt n F a) (hb : Pt n F b) (ab : Ap a b) : Pt n (exF F a b) b := ⟨hb.1, by
  rcases hb.2 with q | q
  · exact .inl q
  · exact .inr (mem_exF.mpr ⟨b, q, ex_fix_b f ha hb ab⟩)⟩
theorem exF_exF (f : Fo n F) (ha : Pt n F a) (hb : Pt n F b) (ab : Ap a b) : exF (exF F a b) a b = F := by
  have f' := fo_ex f ha hb ab
  refine srt_eq lin_L (ex_nodup f' (pt_ex_a f ha hb ab) (pt_ex_b f ha hb ab) ab) f.up fun L => ?_
  simp only [List.mem_map, mem_exF]
  constructor
  · rintro ⟨_, ⟨M, hM, rfl⟩, rfl⟩
    rw [ex_ex f ha hb ab hM]
    exact hM
  · intro h
    exact ⟨_, ⟨L, h, rfl⟩, ex_ex f ha hb ab h⟩
theorem ex_comm (f : Fo n F) (ha : Pt n F a) (hb : Pt n F b) (ab : Ap a b) {L : List Int} (hL : L ∈ F) : ex b a L = ex a b L := by
  have t := ty f ha hb ab hL
  have uL := (f.lot L hL).1.up
  unfold ex
  cases h1 : wi a L <;> cases h2 : wi b L <;> rfl
/-! sums -/
def wt (h : List Int) (L : List Int) : Int := (L.map fun i => h.getD i.toNat default).sum
theorem perm_sum {L M : List Int} (p : L.Perm M) : L.sum = M.sum := by
  induction p with
  | nil => rfl
  | cons x _ ih => simp only [List.sum_cons, ih]
  | swap x y l => simp only [List.sum_cons]; omega
  | trans _ _ h1 h2 => exact h1.trans h2
theorem wt_perm {h L M : List Int} (p : L.Perm M) : wt h L = wt h M := perm_sum (p.map _)
theorem wt_append (h L M : List Int) : wt h (L ++ M) = wt h L + wt h M := by
  unfold wt
  rw [List.map_append, List.sum_append]
theorem wt_filter (h L : List Int) (p : Int → Bool) : wt h L = wt h (L.filter p) + wt h (L.filter fun x => !p x) := by
  unfold wt
  induction L with
  | nil => rfl
  | cons x L ih =>
    simp only [List.map_cons, List.sum_cons, List.filter_cons]
    cases p x <;> simp only [Bool.not_true, Bool.not_false, if_true, Bool.false_eq_true, if_false, List.map_cons, List.sum_cons] <;> omega
theorem wt_rep (h : List Int) {a b L : List Int} (hL : Up L) (ha : Up a) (s : ∀ x ∈ a, x ∈ L) : wt h (srt D.int ((L.filter fun x => !decide (x ∈ a)) ++ b)) = wt h L - wt h a + wt h b := by
  rw [wt_perm (srt_perm _), wt_append, wt_filter h L fun x => decide (x ∈ a)]
  have e : L.filter (fun x => decide (x ∈ a)) = a := up_ext (hL.filter _) ha fun x => by
    rw [List.mem_filter]
    simp
    exact s x
  rw [e]
  omega
def dp (F : List (List Int)) (p : List Int) : Int := ((F.filter fun L => wi p L).length : Int)
theorem sum_ex (f : Fo n F) (ha : Pt n F a) (hb : Pt n F b) (ab : Ap a b) (h : List Int) : ∀ G, (∀ L ∈ G, L ∈ F) → (G.map (wt h)).sum - (G.map fun L => wt h (ex a b L)).sum = (wt h b - wt h a) * (dp G b - dp G a)
  | [], _ => by simp [dp]
  | L :: G, s => by
    have ih := sum_ex f ha hb ab h G fun M hM => s M (List.mem_cons_of_mem _ hM)
    have hL := s L (List.mem_cons_self ..)
    have uL := (f.lot L hL).1.up
    have t := ty f ha hb ab hL
    have one : wt h L - wt h (ex a b L) = (wt h b - wt h a) * ((if wi b L then 1 else 0) - (if wi a L then 1 else 0)) := by
      cases t with
      | both h1 h2 e => rw [e, (wi_iff ha.1.up uL).mpr h1, (wi_iff hb.1.up uL).mpr h2]; simp
      | none q n1 n2 e => rw [e, (wi_false ha.1.up uL).mpr n1, (wi_false hb.1.up uL).mpr n2]; simp
      | fst h1 h2 nb u e =>
        rw [(wi_iff ha.1.up uL).mpr h1, (wi_false hb.1.up uL).mpr nb]
        have e2 : ex a b L = srt D.int ((L.filter fun x => !decide (x ∈ a)) ++ b) := by
          unfold ex
          rw [(wi_iff ha.1.up uL).mpr h1, (wi_false hb.1.up uL).mpr nb]
          rfl
        rw [e2, wt_rep h uL ha.1.up h1.1]
        simp
        omega
      | snd h1 h2 nb u e =>
        rw [(wi_iff hb.1.up uL).mpr h1, (wi_false ha.1.up uL).mpr nb]
        have e2 : ex a b L = srt D.int ((L.filter fun x => !decide (x ∈ b)) ++ a) := by
          unfold ex
          rw [(wi_iff hb.1.up uL).mpr h1, (wi_false ha.1.up uL).mpr nb]
          rfl
        rw [e2, wt_rep h uL hb.1.up h1.1]
        simp
        omega
    have d1 : ∀ p, dp (L :: G) p = (if wi p L then 1 else 0) + dp G p := fun p => by
      unfold dp
      rw [List.filter_cons]
      cases wi p L <;> simp
      omega
    rw [d1, d1, List.map_cons, List.map_cons, List.sum_cons, List.sum_cons]
    have : (wt h b - wt h a) * ((if wi b L then 1 else 0) + dp G b - ((if wi a L then 1 else 0) + dp G a)) = (wt h b - wt h a) * ((if wi b L then 1 else 0) - (if wi a L then 1 else 0)) + (wt h b - wt h a) * (dp G b - dp G a) := by
      rw [← Int.mul_add]
      congr 1
      omega
    rw [this, ← one, ← ih]
    omega
end
end Mth

/-! Wt: what joins weigh together, by the depths of the heaps. -/
namespace Mth
open DE PySem
theorem sum_ite (p : Int → Bool) (g : Int → Int) : ∀ l : List Int, ((l.filter p).map g).sum = (l.map fun i => if p i then g i else 0).sum
  | [] => rfl
  | x :: l => by
    rw [List.filter_cons, List.map_cons, List.sum_cons, ← sum_ite p g l]
    cases p x <;> simp
theorem up_rangeI (n : Nat) : Up (rangeI 0 n) := by
  unfold rangeI Up
  rw [List.pairwise_map]
  refine List.pairwise_lt_range.imp fun {a b} h => ?_
  omega
theorem wt_ite {h : List Int} {n : Nat} {L : List Int} (l : Lt n L) : wt h L = ((rangeI 0 n).map fun i => if decide (i ∈ L) then h.getD i.toNat default else 0).sum := by
  rw [← sum_ite]
  unfold wt
  have e : (rangeI 0 n).filter (fun i => decide (i ∈ L)) = L := up_ext ((up_rangeI n).filter _) l.up fun x => by
    rw [List.mem_filter, mem_rangeI]
    simp only [decide_eq_true_eq]
    exact ⟨fun q => q.2, fun q => ⟨l.rg x q, q⟩⟩
  rw [e]
/-- the joins' weights together: each heap's weight as often as its depth -/
theorem sum_dp {h : List Int} {n : Nat} : ∀ {F : List (List Int)}, (∀ L ∈ F, Lt n L ∧ 2 ≤ L.length) → (F.map (wt h)).sum = ((rangeI 0 n).map fun i => h.getD i.toNat default * dp F [i]).sum
  | [], _ => by
    have z : ∀ l : List Int, (l.map fun i => h.getD i.toNat default * dp [] [i]).sum = 0 := fun l => by
      induction l with
      | nil => rfl
      | cons a l ih => rw [List.map_cons, List.sum_cons, ih]; simp [dp]
    rw [z]; rfl
  | L :: F, q => by
    obtain ⟨l, h2⟩ := q L List.mem_cons_self
    rw [List.map_cons, List.sum_cons, sum_dp fun M hM => q M (List.mem_cons_of_mem _ hM), wt_ite l]
    have add : ∀ (xs : List Int) (f g : Int → Int), (xs.map f).sum + (xs.map g).sum = (xs.map fun i => f i + g i).sum := fun xs f g => by
      induction xs with
      | nil => rfl
      | cons a xs ih => simp only [List.map_cons, List.sum_cons]; rw [← ih]; omega
    rw [add]
    congr 1
    refine List.map_congr_left fun i _ => ?_
    unfold dp
    rw [List.filter_cons]
    have e : wi [i] L = decide (i ∈ L) := by
      unfold wi
      simp
      omega
    rw [e]
    by_cases hi : i ∈ L
    · simp only [hi, decide_true, if_true, List.length_cons]
      rw [Int.natCast_succ, Int.mul_add, Int.mul_one]
      omega
    · simp only [hi, decide_false]
      simp
end Mth

namespace Tm
open DE PySem Mth
/-! FoMir: the mirrors in the words of forests. -/
theorem foldl_app {α β : Type} {f : List β → α → List β} {g : α → β} (h : ∀ v x, f v x = v ++ [g x]) : ∀ (xs : List α) (v : List β), xs.foldl f v = v ++ xs.map g
  | [], v => by simp
  | x :: xs, v => by rw [List.foldl_cons, h, foldl_app h xs]; simp
theorem foldl_flt {α : Type} {f : List α → α → List α} {q : α → Bool} (h : ∀ v x, f v x = if q x then v ++ [x] else v) : ∀ (xs : List α) (v : List α), xs.foldl f v = v ++ xs.filter q
  | [], v => by simp
  | x :: xs, v => by
    rw [List.foldl_cons, h, foldl_flt h xs, List.filter_cons]
    cases q x <;> simp
theorem no_ones {α : Type} (a : List α) (p : α → Bool) : decide (((a.filter p).map fun _ => (1 : Int)) = []) = a.all fun x => !p x := by
  induction a with
  | nil => rfl
  | cons x a ih =>
    rw [List.filter_cons, List.all_cons]
    cases p x with
    | true => simp
    | false => simpa using ih
def apb (a b : List Int) : Bool := a.all fun x => !decide (x ∈ b)
theorem apb_iff {a b : List Int} : apb a b = true ↔ Ap a b := by
  unfold apb Ap
  simp
theorem all_id {α : Type} (xs : List α) (p : α → Bool) : (xs.map p).all id = xs.all p := by rw [List.all_map]; rfl
theorem any_id {α : Type} (xs : List α) (p : α → Bool) : (xs.map p).any id = xs.any p := by rw [List.any_map]; rfl
theorem int_lt (a b : Nat) : decide ((a : Int) < (b : Int)) = decide (a < b) := by
  by_cases h : a < b
  · rw [decide_eq_true h, decide_eq_true (by omega)]
  · rw [decide_eq_false h, decide_eq_false (by omega)]
theorem loopRn {α δ : Type} {f : Unit → α → δ ⊕ Unit} : ∀ {xs : List α}, (∀ x ∈ xs, f () x = .inr ()) → loopR f xs () = .inr ()
  | [], _ => rfl
  | x :: xs, h => by
    rw [loopR, h x (List.mem_cons_self ..)]
    exact loopRn fun y hy => h y (List.mem_cons_of_mem _ hy)
theorem within_eq (a b : List Int) : m_is_within a b = wi a b := by
  unfold m_is_within wi
  rw [all_id, int_lt]
theorem inside_eq (a b : List Int) : m_inside a b = wi a b := by
  unfold m_inside wi
  rw [no_ones, int_lt]
  simp
theorem are_apart_eq (a b : List Int) : m_are_apart a b = apb a b := by
  unfold m_are_apart apb
  rw [any_id, List.not_any_eq_all_not]
theorem apart_eq (a b : List Int) : m_apart a b = apb a b := by
  unfold m_apart apb
  rw [no_ones]
theorem depth_eq (F : List (List Int)) (p : List Int) : m_depth F p = dp F p := by
  unfold m_depth dp
  simp only [inside_eq]
theorem parts_in_eq (F : List (List Int)) (L : List Int) : m_parts_in F L = srt (enT D.int) (found F L ++ lone F L) := by
  have e1 : m_parts_in_inner F L = inner F L := by
    unfold m_parts_in_inner inner
    simp only [within_eq]
  have e2 : m_parts_in_found F L = found F L := by
    unfold m_parts_in_found found
    simp only [within_eq, e1, any_id]
  have e3 : m_parts_in_known F L = (found F L).flatten := by
    unfold m_parts_in_known
    rw [e2]
    simp only [List.map_id']
    exact List.flatMap_id' ..
  unfold m_parts_in lone
  rw [e2, e3]
theorem exchanged_in_eq (F : List (List Int)) (a b : List Int) : m_exchanged_in F a b = exF F a b := by
  unfold m_exchanged_in exF m_exchanged_in_L1_out m_exchanged_in_found
  rw [foldl_app (g := ex a b) fun v L => by
    unfold m_exchanged_in_L1 m_exchanged_in_has_one m_exchanged_in_has_other ex m_replaced
    simp only [within_eq]
    split
    · rfl
    · split <;> rfl]
  rfl
theorem changed_eq (F : List (List Int)) (a b : List Int) : m_changed F a b = exF F a b := by
  unfold m_changed exF m_changed_L1_out m_changed_got
  rw [foldl_app (g := ex a b) fun v L => by
    unfold m_changed_L1 m_changed_got2 m_changed_out_into ex
    simp only [inside_eq]
    cases wi a L <;> cases wi b L <;> simp]
  rfl
theorem between_eq (x a b : Int) : m_is_between x a b = (decide (a ≤ x) && decide (x ≤ b)) := by
  unfold m_is_between m_is_integer
  simp
theorem risingI_eq (L : List Int) : m_are_risingI L = true ↔ Up L := by
  unfold m_are_risingI
  exact zip_pw (fun a b c h1 h2 => by omega) L
theorem rising_eq (F : List (List Int)) : m_are_rising F = true ↔ UpL F := by
  unfold m_are_rising
  have := zip_pw (R := fun a b : List Int => ltL a b = true) (fun a b c h1 h2 => lin_L.tr _ _ _ h1 h2) F
  rw [show (fun p1 : List Int × List Int => Ord.lt (enT D.int) p1.1 p1.2) = fun p => decide (ltL p.1 p.2 = true) from by funext p; simp]
  exact this
theorem is_lot_eq (h L : List Int) : m_is_lot h L = true ↔ Lt h.length L := by
  unfold m_is_lot
  simp only [Bool.not_true, Bool.false_or, decide_eq_true_eq, all_id, between_eq]
  constructor
  · intro q
    split at q
    · cases q
    · rename_i ne
      simp only [Bool.and_eq_true, List.all_eq_true, decide_eq_true_eq, risingI_eq] at q
      exact ⟨ne, fun x hx => by have := q.1 x hx; omega, q.2⟩
  · intro q
    rw [if_neg q.ne]
    simp only [Bool.and_eq_true, List.all_eq_true, decide_eq_true_eq, risingI_eq]
    exact ⟨fun x hx => by have := q.rg x hx; omega, q.up⟩
theorem is_heaps_hs {h : List Int} (q : Hs 8 h) : m_is_heaps h = true := by
  unfold m_is_heaps
  have h1 := q.l1
  have h2 := q.l2
  simp only [between_eq, all_id]
  rw [if_neg (by simp; omega)]
  simp only [List.all_eq_true, Bool.and_eq_true, decide_eq_true_eq]
  exact q.w
theorem loopR_none {α δ : Type} {f : Unit → α → δ ⊕ Unit} : ∀ {xs : List α}, (∀ x ∈ xs, f () x = .inr ()) → loopR f xs () = .inr ()
  | [], _ => rfl
  | x :: xs, h => by
    rw [loopR, h x (List.mem_cons_self ..)]
    exact loopR_none fun y hy => h y (List.mem_cons_of_mem _ hy)
theorem is_forest_fo {h : List Int} {F : List (List Int)} (f : Fo h.length F) : m_is_forest h F = true := by
  unfold m_is_forest
  have e1 : (F.map fun lot => (m_is_lot h lot && decide ((1 : Int) < (lot.length : Int)))).all id = true := by
    rw [all_id]
    simp only [List.all_eq_true, Bool.and_eq_true, decide_eq_true_eq, is_lot_eq]
    exact fun L hL => ⟨(f.lot L hL).1, by have := (f.lot L hL).2; omega⟩
  have e2 : m_are_rising F = true := (rising_eq F).mpr f.up
  have e3 : m_is_forest_R1 F = .inr () := by
    unfold m_is_forest_R1
    refine loopR_none fun p hp => ?_
    unfold m_is_forest_L1 m_is_forest_R3
    obtain ⟨i, q1, q2⟩ := mem_enumI hp
    rw [loopR_none fun M hM => ?_]
    · rfl
    · unfold m_is_forest_L3
      have h1 : p.2 ∈ F := enumI_snd hp
      have e : cut F (some (p.1 + 1)) none = F.drop (i + 1) := by
        rw [q1, show ((0 : Nat) : Int) + (i : Int) + 1 = ((i + 1 : Nat) : Int) by omega, cut_drop]
      rw [e] at hM
      have h2 : M ∈ F := List.mem_of_mem_drop hM
      have ne : p.2 ≠ M := fun e => by
        have nd := f.up.nodup
        obtain ⟨j, hj, e'⟩ := List.mem_iff_getElem.mp hM
        rw [List.getElem_drop] at e'
        obtain ⟨hi, e''⟩ := List.getElem?_eq_some_iff.mp q2
        have := (List.getElem_inj (h₀ := hi) (h₁ := by rw [List.length_drop] at hj; omega) nd).mp (e''.trans (e.trans e'.symm))
        omega
      have u1 := (f.lot _ h1).1.up
      have u2 := (f.lot _ h2).1.up
      rw [if_neg]
      simp only [within_eq, are_apart_eq, Bool.and_eq_true, Bool.not_eq_true', wi_false u1 u2, wi_false u2 u1]
      rintro ⟨g1, g2, g3⟩
      rcases f.nest _ h1 _ h2 with s | s | s
      · exact g1 (sb_ss u1 u2 s ne)
      · exact g2 (sb_ss u2 u1 s (Ne.symm ne))
      · rw [apb_iff.mpr s] at g3; cases g3
  rw [e1, e2, e3]
  simp only [Bool.not_true, Bool.or_self, Bool.false_eq_true, if_false, Sum.elim_inr, all_id, List.all_eq_true, decide_eq_true_eq]
  intro L hL
  obtain ⟨A, B, h1, h2, h3, h4⟩ := f.two L hL
  rw [parts_in_eq, two_parts f hL h1 h2 h3 h4, srt_length]
  rfl
section
variable {n : Int} {F : List (List Int)}
theorem tops_eq (n : Int) (F : List (List Int)) : m_tops n F = srt (enT D.int) ((((rangeI 0 n).map fun i => [i]) ++ F).filter fun p => F.all fun L => !wi p L) := by
  unfold m_tops m_tops_L1_out m_tops_got m_tops_parts_here
  rw [foldl_flt (q := fun p => F.all fun L => !wi p L) fun v p => by
    unfold m_tops_L1
    simp only [inside_eq, no_ones]]
  rfl
theorem mem_all {P : List Int} (f : Fo n F) : P ∈ ((rangeI 0 n).map fun i => [i]) ++ F ↔ Pt n F P := by
  rw [List.mem_append, List.mem_map]
  constructor
  · rintro (⟨i, hi, rfl⟩ | h)
    · exact pt_one (mem_rangeI.mp hi)
    · exact f.pt h
  · rintro ⟨h1, h2 | h2⟩
    · obtain ⟨i, rfl⟩ := one_of h2
      exact .inl ⟨i, mem_rangeI.mpr (h1.rg i (by simp)), rfl⟩
    · exact .inr h2
theorem nodup_all (f : Fo n F) : (((rangeI 0 n).map fun i => [i]) ++ F).Nodup := by
  rw [List.nodup_append]
  refine ⟨?_, f.up.nodup, fun P h1 Q h2 e => ?_⟩
  · unfold rangeI
    rw [List.map_map, List.Nodup, List.pairwise_map]
    exact List.nodup_range.imp fun {a b} h => by simp; omega
  · subst e
    obtain ⟨i, _, rfl⟩ := List.mem_map.mp h1
    have := (f.lot _ h2).2
    simp at this
theorem mem_tops (f : Fo n F) {P : List Int} : P ∈ m_tops n F ↔ Top n F P := by
  rw [tops_eq, mem_srt, List.mem_filter, mem_all f]
  unfold Top
  refine and_congr_right fun h => ?_
  simp only [List.all_eq_true, Bool.not_eq_true']
  exact forall₂_congr fun L hL => wi_false h.1.up (f.lot L hL).1.up
theorem tops_up (f : Fo n F) : UpL (m_tops n F) := by
  rw [tops_eq]
  exact srt_up lin_L ((nodup_all f).filter _)
theorem tops_nil (hn : 0 ≤ n) : ((m_tops n []).length : Int) = n := by
  rw [tops_eq, srt_length, List.filter_eq_self.mpr (by simp), List.append_nil, List.length_map, rangeI_length]
  omega
theorem top_join (f : Fo n F) {A B : List Int} (ha : Top n F A) (hb : Top n F B) (ne : A ≠ B) (P : List Int) : Top n (joinF F A B) P ↔ (Top n F P ∧ P ≠ A ∧ P ≠ B) ∨ P = joinL A B := by
  have ab := Top.apart f ha hb ne
  have f' := fo_join f ha hb ne
  have hJ : joinL A B ∈ joinF F A B := mem_joinF.mpr (.inr rfl)
  have lJ := (f'.lot _ hJ).1
  obtain ⟨zA, hzA⟩ := ne_mem ha.1.1.ne
  obtain ⟨zB, hzB⟩ := ne_mem hb.1.1.ne
  constructor
  · rintro ⟨⟨h1, h2⟩, h3⟩
    by_cases e : P = joinL A B
    · exact .inr e
    · left
      refine ⟨⟨⟨h1, ?_⟩, fun L hL => h3 L (mem_joinF.mpr (.inl hL))⟩, fun e' => ?_, fun e' => ?_⟩
      · rcases h2 with q | q
        · exact .inl q
        · rcases mem_joinF.mp q with r | r
          · exact .inr r
          · exact absurd r e
      · subst e'
        exact h3 _ hJ ⟨fun x hx => mem_joinL.mpr (.inl hx), zB, mem_joinL.mpr (.inr hzB), fun q => ab zB q hzB⟩
      · subst e'
        exact h3 _ hJ ⟨fun x hx => mem_joinL.mpr (.inr hx), zA, mem_joinL.mpr (.inl hzA), fun q => ab zA hzA q⟩
  · rintro (⟨h1, n1, n2⟩ | rfl)
    · refine ⟨⟨h1.1.1, ?_⟩, fun L hL q => ?_⟩
      · rcases h1.1.2 with r | r
        · exact .inl r
        · exact .inr (mem_joinF.mpr (.inl r))
      · rcases mem_joinF.mp hL with r | rfl
        · exact h1.2 L r q
        · obtain ⟨z, hz⟩ := ne_mem h1.1.1.ne
          rcases mem_joinL.mp (q.1 z hz) with r | r
          · exact Top.apart f h1 ha n1 z hz r
          · exact Top.apart f h1 hb n2 z hz r
    · refine ⟨⟨lJ, .inr hJ⟩, fun L hL q => ?_⟩
      rcases mem_joinF.mp hL with r | rfl
      · obtain ⟨q1, y, q2, q3⟩ := q
        exact ha.2 L r ⟨fun x hx => q1 x (mem_joinL.mpr (.inl hx)), y, q2, fun w => q3 (mem_joinL.mpr (.inl w))⟩
      · obtain ⟨_, y, q2, q3⟩ := q
        exact q3 q2
theorem tops_join (f : Fo n F) {A B : List Int} (ha : Top n F A) (hb : Top n F B) (ne : A ≠ B) : (m_tops n (joinF F A B)).length + 1 = (m_tops n F).length := by
  have f' := fo_join f ha hb ne
  have nd := (tops_up f).nodup
  have nd' := (tops_up f').nodup
  have mA := (mem_tops f).mpr ha
  have mB := (mem_tops f).mpr hb
  have mB' : B ∈ (m_tops n F).erase A := (List.mem_erase_of_ne (Ne.symm ne)).mpr mB
  have e : srt (enT D.int) (m_tops n (joinF F A B)) = srt (enT D.int) (joinL A B :: ((m_tops n F).erase A).erase B) := by
    refine srt_congr lin_L nd' ?_ fun P => ?_
    · rw [List.nodup_cons]
      refine ⟨fun h => ?_, (nd.erase _).erase _⟩
      have h1 := List.mem_of_mem_erase (List.mem_of_mem_erase h)
      have h2 := (mem_tops f).mp h1
      have := joinL_new f ha hb ne
      rcases h2.1.2 with q | q
      · rw [len_joinL] at q
        have := List.length_pos_iff.mpr ha.1.1.ne
        have := List.length_pos_iff.mpr hb.1.1.ne
        omega
      · exact this q
    · rw [mem_tops f', top_join f ha hb ne, List.mem_cons, (nd.erase A).mem_erase_iff, nd.mem_erase_iff, mem_tops f]
      constructor
      · rintro (⟨h1, h2, h3⟩ | h)
        · exact .inr ⟨h3, h2, h1⟩
        · exact .inl h
      · rintro (h | ⟨h3, h2, h1⟩)
        · exact .inr h
        · exact .inl ⟨h1, h2, h3⟩
  have := congrArg List.length e
  rw [srt_length, srt_length, List.length_cons, List.length_erase_of_mem mB', List.length_erase_of_mem mA] at this
  have h1 := List.length_pos_of_mem mB'
  rw [List.length_erase_of_mem mA] at h1
  omega
end
/-- a forest as it is drawn: with as many tops as are left -/
structure Fj (n : Int) (F : List (List Int)) : Prop where
  fo : Fo n F
  tops : ((m_tops n F).length : Int) + F.length = n
theorem fj_nil {n : Int} (h : 0 ≤ n) : Fj n [] := ⟨fo_nil, by rw [tops_nil h]; simp⟩
theorem fj_join {n : Int} {F : List (List Int)} (j : Fj n F) {A B : List Int} (ha : Top n F A) (hb : Top n F B) (ne : A ≠ B) : Fj n (joinF F A B) := ⟨fo_join j.fo ha hb ne, by
  have h1 := tops_join j.fo ha hb ne
  have h2 := j.tops
  rw [len_joinF]
  omega⟩
def bJoins1 (dr tp : Nat) : Cs := (.cons (.asg (.v 5) (.call tp (.cons (.var 1) (.cons (.var 3) .nil)))) (.cons (.popA 6 5 (.call dr (.cons (.var 0) (.cons (.bi .len (.cons (.var 5) .nil)) .nil)))) (.cons (.popA 7 5 (.call dr (.cons (.var 0) (.cons (.bi .len (.cons (.var 5) .nil)) .nil)))) (.cons (.asg (.v 3) (.bi .tuple (.cons (.bi .sorted (.cons (.bin .add (.var 3) (.tup (.cons (.bi .tuple (.cons (.bi .sorted (.cons (.bin .add (.var 6) (.var 7)) .nil)) .nil)) .nil))) .nil)) .nil))) .nil))))
def bJoins (dr tp : Nat) : Cs := (.cons (.asg (.v 3) (.tup .nil)) (.cons (.for_ [] (.v 4) (.range1 (.var 2)) (bJoins1 dr tp)) (.cons (.ret (.var 3)) .nil)))
abbrev eF : List (List Int) → D := enT (enT D.int)
theorem not_mem_eraseIdx {α : Type} {l : List α} (nd : l.Nodup) {i : Nat} (h : i < l.length) : l[i] ∉ l.eraseIdx i := by
  intro q
  rw [List.mem_eraseIdx_iff_getElem] at q
  obtain ⟨j, hj, ne, e⟩ := q
  exact ne ((List.getElem_inj (h₀ := hj) (h₁ := h) nd).mp e)
theorem joinF_ev {c : DE.Ctx} {ρ : DE.Env} {a b d : E} {F : List (List Int)} {A B : List Int} (hF : Ev c ρ a (eF F)) (hA : Ev c ρ b (enT D.int A)) (hB : Ev c ρ d (enT D.int B)) (l1 : F.length ≤ 1000) (l2 : A.length ≤ 1000) (l3 : B.length ≤ 1000) (ne : ∀ L ∈ F, L ≠ []) (neA : A ≠ []) :
    Ev c ρ (.bi .tuple (.cons (.bi .sorted (.cons (.bin .add a (.tup (.cons (.bi .tuple (.cons (.bi .sorted (.cons (.bin .add b d) .nil)) .nil)) .nil))) .nil)) .nil)) (eF (joinF F A B)) :=
  ev_tupL (ea := enT D.int) (ev_sortT (ea := enT D.int) (ev_catT (ea := enT D.int) hF (ev_dispT (ea := enT D.int) (evss_cons (ev_tupL (ea := D.int) (ev_sortT (ea := D.int) (ev_catT (ea := D.int) hA hB (by rw [LINE_eq]; omega)) (by decide) (by rw [List.length_append, LINE_eq]; omega) (.inr fun _ _ => rfl))) evss_nil) rfl (lenLit (Nat.le_of_ble_eq_true rfl))) (by rw [LINE_eq]; show _ + 1 ≤ _; omega)) (by decide) (by rw [List.length_append, LINE_eq]; show _ + 1 ≤ _; omega) (.inl fun L hL => full_ne (by
    rcases List.mem_append.mp hL with q | q
    · exact ne L q
    · rw [List.mem_singleton] at q
      rw [q]
      exact srt_ne (by simp [neA]))))
theorem fo_len {n : Int} {F : List (List Int)} (f : Fo n F) (hn : n ≤ 100) : ∀ L ∈ F, L.length ≤ 100 ∧ L ≠ [] := fun L hL => by
  have h := (f.lot L hL).1
  refine ⟨?_, h.ne⟩
  have := sub_len (b := rangeI 0 n) h.up.nodup fun x hx => mem_rangeI.mpr (h.rg x hx)
  rw [rangeI_length] at this
  omega
theorem lt_len {n : Int} {L : List Int} (h : Lt n L) (hn : n ≤ 100) : L.length ≤ 100 := by
  have := sub_len (b := rangeI 0 n) h.up.nodup fun x hx => mem_rangeI.mpr (h.rg x hx)
  rw [rangeI_length] at this
  omega
theorem run_joins {c : DE.Ctx} {dr tp : Nat} (hd : DrawOk c dr) {n : Int} (hn : 0 ≤ n ∧ n ≤ 100) (ht : ∀ F : List (List Int), Fo n F → F.length ≤ 100 → c.Φ tp [.int n, eF F] = pure (enL (enT D.int) (m_tops n F))) {N : Int} {s : S} (d : Dr N s) (hN : N < 2 ^ 49) {size : Int} (h1 : 0 ≤ size ∧ (size < n ∨ size = 0)) :
    ∃ F s', runF c ⟨8, bJoins dr tp⟩ [.st, .int n, .int size] s = .ok (eF F) s' ∧ Fj n F ∧ (F.length : Int) = size ∧ Dr (N + 2 * size) s' := by
  have goal : ∀ (Q : R D → Prop), (∀ F s', Fj n F → (F.length : Int) = size → Dr (N + 2 * size) s' → Q (.ok (eF F) s')) → Kt c (bJoins dr tp) [some .st, some (.int n), some (.int size), none, none, none, none, none] fin s Q := fun Q hQ => by
    refine kt_asg (d := eF []) (ρ' := [some .st, some (.int n), some (.int size), some (eF []), none, none, none, none]) (ev_dispT (ea := enT D.int) evss_nil rfl (lenLit (Nat.le_of_ble_eq_true rfl))) rfl ?_
    refine kt_forQ (ea := D.int) (V := List (List Int)) (J := Option D × Option D × Option D × Option D) (xs := rangeI 0 size) (fun v j => [some .st, some (.int n), some (.int size), some (eF v), j.1, j.2.1, j.2.2.1, j.2.2.2]) (fun p v s => Fj n v ∧ v.length = p.length ∧ Dr (N + 2 * p.length) s) (v0 := []) (j0 := (none, none, none, none)) rfl (is_pure (evi_range1 (ev_var rfl) (by omega)) ⟨rfl, fj_nil hn.1, rfl, by simpa using d⟩) (fun p x q v j s e i => ?_) (fun v j s i => ?_)
    · obtain ⟨jv, lv, dv⟩ := i
      have hp : (p.length : Int) + 1 ≤ size := by
        have := congrArg List.length e
        rw [rangeI_length, List.length_append, List.length_cons] at this
        omega
      have hl : 2 ≤ (m_tops n v).length := by
        have := jv.tops
        omega
      have hl2 : (m_tops n v).length ≤ 100 := by
        have := jv.tops
        omega
      have tnd := (tops_up jv.fo).nodup
      refine ⟨[some .st, some (.int n), some (.int size), some (eF v), some (.int x), j.2.1, j.2.2.1, j.2.2.2], rfl, ?_⟩
      refine kt_asg (d := enL (enT D.int) (m_tops n v)) (ρ' := [some .st, some (.int n), some (.int size), some (eF v), some (.int x), some (enL (enT D.int) (m_tops n v)), j.2.2.1, j.2.2.2]) (ev_call (ds := [.int n, eF v]) (evs_cons (ev_var rfl) (evs_cons (ev_var rfl) evs_nil)) (ht v jv.fo (by omega))) rfl ?_
      refine kt_popA (ea := enT D.int) (xs := m_tops n v) rfl (es_draw hd dv (by omega) (ev_var rfl) (ev_lenL (ea := enT D.int) (ev_var rfl)) (by omega) fun i1 s1 a0 a1 d1 => ?_)
      have hi1 : i1.toNat < (m_tops n v).length := by omega
      have le1 : ((m_tops n v).eraseIdx i1.toNat).length = (m_tops n v).length - 1 := List.length_eraseIdx_of_lt hi1
      obtain ⟨A, hA⟩ : ∃ A, (m_tops n v)[i1.toNat]? = some A := ⟨_, List.getElem?_eq_getElem hi1⟩
      refine ⟨i1, A, rfl, a0, hA, by omega, ?_⟩
      refine kt_popA (ea := enT D.int) (xs := (m_tops n v).eraseIdx i1.toNat) rfl (es_draw hd d1 (by omega) (ev_var rfl) (ev_lenL (ea := enT D.int) (ev_var rfl)) (by omega) fun i2 s2 b0 b1 d2 => ?_)
      have hi2 : i2.toNat < ((m_tops n v).eraseIdx i1.toNat).length := by omega
      obtain ⟨B, hB⟩ : ∃ B, ((m_tops n v).eraseIdx i1.toNat)[i2.toNat]? = some B := ⟨_, List.getElem?_eq_getElem hi2⟩
      refine ⟨i2, B, rfl, b0, hB, by omega, ?_⟩
      have mA := List.mem_of_getElem? hA
      have mB' := List.mem_of_getElem? hB
      have mB := List.mem_of_mem_eraseIdx mB'
      have ne : A ≠ B := fun e => by
        have eA := (List.getElem?_eq_some_iff.mp hA).2
        rw [← e, ← eA] at mB'
        exact not_mem_eraseIdx tnd hi1 mB'
      have tA := (mem_tops jv.fo).mp mA
      have tB := (mem_tops jv.fo).mp mB
      have lA := lt_len tA.1.1 hn.2
      have lB := lt_len tB.1.1 hn.2
      refine kt_asg (d := eF (joinF v A B)) (ρ' := [some .st, some (.int n), some (.int size), some (eF (joinF v A B)), some (.int x), some (enL (enT D.int) (((m_tops n v).eraseIdx i1.toNat).eraseIdx i2.toNat)), some (enT D.int A), some (enT D.int B)]) (joinF_ev (F := v) (A := A) (B := B) (ev_var rfl) (ev_var rfl) (ev_var rfl) (by omega) (by omega) (by omega) (fun L hL => (jv.fo.lot L hL).1.ne) tA.1.1.ne) rfl ?_
      refine kt_nil ⟨joinF v A B, (some (.int x), some (enL (enT D.int) (((m_tops n v).eraseIdx i1.toNat).eraseIdx i2.toNat)), some (enT D.int A), some (enT D.int B)), s2, rfl, fj_join jv tA tB ne, ?_, ?_⟩
      · rw [len_joinF, List.length_append, lv]
        rfl
      · rw [List.length_append, List.length_singleton]
        exact d2.mono (by omega)
    · obtain ⟨jv, lv, dv⟩ := i
      rw [rangeI_length] at lv dv
      refine kt_ret (d := eF v) (ev_var rfl) ?_
      exact hQ v s jv (by omega) (dv.mono (by omega))
  exact goal (fun o => ∃ F s', o = .ok (eF F) s' ∧ Fj n F ∧ (F.length : Int) = size ∧ Dr (N + 2 * size) s') fun F s' a b d => ⟨F, s', rfl, a, b, d⟩
end Tm

namespace Tm
open DE PySem
theorem r_is_integer (k : Nat) (hk : 1 ≤ k) (thing : Int)  : Φ k 0 [(D.int thing)] = pure (D.bl (m_is_integer thing)) := by
  obtain ⟨k, rfl⟩ : ∃ j, k = j + 1 := ⟨k - 1, by omega⟩
  skip
  exact runF_pure (c := (cx k)) (f := d_is_integer) (e := D.bl) (v := m_is_integer thing) fun σ => (show Kt (cx k) b_is_integer [some (D.int thing)] fin σ (QV _ σ _) from
  (kt_ret (d := (D.bl (true && (!false)))) (ev_and (ev_isi ((ev_var rfl) : Ev _ _ _ (D.int thing)) rfl) (fun hq => (ev_not (ev_isi ((ev_var rfl) : Ev _ _ _ (D.int thing)) rfl)))) rfl))
theorem r_are_risingI (k : Nat) (hk : 1 ≤ k) (some' : (List Int)) (h1 : some'.length ≤ 100) : Φ k 1 [((enT D.int) some')] = pure (D.bl (m_are_risingI some')) := by
  obtain ⟨k, rfl⟩ : ∃ j, k = j + 1 := ⟨k - 1, by omega⟩
  skip
  exact runF_pure (c := (cx k)) (f := d_are_rising) (e := D.bl) (v := m_are_risingI some') fun σ => (show Kt (cx k) b_are_rising [some ((enT D.int) some'), none, none] fin σ (QV _ σ _) from
  (kt_ret (d := (D.bl (((some'.zip (some'.drop 1)).map (fun (p1 : (Int × Int)) => (decide (p1.1 < p1.2)))).all id))) (ev_all (ev_compN (eb := D.bl) (g := (fun (p1 : (Int × Int)) => (decide (p1.1 < p1.2)))) (ea := (enP D.int D.int)) (r := (fun p1 => [some ((enT D.int) some'), some (D.int p1.1), some (D.int p1.2)])) (evi_zipT (ea := D.int) (eb := D.int) (ev_var rfl) (ev_dropT (ea := D.int) 1 (ev_var rfl))) (fun _ => rfl) (fun p1 hp1 => (ev_cmp (ev_var rfl) (ev_var rfl) (cm_lt _ _))) (by first | assumption | omega | grind [LINE_eq, FUEL_eq, srt_length, mem_srt, rangeI_length, mem_rangeI, enumI_length, → enumI_snd, → enumI_fst, cut_length, → mem_cut]))) rfl))
theorem r_are_rising (k : Nat) (hk : 1 ≤ k) (some' : (List (List Int))) (h1 : some'.length ≤ 100) : Φ k 1 [((enT (enT D.int)) some')] = pure (D.bl (m_are_rising some')) := by
  obtain ⟨k, rfl⟩ : ∃ j, k = j + 1 := ⟨k - 1, by omega⟩
  skip
  exact runF_pure (c := (cx k)) (f := d_are_rising) (e := D.bl) (v := m_are_rising some') fun σ => (show Kt (cx k) b_are_rising [some ((enT (enT D.int)) some'), none, none] fin σ (QV _ σ _) from
  (kt_ret (d := (D.bl (((some'.zip (some'.drop 1)).map (fun (p1 : ((List Int) × (List Int))) => (Ord.lt (enT D.int) p1.1 p1.2))).all id))) (ev_all (ev_compN (eb := D.bl) (g := (fun (p1 : ((List Int) × (List Int))) => (Ord.lt (enT D.int) p1.1 p1.2))) (ea := (enP (enT D.int) (enT D.int))) (r := (fun p1 => [some ((enT (enT D.int)) some'), some ((enT D.int) p1.1), some ((enT D.int) p1.2)])) (evi_zipT (ea := (enT D.int)) (eb := (enT D.int)) (ev_var rfl) (ev_dropT (ea := (enT D.int)) 1 (ev_var rfl))) (fun _ => rfl) (fun p1 hp1 => (ev_cmp (x := ((enT D.int) p1.1)) (y := ((enT D.int) p1.2)) (ev_var rfl) (ev_var rfl) (cm_ltE (ea := (enT D.int)) _ _ (by decide)))) (by first | assumption | omega | grind [LINE_eq, FUEL_eq, srt_length, mem_srt, rangeI_length, mem_rangeI, enumI_length, → enumI_snd, → enumI_fst, cut_length, → mem_cut]))) rfl))
theorem r_weight_in (k : Nat) (hk : 1 ≤ k) (heaps : (List Int)) (lot : (List Int)) (h1 : lot.length ≤ 100) (h2 : ∀ i ∈ lot, 0 ≤ i ∧ i < heaps.length) : Φ k 2 [((enT D.int) heaps), ((enT D.int) lot)] = pure (D.int (m_weight_in heaps lot)) := by
  obtain ⟨k, rfl⟩ : ∃ j, k = j + 1 := ⟨k - 1, by omega⟩
  skip
  exact runF_pure (c := (cx k)) (f := d_weight_in) (e := D.int) (v := m_weight_in heaps lot) fun σ => (show Kt (cx k) b_weight_in [some ((enT D.int) heaps), some ((enT D.int) lot), none] fin σ (QV _ σ _) from
  (kt_ret (d := (D.int (lot.map (fun (number : Int) => (heaps.getD (number).toNat default))).sum)) (ev_sum (ev_compN (eb := D.int) (g := (fun (number : Int) => (heaps.getD (number).toNat default))) (ea := D.int) (r := (fun number => [some ((enT D.int) heaps), some ((enT D.int) lot), some (D.int number)])) (evi_T (ea := D.int) (ev_var rfl)) (fun _ => rfl) (fun number hnumber => (ev_subT (ea := D.int) (ev_var rfl) (ev_var rfl) (by first | assumption | omega | grind [LINE_eq, FUEL_eq, srt_length, mem_srt, rangeI_length, mem_rangeI, enumI_length, → enumI_snd, → enumI_fst, cut_length, → mem_cut]))) (by first | assumption | omega | grind [LINE_eq, FUEL_eq, srt_length, mem_srt, rangeI_length, mem_rangeI, enumI_length, → enumI_snd, → enumI_fst, cut_length, → mem_cut]))) rfl))
theorem r_is_within (k : Nat) (hk : 1 ≤ k) (one : (List Int)) (other : (List Int)) (h1 : one.length ≤ 100) : Φ k 3 [((enT D.int) one), ((enT D.int) other)] = pure (D.bl (m_is_within one other)) := by
  obtain ⟨k, rfl⟩ : ∃ j, k = j + 1 := ⟨k - 1, by omega⟩
  skip
  exact runF_pure (c := (cx k)) (f := d_is_within) (e := D.bl) (v := m_is_within one other) fun σ => (show Kt (cx k) b_is_within [some ((enT D.int) one), some ((enT D.int) other), none] fin σ (QV _ σ _) from
  (kt_ret (d := (D.bl ((decide ((one.length : Int) < (other.length : Int))) && ((one.map (fun (number : Int) => (decide (number ∈ other)))).all id)))) (ev_and (ev_cmp (ev_lenT (ea := D.int) (ev_var rfl)) (ev_lenT (ea := D.int) (ev_var rfl)) (cm_lt _ _)) (fun hq => (ev_all (ev_compN (eb := D.bl) (g := (fun (number : Int) => (decide (number ∈ other)))) (ea := D.int) (r := (fun number => [some ((enT D.int) one), some ((enT D.int) other), some (D.int number)])) (evi_T (ea := D.int) (ev_var rfl)) (fun _ => rfl) (fun number hnumber => (ev_cmp (x := (D.int number)) (y := ((enT D.int) other)) (ev_var rfl) (ev_var rfl) (cm_inT (ea := D.int) _ _ (by decide)))) (by first | assumption | omega | grind [LINE_eq, FUEL_eq, srt_length, mem_srt, rangeI_length, mem_rangeI, enumI_length, → enumI_snd, → enumI_fst, cut_length, → mem_cut]))))) rfl))
theorem r_are_apart (k : Nat) (hk : 1 ≤ k) (one : (List Int)) (other : (List Int)) (h1 : one.length ≤ 100) : Φ k 4 [((enT D.int) one), ((enT D.int) other)] = pure (D.bl (m_are_apart one other)) := by
  obtain ⟨k, rfl⟩ : ∃ j, k = j + 1 := ⟨k - 1, by omega⟩
  skip
  exact runF_pure (c := (cx k)) (f := d_are_apart) (e := D.bl) (v := m_are_apart one other) fun σ => (show Kt (cx k) b_are_apart [some ((enT D.int) one), some ((enT D.int) other), none] fin σ (QV _ σ _) from
  (kt_ret (d := (D.bl (!((one.map (fun (number : Int) => (decide (number ∈ other)))).any id)))) (ev_not (ev_any (ev_compN (eb := D.bl) (g := (fun (number : Int) => (decide (number ∈ other)))) (ea := D.int) (r := (fun number => [some ((enT D.int) one), some ((enT D.int) other), some (D.int number)])) (evi_T (ea := D.int) (ev_var rfl)) (fun _ => rfl) (fun number hnumber => (ev_cmp (x := (D.int number)) (y := ((enT D.int) other)) (ev_var rfl) (ev_var rfl) (cm_inT (ea := D.int) _ _ (by decide)))) (by first | assumption | omega | grind [LINE_eq, FUEL_eq, srt_length, mem_srt, rangeI_length, mem_rangeI, enumI_length, → enumI_snd, → enumI_fst, cut_length, → mem_cut])))) rfl))
theorem r_is_part (k : Nat) (hk : 1 ≤ k) (forest : (List (List Int))) (lot : (List Int))  : Φ k 5 [((enT (enT D.int)) forest), ((enT D.int) lot)] = pure (D.bl (m_is_part forest lot)) := by
  obtain ⟨k, rfl⟩ : ∃ j, k = j + 1 := ⟨k - 1, by omega⟩
  skip
  exact runF_pure (c := (cx k)) (f := d_is_part) (e := D.bl) (v := m_is_part forest lot) fun σ => (show Kt (cx k) b_is_part [some ((enT (enT D.int)) forest), some ((enT D.int) lot)] fin σ (QV _ σ _) from
  (kt_ret (d := (D.bl ((decide ((lot.length : Int) = (1 : Int))) || (decide (lot ∈ forest))))) (ev_or (ev_cmp (x := (D.int (lot.length : Int))) (y := (D.int (1 : Int))) (ev_lenT (ea := D.int) (ev_var rfl)) (ev_int 1) (cm_eq (ea := D.int) _ _ (by decide))) (fun hq => (ev_cmp (x := ((enT D.int) lot)) (y := ((enT (enT D.int)) forest)) (ev_var rfl) (ev_var rfl) (cm_inT (ea := (enT D.int)) _ _ (by decide))))) rfl))
theorem r_replaced (k : Nat) (hk : 1 ≤ k) (lot : (List Int)) (one : (List Int)) (other : (List Int)) (h1 : lot.length ≤ 100) (h2 : other.length ≤ 100) : Φ k 6 [((enT D.int) lot), ((enT D.int) one), ((enT D.int) other)] = pure ((enT D.int) (m_replaced lot one other)) := by
  obtain ⟨k, rfl⟩ : ∃ j, k = j + 1 := ⟨k - 1, by omega⟩
  skip
  exact runF_pure (c := (cx k)) (f := d_replaced) (e := (enT D.int)) (v := m_replaced lot one other) fun σ => (show Kt (cx k) b_replaced [some ((enT D.int) lot), some ((enT D.int) one), some ((enT D.int) other), none] fin σ (QV _ σ _) from
  (kt_ret (d := ((enT D.int) (srt D.int ((lot.filter (fun (number : Int) => (!decide (number ∈ one)))) ++ other)))) (ev_tupL (ea := D.int) (ev_sortL (ea := D.int) (ev_catL (ea := D.int) (ev_compF (p := (fun (number : Int) => (!decide (number ∈ one)))) (ea := D.int) (r := (fun number => [some ((enT D.int) lot), some ((enT D.int) one), some ((enT D.int) other), some (D.int number)])) (evi_T (ea := D.int) (ev_var rfl)) (fun _ => rfl) (fun number hnumber => evc_yes (ev_cmp (x := (D.int number)) (y := ((enT D.int) one)) (ev_var rfl) (ev_var rfl) (cm_ninT (ea := D.int) _ _ (by decide)))) (fun number hnumber hphnumber => (ev_var rfl)) (by first | assumption | omega | grind [LINE_eq, FUEL_eq, srt_length, mem_srt, rangeI_length, mem_rangeI, enumI_length, → enumI_snd, → enumI_fst, cut_length, → mem_cut])) (ev_lstT (ea := D.int) (ev_var rfl)) (by first | assumption | omega | grind [LINE_eq, FUEL_eq, srt_length, mem_srt, rangeI_length, mem_rangeI, enumI_length, → enumI_snd, → enumI_fst, cut_length, → mem_cut])) (by decide) (by first | assumption | omega | grind [LINE_eq, FUEL_eq, srt_length, mem_srt, rangeI_length, mem_rangeI, enumI_length, → enumI_snd, → enumI_fst, cut_length, → mem_cut] | exact Nat.le_trans (flatMap_le 1000 1000 (by grind [LINE_eq, FUEL_eq, srt_length, mem_srt, rangeI_length, mem_rangeI, enumI_length, → enumI_snd, → enumI_fst, cut_length, → mem_cut]) (by grind [LINE_eq, FUEL_eq, srt_length, mem_srt, rangeI_length, mem_rangeI, enumI_length, → enumI_snd, → enumI_fst, cut_length, → mem_cut])) (by rw [LINE_eq]; omega)) (.inr fun _ _ => rfl))) rfl))
theorem r_weight (k : Nat) (hk : 1 ≤ k) (heaps_so : (List Int)) (lot : (List Int)) (h1 : lot.length ≤ 100) (h2 : ∀ i ∈ lot, 0 ≤ i ∧ i < heaps_so.length) : Φ k 9 [((enT D.int) heaps_so), ((enT D.int) lot)] = pure (D.int (m_weight heaps_so lot)) := by
  obtain ⟨k, rfl⟩ : ∃ j, k = j + 1 := ⟨k - 1, by omega⟩
  skip
  exact runF_pure (c := (cx k)) (f := d__law_weight) (e := D.int) (v := m_weight heaps_so lot) fun σ => (show Kt (cx k) b__law_weight [some ((enT D.int) heaps_so), some ((enT D.int) lot), none] fin σ (QV _ σ _) from
  (kt_ret (d := (D.int (lot.map (fun (one : Int) => (heaps_so.getD (one).toNat default))).sum)) (ev_sum (ev_compN (eb := D.int) (g := (fun (one : Int) => (heaps_so.getD (one).toNat default))) (ea := D.int) (r := (fun one => [some ((enT D.int) heaps_so), some ((enT D.int) lot), some (D.int one)])) (evi_T (ea := D.int) (ev_var rfl)) (fun _ => rfl) (fun one hone => (ev_subT (ea := D.int) (ev_var rfl) (ev_var rfl) (by first | assumption | omega | grind [LINE_eq, FUEL_eq, srt_length, mem_srt, rangeI_length, mem_rangeI, enumI_length, → enumI_snd, → enumI_fst, cut_length, → mem_cut]))) (by first | assumption | omega | grind [LINE_eq, FUEL_eq, srt_length, mem_srt, rangeI_length, mem_rangeI, enumI_length, → enumI_snd, → enumI_fst, cut_length, → mem_cut]))) rfl))
theorem r_inside (k : Nat) (hk : 1 ≤ k) (one : (List Int)) (other : (List Int)) (h1 : one.length ≤ 100) : Φ k 10 [((enT D.int) one), ((enT D.int) other)] = pure (D.bl (m_inside one other)) := by
  obtain ⟨k, rfl⟩ : ∃ j, k = j + 1 := ⟨k - 1, by omega⟩
  skip
  exact runF_pure (c := (cx k)) (f := d__law_inside) (e := D.bl) (v := m_inside one other) fun σ => (show Kt (cx k) b__law_inside [some ((enT D.int) one), some ((enT D.int) other), none] fin σ (QV _ σ _) from
  (kt_ret (d := (D.bl ((decide ((one.length : Int) < (other.length : Int))) && (decide (((one.filter (fun (spot : Int) => (!decide (spot ∈ other)))).map (fun (spot : Int) => (1 : Int))) = ([] : List Int)))))) (ev_and (ev_cmp (ev_lenT (ea := D.int) (ev_var rfl)) (ev_lenT (ea := D.int) (ev_var rfl)) (cm_lt _ _)) (fun hq => (ev_cmp (x := ((enL D.int) ((one.filter (fun (spot : Int) => (!decide (spot ∈ other)))).map (fun (spot : Int) => (1 : Int))))) (y := ((enL D.int) ([] : List Int))) (ev_comp (eb := D.int) (p := (fun (spot : Int) => (!decide (spot ∈ other)))) (g := (fun (spot : Int) => (1 : Int))) (ea := D.int) (r := (fun spot => [some ((enT D.int) one), some ((enT D.int) other), some (D.int spot)])) (evi_T (ea := D.int) (ev_var rfl)) (fun _ => rfl) (fun spot hspot => evc_yes (ev_cmp (x := (D.int spot)) (y := ((enT D.int) other)) (ev_var rfl) (ev_var rfl) (cm_ninT (ea := D.int) _ _ (by decide)))) (fun spot hspot hphspot => (ev_int 1)) (by first | assumption | omega | grind [LINE_eq, FUEL_eq, srt_length, mem_srt, rangeI_length, mem_rangeI, enumI_length, → enumI_snd, → enumI_fst, cut_length, → mem_cut])) (ev_dispL (ea := D.int) evss_nil rfl (lenLit (Nat.le_of_ble_eq_true rfl))) (cm_eq (ea := (enL D.int)) _ _ (by decide))))) rfl))
theorem r_apart (k : Nat) (hk : 1 ≤ k) (one : (List Int)) (other : (List Int)) (h1 : one.length ≤ 100) : Φ k 11 [((enT D.int) one), ((enT D.int) other)] = pure (D.bl (m_apart one other)) := by
  obtain ⟨k, rfl⟩ : ∃ j, k = j + 1 := ⟨k - 1, by omega⟩
  skip
  exact runF_pure (c := (cx k)) (f := d__law_apart) (e := D.bl) (v := m_apart one other) fun σ => (show Kt (cx k) b__law_apart [some ((enT D.int) one), some ((enT D.int) other), none] fin σ (QV _ σ _) from
  (kt_ret (d := (D.bl (decide (((one.filter (fun (spot : Int) => (decide (spot ∈ other)))).map (fun (spot : Int) => (1 : Int))) = ([] : List Int))))) (ev_cmp (x := ((enL D.int) ((one.filter (fun (spot : Int) => (decide (spot ∈ other)))).map (fun (spot : Int) => (1 : Int))))) (y := ((enL D.int) ([] : List Int))) (ev_comp (eb := D.int) (p := (fun (spot : Int) => (decide (spot ∈ other)))) (g := (fun (spot : Int) => (1 : Int))) (ea := D.int) (r := (fun spot => [some ((enT D.int) one), some ((enT D.int) other), some (D.int spot)])) (evi_T (ea := D.int) (ev_var rfl)) (fun _ => rfl) (fun spot hspot => evc_yes (ev_cmp (x := (D.int spot)) (y := ((enT D.int) other)) (ev_var rfl) (ev_var rfl) (cm_inT (ea := D.int) _ _ (by decide)))) (fun spot hspot hphspot => (ev_int 1)) (by first | assumption | omega | grind [LINE_eq, FUEL_eq, srt_length, mem_srt, rangeI_length, mem_rangeI, enumI_length, → enumI_snd, → enumI_fst, cut_length, → mem_cut])) (ev_dispL (ea := D.int) evss_nil rfl (lenLit (Nat.le_of_ble_eq_true rfl))) (cm_eq (ea := (enL D.int)) _ _ (by decide))) rfl))
theorem r_is_between (k : Nat) (hk : 2 ≤ k) (thing : Int) (least : Int) (most : Int)  : Φ k 12 [(D.int thing), (D.int least), (D.int most)] = pure (D.bl (m_is_between thing least most)) := by
  obtain ⟨k, rfl⟩ : ∃ j, k = j + 1 := ⟨k - 1, by omega⟩
  skip
  exact runF_pure (c := (cx k)) (f := d_is_between) (e := D.bl) (v := m_is_between thing least most) fun σ => (show Kt (cx k) b_is_between [some (D.int thing), some (D.int least), some (D.int most)] fin σ (QV _ σ _) from
  (kt_ret (d := (D.bl ((m_is_integer thing) && (decide (least ≤ thing) && decide (thing ≤ most))))) (ev_and (ev_call (ds := [(D.int thing)]) (evs_cons (ev_var rfl) evs_nil) (r_is_integer k (by omega) thing )) (fun hq => (ev_chain (ev_var rfl) (ev_var rfl) (ev_var rfl) (cm_le _ _) (cm_le _ _)))) rfl))
theorem r_parts_in (k : Nat) (hk : 2 ≤ k) (forest : (List (List Int))) (lot : (List Int)) (h1 : forest.length ≤ 100) (h2 : ∀ a ∈ forest, a.length ≤ 100 ∧ a ≠ []) (h3 : lot.length ≤ 100) : Φ k 13 [((enT (enT D.int)) forest), ((enT D.int) lot)] = pure ((enL (enT D.int)) (m_parts_in forest lot)) := by
  obtain ⟨k, rfl⟩ : ∃ j, k = j + 1 := ⟨k - 1, by omega⟩
  skip
  exact runF_pure (c := (cx k)) (f := d_parts_in) (e := (enL (enT D.int))) (v := m_parts_in forest lot) fun σ => (show Kt (cx k) b_parts_in [some ((enT (enT D.int)) forest), some ((enT D.int) lot), none, none, none, none, none, none] fin σ (QV _ σ _) from
  (kt_asg (d := ((enL (enT D.int)) (m_parts_in_inner forest lot))) (ρ' := [some ((enT (enT D.int)) forest), some ((enT D.int) lot), some ((enL (enT D.int)) (m_parts_in_inner forest lot)), none, none, none, none, none]) (ev_compF (p := (fun (one : (List Int)) => (m_is_within one lot))) (ea := (enT D.int)) (r := (fun one => [some ((enT (enT D.int)) forest), some ((enT D.int) lot), none, none, none, some ((enT D.int) one), none, none])) (evi_T (ea := (enT D.int)) (ev_var rfl)) (fun _ => rfl) (fun one hone => evc_yes (ev_call (ds := [((enT D.int) one), ((enT D.int) lot)]) (evs_cons (ev_var rfl) (evs_cons (ev_var rfl) evs_nil)) (r_is_within k (by omega) one lot (by first | assumption | omega | grind [LINE_eq, FUEL_eq, srt_length, mem_srt, rangeI_length, mem_rangeI, enumI_length, → enumI_snd, → enumI_fst, cut_length, → mem_cut])))) (fun one hone hphone => (ev_var rfl)) (by first | assumption | omega | grind [LINE_eq, FUEL_eq, srt_length, mem_srt, rangeI_length, mem_rangeI, enumI_length, → enumI_snd, → enumI_fst, cut_length, → mem_cut])) rfl
  (kt_asg (d := ((enL (enT D.int)) (m_parts_in_found forest lot))) (ρ' := [some ((enT (enT D.int)) forest), some ((enT D.int) lot), some ((enL (enT D.int)) (m_parts_in_inner forest lot)), some ((enL (enT D.int)) (m_parts_in_found forest lot)), none, none, none, none]) (ev_compF (p := (fun (one : (List Int)) => (!(((m_parts_in_inner forest lot).map (fun (other : (List Int)) => (m_is_within one other))).any id)))) (ea := (enT D.int)) (r := (fun one => [some ((enT (enT D.int)) forest), some ((enT D.int) lot), some ((enL (enT D.int)) (m_parts_in_inner forest lot)), none, none, some ((enT D.int) one), none, none])) (evi_L (ea := (enT D.int)) (ev_var rfl)) (fun _ => rfl) (fun one hone => evc_yes (ev_not (ev_any (ev_compN (eb := D.bl) (g := (fun (other : (List Int)) => (m_is_within one other))) (ea := (enT D.int)) (r := (fun other => [some ((enT (enT D.int)) forest), some ((enT D.int) lot), some ((enL (enT D.int)) (m_parts_in_inner forest lot)), none, none, some ((enT D.int) one), none, some ((enT D.int) other)])) (evi_L (ea := (enT D.int)) (ev_var rfl)) (fun _ => rfl) (fun other hother => (ev_call (ds := [((enT D.int) one), ((enT D.int) other)]) (evs_cons (ev_var rfl) (evs_cons (ev_var rfl) evs_nil)) (r_is_within k (by omega) one other (by first | assumption | omega | grind [LINE_eq, FUEL_eq, srt_length, mem_srt, rangeI_length, mem_rangeI, enumI_length, → enumI_snd, → enumI_fst, cut_length, → mem_cut, m_parts_in_inner])))) (by first | assumption | omega | grind [LINE_eq, FUEL_eq, srt_length, mem_srt, rangeI_length, mem_rangeI, enumI_length, → enumI_snd, → enumI_fst, cut_length, → mem_cut, m_parts_in_inner]))))) (fun one hone hphone => (ev_var rfl)) (by first | assumption | omega | grind [LINE_eq, FUEL_eq, srt_length, mem_srt, rangeI_length, mem_rangeI, enumI_length, → enumI_snd, → enumI_fst, cut_length, → mem_cut, m_parts_in_inner])) rfl
  (kt_asg (d := ((enL D.int) (m_parts_in_known forest lot))) (ρ' := [some ((enT (enT D.int)) forest), some ((enT D.int) lot), some ((enL (enT D.int)) (m_parts_in_inner forest lot)), some ((enL (enT D.int)) (m_parts_in_found forest lot)), some ((enL D.int) (m_parts_in_known forest lot)), none, none, none]) (ev_comp2N (ea := (enT D.int)) (eb := D.int) (ed := D.int) (ys := fun (one : (List Int)) => one) (g := (fun (one : (List Int)) (number : Int) => number)) (r := fun one => [some ((enT (enT D.int)) forest), some ((enT D.int) lot), some ((enL (enT D.int)) (m_parts_in_inner forest lot)), some ((enL (enT D.int)) (m_parts_in_found forest lot)), none, some ((enT D.int) one), none, none]) (r' := fun one number => [some ((enT (enT D.int)) forest), some ((enT D.int) lot), some ((enL (enT D.int)) (m_parts_in_inner forest lot)), some ((enL (enT D.int)) (m_parts_in_found forest lot)), none, some ((enT D.int) one), some (D.int number), none]) (evi_L (ea := (enT D.int)) (ev_var rfl)) (fun _ => rfl) (fun one hone => (evi_T (ea := D.int) (ev_var rfl))) (fun _ _ => rfl) (fun one hone number hnumber => (ev_var rfl)) (Nat.le_trans (flatMap_le 1000 1000 (by grind [LINE_eq, FUEL_eq, srt_length, mem_srt, rangeI_length, mem_rangeI, enumI_length, → enumI_snd, → enumI_fst, cut_length, → mem_cut, m_parts_in_inner, m_parts_in_found]) (by grind [LINE_eq, FUEL_eq, srt_length, mem_srt, rangeI_length, mem_rangeI, enumI_length, → enumI_snd, → enumI_fst, cut_length, → mem_cut, m_parts_in_inner, m_parts_in_found])) (by rw [LINE_eq]; omega))) rfl
  (kt_ret (d := ((enL (enT D.int)) (srt (enT D.int) ((m_parts_in_found forest lot) ++ ((lot.filter (fun (number : Int) => (!decide (number ∈ (m_parts_in_known forest lot))))).map (fun (number : Int) => ([number] : List Int))))))) (ev_sortL (ea := (enT D.int)) (ev_catL (ea := (enT D.int)) (ev_var rfl) (ev_comp (eb := (enT D.int)) (p := (fun (number : Int) => (!decide (number ∈ (m_parts_in_known forest lot))))) (g := (fun (number : Int) => ([number] : List Int))) (ea := D.int) (r := (fun number => [some ((enT (enT D.int)) forest), some ((enT D.int) lot), some ((enL (enT D.int)) (m_parts_in_inner forest lot)), some ((enL (enT D.int)) (m_parts_in_found forest lot)), some ((enL D.int) (m_parts_in_known forest lot)), none, some (D.int number), none])) (evi_T (ea := D.int) (ev_var rfl)) (fun _ => rfl) (fun number hnumber => evc_yes (ev_cmp (x := (D.int number)) (y := ((enL D.int) (m_parts_in_known forest lot))) (ev_var rfl) (ev_var rfl) (cm_ninL (ea := D.int) _ _ (by decide)))) (fun number hnumber hphnumber => (ev_dispT (ea := D.int) (evss_cons (ev_var rfl) evss_nil) rfl (lenLit (Nat.le_of_ble_eq_true rfl)))) (by first | assumption | omega | grind [LINE_eq, FUEL_eq, srt_length, mem_srt, rangeI_length, mem_rangeI, enumI_length, → enumI_snd, → enumI_fst, cut_length, → mem_cut, m_parts_in_inner, m_parts_in_found, m_parts_in_known])) (by first | assumption | omega | grind [LINE_eq, FUEL_eq, srt_length, mem_srt, rangeI_length, mem_rangeI, enumI_length, → enumI_snd, → enumI_fst, cut_length, → mem_cut, m_parts_in_inner, m_parts_in_found, m_parts_in_known])) (by decide) (by first | assumption | omega | grind [LINE_eq, FUEL_eq, srt_length, mem_srt, rangeI_length, mem_rangeI, enumI_length, → enumI_snd, → enumI_fst, cut_length, → mem_cut, m_parts_in_inner, m_parts_in_found, m_parts_in_known] | exact Nat.le_trans (flatMap_le 1000 1000 (by grind [LINE_eq, FUEL_eq, srt_length, mem_srt, rangeI_length, mem_rangeI, enumI_length, → enumI_snd, → enumI_fst, cut_length, → mem_cut, m_parts_in_inner, m_parts_in_found, m_parts_in_known]) (by grind [LINE_eq, FUEL_eq, srt_length, mem_srt, rangeI_length, mem_rangeI, enumI_length, → enumI_snd, → enumI_fst, cut_length, → mem_cut, m_parts_in_inner, m_parts_in_found, m_parts_in_known])) (by rw [LINE_eq]; omega)) (.inl fun y hy => full_ne (by first | assumption | omega | grind [LINE_eq, FUEL_eq, srt_length, mem_srt, rangeI_length, mem_rangeI, enumI_length, → enumI_snd, → enumI_fst, cut_length, → mem_cut, m_parts_in_inner, m_parts_in_found, m_parts_in_known]))) rfl)))))
theorem r_sum_in (k : Nat) (hk : 2 ≤ k) (heaps : (List Int)) (forest : (List (List Int))) (h1 : forest.length ≤ 100) (h2 : ∀ a ∈ forest, a.length ≤ 100 ∧ a ≠ []) (h3 : ∀ a ∈ forest, ∀ i ∈ a, 0 ≤ i ∧ i < heaps.length) : Φ k 14 [((enT D.int) heaps), ((enT (enT D.int)) forest)] = pure (D.int (m_sum_in heaps forest)) := by
  obtain ⟨k, rfl⟩ : ∃ j, k = j + 1 := ⟨k - 1, by omega⟩
  skip
  exact runF_pure (c := (cx k)) (f := d_sum_in) (e := D.int) (v := m_sum_in heaps forest) fun σ => (show Kt (cx k) b_sum_in [some ((enT D.int) heaps), some ((enT (enT D.int)) forest), none] fin σ (QV _ σ _) from
  (kt_ret (d := (D.int (forest.map (fun (lot : (List Int)) => (m_weight_in heaps lot))).sum)) (ev_sum (ev_compN (eb := D.int) (g := (fun (lot : (List Int)) => (m_weight_in heaps lot))) (ea := (enT D.int)) (r := (fun lot => [some ((enT D.int) heaps), some ((enT (enT D.int)) forest), some ((enT D.int) lot)])) (evi_T (ea := (enT D.int)) (ev_var rfl)) (fun _ => rfl) (fun lot hlot => (ev_call (ds := [((enT D.int) heaps), ((enT D.int) lot)]) (evs_cons (ev_var rfl) (evs_cons (ev_var rfl) evs_nil)) (r_weight_in k (by omega) heaps lot (by first | assumption | omega | grind [LINE_eq, FUEL_eq, srt_length, mem_srt, rangeI_length, mem_rangeI, enumI_length, → enumI_snd, → enumI_fst, cut_length, → mem_cut]) (by first | assumption | omega | grind [LINE_eq, FUEL_eq, srt_length, mem_srt, rangeI_length, mem_rangeI, enumI_length, → enumI_snd, → enumI_fst, cut_length, → mem_cut])))) (by first | assumption | omega | grind [LINE_eq, FUEL_eq, srt_length, mem_srt, rangeI_length, mem_rangeI, enumI_length, → enumI_snd, → enumI_fst, cut_length, → mem_cut]))) rfl))
theorem r_exchanged_in (k : Nat) (hk : 2 ≤ k) (forest : (List (List Int))) (one : (List Int)) (other : (List Int)) (h1 : forest.length ≤ 100) (h2 : ∀ a ∈ forest, a.length ≤ 100 ∧ a ≠ []) (h3 : one.length ≤ 100) (h4 : other.length ≤ 100) (h5 : one ≠ []) (h6 : other ≠ []) : Φ k 15 [((enT (enT D.int)) forest), ((enT D.int) one), ((enT D.int) other)] = pure ((enT (enT D.int)) (m_exchanged_in forest one other)) := by
  obtain ⟨k, rfl⟩ : ∃ j, k = j + 1 := ⟨k - 1, by omega⟩
  skip
  exact runF_pure (c := (cx k)) (f := d_exchanged_in) (e := (enT (enT D.int))) (v := m_exchanged_in forest one other) fun σ => (show Kt (cx k) b_exchanged_in [some ((enT (enT D.int)) forest), some ((enT D.int) one), some ((enT D.int) other), none, none, none, none] fin σ (QV _ σ _) from
  (kt_asg (d := ((enL (enT D.int)) m_exchanged_in_found)) (ρ' := [some ((enT (enT D.int)) forest), some ((enT D.int) one), some ((enT D.int) other), some ((enL (enT D.int)) m_exchanged_in_found), none, none, none]) (ev_dispL (ea := (enT D.int)) evss_nil rfl (lenLit (Nat.le_of_ble_eq_true rfl))) rfl
  (kt_for (ea := (enT D.int)) (fun (v1 : (List (List Int))) (j1 : Option D × Option D × Option D) => [some ((enT (enT D.int)) forest), some ((enT D.int) one), some ((enT D.int) other), some ((enL (enT D.int)) v1), j1.1, j1.2.1, j1.2.2]) (m_exchanged_in_L1 one other) (fun (p : List (List Int)) (v : List (List Int)) => v.length ≤ p.length ∧ ∀ y ∈ v, y ≠ []) (v0 := m_exchanged_in_found) (j0 := (none, none, none)) (evi_T (ea := (enT D.int)) (ev_var rfl)) rfl (by first | trivial | grind) (fun p_ lot q_ v1 j1 e_ hI => have hlot : lot ∈ forest := by rw [e_]; simp
  have hlen : _ = p_.length + q_.length + 1 := (congrArg List.length e_).trans (by simp; omega)
  ⟨by first | trivial | grind [LINE_eq, srt_length, m_exchanged_in_found, m_exchanged_in_has_one, m_exchanged_in_has_other, m_exchanged_in_L1, replaced_ne], [some ((enT (enT D.int)) forest), some ((enT D.int) one), some ((enT D.int) other), some ((enL (enT D.int)) v1), some ((enT D.int) lot), j1.2.1, j1.2.2], rfl, fun σ => (kt_par (x := (D.bl (m_exchanged_in_has_one one lot))) (y := (D.bl (m_exchanged_in_has_other other lot))) (ρ' := [some ((enT (enT D.int)) forest), some ((enT D.int) one), some ((enT D.int) other), some ((enL (enT D.int)) v1), some ((enT D.int) lot), some (D.bl (m_exchanged_in_has_one one lot)), some (D.bl (m_exchanged_in_has_other other lot))]) (ev_call (ds := [((enT D.int) one), ((enT D.int) lot)]) (evs_cons (ev_var rfl) (evs_cons (ev_var rfl) evs_nil)) (r_is_within k (by omega) one lot (by first | assumption | omega | grind [LINE_eq, FUEL_eq, srt_length, mem_srt, rangeI_length, mem_rangeI, enumI_length, → enumI_snd, → enumI_fst, cut_length, → mem_cut, m_exchanged_in_found, replaced_ne]))) (ev_call (ds := [((enT D.int) other), ((enT D.int) lot)]) (evs_cons (ev_var rfl) (evs_cons (ev_var rfl) evs_nil)) (r_is_within k (by omega) other lot (by first | assumption | omega | grind [LINE_eq, FUEL_eq, srt_length, mem_srt, rangeI_length, mem_rangeI, enumI_length, → enumI_snd, → enumI_fst, cut_length, → mem_cut, m_exchanged_in_found, replaced_ne]))) rfl
  (kt_ifQ (z := ((m_exchanged_in_has_one one lot) && (!(m_exchanged_in_has_other other lot)))) (Q := QL (fun (v1 : (List (List Int))) (j1 : Option D × Option D × Option D) => [some ((enT (enT D.int)) forest), some ((enT D.int) one), some ((enT D.int) other), some ((enL (enT D.int)) v1), j1.1, j1.2.1, j1.2.2]) σ) (x := (v1 ++ [(m_replaced lot one other)])) (y := (if ((m_exchanged_in_has_other other lot) && (!(m_exchanged_in_has_one one lot))) then (v1 ++ [(m_replaced lot other one)]) else (v1 ++ [lot]))) (ev_and (ev_var rfl) (fun hq => (ev_not (ev_var rfl)))) (fun hb4 => (kt_app (ea := (enT D.int)) (ρ' := [some ((enT (enT D.int)) forest), some ((enT D.int) one), some ((enT D.int) other), some ((enL (enT D.int)) (v1 ++ [(m_replaced lot one other)])), some ((enT D.int) lot), some (D.bl (m_exchanged_in_has_one one lot)), some (D.bl (m_exchanged_in_has_other other lot))]) rfl (ev_call (ds := [((enT D.int) lot), ((enT D.int) one), ((enT D.int) other)]) (evs_cons (ev_var rfl) (evs_cons (ev_var rfl) (evs_cons (ev_var rfl) evs_nil))) (r_replaced k (by omega) lot one other (by first | assumption | omega | grind [LINE_eq, FUEL_eq, srt_length, mem_srt, rangeI_length, mem_rangeI, enumI_length, → enumI_snd, → enumI_fst, cut_length, → mem_cut, m_exchanged_in_found, m_exchanged_in_has_one, m_exchanged_in_has_other, replaced_ne]) (by first | assumption | omega | grind [LINE_eq, FUEL_eq, srt_length, mem_srt, rangeI_length, mem_rangeI, enumI_length, → enumI_snd, → enumI_fst, cut_length, → mem_cut, m_exchanged_in_found, m_exchanged_in_has_one, m_exchanged_in_has_other, replaced_ne]))) (by first | assumption | omega | grind [LINE_eq, FUEL_eq, srt_length, mem_srt, rangeI_length, mem_rangeI, enumI_length, → enumI_snd, → enumI_fst, cut_length, → mem_cut, m_exchanged_in_found, m_exchanged_in_has_one, m_exchanged_in_has_other, replaced_ne]) rfl
  (kt_sq (kt_nil ⟨((some ((enT D.int) lot)), (some (D.bl (m_exchanged_in_has_one one lot))), (some (D.bl (m_exchanged_in_has_other other lot)))), rfl⟩)))) (fun hb4 => (kt_ifJ (z := ((m_exchanged_in_has_other other lot) && (!(m_exchanged_in_has_one one lot)))) (fun (j2 : Unit) => [some ((enT (enT D.int)) forest), some ((enT D.int) one), some ((enT D.int) other), some ((enL (enT D.int)) (if ((m_exchanged_in_has_other other lot) && (!(m_exchanged_in_has_one one lot))) then (v1 ++ [(m_replaced lot other one)]) else (v1 ++ [lot]))), some ((enT D.int) lot), some (D.bl (m_exchanged_in_has_one one lot)), some (D.bl (m_exchanged_in_has_other other lot))]) (ev_and (ev_var rfl) (fun hq => (ev_not (ev_var rfl)))) (fun hb3 σ => (kt_app (ea := (enT D.int)) (ρ' := [some ((enT (enT D.int)) forest), some ((enT D.int) one), some ((enT D.int) other), some ((enL (enT D.int)) (v1 ++ [(m_replaced lot other one)])), some ((enT D.int) lot), some (D.bl (m_exchanged_in_has_one one lot)), some (D.bl (m_exchanged_in_has_other other lot))]) rfl (ev_call (ds := [((enT D.int) lot), ((enT D.int) other), ((enT D.int) one)]) (evs_cons (ev_var rfl) (evs_cons (ev_var rfl) (evs_cons (ev_var rfl) evs_nil))) (r_replaced k (by omega) lot other one (by first | assumption | omega | grind [LINE_eq, FUEL_eq, srt_length, mem_srt, rangeI_length, mem_rangeI, enumI_length, → enumI_snd, → enumI_fst, cut_length, → mem_cut, m_exchanged_in_found, m_exchanged_in_has_one, m_exchanged_in_has_other, replaced_ne]) (by first | assumption | omega | grind [LINE_eq, FUEL_eq, srt_length, mem_srt, rangeI_length, mem_rangeI, enumI_length, → enumI_snd, → enumI_fst, cut_length, → mem_cut, m_exchanged_in_found, m_exchanged_in_has_one, m_exchanged_in_has_other, replaced_ne]))) (by first | assumption | omega | grind [LINE_eq, FUEL_eq, srt_length, mem_srt, rangeI_length, mem_rangeI, enumI_length, → enumI_snd, → enumI_fst, cut_length, → mem_cut, m_exchanged_in_found, m_exchanged_in_has_one, m_exchanged_in_has_other, replaced_ne]) rfl
  (kt_nil ⟨(), nxE (by first | rfl | (simp only [hb3, m_exchanged_in_found, m_exchanged_in_has_one, m_exchanged_in_has_other]; rfl) | grind)⟩))) (fun hb3 σ => (kt_app (ea := (enT D.int)) (ρ' := [some ((enT (enT D.int)) forest), some ((enT D.int) one), some ((enT D.int) other), some ((enL (enT D.int)) (v1 ++ [lot])), some ((enT D.int) lot), some (D.bl (m_exchanged_in_has_one one lot)), some (D.bl (m_exchanged_in_has_other other lot))]) rfl (ev_var rfl) (by first | assumption | omega | grind [LINE_eq, FUEL_eq, srt_length, mem_srt, rangeI_length, mem_rangeI, enumI_length, → enumI_snd, → enumI_fst, cut_length, → mem_cut, m_exchanged_in_found, m_exchanged_in_has_one, m_exchanged_in_has_other, replaced_ne]) rfl
  (kt_nil ⟨(), nxE (by first | rfl | (simp only [hb3, m_exchanged_in_found, m_exchanged_in_has_one, m_exchanged_in_has_other]; rfl) | grind)⟩))) (fun j2 =>
  (kt_sq (kt_nil ⟨((some ((enT D.int) lot)), (some (D.bl (m_exchanged_in_has_one one lot))), (some (D.bl (m_exchanged_in_has_other other lot)))), rfl⟩)))))))⟩) (fun j1 hI =>
  (kt_ret (d := ((enT (enT D.int)) (srt (enT D.int) (m_exchanged_in_L1_out forest one other)))) (ev_tupL (ea := (enT D.int)) (ev_sortL (ea := (enT D.int)) (ev_var rfl) (by decide) (by first | assumption | omega | grind [LINE_eq, FUEL_eq, srt_length, mem_srt, rangeI_length, mem_rangeI, enumI_length, → enumI_snd, → enumI_fst, cut_length, → mem_cut, m_exchanged_in_found, m_exchanged_in_has_one, m_exchanged_in_has_other, m_exchanged_in_L1, m_exchanged_in_L1_out, replaced_ne] | exact Nat.le_trans (flatMap_le 1000 1000 (by grind [LINE_eq, FUEL_eq, srt_length, mem_srt, rangeI_length, mem_rangeI, enumI_length, → enumI_snd, → enumI_fst, cut_length, → mem_cut, m_exchanged_in_found, m_exchanged_in_has_one, m_exchanged_in_has_other, m_exchanged_in_L1, m_exchanged_in_L1_out, replaced_ne]) (by grind [LINE_eq, FUEL_eq, srt_length, mem_srt, rangeI_length, mem_rangeI, enumI_length, → enumI_snd, → enumI_fst, cut_length, → mem_cut, m_exchanged_in_found, m_exchanged_in_has_one, m_exchanged_in_has_other, m_exchanged_in_L1, m_exchanged_in_L1_out, replaced_ne])) (by rw [LINE_eq]; omega)) (.inl fun y hy => full_ne (by first | assumption | omega | grind [LINE_eq, FUEL_eq, srt_length, mem_srt, rangeI_length, mem_rangeI, enumI_length, → enumI_snd, → enumI_fst, cut_length, → mem_cut, m_exchanged_in_found, m_exchanged_in_has_one, m_exchanged_in_has_other, m_exchanged_in_L1, m_exchanged_in_L1_out, replaced_ne])))) rfl)))))
theorem r_tops (k : Nat) (hk : 2 ≤ k) (many : Int) (joins_so : (List (List Int))) (h1 : 0 ≤ many ∧ many ≤ 100) (h2 : joins_so.length ≤ 100) (h3 : ∀ a ∈ joins_so, a.length ≤ 100 ∧ a ≠ []) : Φ k 17 [(D.int many), ((enT (enT D.int)) joins_so)] = pure ((enL (enT D.int)) (m_tops many joins_so)) := by
  obtain ⟨k, rfl⟩ : ∃ j, k = j + 1 := ⟨k - 1, by omega⟩
  skip
  exact runF_pure (c := (cx k)) (f := d__law_tops) (e := (enL (enT D.int))) (v := m_tops many joins_so) fun σ => (show Kt (cx k) b__law_tops [some (D.int many), some ((enT (enT D.int)) joins_so), none, none, none, none, none] fin σ (QV _ σ _) from
  (kt_asg (d := ((enL (enT D.int)) (m_tops_parts_here many joins_so))) (ρ' := [some (D.int many), some ((enT (enT D.int)) joins_so), some ((enL (enT D.int)) (m_tops_parts_here many joins_so)), none, none, none, none]) (ev_catL (ea := (enT D.int)) (ev_compN (eb := (enT D.int)) (g := (fun (one : Int) => ([one] : List Int))) (ea := D.int) (r := (fun one => [some (D.int many), some ((enT (enT D.int)) joins_so), none, none, none, some (D.int one), none])) (evi_range1 (ev_var rfl) (by first | assumption | omega | grind [LINE_eq, FUEL_eq, srt_length, mem_srt, rangeI_length, mem_rangeI, enumI_length, → enumI_snd, → enumI_fst, cut_length, → mem_cut])) (fun _ => rfl) (fun one hone => (ev_dispT (ea := D.int) (evss_cons (ev_var rfl) evss_nil) rfl (lenLit (Nat.le_of_ble_eq_true rfl)))) (by first | assumption | omega | grind [LINE_eq, FUEL_eq, srt_length, mem_srt, rangeI_length, mem_rangeI, enumI_length, → enumI_snd, → enumI_fst, cut_length, → mem_cut])) (ev_lstT (ea := (enT D.int)) (ev_var rfl)) (by first | assumption | omega | grind [LINE_eq, FUEL_eq, srt_length, mem_srt, rangeI_length, mem_rangeI, enumI_length, → enumI_snd, → enumI_fst, cut_length, → mem_cut])) rfl
  (kt_asg (d := ((enL (enT D.int)) m_tops_got)) (ρ' := [some (D.int many), some ((enT (enT D.int)) joins_so), some ((enL (enT D.int)) (m_tops_parts_here many joins_so)), some ((enL (enT D.int)) m_tops_got), none, none, none]) (ev_dispL (ea := (enT D.int)) evss_nil rfl (lenLit (Nat.le_of_ble_eq_true rfl))) rfl
  (kt_fz (kt_for (ea := (enT D.int)) (fun (v1 : (List (List Int))) (j1 : Option D) => [some (D.int many), some ((enT (enT D.int)) joins_so), some ((enL (enT D.int)) (m_tops_parts_here many joins_so)), some ((enL (enT D.int)) v1), j1, none, none]) (m_tops_L1 joins_so) (fun (p : List (List Int)) (v : List (List Int)) => v.length ≤ p.length ∧ ∀ y ∈ v, y ≠ []) (v0 := m_tops_got) (j0 := none) (evi_L (ea := (enT D.int)) (ev_var rfl)) rfl (by first | trivial | grind) (fun p_ part q_ v1 j1 e_ hI => have hpart : part ∈ (m_tops_parts_here many joins_so) := by rw [e_]; simp
  have hlen : _ = p_.length + q_.length + 1 := (congrArg List.length e_).trans (by simp; omega)
  ⟨by first | trivial | grind [LINE_eq, srt_length, m_tops_parts_here, m_tops_got, m_tops_L1], [some (D.int many), some ((enT (enT D.int)) joins_so), some ((enL (enT D.int)) (m_tops_parts_here many joins_so)), some ((enL (enT D.int)) v1), some ((enT D.int) part), none, none], rfl, fun σ => (kt_ifQ (z := (decide (((joins_so.filter (fun (lot : (List Int)) => (m_inside part lot))).map (fun (lot : (List Int)) => (1 : Int))) = ([] : List Int)))) (Q := QL (fun (v1 : (List (List Int))) (j1 : Option D) => [some (D.int many), some ((enT (enT D.int)) joins_so), some ((enL (enT D.int)) (m_tops_parts_here many joins_so)), some ((enL (enT D.int)) v1), j1, none, none]) σ) (x := (v1 ++ [part])) (y := v1) (ev_cmp (x := ((enL D.int) ((joins_so.filter (fun (lot : (List Int)) => (m_inside part lot))).map (fun (lot : (List Int)) => (1 : Int))))) (y := ((enL D.int) ([] : List Int))) (ev_comp (eb := D.int) (p := (fun (lot : (List Int)) => (m_inside part lot))) (g := (fun (lot : (List Int)) => (1 : Int))) (ea := (enT D.int)) (r := (fun lot => [some (D.int many), some ((enT (enT D.int)) joins_so), some ((enL (enT D.int)) (m_tops_parts_here many joins_so)), some ((enL (enT D.int)) v1), some ((enT D.int) part), none, some ((enT D.int) lot)])) (evi_T (ea := (enT D.int)) (ev_var rfl)) (fun _ => rfl) (fun lot hlot => evc_yes (ev_call (ds := [((enT D.int) part), ((enT D.int) lot)]) (evs_cons (ev_var rfl) (evs_cons (ev_var rfl) evs_nil)) (r_inside k (by omega) part lot (by first | assumption | omega | grind [LINE_eq, FUEL_eq, srt_length, mem_srt, rangeI_length, mem_rangeI, enumI_length, → enumI_snd, → enumI_fst, cut_length, → mem_cut, m_tops_parts_here, m_tops_got])))) (fun lot hlot hphlot => (ev_int 1)) (by first | assumption | omega | grind [LINE_eq, FUEL_eq, srt_length, mem_srt, rangeI_length, mem_rangeI, enumI_length, → enumI_snd, → enumI_fst, cut_length, → mem_cut, m_tops_parts_here, m_tops_got])) (ev_dispL (ea := D.int) evss_nil rfl (lenLit (Nat.le_of_ble_eq_true rfl))) (cm_eq (ea := (enL D.int)) _ _ (by decide))) (fun hb2 => (kt_app (ea := (enT D.int)) (ρ' := [some (D.int many), some ((enT (enT D.int)) joins_so), some ((enL (enT D.int)) (m_tops_parts_here many joins_so)), some ((enL (enT D.int)) (v1 ++ [part])), some ((enT D.int) part), none, none]) rfl (ev_var rfl) (by first | assumption | omega | grind [LINE_eq, FUEL_eq, srt_length, mem_srt, rangeI_length, mem_rangeI, enumI_length, → enumI_snd, → enumI_fst, cut_length, → mem_cut, m_tops_parts_here, m_tops_got]) rfl
  (kt_sq (kt_nil ⟨(some ((enT D.int) part)), rfl⟩)))) (fun hb2 => (kt_sq (kt_nil ⟨(some ((enT D.int) part)), rfl⟩))))⟩) (fun j1 hI =>
  (kt_ret (d := ((enL (enT D.int)) (srt (enT D.int) (m_tops_L1_out many joins_so)))) (ev_sortL (ea := (enT D.int)) (ev_var rfl) (by decide) (by first | assumption | omega | grind [LINE_eq, FUEL_eq, srt_length, mem_srt, rangeI_length, mem_rangeI, enumI_length, → enumI_snd, → enumI_fst, cut_length, → mem_cut, m_tops_parts_here, m_tops_got, m_tops_L1, m_tops_L1_out] | exact Nat.le_trans (flatMap_le 1000 1000 (by grind [LINE_eq, FUEL_eq, srt_length, mem_srt, rangeI_length, mem_rangeI, enumI_length, → enumI_snd, → enumI_fst, cut_length, → mem_cut, m_tops_parts_here, m_tops_got, m_tops_L1, m_tops_L1_out]) (by grind [LINE_eq, FUEL_eq, srt_length, mem_srt, rangeI_length, mem_rangeI, enumI_length, → enumI_snd, → enumI_fst, cut_length, → mem_cut, m_tops_parts_here, m_tops_got, m_tops_L1, m_tops_L1_out])) (by rw [LINE_eq]; omega)) (.inl fun y hy => full_ne (by first | assumption | omega | grind [LINE_eq, FUEL_eq, srt_length, mem_srt, rangeI_length, mem_rangeI, enumI_length, → enumI_snd, → enumI_fst, cut_length, → mem_cut, m_tops_parts_here, m_tops_got, m_tops_L1, m_tops_L1_out]))) rfl)))))))
theorem r_depth (k : Nat) (hk : 2 ≤ k) (joins_so : (List (List Int))) (part : (List Int)) (h1 : joins_so.length ≤ 100) (h2 : ∀ a ∈ joins_so, a.length ≤ 100 ∧ a ≠ []) (h3 : part.length ≤ 100) : Φ k 18 [((enT (enT D.int)) joins_so), ((enT D.int) part)] = pure (D.int (m_depth joins_so part)) := by
  obtain ⟨k, rfl⟩ : ∃ j, k = j + 1 := ⟨k - 1, by omega⟩
  skip
  exact runF_pure (c := (cx k)) (f := d__law_depth) (e := D.int) (v := m_depth joins_so part) fun σ => (show Kt (cx k) b__law_depth [some ((enT (enT D.int)) joins_so), some ((enT D.int) part), none] fin σ (QV _ σ _) from
  (kt_ret (d := (D.int ((joins_so.filter (fun (lot : (List Int)) => (m_inside part lot))).length : Int))) (ev_lenL (ea := (enT D.int)) (ev_compF (p := (fun (lot : (List Int)) => (m_inside part lot))) (ea := (enT D.int)) (r := (fun lot => [some ((enT (enT D.int)) joins_so), some ((enT D.int) part), some ((enT D.int) lot)])) (evi_T (ea := (enT D.int)) (ev_var rfl)) (fun _ => rfl) (fun lot hlot => evc_yes (ev_call (ds := [((enT D.int) part), ((enT D.int) lot)]) (evs_cons (ev_var rfl) (evs_cons (ev_var rfl) evs_nil)) (r_inside k (by omega) part lot (by first | assumption | omega | grind [LINE_eq, FUEL_eq, srt_length, mem_srt, rangeI_length, mem_rangeI, enumI_length, → enumI_snd, → enumI_fst, cut_length, → mem_cut])))) (fun lot hlot hphlot => (ev_var rfl)) (by first | assumption | omega | grind [LINE_eq, FUEL_eq, srt_length, mem_srt, rangeI_length, mem_rangeI, enumI_length, → enumI_snd, → enumI_fst, cut_length, → mem_cut]))) rfl))
theorem r_changed (k : Nat) (hk : 2 ≤ k) (joins_so : (List (List Int))) (one : (List Int)) (far : (List Int)) (h1 : joins_so.length ≤ 100) (h2 : ∀ a ∈ joins_so, a.length ≤ 100 ∧ a ≠ []) (h3 : one.length ≤ 100) (h4 : far.length ≤ 100) (h5 : one ≠ []) (h6 : far ≠ []) : Φ k 19 [((enT (enT D.int)) joins_so), ((enT D.int) one), ((enT D.int) far)] = pure ((enT (enT D.int)) (m_changed joins_so one far)) := by
  obtain ⟨k, rfl⟩ : ∃ j, k = j + 1 := ⟨k - 1, by omega⟩
  skip
  exact runF_pure (c := (cx k)) (f := d__law_changed) (e := (enT (enT D.int))) (v := m_changed joins_so one far) fun σ => (show Kt (cx k) b__law_changed [some ((enT (enT D.int)) joins_so), some ((enT D.int) one), some ((enT D.int) far), none, none, none, none, none] fin σ (QV _ σ _) from
  (kt_asg (d := ((enL (enT D.int)) m_changed_got)) (ρ' := [some ((enT (enT D.int)) joins_so), some ((enT D.int) one), some ((enT D.int) far), some ((enL (enT D.int)) m_changed_got), none, none, none, none]) (ev_dispL (ea := (enT D.int)) evss_nil rfl (lenLit (Nat.le_of_ble_eq_true rfl))) rfl
  (kt_for (ea := (enT D.int)) (fun (v1 : (List (List Int))) (j1 : Option D × Option D × Option D) => [some ((enT (enT D.int)) joins_so), some ((enT D.int) one), some ((enT D.int) far), some ((enL (enT D.int)) v1), j1.1, j1.2.1, j1.2.2, none]) (m_changed_L1 one far) (fun (p : List (List Int)) (v : List (List Int)) => v.length ≤ p.length ∧ ∀ y ∈ v, y ≠ []) (v0 := m_changed_got) (j0 := (none, none, none)) (evi_T (ea := (enT D.int)) (ev_var rfl)) rfl (by first | trivial | grind) (fun p_ lot q_ v1 j1 e_ hI => have hlot : lot ∈ joins_so := by rw [e_]; simp
  have hlen : _ = p_.length + q_.length + 1 := (congrArg List.length e_).trans (by simp; omega)
  ⟨by first | trivial | grind [LINE_eq, srt_length, m_changed_got, m_changed_out_into, m_changed_got2, m_changed_L1, sort_catL_ne], [some ((enT (enT D.int)) joins_so), some ((enT D.int) one), some ((enT D.int) far), some ((enL (enT D.int)) v1), some ((enT D.int) lot), j1.2.1, j1.2.2, none], rfl, fun σ => (kt_ifQ (z := (decide ((m_inside one lot) = (m_inside far lot)))) (Q := QL (fun (v1 : (List (List Int))) (j1 : Option D × Option D × Option D) => [some ((enT (enT D.int)) joins_so), some ((enT D.int) one), some ((enT D.int) far), some ((enL (enT D.int)) v1), j1.1, j1.2.1, j1.2.2, none]) σ) (x := (v1 ++ [lot])) (y := (m_changed_got2 one far v1 lot)) (ev_cmp (x := (D.bl (m_inside one lot))) (y := (D.bl (m_inside far lot))) (ev_call (ds := [((enT D.int) one), ((enT D.int) lot)]) (evs_cons (ev_var rfl) (evs_cons (ev_var rfl) evs_nil)) (r_inside k (by omega) one lot (by first | assumption | omega | grind [LINE_eq, FUEL_eq, srt_length, mem_srt, rangeI_length, mem_rangeI, enumI_length, → enumI_snd, → enumI_fst, cut_length, → mem_cut, m_changed_got, sort_catL_ne]))) (ev_call (ds := [((enT D.int) far), ((enT D.int) lot)]) (evs_cons (ev_var rfl) (evs_cons (ev_var rfl) evs_nil)) (r_inside k (by omega) far lot (by first | assumption | omega | grind [LINE_eq, FUEL_eq, srt_length, mem_srt, rangeI_length, mem_rangeI, enumI_length, → enumI_snd, → enumI_fst, cut_length, → mem_cut, m_changed_got, sort_catL_ne]))) (cm_eq (ea := D.bl) _ _ (by decide))) (fun hb2 => (kt_app (ea := (enT D.int)) (ρ' := [some ((enT (enT D.int)) joins_so), some ((enT D.int) one), some ((enT D.int) far), some ((enL (enT D.int)) (v1 ++ [lot])), some ((enT D.int) lot), j1.2.1, j1.2.2, none]) rfl (ev_var rfl) (by first | assumption | omega | grind [LINE_eq, FUEL_eq, srt_length, mem_srt, rangeI_length, mem_rangeI, enumI_length, → enumI_snd, → enumI_fst, cut_length, → mem_cut, m_changed_got, sort_catL_ne]) rfl
  (kt_sq (kt_nil ⟨((some ((enT D.int) lot)), j1.2.1, j1.2.2), rfl⟩)))) (fun hb2 => (kt_asg (d := ((enP (enT D.int) (enT D.int)) (m_changed_out_into one far lot))) (ρ' := [some ((enT (enT D.int)) joins_so), some ((enT D.int) one), some ((enT D.int) far), some ((enL (enT D.int)) v1), some ((enT D.int) lot), some ((enT D.int) (m_changed_out_into one far lot).1), some ((enT D.int) (m_changed_out_into one far lot).2), none]) (ev_ife (ea := (enP (enT D.int) (enT D.int))) (ev_call (ds := [((enT D.int) one), ((enT D.int) lot)]) (evs_cons (ev_var rfl) (evs_cons (ev_var rfl) evs_nil)) (r_inside k (by omega) one lot (by first | assumption | omega | grind [LINE_eq, FUEL_eq, srt_length, mem_srt, rangeI_length, mem_rangeI, enumI_length, → enumI_snd, → enumI_fst, cut_length, → mem_cut, m_changed_got, sort_catL_ne]))) (fun _ => (ev_pair (ea := (enT D.int)) (eb := (enT D.int)) (ev_var rfl) (ev_var rfl))) (fun _ => (ev_pair (ea := (enT D.int)) (eb := (enT D.int)) (ev_var rfl) (ev_var rfl)))) rfl
  (kt_app (ea := (enT D.int)) (ρ' := [some ((enT (enT D.int)) joins_so), some ((enT D.int) one), some ((enT D.int) far), some ((enL (enT D.int)) (m_changed_got2 one far v1 lot)), some ((enT D.int) lot), some ((enT D.int) (m_changed_out_into one far lot).1), some ((enT D.int) (m_changed_out_into one far lot).2), none]) rfl (ev_tupL (ea := D.int) (ev_sortL (ea := D.int) (ev_catL (ea := D.int) (ev_compF (p := (fun (spot : Int) => (!decide (spot ∈ (m_changed_out_into one far lot).1)))) (ea := D.int) (r := (fun spot => [some ((enT (enT D.int)) joins_so), some ((enT D.int) one), some ((enT D.int) far), some ((enL (enT D.int)) v1), some ((enT D.int) lot), some ((enT D.int) (m_changed_out_into one far lot).1), some ((enT D.int) (m_changed_out_into one far lot).2), some (D.int spot)])) (evi_T (ea := D.int) (ev_var rfl)) (fun _ => rfl) (fun spot hspot => evc_yes (ev_cmp (x := (D.int spot)) (y := ((enT D.int) (m_changed_out_into one far lot).1)) (ev_var rfl) (ev_var rfl) (cm_ninT (ea := D.int) _ _ (by decide)))) (fun spot hspot hphspot => (ev_var rfl)) (by first | assumption | omega | grind [LINE_eq, FUEL_eq, srt_length, mem_srt, rangeI_length, mem_rangeI, enumI_length, → enumI_snd, → enumI_fst, cut_length, → mem_cut, m_changed_got, m_changed_out_into, sort_catL_ne])) (ev_lstT (ea := D.int) (ev_var rfl)) (by first | assumption | omega | grind [LINE_eq, FUEL_eq, srt_length, mem_srt, rangeI_length, mem_rangeI, enumI_length, → enumI_snd, → enumI_fst, cut_length, → mem_cut, m_changed_got, m_changed_out_into, sort_catL_ne])) (by decide) (by first | assumption | omega | grind [LINE_eq, FUEL_eq, srt_length, mem_srt, rangeI_length, mem_rangeI, enumI_length, → enumI_snd, → enumI_fst, cut_length, → mem_cut, m_changed_got, m_changed_out_into, sort_catL_ne] | exact Nat.le_trans (flatMap_le 1000 1000 (by grind [LINE_eq, FUEL_eq, srt_length, mem_srt, rangeI_length, mem_rangeI, enumI_length, → enumI_snd, → enumI_fst, cut_length, → mem_cut, m_changed_got, m_changed_out_into, sort_catL_ne]) (by grind [LINE_eq, FUEL_eq, srt_length, mem_srt, rangeI_length, mem_rangeI, enumI_length, → enumI_snd, → enumI_fst, cut_length, → mem_cut, m_changed_got, m_changed_out_into, sort_catL_ne])) (by rw [LINE_eq]; omega)) (.inr fun _ _ => rfl))) (by first | assumption | omega | grind [LINE_eq, FUEL_eq, srt_length, mem_srt, rangeI_length, mem_rangeI, enumI_length, → enumI_snd, → enumI_fst, cut_length, → mem_cut, m_changed_got, m_changed_out_into, m_changed_got2, sort_catL_ne]) rfl
  (kt_sq (kt_nil ⟨((some ((enT D.int) lot)), (some ((enT D.int) (m_changed_out_into one far lot).1)), (some ((enT D.int) (m_changed_out_into one far lot).2))), rfl⟩))))))⟩) (fun j1 hI =>
  (kt_ret (d := ((enT (enT D.int)) (srt (enT D.int) (m_changed_L1_out joins_so one far)))) (ev_tupL (ea := (enT D.int)) (ev_sortL (ea := (enT D.int)) (ev_var rfl) (by decide) (by first | assumption | omega | grind [LINE_eq, FUEL_eq, srt_length, mem_srt, rangeI_length, mem_rangeI, enumI_length, → enumI_snd, → enumI_fst, cut_length, → mem_cut, m_changed_got, m_changed_out_into, m_changed_got2, m_changed_L1, m_changed_L1_out, sort_catL_ne] | exact Nat.le_trans (flatMap_le 1000 1000 (by grind [LINE_eq, FUEL_eq, srt_length, mem_srt, rangeI_length, mem_rangeI, enumI_length, → enumI_snd, → enumI_fst, cut_length, → mem_cut, m_changed_got, m_changed_out_into, m_changed_got2, m_changed_L1, m_changed_L1_out, sort_catL_ne]) (by grind [LINE_eq, FUEL_eq, srt_length, mem_srt, rangeI_length, mem_rangeI, enumI_length, → enumI_snd, → enumI_fst, cut_length, → mem_cut, m_changed_got, m_changed_out_into, m_changed_got2, m_changed_L1, m_changed_L1_out, sort_catL_ne])) (by rw [LINE_eq]; omega)) (.inl fun y hy => full_ne (by first | assumption | omega | grind [LINE_eq, FUEL_eq, srt_length, mem_srt, rangeI_length, mem_rangeI, enumI_length, → enumI_snd, → enumI_fst, cut_length, → mem_cut, m_changed_got, m_changed_out_into, m_changed_got2, m_changed_L1, m_changed_L1_out, sort_catL_ne])))) rfl)))))
theorem r_is_heaps (k : Nat) (hk : 3 ≤ k) (thing : (List Int))  : Φ k 20 [((enT D.int) thing)] = pure (D.bl (m_is_heaps thing)) := by
  obtain ⟨k, rfl⟩ : ∃ j, k = j + 1 := ⟨k - 1, by omega⟩
  skip
  exact runF_pure (c := (cx k)) (f := d_is_heaps) (e := D.bl) (v := m_is_heaps thing) fun σ => (show Kt (cx k) b_is_heaps [some ((enT D.int) thing), none] fin σ (QV _ σ _) from
  (kt_ifQ (z := ((!true) || (!(decide ((1 : Int) ≤ (thing.length : Int)) && decide ((thing.length : Int) ≤ (8 : Int)))))) (Q := QV D.bl σ) (x := false) (y := ((thing.map (fun (weight : Int) => (m_is_between weight (1 : Int) (1000000000 : Int)))).all id)) (ev_or (ev_not (ev_isi ((ev_var rfl) : Ev _ _ _ ((enT D.int) thing)) rfl)) (fun hq => (ev_not (ev_chain (ev_int 1) (ev_lenT (ea := D.int) (ev_var rfl)) (ev_glob (gam_at _ rfl)) (cm_le _ _) (cm_le _ _))))) (fun hb1 => (kt_ret (d := (D.bl false)) (ev_bl false) rfl)) (fun hb1 => (kt_sq (kt_ret (d := (D.bl ((thing.map (fun (weight : Int) => (m_is_between weight (1 : Int) (1000000000 : Int)))).all id))) (ev_all (ev_compN (eb := D.bl) (g := (fun (weight : Int) => (m_is_between weight (1 : Int) (1000000000 : Int)))) (ea := D.int) (r := (fun weight => [some ((enT D.int) thing), some (D.int weight)])) (evi_T (ea := D.int) (ev_var rfl)) (fun _ => rfl) (fun weight hweight => (ev_call (ds := [(D.int weight), (D.int (1 : Int)), (D.int (1000000000 : Int))]) (evs_cons (ev_var rfl) (evs_cons (ev_int 1) (evs_cons (ev_glob (gam_at _ rfl)) evs_nil))) (r_is_between k (by omega) weight (1 : Int) (1000000000 : Int) ))) (by first | assumption | omega | grind [LINE_eq, FUEL_eq, srt_length, mem_srt, rangeI_length, mem_rangeI, enumI_length, → enumI_snd, → enumI_fst, cut_length, → mem_cut]))) rfl)))))
theorem r_is_lot (k : Nat) (hk : 3 ≤ k) (heaps : (List Int)) (thing : (List Int)) (h1 : heaps.length ≤ 8) (h2 : thing.length ≤ 100) : Φ k 21 [((enT D.int) heaps), ((enT D.int) thing)] = pure (D.bl (m_is_lot heaps thing)) := by
  obtain ⟨k, rfl⟩ : ∃ j, k = j + 1 := ⟨k - 1, by omega⟩
  skip
  exact runF_pure (c := (cx k)) (f := d_is_lot) (e := D.bl) (v := m_is_lot heaps thing) fun σ => (show Kt (cx k) b_is_lot [some ((enT D.int) heaps), some ((enT D.int) thing), none] fin σ (QV _ σ _) from
  (kt_ifQ (z := ((!true) || (decide (thing = ([] : List Int))))) (Q := QV D.bl σ) (x := false) (y := (((thing.map (fun (number : Int) => (m_is_between number (0 : Int) ((heaps.length : Int) - (1 : Int))))).all id) && (m_are_risingI thing))) (ev_or (ev_not (ev_isi ((ev_var rfl) : Ev _ _ _ ((enT D.int) thing)) rfl)) (fun hq => (ev_cmp (x := ((enT D.int) thing)) (y := ((enT D.int) ([] : List Int))) (ev_var rfl) (ev_dispT (ea := D.int) evss_nil rfl (lenLit (Nat.le_of_ble_eq_true rfl))) (cm_eq (ea := (enT D.int)) _ _ (by decide))))) (fun hb1 => (kt_ret (d := (D.bl false)) (ev_bl false) rfl)) (fun hb1 => (kt_sq (kt_ret (d := (D.bl (((thing.map (fun (number : Int) => (m_is_between number (0 : Int) ((heaps.length : Int) - (1 : Int))))).all id) && (m_are_risingI thing)))) (ev_and (ev_all (ev_compN (eb := D.bl) (g := (fun (number : Int) => (m_is_between number (0 : Int) ((heaps.length : Int) - (1 : Int))))) (ea := D.int) (r := (fun number => [some ((enT D.int) heaps), some ((enT D.int) thing), some (D.int number)])) (evi_T (ea := D.int) (ev_var rfl)) (fun _ => rfl) (fun number hnumber => (ev_call (ds := [(D.int number), (D.int (0 : Int)), (D.int ((heaps.length : Int) - (1 : Int)))]) (evs_cons (ev_var rfl) (evs_cons (ev_int 0) (evs_cons (ev_sub (ev_lenT (ea := D.int) (ev_var rfl)) (ev_int 1)) evs_nil))) (r_is_between k (by omega) number (0 : Int) ((heaps.length : Int) - (1 : Int)) ))) (by first | assumption | omega | grind [LINE_eq, FUEL_eq, srt_length, mem_srt, rangeI_length, mem_rangeI, enumI_length, → enumI_snd, → enumI_fst, cut_length, → mem_cut]))) (fun hq => (ev_call (ds := [((enT D.int) thing)]) (evs_cons (ev_var rfl) evs_nil) (r_are_risingI k (by omega) thing (by first | assumption | omega | grind [LINE_eq, FUEL_eq, srt_length, mem_srt, rangeI_length, mem_rangeI, enumI_length, → enumI_snd, → enumI_fst, cut_length, → mem_cut]))))) rfl)))))
theorem r_need_heaps (k : Nat) (hk : 4 ≤ k) (thing : (List Int)) (h1 : m_is_heaps thing = true) : Φ k 24 [((enT D.int) thing)] = pure ((enT D.int) (m_need_heaps thing)) := by
  obtain ⟨k, rfl⟩ : ∃ j, k = j + 1 := ⟨k - 1, by omega⟩
  skip
  exact runF_pure (c := (cx k)) (f := d_need_heaps) (e := (enT D.int)) (v := m_need_heaps thing) fun σ => (show Kt (cx k) b_need_heaps [some ((enT D.int) thing)] fin σ (QV _ σ _) from
  (kt_ifN (z := (!(m_is_heaps thing))) (ev_not (ev_call (ds := [((enT D.int) thing)]) (evs_cons (ev_var rfl) evs_nil) (r_is_heaps k (by omega) thing ))) (by simp [h1])
  (kt_sq (kt_ret (d := ((enT D.int) thing)) (ev_var rfl) rfl))))
theorem r_need_lot (k : Nat) (hk : 4 ≤ k) (heaps : (List Int)) (lot : (List Int)) (h1 : heaps.length ≤ 8) (h2 : lot.length ≤ 100) (h3 : m_is_lot heaps lot = true) : Φ k 25 [((enT D.int) heaps), ((enT D.int) lot)] = pure D.non := by
  obtain ⟨k, rfl⟩ : ∃ j, k = j + 1 := ⟨k - 1, by omega⟩
  skip
  exact runF_pure (c := (cx k)) (f := d_need_lot) (e := enN) (v := m_need_lot heaps lot) fun σ => (show Kt (cx k) b_need_lot [some ((enT D.int) heaps), some ((enT D.int) lot)] fin σ (QV _ σ _) from
  (kt_ifN (z := (!(m_is_lot heaps lot))) (ev_not (ev_call (ds := [((enT D.int) heaps), ((enT D.int) lot)]) (evs_cons (ev_var rfl) (evs_cons (ev_var rfl) evs_nil)) (r_is_lot k (by omega) heaps lot (by first | assumption | omega | grind [LINE_eq, FUEL_eq, srt_length, mem_srt, rangeI_length, mem_rangeI, enumI_length, → enumI_snd, → enumI_fst, cut_length, → mem_cut]) (by first | assumption | omega | grind [LINE_eq, FUEL_eq, srt_length, mem_srt, rangeI_length, mem_rangeI, enumI_length, → enumI_snd, → enumI_fst, cut_length, → mem_cut])))) (by simp [h3])
  (kt_sq (kt_nil rfl))))
theorem r_is_forest (k : Nat) (hk : 4 ≤ k) (heaps : (List Int)) (thing : (List (List Int))) (h1 : heaps.length ≤ 8) (h2 : thing.length ≤ 100) (h3 : ∀ a ∈ thing, a.length ≤ 100 ∧ a ≠ []) : Φ k 26 [((enT D.int) heaps), ((enT (enT D.int)) thing)] = pure (D.bl (m_is_forest heaps thing)) := by
  obtain ⟨k, rfl⟩ : ∃ j, k = j + 1 := ⟨k - 1, by omega⟩
  skip
  exact runF_pure (c := (cx k)) (f := d_is_forest) (e := D.bl) (v := m_is_forest heaps thing) fun σ => (show Kt (cx k) b_is_forest [some ((enT D.int) heaps), some ((enT (enT D.int)) thing), none, none, none, none] fin σ (QV _ σ _) from
  (kt_ifQ (z := ((!true) || (!((thing.map (fun (lot : (List Int)) => ((m_is_lot heaps lot) && (decide ((1 : Int) < (lot.length : Int)))))).all id)))) (Q := QV D.bl σ) (x := false) (y := (if (!(m_are_rising thing)) then false else (Sum.elim id (fun (_ : Unit) => ((thing.map (fun (lot : (List Int)) => (decide (((m_parts_in thing lot).length : Int) = (2 : Int))))).all id)) (m_is_forest_R1 thing)))) (ev_or (ev_not (ev_isi ((ev_var rfl) : Ev _ _ _ ((enT (enT D.int)) thing)) rfl)) (fun hq => (ev_not (ev_all (ev_compN (eb := D.bl) (g := (fun (lot : (List Int)) => ((m_is_lot heaps lot) && (decide ((1 : Int) < (lot.length : Int)))))) (ea := (enT D.int)) (r := (fun lot => [some ((enT D.int) heaps), some ((enT (enT D.int)) thing), none, none, none, some ((enT D.int) lot)])) (evi_T (ea := (enT D.int)) (ev_var rfl)) (fun _ => rfl) (fun lot hlot => (ev_and (ev_call (ds := [((enT D.int) heaps), ((enT D.int) lot)]) (evs_cons (ev_var rfl) (evs_cons (ev_var rfl) evs_nil)) (r_is_lot k (by omega) heaps lot (by first | assumption | omega | grind [LINE_eq, FUEL_eq, srt_length, mem_srt, rangeI_length, mem_rangeI, enumI_length, → enumI_snd, → enumI_fst, cut_length, → mem_cut]) (by first | assumption | omega | grind [LINE_eq, FUEL_eq, srt_length, mem_srt, rangeI_length, mem_rangeI, enumI_length, → enumI_snd, → enumI_fst, cut_length, → mem_cut]))) (fun hq => (ev_cmp (ev_lenT (ea := D.int) (ev_var rfl)) (ev_int 1) (cm_gt _ _))))) (by first | assumption | omega | grind [LINE_eq, FUEL_eq, srt_length, mem_srt, rangeI_length, mem_rangeI, enumI_length, → enumI_snd, → enumI_fst, cut_length, → mem_cut])))))) (fun hb6 => (kt_ret (d := (D.bl false)) (ev_bl false) rfl)) (fun hb6 => (kt_sq (kt_ifQ (z := (!(m_are_rising thing))) (Q := QV D.bl σ) (x := false) (y := (Sum.elim id (fun (_ : Unit) => ((thing.map (fun (lot : (List Int)) => (decide (((m_parts_in thing lot).length : Int) = (2 : Int))))).all id)) (m_is_forest_R1 thing))) (ev_not (ev_call (ds := [((enT (enT D.int)) thing)]) (evs_cons (ev_var rfl) evs_nil) (r_are_rising k (by omega) thing (by first | assumption | omega | grind [LINE_eq, FUEL_eq, srt_length, mem_srt, rangeI_length, mem_rangeI, enumI_length, → enumI_snd, → enumI_fst, cut_length, → mem_cut])))) (fun hb5 => (kt_ret (d := (D.bl false)) (ev_bl false) rfl)) (fun hb5 => (kt_sq (kt_forR (ea := (enP D.int (enT D.int))) (ed := D.bl) (fun (v1 : Unit) (j1 : Option D × Option D × Option D) => [some ((enT D.int) heaps), some ((enT (enT D.int)) thing), j1.1, j1.2.1, j1.2.2, none]) (m_is_forest_L1 thing) (fun (p : List (Int × (List Int))) (v : Unit) => True) (v0 := ()) (j0 := (none, none, none)) ends_fin (evi_enumT (ea := (enT D.int)) (ev_var rfl)) rfl (by first | trivial | grind) (fun p_ p2 q_ v1 j1 e_ hI => have hp2 : p2 ∈ (enumI 0 thing) := by rw [e_]; simp
  have hlen : _ = p_.length + q_.length + 1 := (congrArg List.length e_).trans (by simp; omega)
  ⟨fun v' he => by first | trivial | grind [LINE_eq, srt_length, m_is_forest_L3, m_is_forest_R3, m_is_forest_L1], [some ((enT D.int) heaps), some ((enT (enT D.int)) thing), some (D.int p2.1), some ((enT D.int) p2.2), j1.2.2, none], rfl, fun σ => (kt_forR (ea := (enT D.int)) (ed := D.bl) (fun (v3 : Unit) (j3 : Option D) => [some ((enT D.int) heaps), some ((enT (enT D.int)) thing), some (D.int p2.1), some ((enT D.int) p2.2), j3, none]) (m_is_forest_L3 p2) (fun (p : List (List Int)) (v : Unit) => True) (v0 := ()) (j0 := j1.2.2) ends_nrm (evi_T (ea := (enT D.int)) (ev_slT (ea := (enT D.int)) (ev_var rfl) (evo_yes (ev_add (ev_var rfl) (ev_int 1))) evo_no)) rfl (by first | trivial | grind) (fun p_ other q_ v3 j3 e_ hI => have hother : other ∈ (cut thing (some (p2.1 + (1 : Int))) none) := by rw [e_]; simp
  have hlen : _ = p_.length + q_.length + 1 := (congrArg List.length e_).trans (by simp; omega)
  ⟨fun v' he => by first | trivial | grind [LINE_eq, srt_length, m_is_forest_L3], [some ((enT D.int) heaps), some ((enT (enT D.int)) thing), some (D.int p2.1), some ((enT D.int) p2.2), some ((enT D.int) other), none], rfl, fun σ => (kt_ifQ (z := ((!(m_is_within p2.2 other)) && ((!(m_is_within other p2.2)) && (!(m_are_apart p2.2 other))))) (Q := QR D.bl (fun (v3 : Unit) (j3 : Option D) => [some ((enT D.int) heaps), some ((enT (enT D.int)) thing), some (D.int p2.1), some ((enT D.int) p2.2), j3, none]) σ) (x := (Sum.inl false)) (y := (Sum.inr ())) (ev_and (ev_not (ev_call (ds := [((enT D.int) p2.2), ((enT D.int) other)]) (evs_cons (ev_var rfl) (evs_cons (ev_var rfl) evs_nil)) (r_is_within k (by omega) p2.2 other (by first | assumption | omega | grind [LINE_eq, FUEL_eq, srt_length, mem_srt, rangeI_length, mem_rangeI, enumI_length, → enumI_snd, → enumI_fst, cut_length, → mem_cut])))) (fun hq => (ev_and (ev_not (ev_call (ds := [((enT D.int) other), ((enT D.int) p2.2)]) (evs_cons (ev_var rfl) (evs_cons (ev_var rfl) evs_nil)) (r_is_within k (by omega) other p2.2 (by first | assumption | omega | grind [LINE_eq, FUEL_eq, srt_length, mem_srt, rangeI_length, mem_rangeI, enumI_length, → enumI_snd, → enumI_fst, cut_length, → mem_cut])))) (fun hq => (ev_not (ev_call (ds := [((enT D.int) p2.2), ((enT D.int) other)]) (evs_cons (ev_var rfl) (evs_cons (ev_var rfl) evs_nil)) (r_are_apart k (by omega) p2.2 other (by first | assumption | omega | grind [LINE_eq, FUEL_eq, srt_length, mem_srt, rangeI_length, mem_rangeI, enumI_length, → enumI_snd, → enumI_fst, cut_length, → mem_cut])))))))) (fun hb4 => (kt_ret (d := (D.bl false)) (ev_bl false) ⟨j3, rfl⟩)) (fun hb4 => (kt_sq (kt_nil ⟨(some ((enT D.int) other)), rfl⟩))))⟩) (fun d he => by have he' : (m_is_forest_R3 thing p2) = Sum.inl d := he; show (QR D.bl (fun (v1 : Unit) (j1 : Option D × Option D × Option D) => [some ((enT D.int) heaps), some ((enT (enT D.int)) thing), j1.1, j1.2.1, j1.2.2, none]) σ) (Sum.elim Sum.inl _ (m_is_forest_R3 thing p2)) _; rw [he']; exact ⟨j1, rfl⟩) (fun j3 v3 he hI => (congrArg (fun z => QR D.bl (fun (v1 : Unit) (j1 : Option D × Option D × Option D) => [some ((enT D.int) heaps), some ((enT (enT D.int)) thing), j1.1, j1.2.1, j1.2.2, none]) σ (Sum.elim Sum.inl (fun (_ : Unit) => (Sum.inr ())) z)) (he : (m_is_forest_R3 thing p2) = Sum.inr v3)).symm ▸ (kt_nil ⟨((some (D.int p2.1)), (some ((enT D.int) p2.2)), j3), rfl⟩)))⟩) (fun d he => by have he' : (m_is_forest_R1 thing) = Sum.inl d := he; show (QV D.bl σ) (Sum.elim id _ (m_is_forest_R1 thing)) _; rw [he']; rfl) (fun j1 v1 he hI => (congrArg (fun z => QV D.bl σ (Sum.elim id (fun (_ : Unit) => ((thing.map (fun (lot : (List Int)) => (decide (((m_parts_in thing lot).length : Int) = (2 : Int))))).all id)) z)) (he : (m_is_forest_R1 thing) = Sum.inr v1)).symm ▸ (kt_ret (d := (D.bl ((thing.map (fun (lot : (List Int)) => (decide (((m_parts_in thing lot).length : Int) = (2 : Int))))).all id))) (ev_all (ev_compN (eb := D.bl) (g := (fun (lot : (List Int)) => (decide (((m_parts_in thing lot).length : Int) = (2 : Int))))) (ea := (enT D.int)) (r := (fun lot => [some ((enT D.int) heaps), some ((enT (enT D.int)) thing), j1.1, j1.2.1, j1.2.2, some ((enT D.int) lot)])) (evi_T (ea := (enT D.int)) (ev_var rfl)) (fun _ => rfl) (fun lot hlot => (ev_cmp (x := (D.int ((m_parts_in thing lot).length : Int))) (y := (D.int (2 : Int))) (ev_lenL (ea := (enT D.int)) (ev_call (ds := [((enT (enT D.int)) thing), ((enT D.int) lot)]) (evs_cons (ev_var rfl) (evs_cons (ev_var rfl) evs_nil)) (r_parts_in k (by omega) thing lot (by first | assumption | omega | grind [LINE_eq, FUEL_eq, srt_length, mem_srt, rangeI_length, mem_rangeI, enumI_length, → enumI_snd, → enumI_fst, cut_length, → mem_cut, m_is_forest_L3, m_is_forest_R3, m_is_forest_L1, m_is_forest_R1]) (by first | assumption | omega | grind [LINE_eq, FUEL_eq, srt_length, mem_srt, rangeI_length, mem_rangeI, enumI_length, → enumI_snd, → enumI_fst, cut_length, → mem_cut, m_is_forest_L3, m_is_forest_R3, m_is_forest_L1, m_is_forest_R1]) (by first | assumption | omega | grind [LINE_eq, FUEL_eq, srt_length, mem_srt, rangeI_length, mem_rangeI, enumI_length, → enumI_snd, → enumI_fst, cut_length, → mem_cut, m_is_forest_L3, m_is_forest_R3, m_is_forest_L1, m_is_forest_R1])))) (ev_int 2) (cm_eq (ea := D.int) _ _ (by decide)))) (by first | assumption | omega | grind [LINE_eq, FUEL_eq, srt_length, mem_srt, rangeI_length, mem_rangeI, enumI_length, → enumI_snd, → enumI_fst, cut_length, → mem_cut, m_is_forest_L3, m_is_forest_R3, m_is_forest_L1, m_is_forest_R1]))) rfl))))))))))
theorem r_need_forest (k : Nat) (hk : 5 ≤ k) (heaps : (List Int)) (thing : (List (List Int))) (h1 : m_is_heaps heaps = true) (h2 : heaps.length ≤ 8) (h3 : thing.length ≤ 100) (h4 : ∀ a ∈ thing, a.length ≤ 100 ∧ a ≠ []) (h5 : m_is_forest heaps thing = true) : Φ k 27 [((enT D.int) heaps), ((enT (enT D.int)) thing)] = pure ((enT (enT D.int)) (m_need_forest heaps thing)) := by
  obtain ⟨k, rfl⟩ : ∃ j, k = j + 1 := ⟨k - 1, by omega⟩
  skip
  exact runF_pure (c := (cx k)) (f := d_need_forest) (e := (enT (enT D.int))) (v := m_need_forest heaps thing) fun σ => (show Kt (cx k) b_need_forest [some ((enT D.int) heaps), some ((enT (enT D.int)) thing)] fin σ (QV _ σ _) from
  (kt_ifN (z := (!(m_is_forest (m_need_heaps heaps) thing))) (ev_not (ev_call (ds := [((enT D.int) (m_need_heaps heaps)), ((enT (enT D.int)) thing)]) (evs_cons (ev_call (ds := [((enT D.int) heaps)]) (evs_cons (ev_var rfl) evs_nil) (r_need_heaps k (by omega) heaps (by first | assumption | omega | grind [LINE_eq, FUEL_eq, srt_length, mem_srt, rangeI_length, mem_rangeI, enumI_length, → enumI_snd, → enumI_fst, cut_length, → mem_cut]))) (evs_cons (ev_var rfl) evs_nil)) (r_is_forest k (by omega) (m_need_heaps heaps) thing (by first | assumption | omega | grind [LINE_eq, FUEL_eq, srt_length, mem_srt, rangeI_length, mem_rangeI, enumI_length, → enumI_snd, → enumI_fst, cut_length, → mem_cut]) (by first | assumption | omega | grind [LINE_eq, FUEL_eq, srt_length, mem_srt, rangeI_length, mem_rangeI, enumI_length, → enumI_snd, → enumI_fst, cut_length, → mem_cut]) (by first | assumption | omega | grind [LINE_eq, FUEL_eq, srt_length, mem_srt, rangeI_length, mem_rangeI, enumI_length, → enumI_snd, → enumI_fst, cut_length, → mem_cut])))) (by simp [h5, m_need_heaps])
  (kt_sq (kt_ret (d := ((enT (enT D.int)) thing)) (ev_var rfl) rfl))))
theorem r_sum_of (k : Nat) (hk : 6 ≤ k) (heaps : (List Int)) (forest : (List (List Int))) (h1 : m_is_heaps heaps = true) (h2 : heaps.length ≤ 8) (h3 : forest.length ≤ 100) (h4 : ∀ a ∈ forest, a.length ≤ 100 ∧ a ≠ []) (h5 : m_is_forest heaps forest = true) (h6 : ∀ a ∈ forest, ∀ i ∈ a, 0 ≤ i ∧ i < heaps.length) : Φ k 28 [((enT D.int) heaps), ((enT (enT D.int)) forest)] = pure (D.int (m_sum_of heaps forest)) := by
  obtain ⟨k, rfl⟩ : ∃ j, k = j + 1 := ⟨k - 1, by omega⟩
  skip
  exact runF_pure (c := (cx k)) (f := d_sum_of) (e := D.int) (v := m_sum_of heaps forest) fun σ => (show Kt (cx k) b_sum_of [some ((enT D.int) heaps), some ((enT (enT D.int)) forest)] fin σ (QV _ σ _) from
  (kt_exprE (d := ((enT (enT D.int)) (m_need_forest heaps forest))) (ev_call (ds := [((enT D.int) heaps), ((enT (enT D.int)) forest)]) (evs_cons (ev_var rfl) (evs_cons (ev_var rfl) evs_nil)) (r_need_forest k (by omega) heaps forest (by first | assumption | omega | grind [LINE_eq, FUEL_eq, srt_length, mem_srt, rangeI_length, mem_rangeI, enumI_length, → enumI_snd, → enumI_fst, cut_length, → mem_cut]) (by first | assumption | omega | grind [LINE_eq, FUEL_eq, srt_length, mem_srt, rangeI_length, mem_rangeI, enumI_length, → enumI_snd, → enumI_fst, cut_length, → mem_cut]) (by first | assumption | omega | grind [LINE_eq, FUEL_eq, srt_length, mem_srt, rangeI_length, mem_rangeI, enumI_length, → enumI_snd, → enumI_fst, cut_length, → mem_cut]) (by first | assumption | omega | grind [LINE_eq, FUEL_eq, srt_length, mem_srt, rangeI_length, mem_rangeI, enumI_length, → enumI_snd, → enumI_fst, cut_length, → mem_cut]) (by first | assumption | omega | grind [LINE_eq, FUEL_eq, srt_length, mem_srt, rangeI_length, mem_rangeI, enumI_length, → enumI_snd, → enumI_fst, cut_length, → mem_cut])))
  (kt_ret (d := (D.int (m_sum_in heaps forest))) (ev_call (ds := [((enT D.int) heaps), ((enT (enT D.int)) forest)]) (evs_cons (ev_var rfl) (evs_cons (ev_var rfl) evs_nil)) (r_sum_in k (by omega) heaps forest (by first | assumption | omega | grind [LINE_eq, FUEL_eq, srt_length, mem_srt, rangeI_length, mem_rangeI, enumI_length, → enumI_snd, → enumI_fst, cut_length, → mem_cut]) (by first | assumption | omega | grind [LINE_eq, FUEL_eq, srt_length, mem_srt, rangeI_length, mem_rangeI, enumI_length, → enumI_snd, → enumI_fst, cut_length, → mem_cut]) (by first | assumption | omega | grind [LINE_eq, FUEL_eq, srt_length, mem_srt, rangeI_length, mem_rangeI, enumI_length, → enumI_snd, → enumI_fst, cut_length, → mem_cut]))) rfl)))
theorem r_exchanged (k : Nat) (hk : 6 ≤ k) (heaps : (List Int)) (forest : (List (List Int))) (lot : (List Int)) (other : (List Int)) (h1 : m_is_heaps heaps = true) (h2 : heaps.length ≤ 8) (h3 : forest.length ≤ 100) (h4 : ∀ a ∈ forest, a.length ≤ 100 ∧ a ≠ []) (h5 : m_is_forest heaps forest = true) (h6 : lot.length ≤ 100) (h7 : other.length ≤ 100) (h8 : lot ≠ []) (h9 : other ≠ []) (h10 : m_is_lot heaps lot = true) (h11 : m_is_part forest lot = true) (h12 : m_is_lot heaps other = true) (h13 : m_is_part forest other = true) (h14 : m_are_apart lot other = true) : Φ k 29 [((enT D.int) heaps), ((enT (enT D.int)) forest), ((enT D.int) lot), ((enT D.int) other)] = pure ((enT (enT D.int)) (m_exchanged heaps forest lot other)) := by
  obtain ⟨k, rfl⟩ : ∃ j, k = j + 1 := ⟨k - 1, by omega⟩
  skip
  exact runF_pure (c := (cx k)) (f := d_exchanged) (e := (enT (enT D.int))) (v := m_exchanged heaps forest lot other) fun σ => (show Kt (cx k) b_exchanged [some ((enT D.int) heaps), some ((enT (enT D.int)) forest), some ((enT D.int) lot), some ((enT D.int) other)] fin σ (QV _ σ _) from
  (kt_exprE (d := ((enT (enT D.int)) (m_need_forest heaps forest))) (ev_call (ds := [((enT D.int) heaps), ((enT (enT D.int)) forest)]) (evs_cons (ev_var rfl) (evs_cons (ev_var rfl) evs_nil)) (r_need_forest k (by omega) heaps forest (by first | assumption | omega | grind [LINE_eq, FUEL_eq, srt_length, mem_srt, rangeI_length, mem_rangeI, enumI_length, → enumI_snd, → enumI_fst, cut_length, → mem_cut]) (by first | assumption | omega | grind [LINE_eq, FUEL_eq, srt_length, mem_srt, rangeI_length, mem_rangeI, enumI_length, → enumI_snd, → enumI_fst, cut_length, → mem_cut]) (by first | assumption | omega | grind [LINE_eq, FUEL_eq, srt_length, mem_srt, rangeI_length, mem_rangeI, enumI_length, → enumI_snd, → enumI_fst, cut_length, → mem_cut]) (by first | assumption | omega | grind [LINE_eq, FUEL_eq, srt_length, mem_srt, rangeI_length, mem_rangeI, enumI_length, → enumI_snd, → enumI_fst, cut_length, → mem_cut]) (by first | assumption | omega | grind [LINE_eq, FUEL_eq, srt_length, mem_srt, rangeI_length, mem_rangeI, enumI_length, → enumI_snd, → enumI_fst, cut_length, → mem_cut])))
  (kt_exprE (d := D.non) (ev_call (ds := [((enT D.int) heaps), ((enT D.int) lot)]) (evs_cons (ev_var rfl) (evs_cons (ev_var rfl) evs_nil)) (r_need_lot k (by omega) heaps lot (by first | assumption | omega | grind [LINE_eq, FUEL_eq, srt_length, mem_srt, rangeI_length, mem_rangeI, enumI_length, → enumI_snd, → enumI_fst, cut_length, → mem_cut]) (by first | assumption | omega | grind [LINE_eq, FUEL_eq, srt_length, mem_srt, rangeI_length, mem_rangeI, enumI_length, → enumI_snd, → enumI_fst, cut_length, → mem_cut]) (by first | assumption | omega | grind [LINE_eq, FUEL_eq, srt_length, mem_srt, rangeI_length, mem_rangeI, enumI_length, → enumI_snd, → enumI_fst, cut_length, → mem_cut])))
  (kt_ifN (z := (!(m_is_part forest lot))) (ev_not (ev_call (ds := [((enT (enT D.int)) forest), ((enT D.int) lot)]) (evs_cons (ev_var rfl) (evs_cons (ev_var rfl) evs_nil)) (r_is_part k (by omega) forest lot ))) (by simp [*])
  (kt_sq (kt_ifN (z := ((!(m_is_lot heaps other)) || ((!(m_is_part forest other)) || (!(m_are_apart lot other))))) (ev_or (ev_not (ev_call (ds := [((enT D.int) heaps), ((enT D.int) other)]) (evs_cons (ev_var rfl) (evs_cons (ev_var rfl) evs_nil)) (r_is_lot k (by omega) heaps other (by first | assumption | omega | grind [LINE_eq, FUEL_eq, srt_length, mem_srt, rangeI_length, mem_rangeI, enumI_length, → enumI_snd, → enumI_fst, cut_length, → mem_cut]) (by first | assumption | omega | grind [LINE_eq, FUEL_eq, srt_length, mem_srt, rangeI_length, mem_rangeI, enumI_length, → enumI_snd, → enumI_fst, cut_length, → mem_cut])))) (fun hq => (ev_or (ev_not (ev_call (ds := [((enT (enT D.int)) forest), ((enT D.int) other)]) (evs_cons (ev_var rfl) (evs_cons (ev_var rfl) evs_nil)) (r_is_part k (by omega) forest other ))) (fun hq => (ev_not (ev_call (ds := [((enT D.int) lot), ((enT D.int) other)]) (evs_cons (ev_var rfl) (evs_cons (ev_var rfl) evs_nil)) (r_are_apart k (by omega) lot other (by first | assumption | omega | grind [LINE_eq, FUEL_eq, srt_length, mem_srt, rangeI_length, mem_rangeI, enumI_length, → enumI_snd, → enumI_fst, cut_length, → mem_cut])))))))) (by simp [*])
  (kt_sq (kt_ret (d := ((enT (enT D.int)) (m_exchanged_in forest lot other))) (ev_call (ds := [((enT (enT D.int)) forest), ((enT D.int) lot), ((enT D.int) other)]) (evs_cons (ev_var rfl) (evs_cons (ev_var rfl) (evs_cons (ev_var rfl) evs_nil))) (r_exchanged_in k (by omega) forest lot other (by first | assumption | omega | grind [LINE_eq, FUEL_eq, srt_length, mem_srt, rangeI_length, mem_rangeI, enumI_length, → enumI_snd, → enumI_fst, cut_length, → mem_cut]) (by first | assumption | omega | grind [LINE_eq, FUEL_eq, srt_length, mem_srt, rangeI_length, mem_rangeI, enumI_length, → enumI_snd, → enumI_fst, cut_length, → mem_cut]) (by first | assumption | omega | grind [LINE_eq, FUEL_eq, srt_length, mem_srt, rangeI_length, mem_rangeI, enumI_length, → enumI_snd, → enumI_fst, cut_length, → mem_cut]) (by first | assumption | omega | grind [LINE_eq, FUEL_eq, srt_length, mem_srt, rangeI_length, mem_rangeI, enumI_length, → enumI_snd, → enumI_fst, cut_length, → mem_cut]) (by first | assumption | omega | grind [LINE_eq, FUEL_eq, srt_length, mem_srt, rangeI_length, mem_rangeI, enumI_length, → enumI_snd, → enumI_fst, cut_length, → mem_cut]) (by first | assumption | omega | grind [LINE_eq, FUEL_eq, srt_length, mem_srt, rangeI_length, mem_rangeI, enumI_length, → enumI_snd, → enumI_fst, cut_length, → mem_cut]))) rfl))))))))
end Tm

/-! k07: exchanges. -/
namespace Tm
open DE PySem Mth
theorem r_mixed (k : Nat) (hk : 1 ≤ k) (a b : Int) (h : 0 ≤ b) (h2 : b < 2 ^ 60) : Φ k 7 [.int a, .int b] = pure (.int (mixed a b)) := by
  obtain ⟨k, rfl⟩ : ∃ j, k = j + 1 := ⟨k - 1, by omega⟩
  exact run_mixed (c := (cx k)) a b h h2
theorem r_draw (k : Nat) (hk : 2 ≤ k) : DrawOk (cx k) 16 := fun N s n d hN h1 h2 => by
  obtain ⟨k, rfl⟩ : ∃ j, k = j + 1 := ⟨k - 1, by omega⟩
  exact run_draw (c := (cx k)) (m := 7) (fun a b => r_mixed k (by omega) a b) d hN h1 h2
theorem r_heaps (k : Nat) (hk : 3 ≤ k) {N : Int} {s : S} (d : Dr N s) (hN : N < 2 ^ 49) {most : Int} (h1 : 1 ≤ most ∧ most ≤ 1000) : ∃ h s', Φ k 22 [.st, .int most] s = .ok (enT D.int h) s' ∧ Hs most h ∧ Dr (N + 2 + most) s' := by
  obtain ⟨k, rfl⟩ : ∃ j, k = j + 1 := ⟨k - 1, by omega⟩
  exact run_heaps (c := (cx k)) (dr := 16) (r_draw k (by omega)) d hN h1
theorem r_joins (k : Nat) (hk : 3 ≤ k) {n : Int} (hn : 0 ≤ n ∧ n ≤ 100) {N : Int} {s : S} (d : Dr N s) (hN : N < 2 ^ 49) {size : Int} (h1 : 0 ≤ size ∧ (size < n ∨ size = 0)) :
    ∃ F s', Φ k 23 [.st, .int n, .int size] s = .ok (eF F) s' ∧ Fj n F ∧ (F.length : Int) = size ∧ Dr (N + 2 * size) s' := by
  obtain ⟨k, rfl⟩ : ∃ j, k = j + 1 := ⟨k - 1, by omega⟩
  exact run_joins (c := (cx k)) (dr := 16) (tp := 17) (r_draw k (by omega)) hn (fun F f hl => r_tops k (by omega) n F hn hl (fo_len f hn.2)) d hN h1
/-- all that is asked of a stage -/
structure Stg (h : List Int) (F : List (List Int)) : Prop where
  hs : Hs 8 h
  fo : Fo h.length F
  len : F.length ≤ 100
section
variable {h : List Int} {F : List (List Int)} {a b : List Int}
theorem Stg.ex (g : Stg h F) (ha : Pt h.length F a) (hb : Pt h.length F b) (ab : Ap a b) : Stg h (exF F a b) := ⟨g.hs, fo_ex g.fo ha hb ab, by rw [len_exF]; exact g.len⟩
theorem Stg.n (g : Stg h F) : (h.length : Int) ≤ 100 := by have := g.hs.l2; omega
theorem Stg.sm (g : Stg h F) : ∀ L ∈ F, L.length ≤ 100 ∧ L ≠ [] := fo_len g.fo g.n
theorem part_eq (ha : Pt h.length F a) : m_is_part F a = true := by
  unfold m_is_part
  rcases ha.2 with q | q
  · rw [q]; rfl
  · rw [decide_eq_true q, Bool.or_true]
theorem g_exchanged (k : Nat) (hk : 6 ≤ k) (g : Stg h F) (ha : Pt h.length F a) (hb : Pt h.length F b) (ab : Ap a b) : Φ k 29 [enT D.int h, eF F, enT D.int a, enT D.int b] = pure (eF (exF F a b)) := by
  have := r_exchanged k (by omega) h F a b (is_heaps_hs g.hs) (by have := g.hs.l2; omega) g.len g.sm (is_forest_fo g.fo) (lt_len ha.1 g.n) (lt_len hb.1 g.n) ha.1.ne hb.1.ne ((is_lot_eq h a).mpr ha.1) (part_eq ha) ((is_lot_eq h b).mpr hb.1) (part_eq hb) (by rw [are_apart_eq, apb_iff]; exact ab)
  rw [this]
  show pure (eF (m_exchanged_in F a b)) = _
  rw [exchanged_in_eq]
theorem g_changed (k : Nat) (hk : 6 ≤ k) (g : Stg h F) (ha : Pt h.length F a) (hb : Pt h.length F b) : Φ k 19 [eF F, enT D.int a, enT D.int b] = pure (eF (exF F a b)) := by
  have := r_changed k (by omega) F a b g.len g.sm (lt_len ha.1 g.n) (lt_len hb.1 g.n) ha.1.ne hb.1.ne
  rw [this, changed_eq]
theorem g_need (k : Nat) (hk : 6 ≤ k) (g : Stg h F) : Φ k 27 [enT D.int h, eF F] = pure (eF F) :=
  r_need_forest k (by omega) h F (is_heaps_hs g.hs) (by have := g.hs.l2; omega) g.len g.sm (is_forest_fo g.fo)
theorem g_weight (k : Nat) (hk : 6 ≤ k) (g : Stg h F) (ha : Pt h.length F a) : Φ k 9 [enT D.int h, enT D.int a] = pure (.int (wt h a)) :=
  r_weight k (by omega) h a (lt_len ha.1 g.n) ha.1.rg
theorem g_depth (k : Nat) (hk : 6 ≤ k) (g : Stg h F) (ha : Pt h.length F a) : Φ k 18 [eF F, enT D.int a] = pure (.int (dp F a)) := by
  have := r_depth k (by omega) F a g.len g.sm (lt_len ha.1 g.n)
  rw [this, depth_eq]
theorem g_sum (k : Nat) (hk : 6 ≤ k) (g : Stg h F) : Φ k 28 [enT D.int h, eF F] = pure (.int (F.map (wt h)).sum) :=
  r_sum_of k (by omega) h F (is_heaps_hs g.hs) (by have := g.hs.l2; omega) g.len g.sm (is_forest_fo g.fo) fun L hL => (g.fo.lot L hL).1.rg
theorem g_apart (k : Nat) (hk : 6 ≤ k) (g : Stg h F) (ha : Pt h.length F a) : Φ k 11 [enT D.int a, enT D.int b] = pure (.bl (apb a b)) := by
  have := r_apart k (by omega) a b (lt_len ha.1 g.n)
  rw [this, apart_eq]
/-- all parts -/
def allP (n : Int) (F : List (List Int)) : List (List Int) := ((rangeI 0 n).map fun i => [i]) ++ F
theorem exF_comm (g : Stg h F) (ha : Pt h.length F a) (hb : Pt h.length F b) (ab : Ap a b) : exF F b a = exF F a b := by
  unfold exF
  congr 1
  exact List.map_congr_left fun L hL => ex_comm g.fo ha hb ab hL
theorem sum_exF (g : Stg h F) (ha : Pt h.length F a) (hb : Pt h.length F b) (ab : Ap a b) : (F.map (wt h)).sum - ((exF F a b).map (wt h)).sum = (wt h b - wt h a) * (dp F b - dp F a) := by
  rw [← sum_ex g.fo ha hb ab h F fun _ q => q]
  congr 1
  unfold exF
  rw [perm_sum ((srt_perm (e := enT D.int) _).map (wt h)), List.map_map]
  rfl
theorem run_pairs (k : Nat) (hk : 7 ≤ k) (g : Stg h F) : Φ k 30 [enT D.int h, eF F] = pure (.bl true) := by
  obtain ⟨k, rfl⟩ : ∃ j, k = j + 1 := ⟨k - 1, by omega⟩
  have hn := g.hs.l2
  have hall : ∀ P, P ∈ allP h.length F ↔ Pt h.length F P := fun P => mem_all g.fo
  have hal : (allP h.length F).length ≤ 200 := by
    unfold allP
    rw [List.length_append, List.length_map, rangeI_length]
    have := g.len
    omega
  have eP : ∀ P ∈ allP h.length F, P.length ≤ 100 := fun P hP => lt_len ((hall P).mp hP).1 g.n
  refine runF_pure (c := (cx k)) (f := d__law_pairs_right) (e := D.bl) (v := true) fun σ => (show Kt (cx k) b__law_pairs_right [some (enT D.int h), some (eF F), none, none, none, none, none, none, none] fin σ (QV _ σ _) from ?_)
  refine kt_asg (d := enL (enT D.int) (allP h.length F)) (ρ' := [some (enT D.int h), some (eF F), some (enL (enT D.int) (allP h.length F)), none, none, none, none, none, none])
    (ev_catL (ea := enT D.int) (ev_compN (ea := D.int) (eb := enT D.int) (g := fun i : Int => [i]) (r := fun x => [some (enT D.int h), some (eF F), none, some (.int x), none, none, none, none, none]) (evi_range1 (ev_lenT (ea := D.int) (ev_var rfl)) (by omega)) (fun _ => rfl) (fun x hx => ev_dispT (ea := D.int) (evss_cons (ev_var rfl) evss_nil) rfl (lenLit (Nat.le_of_ble_eq_true rfl))) (by rw [rangeI_length, LINE_eq]; omega)) (ev_lstT (ea := enT D.int) (ev_var rfl)) (by rw [List.length_map, rangeI_length, LINE_eq]; have := g.len; omega)) rfl ?_
  refine kt_fz ?_
  refine kt_for (ea := enT D.int) (xs := allP h.length F) (V := Unit) (J := Option D × Option D × Option D × Option D × Option D) (fun _ j => [some (enT D.int h), some (eF F), some (enL (enT D.int) (allP h.length F)), j.1, j.2.1, j.2.2.1, j.2.2.2.1, j.2.2.2.2, none]) (fun _ _ => ()) (fun _ _ => True) (v0 := ()) (j0 := (none, none, none, none, none)) (evi_L (ea := enT D.int) (ev_var rfl)) rfl trivial (fun p a q v j e _ => ⟨trivial, _, rfl, fun σ => ?_⟩) (fun j _ => kt_ret (d := .bl true) (ev_bl true) rfl)
  have pa : Pt h.length F a := (hall a).mp (by rw [e]; simp)
  refine kt_for (ea := enT D.int) (xs := (allP h.length F).filter fun P => apb a P) (V := Unit) (J := Option D × Option D × Option D × Option D) (fun _ j => [some (enT D.int h), some (eF F), some (enL (enT D.int) (allP h.length F)), some (enT D.int a), j.1, j.2.1, j.2.2.1, j.2.2.2, none]) (fun _ _ => ()) (fun _ _ => True) (v0 := ()) (j0 := (j.2.1, j.2.2.1, j.2.2.2.1, j.2.2.2.2))
    (evi_L (ea := enT D.int) (ev_compF (ea := enT D.int) (p := fun P => apb a P) (r := fun P => [some (enT D.int h), some (eF F), some (enL (enT D.int) (allP h.length F)), some (enT D.int a), j.2.1, j.2.2.1, j.2.2.2.1, j.2.2.2.2, some (enT D.int P)]) (evi_L (ea := enT D.int) (ev_var rfl)) (fun _ => rfl) (fun P hP => evc_yes (ev_call (ds := [enT D.int a, enT D.int P]) (evs_cons (ev_var rfl) (evs_cons (ev_var rfl) evs_nil)) (g_apart k (by omega) g pa))) (fun P hP _ => ev_var rfl) (by rw [LINE_eq]; omega))) rfl trivial (fun p b q v j e _ => ⟨trivial, [some (enT D.int h), some (eF F), some (enL (enT D.int) (allP h.length F)), some (enT D.int a), some (enT D.int b), j.2.1, j.2.2.1, j.2.2.2, none], rfl, fun σ => ?_⟩) (fun j _ => kt_nil ⟨(some (enT D.int a), j), rfl⟩)
  have hb : b ∈ (allP h.length F).filter fun P => apb a P := by rw [e]; simp
  rw [List.mem_filter, hall, apb_iff] at hb
  obtain ⟨pb, ab⟩ := hb
  have g2 := g.ex pa pb ab
  have pa2 := pt_ex_a g.fo pa pb ab
  have pb2 := pt_ex_b g.fo pa pb ab
  refine kt_asg (d := eF (exF F a b)) (ρ' := [some (enT D.int h), some (eF F), some (enL (enT D.int) (allP h.length F)), some (enT D.int a), some (enT D.int b), some (eF (exF F a b)), j.2.2.1, j.2.2.2, none]) (ev_call (ds := [eF F, enT D.int a, enT D.int b]) (evs_cons (ev_var rfl) (evs_cons (ev_var rfl) (evs_cons (ev_var rfl) evs_nil))) (g_changed k (by omega) g pa pb)) rfl ?_
  refine kt_ifN (z := (!decide (exF F a b = exF F a b)) || !decide (exF F b a = exF F a b)) (ev_or (ev_cmp (x := eF (exF F a b)) (y := eF (exF F a b)) (ev_call (ds := [enT D.int h, eF F, enT D.int a, enT D.int b]) (evs_cons (ev_var rfl) (evs_cons (ev_var rfl) (evs_cons (ev_var rfl) (evs_cons (ev_var rfl) evs_nil)))) (g_exchanged k (by omega) g pa pb ab)) (ev_var rfl) (cm_ne (ea := eF) _ _ (by decide))) (fun _ => ev_cmp (x := eF (exF F b a)) (y := eF (exF F a b)) (ev_call (ds := [enT D.int h, eF F, enT D.int b, enT D.int a]) (evs_cons (ev_var rfl) (evs_cons (ev_var rfl) (evs_cons (ev_var rfl) (evs_cons (ev_var rfl) evs_nil)))) (g_exchanged k (by omega) g pb pa (ap_symm ab))) (ev_var rfl) (cm_ne (ea := eF) _ _ (by decide)))) (by rw [exF_comm g pa pb ab]; simp) (kt_sq (kt_fz ?_))
  refine kt_ifN (z := (!decide (exF F a b = exF F a b)) || !decide (exF (exF F a b) a b = F)) (ev_or (ev_cmp (x := eF (exF F a b)) (y := eF (exF F a b)) (ev_call (ds := [enT D.int h, eF (exF F a b)]) (evs_cons (ev_var rfl) (evs_cons (ev_var rfl) evs_nil)) (g_need k (by omega) g2)) (ev_var rfl) (cm_ne (ea := eF) _ _ (by decide))) (fun _ => ev_cmp (x := eF (exF (exF F a b) a b)) (y := eF F) (ev_call (ds := [enT D.int h, eF (exF F a b), enT D.int a, enT D.int b]) (evs_cons (ev_var rfl) (evs_cons (ev_var rfl) (evs_cons (ev_var rfl) (evs_cons (ev_var rfl) evs_nil)))) (g_exchanged k (by omega) g2 pa2 pb2 ab)) (ev_var rfl) (cm_ne (ea := eF) _ _ (by decide)))) (by rw [exF_exF g.fo pa pb ab]; simp) (kt_sq ?_)
  refine kt_asg (d := .int (wt h b - wt h a)) (ρ' := [some (enT D.int h), some (eF F), some (enL (enT D.int) (allP h.length F)), some (enT D.int a), some (enT D.int b), some (eF (exF F a b)), some (.int (wt h b - wt h a)), j.2.2.2, none]) (ev_sub (ev_call (ds := [enT D.int h, enT D.int b]) (evs_cons (ev_var rfl) (evs_cons (ev_var rfl) evs_nil)) (g_weight k (by omega) g pb)) (ev_call (ds := [enT D.int h, enT D.int a]) (evs_cons (ev_var rfl) (evs_cons (ev_var rfl) evs_nil)) (g_weight k (by omega) g pa))) rfl ?_
  refine kt_asg (d := .int (dp F b - dp F a)) (ρ' := [some (enT D.int h), some (eF F), some (enL (enT D.int) (allP h.length F)), some (enT D.int a), some (enT D.int b), some (eF (exF F a b)), some (.int (wt h b - wt h a)), some (.int (dp F b - dp F a)), none]) (ev_sub (ev_call (ds := [eF F, enT D.int b]) (evs_cons (ev_var rfl) (evs_cons (ev_var rfl) evs_nil)) (g_depth k (by omega) g pb)) (ev_call (ds := [eF F, enT D.int a]) (evs_cons (ev_var rfl) (evs_cons (ev_var rfl) evs_nil)) (g_depth k (by omega) g pa))) rfl ?_
  refine kt_ifN (z := !decide ((F.map (wt h)).sum - ((exF F a b).map (wt h)).sum = (wt h b - wt h a) * (dp F b - dp F a))) (ev_cmp (x := .int ((F.map (wt h)).sum - ((exF F a b).map (wt h)).sum)) (y := .int ((wt h b - wt h a) * (dp F b - dp F a))) (ev_sub (ev_call (ds := [enT D.int h, eF F]) (evs_cons (ev_var rfl) (evs_cons (ev_var rfl) evs_nil)) (g_sum k (by omega) g)) (ev_call (ds := [enT D.int h, eF (exF F a b)]) (evs_cons (ev_var rfl) (evs_cons (ev_var rfl) evs_nil)) (g_sum k (by omega) g2))) (ev_mul (ev_var rfl) (ev_var rfl) ?_) (cm_ne (ea := D.int) _ _ (by decide))) (by rw [sum_exF g pa pb ab]; simp) (kt_sq (kt_nil ⟨(some (enT D.int b), some (eF (exF F a b)), some (.int (wt h b - wt h a)), some (.int (dp F b - dp F a))), rfl⟩))
  · have h1 : 0 ≤ dp F a ∧ dp F a ≤ 100 := by
      unfold dp
      have := List.length_filter_le (fun L => wi a L) F
      have := g.len
      omega
    have h2 : 0 ≤ dp F b ∧ dp F b ≤ 100 := by
      unfold dp
      have := List.length_filter_le (fun L => wi b L) F
      have := g.len
      omega
    rw [small_of (i := dp F b - dp F a) (by omega) (by omega), Bool.or_true]
end
theorem x_end (a b : List Int) (F : List (List Int)) (e : m_exchanged_in [[0, 1], [0, 1, 2], [3, 4]] a b = F) (q1 : m_is_lot [1, 2, 3, 4, 5] a = true) (q2 : m_is_part [[0, 1], [0, 1, 2], [3, 4]] a = true) (q3 : m_is_lot [1, 2, 3, 4, 5] b = true) (q4 : m_is_part [[0, 1], [0, 1, 2], [3, 4]] b = true) (q5 : m_are_apart a b = true) (q6 : a.length ≤ 100 ∧ b.length ≤ 100 ∧ a ≠ [] ∧ b ≠ []) : Φ 99 29 [enT D.int [1, 2, 3, 4, 5], eF [[0, 1], [0, 1, 2], [3, 4]], enT D.int a, enT D.int b] = pure (eF F) := by
  rw [r_exchanged 99 (by omega) [1, 2, 3, 4, 5] [[0, 1], [0, 1, 2], [3, 4]] a b (by decide +kernel) (by decide) (by decide) (by decide) (by decide +kernel) q6.1 q6.2.1 q6.2.2.1 q6.2.2.2 q1 q2 q3 q4 q5]
  show pure (eF (m_exchanged_in [[0, 1], [0, 1, 2], [3, 4]] a b)) = _
  rw [e]
theorem law_true (ns : List Int) (hns : ns.length ≤ 63) : ∃ s', Φ 100 31 [.lst (ns.map D.int)] w0S = .ok (.bl true) s' := by
  have goal : Kt (cx 99) b_law [some (enL D.int ns), none, none, none, none, none] fin w0S (fun o => ∃ s', o = .ok (.bl true) s') := by
    obtain ⟨s1, e1, d1⟩ := run_begin (c := (cx 98)) ns hns w0S rfl
    refine kt_asgQ (es_call0 (ds := [enL D.int ns]) (evs_cons (ev_var rfl) evs_nil) ⟨_, s1, e1, [some (enL D.int ns), some .st, none, none, none, none], rfl, ?_⟩)
    refine kt_forQ (ea := D.int) (xs := rangeI 0 6) (V := Unit) (J := Option D × Option D × Option D) (fun _ j => [some (enL D.int ns), some .st, j.1, none, j.2.1, j.2.2]) (fun p _ s => Dr (30 * p.length) s) (v0 := ()) (j0 := (none, none, none)) rfl (is_pure (evi_range1 (ev_int 6) (by decide)) ⟨rfl, by simpa using d1⟩) (fun p x q v j s e d => ?_) (fun v j s d => ?_)
    · have hp : p.length < 6 := by
        have := congrArg List.length e
        rw [rangeI_length, List.length_append, List.length_cons] at this
        omega
      refine ⟨[some (enL D.int ns), some .st, some (.int x), none, j.2.1, j.2.2], rfl, ?_⟩
      obtain ⟨h, s2, e2, hh, d2⟩ := r_heaps 99 (by omega) d (by omega) (most := 8) (by decide)
      refine kt_asgQ (es_call0 (ds := [.st, .int 8]) (evs_cons (ev_var rfl) (evs_cons (ev_int 8) evs_nil)) ⟨_, s2, e2, [some (enL D.int ns), some .st, some (.int x), none, some (enT D.int h), j.2.2], rfl, ?_⟩)
      have l1 := hh.l1
      have l2 := hh.l2
      refine kt_asgQ (es_draw (r_draw 99 (by omega)) d2 (by omega) (ev_var rfl) (ev_lenT (ea := D.int) (ev_var rfl)) (by omega) fun i s3 i0 i1 d3 => ⟨[some (enL D.int ns), some .st, some (.int x), none, some (enT D.int h), some (.int i)], rfl, kt_fz ?_⟩)
      obtain ⟨F, s4, e4, jF, lF, d4⟩ := r_joins 99 (by omega) (n := h.length) (by omega) d3 (by omega) (size := i) (by omega)
      refine kt_ifE (es_not (es_call (ess_cons (es_pure (d := enT D.int h) (ev_var rfl) (ess_cons (es_call0 (ds := [.st, .int h.length, .int i]) (evs_cons (ev_var rfl) (evs_cons (ev_lenT (ea := D.int) (ev_var rfl)) (evs_cons (ev_var rfl) evs_nil))) ⟨_, s4, e4, ess_nil ⟨.bl true, s4, by rw [show ((cx 99) : DE.Ctx).Φ 30 [enT D.int h, eF F] = pure (.bl true) from run_pairs 99 (by omega) ⟨hh, jF.fo, by omega⟩]; rfl, true, rfl, false, rfl, fun q => (by cases q), fun _ => kt_sq (kt_nil ⟨(), (some (.int x), some (enT D.int h), some (.int i)), s4, rfl, ?_⟩)⟩⟩))))))
      rw [List.length_append, List.length_singleton]
      exact d4.mono (by omega)
    · refine kt_asg (d := eF [[0, 1], [0, 1, 2], [3, 4]]) (ρ' := [some (enL D.int ns), some .st, j.1, some (eF [[0, 1], [0, 1, 2], [3, 4]]), j.2.1, j.2.2]) (ev_dispT (ea := enT D.int) (evss_cons (ev_dispT (ea := D.int) (evss_cons (ev_int 0) (evss_cons (ev_int 1) evss_nil)) rfl (lenLit (Nat.le_of_ble_eq_true rfl))) (evss_cons (ev_dispT (ea := D.int) (evss_cons (ev_int 0) (evss_cons (ev_int 1) (evss_cons (ev_int 2) evss_nil))) rfl (lenLit (Nat.le_of_ble_eq_true rfl))) (evss_cons (ev_dispT (ea := D.int) (evss_cons (ev_int 3) (evss_cons (ev_int 4) evss_nil)) rfl (lenLit (Nat.le_of_ble_eq_true rfl))) evss_nil))) rfl (lenLit (Nat.le_of_ble_eq_true rfl))) rfl ?_
      refine kt_ifN (z := !decide (([[0, 1], [0, 1, 4], [2, 3]] : List (List Int)) = [[0, 1], [0, 1, 4], [2, 3]])) (ev_cmp (x := eF [[0, 1], [0, 1, 4], [2, 3]]) (y := eF [[0, 1], [0, 1, 4], [2, 3]]) (ev_call (ds := [enT D.int [1, 2, 3, 4, 5], eF [[0, 1], [0, 1, 2], [3, 4]], enT D.int [0, 1], enT D.int [3]]) (evs_cons (ev_dispT (ea := D.int) (evss_cons (ev_int 1) (evss_cons (ev_int 2) (evss_cons (ev_int 3) (evss_cons (ev_int 4) (evss_cons (ev_int 5) evss_nil))))) rfl (lenLit (Nat.le_of_ble_eq_true rfl))) (evs_cons (ev_var rfl) (evs_cons (ev_dispT (ea := D.int) (evss_cons (ev_int 0) (evss_cons (ev_int 1) evss_nil)) rfl (lenLit (Nat.le_of_ble_eq_true rfl))) (evs_cons (ev_dispT (ea := D.int) (evss_cons (ev_int 3) evss_nil) rfl (lenLit (Nat.le_of_ble_eq_true rfl))) evs_nil)))) (x_end [0, 1] [3] [[0, 1], [0, 1, 4], [2, 3]] (by decide +kernel) (by decide +kernel) (by decide +kernel) (by decide +kernel) (by decide +kernel) (by decide +kernel) (by decide +kernel))) (ev_dispT (ea := enT D.int) (evss_cons (ev_dispT (ea := D.int) (evss_cons (ev_int 0) (evss_cons (ev_int 1) evss_nil)) rfl (lenLit (Nat.le_of_ble_eq_true rfl))) (evss_cons (ev_dispT (ea := D.int) (evss_cons (ev_int 0) (evss_cons (ev_int 1) (evss_cons (ev_int 4) evss_nil))) rfl (lenLit (Nat.le_of_ble_eq_true rfl))) (evss_cons (ev_dispT (ea := D.int) (evss_cons (ev_int 2) (evss_cons (ev_int 3) evss_nil)) rfl (lenLit (Nat.le_of_ble_eq_true rfl))) evss_nil))) rfl (lenLit (Nat.le_of_ble_eq_true rfl))) (cm_ne (ea := eF) _ _ (by decide))) (by simp) (kt_sq ?_)
      refine kt_ret (d := .bl (decide (([[0, 1, 2], [1, 2], [3, 4]] : List (List Int)) = [[0, 1, 2], [1, 2], [3, 4]]))) (ev_cmp (x := eF [[0, 1, 2], [1, 2], [3, 4]]) (y := eF [[0, 1, 2], [1, 2], [3, 4]]) (ev_call (ds := [enT D.int [1, 2, 3, 4, 5], eF [[0, 1], [0, 1, 2], [3, 4]], enT D.int [2], enT D.int [0]]) (evs_cons (ev_dispT (ea := D.int) (evss_cons (ev_int 1) (evss_cons (ev_int 2) (evss_cons (ev_int 3) (evss_cons (ev_int 4) (evss_cons (ev_int 5) evss_nil))))) rfl (lenLit (Nat.le_of_ble_eq_true rfl))) (evs_cons (ev_var rfl) (evs_cons (ev_dispT (ea := D.int) (evss_cons (ev_int 2) evss_nil) rfl (lenLit (Nat.le_of_ble_eq_true rfl))) (evs_cons (ev_dispT (ea := D.int) (evss_cons (ev_int 0) evss_nil) rfl (lenLit (Nat.le_of_ble_eq_true rfl))) evs_nil)))) (x_end [2] [0] [[0, 1, 2], [1, 2], [3, 4]] (by decide +kernel) (by decide +kernel) (by decide +kernel) (by decide +kernel) (by decide +kernel) (by decide +kernel) (by decide +kernel))) (ev_dispT (ea := enT D.int) (evss_cons (ev_dispT (ea := D.int) (evss_cons (ev_int 0) (evss_cons (ev_int 1) (evss_cons (ev_int 2) evss_nil))) rfl (lenLit (Nat.le_of_ble_eq_true rfl))) (evss_cons (ev_dispT (ea := D.int) (evss_cons (ev_int 1) (evss_cons (ev_int 2) evss_nil)) rfl (lenLit (Nat.le_of_ble_eq_true rfl))) (evss_cons (ev_dispT (ea := D.int) (evss_cons (ev_int 3) (evss_cons (ev_int 4) evss_nil)) rfl (lenLit (Nat.le_of_ble_eq_true rfl))) evss_nil))) rfl (lenLit (Nat.le_of_ble_eq_true rfl))) (cm_eq (ea := eF) _ _ (by decide))) ⟨s, by simp; rfl⟩
  exact goal
end Tm

set_option maxHeartbeats 0
namespace Tm
open DE PySem PySem.Spec PyProof.Rows L2
def top (i : Nat) : Stmt := PySem.Challenge.pw_joinsums_k07_whole_exchanges.main.body.getD i (.Pass ⟨0, 0, 0, 0⟩)
theorem chk : chkL top tab rows = true := by decide +kernel
theorem gam_eq : ∀ g x d, consts[g]? = some (x, d) → gam g = d ∧ flatC d = true := fun g x d h => by
  have q : consts.all (fun q => flatC q.2) = true := by decide
  exact ⟨gam_at0 h, List.all_eq_true.mp q _ (List.mem_of_getElem? h)⟩
def fn : List He.DefD := fnL top tab rows
def fa : List He.Fa := faL tab consts
theorem lawT : LawT top tab rows consts gam "JoinError" [] [] fa fn := ⟨rfl, chk, rfl, fun _ h => h, fun _ h => (by cases h), fun _ h => h, fun _ h => (by cases h), rfl, rfl, rfl, gam_eq⟩
def loose0 : List Str := ["__name__", "JoinError", "BadHeaps", "BadLot", "BadForest", "MOST_HEAPS", "MOST_WEIGHT", "is_integer", "is_between", "are_rising", "is_heaps", "need_heaps", "is_lot", "need_lot", "weight_in", "is_within", "are_apart", "parts_in", "is_forest", "need_forest", "sum_in", "sum_of", "is_part", "replaced", "exchanged_in", "exchanged", "_law_mixed", "_law_begin", "_law_draw", "_law_of"]
def loose1 : List Str := ["_law_weight", "_law_inside", "_law_apart", "_law_tops", "_law_parts", "_law_is_lot", "_law_is_forest", "_law_sums", "_law_depth", "_law_firsts", "_law_every", "_law_heaps", "_law_joins", "_law_least_joins", "_law_changed", "_law_pairs_right"]
def exB : Str := "JoinError"
def loose : List Str := loose0 ++ loose1
abbrev R : PySem.W.OpenRow := PySem.W.OpenLaw.row PySem.Challenge.rw_joinsums_k07_whole_exchanges
abbrev hk : PySem.W.Hook := He.hookD 4 fa fn
def ob (s : PySem.W.SharedT) : He.AlD := He.obsDG 4 fa fn (HandSHeadRun.getT s)
theorem ob_eq (s : PySem.W.SharedT) : ob s = hk.obs s.abs := He.obsDG_eq (HandSHeadRun.getT_eq s)
theorem run (w : World) : HandSHeadRun.RunEq R (PySem.W.view R.prog [50]) hk ob 4000 loose w := by
  intro os
  kernel_rfl
end Tm

namespace Tm
open DE PySem PySem.Spec PyProof.Rows L2
/-- from what the defs mean to the law -/
theorem holds_of {P : Program} {w : World} {K : PySem.W.Frag} {h : Heap} {mg : Str → Option Value} {f : Addr} (X : K.In h) (G : h.Ns mainGlobals mg) (hfa : mg ("law" : Str) = some (.ref f)) (cc : He.SaysD fa fn K) (hex : exL exB tab K = true) (htb : ∀ q ∈ tab.tbs, TbIs K w mg q) :
    ∃ fd sp, (∀ (s : Shared) (u : Value), BindsTo s fd ⟨[u], []⟩ [("_law_script", u)]) ∧ (∀ (H : Hp) (a : Addr) (ns : List Int), ns.length ≤ 63 → (∀ p ∈ csK tab K, H p.2 = some (.tbl #[])) → SqL K H a (ns.map V.int) → sp [.ref a] H (fun v _ => v = .bl true) fun _ _ _ => False) ∧
      ∀ base : Heap, (∀ p ∈ csK tab K, LamX.TabB base mg p.1 p.2) → FnB false P w K mg base (L2.CX P w) 102 f fd ["_law_script"] sp := by
  obtain ⟨fd, h1, h2, h3⟩ := law_F (P := P) (w := w) (K := K) (h := h) (mg := mg) lawT (fl := 31) (F := ⟨"law", 1, false, false, false⟩) (r := ⟨d_law, n_law, 50⟩) (x := "_law_script") rfl rfl rfl rfl 99 law_true X G hfa cc hex htb
  exact ⟨fd, _, h1, fun H a ns hn hT hs => h2 H a ns hn (tbK_of hT) hs, h3⟩
end Tm

open PySem PySem.W PySem.Calls PyProof.Rows
theorem PySem.Challenge.cw_joinsums_k07_whole_exchanges_holds : PySem.Challenge.rw_joinsums_k07_whole_exchanges.Holds := by
  w_on; o_law
  refine HandSHeadRun.head_any (r := OpenLaw.row PySem.Challenge.rw_joinsums_k07_whole_exchanges) (q := view (OpenLaw.row PySem.Challenge.rw_joinsums_k07_whole_exchanges).prog [50]) (H := Tm.hk) (ob := Tm.ob) (M := 4000) (loose := Tm.loose) (d := HandSHeadRun.topDef (OpenLaw.row PySem.Challenge.rw_joinsums_k07_whole_exchanges).prog 50) (kwd := []) Tm.ob_eq
    (by kernel_rfl) (fun s => by kernel_rfl) Tm.run (by kernel_rfl) (by kernel_rfl) (by kernel_rfl) (by rfl) (by first | assumption | decide +kernel) (by decide +kernel) ⟨rfl, rfl, rfl, rfl, rfl, by decide +kernel⟩ ?hw ?hc
  case hw => w_witness2
  case hc =>
    refine DE.walk_ofB (l := PySem.Challenge.rw_joinsums_k07_whole_exchanges) (n := 63) (k := 102) (x := "_law_script") (CX := fun w => L2.CX (PySem.Challenge.rw_joinsums_k07_whole_exchanges).prog w) rfl (by decide) (by kernel_rfl) ⟨rfl, by decide, by decide⟩ ?F (fun _ _ _ _ _ ⟨_, _, _, _, _, _, _, _, _, _, _, _, z⟩ => z)
    intro w mg fa h Y G hmg0
    obtain ⟨K, KX, c⟩ := Y
    have hmg : mg ("law" : PySem.Str) = some (.ref fa) := by
      have e : (HandSHeadRun.topDef (OpenLaw.row PySem.Challenge.rw_joinsums_k07_whole_exchanges).prog 50).name = ("law" : PySem.Str) := by kernel_rfl
      rw [← e]
      exact hmg0
    obtain ⟨fd, sp, hb, hs, hF⟩ := Tm.holds_of (P := (PySem.Challenge.rw_joinsums_k07_whole_exchanges).prog) (w := w) KX G hmg c rfl (fun q hq => (by cases hq))
    exact ⟨K, KX, false, fd, DE.csK Tm.tab K, sp, fun p hp => (by cases hp), fun p hp => (by cases hp), fun p hp => (by cases hp), hb, fun H a ns hl hT hq => hs H a ns hl hT hq, fun base _ _ hTB => hF base hTB⟩

