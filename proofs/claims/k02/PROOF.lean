import PyProof.Rows.All
import PySem.Challenge.RW_gonemarks_k02_dots_and_things_by_kind
import Wide.All
import OpenK.AllK
import Wide.FinOn
import HandS.ForMost
import HandS.Exc
import HandS.ExcInit
import HandS.IsInst
import HandS.Iter
import HandS.TupAny
import HandS.TupMul
import HandS.TupLe
import HandS.Deep
import HandS.Style
import HandS.Flow
import HandS.RaiseMore
import HandS.RevTup
import HandS.HeadEnd
import HandS.HeadHook2
import HandS.EndBits
import KE.SortData
import KE.KStateDown
import HandS.Head0
import HandS.Head1
import HandS.Head2
set_option Elab.async false
set_option linter.all false
set_option maxRecDepth 100000
set_option maxHeartbeats 0
/-! The deep layer, part A: the IR and its functional semantics. -/
namespace Gm
open PySem PySem.Spec PyProof.Rows L2

/-- what a mutable object holds -/
inductive C where
  | lst (xs : List PyData)
/-- values: pure data; a new object that nobody else has; one that another frame owns, to be read; one that this frame owns (in a slot); the same, read; a cell of the store -/
inductive W where
  | d (x : PyData) | new (c : C) | bor (c : C) | own (c : C) | lent (c : C) | loc (n : Nat)
abbrev Stt := List C
abbrev Rho := List (Option W)
/-- an exception: its class by the module's name, its fields -/
structure XV where
  cls : Str
  fs : List (Str × PyData)
inductive Res (α : Type) where
  | ok (a : α) (s : Stt) | ex (x : XV) (s : Stt) | bad
def Res.bind {α β : Type} : Res α → (α → Stt → Res β) → Res β
  | .ok a s, f => f a s
  | .ex x s, _ => .ex x s
  | .bad, _ => .bad
@[simp] theorem Res.bind_ok {α β : Type} (a : α) (s : Stt) (f : α → Stt → Res β) : (Res.ok a s).bind f = f a s := rfl
@[simp] theorem Res.bind_bad {α β : Type} (f : α → Stt → Res β) : (Res.bad : Res α).bind f = .bad := rfl
@[simp] theorem Res.bind_ex {α β : Type} (x : XV) (s : Stt) (f : α → Stt → Res β) : (Res.ex x s : Res α).bind f = .ex x s := rfl
def Res.ofO {α : Type} (st : Stt) : Option α → Res α
  | some a => .ok a st
  | none => .bad
@[simp] theorem Res.ofO_some {α : Type} (st : Stt) (a : α) : Res.ofO st (some a) = .ok a st := rfl
@[simp] theorem Res.ofO_none {α : Type} (st : Stt) : Res.ofO st (none : Option α) = .bad := rfl

def C.dat : C → PyData
  | .lst xs => .list xs
/-- as pure data that stays -/
def W.py : W → Option PyData
  | .d x => some x
  | .new c => some c.dat
  | _ => none
/-- read now -/
def W.rd (st : Stt) : W → Option PyData
  | .d x => some x
  | .new c => some c.dat
  | .bor c => some c.dat
  | .lent c => some c.dat
  | .loc n => (st[n]?).map C.dat
  | .own _ => none
/-- as an argument -/
def W.arg : W → Option W
  | .d x => some (.d x)
  | .new c => some (.d c.dat)
  | .bor c => some (.bor c)
  | .lent c => some (.bor c)
  | .loc n => some (.loc n)
  | .own _ => none

/-! ### operations on data -/
def lineN : Nat := 16777216
inductive BO where
  | add | sub | mul | fdiv | mod | pow
  deriving DecidableEq
inductive CO where
  | eq | ne | lt | le | gt | ge | isin | notin | iss | isnot
  deriving DecidableEq
def within64 (i : Int) : Bool := decide (-18446744073709551616 < i) && decide (i < 18446744073709551616)
def addD : PyData → PyData → Option W
  | .int i, .int j => some (.d (.int (i + j)))
  | .str x, .str y => if x.length + y.length ≤ lineN then some (.d (.str (x ++ y))) else none
  | .tuple xs, .tuple ys => if xs.length + ys.length ≤ lineN then some (.d (.tuple (xs ++ ys))) else none
  | .list xs, .list ys => if xs.length + ys.length ≤ lineN then some (.new (.lst (xs ++ ys))) else none
  | _, _ => none
def subD : PyData → PyData → Option W
  | .int i, .int j => some (.d (.int (i - j)))
  | _, _ => none
def mulD : PyData → PyData → Option W
  | .int i, .int j => if within64 i || within64 j then some (.d (.int (i * j))) else none
  | .list xs, .int k => if -1000000 ≤ k ∧ k ≤ 1000000 ∧ xs.length * k.toNat ≤ lineN then some (.new (.lst (List.replicate k.toNat xs).flatten)) else none
  | .tuple xs, .int k => if 0 ≤ k ∧ k ≤ 1000 ∧ xs.length ≤ 1000 then some (.d (.tuple (List.replicate k.toNat xs).flatten)) else none
  | _, _ => none
def fdivD : PyData → PyData → Option W
  | .int i, .int j => if 0 < j ∧ j < 1073741824 then some (.d (.int (i / j))) else none
  | _, _ => none
def modD : PyData → PyData → Option W
  | .int i, .int j => if 0 < j then some (.d (.int (i % j))) else none
  | _, _ => none
def powD : PyData → PyData → Option W
  | .int i, .int j => if 0 ≤ j ∧ j ≤ 1000000 ∧ within64 i then some (.d (.int (i ^ j.toNat))) else none
  | _, _ => none
def binD : BO → PyData → PyData → Option W
  | .add => addD | .sub => subD | .mul => mulD | .fdiv => fdivD | .mod => modD | .pow => powD

def eqS (x y : PyData) : Option Bool := if SeqAt.shaped x && SeqAt.shaped y then some (PyData.eqv x y) else none
def eqD : PyData → PyData → Option Bool
  | .str x, .str y => some (decide (x = y))
  | x, y => eqS x y
def ltI : PyData → PyData → Option Bool
  | .int i, .int j => some (decide (i < j))
  | _, _ => none
def leI : PyData → PyData → Option Bool
  | .int i, .int j => some (decide (i ≤ j))
  | _, _ => none
/-- x in y -/
def inD : PyData → PyData → Option Bool
  | x, .list ys => if SeqAt.shaped x && SeqAt.shaped (.list ys) then some (ys.any fun z => PyData.eqv z x) else none
  | x, .tuple ys => if SeqAt.shaped x && SeqAt.shaped (.tuple ys) then some (ys.any fun z => PyData.eqv z x) else none
  | .str x, .str y => some (!(Builtin.Str.occurrences y x 0 y.length 1).isEmpty)
  | _, _ => none
def isD : PyData → PyData → Option Bool
  | .none, .none => some true
  | .bool _, .none => some false
  | .int _, .none => some false
  | .str _, .none => some false
  | .list _, .none => some false
  | .tuple _, .none => some false
  | .bool a, .bool b => some (decide (a = b))
  | _, _ => none
def cmpD : CO → PyData → PyData → Option Bool
  | .eq, x, y => eqD x y
  | .ne, x, y => (eqD x y).map (!·)
  | .lt, x, y => ltI x y
  | .le, x, y => leI x y
  | .gt, x, y => ltI y x
  | .ge, x, y => leI y x
  | .isin, x, y => inD x y
  | .notin, x, y => (inD x y).map (!·)
  | .iss, x, y => isD x y
  | .isnot, x, y => (isD x y).map (!·)
/-- a value's truth -/
def truthD : PyData → Option Bool
  | .none => some false
  | .bool b => some b
  | .int i => some (i != 0)
  | .str x => if x.length ≤ lineN then some ((x.length : Int) != 0) else none
  | .list xs => some (!xs.isEmpty)
  | .tuple xs => some (!xs.isEmpty)
  | .dict _ => none
def idxD : PyData → PyData → Option PyData
  | .list xs, .int i => atI xs i
  | .tuple xs, .int i => atI xs i
  | .str x, .int i => if x.length ≤ lineN then (atI x.cps.toList i).map fun c => .str ⟨#[c]⟩ else none
  | _, _ => none
def cutD (xs : List PyData) (lo hi : Option Int) : List PyData := (xs.drop (HT.sIx xs.length 0 lo)).take (HT.sIx xs.length xs.length hi - HT.sIx xs.length 0 lo)
def slcD : PyData → Option Int → Option Int → Option W
  | .list xs, lo, hi => some (.new (.lst (cutD xs lo hi)))
  | .tuple xs, lo, hi => some (.d (.tuple (cutD xs lo hi)))
  | _, _, _ => none
def revD : PyData → Option W
  | .list xs => some (.new (.lst xs.reverse))
  | .tuple xs => some (.d (.tuple xs.reverse))
  | _ => none
/-- the classes that isinstance is asked of -/
inductive Ty where
  | int | bool | str | list | tuple
  deriving DecidableEq
def isT : PyData → Ty → Option Bool
  | .none, _ => some false
  | .bool _, .bool => some true
  | .bool _, .int => some true
  | .bool _, _ => some false
  | .int _, .int => some true
  | .int _, _ => some false
  | .str _, .str => some true
  | .str _, _ => some false
  | .list _, .list => some true
  | .list _, _ => some false
  | .tuple _, .tuple => some true
  | .tuple _, _ => some false
  | .dict _, _ => none
/-- built-in functions and types, called by name -/
inductive BF where
  | len | all | any | tuple | list | str | repr
  deriving DecidableEq
def allB : List PyData → Option (List Bool)
  | [] => some []
  | .bool b :: r => (allB r).map (b :: ·)
  | _ :: _ => none
def smallI (i : Int) : Bool := decide (i.natAbs.log2 < 1920)
def strD : PyData → Option PyData
  | .int i => if smallI i then some (.str (toString i : String)) else none
  | .str x => some (.str x)
  | _ => none
def reprD (x : PyData) : Option PyData := if PyData.showable x && decide (PyData.depth x ≤ 64) && decide (x.shown.length ≤ lineN) then some (.str x.shown) else none
def lenD : PyData → Option PyData
  | .list xs => some (.int xs.length)
  | .tuple xs => some (.int xs.length)
  | .str x => if x.length ≤ lineN then some (.int x.length) else none
  | _ => none
def bifD : BF → List PyData → Option W
  | .len, [x] => (lenD x).map .d
  | .all, [.list xs] => (allB xs).map fun bs => .d (.bool (bs.all id))
  | .any, [.list xs] => (allB xs).map fun bs => .d (.bool (bs.any id))
  | .tuple, [.list xs] => some (.d (.tuple xs))
  | .tuple, [.tuple xs] => some (.d (.tuple xs))
  | .list, [.list xs] => some (.new (.lst xs))
  | .list, [.tuple xs] => some (.new (.lst xs))
  | .str, [x] => (strD x).map .d
  | .repr, [x] => (reprD x).map .d
  | _, _ => none
inductive MN where
  | join
  deriving DecidableEq
def allS : List PyData → Option (List Str)
  | [] => some []
  | .str b :: r => (allS r).map (b :: ·)
  | _ :: _ => none
def mthD : MN → PyData → List PyData → Option W
  | .join, .str sep, [.list xs] => (allS xs).bind fun ys => if (ys.map (·.length)).sum + ys.length * sep.length ≤ lineN then some (.d (.str (Txt.join sep ys))) else none
  | _, _, _ => none

/-! ### the IR -/
inductive T where
  | nm (i : Nat) | tp (is : List Nat)
mutual
inductive E where
  | var (i : Nat) | con (x : PyData) | glo (n : Str) (x : PyData)
  | bin (o : BO) (a b : E) | neg (a : E) | nt (a : E) | an (a b : E) | oo (a b : E)
  | cmp (o : CO) (a b : E) | chn (o p : CO) (a b c : E) | ite (c a b : E)
  | tup (es : Es) | lst (es : Es) | idx (a b : E) | slc (a : E) (lo hi : Es) | rev (a : E)
  | cal (n : Str) (f : Nat) (es : Es) | bif (b : BF) (es : Es) | isi (a : E) (t : Ty) | mth (m : MN) (a : E) (es : Es)
  | lc (elt : E) (t : T) (it : It) (c : Es) (own : List Nat)
inductive Es where
  | nil | cons (e : E) (r : Es)
inductive It where
  | of (a : E) | rng (a : E) | rng2 (a b : E)
end
/-- how a name is stored: as pure data (or a reference to a cell, a borrowed object), as the frame's own object, as a new cell -/
inductive Md where
  | pure | own | cell
mutual
inductive S where
  | set (i : Nat) (m : Md) (e : E) | unp (is : List Nat) (e : E) | sub (i : Nat) (k e : E) | app (i : Nat) (e : E) | ext (i : Nat) (e : E)
  | exp (e : E) | ret (e : E) | rtv (i : Nat) | ite (c : E) (a b : Ss) | for_ (t : T) (it : It) (b : Ss) | whl (fuel : Nat) (c : E) (b : Ss)
inductive Ss where
  | nil | cons (s : S) (r : Ss)
  /-- from here on the frame's own objects in these slots are not changed -/
  | frz (is : List Nat) (r : Ss)
end
inductive Fl where
  | nx (ρ : Rho) | rt (w : W)

/-! ### the semantics -/
abbrev Phi := Nat → List W → Stt → Res W
def rd1 (w : W) (st : Stt) (k : PyData → Option W) : Res W := Res.ofO st ((w.rd st).bind k)
def rd2 (w u : W) (st : Stt) (k : PyData → PyData → Option W) : Res W := Res.ofO st ((w.rd st).bind fun x => (u.rd st).bind fun y => k x y)
def toB (o : Option Bool) : Option W := o.map fun b => .d (.bool b)
def bsel {α : Type} (w : W) (f g : Res α) : Res α := match w with
  | .d (.bool b) => if b then f else g
  | _ => .bad
@[simp] theorem bsel_b {α : Type} (b : Bool) (f g : Res α) : bsel (.d (.bool b)) f g = if b then f else g := rfl
theorem bsel_bind {α β : Type} (w : W) (f g : Res α) (k : α → Stt → Res β) : (bsel w f g).bind k = bsel w (f.bind k) (g.bind k) := by
  cases w with
  | d x => cases x with
    | bool b => cases b <;> rfl
    | _ => rfl
  | _ => rfl
def ssel {α : Type} (w : W) (f : Str → Res α) : Res α := match w with
  | .d (.str b) => f b
  | _ => .bad
@[simp] theorem ssel_s {α : Type} (b : Str) (f : Str → Res α) : ssel (.d (.str b)) f = f b := rfl
def rdAll (st : Stt) : List W → Option (List PyData)
  | [] => some []
  | w :: r => (w.rd st).bind fun x => (rdAll st r).map (x :: ·)
def pyAll : List W → Option (List PyData)
  | [] => some []
  | w :: r => w.py.bind fun x => (pyAll r).map (x :: ·)
def argAll : List W → Option (List W)
  | [] => some []
  | w :: r => w.arg.bind fun x => (argAll r).map (x :: ·)
def truth (w : W) (st : Stt) : Res Bool := Res.ofO st ((w.rd st).bind truthD)
def intOf : PyData → Option Int
  | .int i => some i
  | _ => none
/-- the items of an iterable -/
def itemsD : PyData → Option (List PyData)
  | .list xs => some xs
  | .tuple xs => some xs
  | .str x => some (x.cps.toList.map fun c => .str ⟨#[c]⟩)
  | _ => none
def rngL (a b : Int) : List PyData := (List.range (b - a).toNat).map fun i => .int (a + (i : Nat))
def partD (st : Stt) : List W → Option (Option Int)
  | [] => some none
  | [w] => (w.rd st).bind fun x => (intOf x).map some
  | _ => none
def rngOk (i : Int) : Bool := decide (-4611686018427387904 ≤ i) && decide (i < 4611686018427387904)
def setT : T → PyData → Rho → Option Rho
  | .nm i, x, ρ => some (ρ.set i (some (.d x)))
  | .tp is, .tuple xs, ρ => if xs.length = is.length then some ((is.zip xs).foldl (fun r p => r.set p.1 (some (.d p.2))) ρ) else none
  | .tp _, _, _ => none
def wipeR (ρ : Rho) : List Nat → Rho
  | [] => ρ
  | v :: vs => (wipeR ρ vs).set v none
/-- a comprehension's turns -/
def compL (f : PyData → Stt → Res (Option PyData)) : List PyData → Stt → Res (List PyData)
  | [], st => .ok [] st
  | x :: xs, st => (f x st).bind fun o s1 => (compL f xs s1).bind fun r s2 => .ok (match o with | some y => y :: r | none => r) s2
/-- no exception leaves a comprehension -/
def Res.nox {α : Type} : Res α → Res α
  | .ok a s => .ok a s
  | _ => .bad
@[simp] theorem Res.nox_ok {α : Type} (a : α) (s : Stt) : (Res.ok a s).nox = .ok a s := rfl
mutual
def sem (Φ : Phi) : E → Rho → Stt → Res W
  | .var i, ρ, st => match ρ[i]? with
    | some (some (.own c)) => .ok (.lent c) st
    | some (some w) => .ok w st
    | _ => .bad
  | .con x, _, st => .ok (.d x) st
  | .glo _ x, _, st => .ok (.d x) st
  | .bin o a b, ρ, st => (sem Φ a ρ st).bind fun x s1 => (sem Φ b ρ s1).bind fun y s2 => rd2 x y s2 (binD o)
  | .neg a, ρ, st => (sem Φ a ρ st).bind fun x s1 => rd1 x s1 fun x => (intOf x).map fun i => .d (.int (-i))
  | .nt a, ρ, st => (sem Φ a ρ st).bind fun x s1 => (truth x s1).bind fun b s2 => .ok (.d (.bool (!b))) s2
  | .an a b, ρ, st => (sem Φ a ρ st).bind fun x s1 => bsel x (sem Φ b ρ s1) (.ok (.d (.bool false)) s1)
  | .oo a b, ρ, st => (sem Φ a ρ st).bind fun x s1 => bsel x (.ok (.d (.bool true)) s1) (sem Φ b ρ s1)
  | .cmp o a b, ρ, st => (sem Φ a ρ st).bind fun x s1 => (sem Φ b ρ s1).bind fun y s2 => rd2 x y s2 fun x y => toB (cmpD o x y)
  | .chn o p a b c, ρ, st => (sem Φ a ρ st).bind fun x s1 => (sem Φ b ρ s1).bind fun y s2 => (rd2 x y s2 fun x y => toB (cmpD o x y)).bind fun r s3 => bsel r ((sem Φ c ρ s3).bind fun z s4 => rd2 y z s4 fun x y => toB (cmpD p x y)) (.ok (.d (.bool false)) s3)
  | .ite c a b, ρ, st => (sem Φ c ρ st).bind fun x s1 => (truth x s1).bind fun t s2 => if t then sem Φ a ρ s2 else sem Φ b ρ s2
  | .tup es, ρ, st => (sems Φ es ρ st).bind fun ws s1 => Res.ofO s1 ((pyAll ws).bind fun xs => if xs.length ≤ lineN then some (.d (.tuple xs)) else none)
  | .lst es, ρ, st => (sems Φ es ρ st).bind fun ws s1 => Res.ofO s1 ((pyAll ws).bind fun xs => if xs.length ≤ lineN then some (.new (.lst xs)) else none)
  | .idx a b, ρ, st => (sem Φ a ρ st).bind fun x s1 => (sem Φ b ρ s1).bind fun y s2 => rd2 x y s2 fun x y => (idxD x y).map .d
  | .slc a lo hi, ρ, st => (sem Φ a ρ st).bind fun x s1 => ((sems Φ lo ρ s1).bind fun l s => Res.ofO s (partD s l)).bind fun lo s2 => ((sems Φ hi ρ s2).bind fun l s => Res.ofO s (partD s l)).bind fun hi s3 => Res.ofO s3 ((x.rd s3).bind fun x => slcD x lo hi)
  | .rev a, ρ, st => (sem Φ a ρ st).bind fun x s1 => rd1 x s1 revD
  | .cal _ f es, ρ, st => (sems Φ es ρ st).bind fun ws s1 => (Res.ofO s1 (argAll ws)).bind fun as s2 => Φ f as s2
  | .bif b es, ρ, st => (sems Φ es ρ st).bind fun ws s1 => Res.ofO s1 ((rdAll s1 ws).bind (bifD b))
  | .isi a t, ρ, st => (sem Φ a ρ st).bind fun x s1 => rd1 x s1 fun x => toB (isT x t)
  | .mth m a es, ρ, st => (sem Φ a ρ st).bind fun x s1 => ssel x fun sep => (sems Φ es ρ s1).bind fun ws s2 => Res.ofO s2 ((rdAll s2 ws).bind (mthD m (.str sep)))
  | .lc elt t it c own, ρ, st => (semI Φ it ρ st).bind fun xs s1 => ((compL (fun x s => (Res.ofO s (setT t x (wipeR ρ own))).bind fun ρ1 s => (semCs Φ c ρ1 s).bind fun b s => if b then (sem Φ elt ρ1 s).bind fun w s => (Res.ofO s w.py).bind fun y s => .ok (some y) s else .ok none s) xs s1).nox).bind fun ys s2 => if ys.length ≤ lineN then .ok (.new (.lst ys)) s2 else .bad
def sems (Φ : Phi) : Es → Rho → Stt → Res (List W)
  | .nil, _, st => .ok [] st
  | .cons e r, ρ, st => (sem Φ e ρ st).bind fun x s1 => (sems Φ r ρ s1).bind fun xs s2 => .ok (x :: xs) s2
/-- the items that are walked, at a comprehension -/
def semI (Φ : Phi) : It → Rho → Stt → Res (List PyData)
  | .of a, ρ, st => (sem Φ a ρ st).bind fun x s1 => match x with
    | .loc _ => .bad
    | _ => Res.ofO s1 ((x.rd s1).bind itemsD)
  | .rng a, ρ, st => (sem Φ a ρ st).bind fun x s1 => Res.ofO s1 ((x.rd s1).bind fun x => (intOf x).bind fun i => if rngOk i then some (rngL 0 i) else none)
  | .rng2 a b, ρ, st => (sem Φ a ρ st).bind fun x s1 => (sem Φ b ρ s1).bind fun y s2 => Res.ofO s2 ((x.rd s2).bind fun x => (y.rd s2).bind fun y => (intOf x).bind fun i => (intOf y).bind fun j => if rngOk i && rngOk j then some (rngL i j) else none)
/-- a comprehension's tests -/
def semCs (Φ : Phi) : Es → Rho → Stt → Res Bool
  | .nil, _, st => .ok true st
  | .cons e r, ρ, st => (sem Φ e ρ st).bind fun x s1 => (truth x s1).bind fun b s2 => if b then semCs Φ r ρ s2 else .ok false s2
end

/-- the items of a for statement: an object that this frame may change is not walked -/
def semF (Φ : Phi) : It → Rho → Stt → Res (List PyData)
  | .of a, ρ, st => (sem Φ a ρ st).bind fun x s1 => match x with
    | .loc _ => .bad
    | .lent _ => .bad
    | _ => Res.ofO s1 ((x.rd s1).bind itemsD)
  | .rng a, ρ, st => semI Φ (.rng a) ρ st
  | .rng2 a b, ρ, st => semI Φ (.rng2 a b) ρ st
def setL (xs : List PyData) (k : PyData) (y : PyData) : Option (List PyData) := (intOf k).bind fun i => (ixN xs.length i).map fun j => xs.set j y
/-- the slot holds an object that this frame may change -/
def mutB (ρ : Rho) (i : Nat) : Bool := match ρ[i]? with
  | some (some (.own _)) => true
  | some (some (.loc _)) => true
  | _ => false
/-- the object in a slot is changed -/
def chg (ρ : Rho) (i : Nat) (st : Stt) (f : C → Option C) : Res Fl := match ρ[i]? with
  | some (some (.own c)) => Res.ofO st ((f c).map fun c => .nx (ρ.set i (some (.own c))))
  | some (some (.loc n)) => match (st[n]?).bind f with
    | some c => .ok (.nx ρ) (st.set n c)
    | none => .bad
  | _ => .bad
def store (ρ : Rho) (i : Nat) : Md → W → Stt → Res Fl
  | .pure, .d x, st => .ok (.nx (ρ.set i (some (.d x)))) st
  | .pure, .new c, st => .ok (.nx (ρ.set i (some (.d c.dat)))) st
  | .pure, .loc n, st => .ok (.nx (ρ.set i (some (.loc n)))) st
  | .pure, .bor c, st => .ok (.nx (ρ.set i (some (.bor c)))) st
  | .own, .new c, st => .ok (.nx (ρ.set i (some (.own c)))) st
  | .cell, .new c, st => .ok (.nx (ρ.set i (some (.loc st.length)))) (st ++ [c])
  | _, _, _ => .bad
def frzR (ρ : Rho) : List Nat → Rho
  | [] => ρ
  | i :: is => match (frzR ρ is)[i]? with
    | some (some (.own c)) => (frzR ρ is).set i (some (.d c.dat))
    | _ => frzR ρ is
def rtW (w : W) (st : Stt) : Res Fl := match w with
  | .d x => .ok (.rt (.d x)) st
  | .new c => .ok (.rt (.new c)) st
  | .loc n => .ok (.rt (.loc n)) st
  | _ => .bad
def forL (f : PyData → Rho → Stt → Res Fl) : List PyData → Rho → Stt → Res Fl
  | [], ρ, st => .ok (.nx ρ) st
  | x :: xs, ρ, st => (f x ρ st).bind fun fl s1 => match fl with
    | .nx ρ' => forL f xs ρ' s1
    | .rt w => .ok (.rt w) s1
def whlL (c : Rho → Stt → Res Bool) (f : Rho → Stt → Res Fl) : Nat → Rho → Stt → Res Fl
  | 0, _, _ => .bad
  | n + 1, ρ, st => (c ρ st).bind fun b s1 => if b then (f ρ s1).bind fun fl s2 => match fl with
    | .nx ρ' => whlL c f n ρ' s2
    | .rt w => .ok (.rt w) s2
    else .ok (.nx ρ) s1
mutual
def semS (Φ : Phi) : S → Rho → Stt → Res Fl
  | .set i m e, ρ, st => (sem Φ e ρ st).bind fun w s1 => store ρ i m w s1
  | .unp is e, ρ, st => (sem Φ e ρ st).bind fun w s1 => Res.ofO s1 ((w.rd s1).bind fun x => (setT (.tp is) x ρ).map .nx)
  | .sub i k e, ρ, st => (sem Φ e ρ st).bind fun w s1 => if mutB ρ i then (sem Φ k ρ s1).bind fun k s2 => match w.py, k.rd s2 with
    | some y, some k => chg ρ i s2 fun | .lst xs => (setL xs k y).map .lst
    | _, _ => .bad
    else .bad
  | .app i e, ρ, st => if mutB ρ i then (sem Φ e ρ st).bind fun w s1 => match w.py with
    | some y => chg ρ i s1 fun | .lst xs => if xs.length < lineN then some (.lst (xs ++ [y])) else none
    | none => .bad
    else .bad
  | .ext i e, ρ, st => if mutB ρ i then (sem Φ e ρ st).bind fun w s1 => match w.rd s1 with
    | some (.list ys) => chg ρ i s1 fun | .lst xs => if xs.length + ys.length ≤ lineN then some (.lst (xs ++ ys)) else none
    | _ => .bad
    else .bad
  | .exp e, ρ, st => (sem Φ e ρ st).bind fun _ s1 => .ok (.nx ρ) s1
  | .ret e, ρ, st => (sem Φ e ρ st).bind fun w s1 => rtW w s1
  | .rtv i, ρ, st => match ρ[i]? with
    | some (some (.own c)) => .ok (.rt (.new c)) st
    | _ => .bad
  | .ite c a b, ρ, st => (sem Φ c ρ st).bind fun x s1 => (truth x s1).bind fun t s2 => if t then semSs Φ a ρ s2 else semSs Φ b ρ s2
  | .for_ t it b, ρ, st => (semF Φ it ρ st).bind fun xs s1 => forL (fun x ρ s => (Res.ofO s (setT t x ρ)).bind fun ρ s => semSs Φ b ρ s) xs ρ s1
  | .whl n c b, ρ, st => whlL (fun ρ s => (sem Φ c ρ s).bind fun x s => truth x s) (fun ρ s => semSs Φ b ρ s) n ρ st
def semSs (Φ : Phi) : Ss → Rho → Stt → Res Fl
  | .nil, ρ, st => .ok (.nx ρ) st
  | .cons s r, ρ, st => (semS Φ s ρ st).bind fun fl s1 => match fl with
    | .nx ρ' => semSs Φ r ρ' s1
    | .rt w => .ok (.rt w) s1
  | .frz is r, ρ, st => semSs Φ r (frzR ρ is) st
end
/-- a def: its module's name, its parameters and slots, its body -/
structure Fn where
  name : Str
  np : Nat
  N : List Str
  body : Ss
def leaveW (k : Nat) : Res Fl → Res W
  | .ok (.nx _) s => .ok (.d .none) (s.take k)
  | .ok (.rt (.d x)) s => .ok (.d x) (s.take k)
  | .ok (.rt (.new c)) s => .ok (.new c) (s.take k)
  | .ok (.rt (.loc m)) s => if m < k then .ok (.loc m) (s.take k) else match s[m]? with
    | some c => .ok (.new c) (s.take k)
    | none => .bad
  | .ex x s => .ex x (s.take k)
  | _ => .bad
def callF (Φ : Phi) (f : Fn) (as : List W) (st : Stt) : Res W :=
  if as.length = f.np ∧ f.np ≤ f.N.length then leaveW st.length (semSs Φ f.body (as.map some ++ List.replicate (f.N.length - as.length) none) st) else .bad
/-- the program's defs, to a depth of calls -/
def phi (fs : List Fn) : Nat → Phi
  | 0 => fun _ _ _ => .bad
  | k + 1 => fun i as st => match fs[i]? with
    | some f => callF (phi fs k) f as st
    | none => .bad
end Gm

/-! The deep layer, part B: how a state of the machine (as HandS tells it) stands for a state of the semantics. -/
namespace Gm
open PySem PySem.Spec PyProof.Rows L2

mutual
/-- v is x, and stays it; F: the lists that are changed no more -/
inductive Rp (K : PySem.W.Frag) (F : Addr → Prop) (H : Hp) : V → PyData → Prop
  | non : Rp K F H .non .none
  | bl (b : Bool) : Rp K F H (.bl b) (.bool b)
  | int (i : Int) : Rp K F H (.int i) (.int i)
  | str (x : Str) : Rp K F H (.str x) (.str x)
  | lst {a : Addr} {xs : List V} {ds : List PyData} : Rd H a (.lst xs) → F a → RpAll K F H xs ds → Rp K F H (.ref a) (.list ds)
  | tup {a : Addr} {xs : List V} {ds : List PyData} : SqT K H a xs → RpAll K F H xs ds → Rp K F H (.ref a) (.tuple ds)
inductive RpAll (K : PySem.W.Frag) (F : Addr → Prop) (H : Hp) : List V → List PyData → Prop
  | nil : RpAll K F H [] []
  | cons {v : V} {vs : List V} {d : PyData} {ds : List PyData} : Rp K F H v d → RpAll K F H vs ds → RpAll K F H (v :: vs) (d :: ds)
end
structure Kp (F : Addr → Prop) (H : Hp) (F' : Addr → Prop) (H' : Hp) : Prop where
  sub : ∀ a, F a → F' a
  tup : ∀ a xs, Rd H a (.tup xs) → Rd H' a (.tup xs)
  lst : ∀ a xs, F a → Rd H a (.lst xs) → Rd H' a (.lst xs)
section
variable {K : PySem.W.Frag} {F F' : Addr → Prop} {H H' : Hp}
theorem SqT.keepK {a : Addr} {xs : List V} (k : Kp F H F' H') (h : SqT K H a xs) : SqT K H' a xs := by
  rcases h with h | h
  · exact .inl (k.tup a xs h)
  · exact .inr h
mutual
theorem Rp.keep (k : Kp F H F' H') : ∀ (d : PyData) (v : V), Rp K F H v d → Rp K F' H' v d
  | .none, _, h => by cases h; exact .non
  | .bool b, _, h => by cases h; exact .bl b
  | .int i, _, h => by cases h; exact .int i
  | .str x, _, h => by cases h; exact .str x
  | .list ds, _, h => by
    cases h with
    | lst h1 h2 ha => exact .lst (k.lst _ _ h2 h1) (k.sub _ h2) (RpAll.keep k ds _ ha)
  | .tuple ds, _, h => by
    cases h with
    | tup hs ha => exact .tup (SqT.keepK k hs) (RpAll.keep k ds _ ha)
  | .dict _, _, h => by cases h
theorem RpAll.keep (k : Kp F H F' H') : ∀ (ds : List PyData) (vs : List V), RpAll K F H vs ds → RpAll K F' H' vs ds
  | [], _, h => by cases h; exact .nil
  | d :: ds, _, h => by
    cases h with
    | cons h1 h2 => exact .cons (Rp.keep k d _ h1) (RpAll.keep k ds _ h2)
end
mutual
theorem Rp.dp : ∀ (d : PyData) (v : V), Rp K F H v d → Dp K H v d
  | .none, _, h => by cases h; exact .non
  | .bool b, _, h => by cases h; exact .bl b
  | .int i, _, h => by cases h; exact .int i
  | .str x, _, h => by cases h; exact .str x
  | .list ds, _, h => by
    cases h with
    | lst h1 h2 ha => exact .lst (.inl h1) (RpAll.dp ds _ ha)
  | .tuple ds, _, h => by
    cases h with
    | tup hs ha => exact .tup hs (RpAll.dp ds _ ha)
  | .dict _, _, h => by cases h
theorem RpAll.dp : ∀ (ds : List PyData) (vs : List V), RpAll K F H vs ds → DpAll K H vs ds
  | [], _, h => by cases h; exact .nil
  | d :: ds, _, h => by
    cases h with
    | cons h1 h2 => exact .cons (Rp.dp d _ h1) (RpAll.dp ds _ h2)
end
theorem RpAll.length : ∀ {ds : List PyData} {vs : List V}, RpAll K F H vs ds → vs.length = ds.length
  | [], _, h => by cases h; rfl
  | d :: ds, _, h => by
    cases h with
    | cons h1 h2 => rw [List.length_cons, List.length_cons, RpAll.length h2]
theorem RpAll.get : ∀ {ds : List PyData} {vs : List V} {i : Nat} {d : PyData}, RpAll K F H vs ds → ds[i]? = some d → ∃ v, vs[i]? = some v ∧ Rp K F H v d
  | [], _, i, d, _, e => by simp at e
  | x :: ds, _, 0, d, h, e => by
    cases h with
    | cons h1 h2 =>
      simp at e
      subst e
      exact ⟨_, rfl, h1⟩
  | x :: ds, _, i + 1, d, h, e => by
    cases h with
    | cons h1 h2 =>
      obtain ⟨v, h3, h4⟩ := RpAll.get (i := i) h2 (by simpa using e)
      exact ⟨v, by simpa using h3, h4⟩
theorem RpAll.get' : ∀ {ds : List PyData} {vs : List V} {i : Nat} {v : V}, RpAll K F H vs ds → vs[i]? = some v → ∃ d, ds[i]? = some d ∧ Rp K F H v d := fun {ds vs i v} h e => by
  have hl := h.length
  obtain ⟨hlt, _⟩ := List.getElem?_eq_some_iff.mp e
  have hd : ds[i]? = some ds[i] := List.getElem?_eq_getElem (by omega)
  obtain ⟨v', h1, h2⟩ := h.get hd
  rw [e] at h1
  cases h1
  exact ⟨_, hd, h2⟩
theorem RpAll.append : ∀ {ds es : List PyData} {vs us : List V}, RpAll K F H vs ds → RpAll K F H us es → RpAll K F H (vs ++ us) (ds ++ es)
  | [], _, _, _, h, g => by cases h; exact g
  | d :: ds, _, _, _, h, g => by
    cases h with
    | cons h1 h2 => exact .cons h1 (h2.append g)
theorem RpAll.take : ∀ {ds : List PyData} {vs : List V} (n : Nat), RpAll K F H vs ds → RpAll K F H (vs.take n) (ds.take n)
  | _, _, 0, h => by rw [List.take_zero, List.take_zero]; exact .nil
  | [], _, n + 1, h => by cases h; exact .nil
  | d :: ds, _, n + 1, h => by
    cases h with
    | cons h1 h2 => exact .cons h1 (h2.take n)
theorem RpAll.drop : ∀ {ds : List PyData} {vs : List V} (n : Nat), RpAll K F H vs ds → RpAll K F H (vs.drop n) (ds.drop n)
  | _, _, 0, h => h
  | [], _, n + 1, h => by cases h; exact .nil
  | d :: ds, _, n + 1, h => by
    cases h with
    | cons h1 h2 => exact h2.drop n
theorem RpAll.reverse : ∀ {ds : List PyData} {vs : List V}, RpAll K F H vs ds → RpAll K F H vs.reverse ds.reverse
  | [], _, h => by cases h; exact .nil
  | d :: ds, _, h => by
    cases h with
    | cons h1 h2 =>
      rw [List.reverse_cons, List.reverse_cons]
      exact h2.reverse.append (.cons h1 .nil)
theorem RpAll.set {x : PyData} {u : V} (r : Rp K F H u x) : ∀ {ds : List PyData} {vs : List V} (i : Nat), RpAll K F H vs ds → RpAll K F H (vs.set i u) (ds.set i x)
  | [], _, i, h => by cases h; exact .nil
  | d :: ds, _, 0, h => by
    cases h with
    | cons h1 h2 => exact .cons r h2
  | d :: ds, _, i + 1, h => by
    cases h with
    | cons h1 h2 => exact .cons h1 (h2.set r i)
theorem RpAll.rep {ds : List PyData} {vs : List V} (h : RpAll K F H vs ds) : ∀ n : Nat, RpAll K F H (List.replicate n vs).flatten (List.replicate n ds).flatten
  | 0 => .nil
  | n + 1 => by
    rw [List.replicate_succ, List.replicate_succ, List.flatten_cons, List.flatten_cons]
    exact h.append (h.rep n)
theorem RpAll.cut {ds : List PyData} {vs : List V} (h : RpAll K F H vs ds) (lo hi : Option Int) : RpAll K F H (cutV vs lo hi) (cutD ds lo hi) := by
  unfold cutV cutD
  rw [h.length]
  exact (h.drop _).take _
/-- an object that may still change -/
def RepC (K : PySem.W.Frag) (F : Addr → Prop) (H : Hp) (a : Addr) : C → Prop
  | .lst xs => ∃ vs, H a = some (.lst vs) ∧ RpAll K F H vs xs
theorem RepC.keep {a : Addr} {c : C} (k : Kp F H F' H') (e : H' a = H a) (h : RepC K F H a c) : RepC K F' H' a c := by
  cases c with
  | lst xs =>
    obtain ⟨vs, h1, h2⟩ := h
    exact ⟨vs, by rw [e]; exact h1, RpAll.keep k _ _ h2⟩
theorem RepC.there {a : Addr} {c : C} (h : RepC K F H a c) : H a ≠ none := by
  cases c with
  | lst xs =>
    obtain ⟨vs, h1, h2⟩ := h
    rw [h1]
    exact fun z => nomatch z
theorem RepC.noTup {a : Addr} {c : C} (h : RepC K F H a c) (vs : List V) : ¬ Rd H a (.tup vs) := by
  cases c with
  | lst xs =>
    obtain ⟨us, h1, h2⟩ := h
    rintro (z | ⟨o, z⟩) <;> (rw [h1] at z; cases z)
/-- an object is frozen -/
theorem RepC.frz {a : Addr} {c : C} (h : RepC K F H a c) (hF : F a) : Rp K F H (.ref a) c.dat := by
  cases c with
  | lst xs =>
    obtain ⟨vs, h1, h2⟩ := h
    exact .lst (.inl h1) hF h2
/-- read now -/
theorem RepC.dp {a : Addr} {c : C} (h : RepC K F H a c) : Dp K H (.ref a) c.dat := by
  cases c with
  | lst xs =>
    obtain ⟨vs, h1, h2⟩ := h
    exact .lst (.inl (.inl h1)) (RpAll.dp _ _ h2)
end

/-- b: the objects that this frame has borrowed; o: those that it owns -/
structure Bs where
  b : Addr → Prop
  o : Addr → Prop
def Bs.u (B : Bs) (a : Addr) : Prop := B.b a ∨ B.o a
def Bs.dn (B : Bs) : Bs := ⟨B.u, fun _ => False⟩

structure StOk (K : PySem.W.Frag) (F : Addr → Prop) (β : List Addr) (B : Bs) (H : Hp) (st : Stt) : Prop where
  len : β.length = st.length
  nd : β.Nodup
  nf : ∀ a ∈ β, ¬ F a
  ob : ∀ a, B.u a → a ∉ β ∧ ¬ F a ∧ H a ≠ none
  ft : ∀ a, F a → H a ≠ none
  at_ : ∀ (n : Nat) (a : Addr) (c : C), β[n]? = some a → st[n]? = some c → RepC K F H a c
structure Ext (F : Addr → Prop) (β : List Addr) (H : Hp) (F' : Addr → Prop) (H' : Hp) : Prop where
  sub : ∀ a, F a → F' a
  new : ∀ a, F' a → F a ∨ (a ∉ β ∧ H a = none)
  un : ∀ a, a ∉ β → H a ≠ none → H' a = H a
section
variable {K : PySem.W.Frag} {F F' F1 F2 : Addr → Prop} {H H' H1 H2 : Hp} {β : List Addr} {B : Bs} {st : Stt}
theorem StOk.mem (s : StOk K F β B H st) {a : Addr} (h : a ∈ β) : ∃ c, RepC K F H a c := by
  obtain ⟨n, hn, e⟩ := List.mem_iff_getElem.mp h
  have e1 : β[n]? = some a := by rw [List.getElem?_eq_getElem hn, e]
  have e2 : st[n]? = some (st[n]'(by rw [← s.len]; exact hn)) := List.getElem?_eq_getElem _
  exact ⟨_, s.at_ n a _ e1 e2⟩
theorem Ext.refl : Ext F β H F H := ⟨fun _ h => h, fun _ h => .inl h, fun _ _ _ => rfl⟩
theorem Ext.trans (e : Ext F β H F1 H1) (g : Ext F1 β H1 F2 H2) : Ext F β H F2 H2 where
  sub := fun a h => g.sub a (e.sub a h)
  new := fun a h => by
    rcases g.new a h with h | ⟨h1, h2⟩
    · exact e.new a h
    · refine .inr ⟨h1, ?_⟩
      cases q : H a with
      | none => rfl
      | some o =>
        have := e.un a h1 (by rw [q]; exact fun z => nomatch z)
        rw [h2, q] at this
        cases this
  un := fun a h1 h2 => by
    have e1 := e.un a h1 h2
    rw [g.un a h1 (by rw [e1]; exact h2), e1]
theorem Ext.none_back (e : Ext F β H F1 H1) {a : Addr} (h1 : a ∉ β) (h2 : H1 a = none) : H a = none := by
  cases q : H a with
  | none => rfl
  | some o =>
    have := e.un a h1 (by rw [q]; exact fun z => nomatch z)
    rw [h2, q] at this
    cases this
theorem rd_there {H : Hp} {a : Addr} {u : HO} (h : Rd H a u) : H a ≠ none := by
  rcases h with h | ⟨o, h⟩ <;> (rw [h]; exact fun z => nomatch z)
theorem rd_eq {H H' : Hp} {a : Addr} {u : HO} (h : Rd H a u) (e : H' a = H a) : Rd H' a u := by
  unfold Rd
  rw [e]
  exact h
theorem Ext.kp (e : Ext F β H F' H') (s : StOk K F β B H st) : Kp F H F' H' where
  sub := e.sub
  tup := fun a xs h => rd_eq h (e.un a (fun hm => let ⟨c, hc⟩ := s.mem hm; hc.noTup xs h) (rd_there h))
  lst := fun a xs hF h => rd_eq h (e.un a (fun hm => s.nf a hm hF) (rd_there h))
/-- a new object is laid -/
theorem Ext.laid {p : Addr} {o : HO} (hp : H p = none) : Ext F β H F (upd H p o) :=
  ⟨fun _ h => h, fun _ h => .inl h, fun a _ h => upd_ne fun e => h (by rw [e]; exact hp)⟩
theorem StOk.keep (s : StOk K F β B H st) (e : Ext F β H F' H') (hb : ∀ a ∈ β, H' a = H a) (hf : ∀ a, F' a → H' a ≠ none) : StOk K F' β B H' st where
  ft := hf
  len := s.len
  nd := s.nd
  nf := fun a h hF => by
    rcases e.new a hF with z | ⟨z, _⟩
    · exact s.nf a h z
    · exact z h
  ob := fun a h => by
    obtain ⟨h1, h2, h3⟩ := s.ob a h
    refine ⟨h1, fun hF => ?_, by rw [e.un a h1 h3]; exact h3⟩
    rcases e.new a hF with z | ⟨_, z⟩
    · exact h2 z
    · exact h3 z
  at_ := fun n a c e1 e2 => (s.at_ n a c e1 e2).keep (e.kp s) (hb a (List.mem_of_getElem? e1))
theorem StOk.laid {p : Addr} {o : HO} (s : StOk K F β B H st) (hp : H p = none) : StOk K F β B (upd H p o) st :=
  s.keep (Ext.laid hp) (fun a h => upd_ne fun e => by
    obtain ⟨c, hc⟩ := s.mem h
    exact hc.there (by rw [e]; exact hp)) fun a h => by
    have h1 := s.ft a h
    rw [upd_ne fun e => h1 (by rw [e]; exact hp)]
    exact h1
end

/-- a value -/
def RepV (K : PySem.W.Frag) (F : Addr → Prop) (β : List Addr) (B : Bs) (H : Hp) (v : V) : W → Prop
  | .d x => Rp K F H v x
  | .new c => ∃ a, v = .ref a ∧ RepC K F H a c ∧ a ∉ β ∧ ¬ F a
  | .bor c => ∃ a, v = .ref a ∧ RepC K F H a c ∧ B.b a
  | .own c => ∃ a, v = .ref a ∧ RepC K F H a c ∧ B.o a
  | .lent c => ∃ a, v = .ref a ∧ RepC K F H a c ∧ B.o a
  | .loc n => ∃ a, v = .ref a ∧ β[n]? = some a
/-- a new object is new since H -/
def Fresh (H : Hp) (v : V) : W → Prop
  | .new _ => ∀ a, v = .ref a → H a = none
  | .own _ => False
  | _ => True
def RR (K : PySem.W.Frag) (β : List Addr) (B : Bs) (H : Hp) (F' : Addr → Prop) (H' : Hp) (v : V) (w : W) : Prop := RepV K F' β B H' v w ∧ Fresh H v w
inductive RL (K : PySem.W.Frag) (β : List Addr) (B : Bs) (H : Hp) (F' : Addr → Prop) (H' : Hp) : List V → List W → Prop
  | nil : RL K β B H F' H' [] []
  | cons {v : V} {w : W} {vs : List V} {ws : List W} : RR K β B H F' H' v w → RL K β B H F' H' vs ws → RL K β B H F' H' (v :: vs) (w :: ws)
def REq {α : Type} (_ : Hp) (_ : Addr → Prop) (_ : Hp) (v w : α) : Prop := v = w
/-- an exception: its class by its name, its fields -/
def ExRep (K : PySem.W.Frag) (mg : Str → Option Value) (F : Addr → Prop) (H : Hp) (x : XV) (c : Value) (d : Option Addr) : Prop :=
  ∃ C, mg x.cls = some (.ref C) ∧ c = .ref C ∧ ∃ dx fvs, d = some dx ∧ H dx = some (.xd fvs) ∧ fvs.map (·.1) = x.fs.map (·.1) ∧ RpAll K F H (fvs.map (·.2)) (x.fs.map (·.2))

section
variable {K : PySem.W.Frag} {F F' F1 F2 : Addr → Prop} {H H' H1 H2 : Hp} {β : List Addr} {B : Bs} {st : Stt}
theorem RepV.ob {v : V} {c : C} (h : ∃ a, v = V.ref a ∧ RepC K F H a c ∧ a ∉ β ∧ ¬ F a) (k : Kp F H F' H') (e : Ext F β H F' H') : ∃ a, v = V.ref a ∧ RepC K F' H' a c ∧ a ∉ β ∧ ¬ F' a := by
  obtain ⟨a, h1, h2, h3, h4⟩ := h
  refine ⟨a, h1, h2.keep k (e.un a h3 h2.there), h3, fun hF => ?_⟩
  rcases e.new a hF with z | ⟨_, z⟩
  · exact h4 z
  · exact h2.there z
theorem RepV.lnt {v : V} {c : C} {P : Addr → Prop} (hP : ∀ a, P a → B.u a) (h : ∃ a, v = V.ref a ∧ RepC K F H a c ∧ P a) (s : StOk K F β B H st) (k : Kp F H F' H') (e : Ext F β H F' H') : ∃ a, v = V.ref a ∧ RepC K F' H' a c ∧ P a := by
  obtain ⟨a, h1, h2, h3⟩ := h
  exact ⟨a, h1, h2.keep k (e.un a (s.ob a (hP a h3)).1 h2.there), h3⟩
theorem RepV.keep {v : V} {w : W} (h : RepV K F β B H v w) (e : Ext F β H F' H') (s : StOk K F β B H st) : RepV K F' β B H' v w := by
  have k := e.kp s
  cases w with
  | d x => exact Rp.keep k _ _ h
  | new c => exact RepV.ob h k e
  | bor c => exact RepV.lnt (fun _ => .inl) h s k e
  | own c => exact RepV.lnt (fun _ => .inr) h s k e
  | lent c => exact RepV.lnt (fun _ => .inr) h s k e
  | loc n => exact h
theorem RepV.dp {v : V} {w : W} {x : PyData} (h : RepV K F β B H v w) (s : StOk K F β B H st) (e : w.rd st = some x) : Dp K H v x := by
  cases w with
  | d y => cases e; exact Rp.dp _ _ h
  | new c => cases e; obtain ⟨a, rfl, h2, _⟩ := h; exact h2.dp
  | bor c => cases e; obtain ⟨a, rfl, h2, _⟩ := h; exact h2.dp
  | lent c => cases e; obtain ⟨a, rfl, h2, _⟩ := h; exact h2.dp
  | own c => cases e
  | loc n =>
    obtain ⟨a, rfl, h2⟩ := h
    cases q : st[n]? with
    | none => rw [W.rd, q] at e; cases e
    | some c =>
      rw [W.rd, q] at e
      cases e
      exact (s.at_ n a c h2 q).dp
/-- read now, the items to stay -/
def RdP (K : PySem.W.Frag) (F : Addr → Prop) (H : Hp) (v : V) (x : PyData) : Prop :=
  Rp K F H v x ∨ ∃ a vs xs, v = .ref a ∧ x = .list xs ∧ H a = some (.lst vs) ∧ RpAll K F H vs xs
theorem RdP.dp {v : V} {x : PyData} (h : RdP K F H v x) : Dp K H v x := by
  rcases h with h | ⟨a, vs, xs, rfl, rfl, h1, h2⟩
  · exact Rp.dp _ _ h
  · exact .lst (.inl (.inl h1)) (RpAll.dp _ _ h2)
theorem RepC.rdp {a : Addr} {c : C} (h : RepC K F H a c) : RdP K F H (.ref a) c.dat := by
  cases c with
  | lst xs =>
    obtain ⟨vs, h1, h2⟩ := h
    exact .inr ⟨a, vs, xs, rfl, rfl, h1, h2⟩
theorem RepV.rdp {v : V} {w : W} {x : PyData} (h : RepV K F β B H v w) (s : StOk K F β B H st) (e : w.rd st = some x) : RdP K F H v x := by
  cases w with
  | d y => cases e; exact .inl h
  | new c => cases e; obtain ⟨a, rfl, h2, _⟩ := h; exact h2.rdp
  | bor c => cases e; obtain ⟨a, rfl, h2, _⟩ := h; exact h2.rdp
  | lent c => cases e; obtain ⟨a, rfl, h2, _⟩ := h; exact h2.rdp
  | own c => cases e
  | loc n =>
    obtain ⟨a, rfl, h2⟩ := h
    cases q : st[n]? with
    | none => rw [W.rd, q] at e; cases e
    | some c =>
      rw [W.rd, q] at e
      cases e
      exact (s.at_ n a c h2 q).rdp
/-- a list that is read -/
theorem RdP.list {v : V} {xs : List PyData} (h : RdP K F H v (.list xs)) : ∃ a vs, v = .ref a ∧ Rd H a (.lst vs) ∧ RpAll K F H vs xs := by
  rcases h with h | ⟨a, vs, ys, rfl, e, h1, h2⟩
  · cases h with
    | lst h1 h2 ha => exact ⟨_, _, rfl, h1, ha⟩
  · cases e
    exact ⟨a, vs, rfl, .inl h1, h2⟩
theorem RdP.tuple {v : V} {xs : List PyData} (h : RdP K F H v (.tuple xs)) : ∃ a vs, v = .ref a ∧ SqT K H a vs ∧ RpAll K F H vs xs := by
  rcases h with h | ⟨a, vs, ys, rfl, e, h1, h2⟩
  · cases h with
    | tup hs ha => exact ⟨_, _, rfl, hs, ha⟩
  · cases e
theorem RdP.int {v : V} {i : Int} (h : RdP K F H v (.int i)) : v = .int i := by
  rcases h with h | ⟨a, vs, ys, rfl, e, h1, h2⟩
  · cases h; rfl
  · cases e
theorem RdP.bl {v : V} {i : Bool} (h : RdP K F H v (.bool i)) : v = .bl i := by
  rcases h with h | ⟨a, vs, ys, rfl, e, h1, h2⟩
  · cases h; rfl
  · cases e
theorem RdP.str {v : V} {i : Str} (h : RdP K F H v (.str i)) : v = .str i := by
  rcases h with h | ⟨a, vs, ys, rfl, e, h1, h2⟩
  · cases h; rfl
  · cases e
theorem RdP.non {v : V} (h : RdP K F H v .none) : v = .non := by
  rcases h with h | ⟨a, vs, ys, rfl, e, h1, h2⟩
  · cases h; rfl
  · cases e
theorem RdP.dict {v : V} {kvs : List (PyData × PyData)} (h : RdP K F H v (.dict kvs)) : False := by
  rcases h with h | ⟨a, vs, ys, rfl, e, h1, h2⟩
  · cases h
  · cases e
theorem Fresh.back {v : V} {w : W} (h : RR K β B H1 F' H' v w) (e : Ext F β H F1 H1) : RR K β B H F' H' v w := by
  refine ⟨h.1, ?_⟩
  obtain ⟨hr, h⟩ := h
  cases w with
  | new c =>
    obtain ⟨a, rfl, h2, h3, h4⟩ := hr
    intro b eb
    cases eb
    exact e.none_back h3 (h a rfl)
  | own c => exact h
  | d x => trivial
  | bor c => trivial
  | lent c => trivial
  | loc n => trivial
theorem RL.back {vs : List V} {ws : List W} (h : RL K β B H1 F' H' vs ws) (e : Ext F β H F1 H1) : RL K β B H F' H' vs ws := by
  induction h with
  | nil => exact .nil
  | cons a _ ih => exact .cons (Fresh.back a e) ih
theorem RR.keep {v : V} {w : W} {H0 : Hp} (h : RR K β B H0 F H v w) (e : Ext F β H F' H') (s : StOk K F β B H st) : RR K β B H0 F' H' v w := ⟨h.1.keep e s, h.2⟩
theorem RL.keep {vs : List V} {ws : List W} {H0 : Hp} (h : RL K β B H0 F H vs ws) (e : Ext F β H F' H') (s : StOk K F β B H st) : RL K β B H0 F' H' vs ws := by
  induction h with
  | nil => exact .nil
  | cons a _ ih => exact .cons (a.keep e s) ih

/-- what is asked of what comes behind a piece of the semantics -/
def Post {α τ : Type} (K : PySem.W.Frag) (mg : Str → Option Value) (β : List Addr) (B : Bs) (rep : Hp → (Addr → Prop) → Hp → τ → α → Prop) (F : Addr → Prop) (H : Hp) (wx : Value → Option Addr → Hp → Prop) (r : Res α) (Q : τ → Hp → Prop) : Prop :=
  match r with
  | .ok w st' => ∀ v F' H', Ext F β H F' H' → StOk K F' β B H' st' → rep H F' H' v w → Q v H'
  | .ex x st' => ∀ c d F' H', Ext F β H F' H' → StOk K F' β B H' st' → ExRep K mg F' H' x c d → wx c d H'
  | .bad => False
def Back {α τ : Type} (β : List Addr) (rep : Hp → (Addr → Prop) → Hp → τ → α → Prop) : Prop := ∀ (F : Addr → Prop) (H : Hp) (F1 : Addr → Prop) (H1 : Hp) (F' : Addr → Prop) (H' : Hp) v w, Ext F β H F1 H1 → rep H1 F' H' v w → rep H F' H' v w
theorem back_RR : Back β (RR K β B) := fun _ _ _ _ _ _ _ _ e h => Fresh.back h e
theorem back_RL : Back β (RL K β B) := fun _ _ _ _ _ _ _ _ e h => RL.back h e
theorem back_REq {α : Type} : Back (α := α) β REq := fun _ _ _ _ _ _ _ _ _ h => h
variable {mg : Str → Option Value} {wx : Value → Option Addr → Hp → Prop}
theorem Post.imp {α τ : Type} {rep : Hp → (Addr → Prop) → Hp → τ → α → Prop} {r : Res α} {Q Q' : τ → Hp → Prop} (h : Post K mg β B rep F H wx r Q) (hq : ∀ v H, Q v H → Q' v H) : Post K mg β B rep F H wx r Q' := by
  cases r with
  | ok w st => exact fun v F' H' a b c => hq _ _ (h v F' H' a b c)
  | ex x st => exact h
  | bad => exact h
/-- later: from a state that came of this one -/
theorem Post.later {α τ : Type} {rep : Hp → (Addr → Prop) → Hp → τ → α → Prop} {r : Res α} {Q : τ → Hp → Prop} (hb : Back β rep) (h : Post K mg β B rep F H wx r Q) (e : Ext F β H F1 H1) : Post K mg β B rep F1 H1 wx r Q := by
  cases r with
  | ok w st => exact fun v F' H' a b c => h v F' H' (e.trans a) b (hb _ _ _ _ _ _ _ _ e c)
  | ex x st => exact fun c d F' H' a b r => h c d F' H' (e.trans a) b r
  | bad => exact h
/-- step: the first part of a sequence -/
theorem Post.step {α β' τ τ' : Type} {rep : Hp → (Addr → Prop) → Hp → τ → α → Prop} {rep' : Hp → (Addr → Prop) → Hp → τ' → β' → Prop} {r : Res α} {k : α → Stt → Res β'} {Q : τ' → Hp → Prop} (hb : Back β rep') (h : Post K mg β B rep' F H wx (r.bind k) Q) :
    Post K mg β B rep F H wx r (fun v H1 => ∃ w st1 F1, Ext F β H F1 H1 ∧ StOk K F1 β B H1 st1 ∧ rep H F1 H1 v w ∧ Post K mg β B rep' F H wx (k w st1) Q) := by
  cases r with
  | ok w st => exact fun v F' H' a b c => ⟨w, st, F', a, b, c, h⟩
  | ex x st => exact h
  | bad => exact h
/-- a pure end -/
theorem Post.done {α τ : Type} {rep : Hp → (Addr → Prop) → Hp → τ → α → Prop} {Q : τ → Hp → Prop} {w : α} {st : Stt} {v : τ} (h : Post K mg β B rep F H wx (.ok w st) Q) (s : StOk K F β B H st) (r : rep H F H v w) : Q v H := h v F H Ext.refl s r
theorem Post.doneX {α τ : Type} {rep : Hp → (Addr → Prop) → Hp → τ → α → Prop} {Q : τ → Hp → Prop} {w : α} {st : Stt} {v : τ} (h : Post K mg β B rep F H wx (.ok w st) Q) (e : Ext F β H F' H') (s : StOk K F' β B H' st) (r : rep H F' H' v w) : Q v H' := h v F' H' e s r
theorem Post.ofO {α τ : Type} {rep : Hp → (Addr → Prop) → Hp → τ → α → Prop} {Q : τ → Hp → Prop} {st : Stt} {o : Option α} (h : Post K mg β B rep F H wx (Res.ofO st o) Q) : ∃ w, o = some w ∧ Post K mg β B rep F H wx (.ok w st) Q := by
  cases o with
  | none => exact h.elim
  | some w => exact ⟨w, rfl, h⟩
end

section
variable {K : PySem.W.Frag} {F F' F1 F2 : Addr → Prop} {H H' H1 H2 : Hp} {β : List Addr} {B : Bs} {st : Stt}
/-- all that is new since H is frozen -/
def frzF (F1 : Addr → Prop) (β : List Addr) (H H1 : Hp) : Addr → Prop := fun a => F1 a ∨ (a ∉ β ∧ H a = none ∧ H1 a ≠ none)
theorem frz_ext (e : Ext F β H F1 H1) : Ext F β H (frzF F1 β H H1) H1 where
  sub := fun a h => .inl (e.sub a h)
  new := fun a h => h.elim (e.new a) fun z => .inr ⟨z.1, z.2.1⟩
  un := e.un
theorem frz_st (hB : ∀ a, B.u a → H a ≠ none) (s : StOk K F1 β B H1 st) : StOk K (frzF F1 β H H1) β B H1 st where
  len := s.len
  nd := s.nd
  ft := fun a h => h.elim (s.ft a) fun z => z.2.2
  nf := fun a h hF => hF.elim (s.nf a h) fun z => z.1 h
  ob := fun a h => ⟨(s.ob a h).1, fun hF => hF.elim (s.ob a h).2.1 fun z => hB a h z.2.1, (s.ob a h).2.2⟩
  at_ := fun n b c e1 e2 => (s.at_ n b c e1 e2).keep ⟨fun _ h => .inl h, fun _ _ h => h, fun _ _ _ h => h⟩ rfl
theorem frz_kp : Kp F1 H1 (frzF F1 β H H1) H1 := ⟨fun _ h => .inl h, fun _ _ h => h, fun _ _ _ h => h⟩
theorem RR.py {v : V} {w : W} {x : PyData} (h : RR K β B H F1 H1 v w) (e : w.py = some x) : Rp K (frzF F1 β H H1) H1 v x := by
  obtain ⟨hr, hf⟩ := h
  cases w with
  | d y => cases e; exact Rp.keep frz_kp _ _ hr
  | new c =>
    cases e
    obtain ⟨a, rfl, h2, h3, h4⟩ := hr
    exact (h2.keep frz_kp rfl).frz (.inr ⟨h3, hf a rfl, h2.there⟩)
  | _ => cases e
theorem RL.py : ∀ {ws : List W} {vs : List V} {xs : List PyData}, RL K β B H F1 H1 vs ws → pyAll ws = some xs → RpAll K (frzF F1 β H H1) H1 vs xs
  | [], _, _, h, e => by cases h; cases e; exact .nil
  | w :: ws, _, _, h, e => by
    cases h with
    | cons h1 h2 =>
      unfold pyAll at e
      obtain ⟨x, e1, e2⟩ := Option.bind_eq_some_iff.mp e
      obtain ⟨ys, e3, rfl⟩ := Option.map_eq_some_iff.mp e2
      exact .cons (h1.py e1) (RL.py h2 e3)
/-- arguments -/
inductive RA (K : PySem.W.Frag) (F : Addr → Prop) (β : List Addr) (B : Bs) (H : Hp) : List V → List W → Prop
  | nil : RA K F β B H [] []
  | cons {v : V} {w : W} {vs : List V} {ws : List W} : RepV K F β B H v w → ((∃ x, w = .d x) ∨ (∃ c, w = .bor c) ∨ ∃ n, w = .loc n) → RA K F β B H vs ws → RA K F β B H (v :: vs) (w :: ws)
/-- .. what is lent stands apart from all that is new -/
theorem RL.args : ∀ {ws : List W} {vs : List V} {as : List W}, RL K β B H F1 H1 vs ws → argAll ws = some as → RA K (frzF F1 β H H1) β B.dn H1 vs as
  | [], _, _, h, e => by cases h; cases e; exact .nil
  | w :: ws, _, _, h, e => by
    cases h with
    | @cons v _ vs _ h1 h2 =>
      unfold argAll at e
      obtain ⟨x, e1, e2⟩ := Option.bind_eq_some_iff.mp e
      obtain ⟨ys, e3, rfl⟩ := Option.map_eq_some_iff.mp e2
      have rest := RL.args h2 e3
      have lent : ∀ (P : Addr → Prop), (∀ a, P a → B.u a) → ∀ c, (∃ a, v = V.ref a ∧ RepC K F1 H1 a c ∧ P a) → RepV K (frzF F1 β H H1) β B.dn H1 v (.bor c) := fun P hP c q => by
        obtain ⟨a, rfl, q2, q3⟩ := q
        exact ⟨a, rfl, q2.keep frz_kp rfl, hP a q3⟩
      cases w with
      | d y => cases e1; exact .cons (h1.py rfl) (.inl ⟨_, rfl⟩) rest
      | new c => cases e1; exact .cons (h1.py (w := .new c) rfl) (.inl ⟨_, rfl⟩) rest
      | bor c => cases e1; exact .cons (lent _ (fun _ => .inl) c h1.1) (.inr (.inl ⟨_, rfl⟩)) rest
      | lent c => cases e1; exact .cons (lent _ (fun _ => .inr) c h1.1) (.inr (.inl ⟨_, rfl⟩)) rest
      | loc n => cases e1; exact .cons h1.1 (.inr (.inr ⟨_, rfl⟩)) rest
      | own c => cases e1
end

/-- a frame -/
structure RelE (K : PySem.W.Frag) (F : Addr → Prop) (β : List Addr) (B : Bs) (ρ : Rho) (st : Stt) (σ : L2.St) (H : Hp) : Prop where
  len : ρ.length = σ.length
  slot : ∀ (i : Nat) (w : W), ρ[i]? = some (some w) → ∃ v, σ[i]? = some (some v) ∧ RepV K F β B H v w
  rest : ∀ (i : Nat) (w : W), ρ[i]? = some (some w) → (∀ c, w ≠ .new c) ∧ ∀ c, w ≠ .lent c
  apart : ∀ (i j : Nat) (c c' : C) (a : Addr), ρ[i]? = some (some (.own c)) → σ[i]? = some (some (V.ref a)) → ρ[j]? = some (some (.own c')) → σ[j]? = some (some (V.ref a)) → i = j
  st : StOk K F β B H st
section
variable {K : PySem.W.Frag} {F F' F1 : Addr → Prop} {H H' H1 : Hp} {β : List Addr} {B : Bs} {st st' : Stt} {ρ : Rho} {σ : L2.St}
theorem RelE.ext (R : RelE K F β B ρ st σ H) (e : Ext F β H F' H') (s : StOk K F' β B H' st') : RelE K F' β B ρ st' σ H' :=
  ⟨R.len, fun i w h => let ⟨v, h1, h2⟩ := R.slot i w h; ⟨v, h1, h2.keep e R.st⟩, R.rest, R.apart, s⟩
end
/-- the readings -/
def tE (K : PySem.W.Frag) (mg : Str → Option Value) (wx : WX) (f : Rho → Stt → Res W) : TE := fun σ H Q => ∃ F β B ρ st, RelE K F β B ρ st σ H ∧ Post K mg β B (RR K β B) F H (fun c d H' => wx c d σ H') (f ρ st) Q
def tT (K : PySem.W.Frag) (mg : Str → Option Value) (wx : WX) (f : Rho → Stt → Res Bool) : TT := fun σ H Q => ∃ F β B ρ st, RelE K F β B ρ st σ H ∧ Post K mg β B REq F H (fun c d H' => wx c d σ H') (f ρ st) Q
def tAs (K : PySem.W.Frag) (mg : Str → Option Value) (wx : WX) (f : Rho → Stt → Res (List W)) : TA := fun σ H Q => ∃ F β B ρ st, RelE K F β B ρ st σ H ∧ Post K mg β B (RL K β B) F H (fun c d H' => wx c d σ H') (f ρ st) Q
end Gm

/-! The deep layer, part C: operations on values. -/
namespace Gm
open PySem PySem.Spec PyProof.Rows L2
section
variable {K : PySem.W.Frag} {F : Addr → Prop} {H : Hp} {β : List Addr} {B : Bs} {st : Stt} {mg : Str → Option Value} {wx : Value → Option Addr → Hp → Prop} {Q : VK}
theorem fin_d {v : V} {x : PyData} (s : StOk K F β B H st) (h : Post K mg β B (RR K β B) F H wx (.ok (.d x) st) Q) (r : Rp K F H v x) : Q v H := Post.done h s ⟨r, trivial⟩
theorem StOk.noB (s : StOk K F β B H st) {p : Addr} (hp : H p = none) : p ∉ β := fun hm => by
  obtain ⟨c, hc⟩ := s.mem hm
  exact hc.there hp
theorem fin_new {xs : List PyData} {vs : List V} {p : Addr} (s : StOk K F β B H st) (h : Post K mg β B (RR K β B) F H wx (.ok (.new (.lst xs)) st) Q) (ra : RpAll K F H vs xs) (hp : H p = none) : Q (.ref p) (upd H p (.lst vs)) := by
  have e : Ext F β H F (upd H p (.lst vs)) := Ext.laid hp
  refine Post.doneX h e (s.laid hp) ⟨⟨p, rfl, ⟨vs, upd_same, RpAll.keep (e.kp s) _ _ ra⟩, s.noB hp, fun hF => s.ft p hF hp⟩, fun a ea => ?_⟩
  cases ea
  exact hp
theorem fin_tup {xs : List PyData} {vs : List V} {p : Addr} (s : StOk K F β B H st) (h : Post K mg β B (RR K β B) F H wx (.ok (.d (.tuple xs)) st) Q) (ra : RpAll K F H vs xs) (hp : H p = none) : Q (.ref p) (upd H p (.tup vs)) := by
  have e : Ext F β H F (upd H p (.tup vs)) := Ext.laid hp
  exact Post.doneX h e (s.laid hp) ⟨.tup (.inl (.inl upd_same)) (RpAll.keep (e.kp s) _ _ ra), trivial⟩
end

/-- an operation on two values does what g says of data -/
def OpOk (X : Cx) (f : Value → Value → Sem Value) (g : PyData → PyData → Option W) : Prop :=
  ∃ r : R2, OpR X f r ∧ ∀ (F : Addr → Prop) (β : List Addr) (B : Bs) (st : Stt) (H : Hp) (mg : Str → Option Value) (wx : Value → Option Addr → Hp → Prop) (Q : VK) (vx vy : V) (dx dy : PyData) (w : W),
    StOk X.K F β B H st → RdP X.K F H vx dx → RdP X.K F H vy dy → g dx dy = some w → Post X.K mg β B (RR X.K β B) F H wx (.ok w st) Q → r vx vy H Q
section
variable {X : Cx}
/-- list + list, of lists that may be locked -/
def rCatR : R2 := fun x y H Q => ∃ l b xs zs, x = .ref l ∧ y = .ref b ∧ Rd H l (.lst xs) ∧ Rd H b (.lst zs) ∧ xs.length + zs.length ≤ sizeLine ∧ ∀ p, H p = none → Q (.ref p) (upd H p (.lst (xs ++ zs)))
theorem rd_lst {pins : List (Addr × Obj)} {s : Shared} {σ : L2.St} {H : Hp} {l : Addr} {xs : List V} (I : Inv X pins σ H s) (h : Rd H l (.lst xs)) :
    xs.length ≤ sizeLine ∧ ∃ (its : List Value) (n : Nat), Vals xs its ∧ xs.length = its.length ∧ s.heap.get? l = some { cls := .type "list", data := .seq its.toArray n } := by
  obtain ⟨z, its, n, r, e⟩ := (show ObjOk X.prog X.w H s.heap l (.lst xs) from h.ok I.hok)
  exact ⟨z, its, n, r, r.length, e⟩
theorem op_catR : OpR X (binaryOp .Add) rCatR := by
  intro pins s σ H x y v u Q I rx ry h
  obtain ⟨l, b, xs, zs, rfl, rfl, hH, hB, hz, q⟩ := h
  cases rx
  cases ry
  obtain ⟨z, its, n, r, hl, e⟩ := rd_lst I hH
  obtain ⟨z2, its2, n2, r2, hl2, e2⟩ := rd_lst I hB
  refine PySem.P.add_list e e2 ?_ (by rw [List.size_toArray, List.size_toArray]; omega)
  have ea : its.toArray ++ its2.toArray = (its ++ its2).toArray := by simp
  rw [ea]
  exact ⟨.ref _, _, I.lnew (t' := s.toks) (r.append r2) (by rw [List.length_append]; omega), rfl, q _ I.fresh⟩
def rRepR : R2 := fun x y H Q => ∃ l k xs, x = .ref l ∧ y = .int k ∧ Rd H l (.lst xs) ∧ -(2 ^ 63) ≤ k ∧ k < 2 ^ 63 ∧ xs.length * k.toNat ≤ sizeLine ∧
  ∀ p, H p = none → Q (.ref p) (upd H p (.lst (List.replicate k.toNat xs).flatten))
theorem op_repR : OpR X (binaryOp .Mult) rRepR := by
  intro pins s σ H x y v u Q I rx ry h
  obtain ⟨l, k, xs, rfl, rfl, hH, h1, h2, hz, q⟩ := h
  cases rx
  obtain ⟨t, rfl⟩ := ry
  obtain ⟨z, its, n, r, hl, e⟩ := rd_lst I hH
  have hlen : its.toArray.size * k.toNat ≤ sizeLine := by rw [List.size_toArray, ← hl]; exact hz
  have hcap : ¬ its.toArray.size * k.toNat > (2 ^ 63 - 1) / 8 := by
    have : (sizeLine : Nat) ≤ (2 ^ 63 - 1) / 8 := by decide
    omega
  have hfit : ¬ (!Builtin.List.listFitsIndex k) = true := by
    rw [fitsIndex_both h1 h2]
    exact Bool.false_ne_true
  have hlong : ¬ Builtin.List.listTooLong (its.toArray.size * k.toNat) = true := by
    rw [notLongL hlen]
    exact Bool.false_ne_true
  have hnew : List.foldl (fun x1 x2 => x1 ++ x2) #[] (List.replicate (if its.toArray.isEmpty = true then 0 else k.toNat) its.toArray) = (List.replicate k.toNat its).flatten.toArray := by
    have f0 : ∀ m : Nat, List.foldl (fun x1 x2 => x1 ++ x2) #[] (List.replicate m its.toArray) = (List.replicate m its).flatten.toArray := fun m => by
      have := foldl_rep its m []
      rw [List.nil_append] at this
      exact this
    rw [f0]
    cases its with
    | nil => simp
    | cons a r' => rw [if_neg (by simp)]
  refine wpAny_binaryOp_repeat_ref (T := "list") (U := "int") (by decide) ⟨_, e, rfl⟩ (fun s' => typeIs_int s' k t) noFill_list_mul F.fills_int_mul F.slot_int_rmul repeat_list F.slot_int_index.lookup
    (call_meets F.slot_int_rmul (typeIs_int s k t) F.entry_int_rmul (F.args_int_rmul_2 _ _) (int___rmul___int_list k t l its.toArray n)
      ⟨e, rfl, ⟨_, e, rfl⟩, call_meets F.slot_list_mul ⟨_, e, rfl⟩ F.entry_list_mul (F.args_list_mul_2 _ _) (AutoListH.list___mul___list_int_3 l its.toArray n k t hfit hcap hlong) ⟨e, ?_⟩⟩)
  rw [hnew]
  exact ⟨.ref _, _, I.lnew (t' := s.toks) (r.rep k.toNat) (by rw [PyProof.Rows.lm_len_rep_flat, Nat.mul_comm]; exact hz), rfl, q _ I.fresh⟩
theorem tup_mul_same (l : Addr) (items : Array Value) (n : Nat) (dd : Option Addr) (sl : Array (Option Value)) (x : Int) (u : Tok) (c0 : (decide (x < -(2 ^ 63)) || decide (x ≥ 2 ^ 63)) = false) (c1 : (items.isEmpty || x == 1) = true) :
    Meets (Builtin.«tuple.__mul__» ⟨[.ref l, .int x u], []⟩) (fun _ R s => s.heap.get? l = some { cls := .type "tuple", dict := dd, data := .seq items n, slots := sl } ∧ R (.ok (.ret (Value.ref l))) s) :=
  .of_wp fun prog w A R s h => by
    obtain ⟨hp, g, d, tk, os⟩ := s
    obtain ⟨hl, h⟩ := h
    have f1 := AutoSeq1.idx_int
    wp_walk using wpAny_loadPart' hl
    repeat (first
      | (refine wpAny_ite_false (decide_eq_false (by rw [c0]; exact Bool.false_ne_true)) ?_; wp_walk using wpAny_loadPart' hl)
      | (refine wpAny_ite_true (decide_eq_true c1) ?_; wp_walk using wpAny_loadPart' hl))
    exact ⟨_, rfl, h⟩
theorem tup_mul_zero (l : Addr) (items : Array Value) (n : Nat) (dd : Option Addr) (sl : Array (Option Value)) (x : Int) (u : Tok) (c0 : (decide (x < -(2 ^ 63)) || decide (x ≥ 2 ^ 63)) = false) (c1 : (items.isEmpty || x == 1) = false) (c2 : (decide (x ≤ 0) || items.isEmpty) = true) :
    Meets (Builtin.«tuple.__mul__» ⟨[.ref l, .int x u], []⟩) (fun _ R s => s.heap.get? l = some { cls := .type "tuple", dict := dd, data := .seq items n, slots := sl } ∧
      R (.ok (.ret (Value.ref s.heap.objs.size))) { s with heap := s.heap.push { cls := Value.type "tuple", data := Data.seq #[] }, toks := s.toks }) :=
  .of_wp fun prog w A R s h => by
    obtain ⟨hp, g, d, tk, os⟩ := s
    obtain ⟨hl, h⟩ := h
    have f1 := AutoSeq1.idx_int
    wp_walk using wpAny_loadPart' hl
    repeat (first
      | (refine wpAny_ite_false (decide_eq_false (by rw [c0]; exact Bool.false_ne_true)) ?_; wp_walk using wpAny_loadPart' hl)
      | (refine wpAny_ite_false (decide_eq_false (by rw [c1]; exact Bool.false_ne_true)) ?_; wp_walk using wpAny_loadPart' hl)
      | (refine wpAny_ite_true (decide_eq_true c2) ?_; wp_walk using wpAny_loadPart' hl))
    exact ⟨_, rfl, h⟩
def rRepT1 (K : PySem.W.Frag) : R2 := fun x y H Q => ∃ l k xs, x = .ref l ∧ y = .int k ∧ SqT K H l xs ∧ -1000 ≤ k ∧ k ≤ 1000 ∧ (xs = [] ∨ k = 1) ∧ Q (.ref l) H
theorem op_repT1 : OpR X (binaryOp .Mult) (rRepT1 X.K) := by
  intro pins s σ H x y v u Q I rx ry h
  obtain ⟨l, k, xs, rfl, rfl, hT, h1, h2, h3, q⟩ := h
  cases rx
  obtain ⟨t, rfl⟩ := ry
  obtain ⟨its, r, ⟨⟨cls, dd, data, sl⟩, ho, hc, n, hd⟩, hs⟩ := I.tuple hT
  simp only at hc hd
  subst hc hd
  have c0 : (decide (k < -(2 ^ 63)) || decide (k ≥ 2 ^ 63)) = false := by
    rw [decide_eq_false (by omega), decide_eq_false (by omega)]
    rfl
  have c1 : (its.toArray.isEmpty || k == 1) = true := by
    rcases h3 with h3 | h3
    · subst h3
      cases r
      rfl
    · subst h3
      rw [Bool.or_eq_true]
      exact .inr rfl
  exact wpAny_binaryOp_repeat_ref (T := "tuple") (U := "int") (by decide) ⟨_, ho, rfl⟩ (fun s' => typeIs_int s' k t) noFill_tuple_mul F.fills_int_mul F.slot_int_rmul repeat_tuple F.slot_int_index.lookup
    (call_meets F.slot_int_rmul (typeIs_int s k t) F.entry_int_rmul (F.args_int_rmul_2 _ _) (int_rmul_tuple k t l its.toArray n dd sl) ⟨ho, rfl, ⟨_, ho, rfl⟩, call_meets F.slot_tuple_mul ⟨_, ho, rfl⟩ F.entry_tuple_mul (F.args_tuple_mul_2 _ _) (tup_mul_same l its.toArray n dd sl k t c0 c1) ⟨ho, ⟨.ref l, H, I, rfl, q⟩⟩⟩)
def rRepT0 (K : PySem.W.Frag) : R2 := fun x y H Q => ∃ l k xs, x = .ref l ∧ y = .int k ∧ SqT K H l xs ∧ -1000 ≤ k ∧ k ≤ 0 ∧ xs ≠ [] ∧ ∀ p, H p = none → Q (.ref p) (upd H p (.tup []))
theorem op_repT0 : OpR X (binaryOp .Mult) (rRepT0 X.K) := by
  intro pins s σ H x y v u Q I rx ry h
  obtain ⟨l, k, xs, rfl, rfl, hT, h1, h2, h3, q⟩ := h
  cases rx
  obtain ⟨t, rfl⟩ := ry
  obtain ⟨its, r, ⟨⟨cls, dd, data, sl⟩, ho, hc, n, hd⟩, hs⟩ := I.tuple hT
  simp only at hc hd
  subst hc hd
  have c0 : (decide (k < -(2 ^ 63)) || decide (k ≥ 2 ^ 63)) = false := by
    rw [decide_eq_false (by omega), decide_eq_false (by omega)]
    rfl
  have c1 : (its.toArray.isEmpty || k == 1) = false := by
    cases r with
    | nil => exact absurd rfl h3
    | cons _ _ => exact beq_eq_false_iff_ne.mpr (by omega)
  have c2 : (decide (k ≤ 0) || its.toArray.isEmpty) = true := by
    rw [decide_eq_true h2]
    rfl
  have fin : EP X pins σ Q (.ref s.heap.objs.size) { s with heap := s.heap.push { cls := Value.type "tuple", data := Data.seq #[] }, toks := s.toks } :=
    ⟨.ref s.heap.objs.size, _, I.laid (t' := s.toks) (o := .tup []) (fun b ob z => Heap.get?_push_of_some _ z) (Nat.le_refl _) ⟨Nat.zero_le _, [], .nil, IsTup.new _ _⟩, rfl, q _ (I.hok.fresh (Nat.le_refl _))⟩
  exact wpAny_binaryOp_repeat_ref (T := "tuple") (U := "int") (by decide) ⟨_, ho, rfl⟩ (fun s' => typeIs_int s' k t) noFill_tuple_mul F.fills_int_mul F.slot_int_rmul repeat_tuple F.slot_int_index.lookup
    (call_meets F.slot_int_rmul (typeIs_int s k t) F.entry_int_rmul (F.args_int_rmul_2 _ _) (int_rmul_tuple k t l its.toArray n dd sl) ⟨ho, rfl, ⟨_, ho, rfl⟩, call_meets F.slot_tuple_mul ⟨_, ho, rfl⟩ F.entry_tuple_mul (F.args_tuple_mul_2 _ _) (tup_mul_zero l its.toArray n dd sl k t c0 c1 c2) ⟨ho, fin⟩⟩)
theorem lineN_eq : sizeLine = lineN := rfl
theorem RpAll.nilV {K : PySem.W.Frag} {F : Addr → Prop} {H : Hp} {ds : List PyData} (h : RpAll K F H [] ds) : ds = [] := by cases h; rfl
theorem RpAll.nilD {K : PySem.W.Frag} {F : Addr → Prop} {H : Hp} {vs : List V} (h : RpAll K F H vs []) : vs = [] := by cases h; rfl

abbrev rStrCat : R2 := fun x y H Q => ∃ i j, x = .str i ∧ y = .str j ∧ i.length + j.length ≤ sizeLine ∧ Q (.str (i ++ j)) H
abbrev rIntAdd : R2 := rI0 fun i j => .int (i + j)
theorem ok_add : OpOk X (binaryOp .Add) addD := by
  refine ⟨fun x y H Q => (rIntAdd x y H Q ∨ rStrCat x y H Q) ∨ (rCatA X.K x y H Q ∨ rCatR x y H Q), (OpR.or (OpR.or op_add op_add_str) (OpR.or op_catA op_catR)), ?_⟩
  intro F β B st H mg wx Q vx vy dx dy w s hx hy e h
  unfold addD at e
  split at e
  · cases e; cases hx.int; cases hy.int
    exact .inl (.inl ⟨_, _, rfl, rfl, fin_d s h (.int _)⟩)
  · split at e
    · rename_i hz
      cases e; cases hx.str; cases hy.str
      exact .inl (.inr ⟨_, _, rfl, rfl, hz, fin_d s h (.str _)⟩)
    · cases e
  · rename_i xs ys
    split at e
    · rename_i hz
      cases e
      obtain ⟨a, vs, rfl, h1, h2⟩ := hx.tuple
      obtain ⟨b, us, rfl, h3, h4⟩ := hy.tuple
      refine .inr (.inl ⟨a, b, vs, us, rfl, rfl, h1, h3, by rw [h2.length, h4.length]; exact hz, fun e1 => ?_, fun e1 e2 => ?_, fun _ _ p hp => ?_⟩)
      · subst e1
        cases h2
        exact fin_d s h (.tup h3 h4)
      · subst e2
        cases h4
        rw [List.append_nil] at h
        exact fin_d s h (.tup h1 h2)
      · exact fin_tup s h (h2.append h4) hp
    · cases e
  · split at e
    · rename_i hz
      cases e
      obtain ⟨a, vs, rfl, h1, h2⟩ := hx.list
      obtain ⟨b, us, rfl, h3, h4⟩ := hy.list
      exact .inr (.inr ⟨a, b, vs, us, rfl, rfl, h1, h3, by rw [h2.length, h4.length]; exact hz, fun p hp => fin_new s h (h2.append h4) hp⟩)
    · cases e
  · cases e
theorem ok_sub : OpOk X (binaryOp .Sub) subD := by
  refine ⟨_, op_sub, ?_⟩
  intro F β B st H mg wx Q vx vy dx dy w s hx hy e h
  unfold subD at e
  split at e
  · cases e; cases hx.int; cases hy.int
    exact ⟨_, _, rfl, rfl, fin_d s h (.int _)⟩
  · cases e
theorem within_of {i : Int} (h : within64 i = true) : -(2 ^ 64) < i ∧ i < 2 ^ 64 := by
  unfold within64 at h
  simp only [Bool.and_eq_true, decide_eq_true_eq] at h
  omega
theorem rep_nil {α : Type} : ∀ n : Nat, (List.replicate n ([] : List α)).flatten = []
  | 0 => rfl
  | n + 1 => by rw [List.replicate_succ, List.flatten_cons, rep_nil n]; rfl
theorem ok_mul : OpOk X (binaryOp .Mult) mulD := by
  refine ⟨_, OpR.or (OpR.or op_mul op_repR) (OpR.or op_repT (OpR.or op_repT1 op_repT0)), ?_⟩
  intro F β B st H mg wx Q vx vy dx dy w s hx hy e h
  unfold mulD at e
  split at e
  · split at e
    · rename_i hz
      cases e; cases hx.int; cases hy.int
      refine .inl (.inl ⟨_, _, rfl, rfl, ?_, fin_d s h (.int _)⟩)
      rcases Bool.or_eq_true_iff.mp hz with q | q
      · exact .inl (within_of q)
      · exact .inr (within_of q)
    · cases e
  · split at e
    · rename_i hz
      cases e
      obtain ⟨a, vs, rfl, h1, h2⟩ := hx.list
      cases hy.int
      exact .inl (.inr ⟨a, _, vs, rfl, rfl, h1, by omega, by omega, by rw [h2.length]; exact hz.2.2, fun p hp => fin_new s h (h2.rep _) hp⟩)
    · cases e
  · split at e
    · rename_i xs k hz
      cases e
      obtain ⟨a, vs, rfl, h1, h2⟩ := hx.tuple
      cases hy.int
      have hl := h2.length
      refine .inr ?_
      by_cases hv : vs = []
      · subst hv
        have hn := h2.nilV
        subst hn
        refine .inr (.inl ⟨a, k, [], rfl, rfl, h1, by omega, by omega, .inl rfl, ?_⟩)
        rw [rep_nil] at h
        exact fin_d s h (.tup h1 .nil)
      · by_cases h0 : k = 0
        · subst h0
          exact .inr (.inr ⟨a, 0, vs, rfl, rfl, h1, by omega, by omega, hv, fun p hp => fin_tup s h .nil hp⟩)
        · by_cases hk1 : k = 1
          · subst hk1
            refine .inr (.inl ⟨a, 1, vs, rfl, rfl, h1, by omega, by omega, .inr rfl, ?_⟩)
            have e1 : (List.replicate (1 : Int).toNat xs).flatten = xs := by
              show [xs].flatten = xs
              simp
            rw [e1] at h
            exact fin_d s h (.tup h1 h2)
          · exact .inl ⟨a, k, vs, rfl, rfl, h1, hv, by omega, by omega, by omega, fun p hp => fin_tup s h (h2.rep _) hp⟩
    · cases e
  · cases e
theorem ok_fdiv : OpOk X (binaryOp .FloorDiv) fdivD := by
  refine ⟨_, op_fdiv, ?_⟩
  intro F β B st H mg wx Q vx vy dx dy w s hx hy e h
  unfold fdivD at e
  split at e
  · split at e
    · rename_i hz
      cases e; cases hx.int; cases hy.int
      exact ⟨_, _, rfl, rfl, hz, fin_d s h (.int _)⟩
    · cases e
  · cases e
theorem ok_mod : OpOk X (binaryOp .Mod) modD := by
  refine ⟨_, op_mod, ?_⟩
  intro F β B st H mg wx Q vx vy dx dy w s hx hy e h
  unfold modD at e
  split at e
  · split at e
    · rename_i hz
      cases e; cases hx.int; cases hy.int
      exact ⟨_, _, rfl, rfl, hz, fin_d s h (.int _)⟩
    · cases e
  · cases e
theorem ok_pow : OpOk X (binaryOp .Pow) powD := by
  refine ⟨_, op_pow, ?_⟩
  intro F β B st H mg wx Q vx vy dx dy w s hx hy e h
  unfold powD at e
  split at e
  · split at e
    · rename_i hz
      cases e; cases hx.int; cases hy.int
      have hw := within_of hz.2.2
      exact ⟨_, _, rfl, rfl, ⟨hz.1, hz.2.1, by omega⟩, fin_d s h (.int _)⟩
    · cases e
  · cases e
def bop : BO → Operator
  | .add => .Add | .sub => .Sub | .mul => .Mult | .fdiv => .FloorDiv | .mod => .Mod | .pow => .Pow
theorem ok_bin : ∀ o : BO, OpOk X (binaryOp (bop o)) (binD o)
  | .add => ok_add
  | .sub => ok_sub
  | .mul => ok_mul
  | .fdiv => ok_fdiv
  | .mod => ok_mod
  | .pow => ok_pow

/-! ### comparisons -/
theorem ok_cmp {f : Value → Value → Sem Value} {g : PyData → PyData → Option Bool} {r : R2} (hr : OpR X f r)
    (h : ∀ (F : Addr → Prop) (H : Hp) (Q : VK) (vx vy : V) (dx dy : PyData) (b : Bool), RdP X.K F H vx dx → RdP X.K F H vy dy → g dx dy = some b → Q (.bl b) H → r vx vy H Q) : OpOk X f (fun x y => toB (g x y)) := by
  refine ⟨r, hr, ?_⟩
  intro F β B st H mg wx Q vx vy dx dy w s hx hy e hp
  unfold toB at e
  obtain ⟨b, e1, rfl⟩ := Option.map_eq_some_iff.mp e
  exact h F H Q vx vy dx dy b hx hy e1 (fin_d s hp (.bl b))
theorem dec_s {x y : Str} : decide (V.str x = V.str y) = decide (x = y) := by
  by_cases h : x = y
  · simp [h]
  · simp [h]
theorem ok_eq (hu : X.A.units + 64 < cLine) : OpOk X (compareOp .Eq) (fun x y => toB (eqD x y)) := by
  refine ok_cmp (OpR.or (op_eqD hu) op_eq) fun F H Q vx vy dx dy b hx hy e q => ?_
  unfold eqD at e
  split at e
  · cases e
    have h1 := hx.str
    have h2 := hy.str
    subst h1 h2
    exact .inr ⟨rfl, by rw [dec_s]; exact q⟩
  · unfold eqS at e
    split at e
    · rename_i hs
      cases e
      obtain ⟨s1, s2⟩ := Bool.and_eq_true_iff.mp hs
      exact .inl ⟨_, _, hx.dp, hy.dp, s1, s2, q⟩
    · cases e
theorem ok_ne (hu : X.A.units + 64 < cLine) : OpOk X (compareOp .NotEq) (fun x y => toB ((eqD x y).map (!·))) := by
  refine ok_cmp (OpR.or (op_neD hu) op_ne) fun F H Q vx vy dx dy b hx hy e q => ?_
  unfold eqD at e
  split at e
  · cases e
    have h1 := hx.str
    have h2 := hy.str
    subst h1 h2
    exact .inr ⟨rfl, by rw [dec_s]; exact q⟩
  · unfold eqS at e
    split at e
    · rename_i hs
      cases e
      obtain ⟨s1, s2⟩ := Bool.and_eq_true_iff.mp hs
      exact .inl ⟨_, _, hx.dp, hy.dp, s1, s2, q⟩
    · cases e
theorem ok_lt : OpOk X (compareOp .Lt) (fun x y => toB (ltI x y)) := by
  refine ok_cmp op_lt fun F H Q vx vy dx dy b hx hy e q => ?_
  unfold ltI at e
  split at e
  · cases e; cases hx.int; cases hy.int
    exact ⟨_, _, rfl, rfl, q⟩
  · cases e
theorem ok_le : OpOk X (compareOp .LtE) (fun x y => toB (leI x y)) := by
  refine ok_cmp op_le fun F H Q vx vy dx dy b hx hy e q => ?_
  unfold leI at e
  split at e
  · cases e; cases hx.int; cases hy.int
    exact ⟨_, _, rfl, rfl, q⟩
  · cases e
theorem ok_gt : OpOk X (compareOp .Gt) (fun x y => toB (ltI y x)) := by
  refine ok_cmp op_gt fun F H Q vx vy dx dy b hx hy e q => ?_
  unfold ltI at e
  split at e
  · cases e; cases hx.int; cases hy.int
    exact ⟨_, _, rfl, rfl, q⟩
  · cases e
theorem ok_ge : OpOk X (compareOp .GtE) (fun x y => toB (leI y x)) := by
  refine ok_cmp op_ge fun F H Q vx vy dx dy b hx hy e q => ?_
  unfold leI at e
  split at e
  · cases e; cases hx.int; cases hy.int
    exact ⟨_, _, rfl, rfl, q⟩
  · cases e
end
end Gm

/-! The deep layer, part C2: more operations on values. -/
namespace Gm
open PySem PySem.Spec PyProof.Rows L2
section
variable {X : Cx}
theorem ok_in (hu : X.A.units + 65 < cLine) : OpOk X (compareOp .In) (fun x y => toB (inD x y)) := by
  refine ok_cmp (r := fun x y H Q => (rInD X.K x y H Q ∨ (∃ d ds, Dp X.K H x d ∧ Dp X.K H y (.tuple ds) ∧ SeqAt.shaped d = true ∧ SeqAt.shaped (.tuple ds) = true ∧ Q (.bl (ds.any fun z => PyData.eqv z d)) H)) ∨
      (∃ i j, x = .str i ∧ y = .str j ∧ Q (.bl (!(Builtin.Str.occurrences j i 0 j.length 1).isEmpty)) H)) (OpR.or (OpR.or (op_inD hu) ?_) op_in_str) fun F H Q vx vy dx dy b hx hy e q => ?_
  · intro pins s σ H x y v u Q I rx ry h
    obtain ⟨d, ds, hd, he, sd, se, q⟩ := h
    obtain ⟨as, r1⟩ := Dp.reads I d x v hd rx
    obtain ⟨bs, r2⟩ := Dp.reads I (.tuple ds) y u he ry
    exact SeqAt.in_tuple_reads r2 r1 (SeqAt.canLay_of_shaped se) (SeqAt.canLay_of_shaped sd) (room_in_shaped sd hu) ⟨.bl _, H, I, rfl, q⟩
  · unfold inD at e
    split at e
    · split at e
      · rename_i hs
        cases e
        obtain ⟨s1, s2⟩ := Bool.and_eq_true_iff.mp hs
        exact .inl (.inl ⟨_, _, hx.dp, hy.dp, s1, s2, q⟩)
      · cases e
    · split at e
      · rename_i hs
        cases e
        obtain ⟨s1, s2⟩ := Bool.and_eq_true_iff.mp hs
        exact .inl (.inr ⟨_, _, hx.dp, hy.dp, s1, s2, q⟩)
      · cases e
    · cases e; cases hx.str; cases hy.str
      exact .inr ⟨_, _, rfl, rfl, q⟩
    · cases e
theorem ok_notin (hu : X.A.units + 65 < cLine) : OpOk X (compareOp .NotIn) (fun x y => toB ((inD x y).map (!·))) := by
  refine ok_cmp (r := fun x y H Q => (rNotInD X.K x y H Q ∨ (∃ d ds, Dp X.K H x d ∧ Dp X.K H y (.tuple ds) ∧ SeqAt.shaped d = true ∧ SeqAt.shaped (.tuple ds) = true ∧ Q (.bl (!ds.any fun z => PyData.eqv z d)) H)) ∨
      (∃ i j, x = .str i ∧ y = .str j ∧ Q (.bl (!(!(Builtin.Str.occurrences j i 0 j.length 1).isEmpty))) H)) (OpR.or (OpR.or (op_notInD hu) ?_) op_notin_str) fun F H Q vx vy dx dy b hx hy e q => ?_
  · intro pins s σ H x y v u Q I rx ry h
    obtain ⟨d, ds, hd, he, sd, se, q⟩ := h
    obtain ⟨as, r1⟩ := Dp.reads I d x v hd rx
    obtain ⟨bs, r2⟩ := Dp.reads I (.tuple ds) y u he ry
    exact SeqAt.notIn_tuple_reads r2 r1 (SeqAt.canLay_of_shaped se) (SeqAt.canLay_of_shaped sd) (room_in_shaped sd hu) ⟨.bl _, H, I, rfl, q⟩
  · unfold inD at e
    split at e
    · split at e
      · rename_i hs
        cases e
        obtain ⟨s1, s2⟩ := Bool.and_eq_true_iff.mp hs
        exact .inl (.inl ⟨_, _, hx.dp, hy.dp, s1, s2, q⟩)
      · cases e
    · split at e
      · rename_i hs
        cases e
        obtain ⟨s1, s2⟩ := Bool.and_eq_true_iff.mp hs
        exact .inl (.inr ⟨_, _, hx.dp, hy.dp, s1, s2, q⟩)
      · cases e
    · cases e; cases hx.str; cases hy.str
      exact .inr ⟨_, _, rfl, rfl, q⟩
    · cases e
theorem non_iff {F : Addr → Prop} {H : Hp} {v : V} {x : PyData} (h : RdP X.K F H v x) : x = .none ∨ v ≠ .non := by
  cases x with
  | none => exact .inl rfl
  | bool b => right; rw [h.bl]; exact fun z => nomatch z
  | int b => right; rw [h.int]; exact fun z => nomatch z
  | str b => right; rw [h.str]; exact fun z => nomatch z
  | list b => right; obtain ⟨a, vs, rfl, _⟩ := h.list; exact fun z => nomatch z
  | tuple b => right; obtain ⟨a, vs, rfl, _⟩ := h.tuple; exact fun z => nomatch z
  | dict b => exact h.dict.elim
theorem ok_is : OpOk X (compareOp .Is) (fun x y => toB (isD x y)) := by
  refine ok_cmp (OpR.or op_isN op_isBl) fun F H Q vx vy dx dy b hx hy e q => ?_
  have key : ∀ z, isD dx .none = some z → decide (vx = V.non) = z := fun z hz => by
    rcases non_iff hx with rfl | hv
    · cases hz; cases hx.non; rfl
    · rw [decide_eq_false hv]
      cases dx <;> first | (cases hz; rfl) | (cases hx.non; exact absurd rfl hv) | cases hz
  cases dy with
  | none =>
    cases hy.non
    exact .inl ⟨rfl, by rw [key b e]; exact q⟩
  | bool c =>
    cases dx with
    | bool a =>
      cases e; cases hx.bl; cases hy.bl
      exact .inr ⟨_, _, rfl, rfl, q⟩
    | _ => cases e
  | _ => cases dx <;> cases e
theorem ok_isnot : OpOk X (compareOp .IsNot) (fun x y => toB ((isD x y).map (!·))) := by
  refine ok_cmp (OpR.or op_notN op_notBl) fun F H Q vx vy dx dy b hx hy e q => ?_
  have key : ∀ z, isD dx .none = some z → decide (vx = V.non) = z := fun z hz => by
    rcases non_iff hx with rfl | hv
    · cases hz; cases hx.non; rfl
    · rw [decide_eq_false hv]
      cases dx <;> first | (cases hz; rfl) | (cases hx.non; exact absurd rfl hv) | cases hz
  obtain ⟨z, e1, rfl⟩ := Option.map_eq_some_iff.mp e
  cases dy with
  | none =>
    cases hy.non
    exact .inl ⟨rfl, by rw [key z e1]; exact q⟩
  | bool c =>
    cases dx with
    | bool a =>
      cases e1; cases hx.bl; cases hy.bl
      exact .inr ⟨_, _, rfl, rfl, q⟩
    | _ => cases e1
  | _ => cases dx <;> cases e1
def cop : CO → CmpOp
  | .eq => .Eq | .ne => .NotEq | .lt => .Lt | .le => .LtE | .gt => .Gt | .ge => .GtE | .isin => .In | .notin => .NotIn | .iss => .Is | .isnot => .IsNot
theorem ok_cmps (hu : X.A.units + 65 < cLine) : ∀ o : CO, OpOk X (compareOp (cop o)) (fun x y => toB (cmpD o x y))
  | .eq => ok_eq (by omega)
  | .ne => ok_ne (by omega)
  | .lt => ok_lt
  | .le => ok_le
  | .gt => ok_gt
  | .ge => ok_ge
  | .isin => ok_in hu
  | .notin => ok_notin hu
  | .iss => ok_is
  | .isnot => ok_isnot

/-! ### truth -/
theorem ok_truth {F : Addr → Prop} {H : Hp} {v : V} {x : PyData} {b : Bool} (h : RdP X.K F H v x) (e : truthD x = some b) : TruV X.K v H b := by
  cases x with
  | none => cases e; rw [h.non]; rfl
  | bool c => cases e; rw [h.bl]; rfl
  | int i => cases e; rw [h.int]; rfl
  | str y =>
    rw [h.str]
    have e' : (if y.length ≤ lineN then some ((y.length : Int) != 0) else none) = some b := e
    split at e'
    · rename_i hz
      cases e'
      exact ⟨hz, rfl⟩
    · cases e'
  | list xs =>
    cases e
    obtain ⟨a, vs, rfl, h1, h2⟩ := h.list
    refine .inl ⟨vs, .inl h1, ?_⟩
    cases h2 <;> rfl
  | tuple xs =>
    cases e
    obtain ⟨a, vs, rfl, h1, h2⟩ := h.tuple
    refine .inr (.inl ⟨vs, h1, ?_⟩)
    cases h2 <;> rfl
  | dict kvs => exact h.dict.elim

/-! ### items, slices -/
theorem atI_rp {K : PySem.W.Frag} {F : Addr → Prop} {H : Hp} {xs : List PyData} {vs : List V} {i : Int} {d : PyData} (h : RpAll K F H vs xs) (e : atI xs i = some d) : ∃ v, atI vs i = some v ∧ Rp K F H v d := by
  unfold atI at e ⊢
  rw [h.length]
  obtain ⟨j, e1, e2⟩ := Option.bind_eq_some_iff.mp e
  obtain ⟨v, h1, h2⟩ := h.get e2
  exact ⟨v, by rw [e1]; exact h1, h2⟩
theorem ok_idx {F : Addr → Prop} {β : List Addr} {B : Bs} {st : Stt} {H : Hp} {mg : Str → Option Value} {wx : Value → Option Addr → Hp → Prop} {Q : VK} {vx vy : V} {dx dy z : PyData}
    (s : StOk X.K F β B H st) (hx : RdP X.K F H vx dx) (hy : RdP X.K F H vy dy) (e : idxD dx dy = some z) (h : Post X.K mg β B (RR X.K β B) F H wx (.ok (.d z) st) Q) : rIx X.K vx vy H Q := by
  unfold idxD at e
  split at e
  · obtain ⟨a, vs, rfl, h1, h2⟩ := hx.list
    cases hy.int
    obtain ⟨v, h3, h4⟩ := atI_rp h2 e
    exact .inl ⟨a, vs, _, v, rfl, rfl, .inl h1, h3, fin_d s h h4⟩
  · obtain ⟨a, vs, rfl, h1, h2⟩ := hx.tuple
    cases hy.int
    obtain ⟨v, h3, h4⟩ := atI_rp h2 e
    exact .inr (.inl ⟨a, vs, _, v, rfl, rfl, h1, h3, fin_d s h h4⟩)
  · split at e
    · rename_i hz
      cases hx.str; cases hy.int
      obtain ⟨c, e1, rfl⟩ := Option.map_eq_some_iff.mp e
      exact .inr (.inr ⟨_, _, c, rfl, rfl, hz, e1, fin_d s h (.str _)⟩)
    · cases e
  · cases e
theorem cutD_whole {xs : List PyData} {lo hi : Option Int} (h : HT.sIx xs.length 0 lo = 0 ∧ HT.sIx xs.length xs.length hi = xs.length) : cutD xs lo hi = xs := by
  unfold cutD
  rw [h.1, h.2]
  simp
abbrev rSl (K : PySem.W.Frag) : V → Option Int → Option Int → Hp → VK → Prop := fun x lo hi H Q => rSlL K x lo hi H Q ∨ rSlA K x lo hi H Q
theorem sl_ok : SlR X (rSl X.K) := SlR.or sl_list sl_tupA
theorem ok_slc {F : Addr → Prop} {β : List Addr} {B : Bs} {st : Stt} {H : Hp} {mg : Str → Option Value} {wx : Value → Option Addr → Hp → Prop} {Q : VK} {vx : V} {dx : PyData} {lo hi : Option Int} {w : W}
    (s : StOk X.K F β B H st) (hx : RdP X.K F H vx dx) (e : slcD dx lo hi = some w) (h : Post X.K mg β B (RR X.K β B) F H wx (.ok w st) Q) : rSl X.K vx lo hi H Q := by
  unfold slcD at e
  split at e
  · cases e
    obtain ⟨a, vs, rfl, h1, h2⟩ := hx.list
    exact .inl ⟨a, vs, rfl, .inl h1, fun p hp => fin_new s h (h2.cut lo hi) hp⟩
  · cases e
    obtain ⟨a, vs, rfl, h1, h2⟩ := hx.tuple
    refine .inr ⟨a, vs, rfl, h1, fun hw => ?_, fun hw p hp => fin_tup s h (h2.cut lo hi) hp⟩
    rw [h2.length] at hw
    rw [cutD_whole hw] at h
    exact fin_d s h (.tup h1 h2)
  · cases e

/-! ### x[::-1] -/
theorem filterMap_cg {α β : Type} {f g : α → Option β} : ∀ {l : List α}, (∀ x ∈ l, f x = g x) → l.filterMap f = l.filterMap g
  | [], _ => rfl
  | a :: l, h => by
    rw [List.filterMap_cons, List.filterMap_cons, h a (List.mem_cons_self ..), filterMap_cg (l := l) fun x hx => h x (List.mem_cons_of_mem _ hx)]
theorem rev_pick (xs : Array Value) : ((List.range xs.size).filterMap fun (m : Nat) => xs[(((xs.size : Nat) : Int) - 1 + (m : Int) * (-1)).toNat]?).toArray = xs.toList.reverse.toArray := by
  congr 1
  apply List.ext_getElem?
  intro i
  by_cases hi : i < xs.size
  · have e : ((List.range xs.size).filterMap fun (m : Nat) => xs[(((xs.size : Nat) : Int) - 1 + (m : Int) * (-1)).toNat]?) = (List.range xs.size).map fun m => xs.getD (xs.size - 1 - m) .none := by
      rw [← List.filterMap_eq_map]
      apply filterMap_cg
      intro m hm
      have hm := List.mem_range.mp hm
      have e1 : (((xs.size : Nat) : Int) - 1 + (m : Int) * (-1)).toNat = xs.size - 1 - m := by omega
      rw [e1]
      have h2 : xs.size - 1 - m < xs.size := by omega
      simp [h2]
    rw [e]
    simp only [List.getElem?_map, List.getElem?_range hi, Option.map_some]
    have hl : xs.toList.length = xs.size := Array.length_toList
    rw [List.getElem?_reverse (by rw [hl]; exact hi), hl]
    have h2 : xs.size - 1 - i < xs.size := by omega
    simp [h2]
  · have hl : xs.toList.reverse.length = xs.size := by simp
    rw [List.getElem?_eq_none (by
      refine Nat.le_trans (List.length_filterMap_le _ _) ?_
      simp; omega), List.getElem?_eq_none (by omega)]
theorem getItem_tuple_rev {prog : Program} {w : World} {A : Around} {E : Value → Shared → Prop} {s : Shared} {t sl : Addr} {items : Array Value} {vl vu vs : Value} {Q : Value → Shared → Prop} (ht : IsTup s.heap t items) (hs : s.heap.IsSliceOf sl vl vu vs) (pl : IsPart vl none) (pu : IsPart vu none) (ps : IsPart vs (some (-1)))
    (h : Q (.ref s.heap.objs.size) { s with heap := s.heap.push { cls := .type "tuple", data := .seq items.toList.reverse.toArray } }) (hsz : items.size ≤ sizeLine) : wpAny (model prog w) A (getItem (.ref t) (.ref sl)) Q E s := by
  have htake : sizeOk (.seq items.toList.reverse.toArray) := by
    show items.toList.reverse.toArray.size ≤ sizeLine
    simpa using hsz
  obtain ⟨os, hos, hcs, hds⟩ := id hs
  have hTs : s.TypeIs (.ref sl) "slice" := ⟨os, hos, hcs⟩
  unfold getItem
  try with_reducible refine wpAny_holding ?_
  first | refine wpAny_bind (wpAny_pure ?_) | skip
  refine wpAny_bind (wpAny_sequenceKey ht.typeIs (by decide) ?_)
  refine wpAny_bind (wpAny_callSpecial?_slot (name := Str.ofString "__getitem__") ht.typeIs PyProof.Rows.slot_tuple_getitem
    (wpAny_call_entry PyProof.Rows.slot_tuple_getitem ht.typeIs entry_tuple_getitem ?_ (args_tuple_getitem _ _)))
  show wpAny _ _ (Builtin.Tuple.tupleItemsOf (.ref t) >>= _) _ _ s
  refine wpAny_bind (tupleItemsOf_ ht ?_)
  refine wpAny_bind (wpAny_typeOf hTs ?_)
  rw [if_pos (by decide)]
  have happ : ∀ {Q' : Int × Int × Nat → Shared → Prop}, Q' (((items.size : Nat) : Int) - 1, -1, items.size) s → wpAny (model prog w) A.in1 (Builtin.Slice.sliceApplied (.ref sl) (pure ((items.size : Nat) : Int))) Q' E s := by
    intro Q' hq
    unfold Builtin.Slice.sliceApplied Builtin.Slice.sliceFields
    refine wpAny_bind (wpAny_bind (wpAny_field hos hds (x := vl) rfl (wpAny_bind (wpAny_field hos hds (x := vu) rfl (wpAny_bind (wpAny_field hos hds (x := vs) rfl (wpAny_pure ?_)))))))
    refine wpAny_bind (HT.slicePart_ ps ?_)
    show wpAny _ _ (if ((-1 : Int) == 0) = true then _ else _) _ _ s
    rw [if_neg (by decide)]
    refine wpAny_bind (HT.slicePart_ pl (wpAny_bind (HT.slicePart_ pu (wpAny_bind (wpAny_pure ?_)))))
    have e2 : Builtin.Slice.slicePlaces (((items.size : Nat) : Int) - 1) (-1) (-1) = items.size := by
      unfold Builtin.Slice.slicePlaces
      rw [if_neg (by decide)]
      by_cases hz : items.size = 0
      · rw [hz]; rfl
      · rw [if_pos (by omega)]
        have e3 : (((items.size : Nat) : Int) - 1 - -1 - 1) / - -1 = ((items.size : Nat) : Int) - 1 := by
          rw [show (- -1 : Int) = 1 from rfl, Int.ediv_one]
          omega
        first | (rw [e3]; omega) | omega
    show wpAny _ _ (pure (((items.size : Nat) : Int) - 1, (-1 : Int), Builtin.Slice.slicePlaces (((items.size : Nat) : Int) - 1) (-1) (-1))) _ _ s
    rw [e2]
    exact wpAny_pure hq
  refine wpAny_bind (happ ?_)
  have hno : ¬ (((((items.size : Nat) : Int) - 1) == 0 && (-1 : Int) == 1 && items.size == items.size) = true) := by
    intro q
    rw [Bool.and_eq_true, Bool.and_eq_true] at q
    exact absurd q.1.2 (by decide)
  show wpAny _ _ (if ((((items.size : Nat) : Int) - 1) == 0 && (-1 : Int) == 1 && items.size == items.size) = true then _ else _) _ _ s
  rw [if_neg hno, rev_pick]
  first
    | exact wpAny_bind (m := Builtin.Tuple.tupleExact _) (wpAny_newObj_type (wpAny_pure ⟨_, rfl, wpAny_pure h⟩) htake)
    | exact wpAny_bind (m := Builtin.Tuple.tupleExact _) (wpAny_newObj_type (wpAny_bind (wpAny_pure (wpAny_pure ⟨_, rfl, wpAny_pure h⟩))) htake)
    | exact wpAny_bind (wpAny_bind (m := Builtin.Tuple.tupleExact _) (wpAny_newObj_type (wpAny_pure (wpAny_pure ⟨_, rfl, wpAny_pure h⟩)) htake))
    | exact wpAny_bind (wpAny_bind (m := Builtin.Tuple.tupleExact _) (wpAny_newObj_type (wpAny_pure ⟨_, rfl, wpAny_pure h⟩) htake))
def rRevV (K : PySem.W.Frag) (x : V) (H1 : Hp) (Q : VK) : Prop := (∃ a xs, x = .ref a ∧ SqL K H1 a xs ∧ ∀ p, H1 p = none → Q (.ref p) (upd H1 p (.lst xs.reverse))) ∨ (∃ a xs, x = .ref a ∧ SqT K H1 a xs ∧ ∀ p, H1 p = none → Q (.ref p) (upd H1 p (.tup xs.reverse)))
theorem pe_rev {e : Expr} {te : TE} {k : Nat} {p1 p2 p3 pos : Pos} (he : PE X e te) : PE X (.Subscript e (.Slice none none (some (.UnaryOp .USub (.Constant (.int 1) k p1) p2)) p3) pos) (fun σ H Q => te σ H fun x H1 => rRevV X.K x H1 Q) := by
  refine ⟨fun pins s σ H Q I h => ?_⟩
  refine Subscript_ (thn (he.run pins s σ H _ I h) fun v s1 ⟨x, H1, I1, r1, q1⟩ => ?_)
  have hst : PO X (some (.UnaryOp .USub (.Constant (.int 1) k p1) p2)) (tPart (tUn (rU fun i => .int (-i)) (tC (.int 1)))) := po_some (pe_un un_neg pe_int)
  refine wpAny_Slice (thn (po_none.run pins s1 σ H1 (fun o H2 => o = none ∧ H2 = H1) I1 ⟨rfl, rfl⟩) fun vl s2 ⟨l, H2, I2, pl, el, e2⟩ => ?_)
  subst el e2
  refine thn (po_none.run pins s2 σ H2 (fun o H3 => o = none ∧ H3 = H2) I2 ⟨rfl, rfl⟩) fun vu s3 ⟨u, H3, I3, pu, eu, e3⟩ => ?_
  subst eu e3
  refine thn (hst.run pins s3 σ H3 (fun o H4 => o = some (-1) ∧ H4 = H3) I3 ⟨1, rfl, -1, rfl, rfl, rfl⟩) fun vs s4 ⟨o, H4, I4, ps, eo, e4⟩ => ?_
  subst eo e4
  have I5 : Inv X pins σ H4 { s4 with heap := s4.heap.push { cls := .type "slice", data := .fields #[vl, vu, vs] } } := I4.kept (t' := s4.toks) fun b ob q => Heap.get?_push_of_some _ q
  rcases q1 with ⟨a, xs, ex, hx, q⟩ | ⟨a, xs, ex, hx, q⟩
  · subst ex
    cases r1
    obtain ⟨its, r, ht, hz⟩ := I5.list hx
    have hlen := r.length
    show wpAny (model X.prog X.w) X.A (subscriptTail e (.Slice none none (some (.UnaryOp .USub (.Constant (.int 1) k p1) p2)) p3) (.ref a) (.ref s4.heap.objs.size)) (EP X pins σ Q) X.xe { s4 with heap := s4.heap.push { cls := .type "slice", data := .fields #[vl, vu, vs] } }
    refine tail_any (ops := [.ref a, .ref s4.heap.objs.size]) ht.isList.typeIs (PySem.slot_list_getitem.lookup) ?_ (by with_unfolding_all rfl)
    refine wpAny_getItem_list_slice ht.isList (Heap.IsSliceOf.new _ vl vu vs) pl pu ps (by decide) ?_ (by rw [List.size_toArray]; omega)
    rw [PySem.W.krv_pick]
    refine ⟨.ref _, _, I5.laid (t' := s4.toks) (o := .lst xs.reverse) (fun b ob q => Heap.get?_push_of_some _ q) (Nat.le_refl _) ?_, rfl, q _ (I5.hok.fresh (Nat.le_refl _))⟩
    exact ⟨by rw [List.length_reverse]; exact hz, _, 0, r.reverse, Heap.get?_push_size _ rfl⟩
  · subst ex
    cases r1
    obtain ⟨its, r, ht, hz⟩ := I5.tuple hx
    have hlen := r.length
    show wpAny (model X.prog X.w) X.A (subscriptTail e (.Slice none none (some (.UnaryOp .USub (.Constant (.int 1) k p1) p2)) p3) (.ref a) (.ref s4.heap.objs.size)) (EP X pins σ Q) X.xe { s4 with heap := s4.heap.push { cls := .type "slice", data := .fields #[vl, vu, vs] } }
    refine tail_any (ops := [.ref a, .ref s4.heap.objs.size]) ht.typeIs (PyProof.Rows.slot_tuple_getitem.lookup) ?_ (by with_unfolding_all rfl)
    refine getItem_tuple_rev ht (Heap.IsSliceOf.new _ vl vu vs) pl pu ps ?_ (by rw [List.size_toArray]; omega)
    refine ⟨.ref _, _, I5.laid (t' := s4.toks) (o := .tup xs.reverse) (fun b ob q => Heap.get?_push_of_some _ q) (Nat.le_refl _) ?_, rfl, q _ (I5.hok.fresh (Nat.le_refl _))⟩
    refine ⟨by rw [List.length_reverse]; exact hz, its.reverse, r.reverse, ⟨_, Heap.get?_push_size _ rfl, rfl, 0, by simp⟩⟩
theorem ok_rev {F : Addr → Prop} {β : List Addr} {B : Bs} {st : Stt} {H : Hp} {mg : Str → Option Value} {wx : Value → Option Addr → Hp → Prop} {Q : VK} {vx : V} {dx : PyData} {w : W}
    (s : StOk X.K F β B H st) (hx : RdP X.K F H vx dx) (e : revD dx = some w) (h : Post X.K mg β B (RR X.K β B) F H wx (.ok w st) Q) : rRevV X.K vx H Q := by
  unfold revD at e
  split at e
  · cases e
    obtain ⟨a, vs, rfl, h1, h2⟩ := hx.list
    exact .inl ⟨a, vs, rfl, .inl h1, fun p hp => fin_new s h h2.reverse hp⟩
  · cases e
    obtain ⟨a, vs, rfl, h1, h2⟩ := hx.tuple
    exact .inr ⟨a, vs, rfl, h1, fun p hp => fin_tup s h h2.reverse hp⟩
  · cases e

/-! ### isinstance -/
def tyS : Ty → String
  | .int => "int" | .bool => "bool" | .str => "str" | .list => "list" | .tuple => "tuple"
def clsS : PyData → String
  | .none => "NoneType" | .bool _ => "bool" | .int _ => "int" | .str _ => "str" | .list _ => "list" | .tuple _ => "tuple" | .dict _ => "dict"
theorem ok_cls {F : Addr → Prop} {H : Hp} {v : V} {x : PyData} (h : RdP X.K F H v x) : TyX X.K H v (.type (clsS x)) := by
  cases x with
  | none => rw [h.non]; exact .base .non
  | bool c => rw [h.bl]; exact .base (.bl _)
  | int i => rw [h.int]; exact .base (.int _)
  | str y => rw [h.str]; exact .base (.str _)
  | list xs =>
    obtain ⟨a, vs, rfl, h1, h2⟩ := h.list
    rcases h1 with h1 | ⟨o, h1⟩
    · exact .base (.lst h1)
    · exact .base (.frz h1)
  | tuple xs =>
    obtain ⟨a, vs, rfl, h1, h2⟩ := h.tuple
    rcases h1 with (h1 | ⟨o, h1⟩) | ⟨o, its, n, h1, h3, _⟩
    · exact .base (.tup h1)
    · exact .fTuple h1
    · exact .kTuple h1 h3
  | dict kvs => exact h.dict.elim
theorem kit_is (K : PySem.W.Frag) (x : PyData) (t : Ty) (b : Bool) (e : isT x t = some b) : PySem.W.kitOne K (.type (clsS x)) (.type (tyS t)) = some b := by
  have h : kitB (clsS x) (tyS t) = some b := by
    cases x <;> cases t <;> first | (cases e; done) | (cases e; rfl) | (cases e; simp only [clsS, tyS]; decide +kernel)
  exact kit_ty h
end
end Gm

/-! The deep layer, part C3: built-in functions. -/
namespace Gm
open PySem PySem.Spec PyProof.Rows L2
inductive RdPs (K : PySem.W.Frag) (F : Addr → Prop) (H : Hp) : List V → List PyData → Prop
  | nil : RdPs K F H [] []
  | cons {v : V} {d : PyData} {vs : List V} {ds : List PyData} : RdP K F H v d → RdPs K F H vs ds → RdPs K F H (v :: vs) (d :: ds)
section
variable {K : PySem.W.Frag} {F : Addr → Prop} {H H0 : Hp} {β : List Addr} {B : Bs} {st : Stt}
theorem RL.rdps (s : StOk K F β B H st) : ∀ {ws : List W} {vs : List V} {xs : List PyData}, RL K β B H0 F H vs ws → rdAll st ws = some xs → RdPs K F H vs xs
  | [], _, _, h, e => by cases h; cases e; exact .nil
  | w :: ws, _, _, h, e => by
    cases h with
    | cons h1 h2 =>
      unfold rdAll at e
      obtain ⟨x, e1, e2⟩ := Option.bind_eq_some_iff.mp e
      obtain ⟨ys, e3, rfl⟩ := Option.map_eq_some_iff.mp e2
      exact .cons (h1.1.rdp s e1) (RL.rdps s h2 e3)
theorem RpAll.bls : ∀ {xs : List PyData} {vs : List V} {bs : List Bool}, RpAll K F H vs xs → allB xs = some bs → vs = bs.map V.bl
  | [], _, _, h, e => by cases h; cases e; rfl
  | x :: xs, _, _, h, e => by
    cases h with
    | cons h1 h2 =>
      unfold allB at e
      split at e
      · rename_i e0; cases e0
      · rename_i b r e0
        cases e0
        obtain ⟨cs, e1, rfl⟩ := Option.map_eq_some_iff.mp e
        cases h1
        rw [RpAll.bls h2 e1]
        rfl
      · cases e
theorem RpAll.strs : ∀ {xs : List PyData} {vs : List V} {bs : List Str}, RpAll K F H vs xs → allS xs = some bs → vs = bs.map V.str
  | [], _, _, h, e => by cases h; cases e; rfl
  | x :: xs, _, _, h, e => by
    cases h with
    | cons h1 h2 =>
      unfold allS at e
      split at e
      · rename_i e0; cases e0
      · rename_i b r e0
        cases e0
        obtain ⟨cs, e1, rfl⟩ := Option.map_eq_some_iff.mp e
        cases h1
        rw [RpAll.strs h2 e1]
        rfl
      · cases e
mutual
theorem Rp.noDict : ∀ (d : PyData) (v : V), Rp K F H v d → d.hasDict = false
  | .none, _, _ => by simp only [PyData.hasDict]
  | .bool _, _, _ => by simp only [PyData.hasDict]
  | .int _, _, _ => by simp only [PyData.hasDict]
  | .str _, _, _ => by simp only [PyData.hasDict]
  | .list xs, _, h => by
    cases h with
    | lst h1 h2 ha => simp only [PyData.hasDict]; exact RpAll.noDict xs _ ha
  | .tuple xs, _, h => by
    cases h with
    | tup h1 ha => simp only [PyData.hasDict]; exact RpAll.noDict xs _ ha
  | .dict _, _, h => by cases h
theorem RpAll.noDict : ∀ (ds : List PyData) (vs : List V), RpAll K F H vs ds → PyData.hasDictAll ds = false
  | [], _, _ => by simp only [PyData.hasDictAll]
  | d :: ds, _, h => by
    cases h with
    | cons h1 h2 => simp only [PyData.hasDictAll, Rp.noDict d _ h1, RpAll.noDict ds _ h2, Bool.or_self]
end
theorem RdP.noDict {v : V} {x : PyData} (h : RdP K F H v x) : x.hasDict = false := by
  rcases h with h | ⟨a, vs, xs, rfl, rfl, h1, h2⟩
  · exact Rp.noDict _ _ h
  · simp only [PyData.hasDict]; exact RpAll.noDict _ _ h2
end
def BfOk (X : Cx) (f : Value) (b : BF) : Prop :=
  ∃ r : List V → Hp → VK → Prop, CallR X f r ∧ ∀ (F : Addr → Prop) (β : List Addr) (B : Bs) (st : Stt) (H : Hp) (mg : Str → Option Value) (wx : Value → Option Addr → Hp → Prop) (Q : VK) (vs : List V) (xs : List PyData) (w : W),
    StOk X.K F β B H st → RdPs X.K F H vs xs → bifD b xs = some w → Post X.K mg β B (RR X.K β B) F H wx (.ok w st) Q → r vs H Q
section
variable {X : Cx}
theorem RdPs.one {K : PySem.W.Frag} {F : Addr → Prop} {H : Hp} {vs : List V} {x : PyData} (h : RdPs K F H vs [x]) : ∃ v, vs = [v] ∧ RdP K F H v x := by
  cases h with
  | cons h1 h2 => cases h2; exact ⟨_, rfl, h1⟩
theorem bif1 {b : BF} {xs : List PyData} {w : W} (e : bifD b xs = some w) : ∃ x, xs = [x] := by
  unfold bifD at e
  split at e <;> first | exact ⟨_, rfl⟩ | cases e
theorem CallR.or {f : Value} {r r' : List V → Hp → VK → Prop} (h : CallR X f r) (h' : CallR X f r') : CallR X f (fun xs H Q => r xs H Q ∨ r' xs H Q) := fun pins s σ H xs us Q I rv q => q.elim (h pins s σ H xs us Q I rv) (h' pins s σ H xs us Q I rv)
theorem bf_len : BfOk X (.builtin "len") .len := by
  refine ⟨_, call_len, ?_⟩
  intro F β B st H mg wx Q vs xs w s hx e h
  obtain ⟨x, rfl⟩ := bif1 e
  · skip
    obtain ⟨v, rfl, hy⟩ := hx.one
    obtain ⟨z, e1, rfl⟩ := Option.map_eq_some_iff.mp (show (lenD x).map W.d = some w from e)
    unfold lenD at e1
    split at e1
    · cases e1
      obtain ⟨a, vs, rfl, h1, h2⟩ := hy.list
      exact ⟨_, _, rfl, .inl ⟨vs, .inl h1, rfl⟩, by rw [h2.length]; exact fin_d s h (.int _)⟩
    · cases e1
      obtain ⟨a, vs, rfl, h1, h2⟩ := hy.tuple
      exact ⟨_, _, rfl, .inr ⟨vs, h1, rfl⟩, by rw [h2.length]; exact fin_d s h (.int _)⟩
    · split at e1
      · rename_i hz
        cases e1; cases hy.str
        exact ⟨_, _, rfl, ⟨hz, rfl⟩, fin_d s h (.int _)⟩
      · cases e1
    · cases e1
theorem bf_all (hc : X.calm = true) : BfOk X (.builtin "all") .all := by
  refine ⟨_, cr_all hc, ?_⟩
  intro F β B st H mg wx Q vs xs w s hx e h
  obtain ⟨x, rfl⟩ := bif1 e
  match x, e with
  | .list xs, e =>
    obtain ⟨v, rfl, hy⟩ := hx.one
    obtain ⟨bs, e1, rfl⟩ := Option.map_eq_some_iff.mp (show (allB xs).map _ = some w from e)
    obtain ⟨a, vs, rfl, h1, h2⟩ := hy.list
    cases h2.bls e1
    exact ⟨a, bs, rfl, .inl h1, fin_d s h (.bl _)⟩
  | .none, e => cases e
  | .bool _, e => cases e
  | .int _, e => cases e
  | .str _, e => cases e
  | .tuple _, e => cases e
  | .dict _, e => cases e
theorem bf_any (hc : X.calm = true) : BfOk X (.builtin "any") .any := by
  refine ⟨_, cr_any hc, ?_⟩
  intro F β B st H mg wx Q vs xs w s hx e h
  obtain ⟨x, rfl⟩ := bif1 e
  match x, e with
  | .list xs, e =>
    obtain ⟨v, rfl, hy⟩ := hx.one
    obtain ⟨bs, e1, rfl⟩ := Option.map_eq_some_iff.mp (show (allB xs).map _ = some w from e)
    obtain ⟨a, vs, rfl, h1, h2⟩ := hy.list
    cases h2.bls e1
    exact ⟨a, bs, rfl, .inl h1, fin_d s h (.bl _)⟩
  | .none, e => cases e
  | .bool _, e => cases e
  | .int _, e => cases e
  | .str _, e => cases e
  | .tuple _, e => cases e
  | .dict _, e => cases e
theorem bf_tuple : BfOk X (.type "tuple") .tuple := by
  refine ⟨_, call_tuple_of, ?_⟩
  intro F β B st H mg wx Q vs xs w s hx e h
  obtain ⟨x, rfl⟩ := bif1 e
  match x, e with
  | .list xs, e =>
    cases e
    obtain ⟨v, rfl, hy⟩ := hx.one
    obtain ⟨a, vs, rfl, h1, h2⟩ := hy.list
    exact ⟨a, vs, rfl, .inl ⟨.inl h1, fun p hp => fin_tup s h h2 hp⟩⟩
  | .tuple xs, e =>
    cases e
    obtain ⟨v, rfl, hy⟩ := hx.one
    obtain ⟨a, vs, rfl, h1, h2⟩ := hy.tuple
    exact ⟨a, vs, rfl, .inr ⟨h1, fin_d s h (.tup h1 h2)⟩⟩
  | .none, e => cases e
  | .bool _, e => cases e
  | .int _, e => cases e
  | .str _, e => cases e
  | .dict _, e => cases e
theorem bf_list : BfOk X (.type "list") .list := by
  refine ⟨_, call_list_of, ?_⟩
  intro F β B st H mg wx Q vs xs w s hx e h
  obtain ⟨x, rfl⟩ := bif1 e
  match x, e with
  | .list xs, e =>
    cases e
    obtain ⟨v, rfl, hy⟩ := hx.one
    obtain ⟨a, vs, rfl, h1, h2⟩ := hy.list
    exact ⟨a, vs, rfl, .inl (.inl h1), fun p hp => fin_new s h h2 hp⟩
  | .tuple xs, e =>
    cases e
    obtain ⟨v, rfl, hy⟩ := hx.one
    obtain ⟨a, vs, rfl, h1, h2⟩ := hy.tuple
    exact ⟨a, vs, rfl, .inr h1, fun p hp => fin_new s h h2 hp⟩
  | .none, e => cases e
  | .bool _, e => cases e
  | .int _, e => cases e
  | .str _, e => cases e
  | .dict _, e => cases e
theorem bf_str : BfOk X (.type "str") .str := by
  refine ⟨_, CallR.or call_str_int SkE.call_str_str, ?_⟩
  intro F β B st H mg wx Q vs xs w s hx e h
  obtain ⟨x, rfl⟩ := bif1 e
  · skip
    obtain ⟨v, rfl, hy⟩ := hx.one
    obtain ⟨z, e1, rfl⟩ := Option.map_eq_some_iff.mp (show (strD x).map W.d = some w from e)
    unfold strD at e1
    split at e1
    · split at e1
      · rename_i hz
        cases e1; cases hy.int
        exact .inl ⟨_, rfl, of_decide_eq_true hz, fin_d s h (.str _)⟩
      · cases e1
    · cases e1; cases hy.str
      exact .inr ⟨_, rfl, fin_d s h (.str _)⟩
    · cases e1
theorem call_reprG (hg : X.A.guards = some []) (hu : X.A.units + 66 < cLine) : CallR X (.builtin "repr") (fun xs H Q => ∃ x d, xs = [x] ∧ Dp X.K H x d ∧ d.showable = true ∧ d.hasDict = false ∧ d.depth ≤ 64 ∧ d.shown.length ≤ sizeLine ∧ Q (.str d.shown) H) := by
  intro pins s σ H xs us Q I r h
  obtain ⟨x, d, rfl, hd, h1, h2, h3, h4, q⟩ := h
  obtain ⟨u, rfl, rx⟩ := vals1 r
  have box : ∀ a : Addr, x = .ref a → wpAny (model X.prog X.w) X.A (call (.builtin "repr") [u]) (EP X pins σ Q) X.xe s := fun a e => by
    subst e
    obtain ⟨as, rr⟩ := Dp.reads I d _ u hd rx
    cases rx
    exact repr_of_reads' rr h1 (PyData.noDict_hsm h2) hg (by omega) (fun _ _ z => z) (fun h' u tk hk => ⟨.str _, H, I.kept (t' := tk) hk, ⟨_, rfl⟩, q⟩) h4
  cases d with
  | none =>
    cases hd; cases rx
    exact PySem.P.repr_of_none ⟨.str _, H, I.tok _, ⟨_, rfl⟩, q⟩
  | bool b =>
    cases hd; cases rx
    refine PySem.P.repr_of_bool ⟨.str (if b then "True" else "False"), H, I.tok _, ⟨_, rfl⟩, ?_⟩
    simp only [PyData.shown] at q
    exact q
  | int i =>
    cases hd
    obtain ⟨t, rfl⟩ := rx
    simp only [PyData.showable] at h1
    simp only [PyData.shown] at q
    exact PySem.P.repr_of_int (of_decide_eq_true h1) ⟨.str _, H, I.tok _, ⟨_, rfl⟩, q⟩
  | str y =>
    cases hd
    obtain ⟨t, rfl⟩ := rx
    simp only [PyData.shown] at q h4
    exact PySem.P.repr_of_str ⟨.str _, H, I.tok _, ⟨_, rfl⟩, q⟩ h4
  | list xs => cases hd; exact box _ rfl
  | tuple xs => cases hd; exact box _ rfl
  | dict kvs => simp only [PyData.hasDict] at h2; cases h2
theorem bf_repr (hg : X.A.guards = some []) (hu : X.A.units + 66 < cLine) : BfOk X (.builtin "repr") .repr := by
  refine ⟨_, call_reprG hg hu, ?_⟩
  intro F β B st H mg wx Q vs xs w s hx e h
  obtain ⟨x, rfl⟩ := bif1 e
  · skip
    obtain ⟨v, rfl, hy⟩ := hx.one
    obtain ⟨z, e1, rfl⟩ := Option.map_eq_some_iff.mp (show (reprD x).map W.d = some w from e)
    unfold reprD at e1
    split at e1
    · rename_i hz
      cases e1
      simp only [Bool.and_eq_true, decide_eq_true_eq] at hz
      exact ⟨v, x, rfl, hy.dp, hz.1.1, hy.noDict, hz.1.2, hz.2, fin_d s h (.str _)⟩
    · cases e1
def bname : BF → Str
  | .len => "len" | .all => "all" | .any => "any" | .tuple => "tuple" | .list => "list" | .str => "str" | .repr => "repr"
def bval : BF → Value
  | .len => .builtin "len" | .all => .builtin "all" | .any => .builtin "any" | .tuple => .type "tuple" | .list => .type "list" | .str => .type "str" | .repr => .builtin "repr"
theorem bf_ok (hc : X.calm = true) (hg : X.A.guards = some []) (hu : X.A.units + 66 < cLine) : ∀ b : BF, BfOk X (bval b) b
  | .len => bf_len
  | .all => bf_all hc
  | .any => bf_any hc
  | .tuple => bf_tuple
  | .list => bf_list
  | .str => bf_str
  | .repr => bf_repr hg hu
theorem bval_boot (b : BF) : bootBuiltins (bname b) = some (bval b) := by cases b <;> first | rfl | kernel_rfl | decide +kernel
theorem bname_ok (b : BF) : bname b ≠ "__name__" ∧ (bname b == ("__debug__" : Str)) = false := by cases b <;> decide +kernel
def tyn : Ty → Str
  | .int => "int" | .bool => "bool" | .str => "str" | .list => "list" | .tuple => "tuple"
theorem tyn_boot (t : Ty) : bootBuiltins (tyn t) = some (.type (tyS t)) := by cases t <;> first | rfl | kernel_rfl | decide +kernel
theorem tyn_ok (b : Ty) : tyn b ≠ "__name__" ∧ (tyn b == ("__debug__" : Str)) = false := by cases b <;> decide +kernel
end
end Gm

/-! The deep layer, part D: functions' promises, side facts, expressions. -/
namespace Gm
open PySem PySem.Spec PyProof.Rows L2

/-- as HandS's FnOk, where no guard stands -/
structure FnG (P : Program) (w : World) (K : PySem.W.Frag) (mg : Str → Option Value) (base : Heap) (k : Nat) (f : Addr) (fd : FuncData) (ps : List Str) (sp : Sp) : Prop where
  len : ∀ vs H Q E, sp vs H Q E → vs.length = ps.length
  run : ∀ (A : Around) (outer : List Env) (s : Shared) (H : Hp) (args : Args) (us : List Value) (vs : List V) (Q : VK) (E : XK), Room k A → A.guards = some [] → Env0 P w K mg base A outer s H → BindsTo s fd args (ps.zip us) → Vals vs us → sp vs H Q E →
    codeAny (model P w) A (.call (.ref f) args) (CR (CX P w) outer P w H s Q E) s

/-- results are data, new objects, cells -/
def Plain (Φ : Phi) : Prop := ∀ f as st w s, Φ f as st = .ok w s → (∃ x, w = .d x) ∨ (∃ c, w = .new c) ∨ ∃ n, w = .loc n
def spOf (K : PySem.W.Frag) (mg : Str → Option Value) (φ : List W → Stt → Res W) : Sp := fun vs H Q E => ∃ (F : Addr → Prop) (β : List Addr) (P : Addr → Prop) (as : List W) (st : Stt),
  StOk K F β ⟨P, fun _ => False⟩ H st ∧ RA K F β ⟨P, fun _ => False⟩ H vs as ∧ Post K mg β ⟨P, fun _ => False⟩ (RR K β ⟨P, fun _ => False⟩) F H E (φ as st) Q

/-- names of the module -/
structure Tb where
  fn : List (Str × Nat)
  co : List (Str × PyData)
  ab : List Str
def FnAt (X : Cx) (Φ : Phi) (n : Str) (f : Nat) : Prop := ∃ (a : Addr) (fd : FuncData) (ps : List Str) (k : Nat), FnG X.prog X.w X.K X.mg X.base k a fd ps (spOf X.K X.mg (Φ f)) ∧ Room k X.A ∧ X.mg n = some (.ref a) ∧ PySem.W.keepIn X.K (.ref a) = true ∧ Binds X.K fd ps []
def CoAt (X : Cx) (n : Str) (x : PyData) : Prop := ∃ (u : Value) (v : V), X.mg n = some u ∧ RelV v u ∧ ∀ F H, Rp X.K F H v x
structure Side (X : Cx) (Φ : Phi) (T : Tb) (wx : WX) : Prop where
  nd : X.N.Nodup
  calm : X.calm = true
  un : X.A.units + 66 < cLine
  gu : X.A.guards = some []
  tk : Takes X wx
  pl : Plain Φ
  co : ∀ n x, (n, x) ∈ T.co → CoAt X n x
  ab : ∀ n ∈ T.ab, X.mg n = none
  fn : ∀ n f, (n, f) ∈ T.fn → FnAt X Φ n f

theorem PE.imp {X : Cx} {e : Expr} {t t' : TE} (h : PE X e t) (i : ∀ σ H Q, t' σ H Q → t σ H Q) : PE X e t' := ⟨fun pins s σ H Q I q => h.run pins s σ H Q I (i σ H Q q)⟩
theorem PT.imp {X : Cx} {e : Expr} {t t' : TT} (h : PT X e t) (i : ∀ σ H Q, t' σ H Q → t σ H Q) : PT X e t' := ⟨fun pins s σ H Q I q => h.run pins s σ H Q I (i σ H Q q)⟩
theorem PA.imp {X : Cx} {e : List Expr} {t t' : TA} (h : PA X e t) (i : ∀ σ H Q, t' σ H Q → t σ H Q) : PA X e t' := ⟨fun pos pins s σ H Q I q => h.run pos pins s σ H Q I (i σ H Q q)⟩

/-! ### syntax -/
def noStar : Expr → Bool
  | .Starred _ _ => false
  | _ => true
theorem star_of {e : Expr} {es : List Expr} {env : Env} (h : noStar e = true) : starEach (e :: es) env = (false, eval e env) :: starEach es env := by
  cases e <;> first | rfl | cases h
def noStars : List Expr → Bool
  | [] => true
  | e :: r => noStar e && noStars r
theorem back_of {pos : Pos} {env : Env} : ∀ {es : List Expr}, noStars es = true → (backTo pos (starEach es env)).any (·.1) = false
  | [], _ => rfl
  | e :: r, h => by
    obtain ⟨h1, h2⟩ := Bool.and_eq_true_iff.mp (show (noStar e && noStars r) = true from h)
    rw [star_of h1]
    exact back_of h2
def plainB : Expr → Bool
  | .Slice _ _ _ _ => false
  | .Starred _ _ => false
  | _ => true
theorem plainIx_of {b : Expr} (h : plainB b = true) : PlainIx b := by
  intro o i
  cases b <;> first | rfl | cases h
def plainT : Expr → Bool
  | .UnaryOp .Not _ _ => false
  | .BoolOp _ _ _ => false
  | .IfExp _ _ _ _ => false
  | .Compare _ _ _ _ => false
  | _ => true
theorem isTrue_of {e : Expr} {env : Env} (h : plainT e = true) (whole : Sem Value) : isTrue e env whole = (do let v ← whole; standAt e.pos; holding [v] (truthy v)) := by
  cases e with
  | UnaryOp op a pos => cases op <;> first | rfl | cases h
  | BoolOp _ _ _ => cases h
  | IfExp _ _ _ _ => cases h
  | Compare _ _ _ _ => cases h
  | _ => rfl
def plainO : Expr → Bool
  | .Call _ _ _ _ => false
  | _ => true
theorem attr_plain {o : Expr} {a : Str} {env : Env} (h : plainO o = true) : attributeBase o a env (eval o env) = eval o env := by
  cases o <;> first | rfl | cases h
def noComp : Expr → Bool
  | .ListComp _ _ _ _ => false
  | .SetComp _ _ _ _ => false
  | .DictComp _ _ _ _ _ => false
  | _ => true
theorem swaps_of {e : Expr} {t : Option Expr} {l : Nat} {env : Env} (h : noComp e = true) : swapsWith e t l env = pure false := by
  cases e <;> first | rfl | cases h
def noSet : Expr → Bool
  | .Set _ _ _ => false
  | _ => true
theorem folded_of {e : Expr} {env : Env} (h : noSet e = true) (x : Value) : foldedSetIterable e env x = pure x := by
  cases e <;> first | rfl | cases h

/-! ### steps -/
section
variable {X : Cx} {Φ : Phi} {T : Tb} {wx : WX}
abbrev tEs (X : Cx) (Φ : Phi) (wx : WX) (e : E) : TE := tE X.K X.mg wx (sem Φ e)
abbrev tTs (X : Cx) (Φ : Phi) (wx : WX) (e : E) : TT := tT X.K X.mg wx fun ρ st => (sem Φ e ρ st).bind truth
abbrev tEss (X : Cx) (Φ : Phi) (wx : WX) (e : Es) : TA := tAs X.K X.mg wx (sems Φ e)
variable {K : PySem.W.Frag} {mg : Str → Option Value}
theorem gen_step {α β' τ τ' : Type} {rep : Hp → (Addr → Prop) → Hp → τ → α → Prop} {rep' : Hp → (Addr → Prop) → Hp → τ' → β' → Prop} {β : List Addr} {B : Bs} {F : Addr → Prop} {ρ : Rho} {st : Stt} {σ : L2.St} {H : Hp} {Q : τ' → Hp → Prop} {P : τ → Hp → Prop} {r : Res α} {k : α → Stt → Res β'} {wx' : Value → Option Addr → Hp → Prop}
    (R : RelE K F β B ρ st σ H) (hb : Back β rep') (h : Post K mg β B rep' F H wx' (r.bind k) Q)
    (g : ∀ w st1 F1 v H1, Ext F β H F1 H1 → RelE K F1 β B ρ st1 σ H1 → rep H F1 H1 v w → Post K mg β B rep' F1 H1 wx' (k w st1) Q → P v H1) : Post K mg β B rep F H wx' r P :=
  (Post.step hb h).imp fun v H1 ⟨w, st1, F1, e, s, rv, p⟩ => g w st1 F1 v H1 e (R.ext e s) rv (p.later hb e)
theorem step_e {β' τ' : Type} {rep' : Hp → (Addr → Prop) → Hp → τ' → β' → Prop} {β : List Addr} {B : Bs} {F : Addr → Prop} {ρ : Rho} {st : Stt} {σ : L2.St} {H : Hp} {Q : τ' → Hp → Prop} {P : VK} {f : Rho → Stt → Res W} {k : W → Stt → Res β'}
    (R : RelE K F β B ρ st σ H) (hb : Back β rep') (h : Post K mg β B rep' F H (fun c d H' => wx c d σ H') ((f ρ st).bind k) Q)
    (g : ∀ w st1 F1 v H1, Ext F β H F1 H1 → RelE K F1 β B ρ st1 σ H1 → RR K β B H F1 H1 v w → Post K mg β B rep' F1 H1 (fun c d H' => wx c d σ H') (k w st1) Q → P v H1) : tE K mg wx f σ H P := ⟨F, β, B, ρ, st, R, gen_step R hb h g⟩
theorem step_t {β' τ' : Type} {rep' : Hp → (Addr → Prop) → Hp → τ' → β' → Prop} {β : List Addr} {B : Bs} {F : Addr → Prop} {ρ : Rho} {st : Stt} {σ : L2.St} {H : Hp} {Q : τ' → Hp → Prop} {P : Bool → Hp → Prop} {f : Rho → Stt → Res Bool} {k : Bool → Stt → Res β'}
    (R : RelE K F β B ρ st σ H) (hb : Back β rep') (h : Post K mg β B rep' F H (fun c d H' => wx c d σ H') ((f ρ st).bind k) Q)
    (g : ∀ w st1 F1 H1, Ext F β H F1 H1 → RelE K F1 β B ρ st1 σ H1 → Post K mg β B rep' F1 H1 (fun c d H' => wx c d σ H') (k w st1) Q → P w H1) : tT K mg wx f σ H P := ⟨F, β, B, ρ, st, R, gen_step R hb h fun w st1 F1 v H1 e R1 hv q => by cases hv; exact g _ st1 F1 H1 e R1 q⟩
theorem step_a {β' τ' : Type} {rep' : Hp → (Addr → Prop) → Hp → τ' → β' → Prop} {β : List Addr} {B : Bs} {F : Addr → Prop} {ρ : Rho} {st : Stt} {σ : L2.St} {H : Hp} {Q : τ' → Hp → Prop} {P : List V → Hp → Prop} {f : Rho → Stt → Res (List W)} {k : List W → Stt → Res β'}
    (R : RelE K F β B ρ st σ H) (hb : Back β rep') (h : Post K mg β B rep' F H (fun c d H' => wx c d σ H') ((f ρ st).bind k) Q)
    (g : ∀ w st1 F1 v H1, Ext F β H F1 H1 → RelE K F1 β B ρ st1 σ H1 → RL K β B H F1 H1 v w → Post K mg β B rep' F1 H1 (fun c d H' => wx c d σ H') (k w st1) Q → P v H1) : tAs K mg wx f σ H P := ⟨F, β, B, ρ, st, R, gen_step R hb h g⟩
theorem post_bool {β : List Addr} {B : Bs} {F : Addr → Prop} {H : Hp} {st : Stt} {wx' : Value → Option Addr → Hp → Prop} {b : Bool} {Q : Bool → Hp → Prop}
    (h : Post K mg β B REq F H wx' (.ok b st) Q) : Post K mg β B (RR K β B) F H wx' (.ok (.d (.bool b)) st) (fun x H' => ∃ k, x = .bl k ∧ Q k H') := fun v F' H' e s r => by
  have := r.1
  cases this
  exact ⟨b, rfl, h b F' H' e s rfl⟩
theorem Res.bind_assoc {α β γ : Type} (r : Res α) (f : α → Stt → Res β) (g : β → Stt → Res γ) : (r.bind f).bind g = r.bind fun a s => (f a s).bind g := by cases r <;> rfl
theorem ofO_bind {α β : Type} {st : Stt} {o : Option α} {f : α → Stt → Res β} : (Res.ofO st o).bind f = match o with | some a => f a st | none => .bad := by cases o <;> rfl

variable {a b c x : Expr} {ea eb ec : E} {pos : Pos}
theorem hB_of {F : Addr → Prop} {β : List Addr} {B : Bs} {ρ : Rho} {st : Stt} {σ : L2.St} {H : Hp} (R : RelE K F β B ρ st σ H) : ∀ a, B.u a → H a ≠ none := fun a h => (R.st.ob a h).2.2

/-! ### atoms -/
theorem e_var {i : Nat} {n : Str} (hN : X.N[i]? = some n) (hv : Vis X.env.scope n) (hd : (n == ("__debug__" : Str)) = false) (hcd : (n == ("__classdict__" : Str)) = false) : PE X (.Name n pos) (tEs X Φ wx (.var i)) :=
  PE.imp (pe_var hN hv hd hcd) fun σ H Q ⟨F, β, B, ρ, st, R, h⟩ => by
    have h' : Post X.K X.mg β B (RR X.K β B) F H (fun c d H' => wx c d σ H') (match ρ[i]? with
      | some (some (.own c)) => .ok (.lent c) st
      | some (some w) => .ok w st
      | _ => .bad) Q := by unfold sem at h; exact h
    cases q : ρ[i]? with
    | none => rw [q] at h'; exact h'.elim
    | some o =>
      cases o with
      | none => rw [q] at h'; exact h'.elim
      | some w =>
        obtain ⟨v, e1, rv⟩ := R.slot i w q
        refine ⟨v, e1, ?_⟩
        rw [q] at h'
        obtain ⟨n1, n2⟩ := R.rest i w q
        cases w with
        | own c => exact Post.done h' R.st ⟨rv, trivial⟩
        | d x => exact Post.done h' R.st ⟨rv, trivial⟩
        | bor x => exact Post.done h' R.st ⟨rv, trivial⟩
        | loc x => exact Post.done h' R.st ⟨rv, trivial⟩
        | new c => exact absurd rfl (n1 c)
        | lent c => exact absurd rfl (n2 c)
theorem e_d {v : V} {y : PyData} {e : Expr} (h : PE X e (tC v)) (r : ∀ F H, Rp X.K F H v y) {E : E} (hE : ∀ ρ st, sem Φ E ρ st = .ok (.d y) st) : PE X e (tEs X Φ wx E) :=
  PE.imp h fun σ H Q ⟨F, β, B, ρ, st, R, h⟩ => by
    rw [hE] at h
    exact fin_d R.st h (r F H)
theorem e_glo {n : Str} {y : PyData} (S : Side X Φ T wx) (hm : (n, y) ∈ T.co) (hg : Gl X n) (hd : (n == ("__debug__" : Str)) = false) : PE X (.Name n pos) (tEs X Φ wx (.glo n y)) := by
  obtain ⟨u, v, h1, h2, h3⟩ := S.co n y hm
  exact e_d (pe_glob hg h1 h2 hd) h3 fun _ _ => by rw [sem]

/-! ### operators -/
theorem rd2_of {β : List Addr} {B : Bs} {F : Addr → Prop} {H : Hp} {wx' : Value → Option Addr → Hp → Prop} {u v : W} {st : Stt} {k : PyData → PyData → Option W} {Q : VK} (h : Post K mg β B (RR K β B) F H wx' (rd2 u v st k) Q) :
    ∃ x y w, u.rd st = some x ∧ v.rd st = some y ∧ k x y = some w ∧ Post K mg β B (RR K β B) F H wx' (.ok w st) Q := by
  unfold rd2 at h
  obtain ⟨w, e, h⟩ := Post.ofO h
  obtain ⟨x, e1, e⟩ := Option.bind_eq_some_iff.mp e
  obtain ⟨y, e2, e⟩ := Option.bind_eq_some_iff.mp e
  exact ⟨x, y, w, e1, e2, e, h⟩
theorem rd1_of {β : List Addr} {B : Bs} {F : Addr → Prop} {H : Hp} {wx' : Value → Option Addr → Hp → Prop} {u : W} {st : Stt} {k : PyData → Option W} {Q : VK} (h : Post K mg β B (RR K β B) F H wx' (rd1 u st k) Q) :
    ∃ x w, u.rd st = some x ∧ k x = some w ∧ Post K mg β B (RR K β B) F H wx' (.ok w st) Q := by
  unfold rd1 at h
  obtain ⟨w, e, h⟩ := Post.ofO h
  obtain ⟨x, e1, e⟩ := Option.bind_eq_some_iff.mp e
  exact ⟨x, w, e1, e, h⟩
theorem e_bin {o : BO} (ha : PE X a (tEs X Φ wx ea)) (hb : PE X b (tEs X Φ wx eb)) : PE X (.BinOp a (bop o) b pos) (tEs X Φ wx (.bin o ea eb)) := by
  obtain ⟨r, hr, hk⟩ := ok_bin (X := X) o
  refine PE.imp (pe_op hr ha hb) fun σ H Q ⟨F, β, B, ρ, st, R, h⟩ => ?_
  unfold sem at h
  refine step_e R back_RR h fun w st1 F1 v H1 e1 R1 rv h => ?_
  refine step_e R1 back_RR h fun u st2 F2 y H2 e2 R2 ry h => ?_
  obtain ⟨dx, dy, z, h1, h2, h3, h⟩ := rd2_of h
  exact hk F2 β B st2 H2 _ _ Q v y dx dy z R2.st ((rv.1.keep e2 R1.st).rdp R2.st h1) (ry.1.rdp R2.st h2) h3 h
theorem e_neg (ha : PE X a (tEs X Φ wx ea)) : PE X (.UnaryOp .USub a pos) (tEs X Φ wx (.neg ea)) := by
  refine PE.imp (pe_un un_neg ha) fun σ H Q ⟨F, β, B, ρ, st, R, h⟩ => ?_
  unfold sem at h
  refine step_e R back_RR h fun w st1 F1 v H1 e1 R1 rv h => ?_
  obtain ⟨dx, z, h1, h2, h⟩ := rd1_of h
  obtain ⟨i, h3, rfl⟩ := Option.map_eq_some_iff.mp h2
  unfold intOf at h3
  split at h3
  · cases h3
    have := (rv.1.rdp R1.st h1).int
    subst this
    exact ⟨_, rfl, fin_d R1.st h (.int _)⟩
  · cases h3
theorem e_cmp {o : CO} (S : Side X Φ T wx) (ha : PE X a (tEs X Φ wx ea)) (hb : PE X b (tEs X Φ wx eb)) (hm : behindInMarks (cop o) b = false) : PE X (.Compare a [cop o] [b] pos) (tEs X Φ wx (.cmp o ea eb)) := by
  obtain ⟨r, hr, hk⟩ := ok_cmps (X := X) (by have := S.un; omega) o
  refine PE.imp (pe_cmpR hr ha hb hm) fun σ H Q ⟨F, β, B, ρ, st, R, h⟩ => ?_
  unfold sem at h
  refine step_e R back_RR h fun w st1 F1 v H1 e1 R1 rv h => ?_
  refine step_e R1 back_RR h fun u st2 F2 y H2 e2 R2 ry h => ?_
  obtain ⟨dx, dy, z, h1, h2, h3, h⟩ := rd2_of h
  exact hk F2 β B st2 H2 _ _ Q v y dx dy z R2.st ((rv.1.keep e2 R1.st).rdp R2.st h1) (ry.1.rdp R2.st h2) h3 h
theorem truth_b {b : Bool} {st : Stt} : truth (.d (.bool b)) st = .ok b st := rfl
theorem toB_of {o : Option Bool} {w : W} (h : toB o = some w) : ∃ b, o = some b ∧ w = .d (.bool b) := by
  unfold toB at h
  obtain ⟨b, e, rfl⟩ := Option.map_eq_some_iff.mp h
  exact ⟨b, e, rfl⟩
theorem rd2_bind {α : Type} {β : List Addr} {B : Bs} {F : Addr → Prop} {H : Hp} {wx' : Value → Option Addr → Hp → Prop} {u v : W} {st : Stt} {k : PyData → PyData → Option W} {f : W → Stt → Res α} {τ : Type} {rep : Hp → (Addr → Prop) → Hp → τ → α → Prop} {Q : τ → Hp → Prop} (h : Post K mg β B rep F H wx' ((rd2 u v st k).bind f) Q) :
    ∃ x y w, u.rd st = some x ∧ v.rd st = some y ∧ k x y = some w ∧ Post K mg β B rep F H wx' (f w st) Q := by
  unfold rd2 at h
  rw [ofO_bind] at h
  split at h
  · rename_i w e
    obtain ⟨x, e1, e⟩ := Option.bind_eq_some_iff.mp e
    obtain ⟨y, e2, e⟩ := Option.bind_eq_some_iff.mp e
    exact ⟨x, y, w, e1, e2, e, h⟩
  · exact h.elim
theorem t_cmp {o : CO} (S : Side X Φ T wx) (ha : PE X a (tEs X Φ wx ea)) (hb : PE X b (tEs X Φ wx eb)) (hm : behindInMarks (cop o) b = false) : PT X (.Compare a [cop o] [b] pos) (tTs X Φ wx (.cmp o ea eb)) := by
  obtain ⟨r, hr, hk⟩ := ok_cmps (X := X) (by have := S.un; omega) o
  refine PT.imp (pt_cmpR hr ha hb hm) fun σ H Q ⟨F, β, B, ρ, st, R, h⟩ => ?_
  unfold sem at h
  simp only [Res.bind_assoc] at h
  refine step_e R back_REq h fun w st1 F1 v H1 e1 R1 rv h => ?_
  refine step_e R1 back_REq h fun u st2 F2 y H2 e2 R2 ry h => ?_
  obtain ⟨dx, dy, z, h1, h2, h3, h⟩ := rd2_bind h
  obtain ⟨bb, h4, rfl⟩ := toB_of h3
  exact hk F2 β B st2 H2 _ _ _ v y dx dy _ R2.st ((rv.1.keep e2 R1.st).rdp R2.st h1) (ry.1.rdp R2.st h2) h3 (post_bool h)
theorem e_chn {o p : CO} (S : Side X Φ T wx) (ha : PE X a (tEs X Φ wx ea)) (hb : PE X b (tEs X Φ wx eb)) (hc : PE X c (tEs X Φ wx ec)) (hm : lastMarks [cop o, cop p] [b, c] = false) : PE X (.Compare a [cop o, cop p] [b, c] pos) (tEs X Φ wx (.chn o p ea eb ec)) := by
  obtain ⟨r, hr, hk⟩ := ok_cmps (X := X) (by have := S.un; omega) o
  obtain ⟨r', hr', hk'⟩ := ok_cmps (X := X) (by have := S.un; omega) p
  refine PE.imp (pe_chain hr hr' ha hb hc hm) fun σ H Q ⟨F, β, B, ρ, st, R, h⟩ => ?_
  unfold sem at h
  refine step_e R back_RR h fun w st1 F1 v H1 e1 R1 rv h => ?_
  refine step_e R1 back_RR h fun u st2 F2 y H2 e2 R2 ry h => ?_
  obtain ⟨dx, dy, z, h1, h2, h3, h⟩ := rd2_bind h
  obtain ⟨bb, h4, rfl⟩ := toB_of h3
  refine hk F2 β B st2 H2 X.mg (fun c d H' => wx c d σ H') _ v y dx dy _ R2.st ((rv.1.keep e2 R1.st).rdp R2.st h1) (ry.1.rdp R2.st h2) h3 ?_
  intro v3 F3 H3 e3 s3 r3
  have r3' := r3.1
  cases r3'
  refine ⟨bb, rfl, ?_⟩
  have R3 := R2.ext e3 s3
  have h := h.later back_RR e3
  cases bb with
  | false => exact fin_d s3 h (.bl _)
  | true =>
    show tE X.K X.mg wx (sem Φ ec) σ H3 _
    refine step_e R3 back_RR h fun u4 st4 F4 y4 H4 e4 R4 ry4 h => ?_
    obtain ⟨dx', dy', z', g1, g2, g3, h⟩ := rd2_of h
    exact hk' F4 β B st4 H4 _ _ Q y y4 dx' dy' z' R4.st (((ry.1.keep e3 R2.st).keep e4 R3.st).rdp R4.st g1) (ry4.1.rdp R4.st g2) g3 h
theorem t_chn {o p : CO} (S : Side X Φ T wx) (ha : PE X a (tEs X Φ wx ea)) (hb : PE X b (tEs X Φ wx eb)) (hc : PE X c (tEs X Φ wx ec)) (hm : lastMarks [cop o, cop p] [b, c] = false) : PT X (.Compare a [cop o, cop p] [b, c] pos) (tTs X Φ wx (.chn o p ea eb ec)) := by
  obtain ⟨r, hr, hk⟩ := ok_cmps (X := X) (by have := S.un; omega) o
  obtain ⟨r', hr', hk'⟩ := ok_cmps (X := X) (by have := S.un; omega) p
  refine PT.imp (pt_chain hr hr' ha hb hc hm) fun σ H Q ⟨F, β, B, ρ, st, R, h⟩ => ?_
  unfold sem at h
  simp only [Res.bind_assoc, bsel_bind, Res.bind_ok, truth_b] at h
  refine step_e R back_REq h fun w st1 F1 v H1 e1 R1 rv h => ?_
  refine step_e R1 back_REq h fun u st2 F2 y H2 e2 R2 ry h => ?_
  obtain ⟨dx, dy, z, h1, h2, h3, h⟩ := rd2_bind h
  obtain ⟨bb, h4, rfl⟩ := toB_of h3
  refine hk F2 β B st2 H2 X.mg (fun c d H' => wx c d σ H') _ v y dx dy _ R2.st ((rv.1.keep e2 R1.st).rdp R2.st h1) (ry.1.rdp R2.st h2) h3 ?_
  intro v3 F3 H3 e3 s3 r3
  have r3' := r3.1
  cases r3'
  refine ⟨bb, rfl, ?_⟩
  have R3 := R2.ext e3 s3
  have h := h.later back_REq e3
  cases bb with
  | false => exact ⟨false, rfl, Post.done h s3 rfl⟩
  | true =>
    show tE X.K X.mg wx (sem Φ ec) σ H3 _
    refine step_e R3 back_REq h fun u4 st4 F4 y4 H4 e4 R4 ry4 h => ?_
    obtain ⟨dx', dy', z', g1, g2, g3, h⟩ := rd2_bind h
    obtain ⟨bb', h4', rfl⟩ := toB_of g3
    exact hk' F4 β B st4 H4 _ _ _ y y4 dx' dy' _ R4.st (((ry.1.keep e3 R2.st).keep e4 R3.st).rdp R4.st g1) (ry4.1.rdp R4.st g2) g3 (post_bool h)

/-! ### tests -/
theorem t_val (ha : PE X a (tEs X Φ wx ea)) (he : plainT a = true) : PT X a (tTs X Φ wx ea) := by
  refine PT.imp (pt_truth ha (isTrue_of he)) fun σ H Q ⟨F, β, B, ρ, st, R, h⟩ => ?_
  refine step_e R back_REq h fun w st1 F1 v H1 e1 R1 rv h => ?_
  unfold truth at h
  obtain ⟨b, e, h⟩ := Post.ofO h
  obtain ⟨x, h1, h2⟩ := Option.bind_eq_some_iff.mp e
  exact ⟨b, ok_truth (rv.1.rdp R1.st h1) h2, Post.done h R1.st rfl⟩
theorem t_not (ha : PT X a (tTs X Φ wx ea)) : PT X (.UnaryOp .Not a pos) (tTs X Φ wx (.nt ea)) := by
  refine PT.imp (pt_not ha) fun σ H Q ⟨F, β, B, ρ, st, R, h⟩ => ?_
  unfold sem at h
  simp only [Res.bind_assoc] at h
  rw [← Res.bind_assoc] at h
  exact step_t R back_REq h fun w st1 F1 H1 e1 R1 h => Post.done (by simpa [truth_b] using h) R1.st rfl
theorem e_not (ha : PE X a (tEs X Φ wx ea)) : PE X (.UnaryOp .Not a pos) (tEs X Φ wx (.nt ea)) := by
  have key : PE X (.UnaryOp .Not a pos) (fun σ H Q => tEs X Φ wx ea σ H fun x H1 => ∃ k, TruV X.K x H1 k ∧ Q (.bl (!k)) H1) := by
    refine ⟨fun pins s σ H Q I h => ?_⟩
    refine UnaryOp_ (thn (ha.run pins s σ H _ I h) fun v s1 ⟨x, H1, I1, r1, k, q1, q2⟩ => ?_)
    exact not_of (thn (tru_ok pins s1 σ H1 x v (fun b H' => Q (.bl (!b)) H') I1 r1 ⟨k, q1, q2⟩) fun b s2 ⟨H2, I2, q⟩ => ⟨.bl (!b), H2, I2, rfl, q⟩)
  refine PE.imp key fun σ H Q ⟨F, β, B, ρ, st, R, h⟩ => ?_
  unfold sem at h
  refine step_e R back_RR h fun w st1 F1 v H1 e1 R1 rv h => ?_
  unfold truth at h
  rw [ofO_bind] at h
  split at h
  · rename_i b e
    obtain ⟨x, h1, h2⟩ := Option.bind_eq_some_iff.mp e
    exact ⟨b, ok_truth (rv.1.rdp R1.st h1) h2, fin_d R1.st h (.bl _)⟩
  · exact h.elim
theorem t_bt {β : List Addr} {B : Bs} {F : Addr → Prop} {H : Hp} {wx' : Value → Option Addr → Hp → Prop} {w : W} {α τ : Type} {rep : Hp → (Addr → Prop) → Hp → τ → α → Prop} {Q : τ → Hp → Prop} {f g : Res α}
    (h : Post K mg β B rep F H wx' (bsel w f g) Q) : ∃ b, w = .d (.bool b) ∧ Post K mg β B rep F H wx' (if b then f else g) Q := by
  unfold bsel at h
  split at h
  · exact ⟨_, rfl, h⟩
  · exact h.elim
theorem rrb {β : List Addr} {B : Bs} {F : Addr → Prop} {H H0 : Hp} {v : V} {b : Bool} (r : RR K β B H0 F H v (.d (.bool b))) : v = .bl b := by
  have := r.1
  cases this
  rfl
/-- a's truth, where its value is to be a bool -/
theorem step_tb {α τ : Type} {rep : Hp → (Addr → Prop) → Hp → τ → α → Prop} {β : List Addr} {B : Bs} {F : Addr → Prop} {ρ : Rho} {st : Stt} {σ : L2.St} {H : Hp} {Q : τ → Hp → Prop} {P : Bool → Hp → Prop} {f g : Stt → Res α}
    (R : RelE K F β B ρ st σ H) (hb : Back β rep) (h : Post K mg β B rep F H (fun c d H' => wx c d σ H') ((sem Φ ea ρ st).bind fun w s => bsel w (f s) (g s)) Q)
    (k : ∀ b st1 F1 H1, Ext F β H F1 H1 → RelE K F1 β B ρ st1 σ H1 → Post K mg β B rep F1 H1 (fun c d H' => wx c d σ H') (if b then f st1 else g st1) Q → P b H1) : tT K mg wx (fun ρ st => (sem Φ ea ρ st).bind truth) σ H P := by
  refine step_t (k := fun b s => if b then f s else g s) R hb ?_ fun b st1 F1 H1 e1 R1 h => k b st1 F1 H1 e1 R1 h
  rw [Res.bind_assoc]
  cases q : sem Φ ea ρ st with
  | bad => rw [q] at h; exact h
  | ex x s => rw [q] at h; exact h
  | ok w s =>
    rw [q] at h
    simp only [Res.bind_ok] at h ⊢
    obtain ⟨b, rfl, h⟩ := t_bt h
    rw [truth_b]
    exact h
theorem t_pw {op : BoolOp} {vs : List Expr} {t : TT} (h : PT X (.BoolOp op vs pos) t) : PW X (.BoolOp op vs pos) t := ⟨fun wh pins s σ H Q I q => by have := h.run pins s σ H Q I q; exact this⟩
theorem t_one {op : BoolOp} (h : PT X b (tTs X Φ wx eb)) : PT X (.BoolOp op [b] pos) (tTs X Φ wx eb) := by
  cases op with
  | And => exact (pw_and1 h).pt
  | Or => exact (pw_or1 h).pt
theorem t_and {rest : List Expr} (ha : PT X a (tTs X Φ wx ea)) (hb : PT X (.BoolOp .And (b :: rest) pos) (tTs X Φ wx eb)) : PT X (.BoolOp .And (a :: b :: rest) pos) (tTs X Φ wx (.an ea eb)) := by
  refine PT.imp (pw_and ha (t_pw hb)).pt fun σ H Q ⟨F, β, B, ρ, st, R, h⟩ => ?_
  unfold sem at h
  simp only [Res.bind_assoc, bsel_bind, Res.bind_ok, truth_b] at h
  refine step_tb R back_REq h fun b st1 F1 H1 e1 R1 h => ?_
  cases b with
  | true => exact ⟨F1, β, B, ρ, st1, R1, h⟩
  | false => exact Post.done h R1.st rfl
theorem t_or {rest : List Expr} (ha : PT X a (tTs X Φ wx ea)) (hb : PT X (.BoolOp .Or (b :: rest) pos) (tTs X Φ wx eb)) : PT X (.BoolOp .Or (a :: b :: rest) pos) (tTs X Φ wx (.oo ea eb)) := by
  refine PT.imp (pw_or ha (t_pw hb)).pt fun σ H Q ⟨F, β, B, ρ, st, R, h⟩ => ?_
  unfold sem at h
  simp only [Res.bind_assoc, bsel_bind, Res.bind_ok, truth_b] at h
  refine step_tb R back_REq h fun b st1 F1 H1 e1 R1 h => ?_
  cases b with
  | false => exact ⟨F1, β, B, ρ, st1, R1, h⟩
  | true => exact Post.done h R1.st rfl
theorem e_and {rest : List Expr} (ha : PE X a (tEs X Φ wx ea)) (hb : PE X (.BoolOp .And (b :: rest) pos) (tEs X Φ wx eb)) : PE X (.BoolOp .And (a :: b :: rest) pos) (tEs X Φ wx (.an ea eb)) := by
  refine PE.imp (pe_and ha hb) fun σ H Q ⟨F, β, B, ρ, st, R, h⟩ => ?_
  unfold sem at h
  refine step_e R back_RR h fun w st1 F1 v H1 e1 R1 rv h => ?_
  obtain ⟨b, rfl, h⟩ := t_bt h
  cases rrb rv
  refine ⟨b, rfl, ?_⟩
  cases b with
  | true => exact ⟨F1, β, B, ρ, st1, R1, h⟩
  | false => exact fin_d R1.st h (.bl _)
theorem e_or {rest : List Expr} (ha : PE X a (tEs X Φ wx ea)) (hb : PE X (.BoolOp .Or (b :: rest) pos) (tEs X Φ wx eb)) : PE X (.BoolOp .Or (a :: b :: rest) pos) (tEs X Φ wx (.oo ea eb)) := by
  refine PE.imp (pe_or ha hb) fun σ H Q ⟨F, β, B, ρ, st, R, h⟩ => ?_
  unfold sem at h
  refine step_e R back_RR h fun w st1 F1 v H1 e1 R1 rv h => ?_
  obtain ⟨b, rfl, h⟩ := t_bt h
  cases rrb rv
  refine ⟨b, rfl, ?_⟩
  cases b with
  | false => exact ⟨F1, β, B, ρ, st1, R1, h⟩
  | true => exact fin_d R1.st h (.bl _)
theorem e_ite {ec : E} (hc : PT X c (tTs X Φ wx ec)) (ha : PE X a (tEs X Φ wx ea)) (hb : PE X b (tEs X Φ wx eb)) : PE X (.IfExp c a b pos) (tEs X Φ wx (.ite ec ea eb)) := by
  refine PE.imp (pe_ifExp hc ha hb) fun σ H Q ⟨F, β, B, ρ, st, R, h⟩ => ?_
  unfold sem at h
  rw [← Res.bind_assoc] at h
  refine step_t R back_RR h fun b st1 F1 H1 e1 R1 h => ?_
  cases b with
  | true => exact ⟨F1, β, B, ρ, st1, R1, h⟩
  | false => exact ⟨F1, β, B, ρ, st1, R1, h⟩
/-- a if c else b, as a test -/
theorem t_ite {ec : E} (hc : PT X c (tTs X Φ wx ec)) (ha : PT X a (tTs X Φ wx ea)) (hb : PT X b (tTs X Φ wx eb)) : PT X (.IfExp c a b pos) (tTs X Φ wx (.ite ec ea eb)) := by
  refine ⟨fun pins s σ H Q I h => ?_⟩
  obtain ⟨F, β, B, ρ, st, R, h⟩ := h
  unfold sem at h
  simp only [Res.bind_assoc] at h
  rw [← Res.bind_assoc] at h
  rw [show isTrue (.IfExp c a b pos) X.env (eval (.IfExp c a b pos) X.env) = (do if ← isTrue c X.env (eval c X.env) then isTrue a X.env (eval a X.env) else isTrue b X.env (eval b X.env)) from by rw [PySem.isTrue]]
  refine wpAny_bind (thn (hc.run pins s σ H (fun b H1 => if b then tTs X Φ wx ea σ H1 Q else tTs X Φ wx eb σ H1 Q) I (step_t R back_REq h fun bb st1 F1 H1 e1 R1 h => ?_)) fun d s1 ⟨H1, I1, q1⟩ => ?_)
  · cases bb with
    | true => exact ⟨F1, β, B, ρ, st1, R1, h⟩
    | false => exact ⟨F1, β, B, ρ, st1, R1, h⟩
  · cases d with
    | true => exact ha.run pins s1 σ H1 Q I1 q1
    | false => exact hb.run pins s1 σ H1 Q I1 q1
end
end Gm

/-! The deep layer, part D2: displays, items, calls. -/
namespace Gm
open PySem PySem.Spec PyProof.Rows L2
section
variable {X : Cx} {Φ : Phi} {T : Tb} {wx : WX} {K : PySem.W.Frag} {mg : Str → Option Value}
variable {a b c x : Expr} {xs : List Expr} {ea eb ec : E} {es : Es} {pos : Pos}
theorem Post.stepX {α β' τ τ' : Type} {rep : Hp → (Addr → Prop) → Hp → τ → α → Prop} {rep' : Hp → (Addr → Prop) → Hp → τ' → β' → Prop} {β : List Addr} {B : Bs} {F F1 : Addr → Prop} {H H1 : Hp} {wx' : Value → Option Addr → Hp → Prop} {r : Res α} {k : α → Stt → Res β'} {Q : τ' → Hp → Prop} (h : Post K mg β B rep' F H wx' (r.bind k) Q) (e : Ext F β H F1 H1) :
    Post K mg β B rep F1 H1 wx' r (fun v H2 => ∃ w st2 F2, Ext F1 β H1 F2 H2 ∧ StOk K F2 β B H2 st2 ∧ rep H1 F2 H2 v w ∧ Post K mg β B rep' F H wx' (k w st2) Q) := by
  cases r with
  | ok w st => exact fun v F' H' a b c => ⟨w, st, F', a, b, c, h⟩
  | ex x st => exact fun c d F' H' a b r => h c d F' H' (e.trans a) b r
  | bad => exact h
theorem a_nil : PA X [] (tEss X Φ wx .nil) := PA.imp pa_nil fun σ H Q ⟨F, β, B, ρ, st, R, h⟩ => by
  unfold sems at h
  exact Post.done h R.st .nil
theorem a_cons (hx : PE X x (tEs X Φ wx ea)) (hr : PA X xs (tEss X Φ wx es)) (hs : noStar x = true) : PA X (x :: xs) (tEss X Φ wx (.cons ea es)) := by
  refine PA.imp (pa_cons hx hr (star_of hs)) fun σ H Q ⟨F, β, B, ρ, st, R, h⟩ => ?_
  unfold sems at h
  refine ⟨F, β, B, ρ, st, R, (Post.step back_RL h).imp fun v H1 ⟨w, st1, F1, e1, s1, rv, h⟩ => ?_⟩
  have R1 := R.ext e1 s1
  refine ⟨F1, β, B, ρ, st1, R1, (Post.stepX h e1).imp fun vs H2 ⟨ws, st2, F2, e2, s2, rvs, h⟩ => ?_⟩
  exact Post.doneX h (e1.trans e2) s2 (.cons (rv.keep e2 s1) (rvs.back e1))
theorem e_tup {k : Nat} (ha : PA X xs (tEss X Φ wx es)) : PE X (.Tuple xs k pos) (tEs X Φ wx (.tup es)) := by
  refine PE.imp (pe_tup ha) fun σ H Q ⟨F, β, B, ρ, st, R, h⟩ => ?_
  unfold sem at h
  refine ⟨F, β, B, ρ, st, R, (Post.step back_RR h).imp fun vs H1 ⟨ws, st1, F1, e1, s1, rv, h⟩ => ?_⟩
  obtain ⟨w, e, h⟩ := Post.ofO h
  obtain ⟨ds, h1, h2⟩ := Option.bind_eq_some_iff.mp e
  split at h2
  · rename_i hz
    cases h2
    have ra := RL.py rv h1
    exact ⟨by rw [ra.length]; exact hz, fun p hp => fin_tup (frz_st (hB_of R) s1) (h.later back_RR (frz_ext e1)) ra hp⟩
  · cases h2
theorem e_lst (ha : PA X xs (tEss X Φ wx es)) : PE X (.List xs pos) (tEs X Φ wx (.lst es)) := by
  refine PE.imp (pe_lst ha) fun σ H Q ⟨F, β, B, ρ, st, R, h⟩ => ?_
  unfold sem at h
  refine ⟨F, β, B, ρ, st, R, (Post.step back_RR h).imp fun vs H1 ⟨ws, st1, F1, e1, s1, rv, h⟩ => ?_⟩
  obtain ⟨w, e, h⟩ := Post.ofO h
  obtain ⟨ds, h1, h2⟩ := Option.bind_eq_some_iff.mp e
  split at h2
  · rename_i hz
    cases h2
    have ra := RL.py rv h1
    exact ⟨by rw [ra.length]; exact hz, fun p hp => fin_new (frz_st (hB_of R) s1) (h.later back_RR (frz_ext e1)) ra hp⟩
  · cases h2
theorem e_idx (ha : PE X a (tEs X Φ wx ea)) (hb : PE X b (tEs X Φ wx eb)) (hs : plainB b = true) : PE X (.Subscript a b pos) (tEs X Φ wx (.idx ea eb)) := by
  refine PE.imp (pe_ix ix_seq ha hb (plainIx_of hs)) fun σ H Q ⟨F, β, B, ρ, st, R, h⟩ => ?_
  unfold sem at h
  refine step_e R back_RR h fun w st1 F1 v H1 e1 R1 rv h => ?_
  refine step_e R1 back_RR h fun u st2 F2 y H2 e2 R2 ry h => ?_
  obtain ⟨dx, dy, z, h1, h2, h3, h⟩ := rd2_of h
  obtain ⟨z', h4, rfl⟩ := Option.map_eq_some_iff.mp h3
  exact ok_idx R2.st ((rv.1.keep e2 R1.st).rdp R2.st h1) (ry.1.rdp R2.st h2) h4 h
/-- a slice's part -/
def tOp' (K : PySem.W.Frag) (mg : Str → Option Value) (wx : WX) (f : Rho → Stt → Res (Option Int)) : TO := fun σ H Q => ∃ F β B ρ st, RelE K F β B ρ st σ H ∧ Post K mg β B REq F H (fun c d H' => wx c d σ H') (f ρ st) Q
abbrev tOs (X : Cx) (Φ : Phi) (wx : WX) (e : Es) : TO := tOp' X.K X.mg wx fun ρ st => (sems Φ e ρ st).bind fun l s => Res.ofO s (partD s l)
theorem PO.imp {e : Option Expr} {t t' : TO} (h : PO X e t) (i : ∀ σ H Q, t' σ H Q → t σ H Q) : PO X e t' := ⟨fun pins s σ H Q I q => h.run pins s σ H Q I (i σ H Q q)⟩
theorem o_none : PO X none (tOs X Φ wx .nil) := PO.imp po_none fun σ H Q ⟨F, β, B, ρ, st, R, h⟩ => by
  unfold sems at h
  exact Post.done (w := (none : Option Int)) h R.st rfl
theorem o_some (ha : PE X a (tEs X Φ wx ea)) : PO X (some a) (tOs X Φ wx (.cons ea .nil)) := PO.imp (po_some ha) fun σ H Q ⟨F, β, B, ρ, st, R, h⟩ => by
  unfold sems sems at h
  simp only [Res.bind_assoc, Res.bind_ok] at h
  refine step_e R back_REq h fun w st1 F1 v H1 e1 R1 rv h => ?_
  obtain ⟨o, e, h⟩ := Post.ofO h
  obtain ⟨d, h1, h2⟩ := Option.bind_eq_some_iff.mp (show (w.rd st1).bind (fun x => (intOf x).map some) = some o from e)
  obtain ⟨i, h3, rfl⟩ := Option.map_eq_some_iff.mp h2
  unfold intOf at h3
  split at h3
  · cases h3
    exact ⟨_, (rv.1.rdp R1.st h1).int, Post.done h R1.st rfl⟩
  · cases h3
theorem e_slc {lo hi : Option Expr} {el eh : Es} {p2 : Pos} (ha : PE X a (tEs X Φ wx ea)) (hl : PO X lo (tOs X Φ wx el)) (hh : PO X hi (tOs X Φ wx eh)) : PE X (.Subscript a (.Slice lo hi none p2) pos) (tEs X Φ wx (.slc ea el eh)) := by
  refine PE.imp (pe_slice sl_ok ha hl hh) fun σ H Q ⟨F, β, B, ρ, st, R, h⟩ => ?_
  unfold sem at h
  refine step_e R back_RR h fun w st1 F1 v H1 e1 R1 rv h => ?_
  refine ⟨F1, β, B, ρ, st1, R1, gen_step R1 back_RR h fun l st2 F2 l' H2 e2 R2 q2 h => ?_⟩
  cases q2
  refine ⟨F2, β, B, ρ, st2, R2, gen_step R2 back_RR h fun u st3 F3 u' H3 e3 R3 q3 h => ?_⟩
  cases q3
  obtain ⟨z, e, h⟩ := Post.ofO h
  obtain ⟨d, h1, h2⟩ := Option.bind_eq_some_iff.mp e
  exact ok_slc R3.st (((rv.1.keep e2 R1.st).keep e3 R2.st).rdp R3.st h1) h2 h
theorem e_rev {k : Nat} {p1 p2 p3 : Pos} (ha : PE X a (tEs X Φ wx ea)) : PE X (.Subscript a (.Slice none none (some (.UnaryOp .USub (.Constant (.int 1) k p1) p2)) p3) pos) (tEs X Φ wx (.rev ea)) := by
  refine PE.imp (pe_rev ha) fun σ H Q ⟨F, β, B, ρ, st, R, h⟩ => ?_
  unfold sem at h
  refine step_e R back_RR h fun w st1 F1 v H1 e1 R1 rv h => ?_
  obtain ⟨d, z, h1, h2, h⟩ := rd1_of h
  exact ok_rev R1.st (rv.1.rdp R1.st h1) h2 h

/-! ### calls -/
theorem run_fnG {pins : List (Addr × Obj)} {σ : L2.St} {H : Hp} {s : Shared} {Q : VK} {us : List Value} {vs : List V} {k : Nat} {f : Addr} {fd : FuncData} {ps : List Str} {sp : Sp} (F : FnG X.prog X.w X.K X.mg X.base k f fd ps sp) (hr : Room k X.A) (hg : X.A.guards = some []) (hb : Binds X.K fd ps []) (tk : Takes X wx)
    (I : Inv X pins σ H s) (r : Vals vs us) (h : sp vs H Q (fun c d H' => wx c d σ H')) : wpAny (model X.prog X.w) X.A (call (.ref f) us) (EP X pins σ Q) X.xe s := by
  have hl : (us ++ []).length = ps.length := by rw [List.append_nil, ← r.length]; exact F.len _ _ _ _ h
  have hb' := hb s us I.kIn hl
  rw [List.append_nil] at hb'
  refine wpAny_call (codeAny_mono (F.run X.A X.stack s H ⟨us, []⟩ us vs Q _ hr hg I.env0 hb' r h) fun r s' hq => ?_)
  cases r with
  | error e => exact tk e s' (XE.of_call I (fun _ _ _ z => z) hq)
  | ok fl =>
    cases fl with
    | ret u => exact I.after hq
    | next => exact False.elim hq
    | brk => exact False.elim hq
    | cont => exact False.elim hq
theorem pe_callG {k : Nat} {f : Addr} {fd : FuncData} {ps : List Str} {sp : Sp} {n : Str} {p : Pos} {t : TA} (F : FnG X.prog X.w X.K X.mg X.base k f fd ps sp) (hr : Room k X.A) (hgu : X.A.guards = some []) (hg : Gl X n) (hm : X.mg n = some (.ref f)) (hk : PySem.W.keepIn X.K (.ref f) = true) (hb : Binds X.K fd ps []) (tk : Takes X wx)
    (ha : PA X (x :: xs) t) (hdb : (n == ("__debug__" : Str)) = false) (hst : noStars (x :: xs) = true) :
    PE X (.Call (.Name n p) (x :: xs) [] pos) (fun σ H Q => t σ H fun vs H1 => sp vs H1 Q (fun c d H' => wx c d σ H')) := by
  obtain ⟨h1, h2⟩ := Bool.and_eq_true_iff.mp (show (noStar x && noStars xs) = true from hst)
  refine ⟨fun pins s σ H Q I h => ?_⟩
  refine wpAny_Call_Name_kw (ld_glob I hg hm ?_ hdb)
  refine PySem.W.callWith_K (h₀ := X.base) I.ok.mod.kin hk (thn (ha.run pos pins s σ H _ I h) fun us s1 ⟨vs, H1, I1, r, q⟩ => ⟨I1.kIn, ?_⟩) (star_of h1) (back_of h2)
  exact run_fnG F hr hgu hb tk I1 r q
theorem pe_callG0 {k : Nat} {f : Addr} {fd : FuncData} {ps : List Str} {sp : Sp} {n : Str} {p : Pos} (F : FnG X.prog X.w X.K X.mg X.base k f fd ps sp) (hr : Room k X.A) (hgu : X.A.guards = some []) (hg : Gl X n) (hm : X.mg n = some (.ref f)) (hk : PySem.W.keepIn X.K (.ref f) = true) (hb : Binds X.K fd ps []) (tk : Takes X wx)
    (hdb : (n == ("__debug__" : Str)) = false) :
    PE X (.Call (.Name n p) [] [] pos) (fun σ H Q => sp [] H Q (fun c d H' => wx c d σ H')) := by
  refine ⟨fun pins s σ H Q I h => ?_⟩
  refine wpAny_Call_Name_kw (ld_glob I hg hm ?_ hdb)
  exact PySem.W.callWith_K0 I.kIn hk (run_fnG (us := []) F hr hgu hb tk I .nil h)
theorem StOk.dn {F : Addr → Prop} {β : List Addr} {B : Bs} {H : Hp} {st : Stt} (s : StOk K F β B H st) : StOk K F β B.dn H st := ⟨s.len, s.nd, s.nf, fun a h => s.ob a (h.elim (fun z => z) False.elim), s.ft, s.at_⟩
theorem StOk.up {F : Addr → Prop} {β : List Addr} {B : Bs} {H : Hp} {st : Stt} (s : StOk K F β B.dn H st) : StOk K F β B H st := ⟨s.len, s.nd, s.nf, fun a h => s.ob a (.inl h), s.ft, s.at_⟩
theorem Post.dn {F : Addr → Prop} {β : List Addr} {B : Bs} {H : Hp} {wx' : Value → Option Addr → Hp → Prop} {r : Res W} {Q : VK} (hp : ∀ w s, r = .ok w s → (∃ x, w = .d x) ∨ (∃ c, w = .new c) ∨ ∃ n, w = .loc n)
    (h : Post K mg β B (RR K β B) F H wx' r Q) : Post K mg β B.dn (RR K β B.dn) F H wx' r Q := by
  cases r with
  | bad => exact h
  | ex x st => exact fun c d F' H' e s r => h c d F' H' e s.up r
  | ok w st =>
    intro v F' H' e s ⟨r, f⟩
    refine h v F' H' e s.up ⟨?_, f⟩
    rcases hp w st rfl with ⟨x, rfl⟩ | ⟨c, rfl⟩ | ⟨n, rfl⟩ <;> exact r
theorem sp_call {es : Es} {f : Nat} (S : Side X Φ T wx) {σ : L2.St} {H : Hp} {Q : VK} (h : tEs X Φ wx (.cal n f es) σ H Q) : tEss X Φ wx es σ H fun vs H1 => spOf X.K X.mg (Φ f) vs H1 Q (fun c d H' => wx c d σ H') := by
  obtain ⟨F, β, B, ρ, st, R, h⟩ := h
  unfold sem at h
  refine ⟨F, β, B, ρ, st, R, (Post.step back_RR h).imp fun vs H1 ⟨ws, st1, F1, e1, s1, rv, h⟩ => ?_⟩
  rw [ofO_bind] at h
  split at h
  · rename_i as e
    refine ⟨frzF F1 β H H1, β, B.u, as, st1, (frz_st (hB_of R) s1).dn, RL.args rv e, ?_⟩
    exact Post.dn (fun w s q => S.pl _ _ _ _ _ q) (h.later back_RR (frz_ext e1))
  · exact h.elim
theorem e_cal {f : Nat} {n : Str} {p : Pos} (S : Side X Φ T wx) (hf : (n, f) ∈ T.fn) (hg : Gl X n) (hd : (n == ("__debug__" : Str)) = false) (ha : PA X xs (tEss X Φ wx es)) (hst : noStars xs = true) (hne : xs.isEmpty = false) : PE X (.Call (.Name n p) xs [] pos) (tEs X Φ wx (.cal n f es)) := by
  obtain ⟨ad, fd, ps, k, F, hr, hm, hk, hb⟩ := S.fn n f hf
  cases xs with
  | nil => cases hne
  | cons x xs => exact PE.imp (pe_callG F hr S.gu hg hm hk hb S.tk ha hd hst) fun σ H Q h => sp_call S h
theorem e_cal0 {f : Nat} {n : Str} {p : Pos} (S : Side X Φ T wx) (hf : (n, f) ∈ T.fn) (hg : Gl X n) (hd : (n == ("__debug__" : Str)) = false) : PE X (.Call (.Name n p) [] [] pos) (tEs X Φ wx (.cal n f .nil)) := by
  obtain ⟨ad, fd, ps, k, F, hr, hm, hk, hb⟩ := S.fn n f hf
  refine PE.imp (pe_callG0 F hr S.gu hg hm hk hb S.tk hd) fun σ H Q ⟨F, β, B, ρ, st, R, h⟩ => ?_
  unfold sem sems at h
  exact ⟨F, β, B.u, [], st, R.st.dn, .nil, Post.dn (fun w s q => S.pl _ _ _ _ _ q) h⟩
theorem e_bif {bf : BF} {n : Str} {p : Pos} (S : Side X Φ T wx) (hn : n = bname bf) (ht : n ∈ T.ab) (hg : Gl X n) (ha : PA X (x :: xs) (tEss X Φ wx es)) (hst : noStars (x :: xs) = true) : PE X (.Call (.Name n p) (x :: xs) [] pos) (tEs X Φ wx (.bif bf es)) := by
  obtain ⟨h1, h2⟩ := Bool.and_eq_true_iff.mp (show (noStar x && noStars xs) = true from hst)
  obtain ⟨r, hr, hk⟩ := bf_ok (X := X) S.calm S.gu S.un bf
  have hm := S.ab n ht
  subst hn
  have key : PE X (.Call (.Name (bname bf) p) (x :: xs) [] pos) (tCB r (tEss X Φ wx es)) := by
    have hv := bval_boot bf
    obtain ⟨n1, n2⟩ := bname_ok bf
    cases bf with
    | tuple => exact pe_callTy (T := "tuple") hr hg hm hv ha n1 n2 (star_of h1) (back_of h2)
    | list => exact pe_callTy (T := "list") hr hg hm hv ha n1 n2 (star_of h1) (back_of h2)
    | str => exact pe_callTy (T := "str") hr hg hm hv ha n1 n2 (star_of h1) (back_of h2)
    | _ => exact pe_callB hr hg hm hv ha n1 n2 (star_of h1) (back_of h2)
  refine PE.imp key fun σ H Q ⟨F, β, B, ρ, st, R, h⟩ => ?_
  unfold sem at h
  refine step_a R back_RR h fun ws st1 F1 vs H1 e1 R1 rv h => ?_
  obtain ⟨w, e, h⟩ := Post.ofO h
  obtain ⟨ds, h3, h4⟩ := Option.bind_eq_some_iff.mp e
  exact hk F1 β B st1 H1 _ _ Q vs ds w R1.st (RL.rdps R1.st rv h3) h4 h
theorem e_isi {t : Ty} {n m : Str} {p pn : Pos} (S : Side X Φ T wx) (hn : n = "isinstance") (ht : n ∈ T.ab) (hg : Gl X n) (hm : m = tyn t) (hmt : m ∈ T.ab) (hgm : Gl X m) (ha : PE X a (tEs X Φ wx ea)) (hst : noStar a = true) : PE X (.Call (.Name n p) [a, .Name m pn] [] pos) (tEs X Φ wx (.isi ea t)) := by
  have hmn := S.ab n ht
  have hmm := S.ab m hmt
  subst hn hm
  obtain ⟨n1, n2⟩ := tyn_ok t
  have hb : PE X (.Name (tyn t) pn) (tC (.ty (tyS t))) := pe_bltn hgm hmm (tyn_boot t) rfl n1 n2
  have key := pe_callB (pos := pos) (p := p) call_isi hg hmn (by first | rfl | kernel_rfl) (pa_cons ha (pa_cons hb pa_nil (by rfl)) (star_of hst)) (by decide +kernel) (by decide +kernel) (star_of hst) (by rfl)
  refine PE.imp key fun σ H Q ⟨F, β, B, ρ, st, R, h⟩ => ?_
  unfold sem at h
  refine step_e R back_RR h fun w st1 F1 v H1 e1 R1 rv h => ?_
  obtain ⟨d, z, h1, h2, h⟩ := rd1_of h
  obtain ⟨bb, h3, rfl⟩ := toB_of h2
  exact ⟨v, _, _, _, bb, rfl, .ty _, ok_cls (rv.1.rdp R1.st h1), kit_is X.K d t bb h3, fin_d R1.st h (.bl _)⟩
theorem e_join {apos : Pos} {nm : Str} (hnm : nm = "join") (ha : PE X a (tEs X Φ wx ea)) (hb : PE X b (tEs X Φ wx eb)) (hs : noStar b = true) (ho : plainO a = true) (hline : (apos.endLine == pos.line) = true) : PE X (.Call (.Attribute a nm apos) [b] [] pos) (tEs X Φ wx (.mth .join ea (.cons eb .nil))) := by
  subst hnm
  refine PE.imp (pe_join ha hb (by rw [star_of hs]; rfl) (attr_plain ho) hline) fun σ H Q ⟨F, β, B, ρ, st, R, h⟩ => ?_
  unfold sem sems sems at h
  simp only [Res.bind_assoc, Res.bind_ok] at h
  refine ⟨F, β, B, ρ, st, R, (Post.step back_RR h).imp fun v H1 ⟨w, st1, F1, e1, s1, rv, h⟩ => ?_⟩
  have R1 := R.ext e1 s1
  unfold ssel at h
  split at h
  · rename_i sep
    have hv := rv.1
    cases hv
    refine ⟨⟨sep, rfl⟩, ⟨F1, β, B, ρ, st1, R1, (Post.stepX h e1).imp fun y H2 ⟨u, st2, F2, e2, s2, ry, h⟩ => ?_⟩⟩
    obtain ⟨z, e, h⟩ := Post.ofO h
    obtain ⟨dl, h3, h4⟩ := Option.bind_eq_some_iff.mp e
    obtain ⟨dz, h5, h6⟩ := Option.bind_eq_some_iff.mp (show (u.rd st2).bind _ = some dl from h3)
    obtain ⟨dr, h7, rfl⟩ := Option.map_eq_some_iff.mp h6
    cases h7
    cases dz with
    | list ds =>
      obtain ⟨ys, h8, h9⟩ := Option.bind_eq_some_iff.mp (show (allS ds).bind _ = some z from h4)
      split at h9
      · rename_i hz
        cases h9
        obtain ⟨la, lvs, rfl, h10, h11⟩ := (ry.1.rdp s2 h5).list
        cases h11.strs h8
        exact ⟨sep, la, ys, rfl, rfl, .inl (.inl h10), hz, fin_d s2 (h.later back_RR (e1.trans e2)) (.str _)⟩
      · cases h9
    | _ => cases h4
  · exact h.elim
end
end Gm

/-! The deep layer, part E: what is walked, comprehensions. -/
namespace Gm
open PySem PySem.Spec PyProof.Rows L2
section
variable {X : Cx} {Φ : Phi} {T : Tb} {wx : WX} {K : PySem.W.Frag} {mg : Str → Option Value}
variable {a b c x tg l : Expr} {xs : List Expr} {ea eb ec : E} {es : Es} {pos : Pos}
/-! ### what is walked -/
def iSeq (K : PySem.W.Frag) (tl : TE) : TI := fun σ H R => tl σ H fun x H1 => (∃ a, x = .ref a ∧ (∃ xs, SqL K H1 a xs) ∧ R (Itl K a) H1) ∨ (∃ a, x = .ref a ∧ (∃ xs, SqT K H1 a xs) ∧ R (Itt K a) H1) ∨ ∃ y, x = .str y ∧ R (Its y) H1
theorem pi_seq {tl : TE} (hl : PE X l tl) : PI X tg l (iSeq X.K tl) := by
  refine ⟨fun pins s σ H R I h => ?_⟩
  refine thn (hl.run pins s σ H _ I h) fun v s1 ⟨x, H1, I1, r1, q1⟩ => ?_
  rcases q1 with ⟨a, e, ⟨xs, hq⟩, q⟩ | ⟨a, e, ⟨xs, hq⟩, q⟩ | ⟨y, e, q⟩
  · subst e
    cases r1
    obtain ⟨its, rv, p, hz⟩ := I1.list hq
    refine wpAny_pyIter_list p.isList ?_
    refine ⟨s1.heap.objs.size, [s1.heap.objs.size], _, _, H1, rfl, I1.kept (t' := s1.toks) fun b o e => Heap.get?_push_of_some _ e, turn_list a _, ⟨_, Heap.get?_push_size _ rfl, rfl, rfl⟩, fun b hb => ?_, q⟩
    have e : b = s1.heap.objs.size := by simpa using hb
    subst e
    exact I1.fpOk (Nat.le_refl _) (I1.hok.fresh (Nat.le_refl _))
  · subst e
    cases r1
    obtain ⟨its, rv, p, hz⟩ := I1.tuple hq
    refine wpAny_pyIter_tuple (show s1.heap.IsTuple a its.toArray from p) ?_
    refine ⟨s1.heap.objs.size, [s1.heap.objs.size], _, _, H1, rfl, I1.kept (t' := s1.toks) fun b o e => Heap.get?_push_of_some _ e, turn_tuple a _, ⟨_, Heap.get?_push_size _ rfl, rfl, rfl⟩, fun b hb => ?_, q⟩
    have e : b = s1.heap.objs.size := by simpa using hb
    subst e
    exact I1.fpOk (Nat.le_refl _) (I1.hok.fresh (Nat.le_refl _))
  · subst e
    obtain ⟨t, rfl⟩ := r1
    have one : ∀ ty, (ty = "str_ascii_iterator" ∨ ty = "str_iterator") → _ := fun ty h => turn_str (P := X.prog) (w := X.w) (K := X.K) (tg := tg) s1.heap.objs.size y t ty h
    cases ha : y.cps.all (· < 128) with
    | false => exact wpAny_pyIter_wide ha (pi_one (tk := s1.toks) I1 _ (one _ (.inr rfl)) ⟨_, Heap.get?_push_size _ rfl, rfl, rfl⟩ q)
    | true => exact wpAny_pyIter_ascii ha (pi_one (tk := s1.toks) I1 _ (one _ (.inl rfl)) ⟨_, Heap.get?_push_size _ rfl, rfl, rfl⟩ q)
theorem PI.imp {t t' : TI} (h : PI X tg l t) (i : ∀ σ H Q, t' σ H Q → t σ H Q) : PI X tg l t' := ⟨fun pins s σ H Q I q => h.run pins s σ H Q I (i σ H Q q)⟩
def WalkAt (J : L2.It) (vs : List V) (H : Hp) : Prop := ∀ i, (i < vs.length → J.go i H ∧ ∀ x H', J.yld i H x H' → H' = H ∧ vs[i]? = some x) ∧ (vs.length ≤ i → J.stop i H)
theorem walk_l {a : Addr} {vs : List V} {H : Hp} (h : SqL K H a vs) : WalkAt (Itl K a) vs H := fun i =>
  ⟨fun hi => ⟨⟨vs, vs[i], h, List.getElem?_eq_getElem hi⟩, fun x H' ⟨e1, e2⟩ => ⟨e1, e2 vs h⟩⟩, fun hi => ⟨vs, h, hi⟩⟩
theorem walk_t {a : Addr} {vs : List V} {H : Hp} (h : SqT K H a vs) : WalkAt (Itt K a) vs H := fun i =>
  ⟨fun hi => ⟨⟨vs, vs[i], h, List.getElem?_eq_getElem hi⟩, fun x H' ⟨e1, e2⟩ => ⟨e1, e2 vs h⟩⟩, fun hi => ⟨vs, h, hi⟩⟩
theorem walk_s {y : Str} {H : Hp} : WalkAt (Its y) (y.cps.toList.map fun c => V.str ⟨#[c]⟩) H := fun i =>
  ⟨fun hi => ⟨(show i < y.cps.size by simpa using hi), fun x H' ⟨e1, c, e2, e3⟩ => ⟨e1, by subst e3; rw [List.getElem?_map, Array.getElem?_toList, e2]; rfl⟩⟩, fun hi => (show y.cps.size ≤ i by simpa using hi)⟩
theorem rp_strs {F : Addr → Prop} {H : Hp} : ∀ l : List Nat, RpAll K F H (l.map fun c => V.str ⟨#[c]⟩) (l.map fun c => PyData.str ⟨#[c]⟩)
  | [] => .nil
  | c :: l => .cons (.str _) (rp_strs l)
theorem walk_r {lo : Int} {n : Nat} {H : Hp} : WalkAt (Itr lo n) ((List.range n).map fun i => V.int (lo + (i : Nat))) H := fun i =>
  ⟨fun hi => ⟨(show i < n by simpa using hi), fun x H' ⟨e1, e2⟩ => ⟨e1, by subst e2; simp at hi; simp [hi]⟩⟩, fun hi => (show n ≤ i by simpa using hi)⟩
/-- .. in a comprehension: as long as what is there, the cells apart, is kept -/
def RI (K : PySem.W.Frag) (β : List Addr) (_ : Hp) (F' : Addr → Prop) (H' : Hp) (J : L2.It) (xs : List PyData) : Prop := ∃ vs, RpAll K F' H' vs xs ∧ ∀ H2 : Hp, (∀ a, a ∉ β → H' a ≠ none → H2 a = H' a) → WalkAt J vs H2
theorem back_RI {β : List Addr} : Back β (RI K β) := fun _ _ _ _ _ _ _ _ _ h => h
abbrev RepI := List Addr → Bs → Hp → (Addr → Prop) → Hp → L2.It → List PyData → Prop
def tIr (rep : RepI) (K : PySem.W.Frag) (mg : Str → Option Value) (wx : WX) (f : Rho → Stt → Res (List PyData)) : TI := fun σ H Q => ∃ F β B ρ st, RelE K F β B ρ st σ H ∧ Post K mg β B (rep β B) F H (fun c d H' => wx c d σ H') (f ρ st) Q
abbrev tI (K : PySem.W.Frag) (mg : Str → Option Value) (wx : WX) (f : Rho → Stt → Res (List PyData)) : TI := tIr (fun β _ => RI K β) K mg wx f
theorem rpv_list {F : Addr → Prop} {β : List Addr} {B : Bs} {H : Hp} {st : Stt} {v : V} {w : W} {ds : List PyData} (s : StOk K F β B H st) (h : RepV K F β B H v w) (hl : ∀ n, w ≠ .loc n) (e : w.rd st = some (.list ds)) : ∃ a vs, v = .ref a ∧ Rd H a (.lst vs) ∧ RpAll K F H vs ds ∧ a ∉ β := by
  have key : ∀ {c : C} {a : Addr}, RepC K F H a c → c.dat = .list ds → ∃ vs, Rd H a (.lst vs) ∧ RpAll K F H vs ds := fun {c a} h e => by
    cases c with
    | lst xs => cases e; obtain ⟨vs, h1, h2⟩ := h; exact ⟨vs, .inl h1, h2⟩
  cases w with
  | d y =>
    cases e
    cases h with
    | lst h1 h2 ha => exact ⟨_, _, rfl, h1, ha, fun hm => s.nf _ hm h2⟩
  | new c => obtain ⟨a, rfl, h2, h3, _⟩ := h; obtain ⟨vs, g1, g2⟩ := key h2 (Option.some.inj e); exact ⟨a, vs, rfl, g1, g2, h3⟩
  | bor c => obtain ⟨a, rfl, h2, h3⟩ := h; obtain ⟨vs, g1, g2⟩ := key h2 (Option.some.inj e); exact ⟨a, vs, rfl, g1, g2, (s.ob a (.inl h3)).1⟩
  | lent c => obtain ⟨a, rfl, h2, h3⟩ := h; obtain ⟨vs, g1, g2⟩ := key h2 (Option.some.inj e); exact ⟨a, vs, rfl, g1, g2, (s.ob a (.inr h3)).1⟩
  | own c => cases e
  | loc n => exact absurd rfl (hl n)
theorem sqt_keep {F : Addr → Prop} {β : List Addr} {B : Bs} {H H2 : Hp} {st : Stt} {a : Addr} {vs : List V} (s : StOk K F β B H st) (h : SqT K H a vs) (k : ∀ a, a ∉ β → H a ≠ none → H2 a = H a) : SqT K H2 a vs := by
  rcases h with h | h
  · exact .inl (rd_eq h (k a (fun hm => let ⟨c, hc⟩ := s.mem hm; hc.noTup _ h) (rd_there h)))
  · exact .inr h
theorem i_of (ha : PE X a (tEs X Φ wx ea)) : PI X tg a (tI X.K X.mg wx (semI Φ (.of ea))) := by
  refine PI.imp (pi_seq ha) fun σ H Q ⟨F, β, B, ρ, st, R, h⟩ => ?_
  unfold semI at h
  refine step_e R back_RI h fun w st1 F1 v H1 e1 R1 rv h => ?_
  have h : (∀ n, w ≠ .loc n) ∧ Post X.K X.mg β B (RI X.K β) F1 H1 (fun c d H' => wx c d σ H') (Res.ofO st1 ((w.rd st1).bind itemsD)) Q := by
    refine ⟨fun n e => ?_, ?_⟩
    · subst e; exact h.elim
    · cases w <;> first | exact h.elim | exact h
  obtain ⟨hl, h⟩ := h
  obtain ⟨ds, e, h⟩ := Post.ofO h
  obtain ⟨d, h1, h2⟩ := Option.bind_eq_some_iff.mp e
  cases d with
  | list xs =>
    cases h2
    obtain ⟨a, vs, rfl, g1, g2, g3⟩ := rpv_list R1.st rv.1 hl h1
    refine .inl ⟨a, rfl, ⟨vs, .inl g1⟩, Post.done h R1.st ⟨vs, g2, fun H2 k => ?_⟩⟩
    have g1' := rd_eq g1 (k a g3 (rd_there g1))
    exact fun i => ⟨fun hi => ⟨⟨vs, vs[i], .inl g1', List.getElem?_eq_getElem hi⟩, fun x H' ⟨e1, e2⟩ => ⟨e1, e2 vs (.inl g1')⟩⟩, fun hi => ⟨vs, .inl g1', hi⟩⟩
  | tuple xs =>
    cases h2
    obtain ⟨a, vs, rfl, g1, g2⟩ := (rv.1.rdp R1.st h1).tuple
    exact .inr (.inl ⟨a, rfl, ⟨vs, g1⟩, Post.done h R1.st ⟨vs, g2, fun H2 k => walk_t (sqt_keep R1.st g1 k)⟩⟩)
  | str y =>
    cases h2
    exact .inr (.inr ⟨y, (rv.1.rdp R1.st h1).str, Post.done h R1.st ⟨_, rp_strs _, fun H2 _ => walk_s⟩⟩)
  | _ => cases h2
theorem post_one {β : List Addr} {B : Bs} {F : Addr → Prop} {H : Hp} {wx' : Value → Option Addr → Hp → Prop} {r : Res W} {Q : VK} {P : List V → Hp → Prop} (h : Post K mg β B (RR K β B) F H wx' r Q) (g : ∀ v H1, Q v H1 → P [v] H1) : Post K mg β B (RL K β B) F H wx' (r.bind fun w s => .ok [w] s) P := by
  cases r with
  | bad => exact h
  | ex x s => exact h
  | ok w s =>
    intro vs F' H' e st q
    cases q with
    | cons q1 q2 =>
      cases q2
      exact g _ _ (h _ F' H' e st q1)
theorem sems_one {ρ : Rho} {st : Stt} : sems Φ (.cons ea .nil) ρ st = (sem Φ ea ρ st).bind fun w s => .ok [w] s := by
  rw [sems]
  congr 1
theorem rngOk_of {i : Int} (h : rngOk i = true) : -(2 ^ 62) ≤ i ∧ i < 2 ^ 62 := by
  unfold rngOk at h
  simp only [Bool.and_eq_true, decide_eq_true_eq] at h
  omega
theorem int_of {F : Addr → Prop} {β : List Addr} {B : Bs} {H : Hp} {st : Stt} {v : V} {w : W} {d : PyData} {i : Int} (s : StOk K F β B H st) (h : RepV K F β B H v w) (e : w.rd st = some d) (e2 : intOf d = some i) : v = .int i := by
  unfold intOf at e2
  split at e2
  · cases e2; exact (h.rdp s e).int
  · cases e2
theorem rp_range {F : Addr → Prop} {H : Hp} {lo : Int} : ∀ l : List Nat, RpAll K F H (l.map fun i => V.int (lo + (i : Nat))) (l.map fun i => PyData.int (lo + (i : Nat)))
  | [] => .nil
  | i :: l => .cons (.int _) (rp_range l)
theorem i_rng {rep : RepI} (hb' : ∀ β B, Back β (rep β B)) (hr : ∀ β B F' H0 H' J vs xs, RpAll X.K F' H' vs xs → (∀ H2, WalkAt J vs H2) → rep β B H0 F' H' J xs) {p : Pos} {n : Str} (hn : n = "range") (S : Side X Φ T wx) (ht : n ∈ T.ab) (hg : Gl X n) (ha : PE X a (tEs X Φ wx ea)) (hs : noStar a = true) : PI X tg (.Call (.Name n p) [a] [] pos) (tIr rep X.K X.mg wx (semI Φ (.rng ea))) := by
  have hm := S.ab n ht
  subst hn
  refine PI.imp (pi_range1 hg hm (a_cons ha a_nil hs) (by rw [star_of hs]; rfl)) fun σ H Q ⟨F, β, B, ρ, st, R, h⟩ => ?_
  unfold semI at h
  refine ⟨F, β, B, ρ, st, R, ?_⟩
  rw [sems_one]
  refine post_one (gen_step R (hb' β B) h fun w st1 F1 v H1 e1 R1 rv h => ?_) fun v H1 (q : ∃ j : Int, v = .int j ∧ -(2 ^ 62) ≤ j ∧ j < 2 ^ 62 ∧ Q (Itr 0 j.toNat) H1) => let ⟨j, e, q⟩ := q; ⟨j, by rw [e], q⟩
  obtain ⟨ds, e, h⟩ := Post.ofO h
  obtain ⟨d, h1, h2⟩ := Option.bind_eq_some_iff.mp e
  obtain ⟨i, h3, h4⟩ := Option.bind_eq_some_iff.mp h2
  split at h4
  · rename_i hz
    cases h4
    obtain ⟨z1, z2⟩ := rngOk_of hz
    refine ⟨i, int_of R1.st rv.1 h1 h3, z1, z2, Post.done h R1.st (hr _ _ _ _ _ _ _ _ ?_ fun H2 => walk_r)⟩
    have := rp_range (K := X.K) (F := F1) (H := H1) (lo := 0) (List.range i.toNat)
    unfold rngL
    rw [Int.sub_zero]
    exact this
  · cases h4
theorem i_rng2 {rep : RepI} (hb' : ∀ β B, Back β (rep β B)) (hr : ∀ β B F' H0 H' J vs xs, RpAll X.K F' H' vs xs → (∀ H2, WalkAt J vs H2) → rep β B H0 F' H' J xs) {p : Pos} {n : Str} (hn : n = "range") (S : Side X Φ T wx) (ht : n ∈ T.ab) (hg : Gl X n) (ha : PE X a (tEs X Φ wx ea)) (hs : noStar a = true) (hb : PE X b (tEs X Φ wx eb)) (hs2 : noStar b = true) : PI X tg (.Call (.Name n p) [a, b] [] pos) (tIr rep X.K X.mg wx (semI Φ (.rng2 ea eb))) := by
  have hm := S.ab n ht
  subst hn
  refine PI.imp (pi_range2 hg hm (a_cons ha (a_cons hb a_nil hs2) hs) (by rw [star_of hs, star_of hs2]; rfl) (by rw [star_of hs2]; rfl)) fun σ H Q ⟨F, β, B, ρ, st, R, h⟩ => ?_
  unfold semI at h
  refine ⟨F, β, B, ρ, st, R, ?_⟩
  rw [sems]
  simp only [sems_one, Res.bind_assoc, Res.bind_ok]
  cases q1 : sem Φ ea ρ st with
  | bad => rw [q1] at h; exact h
  | ex x s => rw [q1] at h; exact h
  | ok w s1 =>
    rw [q1] at h
    simp only [Res.bind_ok] at h ⊢
    cases q2 : sem Φ eb ρ s1 with
    | bad => rw [q2] at h; exact h
    | ex x s => rw [q2] at h; exact h
    | ok u s2 =>
      rw [q2] at h
      simp only [Res.bind_ok] at h ⊢
      intro vs F1 H1 e1 st1 q
      cases q with
      | cons r1 q => cases q with
        | cons r2 q =>
          cases q
          obtain ⟨ds, e, h⟩ := Post.ofO h
          obtain ⟨d, h1, h2⟩ := Option.bind_eq_some_iff.mp e
          obtain ⟨d', h1', h2⟩ := Option.bind_eq_some_iff.mp h2
          obtain ⟨i, h3, h4⟩ := Option.bind_eq_some_iff.mp h2
          obtain ⟨j, h3', h4⟩ := Option.bind_eq_some_iff.mp h4
          split at h4
          · rename_i hz
            cases h4
            obtain ⟨y1, y2⟩ := Bool.and_eq_true_iff.mp hz
            obtain ⟨z1, z2⟩ := rngOk_of y1
            obtain ⟨z3, z4⟩ := rngOk_of y2
            refine ⟨i, j, by rw [int_of st1 r1.1 h1 h3, int_of st1 r2.1 h1' h3'], ⟨z1, z2, z3, z4⟩, Post.doneX h e1 st1 (hr _ _ _ _ _ _ _ _ ?_ fun H2 => walk_r)⟩
            exact rp_range (K := X.K) (F := F1) (H := H1) (lo := i) (List.range (j - i).toNat)
          · cases h4
end
end Gm

/-! The deep layer, part E2: list comprehensions. -/
namespace Gm
open PySem PySem.Spec PyProof.Rows L2
section
variable {X : Cx} {Φ : Phi} {T : Tb} {wx : WX} {K : PySem.W.Frag} {mg : Str → Option Value}
variable {a b c x tg l : Expr} {xs : List Expr} {ea eb ec : E} {es : Es} {pos : Pos}
variable {F F' : Addr → Prop} {β : List Addr} {B : Bs} {H H' : Hp} {st : Stt} {ρ : Rho} {σ : L2.St}
/-! ### slots -/
theorem wipe_in {i : Nat} : ∀ {vs : List Nat}, i ∈ vs → i < σ.length → (wipe σ vs)[i]? = some none
  | v :: vs, h, hl => by
    unfold wipe
    by_cases e : v = i
    · subst e
      rw [List.getElem?_set_self (by rw [wipe_length]; exact hl)]
    · rw [List.getElem?_set_ne e]
      exact wipe_in ((List.mem_cons.mp h).elim (fun z => absurd z.symm e) id) hl
theorem wipe_eq {σ σ' : L2.St} {vs : List Nat} (hl : σ.length = σ'.length) (h : ∀ i, i ∉ vs → σ[i]? = σ'[i]?) : wipe σ vs = wipe σ' vs := by
  apply List.ext_getElem?
  intro i
  by_cases hi : i ∈ vs
  · by_cases hlt : i < σ.length
    · rw [wipe_in hi hlt, wipe_in hi (by omega)]
    · rw [List.getElem?_eq_none (by rw [wipe_length]; omega), List.getElem?_eq_none (by rw [wipe_length]; omega)]
  · rw [wipe_out hi, wipe_out hi, h i hi]
theorem wipeR_len : ∀ vs : List Nat, (wipeR ρ vs).length = ρ.length
  | [] => rfl
  | v :: vs => by unfold wipeR; rw [List.length_set, wipeR_len vs]
theorem wipeR_some {i : Nat} {x : W} : ∀ {vs : List Nat}, (wipeR ρ vs)[i]? = some (some x) → ρ[i]? = some (some x) ∧ i ∉ vs
  | [], h => ⟨h, by simp⟩
  | v :: vs, h => by
    unfold wipeR at h
    by_cases hi : v = i
    · subst hi
      by_cases hv : v < (wipeR ρ vs).length
      · rw [List.getElem?_set_self hv] at h; cases h
      · rw [List.getElem?_eq_none (by simpa using hv)] at h; cases h
    · rw [List.getElem?_set_ne hi] at h
      obtain ⟨h1, h2⟩ := wipeR_some h
      exact ⟨h1, by simp only [List.mem_cons, not_or]; exact ⟨fun e => hi e.symm, h2⟩⟩
theorem RelE.wipe (R : RelE K F β B ρ st σ H) (vs : List Nat) : RelE K F β B (wipeR ρ vs) st (wipe σ vs) H where
  len := by rw [wipeR_len, wipe_length]; exact R.len
  slot := fun i w h => by
    obtain ⟨h1, h2⟩ := wipeR_some h
    rw [wipe_out h2]
    exact R.slot i w h1
  rest := fun i w h => R.rest i w (wipeR_some h).1
  apart := fun i j c c' a h1 h2 h3 h4 => by
    obtain ⟨g1, g2⟩ := wipeR_some h1
    obtain ⟨g3, g4⟩ := wipeR_some h3
    rw [wipe_out g2] at h2
    rw [wipe_out g4] at h4
    exact R.apart i j c c' a g1 h2 g3 h4
  st := R.st
/-- a slot is set, not to an own object -/
theorem RelE.set (R : RelE K F β B ρ st σ H) {i : Nat} {w : W} {v : V} (hv : RepV K F β B H v w) (h1 : ∀ c, w ≠ .new c) (h2 : ∀ c, w ≠ .lent c) (h3 : ∀ c, w ≠ .own c) : RelE K F β B (ρ.set i (some w)) st (σ.set i (some v)) H where
  len := by rw [List.length_set, List.length_set]; exact R.len
  slot := fun j u h => by
    by_cases e : i = j
    · subst e
      have hl : i < ρ.length := by
        by_cases hl : i < ρ.length
        · exact hl
        · rw [List.getElem?_eq_none (by rw [List.length_set]; omega)] at h; cases h
      rw [List.getElem?_set_self hl] at h
      cases h
      exact ⟨v, by rw [List.getElem?_set_self (by rw [← R.len]; exact hl)], hv⟩
    · rw [List.getElem?_set_ne e] at h ⊢
      exact R.slot j u h
  rest := fun j u h => by
    by_cases e : i = j
    · subst e
      have hl : i < ρ.length := by
        by_cases hl : i < ρ.length
        · exact hl
        · rw [List.getElem?_eq_none (by rw [List.length_set]; omega)] at h; cases h
      rw [List.getElem?_set_self hl] at h
      cases h
      exact ⟨h1, h2⟩
    · rw [List.getElem?_set_ne e] at h
      exact R.rest j u h
  apart := fun j k c c' a g1 g2 g3 g4 => by
    have nj : i ≠ j := fun e => by
      subst e
      have hl : i < ρ.length := by
        by_cases hl : i < ρ.length
        · exact hl
        · rw [List.getElem?_eq_none (by rw [List.length_set]; omega)] at g1; cases g1
      rw [List.getElem?_set_self hl] at g1
      cases g1
      exact h3 c rfl
    have nk : i ≠ k := fun e => by
      subst e
      have hl : i < ρ.length := by
        by_cases hl : i < ρ.length
        · exact hl
        · rw [List.getElem?_eq_none (by rw [List.length_set]; omega)] at g3; cases g3
      rw [List.getElem?_set_self hl] at g3
      cases g3
      exact h3 c' rfl
    rw [List.getElem?_set_ne nj] at g1 g2
    rw [List.getElem?_set_ne nk] at g3 g4
    exact R.apart j k c c' a g1 g2 g3 g4
  st := R.st
theorem RelE.setD (R : RelE K F β B ρ st σ H) {i : Nat} {x : PyData} {v : V} (hv : Rp K F H v x) : RelE K F β B (ρ.set i (some (.d x))) st (σ.set i (some v)) H := R.set (w := .d x) hv (fun _ e => nomatch e) (fun _ e => nomatch e) fun _ e => nomatch e
/-! ### targets -/
def gNames : List Nat → TGs
  | [] => gNil
  | i :: r => gCons (gName i) (gNames r)
def gT (K : PySem.W.Frag) : Gm.T → TG
  | .nm i => gName i
  | .tp is => gTup K is.length (gNames is)
def tgs : Gm.T → List Nat
  | .nm i => [i]
  | .tp is => is
theorem gNames_ok {P : L2.St → Hp → Prop} : ∀ {is : List Nat} {vs : List V} {ds : List PyData} {ρ : Rho} {σ : L2.St}, RelE K F β B ρ st σ H → RpAll K F H vs ds → ds.length = is.length →
    (∀ σ2, RelE K F β B ((is.zip ds).foldl (fun r p => r.set p.1 (some (.d p.2))) ρ) st σ2 H → σ2.length = σ.length → (∀ i, i ∉ is → σ2[i]? = σ[i]?) → P σ2 H) → gNames is vs σ H P
  | [], vs, ds, ρ, σ, R, ra, hl, k => by
    cases ra with
    | nil => exact ⟨rfl, k σ R rfl fun _ _ => rfl⟩
    | cons _ _ => cases hl
  | i :: is, vs, ds, ρ, σ, R, ra, hl, k => by
    cases ra with
    | nil => cases hl
    | cons r1 r2 =>
      refine ⟨_, _, rfl, gNames_ok (R.setD (i := i) r1) r2 (by simpa using hl) fun σ2 R2 h1 h2 => k σ2 R2 (by rw [h1, List.length_set]) fun j hj => ?_⟩
      rw [h2 j fun z => hj (List.mem_cons_of_mem _ z), List.getElem?_set_ne fun e => hj (by rw [e]; exact List.mem_cons_self)]
theorem gT_ok {P : L2.St → Hp → Prop} {t : Gm.T} {v : V} {d : PyData} {ρ2 : Rho} (R : RelE K F β B ρ st σ H) (rv : Rp K F H v d) (e : setT t d ρ = some ρ2)
    (k : ∀ σ2, RelE K F β B ρ2 st σ2 H → σ2.length = σ.length → (∀ i, i ∉ tgs t → σ2[i]? = σ[i]?) → P σ2 H) : gT K t v σ H P := by
  cases t with
  | nm i =>
    cases (show some (ρ.set i (some (.d d))) = some ρ2 from e)
    refine k _ (R.setD rv) (by rw [List.length_set]) fun j hj => ?_
    rw [List.getElem?_set_ne fun e => hj (by rw [e]; exact List.mem_cons_self)]
  | tp is =>
    cases d with
    | tuple xs =>
      have e' : (if xs.length = is.length then some ((is.zip xs).foldl (fun r p => r.set p.1 (some (.d p.2))) ρ) else none) = some ρ2 := e
      split at e'
      · rename_i hl
        cases e'
        cases rv with
        | tup h1 h2 => exact ⟨_, _, rfl, h1, by rw [h2.length]; exact hl, gNames_ok R h2 hl k⟩
      · cases e'
    | _ => cases e
/-! ### the new list stands apart -/
theorem kp_out {D : Addr} {xs : List V} {o : HO} (hD : H D = some (.lst xs)) (hF : ¬ F D) : Kp F H F (upd H D o) where
  sub := fun _ h => h
  tup := fun a ys h => rd_eq h (upd_ne fun e => by subst e; rcases h with h | ⟨o, h⟩ <;> (rw [hD] at h; cases h))
  lst := fun a ys hf h => rd_eq h (upd_ne fun e => hF (e ▸ hf))
theorem StOk.out (s : StOk K F β B H st) {D : Addr} {xs : List V} {o : HO} (hD : H D = some (.lst xs)) (hF : ¬ F D) (hb : D ∉ β) (hu : ¬ B.u D) : StOk K F β B (upd H D o) st where
  len := s.len
  nd := s.nd
  nf := s.nf
  ob := fun a h => by
    have hne : a ≠ D := fun e => hu (e ▸ h)
    rw [upd_ne hne]
    exact s.ob a h
  ft := fun a h => by
    have hne : a ≠ D := fun e => hF (e ▸ h)
    rw [upd_ne hne]
    exact s.ft a h
  at_ := fun n a c e1 e2 => (s.at_ n a c e1 e2).keep (kp_out hD hF) (upd_ne fun e => hb (e ▸ List.mem_of_getElem? e1))
/-- no exception -/
abbrev wxF : WX := fun _ _ _ _ => False
theorem compL_cons {f : PyData → Stt → Res (Option PyData)} {d : PyData} {r : List PyData} {st s2 : Stt} {ys : List PyData} (h : compL f (d :: r) st = .ok ys s2) : ∃ o s1 zs, f d st = .ok o s1 ∧ compL f r s1 = .ok zs s2 ∧ ys = (match o with | some y => y :: zs | none => zs) := by
  unfold compL at h
  cases q : f d st with
  | bad => rw [q] at h; cases h
  | ex x s => rw [q] at h; cases h
  | ok o s1 =>
    rw [q] at h
    simp only [Res.bind_ok] at h
    cases q2 : compL f r s1 with
    | bad => rw [q2] at h; cases h
    | ex x s => rw [q2] at h; cases h
    | ok zs s3 =>
      rw [q2] at h
      simp only [Res.bind_ok] at h
      cases h
      exact ⟨o, s1, zs, rfl, q2, rfl⟩
theorem bind_ok_inv {α β' : Type} {r : Res α} {k : α → Stt → Res β'} {y : β'} {s : Stt} (h : r.bind k = .ok y s) : ∃ x s1, r = .ok x s1 ∧ k x s1 = .ok y s := by
  cases r with
  | bad => cases h
  | ex x s => cases h
  | ok x s1 => exact ⟨x, s1, rfl, h⟩
theorem ofO_ok_inv {α : Type} {o : Option α} {st s : Stt} {y : α} (h : Res.ofO st o = .ok y s) : o = some y ∧ s = st := by
  cases o with
  | none => cases h
  | some z => cases h; exact ⟨rfl, rfl⟩
theorem lc_ok {it : It} {t : Gm.T} {cs : Es} {own : List Nat} {elt : E} {tt : TT} (hown : ∀ i ∈ tgs t, i ∈ own) (ht : ∀ σ H Q, tT K mg wxF (semCs Φ cs) σ H Q → tt σ H Q) {Q : VK} (h : tE K mg wx (sem Φ (.lc elt t it cs own)) σ H Q) : tLc (tI K mg wx (semI Φ it)) (gT K t) tt (tE K mg wxF (sem Φ elt)) own σ H Q := by
  obtain ⟨F, β, B, ρ, st, R, h⟩ := h
  unfold sem at h
  refine ⟨F, β, B, ρ, st, R, (Post.step back_RR h).imp fun J H1 ⟨xs, st1, F1, e1, s1, ⟨vs, ra, wk⟩, h⟩ D hD => ?_⟩
  have R1 := R.ext e1 s1
  generalize hf : (fun (x : PyData) (s : Stt) => (Res.ofO s (setT t x (wipeR ρ own))).bind fun ρ1 s => (semCs Φ cs ρ1 s).bind fun b s => if b = true then (sem Φ elt ρ1 s).bind fun w s => (Res.ofO s w.py).bind fun y s => .ok (some y) s else .ok none s) = f at h
  cases hc : compL f xs st1 with
  | bad => rw [hc] at h; exact h.elim
  | ex x s => rw [hc] at h; exact h.elim
  | ok ys s2 =>
    rw [hc] at h
    simp only [Res.nox_ok, Res.bind_ok] at h
    split at h
    · rename_i hz
      have hDb : D ∉ β := s1.noB hD
      have hDu : ¬ B.u D := fun hu => (s1.ob D hu).2.2 hD
      have hlen := ra.length
      refine ⟨fun i m H' => m = xs.length - i ∧ i ≤ xs.length ∧ ∃ F' st' acc ds zs, Ext F1 β H1 F' H' ∧ StOk K F' β B H' st' ∧ H' D = some (.lst acc) ∧ RpAll K F' H' acc ds ∧ ¬ F' D ∧ compL f (xs.drop i) st' = .ok zs s2 ∧ ds ++ zs = ys,
        ⟨_, rfl, Nat.zero_le _, F1, st1, [], [], ys, Ext.laid hD, s1.laid hD, upd_same, .nil, fun hF => s1.ft D hF hD, by rw [List.drop_zero]; exact hc, rfl⟩, ?_⟩
      rintro i m H' ⟨rfl, hi, F', st', acc, ds, zs, e', s', hD', rd, hFD, hcc, hys⟩
      have wk' := wk H' e'.un i
      by_cases hlt : i < xs.length
      · obtain ⟨go, yl⟩ := wk'.1 (by omega)
        refine .inr ⟨go, fun H'' => i + 1 ≤ xs.length ∧ ∃ F' st' acc ds zs, Ext F1 β H1 F' H'' ∧ StOk K F' β B H'' st' ∧ H'' D = some (.lst acc) ∧ RpAll K F' H'' acc ds ∧ ¬ F' D ∧ compL f (xs.drop (i + 1)) st' = .ok zs s2 ∧ ds ++ zs = ys,
          fun H'' q => ⟨xs.length - (i + 1), by omega, rfl, q⟩, fun x Hx hx => ?_⟩
        obtain ⟨rfl, hvx⟩ := yl x Hx hx
        obtain ⟨d, hd, rx⟩ := ra.get' hvx
        have hdrop : xs.drop i = d :: xs.drop (i + 1) := by
          obtain ⟨hl', hd'⟩ := List.getElem?_eq_some_iff.mp hd
          rw [← hd']
          exact (List.drop_eq_getElem_cons hl')
        rw [hdrop] at hcc
        obtain ⟨o, st3, zs', hfd, hcc2, hzs⟩ := compL_cons hcc
        rw [← hf] at hfd
        simp only at hfd
        obtain ⟨ρ1, sa, q1, hfd2⟩ := bind_ok_inv hfd
        obtain ⟨q1x, q1y⟩ := ofO_ok_inv q1
        subst q1y
        obtain ⟨bb, sb, q2, hfd3⟩ := bind_ok_inv hfd2
        have RX : RelE K F' β B ρ sa σ Hx := R1.ext e' s'
        have rx' : Rp K F' Hx x d := Rp.keep (e'.kp s1) _ _ rx
        refine gT_ok (RX.wipe own) rx' q1x fun σ2 R2 hl2 h2 => ⟨?_, ?_⟩
        · rw [wipe_eq (σ := σ2) (σ' := wipe σ own) hl2 fun j hj => h2 j fun z => hj (hown j z)]
          exact wipe_eq (wipe_length _ _) fun j hj => wipe_out hj
        · refine ht _ _ _ ⟨F', β, B, ρ1, sa, R2, ?_⟩
          rw [q2]
          intro b' F3 H3 e3 s3 hb
          cases hb
          have R3 := R2.ext e3 s3
          have hx : Hx D ≠ none := by rw [hD']; exact fun z => nomatch z
          have hFD3 : ¬ F3 D := fun hF => (e3.new D hF).elim hFD fun z => hx z.2
          have hD3 : H3 D = some (.lst acc) := by rw [e3.un D hDb hx]; exact hD'
          cases bb with
          | false =>
            simp only [Bool.false_eq_true, if_false] at hfd3 ⊢
            cases hfd3
            subst hzs
            exact ⟨hlt, F3, _, acc, ds, _, e'.trans e3, s3, hD3, RpAll.keep (e3.kp s') _ _ rd, hFD3, hcc2, hys⟩
          | true =>
            simp only [if_true] at hfd3 ⊢
            obtain ⟨w, sc, q3, hfd4⟩ := bind_ok_inv hfd3
            obtain ⟨y, sd, q4, hfd5⟩ := bind_ok_inv hfd4
            obtain ⟨q4x, q4y⟩ := ofO_ok_inv q4
            subst q4y
            cases hfd5
            subst hzs
            refine ⟨F3, β, B, ρ1, sb, R3, ?_⟩
            rw [q3]
            intro yv F4 H4 e4 s4 ry
            have hx3 : H3 D ≠ none := by rw [hD3]; exact fun z => nomatch z
            have hD4 : H4 D = some (.lst acc) := by rw [e4.un D hDb hx3]; exact hD3
            have ez := frz_ext e4
            have sz := frz_st (hB_of R3) s4
            have hFD5 : ¬ frzF F4 β H3 H4 D := fun hF => (ez.new D hF).elim hFD3 fun z => hx3 z.2
            have rp := ry.py q4x
            have kd := kp_out (o := .lst (acc ++ [yv])) hD4 hFD5
            have rd3 : RpAll K F3 H3 acc ds := RpAll.keep (e3.kp s') _ _ rd
            have ra4 : RpAll K (frzF F4 β H3 H4) H4 acc ds := RpAll.keep (ez.kp s3) _ _ rd3
            have hle : ds.length < lineN := by
              have : (ds ++ y :: zs').length ≤ lineN := by rw [hys]; exact hz
              simp at this
              omega
            refine ⟨acc, hD4, by rw [ra4.length]; exact hle, hlt, frzF F4 β H3 H4, _, acc ++ [yv], ds ++ [y], zs', ?_, sz.out hD4 hFD5 hDb hDu, upd_same, RpAll.keep kd _ _ (ra4.append (.cons rp .nil)), hFD5, hcc2, by rw [List.append_assoc]; exact hys⟩
            have ee := (e'.trans e3).trans ez
            refine ⟨ee.sub, ee.new, fun a h1 h2 => ?_⟩
            have hne : a ≠ D := fun e => by rw [e] at h2; exact h2 hD
            rw [upd_ne hne]
            exact ee.un a h1 h2
      · have hie : i = xs.length := by omega
        subst hie
        refine .inl ⟨wk'.2 (by omega), ?_⟩
        rw [List.drop_length] at hcc
        unfold compL at hcc
        cases hcc
        rw [List.append_nil] at hys
        subst hys
        refine Post.doneX h (e1.trans e') s' ⟨⟨D, rfl, ⟨acc, hD', rd⟩, hDb, hFD⟩, fun a ea => ?_⟩
        cases ea
        exact e1.none_back hDb hD
    · exact h.elim
end
end Gm

/-! The deep layer, part F: the checker of expressions; it is right. -/
namespace Gm
open PySem PySem.Spec PyProof.Rows L2
mutual
def eqP : PyData → PyData → Bool
  | .none, y => match y with | .none => true | _ => false
  | .bool a, y => match y with | .bool b => a == b | _ => false
  | .int a, y => match y with | .int b => a == b | _ => false
  | .str a, y => match y with | .str b => a == b | _ => false
  | .list xs, y => match y with | .list ys => eqPs xs ys | _ => false
  | .tuple xs, y => match y with | .tuple ys => eqPs xs ys | _ => false
  | .dict _, _ => false
def eqPs : List PyData → List PyData → Bool
  | [], ys => match ys with | [] => true | _ => false
  | x :: xs, ys => match ys with | y :: ys => eqP x y && eqPs xs ys | _ => false
end
mutual
theorem eqP_eq : ∀ (x y : PyData), eqP x y = true → x = y
  | .none, y, h => by unfold eqP at h; split at h <;> first | rfl | cases h
  | .bool a, y, h => by unfold eqP at h; split at h <;> first | (rw [eq_of_beq h]) | cases h
  | .int a, y, h => by unfold eqP at h; split at h <;> first | (rw [eq_of_beq h]) | cases h
  | .str a, y, h => by unfold eqP at h; split at h <;> first | (rw [eq_of_beq h]) | cases h
  | .list xs, y, h => by unfold eqP at h; split at h <;> first | (rw [eqPs_eq xs _ h]) | cases h
  | .tuple xs, y, h => by unfold eqP at h; split at h <;> first | (rw [eqPs_eq xs _ h]) | cases h
  | .dict _, y, h => by unfold eqP at h; cases h
theorem eqPs_eq : ∀ (x y : List PyData), eqPs x y = true → x = y
  | [], y, h => by unfold eqPs at h; split at h <;> first | rfl | cases h
  | x :: xs, y, h => by
    unfold eqPs at h
    split at h
    · obtain ⟨h1, h2⟩ := Bool.and_eq_true_iff.mp h
      rw [eqP_eq x _ h1, eqPs_eq xs _ h2]
    · cases h
end
def inCo (n : Str) (x : PyData) : List (Str × PyData) → Bool
  | [] => false
  | (m, y) :: r => (decide (n = m) && eqP x y) || inCo n x r
theorem inCo_mem {n : Str} {x : PyData} : ∀ {l : List (Str × PyData)}, inCo n x l = true → (n, x) ∈ l
  | (m, y) :: r, h => by
    unfold inCo at h
    rcases Bool.or_eq_true_iff.mp h with h | h
    · obtain ⟨h1, h2⟩ := Bool.and_eq_true_iff.mp h
      rw [of_decide_eq_true h1, eqP_eq _ _ h2]
      exact List.mem_cons_self
    · exact List.mem_cons_of_mem _ (inCo_mem h)
def visB (sc : Scope) (n : Str) : Bool := match sc.names.lookup n with
  | some .local => true | some .cell => true | some .free => true | _ => false
def locB (sc : Scope) (n : Str) : Bool := match sc.names.lookup n with
  | some .local => true | some .cell => true | _ => false
def glB (sc : Scope) (n : Str) : Bool := match sc.names.lookup n with
  | some .globalImplicit => true | _ => false
theorem visB_ok {sc : Scope} {n : Str} (h : visB sc n = true) : Vis sc n := by
  unfold visB at h
  split at h <;> first | exact .inl (by assumption) | exact .inr (.inl (by assumption)) | exact .inr (.inr (by assumption)) | cases h
theorem locB_ok {sc : Scope} {n : Str} (h : locB sc n = true) : L2.Loc sc n := by
  unfold locB at h
  split at h <;> first | exact .inl (by assumption) | exact .inr (by assumption) | cases h
theorem glB_ok {X : Cx} {sc : Scope} {n : Str} (hs : X.env.scope = sc) (h : glB sc n = true) : Gl X n := by
  unfold glB at h
  split at h
  · show X.env.scope.names.lookup n = _
    rw [hs]; assumption
  · cases h
def nmB (n : Str) : Bool := !(n == ("__debug__" : Str)) && !(n == ("__classdict__" : Str))
theorem nmB_ok {n : Str} (h : nmB n = true) : (n == ("__debug__" : Str)) = false ∧ (n == ("__classdict__" : Str)) = false := by
  unfold nmB at h
  simp only [Bool.and_eq_true, Bool.not_eq_true'] at h
  exact h
def ownOf (N : List Str) (own : List Nat) : List (Str × Nat) := own.filterMap fun i => (N[i]?).map fun n => (n, i)
def chkNames (N : List Str) (sc : Scope) : List Nat → List Expr → Bool
  | [], xs => match xs with | [] => true | _ => false
  | i :: is, xs => match xs with
    | .Name n _ :: xs => decide (N[i]? = some n) && locB sc n && chkNames N sc is xs
    | _ => false
def chkT (N : List Str) (sc : Scope) : T → Expr → Bool
  | .nm i, x => match x with
    | .Name n _ => decide (N[i]? = some n) && locB sc n
    | _ => false
  | .tp is, x => match x with
    | .Tuple xs _ _ => chkNames N sc is xs
    | _ => false
mutual
def chkE (N : List Str) (T : Tb) (sc : Scope) : E → Expr → Bool
  | .var i, x => match x with
    | .Name n _ => decide (N[i]? = some n) && visB sc n && nmB n
    | _ => false
  | .con d, x => match x with
    | .Constant c _ _ => match d, c with
      | .int i, .int j => decide (i = j)
      | .bool i, .bool j => decide (i = j)
      | .str i, .str j => decide (i = j)
      | .none, .none => true
      | _, _ => false
    | _ => false
  | .glo n d, x => match x with
    | .Name m _ => decide (n = m) && inCo n d T.co && glB sc n && nmB n
    | _ => false
  | .bin o a b, x => match x with
    | .BinOp y op z _ => decide (op = bop o) && chkE N T sc a y && chkE N T sc b z
    | _ => false
  | .neg a, x => match x with
    | .UnaryOp .USub y _ => chkE N T sc a y
    | _ => false
  | .nt a, x => match x with
    | .UnaryOp .Not y _ => chkE N T sc a y
    | _ => false
  | .an a b, x => match x with
    | .BoolOp .And (y :: z :: r) p => chkE N T sc a y && (match r with | [] => chkE N T sc b z | _ :: _ => chkE N T sc b (.BoolOp .And (z :: r) p))
    | _ => false
  | .oo a b, x => match x with
    | .BoolOp .Or (y :: z :: r) p => chkE N T sc a y && (match r with | [] => chkE N T sc b z | _ :: _ => chkE N T sc b (.BoolOp .Or (z :: r) p))
    | _ => false
  | .cmp o a b, x => match x with
    | .Compare y [op] [z] _ => decide (op = cop o) && !behindInMarks op z && chkE N T sc a y && chkE N T sc b z
    | _ => false
  | .chn o p a b c, x => match x with
    | .Compare y [op, pp] [z, w] _ => decide (op = cop o) && decide (pp = cop p) && !lastMarks [op, pp] [z, w] && chkE N T sc a y && chkE N T sc b z && chkE N T sc c w
    | _ => false
  | .ite c a b, x => match x with
    | .IfExp y z w _ => chkE N T sc c y && chkE N T sc a z && chkE N T sc b w
    | _ => false
  | .tup es, x => match x with
    | .Tuple xs _ _ => chkEs N T sc es xs
    | _ => false
  | .lst es, x => match x with
    | .List xs _ => chkEs N T sc es xs
    | _ => false
  | .idx a b, x => match x with
    | .Subscript y z _ => plainB z && chkE N T sc a y && chkE N T sc b z
    | _ => false
  | .slc a lo hi, x => match x with
    | .Subscript y (.Slice l u none _) _ => chkE N T sc a y && chkO N T sc lo l && chkO N T sc hi u
    | _ => false
  | .rev a, x => match x with
    | .Subscript y (.Slice none none (some (.UnaryOp .USub (.Constant (.int 1) _ _) _)) _) _ => chkE N T sc a y
    | _ => false
  | .cal n f es, x => match x with
    | .Call (.Name m _) xs [] _ => decide (n = m) && decide ((n, f) ∈ T.fn) && glB sc n && nmB n && noStars xs && chkEs N T sc es xs
    | _ => false
  | .bif b es, x => match x with
    | .Call (.Name m _) (y :: ys) [] _ => decide (m = bname b) && decide (m ∈ T.ab) && glB sc m && noStars (y :: ys) && chkEs N T sc es (y :: ys)
    | _ => false
  | .isi a t, x => match x with
    | .Call (.Name n _) [y, .Name m _] [] _ => decide (n = "isinstance") && decide (n ∈ T.ab) && glB sc n && decide (m = tyn t) && decide (m ∈ T.ab) && glB sc m && noStar y && chkE N T sc a y
    | _ => false
  | .mth m a es, x => match x with
    | .Call (.Attribute y nm apos) [z] [] pos => match m, es with
      | .join, .cons b .nil => decide (nm = "join") && noStar z && plainO y && (apos.endLine == pos.line) && chkE N T sc a y && chkE N T sc b z
      | _, _ => false
    | _ => false
  | .lc elt t it cs own, x => match x with
    | .ListComp y [⟨tg, iter, ifs, 0⟩] scope _ => decide ((ownOf N own).map (·.2) = own) && blkC N sc scope (ownOf N own) && (tgs t).all (fun i => decide (i ∈ own)) && noSet iter && chkT N scope t tg &&
        chkI N T sc it iter && chkCs N T (relS scope sc) cs ifs && chkE N T (relS scope sc) elt y
    | _ => false
def chkEs (N : List Str) (T : Tb) (sc : Scope) : Es → List Expr → Bool
  | .nil, xs => match xs with | [] => true | _ => false
  | .cons e r, xs => match xs with | x :: xs => noStar x && chkE N T sc e x && chkEs N T sc r xs | _ => false
def chkO (N : List Str) (T : Tb) (sc : Scope) : Es → Option Expr → Bool
  | .nil, x => match x with | none => true | _ => false
  | .cons e r, x => match x with | some x => chkE N T sc e x && chkEs N T sc r [] | _ => false
def chkCs (N : List Str) (T : Tb) (sc : Scope) : Es → List Expr → Bool
  | .nil, xs => match xs with | [] => true | _ => false
  | .cons e r, xs => match xs with | [x] => chkE N T sc e x && chkEs N T sc r [] | _ => false
def chkI (N : List Str) (T : Tb) (sc : Scope) : It → Expr → Bool
  | .of a, x => chkE N T sc a x
  | .rng a, x => match x with
    | .Call (.Name n _) [y] [] _ => decide (n = "range") && decide (n ∈ T.ab) && glB sc n && noStar y && chkE N T sc a y
    | _ => false
  | .rng2 a b, x => match x with
    | .Call (.Name n _) [y, z] [] _ => decide (n = "range") && decide (n ∈ T.ab) && glB sc n && noStar y && noStar z && chkE N T sc a y && chkE N T sc b z
    | _ => false
end
/-- what the checker's answer means, in every context -/
structure Fits (X : Cx) (Φ : Phi) (T : Tb) (wx : WX) (N : List Str) (sc : Scope) : Prop where
  side : Side X Φ T wx
  n : X.N = N
  scp : X.env.scope = sc
section
variable {X : Cx} {Φ : Phi} {T : Tb} {wx : WX} {N : List Str} {sc : Scope}
theorem names_ok {X : Cx} {N : List Str} {sc' : Scope} (hN : X.N = N) (hnd : X.N.Nodup) (hsc : ∀ n, L2.Loc sc' n → L2.Loc X.env.scope n ∧ (X.fn n = true ∨ X.env.scope.names.lookup n = some .local)) : ∀ {is : List Nat} {xs : List Expr}, chkNames N sc' is xs = true →
    PGs X xs (gNames is) ∧ (assignEach xs X.env).length = is.length ∧ (assignEach xs X.env).findIdx? (·.1) = none
  | [], xs, h => by
    unfold chkNames at h
    split at h
    · exact ⟨pgs_nil, rfl, rfl⟩
    · cases h
  | i :: is, xs, h => by
    unfold chkNames at h
    split at h
    · rename_i n p xs
      simp only [Bool.and_eq_true, decide_eq_true_eq] at h
      obtain ⟨⟨h1, h2⟩, h3⟩ := h
      obtain ⟨g1, g2, g3⟩ := names_ok hN hnd hsc h3
      obtain ⟨l1, l2⟩ := hsc n (locB_ok h2)
      refine ⟨pgs_cons (pg_name hnd (by rw [hN]; exact h1) l1 l2) g1, ?_, ?_⟩
      · show (assignEach xs X.env).length + 1 = is.length + 1
        rw [g2]
      · show ((false, _) :: assignEach xs X.env).findIdx? (·.1) = none
        rw [List.findIdx?_cons, g3]
        rfl
    · cases h
theorem tg_ok {X : Cx} {N : List Str} {sc' : Scope} {t : Gm.T} {tg : Expr} (hc : X.calm = true) (hN : X.N = N) (hnd : X.N.Nodup) (hsc : ∀ n, L2.Loc sc' n → L2.Loc X.env.scope n ∧ (X.fn n = true ∨ X.env.scope.names.lookup n = some .local)) (h : chkT N sc' t tg = true) : PG X tg (gT X.K t) := by
  cases t with
  | nm i =>
    simp only [chkT] at h
    split at h
    · rename_i n p
      simp only [Bool.and_eq_true, decide_eq_true_eq] at h
      obtain ⟨l1, l2⟩ := hsc n (locB_ok h.2)
      exact pg_name hnd (by rw [hN]; exact h.1) l1 l2
    · cases h
  | tp is =>
    simp only [chkT] at h
    split at h
    · obtain ⟨g1, g2, g3⟩ := names_ok hN hnd hsc h
      exact pg_tup hc g1 g2 g3
    · cases h
theorem blk_fits (f : Fits X Φ T wx N sc) {scope : Scope} (s : Shared) (H : Hp) (C : Addr) (cl : List (Str × Addr)) (fp : List Addr) :
    Side (X.blk s H scope (compEnvC scope cl C X.env) fp) Φ T wxF :=
  ⟨f.side.nd, f.side.calm, f.side.un, f.side.gu, fun u s' ⟨_, _, _, _, _, _, _, _, _, _, _, _, _, _, _, _, w⟩ => w.elim, f.side.pl, f.side.co, f.side.ab, f.side.fn⟩
theorem loc_relS {scope sc : Scope} {n : Str} (h : L2.Loc scope n) : L2.Loc (relS scope sc) n ∧ ((scope.names.lookup n == some .cell) = true ∨ (relS scope sc).names.lookup n = some .local) := by
  rcases h with h | h
  · have := lookup_relS_keep (sc := sc) (by decide) h
    exact ⟨.inl this, .inr this⟩
  · have := lookup_relS_keep (sc := sc) (by decide) h
    exact ⟨.inr this, .inl (by rw [h]; rfl)⟩
theorem blk_fits' (f : Fits X Φ T wx N sc) {scope : Scope} (s : Shared) (H : Hp) (C : Addr) (cl : List (Str × Addr)) (fp : List Addr) :
    Fits (X.blk s H scope (compEnvC scope cl C X.env) fp) Φ T wxF N (relS scope sc) := ⟨blk_fits f s H C cl fp, f.n, by rw [← f.scp]; rfl⟩
end
end Gm

/-! The deep layer, part F2: the checker of expressions is right. -/
namespace Gm
open PySem PySem.Spec PyProof.Rows L2
theorem chkEs_nil {N : List Str} {T : Tb} {sc : Scope} {r : Es} (h : chkEs N T sc r [] = true) : r = .nil := by
  cases r with
  | nil => rfl
  | cons e r => unfold chkEs at h; cases h
section
variable {Φ : Phi} {T : Tb} {N : List Str}
theorem val_both {X : Cx} {wx : WX} {x : Expr} {e : E} (h : PE X x (tEs X Φ wx e)) (hp : plainT x = true) : PE X x (tEs X Φ wx e) ∧ PT X x (tTs X Φ wx e) := ⟨h, t_val h hp⟩
/-- a comprehension's parts -/
theorem lc_parts {X : Cx} {wx : WX} {sc scope : Scope} {elt : E} {t : Gm.T} {it : It} {cs : Es} {own : List Nat} {y tg : Expr} {ifs : List Expr} (f : Fits X Φ T wx N sc)
    (h1 : (ownOf N own).map (·.2) = own) (h2 : blkC N sc scope (ownOf N own) = true) (h3 : (tgs t).all (fun i => decide (i ∈ own)) = true) (h5 : chkT N scope t tg = true)
    (hcs : ∀ {X : Cx} {sc : Scope} (ifs : List Expr), Fits X Φ T wxF N sc → chkCs N T sc cs ifs = true → ∃ tt : TT, PTs X ifs tt ∧ tt = match cs with | .nil => tYes | .cons e _ => tTs X Φ wxF e)
    (h7 : chkCs N T (relS scope sc) cs ifs = true)
    (helt : ∀ {X : Cx} {sc : Scope} (x : Expr), Fits X Φ T wxF N sc → chkE N T sc elt x = true → PE X x (tEs X Φ wxF elt)) (h8 : chkE N T (relS scope sc) elt y = true) :
    ∃ tt : TT, BlkOk X.N X.env.scope scope (ownOf N own) ∧
      (∀ (s : Shared) (H : Hp) (C : Addr) (cl : List (Str × Addr)) (fp : List Addr), PG (X.blk s H scope (compEnvC scope cl C X.env) fp) tg (gT X.K t)) ∧
      (∀ (s : Shared) (H : Hp) (C : Addr) (cl : List (Str × Addr)) (fp : List Addr), PTs (X.blk s H scope (compEnvC scope cl C X.env) fp) ifs tt) ∧
      (∀ (s : Shared) (H : Hp) (C : Addr) (cl : List (Str × Addr)) (fp : List Addr), PE (X.blk s H scope (compEnvC scope cl C X.env) fp) y (tEs X Φ wxF elt)) ∧
      ∀ (σ : L2.St) (H : Hp) (Q : VK), tEs X Φ wx (.lc elt t it cs own) σ H Q → tLc (tI X.K X.mg wx (semI Φ it)) (gT X.K t) tt (tEs X Φ wxF elt) ((ownOf N own).map (·.2)) σ H Q := by
  refine ⟨match cs with | .nil => tYes | .cons e _ => tTs X Φ wxF e, ?_, ?_, ?_, ?_, ?_⟩
  · rw [f.n, f.scp]; exact blkOk_by h2
  · intro s H C cl fp
    refine tg_ok (X := X.blk s H scope (compEnvC scope cl C X.env) fp) f.side.calm f.n f.side.nd (fun n hn => ?_) h5
    have := loc_relS (sc := X.env.scope) hn
    exact this
  · intro s H C cl fp
    obtain ⟨tt, g1, g2⟩ := hcs ifs (blk_fits' f s H C cl fp) h7
    rw [g2] at g1
    cases cs <;> exact g1
  · intro s H C cl fp
    exact helt y (blk_fits' f s H C cl fp) h8
  · intro σ H Q h
    rw [h1]
    refine lc_ok (fun i hi => of_decide_eq_true (List.all_eq_true.mp h3 i hi)) (fun σ H Q h => ?_) h
    cases cs with
    | nil =>
      obtain ⟨F, β, B, ρ, st, R, h⟩ := h
      unfold semCs at h
      exact Post.done h R.st rfl
    | cons e r =>
      have hr : r = .nil := by
        unfold chkCs at h7
        split at h7
        · exact chkEs_nil (Bool.and_eq_true_iff.mp h7).2
        · cases h7
      subst hr
      obtain ⟨F, β, B, ρ, st, R, h⟩ := h
      refine ⟨F, β, B, ρ, st, R, ?_⟩
      have e1 : semCs Φ (.cons e .nil) ρ st = ((sem Φ e ρ st).bind truth) := by
        unfold semCs
        rw [show (fun x s1 => (truth x s1).bind fun b s2 => if b = true then semCs Φ .nil ρ s2 else Res.ok false s2) = truth from ?_]
        funext x s1
        cases q : truth x s1 with
        | bad => rfl
        | ex x s => rfl
        | ok b s2 => cases b <;> first | rfl | (simp only [Res.bind_ok, if_true]; rw [semCs])
      rw [e1] at h
      exact h
mutual
theorem chkE_ok : ∀ (e : E) {X : Cx} {wx : WX} {sc : Scope} (x : Expr), Fits X Φ T wx N sc → chkE N T sc e x = true → PE X x (tEs X Φ wx e) ∧ PT X x (tTs X Φ wx e)
  | .var i, X, wx, sc, x, f, h => by
    unfold chkE at h
    split at h
    · simp only [Bool.and_eq_true, decide_eq_true_eq] at h
      obtain ⟨n1, n2⟩ := nmB_ok h.2
      exact val_both (e_var (by rw [f.n]; exact h.1.1) (by rw [f.scp]; exact visB_ok h.1.2) n1 n2) rfl
    · cases h
  | .con d, X, wx, sc, x, f, h => by
    unfold chkE at h
    split at h
    · split at h
      · cases of_decide_eq_true h
        exact val_both (e_d pe_int (fun _ _ => .int _) fun _ _ => by rw [sem]) rfl
      · cases of_decide_eq_true h
        exact val_both (e_d pe_bl (fun _ _ => .bl _) fun _ _ => by rw [sem]) rfl
      · cases of_decide_eq_true h
        exact val_both (e_d pe_str (fun _ _ => .str _) fun _ _ => by rw [sem]) rfl
      · exact val_both (e_d pe_non (fun _ _ => .non) fun _ _ => by rw [sem]) rfl
      · cases h
    · cases h
  | .glo n d, X, wx, sc, x, f, h => by
    unfold chkE at h
    split at h
    · simp only [Bool.and_eq_true, decide_eq_true_eq] at h
      obtain ⟨⟨⟨h1, h2⟩, h3⟩, h4⟩ := h
      subst h1
      exact val_both (e_glo f.side (inCo_mem h2) (glB_ok f.scp h3) (nmB_ok h4).1) rfl
    · cases h
  | .bin o a b, X, wx, sc, x, f, h => by
    unfold chkE at h
    split at h
    · simp only [Bool.and_eq_true, decide_eq_true_eq] at h
      obtain ⟨⟨h1, h2⟩, h3⟩ := h
      subst h1
      exact val_both (e_bin (chkE_ok a _ f h2).1 (chkE_ok b _ f h3).1) rfl
    · cases h
  | .neg a, X, wx, sc, x, f, h => by
    unfold chkE at h
    split at h
    · exact val_both (e_neg (chkE_ok a _ f h).1) rfl
    · cases h
  | .nt a, X, wx, sc, x, f, h => by
    unfold chkE at h
    split at h
    · have := chkE_ok a _ f h
      exact ⟨e_not this.1, t_not this.2⟩
    · cases h
  | .an a b, X, wx, sc, x, f, h => by
    unfold chkE at h
    split at h
    · obtain ⟨h1, h2⟩ := Bool.and_eq_true_iff.mp h
      have ha := chkE_ok a _ f h1
      split at h2
      · have hb := chkE_ok b _ f h2
        exact ⟨e_and ha.1 (pe_one hb.1), t_and ha.2 (t_one hb.2)⟩
      · have hb := chkE_ok b _ f h2
        exact ⟨e_and ha.1 hb.1, t_and ha.2 hb.2⟩
    · cases h
  | .oo a b, X, wx, sc, x, f, h => by
    unfold chkE at h
    split at h
    · obtain ⟨h1, h2⟩ := Bool.and_eq_true_iff.mp h
      have ha := chkE_ok a _ f h1
      split at h2
      · have hb := chkE_ok b _ f h2
        exact ⟨e_or ha.1 (pe_one hb.1), t_or ha.2 (t_one hb.2)⟩
      · have hb := chkE_ok b _ f h2
        exact ⟨e_or ha.1 hb.1, t_or ha.2 hb.2⟩
    · cases h
  | .cmp o a b, X, wx, sc, x, f, h => by
    unfold chkE at h
    split at h
    · simp only [Bool.and_eq_true, decide_eq_true_eq, Bool.not_eq_true'] at h
      obtain ⟨⟨⟨h1, h2⟩, h3⟩, h4⟩ := h
      subst h1
      have ha := chkE_ok a _ f h3
      have hb := chkE_ok b _ f h4
      exact ⟨e_cmp f.side ha.1 hb.1 h2, t_cmp f.side ha.1 hb.1 h2⟩
    · cases h
  | .chn o p a b c, X, wx, sc, x, f, h => by
    unfold chkE at h
    split at h
    · simp only [Bool.and_eq_true, decide_eq_true_eq, Bool.not_eq_true'] at h
      obtain ⟨⟨⟨⟨⟨h1, h1'⟩, h2⟩, h3⟩, h4⟩, h5⟩ := h
      subst h1 h1'
      have ha := chkE_ok a _ f h3
      have hb := chkE_ok b _ f h4
      have hc := chkE_ok c _ f h5
      exact ⟨e_chn f.side ha.1 hb.1 hc.1 h2, t_chn f.side ha.1 hb.1 hc.1 h2⟩
    · cases h
  | .ite c a b, X, wx, sc, x, f, h => by
    unfold chkE at h
    split at h
    · simp only [Bool.and_eq_true] at h
      obtain ⟨⟨h1, h2⟩, h3⟩ := h
      have hc := chkE_ok c _ f h1
      have ha := chkE_ok a _ f h2
      have hb := chkE_ok b _ f h3
      exact ⟨e_ite hc.2 ha.1 hb.1, t_ite hc.2 ha.2 hb.2⟩
    · cases h
  | .tup es, X, wx, sc, x, f, h => by
    unfold chkE at h
    split at h
    · exact val_both (e_tup (chkEs_ok es _ f h).1) rfl
    · cases h
  | .lst es, X, wx, sc, x, f, h => by
    unfold chkE at h
    split at h
    · exact val_both (e_lst (chkEs_ok es _ f h).1) rfl
    · cases h
  | .idx a b, X, wx, sc, x, f, h => by
    unfold chkE at h
    split at h
    · simp only [Bool.and_eq_true] at h
      exact val_both (e_idx (chkE_ok a _ f h.1.2).1 (chkE_ok b _ f h.2).1 h.1.1) rfl
    · cases h
  | .slc a lo hi, X, wx, sc, x, f, h => by
    unfold chkE at h
    split at h
    · simp only [Bool.and_eq_true] at h
      exact val_both (e_slc (chkE_ok a _ f h.1.1).1 (chkO_ok lo _ f h.1.2) (chkO_ok hi _ f h.2)) rfl
    · cases h
  | .rev a, X, wx, sc, x, f, h => by
    unfold chkE at h
    split at h
    · exact val_both (e_rev (chkE_ok a _ f h).1) rfl
    · cases h
  | .cal n g es, X, wx, sc, x, f, h => by
    unfold chkE at h
    split at h
    · rename_i m p xs pos
      simp only [Bool.and_eq_true, decide_eq_true_eq] at h
      obtain ⟨⟨⟨⟨⟨h1, h2⟩, h3⟩, h4⟩, h5⟩, h6⟩ := h
      subst h1
      have ha := chkEs_ok es _ f h6
      cases xs with
      | nil =>
        have : es = .nil := chkEs_nil h6
        subst this
        exact val_both (e_cal0 f.side h2 (glB_ok f.scp h3) (nmB_ok h4).1) rfl
      | cons y ys => exact val_both (e_cal f.side h2 (glB_ok f.scp h3) (nmB_ok h4).1 ha.1 h5 rfl) rfl
    · cases h
  | .bif b es, X, wx, sc, x, f, h => by
    unfold chkE at h
    split at h
    · simp only [Bool.and_eq_true, decide_eq_true_eq] at h
      obtain ⟨⟨⟨⟨h1, h2⟩, h3⟩, h5⟩, h6⟩ := h
      exact val_both (e_bif f.side h1 h2 (glB_ok f.scp h3) (chkEs_ok es _ f h6).1 h5) rfl
    · cases h
  | .isi a t, X, wx, sc, x, f, h => by
    unfold chkE at h
    split at h
    · simp only [Bool.and_eq_true, decide_eq_true_eq] at h
      obtain ⟨⟨⟨⟨⟨⟨⟨h1, h2⟩, h3⟩, h4⟩, h5⟩, h6⟩, h7⟩, h8⟩ := h
      exact val_both (e_isi f.side h1 h2 (glB_ok f.scp h3) h4 h5 (glB_ok f.scp h6) (chkE_ok a _ f h8).1 h7) rfl
    · cases h
  | .mth m a es, X, wx, sc, x, f, h => by
    unfold chkE at h
    split at h
    · split at h
      · simp only [Bool.and_eq_true, decide_eq_true_eq] at h
        obtain ⟨⟨⟨⟨⟨h1, h2⟩, h3⟩, h4⟩, h5⟩, h6⟩ := h
        exact val_both (e_join h1 (chkE_ok a _ f h5).1 (chkE_ok _ _ f h6).1 h2 h3 h4) rfl
      · cases h
    · cases h
  | .lc elt t it cs own, X, wx, sc, x, f, h => by
    unfold chkE at h
    split at h
    · simp only [Bool.and_eq_true, decide_eq_true_eq] at h
      obtain ⟨⟨⟨⟨⟨⟨⟨h1, h2⟩, h3⟩, h4⟩, h5⟩, h6⟩, h7⟩, h8⟩ := h
      obtain ⟨tt, g1, g2, g3, g4, g5⟩ := lc_parts (wx := wx) (it := it) f h1 h2 h3 h5 (fun ifs f h => chkCs_ok cs ifs f h) h7 (fun x f h => (chkE_ok elt x f h).1) h8
      exact val_both (PE.imp (pe_lc f.side.calm f.side.nd (chkI_ok it _ f h6) g1 g2 g3 g4 (folded_of h4)) g5) rfl
    · cases h
theorem chkEs_ok : ∀ (es : Es) {X : Cx} {wx : WX} {sc : Scope} (xs : List Expr), Fits X Φ T wx N sc → chkEs N T sc es xs = true → PA X xs (tEss X Φ wx es) ∧ noStars xs = true
  | .nil, X, wx, sc, xs, f, h => by
    unfold chkEs at h
    split at h
    · exact ⟨a_nil, rfl⟩
    · cases h
  | .cons e r, X, wx, sc, xs, f, h => by
    unfold chkEs at h
    split at h
    · simp only [Bool.and_eq_true] at h
      obtain ⟨g1, g2⟩ := chkEs_ok r _ f h.2
      exact ⟨a_cons (chkE_ok e _ f h.1.2).1 g1 h.1.1, by unfold noStars; rw [h.1.1, g2]; rfl⟩
    · cases h
theorem chkO_ok : ∀ (es : Es) {X : Cx} {wx : WX} {sc : Scope} (x : Option Expr), Fits X Φ T wx N sc → chkO N T sc es x = true → PO X x (tOs X Φ wx es)
  | .nil, X, wx, sc, xs, f, h => by
    unfold chkO at h
    split at h
    · exact o_none
    · cases h
  | .cons e r, X, wx, sc, xs, f, h => by
    unfold chkO at h
    split at h
    · obtain ⟨h1, h2⟩ := Bool.and_eq_true_iff.mp h
      cases chkEs_nil h2
      exact o_some (chkE_ok e _ f h1).1
    · cases h
theorem chkCs_ok : ∀ (cs : Es) {X : Cx} {sc : Scope} (ifs : List Expr), Fits X Φ T wxF N sc → chkCs N T sc cs ifs = true → ∃ tt : TT, PTs X ifs tt ∧ tt = match cs with | .nil => tYes | .cons e _ => tTs X Φ wxF e
  | .nil, X, sc, xs, f, h => by
    unfold chkCs at h
    split at h
    · exact ⟨_, pts_nil, rfl⟩
    · cases h
  | .cons e r, X, sc, xs, f, h => by
    unfold chkCs at h
    split at h
    · obtain ⟨h1, h2⟩ := Bool.and_eq_true_iff.mp h
      exact ⟨_, pts_one (chkE_ok e _ f h1).2, rfl⟩
    · cases h
theorem chkI_ok : ∀ (it : It) {X : Cx} {wx : WX} {sc : Scope} {tg : Expr} (x : Expr), Fits X Φ T wx N sc → chkI N T sc it x = true → PI X tg x (tI X.K X.mg wx (semI Φ it))
  | .of a, X, wx, sc, tg, x, f, h => by
    unfold chkI at h
    exact i_of (chkE_ok a _ f h).1
  | .rng a, X, wx, sc, tg, x, f, h => by
    unfold chkI at h
    split at h
    · simp only [Bool.and_eq_true, decide_eq_true_eq] at h
      obtain ⟨⟨⟨⟨h1, h2⟩, h3⟩, h4⟩, h5⟩ := h
      exact i_rng (rep := fun β _ => RI X.K β) (fun _ _ => back_RI) (fun _ _ _ _ _ _ _ _ ra w => ⟨_, ra, fun H2 _ => w H2⟩) h1 f.side h2 (glB_ok f.scp h3) (chkE_ok a _ f h5).1 h4
    · cases h
  | .rng2 a b, X, wx, sc, tg, x, f, h => by
    unfold chkI at h
    split at h
    · simp only [Bool.and_eq_true, decide_eq_true_eq] at h
      obtain ⟨⟨⟨⟨⟨⟨h1, h2⟩, h3⟩, h4⟩, h4'⟩, h5⟩, h6⟩ := h
      exact i_rng2 (rep := fun β _ => RI X.K β) (fun _ _ => back_RI) (fun _ _ _ _ _ _ _ _ ra w => ⟨_, ra, fun H2 _ => w H2⟩) h1 f.side h2 (glB_ok f.scp h3) (chkE_ok a _ f h5).1 h4 (chkE_ok b _ f h6).1 h4'
    · cases h
end
end
end Gm

/-! The deep layer, part G: frames over statements. -/
namespace Gm
open PySem PySem.Spec PyProof.Rows L2
/-- a function's entry: what was frozen, the cells, the borrowed objects, the heap; marks: what is to stay as it was at a loop's start -/
structure Ent where
  F : Addr → Prop
  β : List Addr
  P : Addr → Prop
  H : Hp
  M : List ((Addr → Prop) × Hp)
structure Since (E : Ent) (F : Addr → Prop) (β : List Addr) (B : Bs) (H : Hp) : Prop where
  ext : Ext E.F E.β E.H F H
  pre : ∃ β1, β = E.β ++ β1 ∧ ∀ a ∈ β1, E.H a = none
  bb : B.b = E.P
  bp : ∀ a, E.P a → a ∉ E.β ∧ E.H a ≠ none
  oo : ∀ a, B.o a → E.H a = none
  mks : ∀ m ∈ E.M, Kp m.1 m.2 F H
structure RelS (K : PySem.W.Frag) (E : Ent) (F : Addr → Prop) (β : List Addr) (B : Bs) (ρ : Rho) (st : Stt) (σ : L2.St) (H : Hp) : Prop where
  rel : RelE K F β B ρ st σ H
  since : Since E F β B H
theorem nodup_ix' {N : List Addr} (hN : N.Nodup) {i j : Nat} {x : Addr} (a : N[i]? = some x) (b : N[j]? = some x) : i = j := by
  obtain ⟨h1, e1⟩ := List.getElem?_eq_some_iff.mp a
  obtain ⟨h2, e2⟩ := List.getElem?_eq_some_iff.mp b
  exact (List.getElem_inj hN).mp (e1.trans e2.symm)
theorem Kp.trans {F F1 F2 : Addr → Prop} {H H1 H2 : Hp} (a : Kp F H F1 H1) (b : Kp F1 H1 F2 H2) : Kp F H F2 H2 := ⟨fun x h => b.sub x (a.sub x h), fun x xs h => b.tup x xs (a.tup x xs h), fun x xs hf h => b.lst x xs (a.sub x hf) (a.lst x xs hf h)⟩
section
variable {K : PySem.W.Frag} {E : Ent} {F F' F1 : Addr → Prop} {β : List Addr} {B B' : Bs} {ρ : Rho} {st st' st1 : Stt} {σ : L2.St} {H H' H1 : Hp}
theorem Since.sub (S : Since E F β B H) {a : Addr} (h : a ∈ E.β) : a ∈ β := by
  obtain ⟨β1, e, _⟩ := S.pre
  rw [e]
  exact List.mem_append_left _ h
theorem Since.nonB (S : Since E F β B H) {a : Addr} (h : a ∈ β) (n : a ∉ E.β) : E.H a = none := by
  obtain ⟨β1, e, g⟩ := S.pre
  rw [e] at h
  exact (List.mem_append.mp h).elim (fun z => absurd z n) (g a)
/-- not there now, not there at the entry -/
theorem Since.noneH (S : Since E F β B H) {a : Addr} (h : a ∉ β) (n : H a = none) : E.H a = none := S.ext.none_back (fun z => h (S.sub z)) n
theorem Since.step (S : Since E F β B H) (s : StOk K F β B H st) (e : Ext F β H F1 H1) : Since E F1 β B H1 where
  ext := ⟨fun a h => e.sub a (S.ext.sub a h), fun a h => by
    rcases e.new a h with h | ⟨h1, h2⟩
    · exact S.ext.new a h
    · exact .inr ⟨fun z => h1 (S.sub z), S.noneH h1 h2⟩, fun a h1 h2 => by
    have e1 := S.ext.un a h1 h2
    rw [e.un a (fun z => h2 (S.nonB z h1)) (by rw [e1]; exact h2), e1]⟩
  pre := S.pre
  bb := S.bb
  bp := S.bp
  oo := S.oo
  mks := fun m h => (S.mks m h).trans (e.kp s)
theorem RelS.ext (R : RelS K E F β B ρ st σ H) (e : Ext F β H F1 H1) (s : StOk K F1 β B H1 st1) : RelS K E F1 β B ρ st1 σ H1 := ⟨R.rel.ext e s, R.since.step R.rel.st e⟩
theorem RelS.setW (R : RelS K E F β B ρ st σ H) {i : Nat} {w : W} {v : V} (hv : RepV K F β B H v w) (h1 : ∀ c, w ≠ .new c) (h2 : ∀ c, w ≠ .lent c) (h3 : ∀ c, w ≠ .own c) : RelS K E F β B (ρ.set i (some w)) st (σ.set i (some v)) H := ⟨R.rel.set hv h1 h2 h3, R.since⟩
theorem get_set_some {α : Type} {l : List (Option α)} {i j : Nat} {w u : α} (h : (l.set i (some w))[j]? = some (some u)) : (i = j ∧ u = w ∧ i < l.length) ∨ (i ≠ j ∧ l[j]? = some (some u)) := by
  by_cases e : i = j
  · subst e
    by_cases hl : i < l.length
    · rw [List.getElem?_set_self hl] at h
      cases h
      exact .inl ⟨rfl, rfl, hl⟩
    · rw [List.getElem?_eq_none (by rw [List.length_set]; omega)] at h; cases h
  · rw [List.getElem?_set_ne e] at h
    exact .inr ⟨e, h⟩
/-- a new object, owned by the frame -/
theorem RelS.setOwn (R : RelS K E F β B ρ st σ H) {i : Nat} {a : Addr} {c : C} (hc : RepC K F H a c) (hb : a ∉ β) (hF : ¬ F a) (hu : ¬ B.u a) (hE : E.H a = none) : RelS K E F β ⟨B.b, fun x => B.o x ∨ x = a⟩ (ρ.set i (some (.own c))) st (σ.set i (some (.ref a))) H where
  rel := {
    len := by rw [List.length_set, List.length_set]; exact R.rel.len
    slot := fun j u h => by
      rcases get_set_some h with ⟨rfl, rfl, hl⟩ | ⟨e, h⟩
      · exact ⟨.ref a, by rw [List.getElem?_set_self (by rw [← R.rel.len]; exact hl)], a, rfl, hc, .inr rfl⟩
      · obtain ⟨v, h1, h2⟩ := R.rel.slot j u h
        refine ⟨v, by rw [List.getElem?_set_ne e]; exact h1, ?_⟩
        cases u with
        | own c' => obtain ⟨b, e1, e2, e3⟩ := h2; exact ⟨b, e1, e2, .inl e3⟩
        | lent c' => obtain ⟨b, e1, e2, e3⟩ := h2; exact ⟨b, e1, e2, .inl e3⟩
        | _ => exact h2
    rest := fun j u h => by
      rcases get_set_some h with ⟨rfl, rfl, hl⟩ | ⟨e, h⟩
      · exact ⟨fun _ e => (nomatch e), fun _ e => nomatch e⟩
      · exact R.rel.rest j u h
    apart := fun j k d d' x g1 g2 g3 g4 => by
      have other : ∀ (m : Nat) (d : C), ρ[m]? = some (some (.own d)) → σ[m]? = some (some (V.ref a)) → False := fun m d q1 q2 => by
        obtain ⟨v, h1, b, rfl, _, h4⟩ := R.rel.slot m _ q1
        rw [q2] at h1
        cases h1
        exact hu (.inr h4)
      have slf : ∀ {y : Addr}, (σ.set i (some (V.ref a)))[i]? = some (some (V.ref y)) → y = a := fun {y} q => by
        rcases get_set_some q with ⟨_, e, _⟩ | ⟨e, _⟩
        · cases e; rfl
        · exact absurd rfl e
      rcases get_set_some g1 with ⟨rfl, _, _⟩ | ⟨nj, g1⟩
      · rcases get_set_some g3 with ⟨rfl, _, _⟩ | ⟨nk, g3⟩
        · rfl
        · cases slf g2
          rw [List.getElem?_set_ne nk] at g4
          exact (other k d' g3 g4).elim
      · rw [List.getElem?_set_ne nj] at g2
        rcases get_set_some g3 with ⟨rfl, _, _⟩ | ⟨nk, g3⟩
        · cases slf g4
          exact (other j d g1 g2).elim
        · rw [List.getElem?_set_ne nk] at g4
          exact R.rel.apart j k d d' x g1 g2 g3 g4
    st := ⟨R.rel.st.len, R.rel.st.nd, R.rel.st.nf, fun x hx => by
      rcases hx with h | h | rfl
      · exact R.rel.st.ob x (.inl h)
      · exact R.rel.st.ob x (.inr h)
      · exact ⟨hb, hF, hc.there⟩, R.rel.st.ft, R.rel.st.at_⟩ }
  since := ⟨R.since.ext, R.since.pre, R.since.bb, R.since.bp, fun x hx => by
      rcases hx with h | rfl
      · exact R.since.oo x h
      · exact hE, R.since.mks⟩
/-- a new object, a cell of the store -/
theorem RelS.setCell (R : RelS K E F β B ρ st σ H) {i : Nat} {a : Addr} {c : C} (hc : RepC K F H a c) (hb : a ∉ β) (hF : ¬ F a) (hu : ¬ B.u a) (hE : E.H a = none) : RelS K E F (β ++ [a]) B (ρ.set i (some (.loc st.length))) (st ++ [c]) (σ.set i (some (.ref a))) H where
  rel := {
    len := by rw [List.length_set, List.length_set]; exact R.rel.len
    slot := fun j u h => by
      rcases get_set_some h with ⟨rfl, rfl, hl⟩ | ⟨e, h⟩
      · exact ⟨.ref a, by rw [List.getElem?_set_self (by rw [← R.rel.len]; exact hl)], a, rfl, by rw [← R.rel.st.len, List.getElem?_append_right (Nat.le_refl _)]; simp⟩
      · obtain ⟨v, h1, h2⟩ := R.rel.slot j u h
        refine ⟨v, by rw [List.getElem?_set_ne e]; exact h1, ?_⟩
        cases u with
        | loc n =>
          obtain ⟨b, e1, e2⟩ := h2
          exact ⟨b, e1, by rw [List.getElem?_append_left (List.getElem?_eq_some_iff.mp e2).1]; exact e2⟩
        | new c' => exact absurd rfl ((R.rel.rest j _ h).1 c')
        | _ => exact h2
    rest := fun j u h => by
      rcases get_set_some h with ⟨rfl, rfl, hl⟩ | ⟨e, h⟩
      · exact ⟨fun _ e => (nomatch e), fun _ e => nomatch e⟩
      · exact R.rel.rest j u h
    apart := fun j k d d' x g1 g2 g3 g4 => by
      rcases get_set_some g1 with ⟨_, e, _⟩ | ⟨nj, g1⟩
      · cases e
      · rcases get_set_some g3 with ⟨_, e, _⟩ | ⟨nk, g3⟩
        · cases e
        · rw [List.getElem?_set_ne nj] at g2
          rw [List.getElem?_set_ne nk] at g4
          exact R.rel.apart j k d d' x g1 g2 g3 g4
    st := ⟨by rw [List.length_append, List.length_append, R.rel.st.len]; rfl, by
        rw [List.nodup_append]
        exact ⟨R.rel.st.nd, by simp, fun x hx y hy => by
          have : y = a := by simpa using hy
          subst this
          exact fun e => hb (e ▸ hx)⟩, fun x hx => by
        rcases List.mem_append.mp hx with h | h
        · exact R.rel.st.nf x h
        · have : x = a := by simpa using h
          subst this
          exact hF, fun x hx => by
        obtain ⟨h1, h2, h3⟩ := R.rel.st.ob x hx
        refine ⟨fun z => ?_, h2, h3⟩
        rcases List.mem_append.mp z with h | h
        · exact h1 h
        · have : x = a := by simpa using h
          subst this
          exact hu hx, R.rel.st.ft, fun n x d e1 e2 => by
        by_cases hn : n < β.length
        · rw [List.getElem?_append_left hn] at e1
          rw [List.getElem?_append_left (by rw [← R.rel.st.len]; exact hn)] at e2
          exact R.rel.st.at_ n x d e1 e2
        · have hn' : n = β.length := by
            have := (List.getElem?_eq_some_iff.mp e1).1
            rw [List.length_append] at this
            simp at this
            omega
          subst hn'
          rw [List.getElem?_append_right (Nat.le_refl _)] at e1
          rw [R.rel.st.len, List.getElem?_append_right (Nat.le_refl _)] at e2
          simp at e1 e2
          subst e1 e2
          exact hc⟩ }
  since := ⟨R.since.ext, by
      obtain ⟨β1, e, g⟩ := R.since.pre
      refine ⟨β1 ++ [a], by rw [e, List.append_assoc], fun x hx => ?_⟩
      rcases List.mem_append.mp hx with h | h
      · exact g x h
      · have : x = a := by simpa using h
        subst this
        exact hE, R.since.bb, R.since.bp, R.since.oo, R.since.mks⟩
theorem Since.put (S : Since E F β B H) {a : Addr} {xs : List V} {o : HO} (hD : H a = some (.lst xs)) (hF : ¬ F a) (hE : a ∈ E.β ∨ E.H a = none) : Since E F β B (upd H a o) :=
  ⟨⟨S.ext.sub, S.ext.new, fun x h1 h2 => by
      have hne : x ≠ a := fun e => by
        subst e
        exact hE.elim h1 h2
      rw [upd_ne hne]
      exact S.ext.un x h1 h2⟩, S.pre, S.bb, S.bp, S.oo, fun m hm => (S.mks m hm).trans (kp_out hD hF)⟩
/-- an object that the frame may change -/
theorem RelS.mut (R : RelS K E F β B ρ st σ H) {i : Nat} (h : mutB ρ i = true) : ∃ a xs vs, σ[i]? = some (some (.ref a)) ∧ H a = some (.lst vs) ∧ RpAll K F H vs xs ∧ ((ρ[i]? = some (some (.own (.lst xs))) ∧ B.o a) ∨ ∃ n, ρ[i]? = some (some (.loc n)) ∧ β[n]? = some a ∧ st[n]? = some (.lst xs)) := by
  unfold mutB at h
  split at h
  · rename_i c e
    obtain ⟨v, h1, a, rfl, h2, h3⟩ := R.rel.slot i _ e
    cases c with
    | lst xs =>
      obtain ⟨vs, g1, g2⟩ := h2
      exact ⟨a, xs, vs, h1, g1, g2, .inl ⟨e, h3⟩⟩
  · rename_i n e
    obtain ⟨v, h1, a, rfl, h2⟩ := R.rel.slot i _ e
    have hl : n < st.length := by rw [← R.rel.st.len]; exact (List.getElem?_eq_some_iff.mp h2).1
    have hs : st[n]? = some (st[n]) := List.getElem?_eq_getElem hl
    cases hc : st[n] with
    | lst xs =>
      rw [hc] at hs
      obtain ⟨vs, g1, g2⟩ := R.rel.st.at_ n a _ h2 hs
      exact ⟨a, xs, vs, h1, g1, g2, .inr ⟨n, e, h2, hs⟩⟩
  · cases h
theorem RelS.putOwn (R : RelS K E F β B ρ st σ H) {i : Nat} {a : Addr} {xs ys : List PyData} {vs us : List V} (hi : ρ[i]? = some (some (.own (.lst xs)))) (hs : σ[i]? = some (some (.ref a))) (ho : B.o a) (hD : H a = some (.lst vs)) (ra : RpAll K F H us ys) :
    RelS K E F β B (ρ.set i (some (.own (.lst ys)))) st σ (upd H a (.lst us)) := by
  obtain ⟨o1, o2, o3⟩ := R.rel.st.ob a (.inr ho)
  have kp : Kp F H F (upd H a (.lst us)) := kp_out hD o2
  have hσ : σ.set i (some (V.ref a)) = σ := by
    apply List.ext_getElem?
    intro j
    by_cases e : i = j
    · subst e
      rw [List.getElem?_set_self (List.getElem?_eq_some_iff.mp hs).1, hs]
    · rw [List.getElem?_set_ne e]
  refine ⟨⟨by rw [List.length_set]; exact R.rel.len, fun j u h => ?_, fun j u h => ?_, fun j k d d' x g1 g2 g3 g4 => ?_, ⟨R.rel.st.len, R.rel.st.nd, R.rel.st.nf, fun x hx => ?_, fun x hx => ?_, fun n x c e1 e2 => ?_⟩⟩, R.since.put hD o2 (.inr (R.since.oo a ho))⟩
  · rcases get_set_some h with ⟨rfl, rfl, hl⟩ | ⟨e, h⟩
    · exact ⟨.ref a, hs, a, rfl, ⟨us, upd_same, RpAll.keep kp _ _ ra⟩, ho⟩
    · obtain ⟨v, h1, h2⟩ := R.rel.slot j u h
      refine ⟨v, h1, ?_⟩
      cases u with
      | d x => exact Rp.keep kp _ _ h2
      | new c => exact absurd rfl ((R.rel.rest j _ h).1 c)
      | lent c => exact absurd rfl ((R.rel.rest j _ h).2 c)
      | bor c =>
        obtain ⟨b, rfl, e2, e3⟩ := h2
        have hne : b ≠ a := fun e => by
          subst e
          rw [R.since.bb] at e3
          exact (R.since.bp b e3).2 (R.since.oo b ho)
        exact ⟨b, rfl, e2.keep kp (upd_ne hne), e3⟩
      | own c =>
        obtain ⟨b, rfl, e2, e3⟩ := h2
        have hne : b ≠ a := fun e' => by
          subst e'
          exact e (R.rel.apart i j _ _ b hi hs h h1)
        exact ⟨b, rfl, e2.keep kp (upd_ne hne), e3⟩
      | loc n => exact h2
  · rcases get_set_some h with ⟨rfl, rfl, hl⟩ | ⟨e, h⟩
    · exact ⟨fun _ e => (nomatch e), fun _ e => nomatch e⟩
    · exact R.rel.rest j u h
  · have back : ∀ {m : Nat} {d : C}, (ρ.set i (some (.own (.lst ys))))[m]? = some (some (.own d)) → ∃ d0, ρ[m]? = some (some (.own d0)) := fun {m d} q => by
      rcases get_set_some q with ⟨rfl, _, _⟩ | ⟨_, q⟩
      · exact ⟨_, hi⟩
      · exact ⟨d, q⟩
    obtain ⟨d0, q1⟩ := back g1
    obtain ⟨d1, q2⟩ := back g3
    exact R.rel.apart j k d0 d1 x q1 g2 q2 g4
  · obtain ⟨p1, p2, p3⟩ := R.rel.st.ob x hx
    refine ⟨p1, p2, ?_⟩
    by_cases e : x = a
    · subst e; rw [upd_same]; exact fun z => nomatch z
    · rw [upd_ne e]; exact p3
  · have hne : x ≠ a := fun e => by rw [e] at hx; exact o2 hx
    rw [upd_ne hne]
    exact R.rel.st.ft x hx
  · exact (R.rel.st.at_ n x c e1 e2).keep kp (upd_ne fun e => o1 (e ▸ List.mem_of_getElem? e1))
theorem RelS.putCell (R : RelS K E F β B ρ st σ H) {n : Nat} {a : Addr} {ys : List PyData} {vs us : List V} (hn : β[n]? = some a) (hD : H a = some (.lst vs)) (ra : RpAll K F H us ys) :
    RelS K E F β B ρ (st.set n (.lst ys)) σ (upd H a (.lst us)) := by
  have hm : a ∈ β := List.mem_of_getElem? hn
  have hF := R.rel.st.nf a hm
  have kp : Kp F H F (upd H a (.lst us)) := kp_out hD hF
  have hu : ∀ x, B.u x → x ≠ a := fun x hx e => (R.rel.st.ob x hx).1 (e ▸ hm)
  refine ⟨⟨R.rel.len, fun j u h => ?_, R.rel.rest, R.rel.apart, ⟨by rw [List.length_set]; exact R.rel.st.len, R.rel.st.nd, R.rel.st.nf, fun x hx => ?_, fun x hx => ?_, fun m x c e1 e2 => ?_⟩⟩, R.since.put hD hF ?_⟩
  · obtain ⟨v, h1, h2⟩ := R.rel.slot j u h
    refine ⟨v, h1, ?_⟩
    cases u with
    | d x => exact Rp.keep kp _ _ h2
    | new c => exact absurd rfl ((R.rel.rest j _ h).1 c)
    | lent c => exact absurd rfl ((R.rel.rest j _ h).2 c)
    | bor c =>
      obtain ⟨b, rfl, e2, e3⟩ := h2
      exact ⟨b, rfl, e2.keep kp (upd_ne (hu b (.inl e3))), e3⟩
    | own c =>
      obtain ⟨b, rfl, e2, e3⟩ := h2
      exact ⟨b, rfl, e2.keep kp (upd_ne (hu b (.inr e3))), e3⟩
    | loc n => exact h2
  · obtain ⟨p1, p2, p3⟩ := R.rel.st.ob x hx
    exact ⟨p1, p2, by rw [upd_ne (hu x hx)]; exact p3⟩
  · have hne : x ≠ a := fun e => by rw [e] at hx; exact hF hx
    rw [upd_ne hne]
    exact R.rel.st.ft x hx
  · by_cases e : n = m
    · subst e
      rw [hn] at e1
      cases e1
      have hl : n < st.length := by rw [← R.rel.st.len]; exact (List.getElem?_eq_some_iff.mp hn).1
      rw [List.getElem?_set_self hl] at e2
      cases e2
      exact ⟨us, upd_same, RpAll.keep kp _ _ ra⟩
    · rw [List.getElem?_set_ne e] at e2
      refine (R.rel.st.at_ m x c e1 e2).keep kp (upd_ne fun ex => ?_)
      subst ex
      exact e (nodup_ix' R.rel.st.nd hn e1)
  · by_cases h : a ∈ E.β
    · exact .inl h
    · exact .inr (R.since.nonB hm h)
/-- an own object is frozen -/
theorem RelS.frz1 (R : RelS K E F β B ρ st σ H) {i : Nat} {c : C} (hi : ρ[i]? = some (some (.own c))) : ∃ F' B', RelS K E F' β B' (ρ.set i (some (.d c.dat))) st σ H := by
  obtain ⟨v, hs, a, rfl, hc, ho⟩ := R.rel.slot i _ hi
  obtain ⟨o1, o2, o3⟩ := R.rel.st.ob a (.inr ho)
  have kp : Kp F H (fun x => F x ∨ x = a) H := ⟨fun _ h => .inl h, fun _ _ h => h, fun _ _ _ h => h⟩
  have hb : ∀ b, B.b b → b ≠ a := fun b h e => by
    subst e
    rw [R.since.bb] at h
    exact (R.since.bp b h).2 (R.since.oo b ho)
  refine ⟨fun x => F x ∨ x = a, ⟨B.b, fun x => B.o x ∧ x ≠ a⟩, ⟨⟨by rw [List.length_set]; exact R.rel.len, fun j u h => ?_, fun j u h => ?_, fun j k d d' x g1 g2 g3 g4 => ?_, ⟨R.rel.st.len, R.rel.st.nd, fun x hx hF => ?_, fun x hx => ?_, fun x hx => ?_, fun n x c e1 e2 => ?_⟩⟩, ⟨⟨fun x h => .inl (R.since.ext.sub x h), fun x h => ?_, R.since.ext.un⟩, R.since.pre, R.since.bb, R.since.bp, fun x h => R.since.oo x h.1, fun m h => (R.since.mks m h).trans kp⟩⟩⟩
  · rcases get_set_some h with ⟨rfl, rfl, hl⟩ | ⟨e, h⟩
    · exact ⟨.ref a, hs, (hc.keep kp rfl).frz (.inr rfl)⟩
    · obtain ⟨v, h1, h2⟩ := R.rel.slot j u h
      refine ⟨v, h1, ?_⟩
      cases u with
      | d x => exact Rp.keep kp _ _ h2
      | new c => exact absurd rfl ((R.rel.rest j _ h).1 c)
      | lent c => exact absurd rfl ((R.rel.rest j _ h).2 c)
      | bor c =>
        obtain ⟨b, rfl, e2, e3⟩ := h2
        exact ⟨b, rfl, e2.keep kp rfl, e3⟩
      | own c =>
        obtain ⟨b, rfl, e2, e3⟩ := h2
        refine ⟨b, rfl, e2.keep kp rfl, e3, fun e' => ?_⟩
        subst e'
        exact e (R.rel.apart i j _ _ b hi hs h h1)
      | loc n => exact h2
  · rcases get_set_some h with ⟨rfl, rfl, hl⟩ | ⟨e, h⟩
    · exact ⟨fun _ e => (nomatch e), fun _ e => nomatch e⟩
    · exact R.rel.rest j u h
  · rcases get_set_some g1 with ⟨_, e, _⟩ | ⟨_, g1⟩
    · cases e
    · rcases get_set_some g3 with ⟨_, e, _⟩ | ⟨_, g3⟩
      · cases e
      · exact R.rel.apart j k d d' x g1 g2 g3 g4
  · rcases hF with h | rfl
    · exact R.rel.st.nf x hx h
    · exact o1 hx
  · rcases hx with h | ⟨h, hne⟩
    · obtain ⟨p1, p2, p3⟩ := R.rel.st.ob x (.inl h)
      exact ⟨p1, fun z => z.elim p2 (hb x h), p3⟩
    · obtain ⟨p1, p2, p3⟩ := R.rel.st.ob x (.inr h)
      exact ⟨p1, fun z => z.elim p2 hne, p3⟩
  · rcases hx with h | rfl
    · exact R.rel.st.ft x h
    · exact o3
  · exact (R.rel.st.at_ n x c e1 e2).keep kp rfl
  · rcases h with h | rfl
    · exact R.since.ext.new x h
    · exact .inr ⟨fun z => o1 (R.since.sub z), R.since.oo x ho⟩
theorem RelS.frz (R : RelS K E F β B ρ st σ H) : ∀ is : List Nat, ∃ F' B', RelS K E F' β B' (frzR ρ is) st σ H
  | [] => ⟨F, B, R⟩
  | i :: is => by
    obtain ⟨F', B', R'⟩ := RelS.frz R is
    unfold frzR
    split
    · rename_i c e
      exact R'.frz1 e
    · exact ⟨F', B', R'⟩
end
end Gm

/-! The deep layer, part G2: statements. -/
namespace Gm
open PySem PySem.Spec PyProof.Rows L2
def RtOk (K : PySem.W.Frag) (E : Ent) (F : Addr → Prop) (β : List Addr) (H : Hp) (v : V) : W → Prop
  | .d x => Rp K F H v x
  | .new c => ∃ a, v = .ref a ∧ RepC K F H a c ∧ E.H a = none ∧ a ∉ β ∧ ¬ F a
  | .loc n => ∃ a, v = .ref a ∧ β[n]? = some a
  | _ => False
def PostS (K : PySem.W.Frag) (mg : Str → Option Value) (wx : WX) (E : Ent) (r : Res Fl) (D : Ends) : Prop :=
  match r with
  | .ok (.nx ρ) st => ∀ σ H F β B, RelS K E F β B ρ st σ H → D.nx σ H
  | .ok (.rt w) st => ∀ v H F β B, StOk K F β B H st → Since E F β B H → RtOk K E F β H v w → D.rt v H
  | .ex x st => ∀ c d σ H F β B, StOk K F β B H st → Since E F β B H → ExRep K mg F H x c d → wx c d σ H
  | .bad => False
def tS (K : PySem.W.Frag) (mg : Str → Option Value) (wx : WX) (f : Rho → Stt → Res Fl) : TS := fun D σ H => ∃ E F β B ρ st, RelS K E F β B ρ st σ H ∧ PostS K mg wx E (f ρ st) D
theorem PS.imp {X : Cx} {s : Stmt} {t t' : TS} (h : PS X s t) (i : ∀ D σ H, t' D σ H → t D σ H) : PS X s t' := ⟨fun pins s σ H D I q => h.run pins s σ H D I (i D σ H q)⟩
theorem PSs.imp {X : Cx} {s : List Stmt} {t t' : TS} (h : PSs X s t) (i : ∀ D σ H, t' D σ H → t D σ H) : PSs X s t' := ⟨fun pins s σ H D I q => h.run pins s σ H D I (i D σ H q)⟩
section
variable {X : Cx} {Φ : Phi} {T : Tb} {wx : WX} {N : List Str} {sc : Scope} {K : PySem.W.Frag} {mg : Str → Option Value} {E : Ent} {F F1 : Addr → Prop} {β : List Addr} {B : Bs} {ρ : Rho} {st st1 : Stt} {σ : L2.St} {H H1 : Hp} {D : Ends} {pos : Pos} {x e : Expr} {ee : Gm.E}
abbrev tSt (X : Cx) (Φ : Phi) (wx : WX) (s : S) : TS := tS X.K X.mg wx (semS Φ s)
abbrev tSs (X : Cx) (Φ : Phi) (wx : WX) (s : Ss) : TS := tS X.K X.mg wx (semSs Φ s)
theorem step_s {α τ : Type} {rep : Hp → (Addr → Prop) → Hp → τ → α → Prop} {P : τ → Hp → Prop} {r : Res α} {k : α → Stt → Res Fl} (R : RelS K E F β B ρ st σ H) (h : PostS K mg wx E (r.bind k) D)
    (g : ∀ w st1 F1 v H1, Ext F β H F1 H1 → RelS K E F1 β B ρ st1 σ H1 → rep H F1 H1 v w → PostS K mg wx E (k w st1) D → P v H1) : Post K mg β B rep F H (fun c d H' => wx c d σ H') r P := by
  cases r with
  | bad => exact h
  | ok w s => exact fun v F' H' e s' q => g w s F' v H' e (R.ext e s') q h
  | ex x s => exact fun c d F' H' e s' q => h c d σ H' F' β B s' (R.since.step R.rel.st e) q
theorem step_se {P : VK} {f : Rho → Stt → Res W} {k : W → Stt → Res Fl} (R : RelS K E F β B ρ st σ H) (h : PostS K mg wx E ((f ρ st).bind k) D)
    (g : ∀ w st1 F1 v H1, Ext F β H F1 H1 → RelS K E F1 β B ρ st1 σ H1 → RR K β B H F1 H1 v w → PostS K mg wx E (k w st1) D → P v H1) : tE K mg wx f σ H P := ⟨F, β, B, ρ, st, R.rel, step_s R h g⟩
theorem step_st {P : Bool → Hp → Prop} {f : Rho → Stt → Res Bool} {k : Bool → Stt → Res Fl} (R : RelS K E F β B ρ st σ H) (h : PostS K mg wx E ((f ρ st).bind k) D)
    (g : ∀ b st1 F1 H1, Ext F β H F1 H1 → RelS K E F1 β B ρ st1 σ H1 → PostS K mg wx E (k b st1) D → P b H1) : tT K mg wx f σ H P := ⟨F, β, B, ρ, st, R.rel, step_s R h fun w st1 F1 v H1 e R1 q h => by cases q; exact g _ st1 F1 H1 e R1 h⟩

/-! ### blocks -/
theorem b_nil : PSs X [] (tSs X Φ wx .nil) := PSs.imp pss_nil fun D σ H ⟨E, F, β, B, ρ, st, R, h⟩ => by
  unfold semSs at h
  exact h σ H F β B R
theorem b_cons {s : S} {r : Ss} {ps : Stmt} {pr : List Stmt} (h1 : PS X ps (tSt X Φ wx s)) (h2 : PSs X pr (tSs X Φ wx r)) : PSs X (ps :: pr) (tSs X Φ wx (.cons s r)) := by
  refine PSs.imp (pss_cons h1 h2) fun D σ H ⟨E, F, β, B, ρ, st, R, h⟩ => ?_
  unfold semSs at h
  refine ⟨E, F, β, B, ρ, st, R, ?_⟩
  cases q : semS Φ s ρ st with
  | bad => rw [q] at h; exact h
  | ex x s => rw [q] at h; exact h
  | ok fl s1 =>
    rw [q] at h
    cases fl with
    | nx ρ' => exact fun σ' H' F' β' B' R' => ⟨E, F', β', B', ρ', s1, R', h⟩
    | rt w => exact h
theorem b_frz {is : List Nat} {r : Ss} {pr : List Stmt} (h2 : PSs X pr (tSs X Φ wx r)) : PSs X pr (tSs X Φ wx (.frz is r)) := by
  refine PSs.imp h2 fun D σ H ⟨E, F, β, B, ρ, st, R, h⟩ => ?_
  unfold semSs at h
  obtain ⟨F', B', R'⟩ := R.frz is
  exact ⟨E, F', β, B', _, st, R', h⟩

/-! ### small statements -/
theorem s_exp (he : PE X e (tEs X Φ wx ee)) (hc : noComp e = true) : PS X (.Expr e pos) (tSt X Φ wx (.exp ee)) := by
  refine PS.imp (ps_expr he (swaps_of hc)) fun D σ H ⟨E, F, β, B, ρ, st, R, h⟩ => ?_
  unfold semS at h
  exact step_se R h fun w st1 F1 v H1 e1 R1 rv h => h σ H1 F1 β B R1
theorem rt_ok {w : W} {v : V} (R : RelS K E F β B ρ st σ H) (R1 : RelS K E F1 β B ρ st1 σ H1) (rv : RR K β B H F1 H1 v w) (h : PostS K mg wx E (rtW w st1) D) : D.rt v H1 := by
  cases w with
  | d x => exact h v H1 F1 β B R1.rel.st R1.since rv.1
  | new c =>
    obtain ⟨⟨a, rfl, h2, h3, h4⟩, hf⟩ := rv
    exact h _ H1 F1 β B R1.rel.st R1.since ⟨a, rfl, h2, R.since.noneH h3 (hf a rfl), h3, h4⟩
  | loc n => exact h v H1 F1 β B R1.rel.st R1.since rv.1
  | bor c => exact h.elim
  | own c => exact h.elim
  | lent c => exact h.elim
theorem s_ret (he : PE X e (tEs X Φ wx ee)) : PS X (.Return (some e) pos) (tSt X Φ wx (.ret ee)) := by
  refine PS.imp (ps_ret he) fun D σ H ⟨E, F, β, B, ρ, st, R, h⟩ => ?_
  unfold semS at h
  exact step_se R h fun w st1 F1 v H1 e1 R1 rv h => rt_ok R R1 rv h
theorem s_rtv {i : Nat} {n : Str} {p : Pos} (hN : X.N[i]? = some n) (hv : Vis X.env.scope n) (hd : (n == ("__debug__" : Str)) = false) (hcd : (n == ("__classdict__" : Str)) = false) : PS X (.Return (some (.Name n p)) pos) (tSt X Φ wx (.rtv i)) := by
  refine PS.imp (ps_ret (pe_var hN hv hd hcd)) fun D σ H ⟨E, F, β, B, ρ, st, R, h⟩ => ?_
  unfold semS at h
  split at h
  · rename_i c q
    obtain ⟨v, h1, a, rfl, h2, h3⟩ := R.rel.slot i _ q
    obtain ⟨o1, o2, o3⟩ := R.rel.st.ob a (.inr h3)
    exact ⟨_, h1, h _ H F β B R.rel.st R.since ⟨a, rfl, h2, R.since.oo a h3, o1, o2⟩⟩
  · exact h.elim
theorem s_ite {c : Expr} {ec : Gm.E} {a b : List Stmt} {sa sb : Ss} (hc : PT X c (tTs X Φ wx ec)) (ha : PSs X a (tSs X Φ wx sa)) (hb : PSs X b (tSs X Φ wx sb)) : PS X (.If c a b pos) (tSt X Φ wx (.ite ec sa sb)) := by
  refine PS.imp (ps_if hc ha hb) fun D σ H ⟨E, F, β, B, ρ, st, R, h⟩ => ?_
  unfold semS at h
  rw [← Res.bind_assoc] at h
  refine step_st R h fun b st1 F1 H1 e1 R1 h => ?_
  cases b with
  | true => exact ⟨E, F1, β, B, ρ, st1, R1, h⟩
  | false => exact ⟨E, F1, β, B, ρ, st1, R1, h⟩
/-- a value is stored -/
theorem store_ok' {i : Nat} {m : Md} {w : W} {v : V} (R : RelS K E F β B ρ st σ H) (e1 : Ext F β H F1 H1) (s1 : StOk K F1 β B H1 st1) (rv : RR K β B H F1 H1 v w) (h : PostS K mg wx E (store ρ i m w st1) D) : D.nx (σ.set i (some v)) H1 := by
  have R1 := R.ext e1 s1
  cases m with
  | pure =>
    cases w with
    | d x => exact h _ H1 F1 β B (R1.setW (w := .d x) rv.1 (fun _ e => nomatch e) (fun _ e => nomatch e) fun _ e => nomatch e)
    | new c => exact h _ H1 _ β B ((R.ext (frz_ext e1) (frz_st (hB_of R.rel) s1)).setW (w := .d c.dat) (rv.py rfl) (fun _ e => nomatch e) (fun _ e => nomatch e) fun _ e => nomatch e)
    | loc n => exact h _ H1 F1 β B (R1.setW (w := .loc n) rv.1 (fun _ e => nomatch e) (fun _ e => nomatch e) fun _ e => nomatch e)
    | bor c => exact h _ H1 F1 β B (R1.setW (w := .bor c) rv.1 (fun _ e => nomatch e) (fun _ e => nomatch e) fun _ e => nomatch e)
    | own c => exact h.elim
    | lent c => exact h.elim
  | own =>
    cases w with
    | new c =>
      obtain ⟨⟨a, rfl, h2, h3, h4⟩, hf⟩ := rv
      have hn := hf a rfl
      exact h _ H1 F1 β _ (R1.setOwn h2 h3 h4 (fun hu => hB_of R.rel a hu hn) (R.since.noneH h3 hn))
    | _ => exact h.elim
  | cell =>
    cases w with
    | new c =>
      obtain ⟨⟨a, rfl, h2, h3, h4⟩, hf⟩ := rv
      have hn := hf a rfl
      exact h _ H1 F1 _ B (R1.setCell h2 h3 h4 (fun hu => hB_of R.rel a hu hn) (R.since.noneH h3 hn))
    | _ => exact h.elim
theorem s_set {i : Nat} {m : Md} {n : Str} {p : Pos} (hN : X.N[i]? = some n) (hnd : X.N.Nodup) (hl : L2.Loc X.env.scope n) (hf : X.fn n = true) (he : PE X e (tEs X Φ wx ee)) (hs : swapsWith e (some (.Name n p)) pos.line X.env = pure false) : PS X (.Assign [.Name n p] e pos) (tSt X Φ wx (.set i m ee)) := by
  refine PS.imp (ps_set hnd hN hl he hs (.inl hf)) fun D σ H ⟨E, F, β, B, ρ, st, R, h⟩ => ?_
  unfold semS at h
  exact step_se R h fun w st1 F1 v H1 e1 R1 rv h => store_ok' R e1 R1.rel.st rv h
def noTup : Expr → Bool
  | .Tuple _ _ _ => false
  | _ => true
theorem solo_of {e : Expr} {ts : List Expr} {k : Nat} {p : Pos} {l : Nat} {env : Env} : swapsWithSole [.Tuple ts k p] e l env = pure false := by
  cases e <;> rfl
theorem swst_of {e : Expr} {ts : List Expr} {k : Nat} {p : Pos} {env : Env} (h : noTup e = true) : swappedStores [.Tuple ts k p] e env = pure none := by
  cases e <;> first | rfl | cases h
theorem s_unp {is : List Nat} {xs : List Expr} {k : Nat} {p : Pos} (hg : PG X (.Tuple xs k p) (gT X.K (.tp is))) (he : PE X e (tEs X Φ wx ee)) (ht : noTup e = true) : PS X (.Assign [.Tuple xs k p] e pos) (tSt X Φ wx (.unp is ee)) := by
  refine PS.imp (ps_asg he hg solo_of (swst_of ht)) fun D σ H ⟨E, F, β, B, ρ, st, R, h⟩ => ?_
  unfold semS at h
  refine step_se R h fun w st1 F1 v H1 e1 R1 rv h => ?_
  cases q : w.rd st1 with
  | none => rw [q] at h; exact h.elim
  | some d =>
    rw [q, Option.bind_some] at h
    cases q2 : setT (.tp is) d ρ with
    | none => rw [q2] at h; exact h.elim
    | some ρ2 =>
      rw [q2] at h
      have rd := rv.1.rdp R1.rel.st q
      cases d with
      | tuple ds =>
        have rp : Rp X.K F1 H1 v (.tuple ds) := by
          rcases rd with rd | ⟨a, vs, ys, rfl, e, _⟩
          · exact rd
          · cases e
        exact gT_ok R1.rel rp q2 fun σ2 R2 _ _ => h σ2 H1 F1 β B ⟨R2, R1.since⟩
      | _ => cases q2
/-- the object in a slot is changed -/
theorem chg_ok {i : Nat} {f : C → Option C} (R : RelS K E F β B ρ st σ H) (h : PostS K mg wx E (chg ρ i st f) D) : ∃ a xs vs c, σ[i]? = some (some (.ref a)) ∧ H a = some (.lst vs) ∧ RpAll K F H vs xs ∧ f (.lst xs) = some c ∧
    ∀ ys us, c = .lst ys → RpAll K F H us ys → D.nx σ (upd H a (.lst us)) := by
  have hm : mutB ρ i = true := by
    unfold chg at h
    unfold mutB
    cases q : ρ[i]? with
    | none => rw [q] at h; exact h.elim
    | some o =>
      rw [q] at h
      cases o with
      | none => exact h.elim
      | some w => cases w <;> first | rfl | exact h.elim
  obtain ⟨a, xs, vs, h1, h2, h3, hk⟩ := R.mut hm
  rcases hk with ⟨q1, ho⟩ | ⟨n, q1, q2, q3⟩
  · unfold chg at h
    simp only [q1] at h
    cases q : f (.lst xs) with
    | none => rw [q] at h; exact h.elim
    | some c =>
      rw [q] at h
      refine ⟨a, xs, vs, c, h1, h2, h3, q, fun ys us ec ra => ?_⟩
      subst ec
      exact h _ _ _ _ _ (R.putOwn q1 h1 ho h2 ra)
  · unfold chg at h
    simp only [q1, q3, Option.bind_some] at h
    cases q : f (.lst xs) with
    | none => rw [q] at h; exact h.elim
    | some c =>
      rw [q] at h
      refine ⟨a, xs, vs, c, h1, h2, h3, q, fun ys us ec ra => ?_⟩
      subst ec
      exact h _ _ _ _ _ (R.putCell q2 h2 ra)
theorem s_sub {i : Nat} {n : Str} {p p2 : Pos} {k : Expr} {ek : Gm.E} (hN : X.N[i]? = some n) (hv : Vis X.env.scope n) (hd : (n == ("__debug__" : Str)) = false) (hcd : (n == ("__classdict__" : Str)) = false) (he : PE X e (tEs X Φ wx ee)) (hk : PE X k (tEs X Φ wx ek)) (hpk : plainB k = true) :
    PS X (.Assign [.Subscript (.Name n p) k p2] e pos) (tSt X Φ wx (.sub i ek ee)) := by
  refine PS.imp (ps_asg he (pg_sub (pe_var hN hv hd hcd) hk set_list (by intro v; cases k <;> first | rfl | cases hpk)) (by cases e <;> rfl) (by cases e <;> rfl)) fun D σ H ⟨E, F, β, B, ρ, st, R, h⟩ => ?_
  unfold semS at h
  refine step_se R h fun w st1 F1 v H1 e1 R1 rv h => ?_
  split at h
  · rename_i hm
    obtain ⟨a, xs, vs, h1, h2, h3, _⟩ := R1.mut hm
    refine ⟨_, h1, step_se R1 h fun u st2 F2 y H2 e2 R2 ry h => ?_⟩
    split at h
    · rename_i dy dk q1 q2
      have rp := (rv.keep e2 R1.rel.st).py q1
      have R3 := R.ext (frz_ext (e1.trans e2)) (frz_st (hB_of R.rel) R2.rel.st)
      obtain ⟨a', xs', vs', c, g1, g2, g3, g4, g5⟩ := chg_ok R3 h
      rw [h1] at g1
      cases g1
      obtain ⟨l, g6, g7⟩ := Option.map_eq_some_iff.mp (show (setL xs' dk dy).map C.lst = some c from g4)
      obtain ⟨ix, g8, g9⟩ := Option.bind_eq_some_iff.mp g6
      obtain ⟨j, g10, g11⟩ := Option.map_eq_some_iff.mp g9
      subst g7 g11
      exact ⟨a, vs', ix, j, rfl, int_of R2.rel.st ry.1 q2 g8, g2, by rw [g3.length]; exact g10, g5 _ _ rfl (g3.set rp j)⟩
    · exact h.elim
  · exact h.elim
/-! ### append, extend -/
def rExtendR : V → List V → Hp → VK → Prop := fun x vs H Q => ∃ l b xs zs, x = .ref l ∧ vs = [.ref b] ∧ H l = some (.lst xs) ∧ Rd H b (.lst zs) ∧ xs.length + zs.length ≤ sizeLine ∧ Q .non (upd H l (.lst (xs ++ zs)))
theorem mt_extendR : MtM X "list.extend" rExtendR := by
  intro pins s σ H x vs v us Q I rx rv h
  obtain ⟨l, b, xs, zs, rfl, rfl, hH, hB, hz, q⟩ := h
  cases rx
  obtain ⟨u, rfl, ru⟩ := rv.one
  cases ru
  obtain ⟨z, its, n, r, hl, e⟩ := I.lstM hH
  obtain ⟨z2, its2, n2, r2, hl2, e2⟩ := rd_lst I hB
  have hsz : its.toArray.size + its2.toArray.size ≤ sizeLine := by rw [List.size_toArray, List.size_toArray]; omega
  have hlong : ¬ (!its.toArray.isEmpty && Builtin.List.listTooLong (its.toArray.size + its2.toArray.size)) = true := by
    rw [notLongL hsz, Bool.and_false]
    exact Bool.false_ne_true
  refine call_meets F.slot_list_extend ⟨_, e, rfl⟩ F.entry_list_extend (F.args_list_extend_2 _ _)
    (AutoSeq1.list_extend_list_list_0 l its.toArray n b its2.toArray n2 hlong (by rw [List.size_toArray]; omega) (by omega)) ⟨e, e2, ?_⟩
  refine ⟨.non, _, I.lset (its' := its ++ its2) hH e (by simp) (r.append r2) ?_, rfl, q⟩
  rw [List.length_append]
  omega
theorem tyl {a : Addr} {vs : List V} (h : H a = some (.lst vs)) : tyV K "list" (.ref a) H := .inl ⟨rfl, vs, .inl (.inl h)⟩
theorem s_app {i : Nat} {n nm : Str} {p apos cpos : Pos} (hN : X.N[i]? = some n) (hv : Vis X.env.scope n) (hd : (n == ("__debug__" : Str)) = false) (hcd : (n == ("__classdict__" : Str)) = false) (hnm : nm = "append") (he : PE X e (tEs X Φ wx ee)) (hst : noStar e = true) (hline : (apos.endLine == cpos.line) = true) :
    PS X (.Expr (.Call (.Attribute (.Name n p) nm apos) [e] [] cpos) pos) (tSt X Φ wx (.app i ee)) := by
  subst hnm
  refine PS.imp (ps_expr (pe_bm PySem.F.plainAttrs_list PySem.F.slot_list_append PySem.F.type_list_append mt_append (pe_var hN hv hd hcd) (pa_cons he pa_nil (star_of hst)) (attr_plain rfl) (by rw [star_of hst]; rfl) hline (star_of hst) rfl)) fun D σ H ⟨E, F, β, B, ρ, st, R, h⟩ => ?_
  unfold semS at h
  split at h
  · rename_i hm
    obtain ⟨a, xs, vs, h1, h2, h3, _⟩ := R.mut hm
    refine ⟨_, h1, tyl h2, ?_⟩
    refine step_se R h fun w st1 F1 v H1 e1 R1 rv h => ?_
    split at h
    · rename_i y q1
      have rp := rv.py q1
      obtain ⟨a', xs', vs', c, g1, g2, g3, g4, g5⟩ := chg_ok (R.ext (frz_ext e1) (frz_st (hB_of R.rel) R1.rel.st)) h
      rw [h1] at g1
      cases g1
      have g4 : (if xs'.length < lineN then some (C.lst (xs' ++ [y])) else none) = some c := g4
      split at g4
      · rename_i hz
        cases g4
        exact ⟨a, vs', v, rfl, rfl, g2, by rw [g3.length]; exact hz, g5 _ _ rfl (g3.append (.cons rp .nil))⟩
      · cases g4
    · exact h.elim
  · exact h.elim
theorem s_ext {i : Nat} {n nm : Str} {p apos cpos : Pos} (hN : X.N[i]? = some n) (hv : Vis X.env.scope n) (hd : (n == ("__debug__" : Str)) = false) (hcd : (n == ("__classdict__" : Str)) = false) (hnm : nm = "extend") (he : PE X e (tEs X Φ wx ee)) (hst : noStar e = true) (hline : (apos.endLine == cpos.line) = true) :
    PS X (.Expr (.Call (.Attribute (.Name n p) nm apos) [e] [] cpos) pos) (tSt X Φ wx (.ext i ee)) := by
  subst hnm
  refine PS.imp (ps_expr (pe_bm PySem.F.plainAttrs_list PySem.F.slot_list_extend PySem.F.type_list_extend mt_extendR (pe_var hN hv hd hcd) (pa_cons he pa_nil (star_of hst)) (attr_plain rfl) (by rw [star_of hst]; rfl) hline (star_of hst) rfl)) fun D σ H ⟨E, F, β, B, ρ, st, R, h⟩ => ?_
  unfold semS at h
  split at h
  · rename_i hm
    obtain ⟨a, xs, vs, h1, h2, h3, _⟩ := R.mut hm
    refine ⟨_, h1, tyl h2, ?_⟩
    refine step_se R h fun w st1 F1 v H1 e1 R1 rv h => ?_
    split at h
    · rename_i ys q1
      obtain ⟨b, zs, rfl, k1, k2⟩ := (rv.1.rdp R1.rel.st q1).list
      obtain ⟨a', xs', vs', c, g1, g2, g3, g4, g5⟩ := chg_ok R1 h
      rw [h1] at g1
      cases g1
      have g4 : (if xs'.length + ys.length ≤ lineN then some (C.lst (xs' ++ ys)) else none) = some c := g4
      split at g4
      · rename_i hz
        cases g4
        exact ⟨a, b, vs', zs, rfl, rfl, g2, k1, by rw [g3.length, k2.length]; exact hz, g5 _ _ rfl (g3.append k2)⟩
      · cases g4
    · exact h.elim
  · exact h.elim
end
end Gm

/-! The deep layer, part G3: loops; the checker of statements. -/
namespace Gm
open PySem PySem.Spec PyProof.Rows L2
section
variable {X : Cx} {Φ : Phi} {T : Tb} {wx : WX} {N : List Str} {sc : Scope} {K : PySem.W.Frag} {mg : Str → Option Value} {E : Ent} {F F1 : Addr → Prop} {β : List Addr} {B : Bs} {ρ : Rho} {st st1 : Stt} {σ : L2.St} {H H1 : Hp} {D : Ends} {pos : Pos} {a x e tg : Expr} {ea ee : Gm.E}
/-! ### what a for statement walks -/
def Stab (F : Addr → Prop) (H : Hp) (B : Bs) (H2 : Hp) : Prop := (∀ a vs, F a → Rd H a (.lst vs) → Rd H2 a (.lst vs)) ∧ (∀ a vs, Rd H a (.tup vs) → Rd H2 a (.tup vs)) ∧ ∀ a, B.b a → H2 a = H a
def RIF (K : PySem.W.Frag) : RepI := fun _ B _ F' H' J xs => ∃ vs, RpAll K F' H' vs xs ∧ ∀ H2 : Hp, Stab F' H' B H2 → WalkAt J vs H2
theorem back_RIF {β : List Addr} {B : Bs} : Back β (RIF K β B) := fun _ _ _ _ _ _ _ _ _ h => h
theorem walk_l' {a : Addr} {vs : List V} {H : Hp} (h : Rd H a (.lst vs)) : WalkAt (Itl K a) vs H := fun i => ⟨fun hi => ⟨⟨vs, vs[i], .inl h, List.getElem?_eq_getElem hi⟩, fun x H' ⟨e1, e2⟩ => ⟨e1, e2 vs (.inl h)⟩⟩, fun hi => ⟨vs, .inl h, hi⟩⟩
theorem i_ofF (ha : PE X a (tEs X Φ wx ea)) : PI X tg a (tIr (RIF X.K) X.K X.mg wx (semF Φ (.of ea))) := by
  refine PI.imp (pi_seq ha) fun σ H Q ⟨F, β, B, ρ, st, R, h⟩ => ?_
  unfold semF at h
  refine ⟨F, β, B, ρ, st, R, (Post.step back_RIF h).imp fun v H1 ⟨w, st1, F1, e1, s1, rv, h⟩ => ?_⟩
  have R1 := R.ext e1 s1
  have h : (∀ n, w ≠ .loc n) ∧ (∀ c, w ≠ .lent c) ∧ Post X.K X.mg β B (RIF X.K β B) F H (fun c d H' => wx c d σ H') (Res.ofO st1 ((w.rd st1).bind itemsD)) Q := by
    refine ⟨fun n e => ?_, fun c e => ?_, ?_⟩
    · subst e; exact h.elim
    · subst e; exact h.elim
    · cases w <;> first | exact h.elim | exact h
  obtain ⟨hl, hlt, h⟩ := h
  obtain ⟨ds, e, h⟩ := Post.ofO h
  obtain ⟨d, h1, h2⟩ := Option.bind_eq_some_iff.mp e
  have ez := frz_ext e1
  have sz := frz_st (hB_of R) s1
  have fin : ∀ {J : L2.It}, RIF X.K β B H (frzF F1 β H H1) H1 J ds → Q J H1 := fun {J} q => Post.doneX h ez sz q
  cases d with
  | list xs =>
    cases h2
    have key : ∃ a vs, v = .ref a ∧ Rd H1 a (.lst vs) ∧ RpAll X.K (frzF F1 β H H1) H1 vs ds ∧ (frzF F1 β H H1 a ∨ B.b a) := by
      cases w with
      | d y =>
        cases h1
        cases rv.1 with
        | lst g1 g2 ga => exact ⟨_, _, rfl, g1, RpAll.keep frz_kp _ _ ga, .inl (.inl g2)⟩
      | new c =>
        have h1 : c.dat = .list ds := Option.some.inj h1
        have rp := rv.py (x := c.dat) rfl
        rw [h1] at rp
        cases rp with
        | lst g1 g2 ga => exact ⟨_, _, rfl, g1, ga, .inl g2⟩
      | bor c =>
        obtain ⟨a, rfl, g2, g3⟩ := rv.1
        cases c with
        | lst ys =>
          cases (show some (PyData.list ys) = some (PyData.list ds) from h1)
          obtain ⟨vs, g4, g5⟩ := g2
          exact ⟨a, vs, rfl, .inl g4, RpAll.keep frz_kp _ _ g5, .inr g3⟩
      | loc n => exact absurd rfl (hl n)
      | lent c => exact absurd rfl (hlt c)
      | own c => cases h1
    obtain ⟨a, vs, rfl, g1, g2, g3⟩ := key
    refine .inl ⟨a, rfl, ⟨vs, .inl g1⟩, fin ⟨vs, g2, fun H2 k => walk_l' ?_⟩⟩
    rcases g3 with g3 | g3
    · exact k.1 a vs g3 g1
    · exact rd_eq g1 (k.2.2 a g3)
  | tuple xs =>
    cases h2
    obtain ⟨a, vs, rfl, g1, g2⟩ := (rv.1.rdp s1 h1).tuple
    refine .inr (.inl ⟨a, rfl, ⟨vs, g1⟩, fin ⟨vs, RpAll.keep frz_kp _ _ g2, fun H2 k => walk_t ?_⟩⟩)
    rcases g1 with g1 | g1
    · exact .inl (k.2.1 a vs g1)
    · exact .inr g1
  | str y =>
    cases h2
    exact .inr (.inr ⟨y, (rv.1.rdp s1 h1).str, fin ⟨_, rp_strs _, fun H2 _ => walk_s⟩⟩)
  | _ => cases h2
def Ent.mark (E : Ent) (F : Addr → Prop) (H : Hp) : Ent := { E with M := (F, H) :: E.M }
theorem Since.mark (S : Since E F β B H) : Since (E.mark F H) F β B H := ⟨S.ext, S.pre, S.bb, S.bp, S.oo, fun m hm => by
  rcases List.mem_cons.mp hm with rfl | hm
  · exact ⟨fun _ h => h, fun _ _ h => h, fun _ _ _ h => h⟩
  · exact S.mks m hm⟩
theorem Since.unmark {F' : Addr → Prop} {H' : Hp} (S : Since (E.mark F' H') F β B H) : Since E F β B H := ⟨S.ext, S.pre, S.bb, S.bp, S.oo, fun m hm => S.mks m (List.mem_cons_of_mem _ hm)⟩
theorem PostS.mark {F' : Addr → Prop} {H' : Hp} {r : Res Fl} {D' : Ends} (hrt : D'.rt = D.rt) (h : PostS K mg wx E r D) (hn : ∀ ρ st, r = .ok (.nx ρ) st → ∀ σ H F β B, RelS K (E.mark F' H') F β B ρ st σ H → D'.nx σ H) : PostS K mg wx (E.mark F' H') r D' := by
  cases r with
  | bad => exact h
  | ex x s => exact fun c d σ H F β B s S q => h c d σ H F β B s S.unmark q
  | ok fl s =>
    cases fl with
    | nx ρ => exact hn ρ s rfl
    | rt w =>
      intro v H F β B s' S q
      rw [hrt]
      refine h v H F β B s' S.unmark ?_
      cases w <;> exact q
theorem s_for {t : Gm.T} {it : It} {b : Ss} {iter : Expr} {body : List Stmt} (hp : PassesOwn (model X.prog X.w) X.A X.env X.xe) (hc : X.calm = true) (hi : PI X tg iter (tIr (RIF X.K) X.K X.mg wx (semF Φ it))) (hg : PG X tg (gT X.K t)) (hb : PSs X body (tSs X Φ wx b)) (hs : noSet iter = true) :
    PS X (.For tg iter body [] pos) (tSt X Φ wx (.for_ t it b)) := by
  refine PS.imp (ps_for hp hc hi hg hb (folded_of hs)) fun D σ H ⟨E, F, β, B, ρ, st, R, h⟩ => ?_
  unfold semS at h
  generalize hf : (fun (x : PyData) (ρ : Rho) (s : Stt) => (Res.ofO s (setT t x ρ)).bind fun ρ s => semSs Φ b ρ s) = f at h
  refine ⟨F, β, B, ρ, st, R.rel, step_s R h fun xs st1 F1 J H1 e1 R1 ⟨vs, ra, wk⟩ h => ?_⟩
  have hlen := ra.length
  refine ⟨fun i m σ' H' => m = xs.length - i ∧ i ≤ xs.length ∧ ∃ F' β' B' ρ' st', RelS X.K (E.mark F1 H1) F' β' B' ρ' st' σ' H' ∧ PostS X.K X.mg wx E (forL f (xs.drop i) ρ' st') D,
    ⟨_, rfl, Nat.zero_le _, F1, β, B, ρ, st1, ⟨R1.rel, R1.since.mark⟩, by rw [List.drop_zero]; exact h⟩, ?_⟩
  rintro i m σ' H' ⟨rfl, hi, F', β', B', ρ', st', R', h'⟩
  have kp : Kp F1 H1 F' H' := R'.since.mks _ List.mem_cons_self
  have sb : Stab F1 H1 B H' := ⟨fun a vs hF hr => kp.lst a vs hF hr, fun a vs hr => kp.tup a vs hr, fun a hb => by
    rw [R1.since.bb] at hb
    obtain ⟨p1, p2⟩ := R1.since.bp a hb
    rw [R1.since.ext.un a p1 p2]
    exact R'.since.ext.un a p1 p2⟩
  have wk' := wk H' sb i
  by_cases hlt : i < xs.length
  · obtain ⟨go, yl⟩ := wk'.1 (by omega)
    refine .inr ⟨go, fun σ'' H'' => i + 1 ≤ xs.length ∧ ∃ F' β' B' ρ' st', RelS X.K (E.mark F1 H1) F' β' B' ρ' st' σ'' H'' ∧ PostS X.K X.mg wx E (forL f (xs.drop (i + 1)) ρ' st') D,
      fun σ'' H'' q => ⟨xs.length - (i + 1), by omega, rfl, q⟩, fun x Hx hx => ?_⟩
    obtain ⟨rfl, hvx⟩ := yl x Hx hx
    obtain ⟨d, hd, rx⟩ := ra.get' hvx
    have hdrop : xs.drop i = d :: xs.drop (i + 1) := by
      obtain ⟨hl', hd'⟩ := List.getElem?_eq_some_iff.mp hd
      rw [← hd']
      exact (List.drop_eq_getElem_cons hl')
    rw [hdrop] at h'
    unfold forL at h'
    rw [← hf] at h'
    simp only at h'
    cases q1 : setT t d ρ' with
    | none => rw [q1] at h'; exact h'.elim
    | some ρ2 =>
      rw [q1] at h'
      simp only [Res.ofO_some, Res.bind_ok] at h'
      refine gT_ok R'.rel (Rp.keep kp _ _ rx) q1 fun σ2 R2 _ _ => ⟨E.mark F1 H1, F', β', B', ρ2, st', ⟨R2, R'.since⟩, ?_⟩
      cases q2 : semSs Φ b ρ2 st' with
      | bad => rw [q2] at h'; exact h'
      | ex x s => rw [q2] at h'; exact fun c d σ H F β B s S q => h' c d σ H F β B s S.unmark q
      | ok fl s =>
        rw [q2] at h'
        cases fl with
        | nx ρ3 => exact fun σ3 H3 F3 β3 B3 R3 => ⟨hlt, F3, β3, B3, ρ3, s, R3, by rw [hf] at h'; exact h'⟩
        | rt w =>
          intro v H F β B s' S q
          refine h' v H F β B s' S.unmark ?_
          cases w <;> exact q
  · have hie : i = xs.length := by omega
    subst hie
    rw [List.drop_length] at h'
    unfold forL at h'
    exact .inl ⟨wk'.2 (by omega), h' σ' H' F' β' B' ⟨R'.rel, R'.since.unmark⟩⟩
theorem s_whl {n : Nat} {c : Expr} {ec : Gm.E} {b : Ss} {body : List Stmt} (hp : PassesOwn (model X.prog X.w) X.A X.env X.xe) (hc : PT X c (tTs X Φ wx ec)) (hb : PSs X body (tSs X Φ wx b)) :
    PS X (.While c body [] pos) (tSt X Φ wx (.whl n ec b)) := by
  refine PS.imp (ps_while hp hc hb) fun D σ H ⟨E, F, β, B, ρ, st, R, h⟩ => ?_
  unfold semS at h
  generalize hg : (fun (ρ : Rho) (s : Stt) => (sem Φ ec ρ s).bind fun x s => truth x s) = g at h
  generalize hf : (fun (ρ : Rho) (s : Stt) => semSs Φ b ρ s) = f at h
  refine ⟨fun m σ' H' => ∃ F' β' B' ρ' st', RelS X.K E F' β' B' ρ' st' σ' H' ∧ PostS X.K X.mg wx E (whlL g f m ρ' st') D, ⟨n, F, β, B, ρ, st, R, h⟩, ?_⟩
  rintro m σ' H' ⟨F', β', B', ρ', st', R', h'⟩
  cases m with
  | zero => exact h'.elim
  | succ m =>
    unfold whlL at h'
    rw [← hg] at h'
    refine step_st (f := fun ρ s => (sem Φ ec ρ s).bind truth) R' h' fun bb st1 F1 H1 e1 R1 h1 => ?_
    cases bb with
    | false => exact h1 σ' H1 F1 β' B' R1
    | true =>
      simp only [if_true] at h1 ⊢
      refine ⟨fun σ'' H'' => ∃ F' β' B' ρ' st', RelS X.K E F' β' B' ρ' st' σ'' H'' ∧ PostS X.K X.mg wx E (whlL g f m ρ' st') D, fun σ'' H'' q => ⟨m, Nat.lt_succ_self m, q⟩, E, F1, β', B', ρ', st1, R1, ?_⟩
      rw [← hf] at h1
      cases q2 : semSs Φ b ρ' st1 with
      | bad => simp only [q2] at h1; exact h1
      | ex x s => simp only [q2] at h1; exact h1
      | ok fl s =>
        simp only [q2, Res.bind_ok] at h1
        cases fl with
        | nx ρ3 => exact fun σ3 H3 F3 β3 B3 R3 => ⟨F3, β3, B3, ρ3, s, R3, by rw [hg, hf] at h1; exact h1⟩
        | rt w => exact h1
end
end Gm

/-! The deep layer, part G4: the checker of statements; it is right. -/
namespace Gm
open PySem PySem.Spec PyProof.Rows L2
def isLcB : Expr → Bool
  | .ListComp _ _ _ _ => true
  | _ => false
mutual
def chkS (N : List Str) (T : Tb) (sc : Scope) : S → Stmt → Bool
  | .set i m e, x => match x with
    | .Assign [.Name n p] y _ => decide (N[i]? = some n) && locB sc n && (noComp y || isLcB y) && chkE N T sc e y
    | _ => false
  | .unp is e, x => match x with
    | .Assign [.Tuple xs k p] y _ => chkT N sc (.tp is) (.Tuple xs k p) && noTup y && chkE N T sc e y
    | _ => false
  | .sub i k e, x => match x with
    | .Assign [.Subscript (.Name n _) z _] y _ => decide (N[i]? = some n) && visB sc n && nmB n && plainB z && chkE N T sc k z && chkE N T sc e y
    | _ => false
  | .app i e, x => match x with
    | .Expr (.Call (.Attribute (.Name n _) nm apos) [y] [] cpos) _ => decide (N[i]? = some n) && visB sc n && nmB n && decide (nm = "append") && noStar y && (apos.endLine == cpos.line) && chkE N T sc e y
    | _ => false
  | .ext i e, x => match x with
    | .Expr (.Call (.Attribute (.Name n _) nm apos) [y] [] cpos) _ => decide (N[i]? = some n) && visB sc n && nmB n && decide (nm = "extend") && noStar y && (apos.endLine == cpos.line) && chkE N T sc e y
    | _ => false
  | .exp e, x => match x with
    | .Expr y _ => noComp y && chkE N T sc e y
    | _ => false
  | .ret e, x => match x with
    | .Return (some y) _ => chkE N T sc e y
    | _ => false
  | .rtv i, x => match x with
    | .Return (some (.Name n _)) _ => decide (N[i]? = some n) && visB sc n && nmB n
    | _ => false
  | .ite c a b, x => match x with
    | .If y ys zs _ => chkE N T sc c y && chkSs N T sc a ys && chkSs N T sc b zs
    | _ => false
  | .for_ t it b, x => match x with
    | .For tg iter body [] _ => chkT N sc t tg && noSet iter && chkI N T sc it iter && chkSs N T sc b body
    | _ => false
  | .whl _ c b, x => match x with
    | .While y body [] _ => chkE N T sc c y && chkSs N T sc b body
    | _ => false
def chkSs (N : List Str) (T : Tb) (sc : Scope) : Ss → List Stmt → Bool
  | .nil, xs => match xs with | [] => true | _ => false
  | .cons s r, xs => match xs with | x :: xs => chkS N T sc s x && chkSs N T sc r xs | _ => false
  | .frz _ r, xs => chkSs N T sc r xs
end
/-- a def's body runs -/
structure FitS (X : Cx) (Φ : Phi) (T : Tb) (wx : WX) (N : List Str) (sc : Scope) : Prop extends Fits X Φ T wx N sc where
  all : ∀ n, X.fn n = true
  own : PassesOwn (model X.prog X.w) X.A X.env X.xe
  kind : X.env.scope.kind = .function
section
variable {X : Cx} {Φ : Phi} {T : Tb} {wx : WX} {N : List Str} {sc : Scope} {pos : Pos}
theorem sw_false {elt : Expr} {gs : List Comprehension} {scope : Scope} {p py : Pos} {y : Str} {l : Nat} {env : Env} (hk : env.scope.kind = .function)
    (h : ¬ (env.scope.names.lookup y = some .local ∧ (py.line == p.line) = true ∧ (scope.names.any fun (n, k) => n == y && (k == .local || k == .cell)) = false)) : swapsWith (.ListComp elt gs scope p) (some (.Name y py)) l env = pure false := by
  have hb : env.blockKind = .function := by unfold Env.blockKind; rw [hk]; rfl
  have ky : env.kindOf y = env.scope.names.lookup y := rfl
  unfold swapsWith
  simp only [hb, ky, Expr.pos]
  have key : (ScopeKind.function == ScopeKind.function && env.scope.names.lookup y == some NameKind.local && py.line == p.line && !(scope.names.any fun (n, k) => n == y && (k == .local || k == .cell))) = false := by
    rw [Bool.eq_false_iff]
    intro q
    simp only [Bool.and_eq_true, Bool.not_eq_true'] at q
    exact h ⟨by simpa using q.1.1.2, q.1.2, q.2⟩
  exact congrArg pure key
theorem lc_inv {elt : Gm.E} {e : Gm.E} {y : Expr} (hl : isLcB y = true) (h : chkE N T sc e y = true) : ∃ elt t it cs own y' tg iter ifs scope p, e = .lc elt t it cs own ∧ y = .ListComp y' [⟨tg, iter, ifs, 0⟩] scope p ∧
    (ownOf N own).map (·.2) = own ∧ blkC N sc scope (ownOf N own) = true ∧ (tgs t).all (fun i => decide (i ∈ own)) = true ∧ noSet iter = true ∧ chkT N scope t tg = true ∧ chkI N T sc it iter = true ∧ chkCs N T (relS scope sc) cs ifs = true ∧ chkE N T (relS scope sc) elt y' = true := by
  cases y with
  | ListComp y' gs scope p =>
    cases e with
    | lc elt t it cs own =>
      unfold chkE at h
      split at h
      · rename_i e1
        cases e1
        simp only [Bool.and_eq_true, decide_eq_true_eq] at h
        obtain ⟨⟨⟨⟨⟨⟨⟨h1, h2⟩, h3⟩, h4⟩, h5⟩, h6⟩, h7⟩, h8⟩ := h
        exact ⟨elt, t, it, cs, own, _, _, _, _, _, _, rfl, rfl, h1, h2, h3, h4, h5, h6, h7, h8⟩
      · cases h
    | _ => unfold chkE at h; cases h
  | _ => cases hl
theorem s_setLc {i : Nat} {m : Md} {n : Str} {p : Pos} {e : Gm.E} {y : Expr} (f : FitS X Φ T wx N sc) (hN : X.N[i]? = some n) (hl : L2.Loc X.env.scope n) (hy : isLcB y = true) (h : chkE N T sc e y = true) : PS X (.Assign [.Name n p] y pos) (tSt X Φ wx (.set i m e)) := by
  have he := (chkE_ok e y f.toFits h).1
  obtain ⟨elt, t, it, cs, own, y', tg, iter, ifs, scope, p', rfl, rfl, h1, h2, h3, h4, h5, h6, h7, h8⟩ := lc_inv (elt := e) hy h
  by_cases hc : X.env.scope.names.lookup n = some .local ∧ (p.line == p'.line) = true ∧ (scope.names.any fun (m, k) => m == n && (k == .local || k == .cell)) = false
  · obtain ⟨c1, c2, c3⟩ := hc
    obtain ⟨tt, g1, g2, g3, g4, g5⟩ := lc_parts (wx := wx) (it := it) f.toFits h1 h2 h3 h5 (fun ifs f h => chkCs_ok cs ifs f h) h7 (fun x f h => (chkE_ok elt x f h).1) h8
    refine PS.imp (ps_setLc f.side.calm f.side.nd hN c1 (sw_true f.kind c1 c2 c3) (chkI_ok it _ f.toFits h6) g1 g2 g3 g4 (folded_of h4)) fun D σ H ⟨E, F, β, B, ρ, st, R, h⟩ => ?_
    unfold semS at h
    exact g5 σ H _ (step_se R h fun w st1 F1 v H1 e1 R1 rv h => store_ok' R e1 R1.rel.st rv h)
  · exact s_set hN f.side.nd hl (f.all n) he (sw_false f.kind hc)
mutual
theorem chkS_ok (f : FitS X Φ T wx N sc) : ∀ (s : S) (x : Stmt), chkS N T sc s x = true → PS X x (tSt X Φ wx s)
  | .set i m e, x, h => by
    unfold chkS at h
    split at h
    · rename_i n p y pos
      simp only [Bool.and_eq_true, decide_eq_true_eq, Bool.or_eq_true] at h
      obtain ⟨⟨⟨h1, h2⟩, h3⟩, h4⟩ := h
      have hl : L2.Loc X.env.scope n := by rw [f.scp]; exact locB_ok h2
      rcases h3 with h3 | h3
      · exact s_set (by rw [f.n]; exact h1) f.side.nd hl (f.all _) (chkE_ok e _ f.toFits h4).1 (swaps_of h3)
      · exact s_setLc f (by rw [f.n]; exact h1) hl h3 h4
    · cases h
  | .unp is e, x, h => by
    unfold chkS at h
    split at h
    · simp only [Bool.and_eq_true] at h
      obtain ⟨⟨h1, h2⟩, h3⟩ := h
      exact s_unp (tg_ok (t := .tp is) f.side.calm f.n f.side.nd (fun n hn => ⟨by rw [f.scp]; exact hn, .inl (f.all n)⟩) h1) (chkE_ok e _ f.toFits h3).1 h2
    · cases h
  | .sub i k e, x, h => by
    unfold chkS at h
    split at h
    · simp only [Bool.and_eq_true, decide_eq_true_eq] at h
      obtain ⟨⟨⟨⟨⟨h1, h2⟩, h3⟩, h4⟩, h5⟩, h6⟩ := h
      exact s_sub (by rw [f.n]; exact h1) (by rw [f.scp]; exact visB_ok h2) (nmB_ok h3).1 (nmB_ok h3).2 (chkE_ok e _ f.toFits h6).1 (chkE_ok k _ f.toFits h5).1 h4
    · cases h
  | .app i e, x, h => by
    unfold chkS at h
    split at h
    · simp only [Bool.and_eq_true, decide_eq_true_eq] at h
      obtain ⟨⟨⟨⟨⟨⟨h1, h2⟩, h3⟩, h4⟩, h5⟩, h6⟩, h7⟩ := h
      exact s_app (by rw [f.n]; exact h1) (by rw [f.scp]; exact visB_ok h2) (nmB_ok h3).1 (nmB_ok h3).2 h4 (chkE_ok e _ f.toFits h7).1 h5 h6
    · cases h
  | .ext i e, x, h => by
    unfold chkS at h
    split at h
    · simp only [Bool.and_eq_true, decide_eq_true_eq] at h
      obtain ⟨⟨⟨⟨⟨⟨h1, h2⟩, h3⟩, h4⟩, h5⟩, h6⟩, h7⟩ := h
      exact s_ext (by rw [f.n]; exact h1) (by rw [f.scp]; exact visB_ok h2) (nmB_ok h3).1 (nmB_ok h3).2 h4 (chkE_ok e _ f.toFits h7).1 h5 h6
    · cases h
  | .exp e, x, h => by
    unfold chkS at h
    split at h
    · obtain ⟨h1, h2⟩ := Bool.and_eq_true_iff.mp h
      exact s_exp (chkE_ok e _ f.toFits h2).1 h1
    · cases h
  | .ret e, x, h => by
    unfold chkS at h
    split at h
    · exact s_ret (chkE_ok e _ f.toFits h).1
    · cases h
  | .rtv i, x, h => by
    unfold chkS at h
    split at h
    · simp only [Bool.and_eq_true, decide_eq_true_eq] at h
      obtain ⟨⟨h1, h2⟩, h3⟩ := h
      exact s_rtv (by rw [f.n]; exact h1) (by rw [f.scp]; exact visB_ok h2) (nmB_ok h3).1 (nmB_ok h3).2
    · cases h
  | .ite c a b, x, h => by
    unfold chkS at h
    split at h
    · simp only [Bool.and_eq_true] at h
      obtain ⟨⟨h1, h2⟩, h3⟩ := h
      exact s_ite (chkE_ok c _ f.toFits h1).2 (chkSs_ok f a _ h2) (chkSs_ok f b _ h3)
    · cases h
  | .for_ t it b, x, h => by
    unfold chkS at h
    split at h
    · simp only [Bool.and_eq_true] at h
      obtain ⟨⟨⟨h1, h2⟩, h3⟩, h4⟩ := h
      refine s_for f.own f.side.calm ?_ (tg_ok f.side.calm f.n f.side.nd (fun n hn => ⟨by rw [f.scp]; exact hn, .inl (f.all n)⟩) h1) (chkSs_ok f b _ h4) h2
      cases it with
      | of a => unfold chkI at h3; exact i_ofF (chkE_ok a _ f.toFits h3).1
      | rng a =>
        unfold chkI at h3
        split at h3
        · simp only [Bool.and_eq_true, decide_eq_true_eq] at h3
          obtain ⟨⟨⟨⟨k1, k2⟩, k3⟩, k4⟩, k5⟩ := h3
          unfold semF
          exact i_rng (rep := RIF X.K) (fun _ _ => back_RIF) (fun _ _ _ _ _ _ _ _ ra w => ⟨_, ra, fun H2 _ => w H2⟩) k1 f.side k2 (glB_ok f.scp k3) (chkE_ok a _ f.toFits k5).1 k4
        · cases h3
      | rng2 a b =>
        unfold chkI at h3
        split at h3
        · simp only [Bool.and_eq_true, decide_eq_true_eq] at h3
          obtain ⟨⟨⟨⟨⟨⟨k1, k2⟩, k3⟩, k4⟩, k4'⟩, k5⟩, k6⟩ := h3
          unfold semF
          exact i_rng2 (rep := RIF X.K) (fun _ _ => back_RIF) (fun _ _ _ _ _ _ _ _ ra w => ⟨_, ra, fun H2 _ => w H2⟩) k1 f.side k2 (glB_ok f.scp k3) (chkE_ok a _ f.toFits k5).1 k4 (chkE_ok b _ f.toFits k6).1 k4'
        · cases h3
    · cases h
  | .whl n c b, x, h => by
    unfold chkS at h
    split at h
    · obtain ⟨h1, h2⟩ := Bool.and_eq_true_iff.mp h
      exact s_whl f.own (chkE_ok c _ f.toFits h1).2 (chkSs_ok f b _ h2)
    · cases h
theorem chkSs_ok (f : FitS X Φ T wx N sc) : ∀ (s : Ss) (xs : List Stmt), chkSs N T sc s xs = true → PSs X xs (tSs X Φ wx s)
  | .nil, xs, h => by
    unfold chkSs at h
    split at h
    · exact b_nil
    · cases h
  | .cons s r, xs, h => by
    unfold chkSs at h
    split at h
    · obtain ⟨h1, h2⟩ := Bool.and_eq_true_iff.mp h
      exact b_cons (chkS_ok f s _ h1) (chkSs_ok f r _ h2)
    · cases h
  | .frz is r, xs, h => by
    unfold chkSs at h
    exact b_frz (chkSs_ok f r xs h)
end
end
end Gm

/-! The deep layer, part H: functions, the program. -/
namespace Gm
open PySem PySem.Spec PyProof.Rows L2
section
variable {P : Program} {w : World} {K : PySem.W.Frag} {mg : Str → Option Value} {base : Heap}
theorem leave_plain {k : Nat} {r : Res Fl} {w : W} {s : Stt} (h : leaveW k r = .ok w s) : (∃ x, w = .d x) ∨ (∃ c, w = .new c) ∨ ∃ n, w = .loc n := by
  unfold leaveW at h
  split at h
  · cases h; exact .inl ⟨_, rfl⟩
  · cases h; exact .inl ⟨_, rfl⟩
  · cases h; exact .inr (.inl ⟨_, rfl⟩)
  · split at h
    · cases h; exact .inr (.inr ⟨_, rfl⟩)
    · split at h
      · cases h; exact .inr (.inl ⟨_, rfl⟩)
      · cases h
  · cases h
  · cases h
theorem plain_phi (fs : List Fn) : ∀ k, Plain (phi fs k)
  | 0 => fun f as st w s h => nomatch h
  | k + 1 => fun f as st w s h => by
    unfold phi at h
    split at h
    · unfold callF at h
      split at h
      · exact leave_plain h
      · cases h
    · cases h
/-- the frame at the entry -/
theorem start_rel {F : Addr → Prop} {β : List Addr} {Pb : Addr → Prop} {H : Hp} {vs : List V} {as : List W} {st : Stt} {N : List Str} (s : StOk K F β ⟨Pb, fun _ => False⟩ H st) (ra : RA K F β ⟨Pb, fun _ => False⟩ H vs as) :
    RelE K F β ⟨Pb, fun _ => False⟩ (as.map some ++ List.replicate (N.length - as.length) none) st (start N vs) H := by
  have hl : ∀ {vs : List V} {as : List W}, RA K F β ⟨Pb, fun _ => False⟩ H vs as → vs.length = as.length := by
    intro vs as h
    induction h with
    | nil => rfl
    | cons _ _ _ ih => rw [List.length_cons, List.length_cons, ih]
  have get : ∀ {vs : List V} {as : List W}, RA K F β ⟨Pb, fun _ => False⟩ H vs as → ∀ (i : Nat) (w : W), as[i]? = some w → ∃ v, vs[i]? = some v ∧ RepV K F β ⟨Pb, fun _ => False⟩ H v w ∧ ((∃ x, w = .d x) ∨ (∃ c, w = .bor c) ∨ ∃ n, w = .loc n) := by
    intro vs as h
    induction h with
    | nil => intro i w e; simp at e
    | cons r1 r2 _ ih =>
      intro i w e
      cases i with
      | zero => simp at e; subst e; exact ⟨_, rfl, r1, r2⟩
      | succ i => simpa using ih i w (by simpa using e)
  have key : ∀ (i : Nat) (w : W), (as.map some ++ List.replicate (N.length - as.length) none)[i]? = some (some w) → as[i]? = some w := by
    intro i w e
    by_cases hi : i < as.length
    · rw [List.getElem?_append_left (by simpa using hi), List.getElem?_map] at e
      cases q : as[i]? with
      | none => rw [q] at e; cases e
      | some x => rw [q] at e; cases e; rfl
    · rw [List.getElem?_append_right (by simpa using hi), List.getElem?_replicate] at e
      split at e <;> cases e
  refine ⟨?_, fun i w h => ?_, fun i w h => ?_, fun i j c c' a h1 => ?_, s⟩
  · unfold L2.start
    simp only [List.length_append, List.length_map, List.length_replicate, hl ra]
  · have e := key i w h
    obtain ⟨v, h1, h2, _⟩ := get ra i w e
    refine ⟨v, ?_, h2⟩
    unfold L2.start
    rw [List.getElem?_append_left (by rw [List.length_map]; exact (List.getElem?_eq_some_iff.mp h1).1), List.getElem?_map, h1]
    rfl
  · obtain ⟨_, _, _, h3⟩ := get ra i w (key i w h)
    rcases h3 with ⟨x, rfl⟩ | ⟨c, rfl⟩ | ⟨n, rfl⟩ <;> exact ⟨fun _ e => (nomatch e), fun _ e => nomatch e⟩
  · obtain ⟨_, _, _, h3⟩ := get ra i _ (key i _ h1)
    rcases h3 with ⟨x, e⟩ | ⟨c, e⟩ | ⟨n, e⟩ <;> cases e
theorem stok_back {E : Ent} {F : Addr → Prop} {β : List Addr} {B : Bs} {H : Hp} {st : Stt} {n : Nat} (s : StOk K F β B H st) (S : Since E F β B H) (hn : E.β.length = n) : StOk K F E.β ⟨E.P, fun _ => False⟩ H (st.take n) where
  len := by
    obtain ⟨β1, e, _⟩ := S.pre
    have := s.len
    rw [e, List.length_append] at this
    rw [List.length_take]
    omega
  nd := by
    obtain ⟨β1, e, _⟩ := S.pre
    have := s.nd
    rw [e] at this
    exact (List.nodup_append.mp this).1
  nf := fun a h => s.nf a (S.sub h)
  ob := fun a h => by
    have h : E.P a := h.elim id False.elim
    obtain ⟨h1, h2, h3⟩ := s.ob a (.inl (by rw [S.bb]; exact h))
    exact ⟨fun z => h1 (S.sub z), h2, h3⟩
  ft := s.ft
  at_ := fun m a c e1 e2 => by
    obtain ⟨β1, e, _⟩ := S.pre
    have hm : m < E.β.length := (List.getElem?_eq_some_iff.mp e1).1
    have e1' : β[m]? = some a := by rw [e, List.getElem?_append_left hm]; exact e1
    rw [List.getElem?_take_of_lt (by omega)] at e2
    exact s.at_ m a c e1' e2 |>.keep ⟨fun _ h => h, fun _ _ h => h, fun _ _ _ h => h⟩ rfl
/-- a def of the text, by its body, where no guard stands -/
theorem fn_ofG {k : Nat} {f : Addr} {name qual : Str} {params : Arguments} {body : List Stmt} {scope : Scope} {dV kV doc pm cdv ct oc : Value} {an od : Option Addr}
    {osl : Array (Option Value)} {N ps : List Str} {sp : Sp} (lk : K.lookup f = some ⟨oc, od, .func (PySem.W.fnOf name qual params body scope dV kV doc pm an cdv ct), osl⟩) (hcd : PySem.W.codeIn K cdv qual = true) (S : FnScope N ps scope)
    (len : ∀ vs H Q E, sp vs H Q E → vs.length = ps.length)
    (hbody : ∀ (A : Around) (outer : List Env) (s : Shared) (H : Hp) (vs : List V) (Q : VK) (E : XK), Room k (A.deeper (envOfC qual scope s.heap.objs.size f cdv)) → (A.deeper (envOfC qual scope s.heap.objs.size f cdv)).guards = some [] → sp vs H Q E →
      ∃ t, PSs (cxOf (CX P w) P w K mg base N qual scope f cdv A outer s H E) body t ∧ t { nx := fun _ H' => Q .non H', rt := Q } (start N vs) H) :
    FnG P w K mg base (k + 1) f (PySem.W.fnOf name qual params body scope dV kV doc pm an cdv ct) ps sp := by
  refine ⟨len, fun A outer s H args us vs Q E hr hgu e0 hb r hsp => ?_⟩
  have hl := len _ _ _ _ hsp
  have KX : K.In s.heap := e0.mod.kin.keeps fun b o e => (e0.bs b o e).1
  refine codeAny_call_function hr.depth (KX _ _ lk) rfl S.co S.gen rfl (PySem.W.codeRec_of KX hcd) (hb _ _ _ _ ?_)
  refine wpAny_newFunctionEnv_cells S.kind (fun ⟨n, v⟩ hy => ?_) fun env he s1 x => ?_
  · rcases S.par n (List.of_mem_zip hy).1 with q | q
    · exact .inl q
    · exact .inr ⟨q, PySem.W.cellsFrom_some _ _ _ (.inl q)⟩
  subst he
  have lim : s.heap.NoLimit := e0.mod.nolimit.keeps fun b o e => (e0.bs b o e).1
  refine ⟨lim.keeps x.toInCall.keep, codeAny_func ?_⟩
  obtain ⟨t, ht, hq⟩ := hbody A outer s H vs Q E (hr.deeper _) hgu hsp
  have I : Inv (cxOf (CX P w) P w K mg base N qual scope f cdv A outer s H E) [] (start N vs) H s1 := inv_start S hr.hd e0 hl r x
  refine wpAny_mono (ht.run [] s1 (start N vs) H _ I hq) (fun fl s' hs => ?_) fun e s' hs => hs
  match fl, hs with
  | .ret u, ⟨v, σ', H', J, rv, q⟩ => exact ⟨v, H', J.os, J.bare, J.base, J.hok, rv, q⟩
  | .next, ⟨σ', H', J, q⟩ => exact ⟨.non, H', J.os, J.bare, J.base, J.hok, rfl, q⟩
  | .brk, ⟨_, _, _, q⟩ => exact False.elim q
  | .cont, ⟨_, _, _, q⟩ => exact False.elim q
/-- what is told of a def, no run in sight -/
structure DefOk (K : PySem.W.Frag) (mg : Str → Option Value) (T : Tb) (n : Str) (fn : Fn) : Prop where
  ex : ∃ (a : Addr) (name qual : Str) (params : Arguments) (body : List Stmt) (scope : Scope) (dV kV doc pm cdv ct oc : Value) (an od : Option Addr) (osl : Array (Option Value)) (ps : List Str),
    K.lookup a = some ⟨oc, od, .func (PySem.W.fnOf name qual params body scope dV kV doc pm an cdv ct), osl⟩ ∧ PySem.W.codeIn K cdv qual = true ∧ FnScope fn.N ps scope ∧ ps.length = fn.np ∧ chkSs fn.N T scope fn.body body = true ∧
    mg n = some (.ref a) ∧ PySem.W.keepIn K (.ref a) = true ∧ Binds K (PySem.W.fnOf name qual params body scope dV kV doc pm an cdv ct) ps []
structure ModOk (K : PySem.W.Frag) (mg : Str → Option Value) (T : Tb) (fs : List Fn) : Prop where
  co : ∀ n x, (n, x) ∈ T.co → ∃ (u : Value) (v : V), mg n = some u ∧ RelV v u ∧ ∀ F H, Rp K F H v x
  ab : ∀ n ∈ T.ab, mg n = none
  fn : ∀ n g, (n, g) ∈ T.fn → ∃ fn, fs[g]? = some fn ∧ DefOk K mg T n fn
theorem len_RA {F : Addr → Prop} {β : List Addr} {B : Bs} {H : Hp} : ∀ {vs : List V} {as : List W}, RA K F β B H vs as → vs.length = as.length := by
  intro vs as h
  induction h with
  | nil => rfl
  | cons _ _ _ ih => rw [List.length_cons, List.length_cons, ih]
theorem fns_ok {T : Tb} {fs : List Fn} (M : ModOk K mg T fs) : ∀ (k : Nat) (n : Str) (g : Nat), (n, g) ∈ T.fn → ∃ (a : Addr) (fd : FuncData) (ps : List Str), FnG P w K mg base k a fd ps (spOf K mg (phi fs k g)) ∧ mg n = some (.ref a) ∧ PySem.W.keepIn K (.ref a) = true ∧ Binds K fd ps []
  | 0, n, g, hm => by
    obtain ⟨fn, e, ⟨a, name, qual, params, body, scope, dV, kV, doc, pm, cdv, ct, oc, an, od, osl, ps, h1, h2, h3, h4, h5, h6, h7, h8⟩⟩ := M.fn n g hm
    have no : ∀ vs H Q E, spOf K mg (phi fs 0 g) vs H Q E → False := fun vs H Q E ⟨F, β, Pb, as, st, s, ra, h⟩ => h
    exact ⟨a, _, ps, ⟨fun vs H Q E h => (no _ _ _ _ h).elim, fun A outer s H args us vs Q E _ _ _ _ _ h => (no _ _ _ _ h).elim⟩, h6, h7, h8⟩
  | k + 1, n, g, hm => by
    obtain ⟨fn, e, ⟨a, name, qual, params, body, scope, dV, kV, doc, pm, cdv, ct, oc, an, od, osl, ps, h1, h2, h3, h4, h5, h6, h7, h8⟩⟩ := M.fn n g hm
    refine ⟨a, _, ps, fn_ofG h1 h2 h3 (fun vs H Q E h => ?_) (fun A outer s H vs Q E hr hgu h => ?_), h6, h7, h8⟩
    · obtain ⟨F, β, Pb, as, st, s, ra, h⟩ := h
      unfold phi at h
      simp only [e] at h
      unfold callF at h
      split at h
      · rename_i hc
        rw [len_RA ra, h4, hc.1]
      · exact h.elim
    · obtain ⟨F, β, Pb, as, st, so, ra, h⟩ := h
      unfold phi at h
      simp only [e] at h
      unfold callF at h
      split at h
      · rename_i hc
        have fit : FitS (cxOf (CX P w) P w K mg base fn.N qual scope a cdv A outer s H E) (phi fs k) T (fun c d _ H => E c d H) fn.N scope := {
          side := ⟨h3.nd, rfl, by have := hr.un; show (A.deeper _).units + 66 < _; omega, hgu, takes_of rfl rfl rfl rfl, plain_phi fs k, fun n x hx => M.co n x hx, fun n hn => M.ab n hn, fun n g hg => by
            obtain ⟨a', fd', ps', q1, q2, q3, q4⟩ := fns_ok M k n g hg
            exact ⟨a', fd', ps', k, q1, hr, q2, q3, q4⟩⟩
          n := rfl
          scp := rfl
          all := fun _ => rfl
          own := passes_of rfl
          kind := h3.kind }
        refine ⟨_, chkSs_ok fit fn.body body h5, ?_⟩
        have hE : ∀ b, Pb b → b ∉ β ∧ H b ≠ none := fun b hb => ⟨(so.ob b (.inl hb)).1, (so.ob b (.inl hb)).2.2⟩
        refine ⟨⟨F, β, Pb, H, []⟩, F, β, ⟨Pb, fun _ => False⟩, _, st, ⟨start_rel so ra, ⟨Ext.refl, ⟨[], (List.append_nil _).symm, fun _ h => nomatch h⟩, rfl, hE, fun _ h => h.elim, fun _ h => nomatch h⟩⟩, ?_⟩
        cases q : semSs (phi fs k) fn.body (as.map some ++ List.replicate (fn.N.length - as.length) none) st with
        | bad => rw [q] at h; exact h
        | ex x s' =>
          rw [q] at h
          exact fun c d σ' H' F' β' B' s1 S1 q1 => h c d F' H' S1.ext (stok_back s1 S1 so.len) q1
        | ok fl s' =>
          rw [q] at h
          cases fl with
          | nx ρ =>
            exact fun σ' H' F' β' B' R' => h .non F' H' R'.since.ext (stok_back R'.rel.st R'.since so.len) ⟨.non, trivial⟩
          | rt w =>
            intro v H' F' β' B' s1 S1 q1
            have sb := stok_back s1 S1 so.len
            cases w with
            | d x => exact h v F' H' S1.ext sb ⟨q1, trivial⟩
            | new c =>
              obtain ⟨b, rfl, g1, g2, g3, g4⟩ := q1
              exact h _ F' H' S1.ext sb ⟨⟨b, rfl, g1, fun z => g3 (S1.sub z), g4⟩, fun y ey => by cases ey; exact g2⟩
            | loc m =>
              obtain ⟨b, rfl, g1⟩ := q1
              have h : Post K mg β ⟨Pb, fun _ => False⟩ (RR K β ⟨Pb, fun _ => False⟩) F H E (if m < st.length then .ok (.loc m) (s'.take st.length) else match s'[m]? with | some c => .ok (.new c) (s'.take st.length) | none => .bad) Q := h
              obtain ⟨β1, eb, eb2⟩ := S1.pre
              split at h
              · rename_i hm
                refine h _ F' H' S1.ext sb ⟨⟨b, rfl, ?_⟩, trivial⟩
                rw [eb, List.getElem?_append_left (by rw [so.len]; exact hm)] at g1
                exact g1
              · rename_i hm
                cases qc : s'[m]? with
                | none => rw [qc] at h; exact h.elim
                | some c =>
                  rw [qc] at h
                  have hb1 : b ∈ β1 := by
                    rw [eb, List.getElem?_append_right (by rw [so.len]; omega)] at g1
                    exact List.mem_of_getElem? g1
                  have hbn : b ∉ β := fun z => by
                    have nd := s1.nd
                    rw [eb] at nd
                    exact (List.nodup_append.mp nd).2.2 b z b hb1 rfl
                  have hm1 : b ∈ β' := by rw [eb]; exact List.mem_append_right _ hb1
                  refine h _ F' H' S1.ext sb ⟨⟨b, rfl, s1.at_ m b c g1 qc, hbn, s1.nf b hm1⟩, fun y ey => ?_⟩
                  cases ey
                  exact eb2 b hb1
            | bor c => exact q1.elim
            | own c => exact q1.elim
            | lent c => exact q1.elim
      · exact h.elim
end
end Gm

/-! The deep layer, part I: what the head tells; the law's call. -/
namespace Gm
open PySem PySem.Spec PyProof.Rows L2
section
variable {P : Program} {w : World} {K : PySem.W.Frag} {mg : Str → Option Value} {base : Heap}
/-! ### constants -/
mutual
def coB (K : PySem.W.Frag) : PyData → Value → Bool
  | .none, u => match u with | .none => true | _ => false
  | .bool b, u => match u with | .bool c => b == c | _ => false
  | .int i, u => match u with | .int j _ => decide (i = j) | _ => false
  | .str x, u => match u with | .str y _ => decide (x = y) | _ => false
  | .tuple ds, u => match u with
    | .ref a => match K.lookup a with
      | some ⟨.type c, _, .seq its _, _⟩ => decide (c = "tuple") && decide (its.size ≤ sizeLine) && coBs K ds its.toList
      | _ => false
    | _ => false
  | .list _, _ => false
  | .dict _, _ => false
def coBs (K : PySem.W.Frag) : List PyData → List Value → Bool
  | [], us => match us with | [] => true | _ => false
  | d :: ds, us => match us with | u :: us => coB K d u && coBs K ds us | _ => false
end
mutual
theorem coB_ok : ∀ (d : PyData) (u : Value), coB K d u = true → ∃ v, RelV v u ∧ ∀ F H, Rp K F H v d
  | .none, u, h => by
    unfold coB at h
    split at h
    · exact ⟨.non, rfl, fun _ _ => .non⟩
    · cases h
  | .bool b, u, h => by
    unfold coB at h
    split at h
    · rw [eq_of_beq h]; exact ⟨.bl _, rfl, fun _ _ => .bl _⟩
    · cases h
  | .int i, u, h => by
    unfold coB at h
    split at h
    · rw [of_decide_eq_true h]; exact ⟨.int _, ⟨_, rfl⟩, fun _ _ => .int _⟩
    · cases h
  | .str i, u, h => by
    unfold coB at h
    split at h
    · rw [of_decide_eq_true h]; exact ⟨.str _, ⟨_, rfl⟩, fun _ _ => .str _⟩
    · cases h
  | .tuple ds, u, h => by
    unfold coB at h
    split at h
    · rename_i a
      split at h
      · rename_i c od its n sl e
        simp only [Bool.and_eq_true, decide_eq_true_eq] at h
        obtain ⟨⟨h1, h2⟩, h3⟩ := h
        subst h1
        obtain ⟨vs, g1, g2⟩ := coBs_ok ds its.toList h3
        exact ⟨.ref a, rfl, fun F H => .tup (.inr ⟨_, its, n, e, rfl, rfl, h2, g1⟩) (g2 F H)⟩
      · cases h
    · cases h
  | .list _, u, h => by unfold coB at h; cases h
  | .dict _, u, h => by unfold coB at h; cases h
theorem coBs_ok : ∀ (ds : List PyData) (us : List Value), coBs K ds us = true → ∃ vs, Vals vs us ∧ ∀ F H, RpAll K F H vs ds
  | [], us, h => by
    unfold coBs at h
    split at h
    · exact ⟨[], .nil, fun _ _ => .nil⟩
    · cases h
  | d :: ds, us, h => by
    unfold coBs at h
    split at h
    · obtain ⟨h1, h2⟩ := Bool.and_eq_true_iff.mp h
      obtain ⟨v, g1, g2⟩ := coB_ok d _ h1
      obtain ⟨vs, g3, g4⟩ := coBs_ok ds _ h2
      exact ⟨v :: vs, .cons g1 g3, fun F H => .cons (g2 F H) (g4 F H)⟩
    · cases h
end
def conB (K : PySem.W.Frag) (p : Str × PyData) : Bool := match PySem.W.nsIn K mainGlobals p.1 with
  | some (some u) => coB K p.2 u
  | _ => false
theorem conB_ok {h : Heap} (X : K.In h) (G : h.Ns mainGlobals mg) {p : Str × PyData} (c : conB K p = true) : ∃ (u : Value) (v : V), mg p.1 = some u ∧ RelV v u ∧ ∀ F H, Rp K F H v p.2 := by
  unfold conB at c
  split at c
  · rename_i u e
    obtain ⟨v, h1, h2⟩ := coB_ok _ _ c
    exact ⟨u, v, PySem.W.mg_of X G e, h1, h2⟩
  · cases c
theorem mem_lkp {a : Addr} {o : Obj} : ∀ {K : PySem.W.Frag}, K.lookup a = some o → (a, o) ∈ K
  | (b, u) :: K, h => by
    rw [List.lookup_cons] at h
    split at h
    · rename_i q
      cases h
      rw [eq_of_beq q]
      exact List.mem_cons_self
    · exact List.mem_cons_of_mem _ (mem_lkp h)
def noLst (K : PySem.W.Frag) : Bool := K.all fun p => match p.2.cls with | .type c => !decide (c = "list") | _ => true
theorem noLst_ok (c : noLst K = true) {a : Addr} {o : Obj} (e : K.lookup a = some o) : o.cls ≠ .type "list" := fun q => by
  have := List.all_eq_true.mp c (a, o) (mem_lkp e)
  rw [q] at this
  exact absurd this (by decide)
/-! ### the hook -/
def obsM (n : Nat) (fa : List He.Fa) (fn : List He.DefD) (co : List (Str × PyData)) (g : Addr → Option Obj) : He.AlD :=
  let K := He.frG g (He.asD g n)
  ((fa.all fun f => f.ok K) && (fn.all fun d => d.ok K) && (co.all fun p => conB K p) && noLst K, fn.map fun d => He.fnW K d.at_)
def SaysM (fa : List He.Fa) (fn : List He.DefD) (co : List (Str × PyData)) (K : PySem.W.Frag) : Prop :=
  ((fa.all fun f => f.ok K) && (fn.all fun d => d.ok K) && (co.all fun p => conB K p) && noLst K, fn.map fun d => He.fnW K d.at_) = He.valD fn
def hookM (n : Nat) (fa : List He.Fa) (fn : List He.DefD) (co : List (Str × PyData)) : PySem.W.Hook where
  α := He.AlD
  obs := fun s => obsM n fa fn co s.heap.get?
  val := fun _ => He.valD fn
  says := fun _ h => ∃ K : PySem.W.Frag, K.In h ∧ SaysM fa fn co K
  of := fun _ _ e => ⟨_, He.frG_in, e⟩
  keeps := fun _ _ _ ⟨K, hK, c⟩ k => ⟨K, PySem.W.Frag.In.keeps hK k, c⟩
theorem obsM_eq {n : Nat} {fa : List He.Fa} {fn : List He.DefD} {co : List (Str × PyData)} {g : Addr → Option Obj} {s : Shared} (h : ∀ a, g a = s.heap.get? a) : obsM n fa fn co g = (hookM n fa fn co).obs s := by
  have e : g = s.heap.get? := funext h
  rw [e] <;> rfl
variable {fa : List He.Fa} {fn : List He.DefD} {co : List (Str × PyData)}
theorem SaysM.parts (c : SaysM fa fn co K) : He.SaysD fa fn K ∧ (∀ p ∈ co, conB K p = true) ∧ noLst K = true := by
  have c1 : ((fa.all fun f => f.ok K) && (fn.all fun d => d.ok K) && (co.all fun p => conB K p) && noLst K) = true := congrArg (fun z : He.AlD => z.1) c
  have c2 : fn.map (fun d => He.fnW K d.at_) = fn.map He.DefD.val := congrArg (fun z : He.AlD => z.2) c
  simp only [Bool.and_eq_true] at c1
  obtain ⟨⟨⟨h1, h2⟩, h3⟩, h4⟩ := c1
  refine ⟨?_, List.all_eq_true.mp h3, h4⟩
  show ((fa.all fun f => f.ok K) && fn.all fun d => d.ok K, fn.map fun d => He.fnW K d.at_) = (true, fn.map He.DefD.val)
  rw [h1, h2, c2]
  rfl
/-- a def that the head told, its body checked -/
theorem defOk_of {T : Tb} {n x qual : Str} {params : Arguments} {body : List Stmt} {scope : Scope} {f : Addr} {fd : FuncData} {fn : Fn} {ps : List Str} (D : FunD K x qual params body scope [] [] f fd) (S : FnScope fn.N ps scope) (h4 : ps.length = fn.np) (h5 : chkSs fn.N T scope fn.body body = true) (h6 : mg n = some (.ref f))
    (hb : ∀ (kV doc pm : Value) (an : Option Addr) (cdv ct : Value) (us : List Value), us.length = ps.length → bindArgs (PySem.W.fnOf x qual params body scope .none kV doc pm an cdv ct) ⟨us, []⟩ = pure (ps.zip us)) : DefOk K mg T n fn := by
  obtain ⟨oc, od, dV, kV, doc, pm, an, cdv, ct, osl, rfl, lk, hcd, hD, hK⟩ := D.ex
  rcases hD with ⟨_, rfl⟩ | ⟨e, _⟩
  · exact ⟨f, x, qual, params, body, scope, .none, kV, doc, pm, cdv, ct, oc, an, od, osl, ps, lk, hcd, S, h4, h5, h6, D.kp, .all (hb kV doc pm an cdv ct)⟩
  · exact absurd rfl e
/-! ### the law's call -/
theorem rp_ints {F : Addr → Prop} {H : Hp} : ∀ ns : List Int, RpAll K F H (ns.map V.int) (ns.map PyData.int)
  | [] => .nil
  | n :: ns => .cons (.int n) (rp_ints ns)
theorem law_callG {mb : Str → Option Value} {k : Nat} {fa a : Addr} {φ : List W → Stt → Res W} {s₁ : Shared} {vs : List Value} {ns : List Int}
    (KX : K.In s₁.heap) (hns : s₁.heap.Ns mainGlobals mg) (hb : s₁.heap.Ns builtinsNs mb) (hbb : ∀ x : Str, x ≠ "__name__" → mb x = bootBuiltins x) (hlim : s₁.heap.NoLimit) (hg : s₁.gens = #[])
    (ha : s₁.heap.get? a = some { cls := .type "list", data := .seq vs.toArray }) (hi : IntsAre vs ns) (hl : ns.length ≤ sizeLine) (hr : Room k callerA)
    (F : ∀ base : Heap, ∃ (fd : FuncData) (ps : List Str), FnG P w K mg base k fa fd ps (spOf K mg φ) ∧ Binds K fd ps []) (hk : K.lookup a = none)
    (hφ : ∃ st, φ [.d (.list (ns.map PyData.int))] [] = .ok (.d (.bool true)) st) :
    codeAny (model P w) callerA (.call (.ref fa) ⟨[.ref a], []⟩) (fun r s' => r = .ok (.ret (.bool true)) ∧ OldK s₁.heap s'.heap ∧ s'.os = s₁.os ∧ AllBare s'.gens) s₁ := by
  have rv := vals_ints hi
  let ob : Obj := { cls := .type "list", data := .seq vs.toArray }
  let H : Hp := fun b => if b = a then some (.frz ob (.lst (ns.map V.int))) else none
  have Ha : H a = some (.frz ob (.lst (ns.map V.int))) := if_pos rfl
  have Hn : ∀ {b}, b ≠ a → H b = none := fun h => if_neg h
  have hA : ∀ b u, H b = some u → b = a := fun b u z => by
    by_cases e : b = a
    · exact e
    · rw [Hn e] at z; cases z
  have hok : HOk P w H s₁.heap := fun b u z => by
    cases hA b u z
    rw [Ha] at z
    cases z
    exact ⟨ha, by rw [List.length_map]; exact hl, vs, _, rv, ha⟩
  have keepB : ∀ {b : Addr} {o : Obj}, s₁.heap.get? b = some o → b ≠ a → (hidT s₁.heap H).get? b = some o := fun e n => hidT_get e (Hn n)
  have nsK : ∀ {b : Addr} {m : Str → Option Value}, s₁.heap.Ns b m → (hidT s₁.heap H).Ns b m := fun {b m} ⟨o, es, ep, e, d, r⟩ => by
    refine ⟨o, es, ep, keepB e fun eq => ?_, d, r⟩
    subst eq
    rw [ha] at e
    cases e
    cases d
  have hKb : K.In (hidT s₁.heap H) := fun b o e => keepB (KX b o e) fun eq => by
    subst eq
    rw [hk] at e
    cases e
  have hM : Mod K mg (hidT s₁.heap H) := ⟨hKb, nsK hns, ⟨mb, nsK hb, hbb⟩, let ⟨mc, h1, h2⟩ := hlim; ⟨mc, nsK h1, h2⟩⟩
  have e0 : Env0 P w K mg (hidT s₁.heap H) callerA [] s₁ H := ⟨rfl, hM, fun b o e => of_hidT e, Nat.le_of_eq (hidT_size _ _), trivial, fun b hb => absurd (show b ∈ ([] : List Addr) from hb) (by simp), hok, .of_eq hg⟩
  obtain ⟨st, hst⟩ := hφ
  have hsp : spOf K mg φ [.ref a] H (fun v _ => v = .bl true) fun _ _ _ => False := by
    refine ⟨fun b => b = a, [], fun _ => False, [.d (.list (ns.map PyData.int))], [], ⟨rfl, List.nodup_nil, (fun _ h => nomatch h), (fun _ h => h.elim False.elim False.elim), (fun b hb => ?_), (fun n b c e1 _ => by rw [List.getElem?_nil] at e1; cases e1)⟩, .cons (.lst (.inr ⟨ob, Ha⟩) rfl (rp_ints ns)) (.inl ⟨_, rfl⟩) .nil, ?_⟩
    · cases hb; rw [Ha]; exact fun z => nomatch z
    · rw [hst]
      intro v F' H' _ _ r
      have := r.1
      cases this
      rfl
  obtain ⟨fd, ps, G, hbind⟩ := F (hidT s₁.heap H)
  have hlen : ([.ref a] : List Value).length = ps.length := G.len _ _ _ _ hsp
  have hbd : BindsTo s₁ fd ⟨[.ref a], []⟩ (ps.zip [.ref a]) := by
    have := hbind s₁ [.ref a] KX (by simpa using hlen)
    simpa using this
  refine codeAny_mono (G.run callerA [] s₁ H ⟨[.ref a], []⟩ [.ref a] [.ref a] _ _ hr rfl e0 hbd (.cons rfl .nil) hsp) fun r s' h => ?_
  match r, h with
  | .error e, ⟨_, _, _, _, _, _, _, _, _, _, _, _, z⟩ => exact z.elim
  | .ok (.ret u), ⟨v, H', os, bare, un, hok', r', q⟩ =>
    have q' : v = .bl true := q
    subst q'
    obtain rfl : u = Value.bool true := r'
    refine ⟨rfl, OldK.of_keep fun b o e => ?_, os, bare⟩
    by_cases eb : b = a
    · subst eb
      have z2 := un.frzs b ob _ Ha
      obtain ⟨e2, _⟩ := hok' b _ z2
      rw [ha] at e
      cases e
      exact e2
    · exact un.keep b o e (Hn eb) (by intro z; exact absurd (show b ∈ ([] : List Addr) from z) (by simp)) (by simp)
  | .ok .next, h => exact False.elim h
  | .ok .brk, h => exact False.elim h
  | .ok .cont, h => exact False.elim h
theorem walk_ofG {l : PySem.W.OpenLaw} {n k : Nat} {q : Program} {loose : List Str} {XP : (Str → Option Value) → Heap → Prop} {d : DefRec} {N : Nat} {T : Tb} {fs : List Fn} {g : Nat}
    (hn : l.most = some n) (hn2 : n ≤ sizeLine) (hdf : d.params.defaults = []) (hr : Room k callerA) (hm : (d.name, g) ∈ T.fn)
    (M : ∀ (K : PySem.W.Frag) (mg : Str → Option Value) (h : Heap), K.In h → h.Ns mainGlobals mg → SaysM fa fn co K → ModOk K mg T fs)
    (hφ : ∀ ns : List Int, ns.length ≤ n → (∀ z ∈ ns, Builtin.Int.intBits z ≤ 1048576) → ∃ st, phi fs k g [.d (.list (ns.map PyData.int))] [] = .ok (.d (.bool true)) st) :
    PySem.W.WalkO q loose XP (hookM N fa fn co).says l.row.toRowW d [] (fun f vs => PySem.call f vs) := by
  refine Att.attach_callB hn hdf fun w s₀ s₁ mg mb fa' o pm cd doc a vs ns G Y ho hd hcd hmg hobj hints hlen hbits hg => ?_
  obtain ⟨K, KX, c⟩ := Y
  have MO := M K mg _ KX G.T.g c
  have hk : K.lookup a = none := by
    cases e : K.lookup a with
    | none => rfl
    | some o =>
      have := KX a o e
      rw [hobj] at this
      cases this
      exact absurd rfl (noLst_ok c.parts.2.2 e)
  refine law_callG KX G.T.g G.T.b G.T.builtins G.T.nolimit hg hobj hints (Nat.le_trans hlen hn2) hr (fun base => ?_) hk (hφ ns hlen hbits)
  obtain ⟨a', fd', ps', q1, q2, q3, q4⟩ := fns_ok (P := l.prog) (w := w) (base := base) MO k d.name g hm
  rw [hmg] at q2
  cases q2
  exact ⟨fd', ps', q1, q4⟩
end
end Gm

/-! Plain facts of the semantics: evaluation by rewriting, from the left, no work under a binder. -/
namespace Gm
open PySem PySem.Spec PyProof.Rows L2
section
variable {Φ : Phi} {ρ : Rho} {st s s1 : Stt}
def varR : Option (Option W) → Stt → Res W
  | some (some (.own c)), st => .ok (.lent c) st
  | some (some w), st => .ok w st
  | _, _ => .bad
theorem sem_var (i : Nat) : sem Φ (.var i) ρ st = varR ρ[i]? st := by
  rw [sem]
  unfold varR
  split <;> simp_all
theorem varR_d (x : PyData) : varR (some (some (.d x))) st = .ok (.d x) st := rfl
theorem varR_own (c : C) : varR (some (some (.own c))) st = .ok (.lent c) st := rfl
theorem varR_bor (c : C) : varR (some (some (.bor c))) st = .ok (.bor c) st := rfl
theorem varR_loc (n : Nat) : varR (some (some (.loc n))) st = .ok (.loc n) st := rfl
theorem sem_con (x : PyData) : sem Φ (.con x) ρ st = .ok (.d x) st := by rw [sem]
theorem sem_glo (n : Str) (x : PyData) : sem Φ (.glo n x) ρ st = .ok (.d x) st := by rw [sem]
-- readings
def rdk1 (st : Stt) (k : PyData → Option W) : Option PyData → Res W
  | some x => Res.ofO st (k x)
  | none => .bad
def rdk2 (st : Stt) (k : PyData → PyData → Option W) : Option PyData → Option PyData → Res W
  | some x, some y => Res.ofO st (k x y)
  | _, _ => .bad
theorem rd1_k (w : W) (k : PyData → Option W) : rd1 w st k = rdk1 st k (w.rd st) := by
  unfold rd1
  cases w.rd st <;> rfl
theorem rd2_k (w u : W) (k : PyData → PyData → Option W) : rd2 w u st k = rdk2 st k (w.rd st) (u.rd st) := by
  unfold rd2
  cases w.rd st <;> cases u.rd st <;> rfl
theorem rdk1_s (k : PyData → Option W) (x : PyData) : rdk1 st k (some x) = Res.ofO st (k x) := rfl
theorem rdk2_s (k : PyData → PyData → Option W) (x y : PyData) : rdk2 st k (some x) (some y) = Res.ofO st (k x y) := rfl
theorem rd_d (x : PyData) : W.rd st (.d x) = some x := rfl
theorem rd_new (xs : List PyData) : W.rd st (.new (.lst xs)) = some (.list xs) := rfl
theorem rd_bor (xs : List PyData) : W.rd st (.bor (.lst xs)) = some (.list xs) := rfl
theorem rd_lent (xs : List PyData) : W.rd st (.lent (.lst xs)) = some (.list xs) := rfl
theorem rd_loc (n : Nat) : W.rd st (.loc n) = (st[n]?).map C.dat := rfl
theorem dat_lst (xs : List PyData) : C.dat (.lst xs) = .list xs := rfl
theorem py_d (x : PyData) : W.py (.d x) = some x := rfl
theorem py_new (xs : List PyData) : W.py (.new (.lst xs)) = some (.list xs) := rfl
theorem arg_d (x : PyData) : W.arg (.d x) = some (.d x) := rfl
theorem arg_new (xs : List PyData) : W.arg (.new (.lst xs)) = some (.d (.list xs)) := rfl
theorem arg_bor (c : C) : W.arg (.bor c) = some (.bor c) := rfl
theorem arg_lent (c : C) : W.arg (.lent c) = some (.bor c) := rfl
theorem arg_loc (n : Nat) : W.arg (.loc n) = some (.loc n) := rfl
theorem argAll_nil : argAll [] = some [] := rfl
theorem argAll_cons (w : W) (r : List W) (a : W) (as : List W) (h : w.arg = some a) (h2 : argAll r = some as) : argAll (w :: r) = some (a :: as) := by
  unfold argAll
  rw [h, h2]
  rfl
-- argument lists, by their continuation
def kEs (Φ : Phi) (r : Es) (ρ : Rho) : W → Stt → Res (List W) := fun x s => (sems Φ r ρ s).bind fun xs s2 => .ok (x :: xs) s2
def kPut (x : W) : List W → Stt → Res (List W) := fun xs s => .ok (x :: xs) s
theorem sems_nil : sems Φ .nil ρ st = .ok [] st := by rw [sems]
theorem sems_cons (e : E) (r : Es) : sems Φ (.cons e r) ρ st = (sem Φ e ρ st).bind (kEs Φ r ρ) := by rw [sems]; rfl
theorem kEs_a (r : Es) (x : W) : kEs Φ r ρ x s = (sems Φ r ρ s).bind (kPut x) := rfl
theorem kPut_a (x : W) (xs : List W) : kPut x xs s = .ok (x :: xs) s := rfl
-- operators
def kBin (Φ : Phi) (o : BO) (b : E) (ρ : Rho) : W → Stt → Res W := fun x s => (sem Φ b ρ s).bind fun y s2 => rd2 x y s2 (binD o)
def kBin2 (o : BO) (x : W) : W → Stt → Res W := fun y s => rd2 x y s (binD o)
theorem sem_bin (o : BO) (a b : E) : sem Φ (.bin o a b) ρ st = (sem Φ a ρ st).bind (kBin Φ o b ρ) := by rw [sem]; rfl
theorem kBin_a (o : BO) (b : E) (x : W) : kBin Φ o b ρ x s = (sem Φ b ρ s).bind (kBin2 o x) := rfl
theorem kBin2_a (o : BO) (x y : W) : kBin2 o x y s = rdk2 s (binD o) (x.rd s) (y.rd s) := rd2_k _ _ _
def negK : PyData → Option W := fun x => (intOf x).map fun i => .d (.int (-i))
def kNeg : W → Stt → Res W := fun x s => rd1 x s negK
theorem sem_neg (a : E) : sem Φ (.neg a) ρ st = (sem Φ a ρ st).bind kNeg := by rw [sem]; rfl
theorem kNeg_a (x : W) : kNeg x s = rdk1 s negK (x.rd s) := rd1_k _ _
theorem negK_i (i : Int) : negK (.int i) = some (.d (.int (-i))) := rfl
def truR (st : Stt) : Option PyData → Res Bool
  | some x => Res.ofO st (truthD x)
  | none => .bad
theorem truth_k (w : W) : truth w st = truR st (w.rd st) := by
  unfold truth truR
  cases w.rd st <;> rfl
theorem truR_b (b : Bool) : truR st (some (.bool b)) = .ok b st := rfl
theorem truR_i (i : Int) : truR st (some (.int i)) = .ok (i != 0) st := rfl
theorem truR_l (xs : List PyData) : truR st (some (.list xs)) = .ok (!xs.isEmpty) st := rfl
theorem truR_t (xs : List PyData) : truR st (some (.tuple xs)) = .ok (!xs.isEmpty) st := rfl
theorem truR_n : truR st (some .none) = .ok false st := rfl
def kNot : W → Stt → Res W := fun x s => (truth x s).bind fun b s2 => .ok (.d (.bool (!b))) s2
def kNot2 : Bool → Stt → Res W := fun b s => .ok (.d (.bool (!b))) s
theorem sem_nt (a : E) : sem Φ (.nt a) ρ st = (sem Φ a ρ st).bind kNot := by rw [sem]; rfl
theorem kNot_a (x : W) : kNot x s = (truR s (x.rd s)).bind kNot2 := by show (truth x s).bind _ = _; rw [truth_k]; rfl
theorem kNot2_a (b : Bool) : kNot2 b s = .ok (.d (.bool (!b))) s := rfl
def kAn (Φ : Phi) (b : E) (ρ : Rho) : W → Stt → Res W := fun x s => bsel x (sem Φ b ρ s) (.ok (.d (.bool false)) s)
def kOo (Φ : Phi) (b : E) (ρ : Rho) : W → Stt → Res W := fun x s => bsel x (.ok (.d (.bool true)) s) (sem Φ b ρ s)
/-- and: the second part where the first is true; kept whole while the first is not known -/
def anS (Φ : Phi) (b : E) (ρ : Rho) (s : Stt) : Bool → Res W
  | true => sem Φ b ρ s
  | false => .ok (.d (.bool false)) s
def ooS (Φ : Phi) (b : E) (ρ : Rho) (s : Stt) : Bool → Res W
  | false => sem Φ b ρ s
  | true => .ok (.d (.bool true)) s
theorem sem_an (a b : E) : sem Φ (.an a b) ρ st = (sem Φ a ρ st).bind (kAn Φ b ρ) := by rw [sem]; rfl
theorem sem_oo (a b : E) : sem Φ (.oo a b) ρ st = (sem Φ a ρ st).bind (kOo Φ b ρ) := by rw [sem]; rfl
theorem kAn_a (b : E) (t : Bool) : kAn Φ b ρ (.d (.bool t)) s = anS Φ b ρ s t := by cases t <;> rfl
theorem kOo_a (b : E) (t : Bool) : kOo Φ b ρ (.d (.bool t)) s = ooS Φ b ρ s t := by cases t <;> rfl
theorem anS_t (b : E) : anS Φ b ρ s true = sem Φ b ρ s := rfl
theorem anS_f (b : E) : anS Φ b ρ s false = .ok (.d (.bool false)) s := rfl
theorem ooS_t (b : E) : ooS Φ b ρ s true = .ok (.d (.bool true)) s := rfl
theorem ooS_f (b : E) : ooS Φ b ρ s false = sem Φ b ρ s := rfl
def cmpK (o : CO) : PyData → PyData → Option W := fun x y => toB (cmpD o x y)
def kCmp (Φ : Phi) (o : CO) (b : E) (ρ : Rho) : W → Stt → Res W := fun x s => (sem Φ b ρ s).bind fun y s2 => rd2 x y s2 (cmpK o)
def kCmp2 (o : CO) (x : W) : W → Stt → Res W := fun y s => rd2 x y s (cmpK o)
theorem sem_cmp (o : CO) (a b : E) : sem Φ (.cmp o a b) ρ st = (sem Φ a ρ st).bind (kCmp Φ o b ρ) := by rw [sem]; rfl
theorem kCmp_a (o : CO) (b : E) (x : W) : kCmp Φ o b ρ x s = (sem Φ b ρ s).bind (kCmp2 o x) := rfl
theorem kCmp2_a (o : CO) (x y : W) : kCmp2 o x y s = rdk2 s (cmpK o) (x.rd s) (y.rd s) := rd2_k _ _ _
theorem cmpK_lt (i j : Int) : cmpK .lt (.int i) (.int j) = some (.d (.bool (decide (i < j)))) := rfl
theorem cmpK_le (i j : Int) : cmpK .le (.int i) (.int j) = some (.d (.bool (decide (i ≤ j)))) := rfl
theorem cmpK_gt (i j : Int) : cmpK .gt (.int i) (.int j) = some (.d (.bool (decide (j < i)))) := rfl
theorem cmpK_ge (i j : Int) : cmpK .ge (.int i) (.int j) = some (.d (.bool (decide (j ≤ i)))) := rfl
def chS (Φ : Phi) (p : CO) (c : E) (ρ : Rho) (y : W) (s : Stt) : Bool → Res W
  | true => (sem Φ c ρ s).bind (kCmp2 p y)
  | false => .ok (.d (.bool false)) s
def kChn (Φ : Phi) (o p : CO) (b c : E) (ρ : Rho) : W → Stt → Res W := fun x s1 => (sem Φ b ρ s1).bind fun y s2 => (rd2 x y s2 fun x y => toB (cmpD o x y)).bind fun r s3 => bsel r ((sem Φ c ρ s3).bind fun z s4 => rd2 y z s4 fun x y => toB (cmpD p x y)) (.ok (.d (.bool false)) s3)
def kChn2 (Φ : Phi) (o p : CO) (c : E) (ρ : Rho) (x : W) : W → Stt → Res W := fun y s2 => (rd2 x y s2 (cmpK o)).bind fun r s3 => bsel r ((sem Φ c ρ s3).bind fun z s4 => rd2 y z s4 (cmpK p)) (.ok (.d (.bool false)) s3)
def kChn3 (Φ : Phi) (p : CO) (c : E) (ρ : Rho) (y : W) : W → Stt → Res W := fun r s3 => bsel r ((sem Φ c ρ s3).bind fun z s4 => rd2 y z s4 (cmpK p)) (.ok (.d (.bool false)) s3)
theorem sem_chn (o p : CO) (a b c : E) : sem Φ (.chn o p a b c) ρ st = (sem Φ a ρ st).bind (kChn Φ o p b c ρ) := by rw [sem]; rfl
theorem kChn_a (o p : CO) (b c : E) (x : W) : kChn Φ o p b c ρ x s = (sem Φ b ρ s).bind (kChn2 Φ o p c ρ x) := rfl
theorem kChn2_a (o p : CO) (c : E) (x y : W) : kChn2 Φ o p c ρ x y s = (rdk2 s (cmpK o) (x.rd s) (y.rd s)).bind (kChn3 Φ p c ρ y) := by show (rd2 x y s _).bind _ = _; rw [rd2_k]; rfl
theorem kChn3_a (p : CO) (c : E) (y : W) (t : Bool) : kChn3 Φ p c ρ y (.d (.bool t)) s = chS Φ p c ρ y s t := by cases t <;> rfl
theorem chS_t (p : CO) (c : E) (y : W) : chS Φ p c ρ y s true = (sem Φ c ρ s).bind (kCmp2 p y) := rfl
theorem chS_f (p : CO) (c : E) (y : W) : chS Φ p c ρ y s false = .ok (.d (.bool false)) s := rfl
def selE (Φ : Phi) (a b : E) (ρ : Rho) (s : Stt) : Bool → Res W
  | true => sem Φ a ρ s
  | false => sem Φ b ρ s
def kIte (Φ : Phi) (a b : E) (ρ : Rho) : W → Stt → Res W := fun x s => (truth x s).bind fun t s2 => if t then sem Φ a ρ s2 else sem Φ b ρ s2
def kIte2 (Φ : Phi) (a b : E) (ρ : Rho) : Bool → Stt → Res W := fun t s2 => if t then sem Φ a ρ s2 else sem Φ b ρ s2
theorem sem_ite (c a b : E) : sem Φ (.ite c a b) ρ st = (sem Φ c ρ st).bind (kIte Φ a b ρ) := by rw [sem]; rfl
theorem kIte_a (a b : E) (x : W) : kIte Φ a b ρ x s = (truR s (x.rd s)).bind (kIte2 Φ a b ρ) := by show (truth x s).bind _ = _; rw [truth_k]; rfl
theorem kIte2_a (a b : E) (t : Bool) : kIte2 Φ a b ρ t s = selE Φ a b ρ s t := by cases t <;> rfl
theorem selE_t (a b : E) : selE Φ a b ρ s true = sem Φ a ρ s := rfl
theorem selE_f (a b : E) : selE Φ a b ρ s false = sem Φ b ρ s := rfl
-- displays, items
def tupK (ws : List W) : Option W := (pyAll ws).bind fun xs => if xs.length ≤ lineN then some (.d (.tuple xs)) else none
def lstK (ws : List W) : Option W := (pyAll ws).bind fun xs => if xs.length ≤ lineN then some (.new (.lst xs)) else none
def kTup : List W → Stt → Res W := fun ws s => Res.ofO s (tupK ws)
def kLst : List W → Stt → Res W := fun ws s => Res.ofO s (lstK ws)
theorem sem_tup (es : Es) : sem Φ (.tup es) ρ st = (sems Φ es ρ st).bind kTup := by rw [sem]; rfl
theorem sem_lst (es : Es) : sem Φ (.lst es) ρ st = (sems Φ es ρ st).bind kLst := by rw [sem]; rfl
theorem kTup_a (ws : List W) : kTup ws s = Res.ofO s (tupK ws) := rfl
theorem kLst_a (ws : List W) : kLst ws s = Res.ofO s (lstK ws) := rfl
theorem pyAll_nil : pyAll [] = some [] := rfl
theorem pyAll_cons (w : W) (r : List W) : pyAll (w :: r) = w.py.bind fun x => (pyAll r).map (x :: ·) := rfl
def idxK : PyData → PyData → Option W := fun x y => (idxD x y).map .d
def kIdx (Φ : Phi) (b : E) (ρ : Rho) : W → Stt → Res W := fun x s => (sem Φ b ρ s).bind fun y s2 => rd2 x y s2 idxK
def kIdx2 (x : W) : W → Stt → Res W := fun y s => rd2 x y s idxK
theorem sem_idx (a b : E) : sem Φ (.idx a b) ρ st = (sem Φ a ρ st).bind (kIdx Φ b ρ) := by rw [sem]; rfl
theorem kIdx_a (b : E) (x : W) : kIdx Φ b ρ x s = (sem Φ b ρ s).bind (kIdx2 x) := rfl
theorem kIdx2_a (x y : W) : kIdx2 x y s = rdk2 s idxK (x.rd s) (y.rd s) := rd2_k _ _ _
theorem idxK_l (xs : List PyData) (i : Int) : idxK (.list xs) (.int i) = (atI xs i).map .d := rfl
theorem idxK_t (xs : List PyData) (i : Int) : idxK (.tuple xs) (.int i) = (atI xs i).map .d := rfl
-- slices
def slK (st : Stt) (lo hi : Option Int) : Option PyData → Res W
  | some x => Res.ofO st (slcD x lo hi)
  | none => .bad
def kPart : List W → Stt → Res (Option Int) := fun l s => Res.ofO s (partD s l)
def kSlc (Φ : Phi) (lo hi : Es) (ρ : Rho) : W → Stt → Res W := fun x s1 => ((sems Φ lo ρ s1).bind fun l s => Res.ofO s (partD s l)).bind fun lo s2 => ((sems Φ hi ρ s2).bind fun l s => Res.ofO s (partD s l)).bind fun hi s3 => Res.ofO s3 ((x.rd s3).bind fun x => slcD x lo hi)
def kSlc2 (Φ : Phi) (hi : Es) (ρ : Rho) (x : W) : Option Int → Stt → Res W := fun lo s2 => ((sems Φ hi ρ s2).bind fun l s => Res.ofO s (partD s l)).bind fun hi s3 => Res.ofO s3 ((x.rd s3).bind fun x => slcD x lo hi)
def kSlc3 (x : W) (lo : Option Int) : Option Int → Stt → Res W := fun hi s3 => Res.ofO s3 ((x.rd s3).bind fun x => slcD x lo hi)
theorem sem_slc (a : E) (lo hi : Es) : sem Φ (.slc a lo hi) ρ st = (sem Φ a ρ st).bind (kSlc Φ lo hi ρ) := by rw [sem]; rfl
theorem kSlc_a (lo hi : Es) (x : W) : kSlc Φ lo hi ρ x s = ((sems Φ lo ρ s).bind kPart).bind (kSlc2 Φ hi ρ x) := rfl
theorem kSlc2_a (hi : Es) (x : W) (lo : Option Int) : kSlc2 Φ hi ρ x lo s = ((sems Φ hi ρ s).bind kPart).bind (kSlc3 x lo) := rfl
theorem kSlc3_a (x : W) (lo hi : Option Int) : kSlc3 x lo hi s = slK s lo hi (x.rd s) := by
  show Res.ofO s _ = _
  cases x.rd s <;> rfl
theorem slK_l (xs : List PyData) (lo hi : Option Int) : slK st lo hi (some (.list xs)) = .ok (.new (.lst (cutD xs lo hi))) st := rfl
theorem slK_t (xs : List PyData) (lo hi : Option Int) : slK st lo hi (some (.tuple xs)) = .ok (.d (.tuple (cutD xs lo hi))) st := rfl
theorem kPart_n : kPart [] s = .ok none s := rfl
theorem kPart_i (i : Int) : kPart [.d (.int i)] s = .ok (some i) s := rfl
def kRev : W → Stt → Res W := fun x s => rd1 x s revD
theorem sem_rev (a : E) : sem Φ (.rev a) ρ st = (sem Φ a ρ st).bind kRev := by rw [sem]; rfl
theorem kRev_a (x : W) : kRev x s = rdk1 s revD (x.rd s) := rd1_k _ _
theorem revD_l (xs : List PyData) : revD (.list xs) = some (.new (.lst xs.reverse)) := rfl
theorem revD_t (xs : List PyData) : revD (.tuple xs) = some (.d (.tuple xs.reverse)) := rfl
-- calls
def kCal (Φ : Phi) (f : Nat) : List W → Stt → Res W := fun ws s1 => (Res.ofO s1 (argAll ws)).bind fun as s2 => Φ f as s2
def calR (Φ : Phi) (f : Nat) (s : Stt) : Option (List W) → Res W
  | some as => Φ f as s
  | none => .bad
theorem sem_cal (n : Str) (f : Nat) (es : Es) : sem Φ (.cal n f es) ρ st = (sems Φ es ρ st).bind (kCal Φ f) := by rw [sem]; rfl
theorem kCal_a (f : Nat) (ws : List W) : kCal Φ f ws s = calR Φ f s (argAll ws) := by
  show (Res.ofO s (argAll ws)).bind _ = _
  cases argAll ws <;> rfl
theorem calR_s (f : Nat) (as : List W) : calR Φ f s (some as) = Φ f as s := rfl
theorem argAll_c (w : W) (r : List W) : argAll (w :: r) = w.arg.bind fun x => (argAll r).map (x :: ·) := rfl
def kBif (b : BF) : List W → Stt → Res W := fun ws s1 => Res.ofO s1 ((rdAll s1 ws).bind (bifD b))
def bifR (b : BF) (s : Stt) : Option (List PyData) → Res W
  | some xs => Res.ofO s (bifD b xs)
  | none => .bad
theorem sem_bif (b : BF) (es : Es) : sem Φ (.bif b es) ρ st = (sems Φ es ρ st).bind (kBif b) := by rw [sem]; rfl
theorem kBif_a (b : BF) (ws : List W) : kBif b ws s = bifR b s (rdAll s ws) := by
  show Res.ofO s _ = _
  cases rdAll s ws <;> rfl
theorem bifR_s (b : BF) (xs : List PyData) : bifR b s (some xs) = Res.ofO s (bifD b xs) := rfl
def kMth (Φ : Phi) (m : MN) (es : Es) (ρ : Rho) : W → Stt → Res W := fun x s1 => ssel x fun sep => (sems Φ es ρ s1).bind fun ws s2 => Res.ofO s2 ((rdAll s2 ws).bind (mthD m (.str sep)))
def kMth2 (m : MN) (sep : Str) : List W → Stt → Res W := fun ws s2 => Res.ofO s2 ((rdAll s2 ws).bind (mthD m (.str sep)))
def mthR (m : MN) (sep : Str) (s : Stt) : Option (List PyData) → Res W
  | some xs => Res.ofO s (mthD m (.str sep) xs)
  | none => .bad
theorem sem_mth (m : MN) (a : E) (es : Es) : sem Φ (.mth m a es) ρ st = (sem Φ a ρ st).bind (kMth Φ m es ρ) := by rw [sem]; rfl
theorem kMth_a (m : MN) (es : Es) (x : Str) : kMth Φ m es ρ (.d (.str x)) s = (sems Φ es ρ s).bind (kMth2 m x) := rfl
theorem kMth2_a (m : MN) (x : Str) (ws : List W) : kMth2 m x ws s = mthR m x s (rdAll s ws) := by
  show Res.ofO s _ = _
  cases rdAll s ws <;> rfl
theorem mthR_s (m : MN) (x : Str) (xs : List PyData) : mthR m x s (some xs) = Res.ofO s (mthD m (.str x) xs) := rfl
theorem idxK_s (x : Str) (i : Int) : idxK (.str x) (.int i) = (if x.length ≤ lineN then (atI x.cps.toList i).map fun c => .str ⟨#[c]⟩ else none : Option PyData).map .d := rfl
theorem rdAll_nil : rdAll st [] = some [] := rfl
theorem rdAll_c (w : W) (r : List W) : rdAll st (w :: r) = (w.rd st).bind fun x => (rdAll st r).map (x :: ·) := rfl
theorem bif_len_l (xs : List PyData) : bifD .len [.list xs] = some (.d (.int xs.length)) := rfl
theorem bif_len_t (xs : List PyData) : bifD .len [.tuple xs] = some (.d (.int xs.length)) := rfl
theorem bif_tup_l (xs : List PyData) : bifD .tuple [.list xs] = some (.d (.tuple xs)) := rfl
theorem bif_tup_t (xs : List PyData) : bifD .tuple [.tuple xs] = some (.d (.tuple xs)) := rfl
theorem bif_lst_l (xs : List PyData) : bifD .list [.list xs] = some (.new (.lst xs)) := rfl
theorem bif_lst_t (xs : List PyData) : bifD .list [.tuple xs] = some (.new (.lst xs)) := rfl
theorem bif_len_s (x : Str) : bifD .len [.str x] = (if x.length ≤ lineN then some (.int x.length) else none : Option PyData).map .d := rfl
theorem bif_str_s (x : Str) : bifD .str [.str x] = some (.d (.str x)) := rfl
theorem bif_repr (x : PyData) : bifD .repr [x] = (reprD x).map .d := rfl
def isiK (t : Ty) : PyData → Option W := fun x => toB (isT x t)
def kIsi (t : Ty) : W → Stt → Res W := fun x s => rd1 x s (isiK t)
theorem sem_isi (a : E) (t : Ty) : sem Φ (.isi a t) ρ st = (sem Φ a ρ st).bind (kIsi t) := by rw [sem]; rfl
theorem kIsi_a (t : Ty) (x : W) : kIsi t x s = rdk1 s (isiK t) (x.rd s) := rd1_k _ _
-- operations on data
theorem add_ii (i j : Int) : binD .add (.int i) (.int j) = some (.d (.int (i + j))) := rfl
theorem sub_ii (i j : Int) : binD .sub (.int i) (.int j) = some (.d (.int (i - j))) := rfl
theorem mul_ii (i j : Int) : binD .mul (.int i) (.int j) = if (within64 i || within64 j) = true then some (.d (.int (i * j))) else none := rfl
theorem mul_ti (xs : List PyData) (k : Int) : binD .mul (.tuple xs) (.int k) = if 0 ≤ k ∧ k ≤ 1000 ∧ xs.length ≤ 1000 then some (.d (.tuple (List.replicate k.toNat xs).flatten)) else none := rfl
theorem fdiv_ii (i j : Int) : binD .fdiv (.int i) (.int j) = if 0 < j ∧ j < 1073741824 then some (.d (.int (i / j))) else none := rfl
theorem mod_ii (i j : Int) : binD .mod (.int i) (.int j) = if 0 < j then some (.d (.int (i % j))) else none := rfl
theorem pow_ii (i j : Int) : binD .pow (.int i) (.int j) = if 0 ≤ j ∧ j ≤ 1000000 ∧ within64 i = true then some (.d (.int (i ^ j.toNat))) else none := rfl
theorem add_tt (xs ys : List PyData) : binD .add (.tuple xs) (.tuple ys) = if xs.length + ys.length ≤ lineN then some (.d (.tuple (xs ++ ys))) else none := rfl
theorem add_ll (xs ys : List PyData) : binD .add (.list xs) (.list ys) = if xs.length + ys.length ≤ lineN then some (.new (.lst (xs ++ ys))) else none := rfl
-- statements
def sF : S → S := id
theorem Ss_nil : semSs Φ .nil ρ st = .ok (.nx ρ) st := by rw [semSs]
def kSs (Φ : Phi) (r : Ss) : Fl → Stt → Res Fl := fun fl s1 => match fl with
  | .nx ρ' => semSs Φ r ρ' s1
  | .rt w => .ok (.rt w) s1
theorem Ss_cons (x : S) (r : Ss) : semSs Φ (.cons x r) ρ st = (semS Φ x ρ st).bind (kSs Φ r) := by rw [semSs]; rfl
theorem kSs_n (r : Ss) (ρ' : Rho) : kSs Φ r (.nx ρ') s = semSs Φ r ρ' s := rfl
theorem kSs_r (r : Ss) (w : W) : kSs Φ r (.rt w) s = .ok (.rt w) s := rfl
theorem Ss_frz (is : List Nat) (r : Ss) : semSs Φ (.frz is r) ρ st = semSs Φ r (frzR ρ is) st := by rw [semSs]
theorem frzR_nil : frzR ρ [] = ρ := rfl
def frz1 (ρ : Rho) (i : Nat) : Option (Option W) → Rho
  | some (some (.own c)) => ρ.set i (some (.d c.dat))
  | _ => ρ
theorem frzR_cons (i : Nat) (is : List Nat) : frzR ρ (i :: is) = frz1 (frzR ρ is) i (frzR ρ is)[i]? := by
  rw [frzR]
  unfold frz1
  split <;> simp_all
theorem frz1_own (i : Nat) (c : C) : frz1 ρ i (some (some (.own c))) = ρ.set i (some (.d c.dat)) := rfl
theorem frz1_d (i : Nat) (x : PyData) : frz1 ρ i (some (some (.d x))) = ρ := rfl
def kSet (ρ : Rho) (i : Nat) (m : Md) : W → Stt → Res Fl := fun w s1 => store ρ i m w s1
theorem S_set (i : Nat) (m : Md) (e : E) : semS Φ (.set i m e) ρ st = (sem Φ e ρ st).bind (kSet ρ i m) := by rw [semS]; rfl
theorem kSet_pd (i : Nat) (x : PyData) : kSet ρ i .pure (.d x) s = .ok (.nx (ρ.set i (some (.d x)))) s := rfl
theorem kSet_pn (i : Nat) (xs : List PyData) : kSet ρ i .pure (.new (.lst xs)) s = .ok (.nx (ρ.set i (some (.d (.list xs))))) s := rfl
theorem kSet_pl (i n : Nat) : kSet ρ i .pure (.loc n) s = .ok (.nx (ρ.set i (some (.loc n)))) s := rfl
theorem kSet_pb (i : Nat) (c : C) : kSet ρ i .pure (.bor c) s = .ok (.nx (ρ.set i (some (.bor c)))) s := rfl
theorem kSet_o (i : Nat) (c : C) : kSet ρ i .own (.new c) s = .ok (.nx (ρ.set i (some (.own c)))) s := rfl
theorem kSet_c (i : Nat) (c : C) : kSet ρ i .cell (.new c) s = .ok (.nx (ρ.set i (some (.loc s.length)))) (s ++ [c]) := rfl
def kUnp (ρ : Rho) (is : List Nat) : W → Stt → Res Fl := fun w s1 => Res.ofO s1 ((w.rd s1).bind fun x => (setT (.tp is) x ρ).map .nx)
def unpR (s : Stt) : Option Rho → Res Fl
  | some ρ => .ok (.nx ρ) s
  | none => .bad
theorem S_unp (is : List Nat) (e : E) : semS Φ (.unp is e) ρ st = (sem Φ e ρ st).bind (kUnp ρ is) := by rw [semS]; rfl
theorem kUnp_a (is : List Nat) (x : PyData) : kUnp ρ is (.d x) s = unpR s (setT (.tp is) x ρ) := by
  show Res.ofO s ((setT (.tp is) x ρ).map Fl.nx) = _
  cases setT (.tp is) x ρ <;> rfl
theorem unpR_s (ρ : Rho) : unpR s (some ρ) = .ok (.nx ρ) s := rfl
theorem setT_2 (i j : Nat) (a b : PyData) : setT (.tp [i, j]) (.tuple [a, b]) ρ = some ((ρ.set i (some (.d a))).set j (some (.d b))) := rfl
theorem setT_3 (i j k : Nat) (a b c : PyData) : setT (.tp [i, j, k]) (.tuple [a, b, c]) ρ = some (((ρ.set i (some (.d a))).set j (some (.d b))).set k (some (.d c))) := rfl
def kExp (ρ : Rho) : W → Stt → Res Fl := fun _ s1 => .ok (.nx ρ) s1
theorem S_exp (e : E) : semS Φ (.exp e) ρ st = (sem Φ e ρ st).bind (kExp ρ) := by rw [semS]; rfl
theorem kExp_a (w : W) : kExp ρ w s = .ok (.nx ρ) s := rfl
def kRet : W → Stt → Res Fl := fun w s1 => rtW w s1
theorem S_ret (e : E) : semS Φ (.ret e) ρ st = (sem Φ e ρ st).bind kRet := by rw [semS]; rfl
theorem kRet_d (x : PyData) : kRet (.d x) s = .ok (.rt (.d x)) s := rfl
theorem kRet_n (c : C) : kRet (.new c) s = .ok (.rt (.new c)) s := rfl
theorem kRet_l (n : Nat) : kRet (.loc n) s = .ok (.rt (.loc n)) s := rfl
def rtvR (st : Stt) : Option (Option W) → Res Fl
  | some (some (.own c)) => .ok (.rt (.new c)) st
  | _ => .bad
theorem S_rtv (i : Nat) : semS Φ (.rtv i) ρ st = rtvR st ρ[i]? := by
  rw [semS]
  unfold rtvR
  split <;> simp_all
theorem rtvR_o (c : C) : rtvR st (some (some (.own c))) = .ok (.rt (.new c)) st := rfl
def selS (Φ : Phi) (a b : Ss) (ρ : Rho) (s : Stt) : Bool → Res Fl
  | true => semSs Φ a ρ s
  | false => semSs Φ b ρ s
def kIf (Φ : Phi) (a b : Ss) (ρ : Rho) : W → Stt → Res Fl := fun x s => (truth x s).bind fun t s2 => if t then semSs Φ a ρ s2 else semSs Φ b ρ s2
def kIf2 (Φ : Phi) (a b : Ss) (ρ : Rho) : Bool → Stt → Res Fl := fun t s2 => if t then semSs Φ a ρ s2 else semSs Φ b ρ s2
theorem S_ite (c : E) (a b : Ss) : semS Φ (.ite c a b) ρ st = (sem Φ c ρ st).bind (kIf Φ a b ρ) := by rw [semS]; rfl
theorem kIf_a (a b : Ss) (x : W) : kIf Φ a b ρ x s = (truR s (x.rd s)).bind (kIf2 Φ a b ρ) := by show (truth x s).bind _ = _; rw [truth_k]; rfl
theorem kIf2_a (a b : Ss) (t : Bool) : kIf2 Φ a b ρ t s = selS Φ a b ρ s t := by cases t <;> rfl
theorem selS_t (a b : Ss) : selS Φ a b ρ s true = semSs Φ a ρ s := rfl
theorem selS_f (a b : Ss) : selS Φ a b ρ s false = semSs Φ b ρ s := rfl
-- changes
def appF (y : PyData) : C → Option C | .lst xs => if xs.length < lineN then some (.lst (xs ++ [y])) else none
def extF (ys : List PyData) : C → Option C | .lst xs => if xs.length + ys.length ≤ lineN then some (.lst (xs ++ ys)) else none
def subF (k y : PyData) : C → Option C | .lst xs => (setL xs k y).map .lst
def chgR (ρ : Rho) (i : Nat) (st : Stt) (f : C → Option C) : Option (Option W) → Res Fl
  | some (some (.own c)) => Res.ofO st ((f c).map fun c => .nx (ρ.set i (some (.own c))))
  | some (some (.loc n)) => match (st[n]?).bind f with
    | some c => .ok (.nx ρ) (st.set n c)
    | none => .bad
  | _ => .bad
theorem chg_k (i : Nat) (f : C → Option C) : chg ρ i st f = chgR ρ i st f ρ[i]? := by
  unfold chg
  cases ρ[i]? with
  | none => rfl
  | some o => cases o with
    | none => rfl
    | some w => cases w <;> rfl
def ownR (ρ : Rho) (i : Nat) (st : Stt) : Option C → Res Fl
  | some c => .ok (.nx (ρ.set i (some (.own c)))) st
  | none => .bad
def locR (ρ : Rho) (n : Nat) (st : Stt) : Option C → Res Fl
  | some c => .ok (.nx ρ) (st.set n c)
  | none => .bad
theorem chgR_o (i : Nat) (f : C → Option C) (c : C) : chgR ρ i st f (some (some (.own c))) = ownR ρ i st (f c) := by
  show Res.ofO st _ = _
  cases f c <;> rfl
theorem chgR_l (i n : Nat) (f : C → Option C) : chgR ρ i st f (some (some (.loc n))) = locR ρ n st ((st[n]?).bind f) := by
  show (match (st[n]?).bind f with | some c => Res.ok (Fl.nx ρ) (st.set n c) | none => .bad) = _
  cases (st[n]?).bind f <;> rfl
theorem ownR_s (i : Nat) (c : C) : ownR ρ i st (some c) = .ok (.nx (ρ.set i (some (.own c)))) st := rfl
theorem locR_s (n : Nat) (c : C) : locR ρ n st (some c) = .ok (.nx ρ) (st.set n c) := rfl
theorem appF_l (y : PyData) (xs : List PyData) : appF y (.lst xs) = if xs.length < lineN then some (.lst (xs ++ [y])) else none := rfl
theorem extF_l (ys xs : List PyData) : extF ys (.lst xs) = if xs.length + ys.length ≤ lineN then some (.lst (xs ++ ys)) else none := rfl
theorem subF_l (k : Int) (y : PyData) (xs : List PyData) : subF (.int k) y (.lst xs) = ((ixN xs.length k).map fun j => xs.set j y).map .lst := rfl
def mutR : Option (Option W) → Bool
  | some (some (.own _)) => true
  | some (some (.loc _)) => true
  | _ => false
theorem mutB_k (i : Nat) : mutB ρ i = mutR ρ[i]? := by
  unfold mutB mutR
  split <;> simp_all
theorem mutR_o (c : C) : mutR (some (some (.own c))) = true := rfl
theorem mutR_l (n : Nat) : mutR (some (some (.loc n))) = true := rfl
def kSub (Φ : Phi) (i : Nat) (k : E) (ρ : Rho) : W → Stt → Res Fl := fun w s1 => if mutB ρ i then (sem Φ k ρ s1).bind fun k s2 => match w.py, k.rd s2 with
    | some y, some k => chg ρ i s2 fun | .lst xs => (setL xs k y).map .lst
    | _, _ => .bad
    else .bad
def subM (Φ : Phi) (i : Nat) (k : E) (ρ : Rho) (w : W) (s : Stt) : Bool → Res Fl
  | true => (sem Φ k ρ s).bind fun k s2 => match w.py, k.rd s2 with
    | some y, some k => chg ρ i s2 (subF k y)
    | _, _ => .bad
  | false => .bad
def kSub2 (i : Nat) (ρ : Rho) (w : W) : W → Stt → Res Fl := fun k s2 => match w.py, k.rd s2 with
    | some y, some k => chg ρ i s2 (subF k y)
    | _, _ => .bad
def subR (i : Nat) (ρ : Rho) (s : Stt) : Option PyData → Option PyData → Res Fl
  | some y, some k => chg ρ i s (subF k y)
  | _, _ => .bad
theorem S_sub (i : Nat) (k e : E) : semS Φ (.sub i k e) ρ st = (sem Φ e ρ st).bind (kSub Φ i k ρ) := by rw [semS]; rfl
theorem kSub_a (i : Nat) (k : E) (w : W) : kSub Φ i k ρ w s = subM Φ i k ρ w s (mutR ρ[i]?) := by
  rw [← mutB_k]
  unfold kSub
  cases mutB ρ i <;> rfl
theorem subM_t (i : Nat) (k : E) (w : W) : subM Φ i k ρ w s true = (sem Φ k ρ s).bind (kSub2 i ρ w) := rfl
theorem kSub2_a (i : Nat) (w u : W) : kSub2 i ρ w u s = subR i ρ s w.py (u.rd s) := by
  unfold kSub2 subR
  split <;> simp_all
theorem subR_s (i : Nat) (y k : PyData) : subR i ρ s (some y) (some k) = chgR ρ i s (subF k y) ρ[i]? := chg_k _ _
def appM (Φ : Phi) (i : Nat) (e : E) (ρ : Rho) (s : Stt) : Bool → Res Fl
  | true => (sem Φ e ρ s).bind fun w s1 => match w.py with
    | some y => chg ρ i s1 (appF y)
    | none => .bad
  | false => .bad
def kApp (i : Nat) (ρ : Rho) : W → Stt → Res Fl := fun w s1 => match w.py with
    | some y => chg ρ i s1 (appF y)
    | none => .bad
def appR (i : Nat) (ρ : Rho) (s : Stt) : Option PyData → Res Fl
  | some y => chg ρ i s (appF y)
  | none => .bad
theorem S_app (i : Nat) (e : E) : semS Φ (.app i e) ρ st = appM Φ i e ρ st (mutR ρ[i]?) := by
  rw [semS, ← mutB_k]
  cases mutB ρ i <;> rfl
theorem appM_t (i : Nat) (e : E) : appM Φ i e ρ s true = (sem Φ e ρ s).bind (kApp i ρ) := rfl
theorem kApp_a (i : Nat) (w : W) : kApp i ρ w s = appR i ρ s w.py := by
  unfold kApp appR
  split <;> simp_all
theorem appR_s (i : Nat) (y : PyData) : appR i ρ s (some y) = chgR ρ i s (appF y) ρ[i]? := chg_k _ _
-- loops
def stepF (Φ : Phi) (t : T) (b : Ss) : PyData → Rho → Stt → Res Fl := fun x ρ s => (Res.ofO s (setT t x ρ)).bind fun ρ s => semSs Φ b ρ s
def setR (Φ : Phi) (b : Ss) (s : Stt) : Option Rho → Res Fl
  | some ρ => semSs Φ b ρ s
  | none => .bad
theorem stepF_a (t : T) (b : Ss) (x : PyData) : stepF Φ t b x ρ s = setR Φ b s (setT t x ρ) := by
  show (Res.ofO s (setT t x ρ)).bind _ = _
  cases setT t x ρ <;> rfl
theorem setR_s (b : Ss) : setR Φ b s (some ρ) = semSs Φ b ρ s := rfl
theorem setT_nm (i : Nat) (x : PyData) : setT (.nm i) x ρ = some (ρ.set i (some (.d x))) := rfl
def kFor (Φ : Phi) (t : T) (b : Ss) (ρ : Rho) : List PyData → Stt → Res Fl := fun xs s1 => forL (stepF Φ t b) xs ρ s1
theorem S_for (t : T) (it : It) (b : Ss) : semS Φ (.for_ t it b) ρ st = (semF Φ it ρ st).bind (kFor Φ t b ρ) := by rw [semS]; rfl
theorem kFor_a (t : T) (b : Ss) (xs : List PyData) : kFor Φ t b ρ xs s = forL (stepF Φ t b) xs ρ s := rfl
def kItF : W → Stt → Res (List PyData) := fun x s1 => match x with
    | .loc _ => .bad
    | .lent _ => .bad
    | _ => Res.ofO s1 ((x.rd s1).bind itemsD)
theorem F_of (a : E) : semF Φ (.of a) ρ st = (sem Φ a ρ st).bind kItF := by rw [semF]; rfl
theorem kItF_dl (xs : List PyData) : kItF (.d (.list xs)) s = .ok xs s := rfl
theorem kItF_dt (xs : List PyData) : kItF (.d (.tuple xs)) s = .ok xs s := rfl
theorem kItF_ds (x : Str) : kItF (.d (.str x)) s = .ok (x.cps.toList.map fun c => .str ⟨#[c]⟩) s := rfl
theorem kItF_n (xs : List PyData) : kItF (.new (.lst xs)) s = .ok xs s := rfl
theorem kItF_b (xs : List PyData) : kItF (.bor (.lst xs)) s = .ok xs s := rfl
def kItI : W → Stt → Res (List PyData) := fun x s1 => match x with
    | .loc _ => .bad
    | _ => Res.ofO s1 ((x.rd s1).bind itemsD)
theorem I_of (a : E) : semI Φ (.of a) ρ st = (sem Φ a ρ st).bind kItI := by rw [semI]; rfl
theorem kItI_dl (xs : List PyData) : kItI (.d (.list xs)) s = .ok xs s := rfl
theorem kItI_dt (xs : List PyData) : kItI (.d (.tuple xs)) s = .ok xs s := rfl
theorem kItI_ds (x : Str) : kItI (.d (.str x)) s = .ok (x.cps.toList.map fun c => .str ⟨#[c]⟩) s := rfl
theorem kItI_n (xs : List PyData) : kItI (.new (.lst xs)) s = .ok xs s := rfl
theorem kItI_b (xs : List PyData) : kItI (.bor (.lst xs)) s = .ok xs s := rfl
theorem kItI_l (xs : List PyData) : kItI (.lent (.lst xs)) s = .ok xs s := rfl
def kRng : W → Stt → Res (List PyData) := fun x s1 => Res.ofO s1 ((x.rd s1).bind fun x => (intOf x).bind fun i => if rngOk i then some (rngL 0 i) else none)
theorem I_rng (a : E) : semI Φ (.rng a) ρ st = (sem Φ a ρ st).bind kRng := by rw [semI]; rfl
theorem F_rng (a : E) : semF Φ (.rng a) ρ st = (sem Φ a ρ st).bind kRng := by rw [semF, semI]; rfl
theorem kRng_a (i : Int) : kRng (.d (.int i)) s = Res.ofO s (if rngOk i = true then some (rngL 0 i) else none) := rfl
def kRg2 (Φ : Phi) (b : E) (ρ : Rho) : W → Stt → Res (List PyData) := fun x s1 => (sem Φ b ρ s1).bind fun y s2 => Res.ofO s2 ((x.rd s2).bind fun x => (y.rd s2).bind fun y => (intOf x).bind fun i => (intOf y).bind fun j => if rngOk i && rngOk j then some (rngL i j) else none)
def kRg3 (x : W) : W → Stt → Res (List PyData) := fun y s2 => Res.ofO s2 ((x.rd s2).bind fun x => (y.rd s2).bind fun y => (intOf x).bind fun i => (intOf y).bind fun j => if rngOk i && rngOk j then some (rngL i j) else none)
theorem I_rng2 (a b : E) : semI Φ (.rng2 a b) ρ st = (sem Φ a ρ st).bind (kRg2 Φ b ρ) := by rw [semI]; rfl
theorem F_rng2 (a b : E) : semF Φ (.rng2 a b) ρ st = (sem Φ a ρ st).bind (kRg2 Φ b ρ) := by rw [semF, semI]; rfl
theorem kRg2_a (b : E) (x : W) : kRg2 Φ b ρ x s = (sem Φ b ρ s).bind (kRg3 x) := rfl
theorem kRg3_a (i j : Int) : kRg3 (.d (.int i)) (.d (.int j)) s = Res.ofO s (if (rngOk i && rngOk j) = true then some (rngL i j) else none) := rfl
-- comprehensions
def stepC (Φ : Phi) (elt : E) (t : T) (c : Es) (own : List Nat) (ρ : Rho) : PyData → Stt → Res (Option PyData) := fun x s => (Res.ofO s (setT t x (wipeR ρ own))).bind fun ρ1 s => (semCs Φ c ρ1 s).bind fun b s => if b then (sem Φ elt ρ1 s).bind fun w s => (Res.ofO s w.py).bind fun y s => .ok (some y) s else .ok none s
def kLc (Φ : Phi) (elt : E) (t : T) (c : Es) (own : List Nat) (ρ : Rho) : List PyData → Stt → Res W := fun xs s1 => ((compL (stepC Φ elt t c own ρ) xs s1).nox).bind fun ys s2 => if ys.length ≤ lineN then .ok (.new (.lst ys)) s2 else .bad
def kLc2 : List PyData → Stt → Res W := fun ys s2 => if ys.length ≤ lineN then .ok (.new (.lst ys)) s2 else .bad
theorem sem_lc (elt : E) (t : T) (it : It) (c : Es) (own : List Nat) : sem Φ (.lc elt t it c own) ρ st = (semI Φ it ρ st).bind (kLc Φ elt t c own ρ) := by rw [sem]; rfl
theorem kLc_a (elt : E) (t : T) (c : Es) (own : List Nat) (xs : List PyData) : kLc Φ elt t c own ρ xs s = ((compL (stepC Φ elt t c own ρ) xs s).nox).bind kLc2 := rfl
theorem kLc2_a (ys : List PyData) : kLc2 ys s = if ys.length ≤ lineN then .ok (.new (.lst ys)) s else .bad := rfl
def selC (Φ : Phi) (elt : E) (ρ : Rho) (s : Stt) : Bool → Res (Option PyData)
  | true => (sem Φ elt ρ s).bind fun w s => (Res.ofO s w.py).bind fun y s => .ok (some y) s
  | false => .ok none s
def kElt : W → Stt → Res (Option PyData) := fun w s => (Res.ofO s w.py).bind fun y s => .ok (some y) s
def kCs (Φ : Phi) (elt : E) (ρ : Rho) : Bool → Stt → Res (Option PyData) := fun b s => if b then (sem Φ elt ρ s).bind fun w s => (Res.ofO s w.py).bind fun y s => .ok (some y) s else .ok none s
theorem stepC_nm (elt : E) (i : Nat) (c : Es) (own : List Nat) (x : PyData) : stepC Φ elt (.nm i) c own ρ x s = (semCs Φ c ((wipeR ρ own).set i (some (.d x))) s).bind (kCs Φ elt ((wipeR ρ own).set i (some (.d x)))) := rfl
theorem wipeR_n : wipeR ρ [] = ρ := rfl
theorem wipeR_c (v : Nat) (vs : List Nat) : wipeR ρ (v :: vs) = (wipeR ρ vs).set v none := rfl
theorem kCs_a (elt : E) (b : Bool) : kCs Φ elt ρ b s = selC Φ elt ρ s b := by cases b <;> rfl
theorem selC_t (elt : E) : selC Φ elt ρ s true = (sem Φ elt ρ s).bind kElt := rfl
theorem selC_f (elt : E) : selC Φ elt ρ s false = .ok none s := rfl
theorem kElt_d (x : PyData) : kElt (.d x) s = .ok (some x) s := rfl
theorem kElt_n (xs : List PyData) : kElt (.new (.lst xs)) s = .ok (some (.list xs)) s := rfl
theorem Cs_nil : semCs Φ .nil ρ st = .ok true st := by rw [semCs]
def kC1 (Φ : Phi) (r : Es) (ρ : Rho) : W → Stt → Res Bool := fun x s1 => (truth x s1).bind fun b s2 => if b then semCs Φ r ρ s2 else .ok false s2
def csS (Φ : Phi) (r : Es) (ρ : Rho) (s : Stt) : Bool → Res Bool
  | true => semCs Φ r ρ s
  | false => .ok false s
def kC2 (Φ : Phi) (r : Es) (ρ : Rho) : Bool → Stt → Res Bool := fun b s2 => if b then semCs Φ r ρ s2 else .ok false s2
theorem Cs_cons (e : E) (r : Es) : semCs Φ (.cons e r) ρ st = (sem Φ e ρ st).bind (kC1 Φ r ρ) := by rw [semCs]; rfl
theorem kC1_a (r : Es) (x : W) : kC1 Φ r ρ x s = (truR s (x.rd s)).bind (kC2 Φ r ρ) := by show (truth x s).bind _ = _; rw [truth_k]; rfl
theorem kC2_a (r : Es) (b : Bool) : kC2 Φ r ρ b s = csS Φ r ρ s b := by cases b <;> rfl
theorem csS_t (r : Es) : csS Φ r ρ s true = semCs Φ r ρ s := rfl
theorem csS_f (r : Es) : csS Φ r ρ s false = .ok false s := rfl
theorem csS_n : ∀ b, csS Φ .nil ρ s b = .ok b s := fun b => by cases b <;> first | rfl | exact Cs_nil
theorem compL_fm {f : PyData → Stt → Res (Option PyData)} {g : PyData → Option PyData} {st : Stt} : ∀ {xs : List PyData}, (∀ x ∈ xs, f x st = .ok (g x) st) → compL f xs st = .ok (xs.filterMap g) st
  | [], _ => rfl
  | x :: xs, h => by
    unfold compL
    rw [h x List.mem_cons_self, Res.bind_ok, compL_fm fun y hy => h y (List.mem_cons_of_mem _ hy), Res.bind_ok, List.filterMap_cons]
    cases g x <;> rfl
theorem forL_inv {f : PyData → Rho → Stt → Res Fl} (I : Rho → Stt → Prop) : ∀ {xs : List PyData} {ρ : Rho} {st : Stt}, (∀ x ∈ xs, ∀ ρ st, I ρ st → ∃ ρ' st', f x ρ st = .ok (.nx ρ') st' ∧ I ρ' st') → I ρ st → ∃ ρ' st', forL f xs ρ st = .ok (.nx ρ') st' ∧ I ρ' st'
  | [], ρ, st, _, h => ⟨ρ, st, rfl, h⟩
  | x :: xs, ρ, st, hf, h => by
    obtain ⟨ρ1, st1, e1, h1⟩ := hf x List.mem_cons_self ρ st h
    obtain ⟨ρ2, st2, e2, h2⟩ := forL_inv I (fun y hy => hf y (List.mem_cons_of_mem _ hy)) h1
    refine ⟨ρ2, st2, ?_, h2⟩
    unfold forL
    rw [e1, Res.bind_ok]
    exact e2
-- functions
theorem phi_at {fs : List Fn} {g k : Nat} {f : Fn} {as : List W} (hg : fs[g]? = some f) (h : as.length = f.np ∧ f.np ≤ f.N.length) : phi fs (k + 1) g as st = leaveW st.length (semSs (phi fs k) f.body (as.map some ++ List.replicate (f.N.length - as.length) none) st) := by
  show (match fs[g]? with | some f => callF (phi fs k) f as st | none => .bad) = _
  rw [hg]
  show callF (phi fs k) f as st = _
  unfold callF
  rw [if_pos h]
theorem lv_d (n : Nat) (x : PyData) : leaveW n (.ok (.rt (.d x)) s) = .ok (.d x) (s.take n) := rfl
theorem lv_n (n : Nat) (c : C) : leaveW n (.ok (.rt (.new c)) s) = .ok (.new c) (s.take n) := rfl
theorem lv_x (n : Nat) : leaveW n (.ok (.nx ρ) s) = .ok (.d .none) (s.take n) := rfl
end
end Gm

/-! Plain facts: the law's feed. -/
namespace Gm
open PySem PySem.Spec PyProof.Rows L2
def fFeed : Fn := ⟨"_law_feed", 2, ["_law_script", "_law_at"],
  (.cons (.ret (.lst (.cons (.var 0) (.cons (.var 1) (.cons (.con (.int 0)) (.cons (.con (.int 0)) .nil))))))
  .nil)⟩
def fTake : Fn := ⟨"_law_take", 2, ["_law_feed_here", "_law_many", "_law_found", "_law_cell", "_law_mixed"],
  (.cons (.sub 0 (.con (.int 3)) (.bin .add (.idx (.var 0) (.con (.int 3))) (.con (.int 1))))
  (.cons (.ite (.cmp .ge (.idx (.var 0) (.con (.int 2))) (.var 1))
    (.cons (.set 2 .pure (.bin .mod (.idx (.var 0) (.con (.int 2))) (.var 1)))
    (.cons (.sub 0 (.con (.int 2)) (.bin .fdiv (.idx (.var 0) (.con (.int 2))) (.var 1)))
    (.cons (.ret (.var 2))
    .nil)))
    .nil)
  (.cons (.set 3 .pure (.con (.int 0)))
  (.cons (.ite (.cmp .gt (.bif .len (.cons (.idx (.var 0) (.con (.int 0))) .nil)) (.con (.int 0)))
    (.cons (.set 3 .pure (.idx (.idx (.var 0) (.con (.int 0))) (.bin .mod (.idx (.var 0) (.con (.int 1))) (.bif .len (.cons (.idx (.var 0) (.con (.int 0))) .nil)))))
    .nil)
    .nil)
  (.cons (.sub 0 (.con (.int 1)) (.bin .add (.idx (.var 0) (.con (.int 1))) (.con (.int 1))))
  (.cons (.ite (.cmp .ge (.var 3) (.bin .pow (.con (.int 10)) (.con (.int 18))))
    (.cons (.sub 0 (.con (.int 2)) (.bin .fdiv (.var 3) (.var 1)))
    (.cons (.ret (.bin .mod (.var 3) (.var 1)))
    .nil))
    .nil)
  (.cons (.set 4 .pure (.bin .mod (.bin .mul (.bin .add (.bin .add (.bin .mod (.var 3) (.con (.int 2147483629))) (.bin .mul (.con (.int 7919)) (.idx (.var 0) (.con (.int 3))))) (.bin .mul (.con (.int 31)) (.idx (.var 0) (.con (.int 1))))) (.con (.int 48271))) (.con (.int 2147483647))))
  (.cons (.set 4 .pure (.bin .mod (.bin .mul (.bin .add (.bin .fdiv (.var 4) (.con (.int 13))) (.bin .mul (.con (.int 6151)) (.idx (.var 0) (.con (.int 3))))) (.con (.int 69621))) (.con (.int 2147483587))))
  (.cons (.ret (.bin .mod (.bin .fdiv (.var 4) (.con (.int 11))) (.var 1)))
  .nil)))))))))⟩
/-- the feed: the script, where it stands, what is left, a count -/
def FeedOk (c : C) : Prop := ∃ (ns : List Int) (a b d : Int), c = .lst [.list (ns.map PyData.int), .int a, .int b, .int d]
theorem atI_nat {α : Type} (xs : List α) (i : Nat) (h : i < xs.length) : atI xs (i : Int) = some xs[i] := by
  have h0 : (0 : Int) ≤ (i : Int) := Int.natCast_nonneg i
  have h1 : (i : Int) < (xs.length : Int) := by omega
  unfold atI ixN
  rw [if_pos h0, if_pos h1]
  simp [h]
theorem atI_mod {α : Type} (xs : List α) (a : Int) (h : 0 < xs.length) : ∃ x, atI xs (a % (xs.length : Int)) = some x ∧ x ∈ xs := by
  have h1 : (0 : Int) < (xs.length : Int) := by omega
  have h2 := Int.emod_nonneg a (by omega : (xs.length : Int) ≠ 0)
  have h3 := Int.emod_lt_of_pos a h1
  obtain ⟨i, e⟩ : ∃ i : Nat, a % (xs.length : Int) = (i : Int) := ⟨(a % (xs.length : Int)).toNat, by omega⟩
  have hl : i < xs.length := by omega
  exact ⟨xs[i], by rw [e]; exact atI_nat xs i hl, List.getElem_mem _⟩
theorem atI_0 {α : Type} (x : α) (xs : List α) : atI (x :: xs) 0 = some x := by
  exact atI_nat (x :: xs) 0 (by simp)
theorem atI_1 {α : Type} (x y : α) (xs : List α) : atI (x :: y :: xs) 1 = some y := by
  exact atI_nat (x :: y :: xs) 1 (by simp)
theorem atI_2 {α : Type} (x y z : α) (xs : List α) : atI (x :: y :: z :: xs) 2 = some z := by
  exact atI_nat (x :: y :: z :: xs) 2 (by simp)
theorem atI_3 {α : Type} (x y z w : α) (xs : List α) : atI (x :: y :: z :: w :: xs) 3 = some w := by
  exact atI_nat (x :: y :: z :: w :: xs) 3 (by simp)
theorem ix4_1 : ixN 4 1 = some 1 := by decide
theorem ix4_2 : ixN 4 2 = some 2 := by decide
theorem ix4_3 : ixN 4 3 = some 3 := by decide
theorem len4 {α : Type} (x y z w : α) : [x, y, z, w].length = 4 := rfl
theorem p18 : ((0 : Int) ≤ 18 ∧ (18 : Int) ≤ 1000000 ∧ True) = True := by decide
theorem m1 : ((0 : Int) < 2147483629) = True := by decide
theorem m2 : ((0 : Int) < 2147483647) = True := by decide
theorem m3 : ((0 : Int) < 2147483587) = True := by decide
theorem m4 : ((0 : Int) < 13 ∧ (13 : Int) < 1073741824) = True := by decide
theorem m5 : ((0 : Int) < 11 ∧ (11 : Int) < 1073741824) = True := by decide
theorem w64_a : within64 7919 = true := by decide
theorem w64_b : within64 31 = true := by decide
theorem w64_c : within64 48271 = true := by decide
theorem w64_d : within64 6151 = true := by decide
theorem w64_e : within64 69621 = true := by decide
theorem w64_f : within64 10 = true := by decide
section
variable {Φ : Phi} {rest : Stt} {n : Int}
theorem take_body {c : C} (hc : FeedOk c) (h0 : 0 < n) (h1 : n < 1073741824) :
    ∃ r c', 0 ≤ r ∧ r < n ∧ FeedOk c' ∧ leaveW (rest.length + 1) (semSs Φ fTake.body [some (.loc 0), some (.d (.int n)), none, none, none] (c :: rest)) = .ok (.d (.int r)) (c' :: rest) := by
  have hr : ∀ z : Int, 0 ≤ z % n ∧ z % n < n := fun z => ⟨Int.emod_nonneg z (by omega), Int.emod_lt_of_pos z h0⟩
  suffices h : ∃ z c', FeedOk c' ∧ leaveW (rest.length + 1) (semSs Φ fTake.body [some (.loc 0), some (.d (.int n)), none, none, none] (c :: rest)) = .ok (.d (.int (z % n))) (c' :: rest) by
    obtain ⟨z, c', h1, h2⟩ := h
    exact ⟨z % n, c', (hr z).1, (hr z).2, h1, h2⟩
  obtain ⟨ns, a, b, d, rfl⟩ := hc
  have hn1 : (n < 1073741824) = True := eq_true h1
  have hn0 : (0 < n) = True := eq_true h0
  have hlen : (ns.map PyData.int).length = ns.length := List.length_map ..
  by_cases hb : n ≤ b
  · simp -implicitDefEqProofs only [fTake, sem_var, varR_d, varR_own, varR_bor, varR_loc, sem_con, sem_glo, rdk1_s, rdk2_s, rd_d, rd_new, rd_bor, rd_lent, rd_loc, dat_lst, py_d, py_new, arg_d, arg_new, arg_bor, arg_lent, arg_loc, argAll_nil, sems_nil, sems_cons, kEs_a, kPut_a, sem_bin, kBin_a, kBin2_a, sem_neg, kNeg_a, negK_i, truR_b, truR_i, truR_l, truR_t, truR_n, sem_nt, kNot_a, kNot2_a, sem_an, sem_oo, kAn_a, kOo_a, anS_t, anS_f, ooS_t, ooS_f, sem_cmp, kCmp_a, kCmp2_a, cmpK_lt, cmpK_le, cmpK_gt, cmpK_ge, sem_chn, kChn_a, kChn2_a, kChn3_a, chS_t, chS_f, sem_ite, kIte_a, kIte2_a, selE_t, selE_f, sem_tup, sem_lst, kTup_a, kLst_a, pyAll_nil, pyAll_cons, sem_idx, kIdx_a, kIdx2_a, idxK_l, idxK_t, sem_slc, kSlc_a, kSlc2_a, kSlc3_a, slK_l, slK_t, kPart_n, kPart_i, sem_rev, kRev_a, revD_l, revD_t, sem_cal, kCal_a, calR_s, argAll_c, sem_bif, kBif_a, bifR_s, sem_mth, kMth_a, kMth2_a, mthR_s, idxK_s, rdAll_nil, rdAll_c, bif_len_l, bif_len_t, bif_tup_l, bif_tup_t, bif_lst_l, bif_lst_t, bif_len_s, bif_str_s, bif_repr, sem_isi, kIsi_a, add_ii, sub_ii, mul_ii, mul_ti, fdiv_ii, mod_ii, pow_ii, add_tt, add_ll, Ss_nil, Ss_cons, kSs_n, kSs_r, Ss_frz, frzR_nil, frzR_cons, frz1_own, frz1_d, S_set, kSet_pd, kSet_pn, kSet_pl, kSet_pb, kSet_o, kSet_c, S_unp, kUnp_a, unpR_s, setT_2, setT_3, S_exp, kExp_a, S_ret, kRet_d, kRet_n, kRet_l, S_rtv, rtvR_o, S_ite, kIf_a, kIf2_a, selS_t, selS_f, chgR_o, chgR_l, ownR_s, locR_s, appF_l, extF_l, subF_l, mutR_o, mutR_l, S_sub, kSub_a, subM_t, kSub2_a, subR_s, S_app, appM_t, kApp_a, appR_s, stepF_a, setR_s, setT_nm, S_for, kFor_a, F_of, kItF_dl, kItF_dt, kItF_ds, kItF_n, kItF_b, I_of, kItI_dl, kItI_dt, kItI_ds, kItI_n, kItI_b, kItI_l, I_rng, F_rng, kRng_a, I_rng2, F_rng2, kRg2_a, kRg3_a, sem_lc, kLc_a, kLc2_a, stepC_nm, wipeR_n, wipeR_c, kCs_a, selC_t, selC_f, kElt_d, kElt_n, Cs_nil, Cs_cons, kC1_a, kC2_a, csS_t, csS_f, csS_n, lv_d, lv_n, lv_x, Res.bind_ok, Res.ofO_some, Res.nox_ok, Option.bind_some, Option.map_some, List.getElem?_cons_zero, List.getElem?_cons_succ, List.set_cons_zero, List.set_cons_succ, atI_0, atI_1, atI_2, atI_3, len4, ix4_1, ix4_2, ix4_3, hn0, hn1, and_self, if_true, hb, decide_true, List.take_succ_cons, List.take_length]
    exact ⟨_, _, ⟨ns, a, b / n, d + 1, rfl⟩, rfl⟩
  · by_cases hl : 0 < ns.length
    · obtain ⟨x, hx, hm⟩ := atI_mod (ns.map PyData.int) a (by rw [hlen]; exact hl)
      obtain ⟨z, _, rfl⟩ := List.mem_map.mp hm
      have hli : (0 < (((ns.map PyData.int).length : Nat) : Int)) = True := eq_true (by rw [hlen]; omega)
      by_cases hz : (10 : Int) ^ 18 ≤ z
      · have hz' : ((10 : Int) ^ (18 : Int).toNat ≤ z) = True := eq_true hz
        simp -implicitDefEqProofs only [fTake, sem_var, varR_d, varR_own, varR_bor, varR_loc, sem_con, sem_glo, rdk1_s, rdk2_s, rd_d, rd_new, rd_bor, rd_lent, rd_loc, dat_lst, py_d, py_new, arg_d, arg_new, arg_bor, arg_lent, arg_loc, argAll_nil, sems_nil, sems_cons, kEs_a, kPut_a, sem_bin, kBin_a, kBin2_a, sem_neg, kNeg_a, negK_i, truR_b, truR_i, truR_l, truR_t, truR_n, sem_nt, kNot_a, kNot2_a, sem_an, sem_oo, kAn_a, kOo_a, anS_t, anS_f, ooS_t, ooS_f, sem_cmp, kCmp_a, kCmp2_a, cmpK_lt, cmpK_le, cmpK_gt, cmpK_ge, sem_chn, kChn_a, kChn2_a, kChn3_a, chS_t, chS_f, sem_ite, kIte_a, kIte2_a, selE_t, selE_f, sem_tup, sem_lst, kTup_a, kLst_a, pyAll_nil, pyAll_cons, sem_idx, kIdx_a, kIdx2_a, idxK_l, idxK_t, sem_slc, kSlc_a, kSlc2_a, kSlc3_a, slK_l, slK_t, kPart_n, kPart_i, sem_rev, kRev_a, revD_l, revD_t, sem_cal, kCal_a, calR_s, argAll_c, sem_bif, kBif_a, bifR_s, sem_mth, kMth_a, kMth2_a, mthR_s, idxK_s, rdAll_nil, rdAll_c, bif_len_l, bif_len_t, bif_tup_l, bif_tup_t, bif_lst_l, bif_lst_t, bif_len_s, bif_str_s, bif_repr, sem_isi, kIsi_a, add_ii, sub_ii, mul_ii, mul_ti, fdiv_ii, mod_ii, pow_ii, add_tt, add_ll, Ss_nil, Ss_cons, kSs_n, kSs_r, Ss_frz, frzR_nil, frzR_cons, frz1_own, frz1_d, S_set, kSet_pd, kSet_pn, kSet_pl, kSet_pb, kSet_o, kSet_c, S_unp, kUnp_a, unpR_s, setT_2, setT_3, S_exp, kExp_a, S_ret, kRet_d, kRet_n, kRet_l, S_rtv, rtvR_o, S_ite, kIf_a, kIf2_a, selS_t, selS_f, chgR_o, chgR_l, ownR_s, locR_s, appF_l, extF_l, subF_l, mutR_o, mutR_l, S_sub, kSub_a, subM_t, kSub2_a, subR_s, S_app, appM_t, kApp_a, appR_s, stepF_a, setR_s, setT_nm, S_for, kFor_a, F_of, kItF_dl, kItF_dt, kItF_ds, kItF_n, kItF_b, I_of, kItI_dl, kItI_dt, kItI_ds, kItI_n, kItI_b, kItI_l, I_rng, F_rng, kRng_a, I_rng2, F_rng2, kRg2_a, kRg3_a, sem_lc, kLc_a, kLc2_a, stepC_nm, wipeR_n, wipeR_c, kCs_a, selC_t, selC_f, kElt_d, kElt_n, Cs_nil, Cs_cons, kC1_a, kC2_a, csS_t, csS_f, csS_n, lv_d, lv_n, lv_x, Res.bind_ok, Res.ofO_some, Res.nox_ok, Option.bind_some, Option.map_some, List.getElem?_cons_zero, List.getElem?_cons_succ, List.set_cons_zero, List.set_cons_succ, atI_0, atI_1, atI_2, atI_3, len4, ix4_1, ix4_2, ix4_3, hn0, hn1, and_self, if_true, hb, decide_false, hli, decide_true, hx, w64_f, p18, hz', List.take_succ_cons, List.take_length]
        exact ⟨_, _, ⟨ns, a + 1, z / n, d + 1, rfl⟩, rfl⟩
      · have hz' : ((10 : Int) ^ (18 : Int).toNat ≤ z) = False := eq_false hz
        simp -implicitDefEqProofs only [fTake, sem_var, varR_d, varR_own, varR_bor, varR_loc, sem_con, sem_glo, rdk1_s, rdk2_s, rd_d, rd_new, rd_bor, rd_lent, rd_loc, dat_lst, py_d, py_new, arg_d, arg_new, arg_bor, arg_lent, arg_loc, argAll_nil, sems_nil, sems_cons, kEs_a, kPut_a, sem_bin, kBin_a, kBin2_a, sem_neg, kNeg_a, negK_i, truR_b, truR_i, truR_l, truR_t, truR_n, sem_nt, kNot_a, kNot2_a, sem_an, sem_oo, kAn_a, kOo_a, anS_t, anS_f, ooS_t, ooS_f, sem_cmp, kCmp_a, kCmp2_a, cmpK_lt, cmpK_le, cmpK_gt, cmpK_ge, sem_chn, kChn_a, kChn2_a, kChn3_a, chS_t, chS_f, sem_ite, kIte_a, kIte2_a, selE_t, selE_f, sem_tup, sem_lst, kTup_a, kLst_a, pyAll_nil, pyAll_cons, sem_idx, kIdx_a, kIdx2_a, idxK_l, idxK_t, sem_slc, kSlc_a, kSlc2_a, kSlc3_a, slK_l, slK_t, kPart_n, kPart_i, sem_rev, kRev_a, revD_l, revD_t, sem_cal, kCal_a, calR_s, argAll_c, sem_bif, kBif_a, bifR_s, sem_mth, kMth_a, kMth2_a, mthR_s, idxK_s, rdAll_nil, rdAll_c, bif_len_l, bif_len_t, bif_tup_l, bif_tup_t, bif_lst_l, bif_lst_t, bif_len_s, bif_str_s, bif_repr, sem_isi, kIsi_a, add_ii, sub_ii, mul_ii, mul_ti, fdiv_ii, mod_ii, pow_ii, add_tt, add_ll, Ss_nil, Ss_cons, kSs_n, kSs_r, Ss_frz, frzR_nil, frzR_cons, frz1_own, frz1_d, S_set, kSet_pd, kSet_pn, kSet_pl, kSet_pb, kSet_o, kSet_c, S_unp, kUnp_a, unpR_s, setT_2, setT_3, S_exp, kExp_a, S_ret, kRet_d, kRet_n, kRet_l, S_rtv, rtvR_o, S_ite, kIf_a, kIf2_a, selS_t, selS_f, chgR_o, chgR_l, ownR_s, locR_s, appF_l, extF_l, subF_l, mutR_o, mutR_l, S_sub, kSub_a, subM_t, kSub2_a, subR_s, S_app, appM_t, kApp_a, appR_s, stepF_a, setR_s, setT_nm, S_for, kFor_a, F_of, kItF_dl, kItF_dt, kItF_ds, kItF_n, kItF_b, I_of, kItI_dl, kItI_dt, kItI_ds, kItI_n, kItI_b, kItI_l, I_rng, F_rng, kRng_a, I_rng2, F_rng2, kRg2_a, kRg3_a, sem_lc, kLc_a, kLc2_a, stepC_nm, wipeR_n, wipeR_c, kCs_a, selC_t, selC_f, kElt_d, kElt_n, Cs_nil, Cs_cons, kC1_a, kC2_a, csS_t, csS_f, csS_n, lv_d, lv_n, lv_x, Res.bind_ok, Res.ofO_some, Res.nox_ok, Option.bind_some, Option.map_some, List.getElem?_cons_zero, List.getElem?_cons_succ, List.set_cons_zero, List.set_cons_succ, atI_0, atI_1, atI_2, atI_3, len4, ix4_1, ix4_2, ix4_3, hn0, hn1, and_self, if_true, hb, decide_false, hli, decide_true, hx, w64_f, w64_a, w64_b, w64_c, w64_d, w64_e, Bool.or_true, Bool.true_or, p18, hz', m1, m2, m3, m4, m5, List.take_succ_cons, List.take_length]
        exact ⟨_, _, ⟨ns, a + 1, b, d + 1, rfl⟩, rfl⟩
    · have hli : (0 < (((ns.map PyData.int).length : Nat) : Int)) = False := eq_false (by rw [hlen]; omega)
      have hz' : ((10 : Int) ^ (18 : Int).toNat ≤ 0) = False := eq_false (by decide)
      simp -implicitDefEqProofs only [fTake, sem_var, varR_d, varR_own, varR_bor, varR_loc, sem_con, sem_glo, rdk1_s, rdk2_s, rd_d, rd_new, rd_bor, rd_lent, rd_loc, dat_lst, py_d, py_new, arg_d, arg_new, arg_bor, arg_lent, arg_loc, argAll_nil, sems_nil, sems_cons, kEs_a, kPut_a, sem_bin, kBin_a, kBin2_a, sem_neg, kNeg_a, negK_i, truR_b, truR_i, truR_l, truR_t, truR_n, sem_nt, kNot_a, kNot2_a, sem_an, sem_oo, kAn_a, kOo_a, anS_t, anS_f, ooS_t, ooS_f, sem_cmp, kCmp_a, kCmp2_a, cmpK_lt, cmpK_le, cmpK_gt, cmpK_ge, sem_chn, kChn_a, kChn2_a, kChn3_a, chS_t, chS_f, sem_ite, kIte_a, kIte2_a, selE_t, selE_f, sem_tup, sem_lst, kTup_a, kLst_a, pyAll_nil, pyAll_cons, sem_idx, kIdx_a, kIdx2_a, idxK_l, idxK_t, sem_slc, kSlc_a, kSlc2_a, kSlc3_a, slK_l, slK_t, kPart_n, kPart_i, sem_rev, kRev_a, revD_l, revD_t, sem_cal, kCal_a, calR_s, argAll_c, sem_bif, kBif_a, bifR_s, sem_mth, kMth_a, kMth2_a, mthR_s, idxK_s, rdAll_nil, rdAll_c, bif_len_l, bif_len_t, bif_tup_l, bif_tup_t, bif_lst_l, bif_lst_t, bif_len_s, bif_str_s, bif_repr, sem_isi, kIsi_a, add_ii, sub_ii, mul_ii, mul_ti, fdiv_ii, mod_ii, pow_ii, add_tt, add_ll, Ss_nil, Ss_cons, kSs_n, kSs_r, Ss_frz, frzR_nil, frzR_cons, frz1_own, frz1_d, S_set, kSet_pd, kSet_pn, kSet_pl, kSet_pb, kSet_o, kSet_c, S_unp, kUnp_a, unpR_s, setT_2, setT_3, S_exp, kExp_a, S_ret, kRet_d, kRet_n, kRet_l, S_rtv, rtvR_o, S_ite, kIf_a, kIf2_a, selS_t, selS_f, chgR_o, chgR_l, ownR_s, locR_s, appF_l, extF_l, subF_l, mutR_o, mutR_l, S_sub, kSub_a, subM_t, kSub2_a, subR_s, S_app, appM_t, kApp_a, appR_s, stepF_a, setR_s, setT_nm, S_for, kFor_a, F_of, kItF_dl, kItF_dt, kItF_ds, kItF_n, kItF_b, I_of, kItI_dl, kItI_dt, kItI_ds, kItI_n, kItI_b, kItI_l, I_rng, F_rng, kRng_a, I_rng2, F_rng2, kRg2_a, kRg3_a, sem_lc, kLc_a, kLc2_a, stepC_nm, wipeR_n, wipeR_c, kCs_a, selC_t, selC_f, kElt_d, kElt_n, Cs_nil, Cs_cons, kC1_a, kC2_a, csS_t, csS_f, csS_n, lv_d, lv_n, lv_x, Res.bind_ok, Res.ofO_some, Res.nox_ok, Option.bind_some, Option.map_some, List.getElem?_cons_zero, List.getElem?_cons_succ, List.set_cons_zero, List.set_cons_succ, atI_0, atI_1, atI_2, atI_3, len4, ix4_1, ix4_2, ix4_3, hn0, hn1, and_self, if_true, hb, decide_false, hli, decide_true, w64_f, w64_a, w64_b, w64_c, w64_d, w64_e, Bool.or_true, Bool.true_or, p18, hz', m1, m2, m3, m4, m5, List.take_succ_cons, List.take_length]
      exact ⟨_, _, ⟨ns, a + 1, b, d + 1, rfl⟩, rfl⟩
end
/-- the feed is made; a draw from it: whatever is drawn lies below n -/
theorem feed_ok {fs : List Fn} {g k : Nat} {ns : List Int} {i : Int} (hg : fs[g]? = some fFeed) : ∃ c, FeedOk c ∧ phi fs (k + 1) g [.d (.list (ns.map PyData.int)), .d (.int i)] [] = .ok (.new c) [] := by
  refine ⟨_, ⟨ns, i, 0, 0, rfl⟩, ?_⟩
  rw [phi_at hg ⟨rfl, by decide⟩]
  simp only [fFeed, List.map_cons, List.map_nil, List.cons_append, List.nil_append, sem_var, varR_d, varR_own, varR_bor, varR_loc, sem_con, sem_glo, rdk1_s, rdk2_s, rd_d, rd_new, rd_bor, rd_lent, rd_loc, dat_lst, py_d, py_new, arg_d, arg_new, arg_bor, arg_lent, arg_loc, argAll_nil, sems_nil, sems_cons, kEs_a, kPut_a, sem_bin, kBin_a, kBin2_a, sem_neg, kNeg_a, negK_i, truR_b, truR_i, truR_l, truR_t, truR_n, sem_nt, kNot_a, kNot2_a, sem_an, sem_oo, kAn_a, kOo_a, anS_t, anS_f, ooS_t, ooS_f, sem_cmp, kCmp_a, kCmp2_a, cmpK_lt, cmpK_le, cmpK_gt, cmpK_ge, sem_chn, kChn_a, kChn2_a, kChn3_a, chS_t, chS_f, sem_ite, kIte_a, kIte2_a, selE_t, selE_f, sem_tup, sem_lst, kTup_a, kLst_a, pyAll_nil, pyAll_cons, sem_idx, kIdx_a, kIdx2_a, idxK_l, idxK_t, sem_slc, kSlc_a, kSlc2_a, kSlc3_a, slK_l, slK_t, kPart_n, kPart_i, sem_rev, kRev_a, revD_l, revD_t, sem_cal, kCal_a, calR_s, argAll_c, sem_bif, kBif_a, bifR_s, sem_mth, kMth_a, kMth2_a, mthR_s, idxK_s, rdAll_nil, rdAll_c, bif_len_l, bif_len_t, bif_tup_l, bif_tup_t, bif_lst_l, bif_lst_t, bif_len_s, bif_str_s, bif_repr, sem_isi, kIsi_a, add_ii, sub_ii, mul_ii, mul_ti, fdiv_ii, mod_ii, pow_ii, add_tt, add_ll, Ss_nil, Ss_cons, kSs_n, kSs_r, Ss_frz, frzR_nil, frzR_cons, frz1_own, frz1_d, S_set, kSet_pd, kSet_pn, kSet_pl, kSet_pb, kSet_o, kSet_c, S_unp, kUnp_a, unpR_s, setT_2, setT_3, S_exp, kExp_a, S_ret, kRet_d, kRet_n, kRet_l, S_rtv, rtvR_o, S_ite, kIf_a, kIf2_a, selS_t, selS_f, chgR_o, chgR_l, ownR_s, locR_s, appF_l, extF_l, subF_l, mutR_o, mutR_l, S_sub, kSub_a, subM_t, kSub2_a, subR_s, S_app, appM_t, kApp_a, appR_s, stepF_a, setR_s, setT_nm, S_for, kFor_a, F_of, kItF_dl, kItF_dt, kItF_ds, kItF_n, kItF_b, I_of, kItI_dl, kItI_dt, kItI_ds, kItI_n, kItI_b, kItI_l, I_rng, F_rng, kRng_a, I_rng2, F_rng2, kRg2_a, kRg3_a, sem_lc, kLc_a, kLc2_a, stepC_nm, wipeR_n, wipeR_c, kCs_a, selC_t, selC_f, kElt_d, kElt_n, Cs_nil, Cs_cons, kC1_a, kC2_a, csS_t, csS_f, csS_n, lv_d, lv_n, lv_x, Res.bind_ok, Res.ofO_some, Res.nox_ok, Option.bind_some, Option.map_some, List.getElem?_cons_zero, List.getElem?_cons_succ, List.set_cons_zero, List.set_cons_succ, pyAll_nil]
  rfl
theorem take_ok {fs : List Fn} {g k : Nat} {c : C} {rest : Stt} {n : Int} (hg : fs[g]? = some fTake) (hc : FeedOk c) (h0 : 0 < n) (h1 : n < 1073741824) :
    ∃ r c', 0 ≤ r ∧ r < n ∧ FeedOk c' ∧ phi fs (k + 1) g [.loc 0, .d (.int n)] (c :: rest) = .ok (.d (.int r)) (c' :: rest) := by
  rw [phi_at hg ⟨rfl, by decide⟩]
  exact take_body hc h0 h1
end Gm

/-! Plain facts: data. -/
namespace Gm
open PySem PySem.Spec PyProof.Rows L2
/-! ### how long a text of data is -/
mutual
def szR : PyData → Nat
  | .none => 4
  | .bool _ => 5
  | .int _ => 1922
  | .str x => (reprText x).length
  | .list xs => szRs xs + 2
  | .tuple xs => szRs xs + 4
  | .dict _ => 0
def szRs : List PyData → Nat
  | [] => 0
  | x :: xs => szR x + 2 + szRs xs
end
theorem join_le : ∀ ts : List Str, (Str.join ", " ts).length ≤ piled ts
  | [] => Nat.le_refl _
  | t :: r => by
    have := join_length_add (t :: r) (by simp)
    omega
theorem listText_le (ts : List Str) : (listText ts).length ≤ piled ts + 2 := by
  cases ts with
  | nil => decide
  | cons t r =>
    have h := textFrom_length_pos r 1 (("[" : Str) ++ (if (0 : Nat) > 0 then ", " else "" : String) ++ t) (Nat.succ_pos 0)
    have e : ((("[" : Str) ++ (if (0 : Nat) > 0 then ", " else "" : String) ++ t)).length = 1 + t.length := by
      rw [strLen_append, strLen_append]
      have e1 : (("[" : String) : Str).length = 1 := rfl
      have e2 : (((if (0 : Nat) > 0 then ", " else "" : String) : Str)).length = 0 := rfl
      omega
    have e3 : listText (t :: r) = textFrom 1 (("[" : Str) ++ (if (0 : Nat) > 0 then ", " else "" : String) ++ t) r ++ "]" := rfl
    have e4 : ((("]" : String) : Str)).length = 1 := rfl
    rw [e3, strLen_append, h, e, piled_cons, e4]
    omega
theorem tupleText_le (ts : List Str) : (tupleText ts).length ≤ piled ts + 4 := by
  unfold tupleText
  rw [strLen_append, strLen_append]
  have e1 : ((("(" : String) : Str)).length = 1 := rfl
  have e3 : (((if ts.length == 1 then ",)" else ")" : String) : Str)).length ≤ 2 := by split <;> decide
  have := join_le ts
  omega
mutual
/-- data that repr shows -/
def shw : PyData → Bool
  | .none => true
  | .bool _ => true
  | .int i => decide (i.natAbs.log2 < 1920)
  | .str _ => true
  | .list xs => shws xs
  | .tuple xs => shws xs
  | .dict _ => false
def shws : List PyData → Bool
  | [] => true
  | x :: xs => shw x && shws xs
end
mutual
theorem shw_ok : ∀ d : PyData, shw d = true → d.showable = true ∧ d.shown.length ≤ szR d
  | .none, _ => by simp only [PyData.shown, szR, PyData.showable]; decide
  | .bool b, _ => by cases b <;> (simp only [PyData.shown, szR, PyData.showable]; decide)
  | .int i, h => by
    simp only [shw] at h
    simp only [PyData.shown, szR, PyData.showable]
    have := int_text_length_le (a := i) (k := 1920) (by decide) (of_decide_eq_true h)
    exact ⟨h, by rw [PySem.ofString_length]; omega⟩
  | .str x, _ => by simp only [PyData.shown, szR, PyData.showable]; exact ⟨trivial, Nat.le_refl _⟩
  | .list xs, h => by
    simp only [shw] at h
    simp only [PyData.shown, szR, PyData.showable]
    have := listText_le (PyData.shownAll xs)
    have := shws_ok xs h
    exact ⟨this.1, by omega⟩
  | .tuple xs, h => by
    simp only [shw] at h
    simp only [PyData.shown, szR, PyData.showable]
    have := tupleText_le (PyData.shownAll xs)
    have := shws_ok xs h
    exact ⟨this.1, by omega⟩
  | .dict kvs, h => by simp only [shw] at h; cases h
theorem shws_ok : ∀ ds : List PyData, shws ds = true → PyData.showableAll ds = true ∧ piled (PyData.shownAll ds) ≤ szRs ds
  | [], _ => ⟨rfl, Nat.le_refl _⟩
  | d :: ds, h => by
    simp only [shws, Bool.and_eq_true] at h
    simp only [PyData.shownAll, szRs, piled_cons, PyData.showableAll, Bool.and_eq_true]
    have h1 := shw_ok d h.1
    have h2 := shws_ok ds h.2
    exact ⟨⟨h1.1, h2.1⟩, by omega⟩
end
theorem reprD_ok {d : PyData} (h1 : shw d = true) (h2 : d.depth ≤ 64) (h3 : szR d ≤ lineN) : reprD d = some (.str d.shown) := by
  unfold reprD
  have := shw_ok d h1
  have h4 : d.shown.length ≤ lineN := Nat.le_trans this.2 h3
  rw [this.1, decide_eq_true h2, decide_eq_true h4]
  rfl
theorem reprD_b (b : Bool) : reprD (.bool b) = some (.str (PyData.bool b).shown) := reprD_ok rfl (by simp only [PyData.depth]; omega) (by simp only [szR]; decide)
/-! ### cuts -/
theorem cut_to {xs : List PyData} (n : Nat) : cutD xs none (some (n : Int)) = xs.take n := by
  unfold cutD
  rw [HT.sIx_none, HT.sIx_nat, List.drop_zero, Nat.sub_zero]
  by_cases h : n ≤ xs.length
  · rw [Nat.min_eq_left h]
  · rw [Nat.min_eq_right (by omega), List.take_of_length_le (Nat.le_refl _), List.take_of_length_le (by omega)]
theorem cut_from {xs : List PyData} (n : Nat) : cutD xs (some (n : Int)) none = xs.drop n := by
  unfold cutD
  rw [HT.sIx_none, HT.sIx_nat]
  by_cases h : n ≤ xs.length
  · rw [Nat.min_eq_left h, List.take_of_length_le (by rw [List.length_drop]; omega)]
  · rw [Nat.min_eq_right (by omega), List.drop_of_length_le (Nat.le_refl _), List.drop_of_length_le (by omega), List.take_nil]
theorem cut_last {xs : List PyData} : cutD xs none (some (-1)) = xs.dropLast := by
  unfold cutD
  have e : HT.sIx xs.length xs.length (some (-1)) = xs.length - 1 := by
    show (if (-1 : Int) < 0 then ((-1 : Int) + (xs.length : Int)).toNat else min (-1 : Int).toNat xs.length) = _
    rw [if_pos (by decide)]
    omega
  rw [HT.sIx_none, e, List.drop_zero, Nat.sub_zero, List.dropLast_eq_take]
/-! ### tuples of ints -/
abbrev tuI (is : List Int) : PyData := .tuple (is.map PyData.int)
theorem eqv_ints : ∀ is js : List Int, PyData.eqvAll (is.map PyData.int) (js.map PyData.int) = decide (is = js)
  | [], [] => by simp [PyData.eqvAll]
  | [], _ :: _ => by simp [PyData.eqvAll]
  | _ :: _, [] => by simp [PyData.eqvAll]
  | i :: is, j :: js => by
    simp only [List.map_cons, PyData.eqvAll, PyData.eqv, eqv_ints is js]
    by_cases h : i = j <;> by_cases h2 : is = js <;> simp [h, h2]
theorem lay_ints : ∀ is : List Int, PyData.canLayAll0 (is.map PyData.int) = true
  | [] => by simp [PyData.canLayAll0]
  | i :: is => by simp [PyData.canLayAll0, PyData.canLay0, lay_ints is]
theorem dep_ints : ∀ is : List Int, PyData.depthAll (is.map PyData.int) = 0
  | [] => by simp [PyData.depthAll]
  | i :: is => by simp [PyData.depthAll, PyData.depth, dep_ints is]
theorem shp_tI (is : List Int) : SeqAt.shaped (tuI is) = true := by
  unfold SeqAt.shaped
  simp [PyData.canLay0, PyData.depth, lay_ints, dep_ints]
theorem shp_lI (is : List Int) : SeqAt.shaped (.list (is.map PyData.int)) = true := by
  unfold SeqAt.shaped
  simp [PyData.canLay0, PyData.depth, lay_ints, dep_ints]
theorem eqD_tI (is js : List Int) : eqD (tuI is) (tuI js) = some (decide (is = js)) := by
  show eqS _ _ = _
  unfold eqS
  rw [shp_tI, shp_tI, Bool.and_true, if_pos rfl, PyData.eqv, eqv_ints]
theorem eqD_lI (is js : List Int) : eqD (.list (is.map PyData.int)) (.list (js.map PyData.int)) = some (decide (is = js)) := by
  show eqS _ _ = _
  unfold eqS
  rw [shp_lI, shp_lI, Bool.and_true, if_pos rfl, PyData.eqv, eqv_ints]
theorem eqD_ii (i j : Int) : eqD (.int i) (.int j) = some (decide (i = j)) := by
  show eqS _ _ = _
  unfold eqS
  rw [show SeqAt.shaped (.int i) = true from rfl, show SeqAt.shaped (.int j) = true from rfl, Bool.and_true, if_pos rfl, PyData.eqv]
  congr 1
theorem eqD_ss (i j : Str) : eqD (.str i) (.str j) = some (decide (i = j)) := rfl
theorem cmp_eq (x y : PyData) : cmpK .eq x y = toB (eqD x y) := rfl
theorem cmp_ne (x y : PyData) : cmpK .ne x y = toB ((eqD x y).map (!·)) := rfl
theorem toB_s (b : Bool) : toB (some b) = some (.d (.bool b)) := rfl
theorem atI_map {is : List Int} {i : Int} (h0 : 0 ≤ i) (h1 : i < (is.length : Int)) : ∃ z, atI (is.map PyData.int) i = some (.int z) ∧ z ∈ is ∧ is[i.toNat]? = some z := by
  obtain ⟨n, rfl⟩ : ∃ n : Nat, i = (n : Int) := ⟨i.toNat, by omega⟩
  have hn : n < is.length := by omega
  refine ⟨is[n], ?_, List.getElem_mem _, by simp [hn]⟩
  rw [atI_nat _ _ (by simpa using hn)]
  simp
theorem forL_ix {f : PyData → Rho → Stt → Res Fl} (I : Nat → Rho → Stt → Prop) (xs : List PyData) {ρ : Rho} {st : Stt} (hf : ∀ i x, xs[i]? = some x → ∀ ρ st, I i ρ st → ∃ ρ' st', f x ρ st = .ok (.nx ρ') st' ∧ I (i + 1) ρ' st') (h : I 0 ρ st) : ∃ ρ' st', forL f xs ρ st = .ok (.nx ρ') st' ∧ I xs.length ρ' st' := by
  have key : ∀ (ys : List PyData) (i : Nat) (ρ : Rho) (st : Stt), xs.drop i = ys → I i ρ st → ∃ ρ' st', forL f ys ρ st = .ok (.nx ρ') st' ∧ I (i + ys.length) ρ' st' := by
    intro ys
    induction ys with
    | nil => intro i ρ st _ h; exact ⟨ρ, st, rfl, h⟩
    | cons x ys ih =>
      intro i ρ st e h
      have hx : xs[i]? = some x := by
        have : (xs.drop i)[0]? = some x := by rw [e]; rfl
        simpa using this
      obtain ⟨ρ1, st1, e1, h1⟩ := hf i x hx ρ st h
      have e2 : xs.drop (i + 1) = ys := by
        have : (xs.drop i).drop 1 = ys := by rw [e]; rfl
        rwa [List.drop_drop] at this
      obtain ⟨ρ2, st2, e3, h2⟩ := ih (i + 1) ρ1 st1 e2 h1
      refine ⟨ρ2, st2, ?_, by rw [List.length_cons]; have e4 : i + (ys.length + 1) = i + 1 + ys.length := by omega
                              rw [e4]; exact h2⟩
      unfold forL
      rw [e1, Res.bind_ok]
      exact e3
  obtain ⟨ρ', st', e, h'⟩ := key xs 0 ρ st (List.drop_zero) h
  exact ⟨ρ', st', e, by rw [Nat.zero_add] at h'; exact h'⟩
/-- what is asked of the draws -/
structure FeedH (Φ : Phi) (gf gt : Nat) : Prop where
  feed : ∀ (ns : List Int) (i : Int), ∃ c, FeedOk c ∧ Φ gf [.d (.list (ns.map PyData.int)), .d (.int i)] [] = .ok (.new c) []
  take : ∀ (c : C) (rest : Stt) (n : Int), FeedOk c → 0 < n → n < 1073741824 → ∃ r c', 0 ≤ r ∧ r < n ∧ FeedOk c' ∧ Φ gt [.loc 0, .d (.int n)] (c :: rest) = .ok (.d (.int r)) (c' :: rest)
theorem feedH {fs : List Fn} {gf gt k : Nat} (h1 : fs[gf]? = some fFeed) (h2 : fs[gt]? = some fTake) : FeedH (phi fs (k + 1)) gf gt := ⟨fun _ _ => feed_ok h1, fun _ _ _ hc h0 h1 => take_ok h2 hc h0 h1⟩
end Gm

/-! Plain facts: what holds behind a piece that ends well. -/
namespace Gm
open PySem PySem.Spec PyProof.Rows L2
def Wp {α : Type} (r : Res α) (Q : α → Stt → Prop) : Prop := ∃ a s, r = .ok a s ∧ Q a s
section
variable {α β : Type} {r : Res α} {Q Q' : α → Stt → Prop} {R : β → Stt → Prop} {K : α → Stt → Res β} {st s : Stt}
theorem Wp_ok (a : α) : Wp (.ok a s) Q = Q a s := by
  apply propext
  constructor
  · rintro ⟨_, _, e, h⟩
    cases e
    exact h
  · exact fun h => ⟨a, s, rfl, h⟩
theorem Wp_bind : Wp (r.bind K) R = Wp r fun a s => Wp (K a s) R := by
  apply propext
  cases r with
  | ok a s => rw [Wp_ok]; rfl
  | ex x s => exact ⟨fun ⟨_, _, e, _⟩ => (nomatch e), fun ⟨_, _, e, _⟩ => (nomatch e)⟩
  | bad => exact ⟨fun ⟨_, _, e, _⟩ => (nomatch e), fun ⟨_, _, e, _⟩ => (nomatch e)⟩
theorem Wp.imp (h : Wp r Q) (i : ∀ a s, Q a s → Q' a s) : Wp r Q' := let ⟨a, s, e, q⟩ := h; ⟨a, s, e, i a s q⟩
theorem Wp.of {a : α} (e : r = .ok a s) (h : Q a s) : Wp r Q := ⟨a, s, e, h⟩
theorem Wp_nox : Wp r.nox Q = Wp r Q := by
  apply propext
  cases r with
  | ok a s => rfl
  | ex x s => exact ⟨fun ⟨_, _, e, _⟩ => (nomatch e), fun ⟨_, _, e, _⟩ => (nomatch e)⟩
  | bad => rfl
/-- an item at a place within -/
theorem wp_at {β : Type} {f : β → α} {xs : List β} {i : Int} (h0 : 0 ≤ i) (h1 : i < ((xs.length : Nat) : Int)) (h : ∀ x ∈ xs, Q (f x) st) : Wp (Res.ofO st ((atI xs i).map f)) Q := by
  obtain ⟨n, rfl⟩ : ∃ n : Nat, i = (n : Int) := ⟨i.toNat, by omega⟩
  rw [atI_nat xs n (by omega)]
  exact ⟨_, _, rfl, h _ (List.getElem_mem _)⟩
theorem wp_atP {β : Type} {f : β → α} {xs : List β} {i : Int} (P : β → Prop) (h0 : 0 ≤ i) (h1 : i < ((xs.length : Nat) : Int)) (hP : ∀ x ∈ xs, P x) (h : ∀ x, P x → Q (f x) st) : Wp (Res.ofO st ((atI xs i).map f)) Q := wp_at h0 h1 fun x hx => h x (hP x hx)
theorem wp_leave {k : Nat} {r : Res Fl} {Q : W → Stt → Prop} (h : Wp r fun fl s => Wp (leaveW k (.ok fl s)) Q) : Wp (leaveW k r) Q := by
  obtain ⟨fl, s, rfl, h⟩ := h
  exact h
theorem wp_compL {f : PyData → Stt → Res (Option PyData)} (I : Stt → Prop) (P : PyData → Prop) : ∀ {xs : List PyData} {st : Stt} {Q : List PyData → Stt → Prop}, I st → (∀ x ∈ xs, ∀ st, I st → Wp (f x st) fun o st' => I st' ∧ ∃ y, o = some y ∧ P y) → (∀ ys st', I st' → ys.length = xs.length → (∀ y ∈ ys, P y) → Q ys st') → Wp (compL f xs st) Q
  | [], st, Q, h, _, q => ⟨[], st, rfl, q [] st h rfl fun _ h => (nomatch h)⟩
  | x :: xs, st, Q, h, hf, q => by
    obtain ⟨o, s1, e1, h1, y, rfl, hy⟩ := hf x List.mem_cons_self st h
    unfold compL
    rw [e1, Res.bind_ok, Wp_bind]
    refine wp_compL I P h1 (fun z hz => hf z (List.mem_cons_of_mem _ hz)) fun ys s2 h2 hl hys => ?_
    rw [Wp_ok]
    refine q (y :: ys) s2 h2 (by rw [List.length_cons, List.length_cons, hl]) fun z hz => ?_
    rcases List.mem_cons.mp hz with rfl | hz
    · exact hy
    · exact hys z hz
/-- a loop that runs through -/
theorem wp_forL {f : PyData → Rho → Stt → Res Fl} (I : Nat → Rho → Stt → Prop) {xs : List PyData} {ρ : Rho} {st : Stt} {Q : Fl → Stt → Prop} (h : I 0 ρ st) (hf : ∀ i x, xs[i]? = some x → ∀ ρ st, I i ρ st → Wp (f x ρ st) fun fl st' => ∃ ρ', fl = .nx ρ' ∧ I (i + 1) ρ' st') (q : ∀ ρ' st', I xs.length ρ' st' → Q (.nx ρ') st') : Wp (forL f xs ρ st) Q := by
  obtain ⟨ρ', st', e, h'⟩ := forL_ix I xs (fun i x hx ρ st hi => by
    obtain ⟨fl, s, e, ρ', rfl, h⟩ := hf i x hx ρ st hi
    exact ⟨ρ', s, e, h⟩) h
  exact ⟨_, _, e, q _ _ h'⟩
theorem wp_forI {f : PyData → Rho → Stt → Res Fl} (I : Rho → Stt → Prop) {xs : List PyData} {ρ : Rho} {st : Stt} {Q : Fl → Stt → Prop} (h : I ρ st) (hf : ∀ x ∈ xs, ∀ ρ st, I ρ st → Wp (f x ρ st) fun fl st' => ∃ ρ', fl = .nx ρ' ∧ I ρ' st') (q : ∀ ρ' st', I ρ' st' → Q (.nx ρ') st') : Wp (forL f xs ρ st) Q :=
  wp_forL (fun _ => I) h (fun i x hx ρ st hi => hf x (List.mem_of_getElem? hx) ρ st hi) q
end
theorem FeedH.wp {Φ : Phi} {gf gt : Nat} (H : FeedH Φ gf gt) {c : C} {rest : Stt} {n : Int} {Q : W → Stt → Prop} (hc : FeedOk c) (h0 : 0 < n) (h1 : n < 1073741824) (h : ∀ r c', 0 ≤ r → r < n → FeedOk c' → Q (.d (.int r)) (c' :: rest)) : Wp (Φ gt [.loc 0, .d (.int n)] (c :: rest)) Q := by
  obtain ⟨r, c', g0, g1, g2, e⟩ := H.take c rest n hc h0 h1
  exact ⟨_, _, e, h r c' g0 g1 g2⟩
end Gm

namespace Lk02
open PySem PySem.Spec PyProof.Rows L2 Gm
def f0 : Fn := ⟨"is_whole", 2, ["thing", "least"],
  (.cons (.ret (.an (.isi (.var 0) .int) (.an (.nt (.isi (.var 0) .bool)) (.cmp .ge (.var 0) (.var 1)))))
  .nil)⟩
def f1 : Fn := ⟨"is_up_to", 3, ["thing", "least", "most"],
  (.cons (.ret (.an (.cal "is_whole" 0 (.cons (.var 0) (.cons (.var 1) .nil))) (.cmp .le (.var 0) (.var 2))))
  .nil)⟩
def f2 : Fn := ⟨"is_seat", 1, ["thing", "one"],
  (.cons (.ite (.oo (.nt (.isi (.var 0) .tuple)) (.nt (.chn .le .le (.con (.int 1)) (.bif .len (.cons (.var 0) .nil)) (.glo "MOST_DEEP" (.int 5)))))
    (.cons (.ret (.con (.bool false)))
    .nil)
    .nil)
  (.cons (.ret (.an (.cal "is_up_to" 1 (.cons (.idx (.var 0) (.con (.int 0))) (.cons (.con (.int 0)) (.cons (.glo "MOST_ROOT" (.int 3)) .nil)))) (.bif .all (.cons (.lc (.cal "is_up_to" 1 (.cons (.var 1) (.cons (.con (.int 1)) (.cons (.glo "MOST_CHILD" (.int 99)) .nil)))) (.nm 1) (.of (.slc (.var 0) (.cons (.con (.int 1)) .nil) .nil)) .nil [1]) .nil))))
  .nil))⟩
def f3 : Fn := ⟨"is_dot", 1, ["thing"],
  (.cons (.ret (.an (.isi (.var 0) .tuple) (.an (.cmp .eq (.bif .len (.cons (.var 0) .nil)) (.con (.int 2))) (.an (.cal "is_seat" 2 (.cons (.idx (.var 0) (.con (.int 0))) .nil)) (.cal "is_whole" 0 (.cons (.idx (.var 0) (.con (.int 1))) (.cons (.con (.int 1)) .nil)))))))
  .nil)⟩
def f4 : Fn := ⟨"is_name", 1, ["thing", "letter"],
  (.cons (.ite (.oo (.nt (.isi (.var 0) .str)) (.nt (.chn .le .le (.con (.int 1)) (.bif .len (.cons (.var 0) .nil)) (.glo "MOST_NAME" (.int 8)))))
    (.cons (.ret (.con (.bool false)))
    .nil)
    .nil)
  (.cons (.ret (.bif .all (.cons (.lc (.cmp .isin (.var 1) (.glo "LETTERS" (.str "abcdefghijklmnopqrstuvwxyz"))) (.nm 1) (.of (.var 0)) .nil [1]) .nil)))
  .nil))⟩
def f5 : Fn := ⟨"is_thing", 1, ["thing", "within", "name", "value"],
  (.cons (.ite (.oo (.nt (.isi (.var 0) .tuple)) (.cmp .ne (.bif .len (.cons (.var 0) .nil)) (.con (.int 3))))
    (.cons (.ret (.con (.bool false)))
    .nil)
    .nil)
  (.cons (.unp [1, 2, 3] (.var 0))
  (.cons (.ite (.an (.nt (.cal "is_dot" 3 (.cons (.var 1) .nil))) (.nt (.an (.isi (.var 1) .tuple) (.cmp .eq (.bif .len (.cons (.var 1) .nil)) (.con (.int 0))))))
    (.cons (.ret (.con (.bool false)))
    .nil)
    .nil)
  (.cons (.ret (.an (.cal "is_name" 4 (.cons (.var 2) .nil)) (.cal "is_up_to" 1 (.cons (.var 3) (.cons (.bin .sub (.con (.int 0)) (.glo "MOST_VALUE" (.int 999))) (.cons (.glo "MOST_VALUE" (.int 999)) .nil))))))
  .nil))))⟩
def f6 : Fn := ⟨"_law_feed", 2, ["_law_script", "_law_at"],
  (.cons (.ret (.lst (.cons (.var 0) (.cons (.var 1) (.cons (.con (.int 0)) (.cons (.con (.int 0)) .nil))))))
  .nil)⟩
def f7 : Fn := ⟨"_law_take", 2, ["_law_feed_here", "_law_many", "_law_found", "_law_cell", "_law_mixed"],
  (.cons (.sub 0 (.con (.int 3)) (.bin .add (.idx (.var 0) (.con (.int 3))) (.con (.int 1))))
  (.cons (.ite (.cmp .ge (.idx (.var 0) (.con (.int 2))) (.var 1))
    (.cons (.set 2 .pure (.bin .mod (.idx (.var 0) (.con (.int 2))) (.var 1)))
    (.cons (.sub 0 (.con (.int 2)) (.bin .fdiv (.idx (.var 0) (.con (.int 2))) (.var 1)))
    (.cons (.ret (.var 2))
    .nil)))
    .nil)
  (.cons (.set 3 .pure (.con (.int 0)))
  (.cons (.ite (.cmp .gt (.bif .len (.cons (.idx (.var 0) (.con (.int 0))) .nil)) (.con (.int 0)))
    (.cons (.set 3 .pure (.idx (.idx (.var 0) (.con (.int 0))) (.bin .mod (.idx (.var 0) (.con (.int 1))) (.bif .len (.cons (.idx (.var 0) (.con (.int 0))) .nil)))))
    .nil)
    .nil)
  (.cons (.sub 0 (.con (.int 1)) (.bin .add (.idx (.var 0) (.con (.int 1))) (.con (.int 1))))
  (.cons (.ite (.cmp .ge (.var 3) (.bin .pow (.con (.int 10)) (.con (.int 18))))
    (.cons (.sub 0 (.con (.int 2)) (.bin .fdiv (.var 3) (.var 1)))
    (.cons (.ret (.bin .mod (.var 3) (.var 1)))
    .nil))
    .nil)
  (.cons (.set 4 .pure (.bin .mod (.bin .mul (.bin .add (.bin .add (.bin .mod (.var 3) (.con (.int 2147483629))) (.bin .mul (.con (.int 7919)) (.idx (.var 0) (.con (.int 3))))) (.bin .mul (.con (.int 31)) (.idx (.var 0) (.con (.int 1))))) (.con (.int 48271))) (.con (.int 2147483647))))
  (.cons (.set 4 .pure (.bin .mod (.bin .mul (.bin .add (.bin .fdiv (.var 4) (.con (.int 13))) (.bin .mul (.con (.int 6151)) (.idx (.var 0) (.con (.int 3))))) (.con (.int 69621))) (.con (.int 2147483587))))
  (.cons (.ret (.bin .mod (.bin .fdiv (.var 4) (.con (.int 11))) (.var 1)))
  .nil)))))))))⟩
def f8 : Fn := ⟨"_law_odd", 1, ["_law_thing", "_law_some"],
  (.cons (.ite (.isi (.var 0) .bool)
    (.cons (.ret (.lst (.cons (.con (.int 1)) (.cons (.con .none) (.cons (.con (.int 0)) .nil)))))
    .nil)
    .nil)
  (.cons (.ite (.isi (.var 0) .int)
    (.cons (.ret (.lst (.cons (.bin .add (.var 0) (.con (.int 1))) (.cons (.bin .sub (.var 0) (.con (.int 1))) (.cons (.cmp .eq (.var 0) (.con (.int 1))) (.cons (.con .none) (.cons (.bin .sub (.con (.int 0)) (.var 0)) (.cons (.bif .str (.cons (.var 0) .nil)) (.cons (.tup (.cons (.var 0) .nil)) (.cons (.con (.int 100)) .nil))))))))))
    .nil)
    .nil)
  (.cons (.ite (.isi (.var 0) .tuple)
    (.cons (.set 1 .pure (.lst (.cons (.bif .list (.cons (.var 0) .nil)) (.cons (.slc (.var 0) .nil (.cons (.neg (.con (.int 1))) .nil)) (.cons (.rev (.var 0)) (.cons (.bin .add (.var 0) (.slc (.var 0) .nil (.cons (.con (.int 1)) .nil))) (.cons (.bin .add (.var 0) (.slc (.var 0) (.cons (.neg (.con (.int 1))) .nil) .nil)) .nil)))))))
    (.cons (.ret (.bin .add (.var 1) (.lst (.cons (.bin .add (.var 0) (.tup (.cons (.con (.int 1)) .nil))) (.cons (.tup .nil) (.cons (.con .none) (.cons (.tup (.cons (.var 0) .nil)) (.cons (.slc (.var 0) (.cons (.con (.int 1)) .nil) .nil) .nil))))))))
    .nil))
    .nil)
  (.cons (.ret (.lst (.cons (.con (.str "")) (.cons (.con (.str "A")) (.cons (.con (.str "a b")) (.cons (.con (.str "abcdefghi")) (.cons (.con (.str "ab")) (.cons (.con .none) (.cons (.con (.int 7)) (.cons (.con (.str "1")) .nil))))))))))
  .nil))))⟩
def f9 : Fn := ⟨"_law_bent", 2, ["_law_feed_here", "_law_thing", "_law_at", "_law_some"],
  (.cons (.ite (.an (.isi (.var 1) .tuple) (.an (.cmp .gt (.bif .len (.cons (.var 1) .nil)) (.con (.int 0))) (.cmp .gt (.cal "_law_take" 7 (.cons (.var 0) (.cons (.con (.int 6)) .nil))) (.con (.int 0)))))
    (.cons (.set 2 .pure (.cal "_law_take" 7 (.cons (.var 0) (.cons (.bif .len (.cons (.var 1) .nil)) .nil))))
    (.cons (.ret (.bin .add (.bin .add (.slc (.var 1) .nil (.cons (.var 2) .nil)) (.tup (.cons (.cal "_law_bent" 9 (.cons (.var 0) (.cons (.idx (.var 1) (.var 2)) .nil))) .nil))) (.slc (.var 1) (.cons (.bin .add (.var 2) (.con (.int 1))) .nil) .nil)))
    .nil))
    .nil)
  (.cons (.set 3 .pure (.cal "_law_odd" 8 (.cons (.var 1) .nil)))
  (.cons (.ret (.idx (.var 3) (.cal "_law_take" 7 (.cons (.var 0) (.cons (.bif .len (.cons (.var 3) .nil)) .nil)))))
  .nil)))⟩
def f10 : Fn := ⟨"_law_whole", 3, ["_law_thing", "_law_least", "_law_most"],
  (.cons (.ret (.an (.isi (.var 0) .int) (.an (.nt (.isi (.var 0) .bool)) (.chn .le .le (.var 1) (.var 0) (.var 2)))))
  .nil)⟩
def f11 : Fn := ⟨"_law_is_seat", 1, ["_law_thing", "_law_one"],
  (.cons (.ite (.oo (.nt (.isi (.var 0) .tuple)) (.oo (.cmp .notin (.bif .len (.cons (.var 0) .nil)) (.tup (.cons (.con (.int 1)) (.cons (.con (.int 2)) (.cons (.con (.int 3)) (.cons (.con (.int 4)) (.cons (.con (.int 5)) .nil))))))) (.nt (.cal "_law_whole" 10 (.cons (.idx (.var 0) (.con (.int 0))) (.cons (.con (.int 0)) (.cons (.con (.int 3)) .nil)))))))
    (.cons (.ret (.con (.bool false)))
    .nil)
    .nil)
  (.cons (.ret (.cmp .eq (.lc (.var 1) (.nm 1) (.of (.slc (.var 0) (.cons (.con (.int 1)) .nil) .nil)) (.cons (.nt (.cal "_law_whole" 10 (.cons (.var 1) (.cons (.con (.int 1)) (.cons (.con (.int 99)) .nil))))) .nil) [1]) (.lst .nil)))
  .nil))⟩
def f12 : Fn := ⟨"_law_is_dot", 1, ["_law_thing"],
  (.cons (.ite (.oo (.nt (.isi (.var 0) .tuple)) (.cmp .ne (.bif .len (.cons (.var 0) .nil)) (.con (.int 2))))
    (.cons (.ret (.con (.bool false)))
    .nil)
    .nil)
  (.cons (.ret (.an (.cal "_law_is_seat" 11 (.cons (.idx (.var 0) (.con (.int 0))) .nil)) (.cal "_law_whole" 10 (.cons (.idx (.var 0) (.con (.int 1))) (.cons (.con (.int 1)) (.cons (.bin .pow (.con (.int 10)) (.con (.int 50))) .nil))))))
  .nil))⟩
def f13 : Fn := ⟨"_law_is_thing", 1, ["_law_thing", "_law_sign"],
  (.cons (.ite (.oo (.nt (.isi (.var 0) .tuple)) (.oo (.cmp .ne (.bif .len (.cons (.var 0) .nil)) (.con (.int 3))) (.nt (.cal "_law_whole" 10 (.cons (.idx (.var 0) (.con (.int 2))) (.cons (.neg (.con (.int 999))) (.cons (.con (.int 999)) .nil)))))))
    (.cons (.ret (.con (.bool false)))
    .nil)
    .nil)
  (.cons (.ite (.oo (.nt (.isi (.idx (.var 0) (.con (.int 0))) .tuple)) (.an (.cmp .ne (.idx (.var 0) (.con (.int 0))) (.tup .nil)) (.nt (.cal "_law_is_dot" 12 (.cons (.idx (.var 0) (.con (.int 0))) .nil)))))
    (.cons (.ret (.con (.bool false)))
    .nil)
    .nil)
  (.cons (.ite (.oo (.nt (.isi (.idx (.var 0) (.con (.int 1))) .str)) (.nt (.chn .lt .lt (.con (.int 0)) (.bif .len (.cons (.idx (.var 0) (.con (.int 1))) .nil)) (.con (.int 9)))))
    (.cons (.ret (.con (.bool false)))
    .nil)
    .nil)
  (.cons (.ret (.cmp .eq (.lc (.var 1) (.nm 1) (.of (.idx (.var 0) (.con (.int 1)))) (.cons (.cmp .notin (.var 1) (.con (.str "abcdefghijklmnopqrstuvwxyz"))) .nil) [1]) (.lst .nil)))
  .nil))))⟩
def f14_b1 : Ss :=
  (.cons (.ite (.cmp .ne (.bif .repr (.cons (.cal "is_dot" 3 (.cons (.var 11) .nil)) .nil)) (.bif .repr (.cons (.cal "_law_is_dot" 12 (.cons (.var 11) .nil)) .nil)))
    (.cons (.ret (.con (.bool false)))
    .nil)
    .nil)
  (.cons (.ite (.cmp .ne (.bif .repr (.cons (.cal "is_thing" 5 (.cons (.var 11) .nil)) .nil)) (.bif .repr (.cons (.cal "_law_is_thing" 13 (.cons (.var 11) .nil)) .nil)))
    (.cons (.ret (.con (.bool false)))
    .nil)
    .nil)
  .nil))
def f14_b2 : Ss :=
  (.cons (.set 3 .pure (.bin .add (.tup (.cons (.cal "_law_take" 7 (.cons (.var 1) (.cons (.con (.int 4)) .nil))) .nil)) (.bin .mul (.tup (.cons (.bin .add (.con (.int 1)) (.cal "_law_take" 7 (.cons (.var 1) (.cons (.con (.int 99)) .nil)))) .nil)) (.cal "_law_take" 7 (.cons (.var 1) (.cons (.con (.int 6)) .nil))))))
  (.cons (.set 4 .pure (.tup (.cons (.var 3) (.cons (.idx (.lst (.cons (.con (.int 1)) (.cons (.con (.int 0)) (.cons (.con (.int 2)) (.cons (.bin .pow (.con (.int 10)) (.con (.int 39))) (.cons (.neg (.con (.int 1))) (.cons (.con (.int 5)) .nil))))))) (.cal "_law_take" 7 (.cons (.var 1) (.cons (.con (.int 6)) .nil)))) .nil))))
  (.cons (.set 5 .pure (.idx (.lst (.cons (.tup .nil) (.cons (.tup .nil) (.cons (.var 4) (.cons (.con .none) (.cons (.tup .nil) (.cons (.tup (.cons (.var 3) (.cons (.con (.int 3)) .nil))) .nil))))))) (.cal "_law_take" 7 (.cons (.var 1) (.cons (.con (.int 6)) .nil)))))
  (.cons (.set 6 .pure (.con (.str "abcdefghijklmnopqrstuvwxyz")))
  (.cons (.set 7 .pure (.mth .join (.con (.str "")) (.cons (.lc (.idx (.var 6) (.cal "_law_take" 7 (.cons (.var 1) (.cons (.con (.int 26)) .nil)))) (.nm 12) (.rng (.bin .add (.con (.int 1)) (.cal "_law_take" 7 (.cons (.var 1) (.cons (.con (.int 9)) .nil))))) .nil [12]) .nil)))
  (.cons (.set 8 .pure (.idx (.lst (.cons (.con (.str "a")) (.cons (.con (.str "tea")) (.cons (.con (.str "abcdefgh")) (.cons (.con (.str "abcdefghi")) (.cons (.con (.str "")) (.cons (.con (.str "aB")) (.cons (.var 7) (.cons (.con (.str "a1")) (.cons (.var 7) .nil)))))))))) (.cal "_law_take" 7 (.cons (.var 1) (.cons (.con (.int 9)) .nil)))))
  (.cons (.set 9 .pure (.tup (.cons (.var 5) (.cons (.var 8) (.cons (.idx (.lst (.cons (.con (.int 0)) (.cons (.con (.int 999)) (.cons (.neg (.con (.int 999))) (.cons (.con (.int 1000)) (.cons (.neg (.con (.int 1000))) (.cons (.con (.int 5)) .nil))))))) (.cal "_law_take" 7 (.cons (.var 1) (.cons (.con (.int 6)) .nil)))) .nil)))))
  (.cons (.set 10 .pure (.lst (.cons (.var 4) (.cons (.cal "_law_bent" 9 (.cons (.var 1) (.cons (.var 4) .nil))) (.cons (.var 9) (.cons (.cal "_law_bent" 9 (.cons (.var 1) (.cons (.var 9) .nil))) .nil))))))
  (.cons (.for_ (.nm 11) (.of (.bin .add (.var 10) (.lst (.cons (.cal "_law_bent" 9 (.cons (.var 1) (.cons (.idx (.var 10) (.con (.int 3))) .nil))) .nil)))) f14_b1)
  .nil)))))))))
def f14 : Fn := ⟨"law", 1, ["_law_script", "_law_feed_here", "_law_turn", "_law_seat", "_law_dot", "_law_within", "_law_letters", "_law_drawn", "_law_name", "_law_thing", "_law_some", "_law_one", "_law_k"],
  (.cons (.set 1 .cell (.cal "_law_feed" 6 (.cons (.var 0) (.cons (.con (.int 0)) .nil))))
  (.cons (.for_ (.nm 2) (.rng (.con (.int 8))) f14_b2)
  (.cons (.ret (.con (.bool true)))
  .nil)))⟩
abbrev fs : List Fn := [f0, f1, f2, f3, f4, f5, f6, f7, f8, f9, f10, f11, f12, f13, f14]
def top (i : Nat) : Stmt := PySem.Challenge.pw_gonemarks_k02_dots_and_things_by_kind.main.body.getD i (.Pass ⟨0, 0, 0, 0⟩)
abbrev st0 : Stmt := top 7
def d0 : He.DefD := ⟨("is_whole", none), "is_whole", "is_whole", defArgs st0, defBody st0, defScope st0, [], []⟩
abbrev st1 : Stmt := top 8
def d1 : He.DefD := ⟨("is_up_to", none), "is_up_to", "is_up_to", defArgs st1, defBody st1, defScope st1, [], []⟩
abbrev st2 : Stmt := top 9
def d2 : He.DefD := ⟨("is_seat", none), "is_seat", "is_seat", defArgs st2, defBody st2, defScope st2, [], []⟩
abbrev st3 : Stmt := top 10
def d3 : He.DefD := ⟨("is_dot", none), "is_dot", "is_dot", defArgs st3, defBody st3, defScope st3, [], []⟩
abbrev st4 : Stmt := top 11
def d4 : He.DefD := ⟨("is_name", none), "is_name", "is_name", defArgs st4, defBody st4, defScope st4, [], []⟩
abbrev st5 : Stmt := top 12
def d5 : He.DefD := ⟨("is_thing", none), "is_thing", "is_thing", defArgs st5, defBody st5, defScope st5, [], []⟩
abbrev st6 : Stmt := top 14
def d6 : He.DefD := ⟨("_law_feed", none), "_law_feed", "_law_feed", defArgs st6, defBody st6, defScope st6, [], []⟩
abbrev st7 : Stmt := top 15
def d7 : He.DefD := ⟨("_law_take", none), "_law_take", "_law_take", defArgs st7, defBody st7, defScope st7, [], []⟩
abbrev st8 : Stmt := top 16
def d8 : He.DefD := ⟨("_law_odd", none), "_law_odd", "_law_odd", defArgs st8, defBody st8, defScope st8, [], []⟩
abbrev st9 : Stmt := top 17
def d9 : He.DefD := ⟨("_law_bent", none), "_law_bent", "_law_bent", defArgs st9, defBody st9, defScope st9, [], []⟩
abbrev st10 : Stmt := top 18
def d10 : He.DefD := ⟨("_law_whole", none), "_law_whole", "_law_whole", defArgs st10, defBody st10, defScope st10, [], []⟩
abbrev st11 : Stmt := top 19
def d11 : He.DefD := ⟨("_law_is_seat", none), "_law_is_seat", "_law_is_seat", defArgs st11, defBody st11, defScope st11, [], []⟩
abbrev st12 : Stmt := top 20
def d12 : He.DefD := ⟨("_law_is_dot", none), "_law_is_dot", "_law_is_dot", defArgs st12, defBody st12, defScope st12, [], []⟩
abbrev st13 : Stmt := top 21
def d13 : He.DefD := ⟨("_law_is_thing", none), "_law_is_thing", "_law_is_thing", defArgs st13, defBody st13, defScope st13, [], []⟩
abbrev st14 : Stmt := top 22
def d14 : He.DefD := ⟨("law", none), "law", "law", defArgs st14, defBody st14, defScope st14, [], []⟩
def fn : List He.DefD := [d0, d1, d2, d3, d4, d5, d6, d7, d8, d9, d10, d11, d12, d13, d14]
def fa : List He.Fa := [.glo "is_whole", .glo "is_up_to", .glo "is_seat", .glo "is_dot", .glo "is_name", .glo "is_thing", .glo "_law_feed", .glo "_law_take", .glo "_law_odd", .glo "_law_bent", .glo "_law_whole", .glo "_law_is_seat", .glo "_law_is_dot", .glo "_law_is_thing", .glo "law", .free "isinstance", .free "bool", .free "int", .free "len", .free "tuple", .free "all", .free "str", .free "list", .free "range", .free "repr"]
def co : List (Str × PyData) := [("MOST_ROOT", (.int 3)), ("MOST_CHILD", (.int 99)), ("MOST_DEEP", (.int 5)), ("MOST_NAME", (.int 8)), ("MOST_VALUE", (.int 999)), ("LETTERS", (.str "abcdefghijklmnopqrstuvwxyz"))]
def T : Tb := ⟨[("is_whole", 0), ("is_up_to", 1), ("is_seat", 2), ("is_dot", 3), ("is_name", 4), ("is_thing", 5), ("_law_feed", 6), ("_law_take", 7), ("_law_odd", 8), ("_law_bent", 9), ("_law_whole", 10), ("_law_is_seat", 11), ("_law_is_dot", 12), ("_law_is_thing", 13), ("law", 14)], co, ["isinstance", "bool", "int", "len", "tuple", "all", "str", "list", "range", "repr"]⟩
theorem sc0 : FnScope f0.N ["thing", "least"] (defScope st0) := ⟨rfl, rfl, rfl, by decide +kernel, rfl, by decide +kernel, by decide +kernel⟩
theorem ck0 : chkSs f0.N T (defScope st0) f0.body (defBody st0) = true := by kernel_rfl
theorem sc1 : FnScope f1.N ["thing", "least", "most"] (defScope st1) := ⟨rfl, rfl, rfl, by decide +kernel, rfl, by decide +kernel, by decide +kernel⟩
theorem ck1 : chkSs f1.N T (defScope st1) f1.body (defBody st1) = true := by kernel_rfl
theorem sc2 : FnScope f2.N ["thing"] (defScope st2) := ⟨rfl, rfl, rfl, by decide +kernel, rfl, by decide +kernel, by decide +kernel⟩
theorem ck2 : chkSs f2.N T (defScope st2) f2.body (defBody st2) = true := by kernel_rfl
theorem sc3 : FnScope f3.N ["thing"] (defScope st3) := ⟨rfl, rfl, rfl, by decide +kernel, rfl, by decide +kernel, by decide +kernel⟩
theorem ck3 : chkSs f3.N T (defScope st3) f3.body (defBody st3) = true := by kernel_rfl
theorem sc4 : FnScope f4.N ["thing"] (defScope st4) := ⟨rfl, rfl, rfl, by decide +kernel, rfl, by decide +kernel, by decide +kernel⟩
theorem ck4 : chkSs f4.N T (defScope st4) f4.body (defBody st4) = true := by kernel_rfl
theorem sc5 : FnScope f5.N ["thing"] (defScope st5) := ⟨rfl, rfl, rfl, by decide +kernel, rfl, by decide +kernel, by decide +kernel⟩
theorem ck5 : chkSs f5.N T (defScope st5) f5.body (defBody st5) = true := by kernel_rfl
theorem sc6 : FnScope f6.N ["_law_script", "_law_at"] (defScope st6) := ⟨rfl, rfl, rfl, by decide +kernel, rfl, by decide +kernel, by decide +kernel⟩
theorem ck6 : chkSs f6.N T (defScope st6) f6.body (defBody st6) = true := by kernel_rfl
theorem sc7 : FnScope f7.N ["_law_feed_here", "_law_many"] (defScope st7) := ⟨rfl, rfl, rfl, by decide +kernel, rfl, by decide +kernel, by decide +kernel⟩
theorem ck7 : chkSs f7.N T (defScope st7) f7.body (defBody st7) = true := by kernel_rfl
theorem sc8 : FnScope f8.N ["_law_thing"] (defScope st8) := ⟨rfl, rfl, rfl, by decide +kernel, rfl, by decide +kernel, by decide +kernel⟩
theorem ck8 : chkSs f8.N T (defScope st8) f8.body (defBody st8) = true := by kernel_rfl
theorem sc9 : FnScope f9.N ["_law_feed_here", "_law_thing"] (defScope st9) := ⟨rfl, rfl, rfl, by decide +kernel, rfl, by decide +kernel, by decide +kernel⟩
theorem ck9 : chkSs f9.N T (defScope st9) f9.body (defBody st9) = true := by kernel_rfl
theorem sc10 : FnScope f10.N ["_law_thing", "_law_least", "_law_most"] (defScope st10) := ⟨rfl, rfl, rfl, by decide +kernel, rfl, by decide +kernel, by decide +kernel⟩
theorem ck10 : chkSs f10.N T (defScope st10) f10.body (defBody st10) = true := by kernel_rfl
theorem sc11 : FnScope f11.N ["_law_thing"] (defScope st11) := ⟨rfl, rfl, rfl, by decide +kernel, rfl, by decide +kernel, by decide +kernel⟩
theorem ck11 : chkSs f11.N T (defScope st11) f11.body (defBody st11) = true := by kernel_rfl
theorem sc12 : FnScope f12.N ["_law_thing"] (defScope st12) := ⟨rfl, rfl, rfl, by decide +kernel, rfl, by decide +kernel, by decide +kernel⟩
theorem ck12 : chkSs f12.N T (defScope st12) f12.body (defBody st12) = true := by kernel_rfl
theorem sc13 : FnScope f13.N ["_law_thing"] (defScope st13) := ⟨rfl, rfl, rfl, by decide +kernel, rfl, by decide +kernel, by decide +kernel⟩
theorem ck13 : chkSs f13.N T (defScope st13) f13.body (defBody st13) = true := by kernel_rfl
theorem sc14 : FnScope f14.N ["_law_script"] (defScope st14) := ⟨rfl, rfl, rfl, by decide +kernel, rfl, by decide +kernel, by decide +kernel⟩
theorem ck14 : chkSs f14.N T (defScope st14) f14.body (defBody st14) = true := by kernel_rfl
section
variable {K : PySem.W.Frag} {h : Heap} {mg : Str → Option Value}
theorem ok0 (X : K.In h) (G : h.Ns mainGlobals mg) (c : He.SaysD fa fn K) : DefOk K mg T "is_whole" f0 := by
  obtain ⟨fd, F⟩ := c.def_ 0 (d := d0) rfl
  exact defOk_of (ps := ["thing", "least"]) F sc0 rfl ck0 (He.glo_ok X G (c.fact 0 (f := .glo "is_whole") rfl)) (fun _ _ _ _ _ _ us hl => match us, hl with | [_, _], _ => rfl)
theorem ok1 (X : K.In h) (G : h.Ns mainGlobals mg) (c : He.SaysD fa fn K) : DefOk K mg T "is_up_to" f1 := by
  obtain ⟨fd, F⟩ := c.def_ 1 (d := d1) rfl
  exact defOk_of (ps := ["thing", "least", "most"]) F sc1 rfl ck1 (He.glo_ok X G (c.fact 1 (f := .glo "is_up_to") rfl)) (fun _ _ _ _ _ _ us hl => match us, hl with | [_, _, _], _ => rfl)
theorem ok2 (X : K.In h) (G : h.Ns mainGlobals mg) (c : He.SaysD fa fn K) : DefOk K mg T "is_seat" f2 := by
  obtain ⟨fd, F⟩ := c.def_ 2 (d := d2) rfl
  exact defOk_of (ps := ["thing"]) F sc2 rfl ck2 (He.glo_ok X G (c.fact 2 (f := .glo "is_seat") rfl)) (fun _ _ _ _ _ _ us hl => match us, hl with | [_], _ => rfl)
theorem ok3 (X : K.In h) (G : h.Ns mainGlobals mg) (c : He.SaysD fa fn K) : DefOk K mg T "is_dot" f3 := by
  obtain ⟨fd, F⟩ := c.def_ 3 (d := d3) rfl
  exact defOk_of (ps := ["thing"]) F sc3 rfl ck3 (He.glo_ok X G (c.fact 3 (f := .glo "is_dot") rfl)) (fun _ _ _ _ _ _ us hl => match us, hl with | [_], _ => rfl)
theorem ok4 (X : K.In h) (G : h.Ns mainGlobals mg) (c : He.SaysD fa fn K) : DefOk K mg T "is_name" f4 := by
  obtain ⟨fd, F⟩ := c.def_ 4 (d := d4) rfl
  exact defOk_of (ps := ["thing"]) F sc4 rfl ck4 (He.glo_ok X G (c.fact 4 (f := .glo "is_name") rfl)) (fun _ _ _ _ _ _ us hl => match us, hl with | [_], _ => rfl)
theorem ok5 (X : K.In h) (G : h.Ns mainGlobals mg) (c : He.SaysD fa fn K) : DefOk K mg T "is_thing" f5 := by
  obtain ⟨fd, F⟩ := c.def_ 5 (d := d5) rfl
  exact defOk_of (ps := ["thing"]) F sc5 rfl ck5 (He.glo_ok X G (c.fact 5 (f := .glo "is_thing") rfl)) (fun _ _ _ _ _ _ us hl => match us, hl with | [_], _ => rfl)
theorem ok6 (X : K.In h) (G : h.Ns mainGlobals mg) (c : He.SaysD fa fn K) : DefOk K mg T "_law_feed" f6 := by
  obtain ⟨fd, F⟩ := c.def_ 6 (d := d6) rfl
  exact defOk_of (ps := ["_law_script", "_law_at"]) F sc6 rfl ck6 (He.glo_ok X G (c.fact 6 (f := .glo "_law_feed") rfl)) (fun _ _ _ _ _ _ us hl => match us, hl with | [_, _], _ => rfl)
theorem ok7 (X : K.In h) (G : h.Ns mainGlobals mg) (c : He.SaysD fa fn K) : DefOk K mg T "_law_take" f7 := by
  obtain ⟨fd, F⟩ := c.def_ 7 (d := d7) rfl
  exact defOk_of (ps := ["_law_feed_here", "_law_many"]) F sc7 rfl ck7 (He.glo_ok X G (c.fact 7 (f := .glo "_law_take") rfl)) (fun _ _ _ _ _ _ us hl => match us, hl with | [_, _], _ => rfl)
theorem ok8 (X : K.In h) (G : h.Ns mainGlobals mg) (c : He.SaysD fa fn K) : DefOk K mg T "_law_odd" f8 := by
  obtain ⟨fd, F⟩ := c.def_ 8 (d := d8) rfl
  exact defOk_of (ps := ["_law_thing"]) F sc8 rfl ck8 (He.glo_ok X G (c.fact 8 (f := .glo "_law_odd") rfl)) (fun _ _ _ _ _ _ us hl => match us, hl with | [_], _ => rfl)
theorem ok9 (X : K.In h) (G : h.Ns mainGlobals mg) (c : He.SaysD fa fn K) : DefOk K mg T "_law_bent" f9 := by
  obtain ⟨fd, F⟩ := c.def_ 9 (d := d9) rfl
  exact defOk_of (ps := ["_law_feed_here", "_law_thing"]) F sc9 rfl ck9 (He.glo_ok X G (c.fact 9 (f := .glo "_law_bent") rfl)) (fun _ _ _ _ _ _ us hl => match us, hl with | [_, _], _ => rfl)
theorem ok10 (X : K.In h) (G : h.Ns mainGlobals mg) (c : He.SaysD fa fn K) : DefOk K mg T "_law_whole" f10 := by
  obtain ⟨fd, F⟩ := c.def_ 10 (d := d10) rfl
  exact defOk_of (ps := ["_law_thing", "_law_least", "_law_most"]) F sc10 rfl ck10 (He.glo_ok X G (c.fact 10 (f := .glo "_law_whole") rfl)) (fun _ _ _ _ _ _ us hl => match us, hl with | [_, _, _], _ => rfl)
theorem ok11 (X : K.In h) (G : h.Ns mainGlobals mg) (c : He.SaysD fa fn K) : DefOk K mg T "_law_is_seat" f11 := by
  obtain ⟨fd, F⟩ := c.def_ 11 (d := d11) rfl
  exact defOk_of (ps := ["_law_thing"]) F sc11 rfl ck11 (He.glo_ok X G (c.fact 11 (f := .glo "_law_is_seat") rfl)) (fun _ _ _ _ _ _ us hl => match us, hl with | [_], _ => rfl)
theorem ok12 (X : K.In h) (G : h.Ns mainGlobals mg) (c : He.SaysD fa fn K) : DefOk K mg T "_law_is_dot" f12 := by
  obtain ⟨fd, F⟩ := c.def_ 12 (d := d12) rfl
  exact defOk_of (ps := ["_law_thing"]) F sc12 rfl ck12 (He.glo_ok X G (c.fact 12 (f := .glo "_law_is_dot") rfl)) (fun _ _ _ _ _ _ us hl => match us, hl with | [_], _ => rfl)
theorem ok13 (X : K.In h) (G : h.Ns mainGlobals mg) (c : He.SaysD fa fn K) : DefOk K mg T "_law_is_thing" f13 := by
  obtain ⟨fd, F⟩ := c.def_ 13 (d := d13) rfl
  exact defOk_of (ps := ["_law_thing"]) F sc13 rfl ck13 (He.glo_ok X G (c.fact 13 (f := .glo "_law_is_thing") rfl)) (fun _ _ _ _ _ _ us hl => match us, hl with | [_], _ => rfl)
theorem ok14 (X : K.In h) (G : h.Ns mainGlobals mg) (c : He.SaysD fa fn K) : DefOk K mg T "law" f14 := by
  obtain ⟨fd, F⟩ := c.def_ 14 (d := d14) rfl
  exact defOk_of (ps := ["_law_script"]) F sc14 rfl ck14 (He.glo_ok X G (c.fact 14 (f := .glo "law") rfl)) (fun _ _ _ _ _ _ us hl => match us, hl with | [_], _ => rfl)
theorem modOk (X : K.In h) (G : h.Ns mainGlobals mg) (c : SaysM fa fn co K) : ModOk K mg T fs where
  co := fun n x hx => conB_ok X G (c.parts.2.1 (n, x) hx)
  ab := fun n hn => by
    rw [show T.ab = (["isinstance", "bool", "int", "len", "tuple", "all", "str", "list", "range", "repr"] : List Str) from rfl] at hn
    simp only [List.mem_cons, List.not_mem_nil, or_false] at hn
    rcases hn with rfl | rfl | rfl | rfl | rfl | rfl | rfl | rfl | rfl | rfl
    · exact He.free_ok X G (c.parts.1.fact 15 (f := .free "isinstance") rfl)
    · exact He.free_ok X G (c.parts.1.fact 16 (f := .free "bool") rfl)
    · exact He.free_ok X G (c.parts.1.fact 17 (f := .free "int") rfl)
    · exact He.free_ok X G (c.parts.1.fact 18 (f := .free "len") rfl)
    · exact He.free_ok X G (c.parts.1.fact 19 (f := .free "tuple") rfl)
    · exact He.free_ok X G (c.parts.1.fact 20 (f := .free "all") rfl)
    · exact He.free_ok X G (c.parts.1.fact 21 (f := .free "str") rfl)
    · exact He.free_ok X G (c.parts.1.fact 22 (f := .free "list") rfl)
    · exact He.free_ok X G (c.parts.1.fact 23 (f := .free "range") rfl)
    · exact He.free_ok X G (c.parts.1.fact 24 (f := .free "repr") rfl)
  fn := fun n g hn => by
    rw [show T.fn = ([("is_whole", 0), ("is_up_to", 1), ("is_seat", 2), ("is_dot", 3), ("is_name", 4), ("is_thing", 5), ("_law_feed", 6), ("_law_take", 7), ("_law_odd", 8), ("_law_bent", 9), ("_law_whole", 10), ("_law_is_seat", 11), ("_law_is_dot", 12), ("_law_is_thing", 13), ("law", 14)] : List (Str × Nat)) from rfl] at hn
    simp only [List.mem_cons, List.not_mem_nil, or_false, Prod.mk.injEq] at hn
    rcases hn with ⟨rfl, rfl⟩ | ⟨rfl, rfl⟩ | ⟨rfl, rfl⟩ | ⟨rfl, rfl⟩ | ⟨rfl, rfl⟩ | ⟨rfl, rfl⟩ | ⟨rfl, rfl⟩ | ⟨rfl, rfl⟩ | ⟨rfl, rfl⟩ | ⟨rfl, rfl⟩ | ⟨rfl, rfl⟩ | ⟨rfl, rfl⟩ | ⟨rfl, rfl⟩ | ⟨rfl, rfl⟩ | ⟨rfl, rfl⟩
    · exact ⟨f0, rfl, ok0 X G c.parts.1⟩
    · exact ⟨f1, rfl, ok1 X G c.parts.1⟩
    · exact ⟨f2, rfl, ok2 X G c.parts.1⟩
    · exact ⟨f3, rfl, ok3 X G c.parts.1⟩
    · exact ⟨f4, rfl, ok4 X G c.parts.1⟩
    · exact ⟨f5, rfl, ok5 X G c.parts.1⟩
    · exact ⟨f6, rfl, ok6 X G c.parts.1⟩
    · exact ⟨f7, rfl, ok7 X G c.parts.1⟩
    · exact ⟨f8, rfl, ok8 X G c.parts.1⟩
    · exact ⟨f9, rfl, ok9 X G c.parts.1⟩
    · exact ⟨f10, rfl, ok10 X G c.parts.1⟩
    · exact ⟨f11, rfl, ok11 X G c.parts.1⟩
    · exact ⟨f12, rfl, ok12 X G c.parts.1⟩
    · exact ⟨f13, rfl, ok13 X G c.parts.1⟩
    · exact ⟨f14, rfl, ok14 X G c.parts.1⟩
end
/-! ### the law, plainly -/
theorem le_line {a b : Nat} (h : a ≤ b) (hb : b ≤ 100000) : a ≤ lineN := Nat.le_trans h (Nat.le_trans hb (Nat.le_of_ble_eq_true rfl))
def whB (x : PyData) (lo : Int) : Bool := match x with
  | .int i => decide (lo ≤ i)
  | _ => false
def upB (x : PyData) (lo hi : Int) : Bool := match x with
  | .int i => decide (lo ≤ i) && decide (i ≤ hi)
  | _ => false
def noD : PyData → Bool
  | .dict _ => false
  | _ => true
theorem isi_of (x : PyData) (t : Ty) (b : Bool) (h : isT x t = some b) : isiK t x = some (.d (.bool b)) := by
  show toB (isT x t) = _
  rw [h]
  rfl
theorem whole_ok {Φ : Phi} {x : PyData} {lo : Int} {st : Stt} (h : noD x = true) : leaveW st.length (semSs Φ f0.body [some (.d x), some (.d (.int lo))] st) = .ok (.d (.bool (whB x lo))) st := by
  cases x with
  | dict _ => cases h
  | int i => simp -implicitDefEqProofs only [sem_var, varR_d, varR_own, varR_bor, varR_loc, sem_con, sem_glo, rdk1_s, rdk2_s, rd_d, rd_new, rd_bor, rd_lent, rd_loc, dat_lst, py_d, py_new, arg_d, arg_new, arg_bor, arg_lent, arg_loc, argAll_nil, sems_nil, sems_cons, kEs_a, kPut_a, sem_bin, kBin_a, kBin2_a, sem_neg, kNeg_a, negK_i, truR_b, truR_i, truR_l, truR_t, truR_n, sem_nt, kNot_a, kNot2_a, sem_an, sem_oo, kAn_a, kOo_a, anS_t, anS_f, ooS_t, ooS_f, sem_cmp, kCmp_a, kCmp2_a, cmpK_lt, cmpK_le, cmpK_gt, cmpK_ge, sem_chn, kChn_a, kChn2_a, kChn3_a, chS_t, chS_f, sem_ite, kIte_a, kIte2_a, selE_t, selE_f, sem_tup, sem_lst, kTup_a, kLst_a, pyAll_nil, pyAll_cons, sem_idx, kIdx_a, kIdx2_a, idxK_l, idxK_t, sem_slc, kSlc_a, kSlc2_a, kSlc3_a, slK_l, slK_t, kPart_n, kPart_i, sem_rev, kRev_a, revD_l, revD_t, sem_cal, kCal_a, calR_s, argAll_c, sem_bif, kBif_a, bifR_s, sem_mth, kMth_a, kMth2_a, mthR_s, idxK_s, rdAll_nil, rdAll_c, bif_len_l, bif_len_t, bif_tup_l, bif_tup_t, bif_lst_l, bif_lst_t, bif_len_s, bif_str_s, bif_repr, sem_isi, kIsi_a, add_ii, sub_ii, mul_ii, mul_ti, fdiv_ii, mod_ii, pow_ii, add_tt, add_ll, Ss_nil, Ss_cons, kSs_n, kSs_r, Ss_frz, frzR_nil, frzR_cons, frz1_own, frz1_d, S_set, kSet_pd, kSet_pn, kSet_pl, kSet_pb, kSet_o, kSet_c, S_unp, kUnp_a, unpR_s, setT_2, setT_3, S_exp, kExp_a, S_ret, kRet_d, kRet_n, kRet_l, S_rtv, rtvR_o, S_ite, kIf_a, kIf2_a, selS_t, selS_f, chgR_o, chgR_l, ownR_s, locR_s, appF_l, extF_l, subF_l, mutR_o, mutR_l, S_sub, kSub_a, subM_t, kSub2_a, subR_s, S_app, appM_t, kApp_a, appR_s, stepF_a, setR_s, setT_nm, S_for, kFor_a, F_of, kItF_dl, kItF_dt, kItF_ds, kItF_n, kItF_b, I_of, kItI_dl, kItI_dt, kItI_ds, kItI_n, kItI_b, kItI_l, I_rng, F_rng, kRng_a, I_rng2, F_rng2, kRg2_a, kRg3_a, sem_lc, kLc_a, kLc2_a, stepC_nm, wipeR_n, wipeR_c, kCs_a, selC_t, selC_f, kElt_d, kElt_n, Cs_nil, Cs_cons, kC1_a, kC2_a, csS_t, csS_f, csS_n, lv_d, lv_n, lv_x, Res.bind_ok, Res.ofO_some, Res.nox_ok, Option.bind_some, Option.map_some, List.getElem?_cons_zero, List.getElem?_cons_succ, List.set_cons_zero, List.set_cons_succ, f0, isi_of (.int i) .int true rfl, isi_of (.int i) .bool false rfl, Bool.not_false, whB, List.take_length]
  | bool i => simp -implicitDefEqProofs only [sem_var, varR_d, varR_own, varR_bor, varR_loc, sem_con, sem_glo, rdk1_s, rdk2_s, rd_d, rd_new, rd_bor, rd_lent, rd_loc, dat_lst, py_d, py_new, arg_d, arg_new, arg_bor, arg_lent, arg_loc, argAll_nil, sems_nil, sems_cons, kEs_a, kPut_a, sem_bin, kBin_a, kBin2_a, sem_neg, kNeg_a, negK_i, truR_b, truR_i, truR_l, truR_t, truR_n, sem_nt, kNot_a, kNot2_a, sem_an, sem_oo, kAn_a, kOo_a, anS_t, anS_f, ooS_t, ooS_f, sem_cmp, kCmp_a, kCmp2_a, cmpK_lt, cmpK_le, cmpK_gt, cmpK_ge, sem_chn, kChn_a, kChn2_a, kChn3_a, chS_t, chS_f, sem_ite, kIte_a, kIte2_a, selE_t, selE_f, sem_tup, sem_lst, kTup_a, kLst_a, pyAll_nil, pyAll_cons, sem_idx, kIdx_a, kIdx2_a, idxK_l, idxK_t, sem_slc, kSlc_a, kSlc2_a, kSlc3_a, slK_l, slK_t, kPart_n, kPart_i, sem_rev, kRev_a, revD_l, revD_t, sem_cal, kCal_a, calR_s, argAll_c, sem_bif, kBif_a, bifR_s, sem_mth, kMth_a, kMth2_a, mthR_s, idxK_s, rdAll_nil, rdAll_c, bif_len_l, bif_len_t, bif_tup_l, bif_tup_t, bif_lst_l, bif_lst_t, bif_len_s, bif_str_s, bif_repr, sem_isi, kIsi_a, add_ii, sub_ii, mul_ii, mul_ti, fdiv_ii, mod_ii, pow_ii, add_tt, add_ll, Ss_nil, Ss_cons, kSs_n, kSs_r, Ss_frz, frzR_nil, frzR_cons, frz1_own, frz1_d, S_set, kSet_pd, kSet_pn, kSet_pl, kSet_pb, kSet_o, kSet_c, S_unp, kUnp_a, unpR_s, setT_2, setT_3, S_exp, kExp_a, S_ret, kRet_d, kRet_n, kRet_l, S_rtv, rtvR_o, S_ite, kIf_a, kIf2_a, selS_t, selS_f, chgR_o, chgR_l, ownR_s, locR_s, appF_l, extF_l, subF_l, mutR_o, mutR_l, S_sub, kSub_a, subM_t, kSub2_a, subR_s, S_app, appM_t, kApp_a, appR_s, stepF_a, setR_s, setT_nm, S_for, kFor_a, F_of, kItF_dl, kItF_dt, kItF_ds, kItF_n, kItF_b, I_of, kItI_dl, kItI_dt, kItI_ds, kItI_n, kItI_b, kItI_l, I_rng, F_rng, kRng_a, I_rng2, F_rng2, kRg2_a, kRg3_a, sem_lc, kLc_a, kLc2_a, stepC_nm, wipeR_n, wipeR_c, kCs_a, selC_t, selC_f, kElt_d, kElt_n, Cs_nil, Cs_cons, kC1_a, kC2_a, csS_t, csS_f, csS_n, lv_d, lv_n, lv_x, Res.bind_ok, Res.ofO_some, Res.nox_ok, Option.bind_some, Option.map_some, List.getElem?_cons_zero, List.getElem?_cons_succ, List.set_cons_zero, List.set_cons_succ, f0, isi_of (.bool i) .int true rfl, isi_of (.bool i) .bool true rfl, Bool.not_true, whB, List.take_length]
  | none => simp -implicitDefEqProofs only [sem_var, varR_d, varR_own, varR_bor, varR_loc, sem_con, sem_glo, rdk1_s, rdk2_s, rd_d, rd_new, rd_bor, rd_lent, rd_loc, dat_lst, py_d, py_new, arg_d, arg_new, arg_bor, arg_lent, arg_loc, argAll_nil, sems_nil, sems_cons, kEs_a, kPut_a, sem_bin, kBin_a, kBin2_a, sem_neg, kNeg_a, negK_i, truR_b, truR_i, truR_l, truR_t, truR_n, sem_nt, kNot_a, kNot2_a, sem_an, sem_oo, kAn_a, kOo_a, anS_t, anS_f, ooS_t, ooS_f, sem_cmp, kCmp_a, kCmp2_a, cmpK_lt, cmpK_le, cmpK_gt, cmpK_ge, sem_chn, kChn_a, kChn2_a, kChn3_a, chS_t, chS_f, sem_ite, kIte_a, kIte2_a, selE_t, selE_f, sem_tup, sem_lst, kTup_a, kLst_a, pyAll_nil, pyAll_cons, sem_idx, kIdx_a, kIdx2_a, idxK_l, idxK_t, sem_slc, kSlc_a, kSlc2_a, kSlc3_a, slK_l, slK_t, kPart_n, kPart_i, sem_rev, kRev_a, revD_l, revD_t, sem_cal, kCal_a, calR_s, argAll_c, sem_bif, kBif_a, bifR_s, sem_mth, kMth_a, kMth2_a, mthR_s, idxK_s, rdAll_nil, rdAll_c, bif_len_l, bif_len_t, bif_tup_l, bif_tup_t, bif_lst_l, bif_lst_t, bif_len_s, bif_str_s, bif_repr, sem_isi, kIsi_a, add_ii, sub_ii, mul_ii, mul_ti, fdiv_ii, mod_ii, pow_ii, add_tt, add_ll, Ss_nil, Ss_cons, kSs_n, kSs_r, Ss_frz, frzR_nil, frzR_cons, frz1_own, frz1_d, S_set, kSet_pd, kSet_pn, kSet_pl, kSet_pb, kSet_o, kSet_c, S_unp, kUnp_a, unpR_s, setT_2, setT_3, S_exp, kExp_a, S_ret, kRet_d, kRet_n, kRet_l, S_rtv, rtvR_o, S_ite, kIf_a, kIf2_a, selS_t, selS_f, chgR_o, chgR_l, ownR_s, locR_s, appF_l, extF_l, subF_l, mutR_o, mutR_l, S_sub, kSub_a, subM_t, kSub2_a, subR_s, S_app, appM_t, kApp_a, appR_s, stepF_a, setR_s, setT_nm, S_for, kFor_a, F_of, kItF_dl, kItF_dt, kItF_ds, kItF_n, kItF_b, I_of, kItI_dl, kItI_dt, kItI_ds, kItI_n, kItI_b, kItI_l, I_rng, F_rng, kRng_a, I_rng2, F_rng2, kRg2_a, kRg3_a, sem_lc, kLc_a, kLc2_a, stepC_nm, wipeR_n, wipeR_c, kCs_a, selC_t, selC_f, kElt_d, kElt_n, Cs_nil, Cs_cons, kC1_a, kC2_a, csS_t, csS_f, csS_n, lv_d, lv_n, lv_x, Res.bind_ok, Res.ofO_some, Res.nox_ok, Option.bind_some, Option.map_some, List.getElem?_cons_zero, List.getElem?_cons_succ, List.set_cons_zero, List.set_cons_succ, f0, isi_of .none .int false rfl, whB, List.take_length]
  | str i => simp -implicitDefEqProofs only [sem_var, varR_d, varR_own, varR_bor, varR_loc, sem_con, sem_glo, rdk1_s, rdk2_s, rd_d, rd_new, rd_bor, rd_lent, rd_loc, dat_lst, py_d, py_new, arg_d, arg_new, arg_bor, arg_lent, arg_loc, argAll_nil, sems_nil, sems_cons, kEs_a, kPut_a, sem_bin, kBin_a, kBin2_a, sem_neg, kNeg_a, negK_i, truR_b, truR_i, truR_l, truR_t, truR_n, sem_nt, kNot_a, kNot2_a, sem_an, sem_oo, kAn_a, kOo_a, anS_t, anS_f, ooS_t, ooS_f, sem_cmp, kCmp_a, kCmp2_a, cmpK_lt, cmpK_le, cmpK_gt, cmpK_ge, sem_chn, kChn_a, kChn2_a, kChn3_a, chS_t, chS_f, sem_ite, kIte_a, kIte2_a, selE_t, selE_f, sem_tup, sem_lst, kTup_a, kLst_a, pyAll_nil, pyAll_cons, sem_idx, kIdx_a, kIdx2_a, idxK_l, idxK_t, sem_slc, kSlc_a, kSlc2_a, kSlc3_a, slK_l, slK_t, kPart_n, kPart_i, sem_rev, kRev_a, revD_l, revD_t, sem_cal, kCal_a, calR_s, argAll_c, sem_bif, kBif_a, bifR_s, sem_mth, kMth_a, kMth2_a, mthR_s, idxK_s, rdAll_nil, rdAll_c, bif_len_l, bif_len_t, bif_tup_l, bif_tup_t, bif_lst_l, bif_lst_t, bif_len_s, bif_str_s, bif_repr, sem_isi, kIsi_a, add_ii, sub_ii, mul_ii, mul_ti, fdiv_ii, mod_ii, pow_ii, add_tt, add_ll, Ss_nil, Ss_cons, kSs_n, kSs_r, Ss_frz, frzR_nil, frzR_cons, frz1_own, frz1_d, S_set, kSet_pd, kSet_pn, kSet_pl, kSet_pb, kSet_o, kSet_c, S_unp, kUnp_a, unpR_s, setT_2, setT_3, S_exp, kExp_a, S_ret, kRet_d, kRet_n, kRet_l, S_rtv, rtvR_o, S_ite, kIf_a, kIf2_a, selS_t, selS_f, chgR_o, chgR_l, ownR_s, locR_s, appF_l, extF_l, subF_l, mutR_o, mutR_l, S_sub, kSub_a, subM_t, kSub2_a, subR_s, S_app, appM_t, kApp_a, appR_s, stepF_a, setR_s, setT_nm, S_for, kFor_a, F_of, kItF_dl, kItF_dt, kItF_ds, kItF_n, kItF_b, I_of, kItI_dl, kItI_dt, kItI_ds, kItI_n, kItI_b, kItI_l, I_rng, F_rng, kRng_a, I_rng2, F_rng2, kRg2_a, kRg3_a, sem_lc, kLc_a, kLc2_a, stepC_nm, wipeR_n, wipeR_c, kCs_a, selC_t, selC_f, kElt_d, kElt_n, Cs_nil, Cs_cons, kC1_a, kC2_a, csS_t, csS_f, csS_n, lv_d, lv_n, lv_x, Res.bind_ok, Res.ofO_some, Res.nox_ok, Option.bind_some, Option.map_some, List.getElem?_cons_zero, List.getElem?_cons_succ, List.set_cons_zero, List.set_cons_succ, f0, isi_of (.str i) .int false rfl, whB, List.take_length]
  | list i => simp -implicitDefEqProofs only [sem_var, varR_d, varR_own, varR_bor, varR_loc, sem_con, sem_glo, rdk1_s, rdk2_s, rd_d, rd_new, rd_bor, rd_lent, rd_loc, dat_lst, py_d, py_new, arg_d, arg_new, arg_bor, arg_lent, arg_loc, argAll_nil, sems_nil, sems_cons, kEs_a, kPut_a, sem_bin, kBin_a, kBin2_a, sem_neg, kNeg_a, negK_i, truR_b, truR_i, truR_l, truR_t, truR_n, sem_nt, kNot_a, kNot2_a, sem_an, sem_oo, kAn_a, kOo_a, anS_t, anS_f, ooS_t, ooS_f, sem_cmp, kCmp_a, kCmp2_a, cmpK_lt, cmpK_le, cmpK_gt, cmpK_ge, sem_chn, kChn_a, kChn2_a, kChn3_a, chS_t, chS_f, sem_ite, kIte_a, kIte2_a, selE_t, selE_f, sem_tup, sem_lst, kTup_a, kLst_a, pyAll_nil, pyAll_cons, sem_idx, kIdx_a, kIdx2_a, idxK_l, idxK_t, sem_slc, kSlc_a, kSlc2_a, kSlc3_a, slK_l, slK_t, kPart_n, kPart_i, sem_rev, kRev_a, revD_l, revD_t, sem_cal, kCal_a, calR_s, argAll_c, sem_bif, kBif_a, bifR_s, sem_mth, kMth_a, kMth2_a, mthR_s, idxK_s, rdAll_nil, rdAll_c, bif_len_l, bif_len_t, bif_tup_l, bif_tup_t, bif_lst_l, bif_lst_t, bif_len_s, bif_str_s, bif_repr, sem_isi, kIsi_a, add_ii, sub_ii, mul_ii, mul_ti, fdiv_ii, mod_ii, pow_ii, add_tt, add_ll, Ss_nil, Ss_cons, kSs_n, kSs_r, Ss_frz, frzR_nil, frzR_cons, frz1_own, frz1_d, S_set, kSet_pd, kSet_pn, kSet_pl, kSet_pb, kSet_o, kSet_c, S_unp, kUnp_a, unpR_s, setT_2, setT_3, S_exp, kExp_a, S_ret, kRet_d, kRet_n, kRet_l, S_rtv, rtvR_o, S_ite, kIf_a, kIf2_a, selS_t, selS_f, chgR_o, chgR_l, ownR_s, locR_s, appF_l, extF_l, subF_l, mutR_o, mutR_l, S_sub, kSub_a, subM_t, kSub2_a, subR_s, S_app, appM_t, kApp_a, appR_s, stepF_a, setR_s, setT_nm, S_for, kFor_a, F_of, kItF_dl, kItF_dt, kItF_ds, kItF_n, kItF_b, I_of, kItI_dl, kItI_dt, kItI_ds, kItI_n, kItI_b, kItI_l, I_rng, F_rng, kRng_a, I_rng2, F_rng2, kRg2_a, kRg3_a, sem_lc, kLc_a, kLc2_a, stepC_nm, wipeR_n, wipeR_c, kCs_a, selC_t, selC_f, kElt_d, kElt_n, Cs_nil, Cs_cons, kC1_a, kC2_a, csS_t, csS_f, csS_n, lv_d, lv_n, lv_x, Res.bind_ok, Res.ofO_some, Res.nox_ok, Option.bind_some, Option.map_some, List.getElem?_cons_zero, List.getElem?_cons_succ, List.set_cons_zero, List.set_cons_succ, f0, isi_of (.list i) .int false rfl, whB, List.take_length]
  | tuple i => simp -implicitDefEqProofs only [sem_var, varR_d, varR_own, varR_bor, varR_loc, sem_con, sem_glo, rdk1_s, rdk2_s, rd_d, rd_new, rd_bor, rd_lent, rd_loc, dat_lst, py_d, py_new, arg_d, arg_new, arg_bor, arg_lent, arg_loc, argAll_nil, sems_nil, sems_cons, kEs_a, kPut_a, sem_bin, kBin_a, kBin2_a, sem_neg, kNeg_a, negK_i, truR_b, truR_i, truR_l, truR_t, truR_n, sem_nt, kNot_a, kNot2_a, sem_an, sem_oo, kAn_a, kOo_a, anS_t, anS_f, ooS_t, ooS_f, sem_cmp, kCmp_a, kCmp2_a, cmpK_lt, cmpK_le, cmpK_gt, cmpK_ge, sem_chn, kChn_a, kChn2_a, kChn3_a, chS_t, chS_f, sem_ite, kIte_a, kIte2_a, selE_t, selE_f, sem_tup, sem_lst, kTup_a, kLst_a, pyAll_nil, pyAll_cons, sem_idx, kIdx_a, kIdx2_a, idxK_l, idxK_t, sem_slc, kSlc_a, kSlc2_a, kSlc3_a, slK_l, slK_t, kPart_n, kPart_i, sem_rev, kRev_a, revD_l, revD_t, sem_cal, kCal_a, calR_s, argAll_c, sem_bif, kBif_a, bifR_s, sem_mth, kMth_a, kMth2_a, mthR_s, idxK_s, rdAll_nil, rdAll_c, bif_len_l, bif_len_t, bif_tup_l, bif_tup_t, bif_lst_l, bif_lst_t, bif_len_s, bif_str_s, bif_repr, sem_isi, kIsi_a, add_ii, sub_ii, mul_ii, mul_ti, fdiv_ii, mod_ii, pow_ii, add_tt, add_ll, Ss_nil, Ss_cons, kSs_n, kSs_r, Ss_frz, frzR_nil, frzR_cons, frz1_own, frz1_d, S_set, kSet_pd, kSet_pn, kSet_pl, kSet_pb, kSet_o, kSet_c, S_unp, kUnp_a, unpR_s, setT_2, setT_3, S_exp, kExp_a, S_ret, kRet_d, kRet_n, kRet_l, S_rtv, rtvR_o, S_ite, kIf_a, kIf2_a, selS_t, selS_f, chgR_o, chgR_l, ownR_s, locR_s, appF_l, extF_l, subF_l, mutR_o, mutR_l, S_sub, kSub_a, subM_t, kSub2_a, subR_s, S_app, appM_t, kApp_a, appR_s, stepF_a, setR_s, setT_nm, S_for, kFor_a, F_of, kItF_dl, kItF_dt, kItF_ds, kItF_n, kItF_b, I_of, kItI_dl, kItI_dt, kItI_ds, kItI_n, kItI_b, kItI_l, I_rng, F_rng, kRng_a, I_rng2, F_rng2, kRg2_a, kRg3_a, sem_lc, kLc_a, kLc2_a, stepC_nm, wipeR_n, wipeR_c, kCs_a, selC_t, selC_f, kElt_d, kElt_n, Cs_nil, Cs_cons, kC1_a, kC2_a, csS_t, csS_f, csS_n, lv_d, lv_n, lv_x, Res.bind_ok, Res.ofO_some, Res.nox_ok, Option.bind_some, Option.map_some, List.getElem?_cons_zero, List.getElem?_cons_succ, List.set_cons_zero, List.set_cons_succ, f0, isi_of (.tuple i) .int false rfl, whB, List.take_length]
theorem upto_ok {Φ : Phi} {x : PyData} {lo hi : Int} {st : Stt} (hΦ : Φ 0 [.d x, .d (.int lo)] st = .ok (.d (.bool (whB x lo))) st) : leaveW st.length (semSs Φ f1.body [some (.d x), some (.d (.int lo)), some (.d (.int hi))] st) = .ok (.d (.bool (upB x lo hi))) st := by
  by_cases hw : whB x lo = true
  · cases x with
    | int i =>
      have hw' : decide (lo ≤ i) = true := hw
      rw [hw] at hΦ
      simp -implicitDefEqProofs only [sem_var, varR_d, varR_own, varR_bor, varR_loc, sem_con, sem_glo, rdk1_s, rdk2_s, rd_d, rd_new, rd_bor, rd_lent, rd_loc, dat_lst, py_d, py_new, arg_d, arg_new, arg_bor, arg_lent, arg_loc, argAll_nil, sems_nil, sems_cons, kEs_a, kPut_a, sem_bin, kBin_a, kBin2_a, sem_neg, kNeg_a, negK_i, truR_b, truR_i, truR_l, truR_t, truR_n, sem_nt, kNot_a, kNot2_a, sem_an, sem_oo, kAn_a, kOo_a, anS_t, anS_f, ooS_t, ooS_f, sem_cmp, kCmp_a, kCmp2_a, cmpK_lt, cmpK_le, cmpK_gt, cmpK_ge, sem_chn, kChn_a, kChn2_a, kChn3_a, chS_t, chS_f, sem_ite, kIte_a, kIte2_a, selE_t, selE_f, sem_tup, sem_lst, kTup_a, kLst_a, pyAll_nil, pyAll_cons, sem_idx, kIdx_a, kIdx2_a, idxK_l, idxK_t, sem_slc, kSlc_a, kSlc2_a, kSlc3_a, slK_l, slK_t, kPart_n, kPart_i, sem_rev, kRev_a, revD_l, revD_t, sem_cal, kCal_a, calR_s, argAll_c, sem_bif, kBif_a, bifR_s, sem_mth, kMth_a, kMth2_a, mthR_s, idxK_s, rdAll_nil, rdAll_c, bif_len_l, bif_len_t, bif_tup_l, bif_tup_t, bif_lst_l, bif_lst_t, bif_len_s, bif_str_s, bif_repr, sem_isi, kIsi_a, add_ii, sub_ii, mul_ii, mul_ti, fdiv_ii, mod_ii, pow_ii, add_tt, add_ll, Ss_nil, Ss_cons, kSs_n, kSs_r, Ss_frz, frzR_nil, frzR_cons, frz1_own, frz1_d, S_set, kSet_pd, kSet_pn, kSet_pl, kSet_pb, kSet_o, kSet_c, S_unp, kUnp_a, unpR_s, setT_2, setT_3, S_exp, kExp_a, S_ret, kRet_d, kRet_n, kRet_l, S_rtv, rtvR_o, S_ite, kIf_a, kIf2_a, selS_t, selS_f, chgR_o, chgR_l, ownR_s, locR_s, appF_l, extF_l, subF_l, mutR_o, mutR_l, S_sub, kSub_a, subM_t, kSub2_a, subR_s, S_app, appM_t, kApp_a, appR_s, stepF_a, setR_s, setT_nm, S_for, kFor_a, F_of, kItF_dl, kItF_dt, kItF_ds, kItF_n, kItF_b, I_of, kItI_dl, kItI_dt, kItI_ds, kItI_n, kItI_b, kItI_l, I_rng, F_rng, kRng_a, I_rng2, F_rng2, kRg2_a, kRg3_a, sem_lc, kLc_a, kLc2_a, stepC_nm, wipeR_n, wipeR_c, kCs_a, selC_t, selC_f, kElt_d, kElt_n, Cs_nil, Cs_cons, kC1_a, kC2_a, csS_t, csS_f, csS_n, lv_d, lv_n, lv_x, Res.bind_ok, Res.ofO_some, Res.nox_ok, Option.bind_some, Option.map_some, List.getElem?_cons_zero, List.getElem?_cons_succ, List.set_cons_zero, List.set_cons_succ, f1, hΦ, upB, hw', Bool.true_and, List.take_length]
    | _ => cases hw
  · have hw' : whB x lo = false := by simpa using hw
    have hu : upB x lo hi = false := by
      cases x with
      | int i =>
        have : decide (lo ≤ i) = false := hw'
        show (decide (lo ≤ i) && _) = false
        rw [this]; rfl
      | _ => rfl
    rw [hw'] at hΦ
    simp -implicitDefEqProofs only [sem_var, varR_d, varR_own, varR_bor, varR_loc, sem_con, sem_glo, rdk1_s, rdk2_s, rd_d, rd_new, rd_bor, rd_lent, rd_loc, dat_lst, py_d, py_new, arg_d, arg_new, arg_bor, arg_lent, arg_loc, argAll_nil, sems_nil, sems_cons, kEs_a, kPut_a, sem_bin, kBin_a, kBin2_a, sem_neg, kNeg_a, negK_i, truR_b, truR_i, truR_l, truR_t, truR_n, sem_nt, kNot_a, kNot2_a, sem_an, sem_oo, kAn_a, kOo_a, anS_t, anS_f, ooS_t, ooS_f, sem_cmp, kCmp_a, kCmp2_a, cmpK_lt, cmpK_le, cmpK_gt, cmpK_ge, sem_chn, kChn_a, kChn2_a, kChn3_a, chS_t, chS_f, sem_ite, kIte_a, kIte2_a, selE_t, selE_f, sem_tup, sem_lst, kTup_a, kLst_a, pyAll_nil, pyAll_cons, sem_idx, kIdx_a, kIdx2_a, idxK_l, idxK_t, sem_slc, kSlc_a, kSlc2_a, kSlc3_a, slK_l, slK_t, kPart_n, kPart_i, sem_rev, kRev_a, revD_l, revD_t, sem_cal, kCal_a, calR_s, argAll_c, sem_bif, kBif_a, bifR_s, sem_mth, kMth_a, kMth2_a, mthR_s, idxK_s, rdAll_nil, rdAll_c, bif_len_l, bif_len_t, bif_tup_l, bif_tup_t, bif_lst_l, bif_lst_t, bif_len_s, bif_str_s, bif_repr, sem_isi, kIsi_a, add_ii, sub_ii, mul_ii, mul_ti, fdiv_ii, mod_ii, pow_ii, add_tt, add_ll, Ss_nil, Ss_cons, kSs_n, kSs_r, Ss_frz, frzR_nil, frzR_cons, frz1_own, frz1_d, S_set, kSet_pd, kSet_pn, kSet_pl, kSet_pb, kSet_o, kSet_c, S_unp, kUnp_a, unpR_s, setT_2, setT_3, S_exp, kExp_a, S_ret, kRet_d, kRet_n, kRet_l, S_rtv, rtvR_o, S_ite, kIf_a, kIf2_a, selS_t, selS_f, chgR_o, chgR_l, ownR_s, locR_s, appF_l, extF_l, subF_l, mutR_o, mutR_l, S_sub, kSub_a, subM_t, kSub2_a, subR_s, S_app, appM_t, kApp_a, appR_s, stepF_a, setR_s, setT_nm, S_for, kFor_a, F_of, kItF_dl, kItF_dt, kItF_ds, kItF_n, kItF_b, I_of, kItI_dl, kItI_dt, kItI_ds, kItI_n, kItI_b, kItI_l, I_rng, F_rng, kRng_a, I_rng2, F_rng2, kRg2_a, kRg3_a, sem_lc, kLc_a, kLc2_a, stepC_nm, wipeR_n, wipeR_c, kCs_a, selC_t, selC_f, kElt_d, kElt_n, Cs_nil, Cs_cons, kC1_a, kC2_a, csS_t, csS_f, csS_n, lv_d, lv_n, lv_x, Res.bind_ok, Res.ofO_some, Res.nox_ok, Option.bind_some, Option.map_some, List.getElem?_cons_zero, List.getElem?_cons_succ, List.set_cons_zero, List.set_cons_succ, f1, hΦ, hu, List.take_length]
theorem lwhole_ok {Φ : Phi} {x : PyData} {lo hi : Int} {st : Stt} (h : noD x = true) : leaveW st.length (semSs Φ f10.body [some (.d x), some (.d (.int lo)), some (.d (.int hi))] st) = .ok (.d (.bool (upB x lo hi))) st := by
  cases x with
  | dict _ => cases h
  | int i =>
    by_cases hi' : lo ≤ i
    · have e : decide (lo ≤ i) = true := decide_eq_true hi'
      simp -implicitDefEqProofs only [sem_var, varR_d, varR_own, varR_bor, varR_loc, sem_con, sem_glo, rdk1_s, rdk2_s, rd_d, rd_new, rd_bor, rd_lent, rd_loc, dat_lst, py_d, py_new, arg_d, arg_new, arg_bor, arg_lent, arg_loc, argAll_nil, sems_nil, sems_cons, kEs_a, kPut_a, sem_bin, kBin_a, kBin2_a, sem_neg, kNeg_a, negK_i, truR_b, truR_i, truR_l, truR_t, truR_n, sem_nt, kNot_a, kNot2_a, sem_an, sem_oo, kAn_a, kOo_a, anS_t, anS_f, ooS_t, ooS_f, sem_cmp, kCmp_a, kCmp2_a, cmpK_lt, cmpK_le, cmpK_gt, cmpK_ge, sem_chn, kChn_a, kChn2_a, kChn3_a, chS_t, chS_f, sem_ite, kIte_a, kIte2_a, selE_t, selE_f, sem_tup, sem_lst, kTup_a, kLst_a, pyAll_nil, pyAll_cons, sem_idx, kIdx_a, kIdx2_a, idxK_l, idxK_t, sem_slc, kSlc_a, kSlc2_a, kSlc3_a, slK_l, slK_t, kPart_n, kPart_i, sem_rev, kRev_a, revD_l, revD_t, sem_cal, kCal_a, calR_s, argAll_c, sem_bif, kBif_a, bifR_s, sem_mth, kMth_a, kMth2_a, mthR_s, idxK_s, rdAll_nil, rdAll_c, bif_len_l, bif_len_t, bif_tup_l, bif_tup_t, bif_lst_l, bif_lst_t, bif_len_s, bif_str_s, bif_repr, sem_isi, kIsi_a, add_ii, sub_ii, mul_ii, mul_ti, fdiv_ii, mod_ii, pow_ii, add_tt, add_ll, Ss_nil, Ss_cons, kSs_n, kSs_r, Ss_frz, frzR_nil, frzR_cons, frz1_own, frz1_d, S_set, kSet_pd, kSet_pn, kSet_pl, kSet_pb, kSet_o, kSet_c, S_unp, kUnp_a, unpR_s, setT_2, setT_3, S_exp, kExp_a, S_ret, kRet_d, kRet_n, kRet_l, S_rtv, rtvR_o, S_ite, kIf_a, kIf2_a, selS_t, selS_f, chgR_o, chgR_l, ownR_s, locR_s, appF_l, extF_l, subF_l, mutR_o, mutR_l, S_sub, kSub_a, subM_t, kSub2_a, subR_s, S_app, appM_t, kApp_a, appR_s, stepF_a, setR_s, setT_nm, S_for, kFor_a, F_of, kItF_dl, kItF_dt, kItF_ds, kItF_n, kItF_b, I_of, kItI_dl, kItI_dt, kItI_ds, kItI_n, kItI_b, kItI_l, I_rng, F_rng, kRng_a, I_rng2, F_rng2, kRg2_a, kRg3_a, sem_lc, kLc_a, kLc2_a, stepC_nm, wipeR_n, wipeR_c, kCs_a, selC_t, selC_f, kElt_d, kElt_n, Cs_nil, Cs_cons, kC1_a, kC2_a, csS_t, csS_f, csS_n, lv_d, lv_n, lv_x, Res.bind_ok, Res.ofO_some, Res.nox_ok, Option.bind_some, Option.map_some, List.getElem?_cons_zero, List.getElem?_cons_succ, List.set_cons_zero, List.set_cons_succ, f10, isi_of (.int i) .int true rfl, isi_of (.int i) .bool false rfl, Bool.not_false, upB, e, Bool.true_and, List.take_length]
    · have e : decide (lo ≤ i) = false := decide_eq_false hi'
      simp -implicitDefEqProofs only [sem_var, varR_d, varR_own, varR_bor, varR_loc, sem_con, sem_glo, rdk1_s, rdk2_s, rd_d, rd_new, rd_bor, rd_lent, rd_loc, dat_lst, py_d, py_new, arg_d, arg_new, arg_bor, arg_lent, arg_loc, argAll_nil, sems_nil, sems_cons, kEs_a, kPut_a, sem_bin, kBin_a, kBin2_a, sem_neg, kNeg_a, negK_i, truR_b, truR_i, truR_l, truR_t, truR_n, sem_nt, kNot_a, kNot2_a, sem_an, sem_oo, kAn_a, kOo_a, anS_t, anS_f, ooS_t, ooS_f, sem_cmp, kCmp_a, kCmp2_a, cmpK_lt, cmpK_le, cmpK_gt, cmpK_ge, sem_chn, kChn_a, kChn2_a, kChn3_a, chS_t, chS_f, sem_ite, kIte_a, kIte2_a, selE_t, selE_f, sem_tup, sem_lst, kTup_a, kLst_a, pyAll_nil, pyAll_cons, sem_idx, kIdx_a, kIdx2_a, idxK_l, idxK_t, sem_slc, kSlc_a, kSlc2_a, kSlc3_a, slK_l, slK_t, kPart_n, kPart_i, sem_rev, kRev_a, revD_l, revD_t, sem_cal, kCal_a, calR_s, argAll_c, sem_bif, kBif_a, bifR_s, sem_mth, kMth_a, kMth2_a, mthR_s, idxK_s, rdAll_nil, rdAll_c, bif_len_l, bif_len_t, bif_tup_l, bif_tup_t, bif_lst_l, bif_lst_t, bif_len_s, bif_str_s, bif_repr, sem_isi, kIsi_a, add_ii, sub_ii, mul_ii, mul_ti, fdiv_ii, mod_ii, pow_ii, add_tt, add_ll, Ss_nil, Ss_cons, kSs_n, kSs_r, Ss_frz, frzR_nil, frzR_cons, frz1_own, frz1_d, S_set, kSet_pd, kSet_pn, kSet_pl, kSet_pb, kSet_o, kSet_c, S_unp, kUnp_a, unpR_s, setT_2, setT_3, S_exp, kExp_a, S_ret, kRet_d, kRet_n, kRet_l, S_rtv, rtvR_o, S_ite, kIf_a, kIf2_a, selS_t, selS_f, chgR_o, chgR_l, ownR_s, locR_s, appF_l, extF_l, subF_l, mutR_o, mutR_l, S_sub, kSub_a, subM_t, kSub2_a, subR_s, S_app, appM_t, kApp_a, appR_s, stepF_a, setR_s, setT_nm, S_for, kFor_a, F_of, kItF_dl, kItF_dt, kItF_ds, kItF_n, kItF_b, I_of, kItI_dl, kItI_dt, kItI_ds, kItI_n, kItI_b, kItI_l, I_rng, F_rng, kRng_a, I_rng2, F_rng2, kRg2_a, kRg3_a, sem_lc, kLc_a, kLc2_a, stepC_nm, wipeR_n, wipeR_c, kCs_a, selC_t, selC_f, kElt_d, kElt_n, Cs_nil, Cs_cons, kC1_a, kC2_a, csS_t, csS_f, csS_n, lv_d, lv_n, lv_x, Res.bind_ok, Res.ofO_some, Res.nox_ok, Option.bind_some, Option.map_some, List.getElem?_cons_zero, List.getElem?_cons_succ, List.set_cons_zero, List.set_cons_succ, f10, isi_of (.int i) .int true rfl, isi_of (.int i) .bool false rfl, Bool.not_false, upB, e, Bool.false_and, List.take_length]
  | bool i => simp -implicitDefEqProofs only [sem_var, varR_d, varR_own, varR_bor, varR_loc, sem_con, sem_glo, rdk1_s, rdk2_s, rd_d, rd_new, rd_bor, rd_lent, rd_loc, dat_lst, py_d, py_new, arg_d, arg_new, arg_bor, arg_lent, arg_loc, argAll_nil, sems_nil, sems_cons, kEs_a, kPut_a, sem_bin, kBin_a, kBin2_a, sem_neg, kNeg_a, negK_i, truR_b, truR_i, truR_l, truR_t, truR_n, sem_nt, kNot_a, kNot2_a, sem_an, sem_oo, kAn_a, kOo_a, anS_t, anS_f, ooS_t, ooS_f, sem_cmp, kCmp_a, kCmp2_a, cmpK_lt, cmpK_le, cmpK_gt, cmpK_ge, sem_chn, kChn_a, kChn2_a, kChn3_a, chS_t, chS_f, sem_ite, kIte_a, kIte2_a, selE_t, selE_f, sem_tup, sem_lst, kTup_a, kLst_a, pyAll_nil, pyAll_cons, sem_idx, kIdx_a, kIdx2_a, idxK_l, idxK_t, sem_slc, kSlc_a, kSlc2_a, kSlc3_a, slK_l, slK_t, kPart_n, kPart_i, sem_rev, kRev_a, revD_l, revD_t, sem_cal, kCal_a, calR_s, argAll_c, sem_bif, kBif_a, bifR_s, sem_mth, kMth_a, kMth2_a, mthR_s, idxK_s, rdAll_nil, rdAll_c, bif_len_l, bif_len_t, bif_tup_l, bif_tup_t, bif_lst_l, bif_lst_t, bif_len_s, bif_str_s, bif_repr, sem_isi, kIsi_a, add_ii, sub_ii, mul_ii, mul_ti, fdiv_ii, mod_ii, pow_ii, add_tt, add_ll, Ss_nil, Ss_cons, kSs_n, kSs_r, Ss_frz, frzR_nil, frzR_cons, frz1_own, frz1_d, S_set, kSet_pd, kSet_pn, kSet_pl, kSet_pb, kSet_o, kSet_c, S_unp, kUnp_a, unpR_s, setT_2, setT_3, S_exp, kExp_a, S_ret, kRet_d, kRet_n, kRet_l, S_rtv, rtvR_o, S_ite, kIf_a, kIf2_a, selS_t, selS_f, chgR_o, chgR_l, ownR_s, locR_s, appF_l, extF_l, subF_l, mutR_o, mutR_l, S_sub, kSub_a, subM_t, kSub2_a, subR_s, S_app, appM_t, kApp_a, appR_s, stepF_a, setR_s, setT_nm, S_for, kFor_a, F_of, kItF_dl, kItF_dt, kItF_ds, kItF_n, kItF_b, I_of, kItI_dl, kItI_dt, kItI_ds, kItI_n, kItI_b, kItI_l, I_rng, F_rng, kRng_a, I_rng2, F_rng2, kRg2_a, kRg3_a, sem_lc, kLc_a, kLc2_a, stepC_nm, wipeR_n, wipeR_c, kCs_a, selC_t, selC_f, kElt_d, kElt_n, Cs_nil, Cs_cons, kC1_a, kC2_a, csS_t, csS_f, csS_n, lv_d, lv_n, lv_x, Res.bind_ok, Res.ofO_some, Res.nox_ok, Option.bind_some, Option.map_some, List.getElem?_cons_zero, List.getElem?_cons_succ, List.set_cons_zero, List.set_cons_succ, f10, isi_of (.bool i) .int true rfl, isi_of (.bool i) .bool true rfl, Bool.not_true, upB, List.take_length]
  | none => simp -implicitDefEqProofs only [sem_var, varR_d, varR_own, varR_bor, varR_loc, sem_con, sem_glo, rdk1_s, rdk2_s, rd_d, rd_new, rd_bor, rd_lent, rd_loc, dat_lst, py_d, py_new, arg_d, arg_new, arg_bor, arg_lent, arg_loc, argAll_nil, sems_nil, sems_cons, kEs_a, kPut_a, sem_bin, kBin_a, kBin2_a, sem_neg, kNeg_a, negK_i, truR_b, truR_i, truR_l, truR_t, truR_n, sem_nt, kNot_a, kNot2_a, sem_an, sem_oo, kAn_a, kOo_a, anS_t, anS_f, ooS_t, ooS_f, sem_cmp, kCmp_a, kCmp2_a, cmpK_lt, cmpK_le, cmpK_gt, cmpK_ge, sem_chn, kChn_a, kChn2_a, kChn3_a, chS_t, chS_f, sem_ite, kIte_a, kIte2_a, selE_t, selE_f, sem_tup, sem_lst, kTup_a, kLst_a, pyAll_nil, pyAll_cons, sem_idx, kIdx_a, kIdx2_a, idxK_l, idxK_t, sem_slc, kSlc_a, kSlc2_a, kSlc3_a, slK_l, slK_t, kPart_n, kPart_i, sem_rev, kRev_a, revD_l, revD_t, sem_cal, kCal_a, calR_s, argAll_c, sem_bif, kBif_a, bifR_s, sem_mth, kMth_a, kMth2_a, mthR_s, idxK_s, rdAll_nil, rdAll_c, bif_len_l, bif_len_t, bif_tup_l, bif_tup_t, bif_lst_l, bif_lst_t, bif_len_s, bif_str_s, bif_repr, sem_isi, kIsi_a, add_ii, sub_ii, mul_ii, mul_ti, fdiv_ii, mod_ii, pow_ii, add_tt, add_ll, Ss_nil, Ss_cons, kSs_n, kSs_r, Ss_frz, frzR_nil, frzR_cons, frz1_own, frz1_d, S_set, kSet_pd, kSet_pn, kSet_pl, kSet_pb, kSet_o, kSet_c, S_unp, kUnp_a, unpR_s, setT_2, setT_3, S_exp, kExp_a, S_ret, kRet_d, kRet_n, kRet_l, S_rtv, rtvR_o, S_ite, kIf_a, kIf2_a, selS_t, selS_f, chgR_o, chgR_l, ownR_s, locR_s, appF_l, extF_l, subF_l, mutR_o, mutR_l, S_sub, kSub_a, subM_t, kSub2_a, subR_s, S_app, appM_t, kApp_a, appR_s, stepF_a, setR_s, setT_nm, S_for, kFor_a, F_of, kItF_dl, kItF_dt, kItF_ds, kItF_n, kItF_b, I_of, kItI_dl, kItI_dt, kItI_ds, kItI_n, kItI_b, kItI_l, I_rng, F_rng, kRng_a, I_rng2, F_rng2, kRg2_a, kRg3_a, sem_lc, kLc_a, kLc2_a, stepC_nm, wipeR_n, wipeR_c, kCs_a, selC_t, selC_f, kElt_d, kElt_n, Cs_nil, Cs_cons, kC1_a, kC2_a, csS_t, csS_f, csS_n, lv_d, lv_n, lv_x, Res.bind_ok, Res.ofO_some, Res.nox_ok, Option.bind_some, Option.map_some, List.getElem?_cons_zero, List.getElem?_cons_succ, List.set_cons_zero, List.set_cons_succ, f10, isi_of .none .int false rfl, upB, List.take_length]
  | str i => simp -implicitDefEqProofs only [sem_var, varR_d, varR_own, varR_bor, varR_loc, sem_con, sem_glo, rdk1_s, rdk2_s, rd_d, rd_new, rd_bor, rd_lent, rd_loc, dat_lst, py_d, py_new, arg_d, arg_new, arg_bor, arg_lent, arg_loc, argAll_nil, sems_nil, sems_cons, kEs_a, kPut_a, sem_bin, kBin_a, kBin2_a, sem_neg, kNeg_a, negK_i, truR_b, truR_i, truR_l, truR_t, truR_n, sem_nt, kNot_a, kNot2_a, sem_an, sem_oo, kAn_a, kOo_a, anS_t, anS_f, ooS_t, ooS_f, sem_cmp, kCmp_a, kCmp2_a, cmpK_lt, cmpK_le, cmpK_gt, cmpK_ge, sem_chn, kChn_a, kChn2_a, kChn3_a, chS_t, chS_f, sem_ite, kIte_a, kIte2_a, selE_t, selE_f, sem_tup, sem_lst, kTup_a, kLst_a, pyAll_nil, pyAll_cons, sem_idx, kIdx_a, kIdx2_a, idxK_l, idxK_t, sem_slc, kSlc_a, kSlc2_a, kSlc3_a, slK_l, slK_t, kPart_n, kPart_i, sem_rev, kRev_a, revD_l, revD_t, sem_cal, kCal_a, calR_s, argAll_c, sem_bif, kBif_a, bifR_s, sem_mth, kMth_a, kMth2_a, mthR_s, idxK_s, rdAll_nil, rdAll_c, bif_len_l, bif_len_t, bif_tup_l, bif_tup_t, bif_lst_l, bif_lst_t, bif_len_s, bif_str_s, bif_repr, sem_isi, kIsi_a, add_ii, sub_ii, mul_ii, mul_ti, fdiv_ii, mod_ii, pow_ii, add_tt, add_ll, Ss_nil, Ss_cons, kSs_n, kSs_r, Ss_frz, frzR_nil, frzR_cons, frz1_own, frz1_d, S_set, kSet_pd, kSet_pn, kSet_pl, kSet_pb, kSet_o, kSet_c, S_unp, kUnp_a, unpR_s, setT_2, setT_3, S_exp, kExp_a, S_ret, kRet_d, kRet_n, kRet_l, S_rtv, rtvR_o, S_ite, kIf_a, kIf2_a, selS_t, selS_f, chgR_o, chgR_l, ownR_s, locR_s, appF_l, extF_l, subF_l, mutR_o, mutR_l, S_sub, kSub_a, subM_t, kSub2_a, subR_s, S_app, appM_t, kApp_a, appR_s, stepF_a, setR_s, setT_nm, S_for, kFor_a, F_of, kItF_dl, kItF_dt, kItF_ds, kItF_n, kItF_b, I_of, kItI_dl, kItI_dt, kItI_ds, kItI_n, kItI_b, kItI_l, I_rng, F_rng, kRng_a, I_rng2, F_rng2, kRg2_a, kRg3_a, sem_lc, kLc_a, kLc2_a, stepC_nm, wipeR_n, wipeR_c, kCs_a, selC_t, selC_f, kElt_d, kElt_n, Cs_nil, Cs_cons, kC1_a, kC2_a, csS_t, csS_f, csS_n, lv_d, lv_n, lv_x, Res.bind_ok, Res.ofO_some, Res.nox_ok, Option.bind_some, Option.map_some, List.getElem?_cons_zero, List.getElem?_cons_succ, List.set_cons_zero, List.set_cons_succ, f10, isi_of (.str i) .int false rfl, upB, List.take_length]
  | list i => simp -implicitDefEqProofs only [sem_var, varR_d, varR_own, varR_bor, varR_loc, sem_con, sem_glo, rdk1_s, rdk2_s, rd_d, rd_new, rd_bor, rd_lent, rd_loc, dat_lst, py_d, py_new, arg_d, arg_new, arg_bor, arg_lent, arg_loc, argAll_nil, sems_nil, sems_cons, kEs_a, kPut_a, sem_bin, kBin_a, kBin2_a, sem_neg, kNeg_a, negK_i, truR_b, truR_i, truR_l, truR_t, truR_n, sem_nt, kNot_a, kNot2_a, sem_an, sem_oo, kAn_a, kOo_a, anS_t, anS_f, ooS_t, ooS_f, sem_cmp, kCmp_a, kCmp2_a, cmpK_lt, cmpK_le, cmpK_gt, cmpK_ge, sem_chn, kChn_a, kChn2_a, kChn3_a, chS_t, chS_f, sem_ite, kIte_a, kIte2_a, selE_t, selE_f, sem_tup, sem_lst, kTup_a, kLst_a, pyAll_nil, pyAll_cons, sem_idx, kIdx_a, kIdx2_a, idxK_l, idxK_t, sem_slc, kSlc_a, kSlc2_a, kSlc3_a, slK_l, slK_t, kPart_n, kPart_i, sem_rev, kRev_a, revD_l, revD_t, sem_cal, kCal_a, calR_s, argAll_c, sem_bif, kBif_a, bifR_s, sem_mth, kMth_a, kMth2_a, mthR_s, idxK_s, rdAll_nil, rdAll_c, bif_len_l, bif_len_t, bif_tup_l, bif_tup_t, bif_lst_l, bif_lst_t, bif_len_s, bif_str_s, bif_repr, sem_isi, kIsi_a, add_ii, sub_ii, mul_ii, mul_ti, fdiv_ii, mod_ii, pow_ii, add_tt, add_ll, Ss_nil, Ss_cons, kSs_n, kSs_r, Ss_frz, frzR_nil, frzR_cons, frz1_own, frz1_d, S_set, kSet_pd, kSet_pn, kSet_pl, kSet_pb, kSet_o, kSet_c, S_unp, kUnp_a, unpR_s, setT_2, setT_3, S_exp, kExp_a, S_ret, kRet_d, kRet_n, kRet_l, S_rtv, rtvR_o, S_ite, kIf_a, kIf2_a, selS_t, selS_f, chgR_o, chgR_l, ownR_s, locR_s, appF_l, extF_l, subF_l, mutR_o, mutR_l, S_sub, kSub_a, subM_t, kSub2_a, subR_s, S_app, appM_t, kApp_a, appR_s, stepF_a, setR_s, setT_nm, S_for, kFor_a, F_of, kItF_dl, kItF_dt, kItF_ds, kItF_n, kItF_b, I_of, kItI_dl, kItI_dt, kItI_ds, kItI_n, kItI_b, kItI_l, I_rng, F_rng, kRng_a, I_rng2, F_rng2, kRg2_a, kRg3_a, sem_lc, kLc_a, kLc2_a, stepC_nm, wipeR_n, wipeR_c, kCs_a, selC_t, selC_f, kElt_d, kElt_n, Cs_nil, Cs_cons, kC1_a, kC2_a, csS_t, csS_f, csS_n, lv_d, lv_n, lv_x, Res.bind_ok, Res.ofO_some, Res.nox_ok, Option.bind_some, Option.map_some, List.getElem?_cons_zero, List.getElem?_cons_succ, List.set_cons_zero, List.set_cons_succ, f10, isi_of (.list i) .int false rfl, upB, List.take_length]
  | tuple i => simp -implicitDefEqProofs only [sem_var, varR_d, varR_own, varR_bor, varR_loc, sem_con, sem_glo, rdk1_s, rdk2_s, rd_d, rd_new, rd_bor, rd_lent, rd_loc, dat_lst, py_d, py_new, arg_d, arg_new, arg_bor, arg_lent, arg_loc, argAll_nil, sems_nil, sems_cons, kEs_a, kPut_a, sem_bin, kBin_a, kBin2_a, sem_neg, kNeg_a, negK_i, truR_b, truR_i, truR_l, truR_t, truR_n, sem_nt, kNot_a, kNot2_a, sem_an, sem_oo, kAn_a, kOo_a, anS_t, anS_f, ooS_t, ooS_f, sem_cmp, kCmp_a, kCmp2_a, cmpK_lt, cmpK_le, cmpK_gt, cmpK_ge, sem_chn, kChn_a, kChn2_a, kChn3_a, chS_t, chS_f, sem_ite, kIte_a, kIte2_a, selE_t, selE_f, sem_tup, sem_lst, kTup_a, kLst_a, pyAll_nil, pyAll_cons, sem_idx, kIdx_a, kIdx2_a, idxK_l, idxK_t, sem_slc, kSlc_a, kSlc2_a, kSlc3_a, slK_l, slK_t, kPart_n, kPart_i, sem_rev, kRev_a, revD_l, revD_t, sem_cal, kCal_a, calR_s, argAll_c, sem_bif, kBif_a, bifR_s, sem_mth, kMth_a, kMth2_a, mthR_s, idxK_s, rdAll_nil, rdAll_c, bif_len_l, bif_len_t, bif_tup_l, bif_tup_t, bif_lst_l, bif_lst_t, bif_len_s, bif_str_s, bif_repr, sem_isi, kIsi_a, add_ii, sub_ii, mul_ii, mul_ti, fdiv_ii, mod_ii, pow_ii, add_tt, add_ll, Ss_nil, Ss_cons, kSs_n, kSs_r, Ss_frz, frzR_nil, frzR_cons, frz1_own, frz1_d, S_set, kSet_pd, kSet_pn, kSet_pl, kSet_pb, kSet_o, kSet_c, S_unp, kUnp_a, unpR_s, setT_2, setT_3, S_exp, kExp_a, S_ret, kRet_d, kRet_n, kRet_l, S_rtv, rtvR_o, S_ite, kIf_a, kIf2_a, selS_t, selS_f, chgR_o, chgR_l, ownR_s, locR_s, appF_l, extF_l, subF_l, mutR_o, mutR_l, S_sub, kSub_a, subM_t, kSub2_a, subR_s, S_app, appM_t, kApp_a, appR_s, stepF_a, setR_s, setT_nm, S_for, kFor_a, F_of, kItF_dl, kItF_dt, kItF_ds, kItF_n, kItF_b, I_of, kItI_dl, kItI_dt, kItI_ds, kItI_n, kItI_b, kItI_l, I_rng, F_rng, kRng_a, I_rng2, F_rng2, kRg2_a, kRg3_a, sem_lc, kLc_a, kLc2_a, stepC_nm, wipeR_n, wipeR_c, kCs_a, selC_t, selC_f, kElt_d, kElt_n, Cs_nil, Cs_cons, kC1_a, kC2_a, csS_t, csS_f, csS_n, lv_d, lv_n, lv_x, Res.bind_ok, Res.ofO_some, Res.nox_ok, Option.bind_some, Option.map_some, List.getElem?_cons_zero, List.getElem?_cons_succ, List.set_cons_zero, List.set_cons_succ, f10, isi_of (.tuple i) .int false rfl, upB, List.take_length]
/-- things that may be asked of: no dict within, not too deep -/
def Th (x : PyData) : Prop := x.canLay0 = true ∧ x.depth ≤ 20
theorem Th.noD {x : PyData} (h : Th x) : noD x = true := by
  cases x with
  | dict _ => have := h.1; simp [PyData.canLay0] at this
  | _ => rfl
theorem lay_all : ∀ xs : List PyData, PyData.canLayAll0 xs = true ↔ ∀ x ∈ xs, x.canLay0 = true
  | [] => by simp [PyData.canLayAll0]
  | x :: xs => by simp [PyData.canLayAll0, lay_all xs]
theorem dep_all (d : Nat) : ∀ xs : List PyData, PyData.depthAll xs ≤ d ↔ ∀ x ∈ xs, x.depth ≤ d
  | [] => by simp [PyData.depthAll]
  | x :: xs => by
    simp only [PyData.depthAll, List.mem_cons, forall_eq_or_imp, ← dep_all d xs]
    omega
theorem Th.items {xs : List PyData} (h : Th (.tuple xs)) : ∀ x ∈ xs, Th x := by
  obtain ⟨h1, h2⟩ := h
  simp only [PyData.canLay0, lay_all] at h1
  simp only [PyData.depth] at h2
  have h3 := (dep_all 19 xs).mp (by omega)
  exact fun x hx => ⟨h1 x hx, by have := h3 x hx; omega⟩
theorem eqD_l0 {L : List PyData} (h : ∀ x ∈ L, Th x) : eqD (.list L) (.list []) = some L.isEmpty := by
  show eqS _ _ = _
  unfold eqS
  have h1 : PyData.canLayAll0 L = true := (lay_all L).mpr fun x hx => (h x hx).1
  have h2 : PyData.depthAll L ≤ 20 := (dep_all 20 L).mpr fun x hx => (h x hx).2
  have e1 : SeqAt.shaped (.list L) = true := by
    unfold SeqAt.shaped
    simp only [PyData.canLay0, PyData.depth, h1, Bool.true_and]
    exact decide_eq_true (by omega)
  have e2 : SeqAt.shaped (.list []) = true := by
    unfold SeqAt.shaped
    simp [PyData.canLay0, PyData.depth, PyData.canLayAll0, PyData.depthAll]
  rw [e1, e2, Bool.and_true, if_pos rfl, PyData.eqv]
  cases L <;> rfl
def seatB : PyData → Bool
  | .tuple (y :: ys) => decide (ys.length < 5) && (upB y 0 3 && ys.all fun z => upB z 1 99)
  | _ => false
structure CalH (Φ : Phi) : Prop extends FeedH Φ 6 7 where
  upto : ∀ (x : PyData) (lo hi : Int) (st : Stt), noD x = true → Φ 1 [.d x, .d (.int lo), .d (.int hi)] st = .ok (.d (.bool (upB x lo hi))) st
  lwh : ∀ (x : PyData) (lo hi : Int) (st : Stt), noD x = true → Φ 10 [.d x, .d (.int lo), .d (.int hi)] st = .ok (.d (.bool (upB x lo hi))) st
theorem calH (k : Nat) : CalH (phi fs (k + 2)) := { feedH (fs := fs) (gf := 6) (gt := 7) rfl rfl with
  upto := fun x lo hi st h => by
    rw [phi_at (f := f1) rfl ⟨rfl, by decide⟩]
    exact upto_ok (by rw [phi_at (f := f0) rfl ⟨rfl, by decide⟩]; exact whole_ok h)
  lwh := fun x lo hi st h => by rw [phi_at (f := f10) rfl ⟨rfl, by decide⟩]; exact lwhole_ok h }
theorem cut1 {x : PyData} {xs : List PyData} : cutD (x :: xs) (some 1) none = xs := cut_from 1
theorem allB_map (f : PyData → Bool) : ∀ ys : List PyData, Gm.allB (ys.map fun y => PyData.bool (f y)) = some (ys.map f)
  | [] => rfl
  | y :: ys => by
    rw [List.map_cons, List.map_cons, Gm.allB, allB_map f ys]
    rfl
theorem fm_some {g : PyData → PyData} (ys : List PyData) : ys.filterMap (fun y => some (g y)) = ys.map g := by
  induction ys with
  | nil => rfl
  | cons y ys ih => rw [List.filterMap_cons, ih]; rfl
theorem is_seat_ok {Φ : Phi} (H : CalH Φ) {x : PyData} {st : Stt} (h : Th x) : leaveW st.length (semSs Φ f2.body [some (.d x), none] st) = .ok (.d (.bool (seatB x))) st := by
  cases x with
  | dict _ => have := h.noD; cases this
  | int i => simp -implicitDefEqProofs only [sem_var, varR_d, varR_own, varR_bor, varR_loc, sem_con, sem_glo, rdk1_s, rdk2_s, rd_d, rd_new, rd_bor, rd_lent, rd_loc, dat_lst, py_d, py_new, arg_d, arg_new, arg_bor, arg_lent, arg_loc, argAll_nil, sems_nil, sems_cons, kEs_a, kPut_a, sem_bin, kBin_a, kBin2_a, sem_neg, kNeg_a, negK_i, truR_b, truR_i, truR_l, truR_t, truR_n, sem_nt, kNot_a, kNot2_a, sem_an, sem_oo, kAn_a, kOo_a, anS_t, anS_f, ooS_t, ooS_f, sem_cmp, kCmp_a, kCmp2_a, cmpK_lt, cmpK_le, cmpK_gt, cmpK_ge, sem_chn, kChn_a, kChn2_a, kChn3_a, chS_t, chS_f, sem_ite, kIte_a, kIte2_a, selE_t, selE_f, sem_tup, sem_lst, kTup_a, kLst_a, pyAll_nil, pyAll_cons, sem_idx, kIdx_a, kIdx2_a, idxK_l, idxK_t, sem_slc, kSlc_a, kSlc2_a, kSlc3_a, slK_l, slK_t, kPart_n, kPart_i, sem_rev, kRev_a, revD_l, revD_t, sem_cal, kCal_a, calR_s, argAll_c, sem_bif, kBif_a, bifR_s, sem_mth, kMth_a, kMth2_a, mthR_s, idxK_s, rdAll_nil, rdAll_c, bif_len_l, bif_len_t, bif_tup_l, bif_tup_t, bif_lst_l, bif_lst_t, bif_len_s, bif_str_s, bif_repr, sem_isi, kIsi_a, add_ii, sub_ii, mul_ii, mul_ti, fdiv_ii, mod_ii, pow_ii, add_tt, add_ll, Ss_nil, Ss_cons, kSs_n, kSs_r, Ss_frz, frzR_nil, frzR_cons, frz1_own, frz1_d, S_set, kSet_pd, kSet_pn, kSet_pl, kSet_pb, kSet_o, kSet_c, S_unp, kUnp_a, unpR_s, setT_2, setT_3, S_exp, kExp_a, S_ret, kRet_d, kRet_n, kRet_l, S_rtv, rtvR_o, S_ite, kIf_a, kIf2_a, selS_t, selS_f, chgR_o, chgR_l, ownR_s, locR_s, appF_l, extF_l, subF_l, mutR_o, mutR_l, S_sub, kSub_a, subM_t, kSub2_a, subR_s, S_app, appM_t, kApp_a, appR_s, stepF_a, setR_s, setT_nm, S_for, kFor_a, F_of, kItF_dl, kItF_dt, kItF_ds, kItF_n, kItF_b, I_of, kItI_dl, kItI_dt, kItI_ds, kItI_n, kItI_b, kItI_l, I_rng, F_rng, kRng_a, I_rng2, F_rng2, kRg2_a, kRg3_a, sem_lc, kLc_a, kLc2_a, stepC_nm, wipeR_n, wipeR_c, kCs_a, selC_t, selC_f, kElt_d, kElt_n, Cs_nil, Cs_cons, kC1_a, kC2_a, csS_t, csS_f, csS_n, lv_d, lv_n, lv_x, Res.bind_ok, Res.ofO_some, Res.nox_ok, Option.bind_some, Option.map_some, List.getElem?_cons_zero, List.getElem?_cons_succ, List.set_cons_zero, List.set_cons_succ, f2, isi_of (.int i) .tuple false rfl, Bool.not_false, seatB, List.take_length]
  | bool i => simp -implicitDefEqProofs only [sem_var, varR_d, varR_own, varR_bor, varR_loc, sem_con, sem_glo, rdk1_s, rdk2_s, rd_d, rd_new, rd_bor, rd_lent, rd_loc, dat_lst, py_d, py_new, arg_d, arg_new, arg_bor, arg_lent, arg_loc, argAll_nil, sems_nil, sems_cons, kEs_a, kPut_a, sem_bin, kBin_a, kBin2_a, sem_neg, kNeg_a, negK_i, truR_b, truR_i, truR_l, truR_t, truR_n, sem_nt, kNot_a, kNot2_a, sem_an, sem_oo, kAn_a, kOo_a, anS_t, anS_f, ooS_t, ooS_f, sem_cmp, kCmp_a, kCmp2_a, cmpK_lt, cmpK_le, cmpK_gt, cmpK_ge, sem_chn, kChn_a, kChn2_a, kChn3_a, chS_t, chS_f, sem_ite, kIte_a, kIte2_a, selE_t, selE_f, sem_tup, sem_lst, kTup_a, kLst_a, pyAll_nil, pyAll_cons, sem_idx, kIdx_a, kIdx2_a, idxK_l, idxK_t, sem_slc, kSlc_a, kSlc2_a, kSlc3_a, slK_l, slK_t, kPart_n, kPart_i, sem_rev, kRev_a, revD_l, revD_t, sem_cal, kCal_a, calR_s, argAll_c, sem_bif, kBif_a, bifR_s, sem_mth, kMth_a, kMth2_a, mthR_s, idxK_s, rdAll_nil, rdAll_c, bif_len_l, bif_len_t, bif_tup_l, bif_tup_t, bif_lst_l, bif_lst_t, bif_len_s, bif_str_s, bif_repr, sem_isi, kIsi_a, add_ii, sub_ii, mul_ii, mul_ti, fdiv_ii, mod_ii, pow_ii, add_tt, add_ll, Ss_nil, Ss_cons, kSs_n, kSs_r, Ss_frz, frzR_nil, frzR_cons, frz1_own, frz1_d, S_set, kSet_pd, kSet_pn, kSet_pl, kSet_pb, kSet_o, kSet_c, S_unp, kUnp_a, unpR_s, setT_2, setT_3, S_exp, kExp_a, S_ret, kRet_d, kRet_n, kRet_l, S_rtv, rtvR_o, S_ite, kIf_a, kIf2_a, selS_t, selS_f, chgR_o, chgR_l, ownR_s, locR_s, appF_l, extF_l, subF_l, mutR_o, mutR_l, S_sub, kSub_a, subM_t, kSub2_a, subR_s, S_app, appM_t, kApp_a, appR_s, stepF_a, setR_s, setT_nm, S_for, kFor_a, F_of, kItF_dl, kItF_dt, kItF_ds, kItF_n, kItF_b, I_of, kItI_dl, kItI_dt, kItI_ds, kItI_n, kItI_b, kItI_l, I_rng, F_rng, kRng_a, I_rng2, F_rng2, kRg2_a, kRg3_a, sem_lc, kLc_a, kLc2_a, stepC_nm, wipeR_n, wipeR_c, kCs_a, selC_t, selC_f, kElt_d, kElt_n, Cs_nil, Cs_cons, kC1_a, kC2_a, csS_t, csS_f, csS_n, lv_d, lv_n, lv_x, Res.bind_ok, Res.ofO_some, Res.nox_ok, Option.bind_some, Option.map_some, List.getElem?_cons_zero, List.getElem?_cons_succ, List.set_cons_zero, List.set_cons_succ, f2, isi_of (.bool i) .tuple false rfl, Bool.not_false, seatB, List.take_length]
  | none => simp -implicitDefEqProofs only [sem_var, varR_d, varR_own, varR_bor, varR_loc, sem_con, sem_glo, rdk1_s, rdk2_s, rd_d, rd_new, rd_bor, rd_lent, rd_loc, dat_lst, py_d, py_new, arg_d, arg_new, arg_bor, arg_lent, arg_loc, argAll_nil, sems_nil, sems_cons, kEs_a, kPut_a, sem_bin, kBin_a, kBin2_a, sem_neg, kNeg_a, negK_i, truR_b, truR_i, truR_l, truR_t, truR_n, sem_nt, kNot_a, kNot2_a, sem_an, sem_oo, kAn_a, kOo_a, anS_t, anS_f, ooS_t, ooS_f, sem_cmp, kCmp_a, kCmp2_a, cmpK_lt, cmpK_le, cmpK_gt, cmpK_ge, sem_chn, kChn_a, kChn2_a, kChn3_a, chS_t, chS_f, sem_ite, kIte_a, kIte2_a, selE_t, selE_f, sem_tup, sem_lst, kTup_a, kLst_a, pyAll_nil, pyAll_cons, sem_idx, kIdx_a, kIdx2_a, idxK_l, idxK_t, sem_slc, kSlc_a, kSlc2_a, kSlc3_a, slK_l, slK_t, kPart_n, kPart_i, sem_rev, kRev_a, revD_l, revD_t, sem_cal, kCal_a, calR_s, argAll_c, sem_bif, kBif_a, bifR_s, sem_mth, kMth_a, kMth2_a, mthR_s, idxK_s, rdAll_nil, rdAll_c, bif_len_l, bif_len_t, bif_tup_l, bif_tup_t, bif_lst_l, bif_lst_t, bif_len_s, bif_str_s, bif_repr, sem_isi, kIsi_a, add_ii, sub_ii, mul_ii, mul_ti, fdiv_ii, mod_ii, pow_ii, add_tt, add_ll, Ss_nil, Ss_cons, kSs_n, kSs_r, Ss_frz, frzR_nil, frzR_cons, frz1_own, frz1_d, S_set, kSet_pd, kSet_pn, kSet_pl, kSet_pb, kSet_o, kSet_c, S_unp, kUnp_a, unpR_s, setT_2, setT_3, S_exp, kExp_a, S_ret, kRet_d, kRet_n, kRet_l, S_rtv, rtvR_o, S_ite, kIf_a, kIf2_a, selS_t, selS_f, chgR_o, chgR_l, ownR_s, locR_s, appF_l, extF_l, subF_l, mutR_o, mutR_l, S_sub, kSub_a, subM_t, kSub2_a, subR_s, S_app, appM_t, kApp_a, appR_s, stepF_a, setR_s, setT_nm, S_for, kFor_a, F_of, kItF_dl, kItF_dt, kItF_ds, kItF_n, kItF_b, I_of, kItI_dl, kItI_dt, kItI_ds, kItI_n, kItI_b, kItI_l, I_rng, F_rng, kRng_a, I_rng2, F_rng2, kRg2_a, kRg3_a, sem_lc, kLc_a, kLc2_a, stepC_nm, wipeR_n, wipeR_c, kCs_a, selC_t, selC_f, kElt_d, kElt_n, Cs_nil, Cs_cons, kC1_a, kC2_a, csS_t, csS_f, csS_n, lv_d, lv_n, lv_x, Res.bind_ok, Res.ofO_some, Res.nox_ok, Option.bind_some, Option.map_some, List.getElem?_cons_zero, List.getElem?_cons_succ, List.set_cons_zero, List.set_cons_succ, f2, isi_of .none .tuple false rfl, Bool.not_false, seatB, List.take_length]
  | str i => simp -implicitDefEqProofs only [sem_var, varR_d, varR_own, varR_bor, varR_loc, sem_con, sem_glo, rdk1_s, rdk2_s, rd_d, rd_new, rd_bor, rd_lent, rd_loc, dat_lst, py_d, py_new, arg_d, arg_new, arg_bor, arg_lent, arg_loc, argAll_nil, sems_nil, sems_cons, kEs_a, kPut_a, sem_bin, kBin_a, kBin2_a, sem_neg, kNeg_a, negK_i, truR_b, truR_i, truR_l, truR_t, truR_n, sem_nt, kNot_a, kNot2_a, sem_an, sem_oo, kAn_a, kOo_a, anS_t, anS_f, ooS_t, ooS_f, sem_cmp, kCmp_a, kCmp2_a, cmpK_lt, cmpK_le, cmpK_gt, cmpK_ge, sem_chn, kChn_a, kChn2_a, kChn3_a, chS_t, chS_f, sem_ite, kIte_a, kIte2_a, selE_t, selE_f, sem_tup, sem_lst, kTup_a, kLst_a, pyAll_nil, pyAll_cons, sem_idx, kIdx_a, kIdx2_a, idxK_l, idxK_t, sem_slc, kSlc_a, kSlc2_a, kSlc3_a, slK_l, slK_t, kPart_n, kPart_i, sem_rev, kRev_a, revD_l, revD_t, sem_cal, kCal_a, calR_s, argAll_c, sem_bif, kBif_a, bifR_s, sem_mth, kMth_a, kMth2_a, mthR_s, idxK_s, rdAll_nil, rdAll_c, bif_len_l, bif_len_t, bif_tup_l, bif_tup_t, bif_lst_l, bif_lst_t, bif_len_s, bif_str_s, bif_repr, sem_isi, kIsi_a, add_ii, sub_ii, mul_ii, mul_ti, fdiv_ii, mod_ii, pow_ii, add_tt, add_ll, Ss_nil, Ss_cons, kSs_n, kSs_r, Ss_frz, frzR_nil, frzR_cons, frz1_own, frz1_d, S_set, kSet_pd, kSet_pn, kSet_pl, kSet_pb, kSet_o, kSet_c, S_unp, kUnp_a, unpR_s, setT_2, setT_3, S_exp, kExp_a, S_ret, kRet_d, kRet_n, kRet_l, S_rtv, rtvR_o, S_ite, kIf_a, kIf2_a, selS_t, selS_f, chgR_o, chgR_l, ownR_s, locR_s, appF_l, extF_l, subF_l, mutR_o, mutR_l, S_sub, kSub_a, subM_t, kSub2_a, subR_s, S_app, appM_t, kApp_a, appR_s, stepF_a, setR_s, setT_nm, S_for, kFor_a, F_of, kItF_dl, kItF_dt, kItF_ds, kItF_n, kItF_b, I_of, kItI_dl, kItI_dt, kItI_ds, kItI_n, kItI_b, kItI_l, I_rng, F_rng, kRng_a, I_rng2, F_rng2, kRg2_a, kRg3_a, sem_lc, kLc_a, kLc2_a, stepC_nm, wipeR_n, wipeR_c, kCs_a, selC_t, selC_f, kElt_d, kElt_n, Cs_nil, Cs_cons, kC1_a, kC2_a, csS_t, csS_f, csS_n, lv_d, lv_n, lv_x, Res.bind_ok, Res.ofO_some, Res.nox_ok, Option.bind_some, Option.map_some, List.getElem?_cons_zero, List.getElem?_cons_succ, List.set_cons_zero, List.set_cons_succ, f2, isi_of (.str i) .tuple false rfl, Bool.not_false, seatB, List.take_length]
  | list i => simp -implicitDefEqProofs only [sem_var, varR_d, varR_own, varR_bor, varR_loc, sem_con, sem_glo, rdk1_s, rdk2_s, rd_d, rd_new, rd_bor, rd_lent, rd_loc, dat_lst, py_d, py_new, arg_d, arg_new, arg_bor, arg_lent, arg_loc, argAll_nil, sems_nil, sems_cons, kEs_a, kPut_a, sem_bin, kBin_a, kBin2_a, sem_neg, kNeg_a, negK_i, truR_b, truR_i, truR_l, truR_t, truR_n, sem_nt, kNot_a, kNot2_a, sem_an, sem_oo, kAn_a, kOo_a, anS_t, anS_f, ooS_t, ooS_f, sem_cmp, kCmp_a, kCmp2_a, cmpK_lt, cmpK_le, cmpK_gt, cmpK_ge, sem_chn, kChn_a, kChn2_a, kChn3_a, chS_t, chS_f, sem_ite, kIte_a, kIte2_a, selE_t, selE_f, sem_tup, sem_lst, kTup_a, kLst_a, pyAll_nil, pyAll_cons, sem_idx, kIdx_a, kIdx2_a, idxK_l, idxK_t, sem_slc, kSlc_a, kSlc2_a, kSlc3_a, slK_l, slK_t, kPart_n, kPart_i, sem_rev, kRev_a, revD_l, revD_t, sem_cal, kCal_a, calR_s, argAll_c, sem_bif, kBif_a, bifR_s, sem_mth, kMth_a, kMth2_a, mthR_s, idxK_s, rdAll_nil, rdAll_c, bif_len_l, bif_len_t, bif_tup_l, bif_tup_t, bif_lst_l, bif_lst_t, bif_len_s, bif_str_s, bif_repr, sem_isi, kIsi_a, add_ii, sub_ii, mul_ii, mul_ti, fdiv_ii, mod_ii, pow_ii, add_tt, add_ll, Ss_nil, Ss_cons, kSs_n, kSs_r, Ss_frz, frzR_nil, frzR_cons, frz1_own, frz1_d, S_set, kSet_pd, kSet_pn, kSet_pl, kSet_pb, kSet_o, kSet_c, S_unp, kUnp_a, unpR_s, setT_2, setT_3, S_exp, kExp_a, S_ret, kRet_d, kRet_n, kRet_l, S_rtv, rtvR_o, S_ite, kIf_a, kIf2_a, selS_t, selS_f, chgR_o, chgR_l, ownR_s, locR_s, appF_l, extF_l, subF_l, mutR_o, mutR_l, S_sub, kSub_a, subM_t, kSub2_a, subR_s, S_app, appM_t, kApp_a, appR_s, stepF_a, setR_s, setT_nm, S_for, kFor_a, F_of, kItF_dl, kItF_dt, kItF_ds, kItF_n, kItF_b, I_of, kItI_dl, kItI_dt, kItI_ds, kItI_n, kItI_b, kItI_l, I_rng, F_rng, kRng_a, I_rng2, F_rng2, kRg2_a, kRg3_a, sem_lc, kLc_a, kLc2_a, stepC_nm, wipeR_n, wipeR_c, kCs_a, selC_t, selC_f, kElt_d, kElt_n, Cs_nil, Cs_cons, kC1_a, kC2_a, csS_t, csS_f, csS_n, lv_d, lv_n, lv_x, Res.bind_ok, Res.ofO_some, Res.nox_ok, Option.bind_some, Option.map_some, List.getElem?_cons_zero, List.getElem?_cons_succ, List.set_cons_zero, List.set_cons_succ, f2, isi_of (.list i) .tuple false rfl, Bool.not_false, seatB, List.take_length]
  | tuple xs =>
    cases xs with
    | nil =>
      have e : decide ((1 : Int) ≤ ((([] : List PyData).length : Nat) : Int)) = false := by decide
      simp -implicitDefEqProofs only [sem_var, varR_d, varR_own, varR_bor, varR_loc, sem_con, sem_glo, rdk1_s, rdk2_s, rd_d, rd_new, rd_bor, rd_lent, rd_loc, dat_lst, py_d, py_new, arg_d, arg_new, arg_bor, arg_lent, arg_loc, argAll_nil, sems_nil, sems_cons, kEs_a, kPut_a, sem_bin, kBin_a, kBin2_a, sem_neg, kNeg_a, negK_i, truR_b, truR_i, truR_l, truR_t, truR_n, sem_nt, kNot_a, kNot2_a, sem_an, sem_oo, kAn_a, kOo_a, anS_t, anS_f, ooS_t, ooS_f, sem_cmp, kCmp_a, kCmp2_a, cmpK_lt, cmpK_le, cmpK_gt, cmpK_ge, sem_chn, kChn_a, kChn2_a, kChn3_a, chS_t, chS_f, sem_ite, kIte_a, kIte2_a, selE_t, selE_f, sem_tup, sem_lst, kTup_a, kLst_a, pyAll_nil, pyAll_cons, sem_idx, kIdx_a, kIdx2_a, idxK_l, idxK_t, sem_slc, kSlc_a, kSlc2_a, kSlc3_a, slK_l, slK_t, kPart_n, kPart_i, sem_rev, kRev_a, revD_l, revD_t, sem_cal, kCal_a, calR_s, argAll_c, sem_bif, kBif_a, bifR_s, sem_mth, kMth_a, kMth2_a, mthR_s, idxK_s, rdAll_nil, rdAll_c, bif_len_l, bif_len_t, bif_tup_l, bif_tup_t, bif_lst_l, bif_lst_t, bif_len_s, bif_str_s, bif_repr, sem_isi, kIsi_a, add_ii, sub_ii, mul_ii, mul_ti, fdiv_ii, mod_ii, pow_ii, add_tt, add_ll, Ss_nil, Ss_cons, kSs_n, kSs_r, Ss_frz, frzR_nil, frzR_cons, frz1_own, frz1_d, S_set, kSet_pd, kSet_pn, kSet_pl, kSet_pb, kSet_o, kSet_c, S_unp, kUnp_a, unpR_s, setT_2, setT_3, S_exp, kExp_a, S_ret, kRet_d, kRet_n, kRet_l, S_rtv, rtvR_o, S_ite, kIf_a, kIf2_a, selS_t, selS_f, chgR_o, chgR_l, ownR_s, locR_s, appF_l, extF_l, subF_l, mutR_o, mutR_l, S_sub, kSub_a, subM_t, kSub2_a, subR_s, S_app, appM_t, kApp_a, appR_s, stepF_a, setR_s, setT_nm, S_for, kFor_a, F_of, kItF_dl, kItF_dt, kItF_ds, kItF_n, kItF_b, I_of, kItI_dl, kItI_dt, kItI_ds, kItI_n, kItI_b, kItI_l, I_rng, F_rng, kRng_a, I_rng2, F_rng2, kRg2_a, kRg3_a, sem_lc, kLc_a, kLc2_a, stepC_nm, wipeR_n, wipeR_c, kCs_a, selC_t, selC_f, kElt_d, kElt_n, Cs_nil, Cs_cons, kC1_a, kC2_a, csS_t, csS_f, csS_n, lv_d, lv_n, lv_x, Res.bind_ok, Res.ofO_some, Res.nox_ok, Option.bind_some, Option.map_some, List.getElem?_cons_zero, List.getElem?_cons_succ, List.set_cons_zero, List.set_cons_succ, f2, isi_of (.tuple []) .tuple true rfl, Bool.not_true, e, Bool.not_false, seatB, List.take_length]
    | cons y ys =>
      have hy := h.items y List.mem_cons_self
      have hys : ∀ z ∈ ys, Th z := fun z hz => h.items z (List.mem_cons_of_mem _ hz)
      have e1 : decide ((1 : Int) ≤ (((y :: ys).length : Nat) : Int)) = true := decide_eq_true (by rw [List.length_cons]; omega)
      by_cases h5 : ys.length < 5
      · have e2 : decide ((((y :: ys).length : Nat) : Int) ≤ 5) = true := decide_eq_true (by rw [List.length_cons]; omega)
        have e3 : decide (ys.length < 5) = true := decide_eq_true h5
        have eu := H.upto y 0 3 st hy.noD
        cases hu : upB y 0 3 with
        | false =>
          rw [hu] at eu
          simp -implicitDefEqProofs only [sem_var, varR_d, varR_own, varR_bor, varR_loc, sem_con, sem_glo, rdk1_s, rdk2_s, rd_d, rd_new, rd_bor, rd_lent, rd_loc, dat_lst, py_d, py_new, arg_d, arg_new, arg_bor, arg_lent, arg_loc, argAll_nil, sems_nil, sems_cons, kEs_a, kPut_a, sem_bin, kBin_a, kBin2_a, sem_neg, kNeg_a, negK_i, truR_b, truR_i, truR_l, truR_t, truR_n, sem_nt, kNot_a, kNot2_a, sem_an, sem_oo, kAn_a, kOo_a, anS_t, anS_f, ooS_t, ooS_f, sem_cmp, kCmp_a, kCmp2_a, cmpK_lt, cmpK_le, cmpK_gt, cmpK_ge, sem_chn, kChn_a, kChn2_a, kChn3_a, chS_t, chS_f, sem_ite, kIte_a, kIte2_a, selE_t, selE_f, sem_tup, sem_lst, kTup_a, kLst_a, pyAll_nil, pyAll_cons, sem_idx, kIdx_a, kIdx2_a, idxK_l, idxK_t, sem_slc, kSlc_a, kSlc2_a, kSlc3_a, slK_l, slK_t, kPart_n, kPart_i, sem_rev, kRev_a, revD_l, revD_t, sem_cal, kCal_a, calR_s, argAll_c, sem_bif, kBif_a, bifR_s, sem_mth, kMth_a, kMth2_a, mthR_s, idxK_s, rdAll_nil, rdAll_c, bif_len_l, bif_len_t, bif_tup_l, bif_tup_t, bif_lst_l, bif_lst_t, bif_len_s, bif_str_s, bif_repr, sem_isi, kIsi_a, add_ii, sub_ii, mul_ii, mul_ti, fdiv_ii, mod_ii, pow_ii, add_tt, add_ll, Ss_nil, Ss_cons, kSs_n, kSs_r, Ss_frz, frzR_nil, frzR_cons, frz1_own, frz1_d, S_set, kSet_pd, kSet_pn, kSet_pl, kSet_pb, kSet_o, kSet_c, S_unp, kUnp_a, unpR_s, setT_2, setT_3, S_exp, kExp_a, S_ret, kRet_d, kRet_n, kRet_l, S_rtv, rtvR_o, S_ite, kIf_a, kIf2_a, selS_t, selS_f, chgR_o, chgR_l, ownR_s, locR_s, appF_l, extF_l, subF_l, mutR_o, mutR_l, S_sub, kSub_a, subM_t, kSub2_a, subR_s, S_app, appM_t, kApp_a, appR_s, stepF_a, setR_s, setT_nm, S_for, kFor_a, F_of, kItF_dl, kItF_dt, kItF_ds, kItF_n, kItF_b, I_of, kItI_dl, kItI_dt, kItI_ds, kItI_n, kItI_b, kItI_l, I_rng, F_rng, kRng_a, I_rng2, F_rng2, kRg2_a, kRg3_a, sem_lc, kLc_a, kLc2_a, stepC_nm, wipeR_n, wipeR_c, kCs_a, selC_t, selC_f, kElt_d, kElt_n, Cs_nil, Cs_cons, kC1_a, kC2_a, csS_t, csS_f, csS_n, lv_d, lv_n, lv_x, Res.bind_ok, Res.ofO_some, Res.nox_ok, Option.bind_some, Option.map_some, List.getElem?_cons_zero, List.getElem?_cons_succ, List.set_cons_zero, List.set_cons_succ, f2, isi_of (.tuple (y :: ys)) .tuple true rfl, Bool.not_true, e1, e2, Bool.not_false, seatB, atI_0, eu, hu, Bool.false_and, Bool.and_false, List.take_length]
        | true =>
          rw [hu] at eu
          have hc : compL (stepC Φ (.cal "is_up_to" 1 (.cons (.var 1) (.cons (.con (.int 1)) (.cons (.glo "MOST_CHILD" (.int 99)) .nil)))) (.nm 1) .nil [1] [some (.d (.tuple (y :: ys))), none]) ys st = .ok (ys.map fun z => .bool (upB z 1 99)) st := by
            rw [← fm_some]
            refine compL_fm fun z hz => ?_
            have ez := H.upto z 1 99 st (hys z hz).noD
            simp -implicitDefEqProofs only [sem_var, varR_d, varR_own, varR_bor, varR_loc, sem_con, sem_glo, rdk1_s, rdk2_s, rd_d, rd_new, rd_bor, rd_lent, rd_loc, dat_lst, py_d, py_new, arg_d, arg_new, arg_bor, arg_lent, arg_loc, argAll_nil, sems_nil, sems_cons, kEs_a, kPut_a, sem_bin, kBin_a, kBin2_a, sem_neg, kNeg_a, negK_i, truR_b, truR_i, truR_l, truR_t, truR_n, sem_nt, kNot_a, kNot2_a, sem_an, sem_oo, kAn_a, kOo_a, anS_t, anS_f, ooS_t, ooS_f, sem_cmp, kCmp_a, kCmp2_a, cmpK_lt, cmpK_le, cmpK_gt, cmpK_ge, sem_chn, kChn_a, kChn2_a, kChn3_a, chS_t, chS_f, sem_ite, kIte_a, kIte2_a, selE_t, selE_f, sem_tup, sem_lst, kTup_a, kLst_a, pyAll_nil, pyAll_cons, sem_idx, kIdx_a, kIdx2_a, idxK_l, idxK_t, sem_slc, kSlc_a, kSlc2_a, kSlc3_a, slK_l, slK_t, kPart_n, kPart_i, sem_rev, kRev_a, revD_l, revD_t, sem_cal, kCal_a, calR_s, argAll_c, sem_bif, kBif_a, bifR_s, sem_mth, kMth_a, kMth2_a, mthR_s, idxK_s, rdAll_nil, rdAll_c, bif_len_l, bif_len_t, bif_tup_l, bif_tup_t, bif_lst_l, bif_lst_t, bif_len_s, bif_str_s, bif_repr, sem_isi, kIsi_a, add_ii, sub_ii, mul_ii, mul_ti, fdiv_ii, mod_ii, pow_ii, add_tt, add_ll, Ss_nil, Ss_cons, kSs_n, kSs_r, Ss_frz, frzR_nil, frzR_cons, frz1_own, frz1_d, S_set, kSet_pd, kSet_pn, kSet_pl, kSet_pb, kSet_o, kSet_c, S_unp, kUnp_a, unpR_s, setT_2, setT_3, S_exp, kExp_a, S_ret, kRet_d, kRet_n, kRet_l, S_rtv, rtvR_o, S_ite, kIf_a, kIf2_a, selS_t, selS_f, chgR_o, chgR_l, ownR_s, locR_s, appF_l, extF_l, subF_l, mutR_o, mutR_l, S_sub, kSub_a, subM_t, kSub2_a, subR_s, S_app, appM_t, kApp_a, appR_s, stepF_a, setR_s, setT_nm, S_for, kFor_a, F_of, kItF_dl, kItF_dt, kItF_ds, kItF_n, kItF_b, I_of, kItI_dl, kItI_dt, kItI_ds, kItI_n, kItI_b, kItI_l, I_rng, F_rng, kRng_a, I_rng2, F_rng2, kRg2_a, kRg3_a, sem_lc, kLc_a, kLc2_a, stepC_nm, wipeR_n, wipeR_c, kCs_a, selC_t, selC_f, kElt_d, kElt_n, Cs_nil, Cs_cons, kC1_a, kC2_a, csS_t, csS_f, csS_n, lv_d, lv_n, lv_x, Res.bind_ok, Res.ofO_some, Res.nox_ok, Option.bind_some, Option.map_some, List.getElem?_cons_zero, List.getElem?_cons_succ, List.set_cons_zero, List.set_cons_succ, ez]
          have hl : ((ys.map fun z => PyData.bool (upB z 1 99)).length ≤ lineN) = True := eq_true (le_line (b := 5) (by rw [List.length_map]; omega) (by decide))
          have ha : bifD .all [.list (ys.map fun z => PyData.bool (upB z 1 99))] = some (.d (.bool (ys.all fun z => upB z 1 99))) := by
            show (Gm.allB _).map _ = _
            rw [allB_map, Option.map_some, List.all_map]
            rfl
          simp -implicitDefEqProofs only [sem_var, varR_d, varR_own, varR_bor, varR_loc, sem_con, sem_glo, rdk1_s, rdk2_s, rd_d, rd_new, rd_bor, rd_lent, rd_loc, dat_lst, py_d, py_new, arg_d, arg_new, arg_bor, arg_lent, arg_loc, argAll_nil, sems_nil, sems_cons, kEs_a, kPut_a, sem_bin, kBin_a, kBin2_a, sem_neg, kNeg_a, negK_i, truR_b, truR_i, truR_l, truR_t, truR_n, sem_nt, kNot_a, kNot2_a, sem_an, sem_oo, kAn_a, kOo_a, anS_t, anS_f, ooS_t, ooS_f, sem_cmp, kCmp_a, kCmp2_a, cmpK_lt, cmpK_le, cmpK_gt, cmpK_ge, sem_chn, kChn_a, kChn2_a, kChn3_a, chS_t, chS_f, sem_ite, kIte_a, kIte2_a, selE_t, selE_f, sem_tup, sem_lst, kTup_a, kLst_a, pyAll_nil, pyAll_cons, sem_idx, kIdx_a, kIdx2_a, idxK_l, idxK_t, sem_slc, kSlc_a, kSlc2_a, kSlc3_a, slK_l, slK_t, kPart_n, kPart_i, sem_rev, kRev_a, revD_l, revD_t, sem_cal, kCal_a, calR_s, argAll_c, sem_bif, kBif_a, bifR_s, sem_mth, kMth_a, kMth2_a, mthR_s, idxK_s, rdAll_nil, rdAll_c, bif_len_l, bif_len_t, bif_tup_l, bif_tup_t, bif_lst_l, bif_lst_t, bif_len_s, bif_str_s, bif_repr, sem_isi, kIsi_a, add_ii, sub_ii, mul_ii, mul_ti, fdiv_ii, mod_ii, pow_ii, add_tt, add_ll, Ss_nil, Ss_cons, kSs_n, kSs_r, Ss_frz, frzR_nil, frzR_cons, frz1_own, frz1_d, S_set, kSet_pd, kSet_pn, kSet_pl, kSet_pb, kSet_o, kSet_c, S_unp, kUnp_a, unpR_s, setT_2, setT_3, S_exp, kExp_a, S_ret, kRet_d, kRet_n, kRet_l, S_rtv, rtvR_o, S_ite, kIf_a, kIf2_a, selS_t, selS_f, chgR_o, chgR_l, ownR_s, locR_s, appF_l, extF_l, subF_l, mutR_o, mutR_l, S_sub, kSub_a, subM_t, kSub2_a, subR_s, S_app, appM_t, kApp_a, appR_s, stepF_a, setR_s, setT_nm, S_for, kFor_a, F_of, kItF_dl, kItF_dt, kItF_ds, kItF_n, kItF_b, I_of, kItI_dl, kItI_dt, kItI_ds, kItI_n, kItI_b, kItI_l, I_rng, F_rng, kRng_a, I_rng2, F_rng2, kRg2_a, kRg3_a, sem_lc, kLc_a, kLc2_a, stepC_nm, wipeR_n, wipeR_c, kCs_a, selC_t, selC_f, kElt_d, kElt_n, Cs_nil, Cs_cons, kC1_a, kC2_a, csS_t, csS_f, csS_n, lv_d, lv_n, lv_x, Res.bind_ok, Res.ofO_some, Res.nox_ok, Option.bind_some, Option.map_some, List.getElem?_cons_zero, List.getElem?_cons_succ, List.set_cons_zero, List.set_cons_succ, f2, isi_of (.tuple (y :: ys)) .tuple true rfl, Bool.not_true, e1, e2, e3, Bool.not_false, seatB, atI_0, eu, hu, Bool.true_and, cut1, hc, hl, if_true, ha, List.take_length]
      · have e2 : decide ((((y :: ys).length : Nat) : Int) ≤ 5) = false := decide_eq_false (by rw [List.length_cons]; omega)
        have e3 : decide (ys.length < 5) = false := decide_eq_false h5
        simp -implicitDefEqProofs only [sem_var, varR_d, varR_own, varR_bor, varR_loc, sem_con, sem_glo, rdk1_s, rdk2_s, rd_d, rd_new, rd_bor, rd_lent, rd_loc, dat_lst, py_d, py_new, arg_d, arg_new, arg_bor, arg_lent, arg_loc, argAll_nil, sems_nil, sems_cons, kEs_a, kPut_a, sem_bin, kBin_a, kBin2_a, sem_neg, kNeg_a, negK_i, truR_b, truR_i, truR_l, truR_t, truR_n, sem_nt, kNot_a, kNot2_a, sem_an, sem_oo, kAn_a, kOo_a, anS_t, anS_f, ooS_t, ooS_f, sem_cmp, kCmp_a, kCmp2_a, cmpK_lt, cmpK_le, cmpK_gt, cmpK_ge, sem_chn, kChn_a, kChn2_a, kChn3_a, chS_t, chS_f, sem_ite, kIte_a, kIte2_a, selE_t, selE_f, sem_tup, sem_lst, kTup_a, kLst_a, pyAll_nil, pyAll_cons, sem_idx, kIdx_a, kIdx2_a, idxK_l, idxK_t, sem_slc, kSlc_a, kSlc2_a, kSlc3_a, slK_l, slK_t, kPart_n, kPart_i, sem_rev, kRev_a, revD_l, revD_t, sem_cal, kCal_a, calR_s, argAll_c, sem_bif, kBif_a, bifR_s, sem_mth, kMth_a, kMth2_a, mthR_s, idxK_s, rdAll_nil, rdAll_c, bif_len_l, bif_len_t, bif_tup_l, bif_tup_t, bif_lst_l, bif_lst_t, bif_len_s, bif_str_s, bif_repr, sem_isi, kIsi_a, add_ii, sub_ii, mul_ii, mul_ti, fdiv_ii, mod_ii, pow_ii, add_tt, add_ll, Ss_nil, Ss_cons, kSs_n, kSs_r, Ss_frz, frzR_nil, frzR_cons, frz1_own, frz1_d, S_set, kSet_pd, kSet_pn, kSet_pl, kSet_pb, kSet_o, kSet_c, S_unp, kUnp_a, unpR_s, setT_2, setT_3, S_exp, kExp_a, S_ret, kRet_d, kRet_n, kRet_l, S_rtv, rtvR_o, S_ite, kIf_a, kIf2_a, selS_t, selS_f, chgR_o, chgR_l, ownR_s, locR_s, appF_l, extF_l, subF_l, mutR_o, mutR_l, S_sub, kSub_a, subM_t, kSub2_a, subR_s, S_app, appM_t, kApp_a, appR_s, stepF_a, setR_s, setT_nm, S_for, kFor_a, F_of, kItF_dl, kItF_dt, kItF_ds, kItF_n, kItF_b, I_of, kItI_dl, kItI_dt, kItI_ds, kItI_n, kItI_b, kItI_l, I_rng, F_rng, kRng_a, I_rng2, F_rng2, kRg2_a, kRg3_a, sem_lc, kLc_a, kLc2_a, stepC_nm, wipeR_n, wipeR_c, kCs_a, selC_t, selC_f, kElt_d, kElt_n, Cs_nil, Cs_cons, kC1_a, kC2_a, csS_t, csS_f, csS_n, lv_d, lv_n, lv_x, Res.bind_ok, Res.ofO_some, Res.nox_ok, Option.bind_some, Option.map_some, List.getElem?_cons_zero, List.getElem?_cons_succ, List.set_cons_zero, List.set_cons_succ, f2, isi_of (.tuple (y :: ys)) .tuple true rfl, Bool.not_true, e1, e2, e3, Bool.not_false, seatB, Bool.false_and, List.take_length]
theorem in5 (n : Int) : inD (.int n) (.tuple [.int 1, .int 2, .int 3, .int 4, .int 5]) = some (decide (1 ≤ n ∧ n ≤ 5)) := by
  have e1 : SeqAt.shaped (.int n) = true := rfl
  have e2 : SeqAt.shaped (.tuple [.int 1, .int 2, .int 3, .int 4, .int 5]) = true := shp_tI [1, 2, 3, 4, 5]
  rw [show inD (.int n) (.tuple [.int 1, .int 2, .int 3, .int 4, .int 5]) = (if (SeqAt.shaped (.int n) && SeqAt.shaped (.tuple [.int 1, .int 2, .int 3, .int 4, .int 5])) = true then some ([PyData.int 1, .int 2, .int 3, .int 4, .int 5].any fun z => PyData.eqv z (.int n)) else none) from rfl, e1, e2, Bool.and_true, if_pos rfl]
  congr 1
  simp only [List.any_cons, List.any_nil, PyData.eqv, Bool.or_false]
  rw [Bool.eq_iff_iff]
  simp only [Bool.or_eq_true, beq_iff_eq, decide_eq_true_eq]
  omega
theorem cmp_notin (x y : PyData) : cmpK .notin x y = toB ((inD x y).map (!·)) := rfl
theorem five_le {a b c d e : PyData} : ([a, b, c, d, e].length ≤ lineN) = True := eq_true (le_line (Nat.le_refl 5) (by decide))
theorem nil_le : (([] : List PyData).length ≤ lineN) = True := eq_true (le_line (Nat.zero_le 5) (by decide))
def gW (lo hi : Int) (y : PyData) : Option PyData := if upB y lo hi = true then none else some y
theorem gW_all (lo hi : Int) (ys : List PyData) : (ys.filterMap (gW lo hi)).isEmpty = ys.all fun z => upB z lo hi := by
  induction ys with
  | nil => rfl
  | cons y ys ih =>
    rw [List.filterMap_cons, List.all_cons, ← ih]
    unfold gW
    cases upB y lo hi <;> rfl
theorem lseat_ok {Φ : Phi} (H : CalH Φ) {x : PyData} {st : Stt} (h : Th x) : leaveW st.length (semSs Φ f11.body [some (.d x), none] st) = .ok (.d (.bool (seatB x))) st := by
  cases x with
  | dict _ => have := h.noD; cases this
  | int i => simp -implicitDefEqProofs only [sem_var, varR_d, varR_own, varR_bor, varR_loc, sem_con, sem_glo, rdk1_s, rdk2_s, rd_d, rd_new, rd_bor, rd_lent, rd_loc, dat_lst, py_d, py_new, arg_d, arg_new, arg_bor, arg_lent, arg_loc, argAll_nil, sems_nil, sems_cons, kEs_a, kPut_a, sem_bin, kBin_a, kBin2_a, sem_neg, kNeg_a, negK_i, truR_b, truR_i, truR_l, truR_t, truR_n, sem_nt, kNot_a, kNot2_a, sem_an, sem_oo, kAn_a, kOo_a, anS_t, anS_f, ooS_t, ooS_f, sem_cmp, kCmp_a, kCmp2_a, cmpK_lt, cmpK_le, cmpK_gt, cmpK_ge, sem_chn, kChn_a, kChn2_a, kChn3_a, chS_t, chS_f, sem_ite, kIte_a, kIte2_a, selE_t, selE_f, sem_tup, sem_lst, kTup_a, kLst_a, pyAll_nil, pyAll_cons, sem_idx, kIdx_a, kIdx2_a, idxK_l, idxK_t, sem_slc, kSlc_a, kSlc2_a, kSlc3_a, slK_l, slK_t, kPart_n, kPart_i, sem_rev, kRev_a, revD_l, revD_t, sem_cal, kCal_a, calR_s, argAll_c, sem_bif, kBif_a, bifR_s, sem_mth, kMth_a, kMth2_a, mthR_s, idxK_s, rdAll_nil, rdAll_c, bif_len_l, bif_len_t, bif_tup_l, bif_tup_t, bif_lst_l, bif_lst_t, bif_len_s, bif_str_s, bif_repr, sem_isi, kIsi_a, add_ii, sub_ii, mul_ii, mul_ti, fdiv_ii, mod_ii, pow_ii, add_tt, add_ll, Ss_nil, Ss_cons, kSs_n, kSs_r, Ss_frz, frzR_nil, frzR_cons, frz1_own, frz1_d, S_set, kSet_pd, kSet_pn, kSet_pl, kSet_pb, kSet_o, kSet_c, S_unp, kUnp_a, unpR_s, setT_2, setT_3, S_exp, kExp_a, S_ret, kRet_d, kRet_n, kRet_l, S_rtv, rtvR_o, S_ite, kIf_a, kIf2_a, selS_t, selS_f, chgR_o, chgR_l, ownR_s, locR_s, appF_l, extF_l, subF_l, mutR_o, mutR_l, S_sub, kSub_a, subM_t, kSub2_a, subR_s, S_app, appM_t, kApp_a, appR_s, stepF_a, setR_s, setT_nm, S_for, kFor_a, F_of, kItF_dl, kItF_dt, kItF_ds, kItF_n, kItF_b, I_of, kItI_dl, kItI_dt, kItI_ds, kItI_n, kItI_b, kItI_l, I_rng, F_rng, kRng_a, I_rng2, F_rng2, kRg2_a, kRg3_a, sem_lc, kLc_a, kLc2_a, stepC_nm, wipeR_n, wipeR_c, kCs_a, selC_t, selC_f, kElt_d, kElt_n, Cs_nil, Cs_cons, kC1_a, kC2_a, csS_t, csS_f, csS_n, lv_d, lv_n, lv_x, Res.bind_ok, Res.ofO_some, Res.nox_ok, Option.bind_some, Option.map_some, List.getElem?_cons_zero, List.getElem?_cons_succ, List.set_cons_zero, List.set_cons_succ, f11, isi_of (.int i) .tuple false rfl, Bool.not_false, seatB, List.take_length]
  | bool i => simp -implicitDefEqProofs only [sem_var, varR_d, varR_own, varR_bor, varR_loc, sem_con, sem_glo, rdk1_s, rdk2_s, rd_d, rd_new, rd_bor, rd_lent, rd_loc, dat_lst, py_d, py_new, arg_d, arg_new, arg_bor, arg_lent, arg_loc, argAll_nil, sems_nil, sems_cons, kEs_a, kPut_a, sem_bin, kBin_a, kBin2_a, sem_neg, kNeg_a, negK_i, truR_b, truR_i, truR_l, truR_t, truR_n, sem_nt, kNot_a, kNot2_a, sem_an, sem_oo, kAn_a, kOo_a, anS_t, anS_f, ooS_t, ooS_f, sem_cmp, kCmp_a, kCmp2_a, cmpK_lt, cmpK_le, cmpK_gt, cmpK_ge, sem_chn, kChn_a, kChn2_a, kChn3_a, chS_t, chS_f, sem_ite, kIte_a, kIte2_a, selE_t, selE_f, sem_tup, sem_lst, kTup_a, kLst_a, pyAll_nil, pyAll_cons, sem_idx, kIdx_a, kIdx2_a, idxK_l, idxK_t, sem_slc, kSlc_a, kSlc2_a, kSlc3_a, slK_l, slK_t, kPart_n, kPart_i, sem_rev, kRev_a, revD_l, revD_t, sem_cal, kCal_a, calR_s, argAll_c, sem_bif, kBif_a, bifR_s, sem_mth, kMth_a, kMth2_a, mthR_s, idxK_s, rdAll_nil, rdAll_c, bif_len_l, bif_len_t, bif_tup_l, bif_tup_t, bif_lst_l, bif_lst_t, bif_len_s, bif_str_s, bif_repr, sem_isi, kIsi_a, add_ii, sub_ii, mul_ii, mul_ti, fdiv_ii, mod_ii, pow_ii, add_tt, add_ll, Ss_nil, Ss_cons, kSs_n, kSs_r, Ss_frz, frzR_nil, frzR_cons, frz1_own, frz1_d, S_set, kSet_pd, kSet_pn, kSet_pl, kSet_pb, kSet_o, kSet_c, S_unp, kUnp_a, unpR_s, setT_2, setT_3, S_exp, kExp_a, S_ret, kRet_d, kRet_n, kRet_l, S_rtv, rtvR_o, S_ite, kIf_a, kIf2_a, selS_t, selS_f, chgR_o, chgR_l, ownR_s, locR_s, appF_l, extF_l, subF_l, mutR_o, mutR_l, S_sub, kSub_a, subM_t, kSub2_a, subR_s, S_app, appM_t, kApp_a, appR_s, stepF_a, setR_s, setT_nm, S_for, kFor_a, F_of, kItF_dl, kItF_dt, kItF_ds, kItF_n, kItF_b, I_of, kItI_dl, kItI_dt, kItI_ds, kItI_n, kItI_b, kItI_l, I_rng, F_rng, kRng_a, I_rng2, F_rng2, kRg2_a, kRg3_a, sem_lc, kLc_a, kLc2_a, stepC_nm, wipeR_n, wipeR_c, kCs_a, selC_t, selC_f, kElt_d, kElt_n, Cs_nil, Cs_cons, kC1_a, kC2_a, csS_t, csS_f, csS_n, lv_d, lv_n, lv_x, Res.bind_ok, Res.ofO_some, Res.nox_ok, Option.bind_some, Option.map_some, List.getElem?_cons_zero, List.getElem?_cons_succ, List.set_cons_zero, List.set_cons_succ, f11, isi_of (.bool i) .tuple false rfl, Bool.not_false, seatB, List.take_length]
  | none => simp -implicitDefEqProofs only [sem_var, varR_d, varR_own, varR_bor, varR_loc, sem_con, sem_glo, rdk1_s, rdk2_s, rd_d, rd_new, rd_bor, rd_lent, rd_loc, dat_lst, py_d, py_new, arg_d, arg_new, arg_bor, arg_lent, arg_loc, argAll_nil, sems_nil, sems_cons, kEs_a, kPut_a, sem_bin, kBin_a, kBin2_a, sem_neg, kNeg_a, negK_i, truR_b, truR_i, truR_l, truR_t, truR_n, sem_nt, kNot_a, kNot2_a, sem_an, sem_oo, kAn_a, kOo_a, anS_t, anS_f, ooS_t, ooS_f, sem_cmp, kCmp_a, kCmp2_a, cmpK_lt, cmpK_le, cmpK_gt, cmpK_ge, sem_chn, kChn_a, kChn2_a, kChn3_a, chS_t, chS_f, sem_ite, kIte_a, kIte2_a, selE_t, selE_f, sem_tup, sem_lst, kTup_a, kLst_a, pyAll_nil, pyAll_cons, sem_idx, kIdx_a, kIdx2_a, idxK_l, idxK_t, sem_slc, kSlc_a, kSlc2_a, kSlc3_a, slK_l, slK_t, kPart_n, kPart_i, sem_rev, kRev_a, revD_l, revD_t, sem_cal, kCal_a, calR_s, argAll_c, sem_bif, kBif_a, bifR_s, sem_mth, kMth_a, kMth2_a, mthR_s, idxK_s, rdAll_nil, rdAll_c, bif_len_l, bif_len_t, bif_tup_l, bif_tup_t, bif_lst_l, bif_lst_t, bif_len_s, bif_str_s, bif_repr, sem_isi, kIsi_a, add_ii, sub_ii, mul_ii, mul_ti, fdiv_ii, mod_ii, pow_ii, add_tt, add_ll, Ss_nil, Ss_cons, kSs_n, kSs_r, Ss_frz, frzR_nil, frzR_cons, frz1_own, frz1_d, S_set, kSet_pd, kSet_pn, kSet_pl, kSet_pb, kSet_o, kSet_c, S_unp, kUnp_a, unpR_s, setT_2, setT_3, S_exp, kExp_a, S_ret, kRet_d, kRet_n, kRet_l, S_rtv, rtvR_o, S_ite, kIf_a, kIf2_a, selS_t, selS_f, chgR_o, chgR_l, ownR_s, locR_s, appF_l, extF_l, subF_l, mutR_o, mutR_l, S_sub, kSub_a, subM_t, kSub2_a, subR_s, S_app, appM_t, kApp_a, appR_s, stepF_a, setR_s, setT_nm, S_for, kFor_a, F_of, kItF_dl, kItF_dt, kItF_ds, kItF_n, kItF_b, I_of, kItI_dl, kItI_dt, kItI_ds, kItI_n, kItI_b, kItI_l, I_rng, F_rng, kRng_a, I_rng2, F_rng2, kRg2_a, kRg3_a, sem_lc, kLc_a, kLc2_a, stepC_nm, wipeR_n, wipeR_c, kCs_a, selC_t, selC_f, kElt_d, kElt_n, Cs_nil, Cs_cons, kC1_a, kC2_a, csS_t, csS_f, csS_n, lv_d, lv_n, lv_x, Res.bind_ok, Res.ofO_some, Res.nox_ok, Option.bind_some, Option.map_some, List.getElem?_cons_zero, List.getElem?_cons_succ, List.set_cons_zero, List.set_cons_succ, f11, isi_of .none .tuple false rfl, Bool.not_false, seatB, List.take_length]
  | str i => simp -implicitDefEqProofs only [sem_var, varR_d, varR_own, varR_bor, varR_loc, sem_con, sem_glo, rdk1_s, rdk2_s, rd_d, rd_new, rd_bor, rd_lent, rd_loc, dat_lst, py_d, py_new, arg_d, arg_new, arg_bor, arg_lent, arg_loc, argAll_nil, sems_nil, sems_cons, kEs_a, kPut_a, sem_bin, kBin_a, kBin2_a, sem_neg, kNeg_a, negK_i, truR_b, truR_i, truR_l, truR_t, truR_n, sem_nt, kNot_a, kNot2_a, sem_an, sem_oo, kAn_a, kOo_a, anS_t, anS_f, ooS_t, ooS_f, sem_cmp, kCmp_a, kCmp2_a, cmpK_lt, cmpK_le, cmpK_gt, cmpK_ge, sem_chn, kChn_a, kChn2_a, kChn3_a, chS_t, chS_f, sem_ite, kIte_a, kIte2_a, selE_t, selE_f, sem_tup, sem_lst, kTup_a, kLst_a, pyAll_nil, pyAll_cons, sem_idx, kIdx_a, kIdx2_a, idxK_l, idxK_t, sem_slc, kSlc_a, kSlc2_a, kSlc3_a, slK_l, slK_t, kPart_n, kPart_i, sem_rev, kRev_a, revD_l, revD_t, sem_cal, kCal_a, calR_s, argAll_c, sem_bif, kBif_a, bifR_s, sem_mth, kMth_a, kMth2_a, mthR_s, idxK_s, rdAll_nil, rdAll_c, bif_len_l, bif_len_t, bif_tup_l, bif_tup_t, bif_lst_l, bif_lst_t, bif_len_s, bif_str_s, bif_repr, sem_isi, kIsi_a, add_ii, sub_ii, mul_ii, mul_ti, fdiv_ii, mod_ii, pow_ii, add_tt, add_ll, Ss_nil, Ss_cons, kSs_n, kSs_r, Ss_frz, frzR_nil, frzR_cons, frz1_own, frz1_d, S_set, kSet_pd, kSet_pn, kSet_pl, kSet_pb, kSet_o, kSet_c, S_unp, kUnp_a, unpR_s, setT_2, setT_3, S_exp, kExp_a, S_ret, kRet_d, kRet_n, kRet_l, S_rtv, rtvR_o, S_ite, kIf_a, kIf2_a, selS_t, selS_f, chgR_o, chgR_l, ownR_s, locR_s, appF_l, extF_l, subF_l, mutR_o, mutR_l, S_sub, kSub_a, subM_t, kSub2_a, subR_s, S_app, appM_t, kApp_a, appR_s, stepF_a, setR_s, setT_nm, S_for, kFor_a, F_of, kItF_dl, kItF_dt, kItF_ds, kItF_n, kItF_b, I_of, kItI_dl, kItI_dt, kItI_ds, kItI_n, kItI_b, kItI_l, I_rng, F_rng, kRng_a, I_rng2, F_rng2, kRg2_a, kRg3_a, sem_lc, kLc_a, kLc2_a, stepC_nm, wipeR_n, wipeR_c, kCs_a, selC_t, selC_f, kElt_d, kElt_n, Cs_nil, Cs_cons, kC1_a, kC2_a, csS_t, csS_f, csS_n, lv_d, lv_n, lv_x, Res.bind_ok, Res.ofO_some, Res.nox_ok, Option.bind_some, Option.map_some, List.getElem?_cons_zero, List.getElem?_cons_succ, List.set_cons_zero, List.set_cons_succ, f11, isi_of (.str i) .tuple false rfl, Bool.not_false, seatB, List.take_length]
  | list i => simp -implicitDefEqProofs only [sem_var, varR_d, varR_own, varR_bor, varR_loc, sem_con, sem_glo, rdk1_s, rdk2_s, rd_d, rd_new, rd_bor, rd_lent, rd_loc, dat_lst, py_d, py_new, arg_d, arg_new, arg_bor, arg_lent, arg_loc, argAll_nil, sems_nil, sems_cons, kEs_a, kPut_a, sem_bin, kBin_a, kBin2_a, sem_neg, kNeg_a, negK_i, truR_b, truR_i, truR_l, truR_t, truR_n, sem_nt, kNot_a, kNot2_a, sem_an, sem_oo, kAn_a, kOo_a, anS_t, anS_f, ooS_t, ooS_f, sem_cmp, kCmp_a, kCmp2_a, cmpK_lt, cmpK_le, cmpK_gt, cmpK_ge, sem_chn, kChn_a, kChn2_a, kChn3_a, chS_t, chS_f, sem_ite, kIte_a, kIte2_a, selE_t, selE_f, sem_tup, sem_lst, kTup_a, kLst_a, pyAll_nil, pyAll_cons, sem_idx, kIdx_a, kIdx2_a, idxK_l, idxK_t, sem_slc, kSlc_a, kSlc2_a, kSlc3_a, slK_l, slK_t, kPart_n, kPart_i, sem_rev, kRev_a, revD_l, revD_t, sem_cal, kCal_a, calR_s, argAll_c, sem_bif, kBif_a, bifR_s, sem_mth, kMth_a, kMth2_a, mthR_s, idxK_s, rdAll_nil, rdAll_c, bif_len_l, bif_len_t, bif_tup_l, bif_tup_t, bif_lst_l, bif_lst_t, bif_len_s, bif_str_s, bif_repr, sem_isi, kIsi_a, add_ii, sub_ii, mul_ii, mul_ti, fdiv_ii, mod_ii, pow_ii, add_tt, add_ll, Ss_nil, Ss_cons, kSs_n, kSs_r, Ss_frz, frzR_nil, frzR_cons, frz1_own, frz1_d, S_set, kSet_pd, kSet_pn, kSet_pl, kSet_pb, kSet_o, kSet_c, S_unp, kUnp_a, unpR_s, setT_2, setT_3, S_exp, kExp_a, S_ret, kRet_d, kRet_n, kRet_l, S_rtv, rtvR_o, S_ite, kIf_a, kIf2_a, selS_t, selS_f, chgR_o, chgR_l, ownR_s, locR_s, appF_l, extF_l, subF_l, mutR_o, mutR_l, S_sub, kSub_a, subM_t, kSub2_a, subR_s, S_app, appM_t, kApp_a, appR_s, stepF_a, setR_s, setT_nm, S_for, kFor_a, F_of, kItF_dl, kItF_dt, kItF_ds, kItF_n, kItF_b, I_of, kItI_dl, kItI_dt, kItI_ds, kItI_n, kItI_b, kItI_l, I_rng, F_rng, kRng_a, I_rng2, F_rng2, kRg2_a, kRg3_a, sem_lc, kLc_a, kLc2_a, stepC_nm, wipeR_n, wipeR_c, kCs_a, selC_t, selC_f, kElt_d, kElt_n, Cs_nil, Cs_cons, kC1_a, kC2_a, csS_t, csS_f, csS_n, lv_d, lv_n, lv_x, Res.bind_ok, Res.ofO_some, Res.nox_ok, Option.bind_some, Option.map_some, List.getElem?_cons_zero, List.getElem?_cons_succ, List.set_cons_zero, List.set_cons_succ, f11, isi_of (.list i) .tuple false rfl, Bool.not_false, seatB, List.take_length]
  | tuple xs =>
    cases xs with
    | nil =>
      have e : decide ((1 : Int) ≤ ((([] : List PyData).length : Nat) : Int) ∧ ((([] : List PyData).length : Nat) : Int) ≤ 5) = false := by decide
      simp -implicitDefEqProofs only [sem_var, varR_d, varR_own, varR_bor, varR_loc, sem_con, sem_glo, rdk1_s, rdk2_s, rd_d, rd_new, rd_bor, rd_lent, rd_loc, dat_lst, py_d, py_new, arg_d, arg_new, arg_bor, arg_lent, arg_loc, argAll_nil, sems_nil, sems_cons, kEs_a, kPut_a, sem_bin, kBin_a, kBin2_a, sem_neg, kNeg_a, negK_i, truR_b, truR_i, truR_l, truR_t, truR_n, sem_nt, kNot_a, kNot2_a, sem_an, sem_oo, kAn_a, kOo_a, anS_t, anS_f, ooS_t, ooS_f, sem_cmp, kCmp_a, kCmp2_a, cmpK_lt, cmpK_le, cmpK_gt, cmpK_ge, sem_chn, kChn_a, kChn2_a, kChn3_a, chS_t, chS_f, sem_ite, kIte_a, kIte2_a, selE_t, selE_f, sem_tup, sem_lst, kTup_a, kLst_a, pyAll_nil, pyAll_cons, sem_idx, kIdx_a, kIdx2_a, idxK_l, idxK_t, sem_slc, kSlc_a, kSlc2_a, kSlc3_a, slK_l, slK_t, kPart_n, kPart_i, sem_rev, kRev_a, revD_l, revD_t, sem_cal, kCal_a, calR_s, argAll_c, sem_bif, kBif_a, bifR_s, sem_mth, kMth_a, kMth2_a, mthR_s, idxK_s, rdAll_nil, rdAll_c, bif_len_l, bif_len_t, bif_tup_l, bif_tup_t, bif_lst_l, bif_lst_t, bif_len_s, bif_str_s, bif_repr, sem_isi, kIsi_a, add_ii, sub_ii, mul_ii, mul_ti, fdiv_ii, mod_ii, pow_ii, add_tt, add_ll, Ss_nil, Ss_cons, kSs_n, kSs_r, Ss_frz, frzR_nil, frzR_cons, frz1_own, frz1_d, S_set, kSet_pd, kSet_pn, kSet_pl, kSet_pb, kSet_o, kSet_c, S_unp, kUnp_a, unpR_s, setT_2, setT_3, S_exp, kExp_a, S_ret, kRet_d, kRet_n, kRet_l, S_rtv, rtvR_o, S_ite, kIf_a, kIf2_a, selS_t, selS_f, chgR_o, chgR_l, ownR_s, locR_s, appF_l, extF_l, subF_l, mutR_o, mutR_l, S_sub, kSub_a, subM_t, kSub2_a, subR_s, S_app, appM_t, kApp_a, appR_s, stepF_a, setR_s, setT_nm, S_for, kFor_a, F_of, kItF_dl, kItF_dt, kItF_ds, kItF_n, kItF_b, I_of, kItI_dl, kItI_dt, kItI_ds, kItI_n, kItI_b, kItI_l, I_rng, F_rng, kRng_a, I_rng2, F_rng2, kRg2_a, kRg3_a, sem_lc, kLc_a, kLc2_a, stepC_nm, wipeR_n, wipeR_c, kCs_a, selC_t, selC_f, kElt_d, kElt_n, Cs_nil, Cs_cons, kC1_a, kC2_a, csS_t, csS_f, csS_n, lv_d, lv_n, lv_x, Res.bind_ok, Res.ofO_some, Res.nox_ok, Option.bind_some, Option.map_some, List.getElem?_cons_zero, List.getElem?_cons_succ, List.set_cons_zero, List.set_cons_succ, f11, isi_of (.tuple []) .tuple true rfl, Bool.not_true, tupK, five_le, if_true, cmp_notin, in5, e, toB_s, Bool.not_false, seatB, List.take_length]
    | cons y ys =>
      have hy := h.items y List.mem_cons_self
      have hys : ∀ z ∈ ys, Th z := fun z hz => h.items z (List.mem_cons_of_mem _ hz)
      by_cases h5 : ys.length < 5
      · have e2 : decide ((1 : Int) ≤ (((y :: ys).length : Nat) : Int) ∧ (((y :: ys).length : Nat) : Int) ≤ 5) = true := decide_eq_true (by rw [List.length_cons]; omega)
        have e3 : decide (ys.length < 5) = true := decide_eq_true h5
        have eu := H.lwh y 0 3 st hy.noD
        cases hu : upB y 0 3 with
        | false =>
          rw [hu] at eu
          simp -implicitDefEqProofs only [sem_var, varR_d, varR_own, varR_bor, varR_loc, sem_con, sem_glo, rdk1_s, rdk2_s, rd_d, rd_new, rd_bor, rd_lent, rd_loc, dat_lst, py_d, py_new, arg_d, arg_new, arg_bor, arg_lent, arg_loc, argAll_nil, sems_nil, sems_cons, kEs_a, kPut_a, sem_bin, kBin_a, kBin2_a, sem_neg, kNeg_a, negK_i, truR_b, truR_i, truR_l, truR_t, truR_n, sem_nt, kNot_a, kNot2_a, sem_an, sem_oo, kAn_a, kOo_a, anS_t, anS_f, ooS_t, ooS_f, sem_cmp, kCmp_a, kCmp2_a, cmpK_lt, cmpK_le, cmpK_gt, cmpK_ge, sem_chn, kChn_a, kChn2_a, kChn3_a, chS_t, chS_f, sem_ite, kIte_a, kIte2_a, selE_t, selE_f, sem_tup, sem_lst, kTup_a, kLst_a, pyAll_nil, pyAll_cons, sem_idx, kIdx_a, kIdx2_a, idxK_l, idxK_t, sem_slc, kSlc_a, kSlc2_a, kSlc3_a, slK_l, slK_t, kPart_n, kPart_i, sem_rev, kRev_a, revD_l, revD_t, sem_cal, kCal_a, calR_s, argAll_c, sem_bif, kBif_a, bifR_s, sem_mth, kMth_a, kMth2_a, mthR_s, idxK_s, rdAll_nil, rdAll_c, bif_len_l, bif_len_t, bif_tup_l, bif_tup_t, bif_lst_l, bif_lst_t, bif_len_s, bif_str_s, bif_repr, sem_isi, kIsi_a, add_ii, sub_ii, mul_ii, mul_ti, fdiv_ii, mod_ii, pow_ii, add_tt, add_ll, Ss_nil, Ss_cons, kSs_n, kSs_r, Ss_frz, frzR_nil, frzR_cons, frz1_own, frz1_d, S_set, kSet_pd, kSet_pn, kSet_pl, kSet_pb, kSet_o, kSet_c, S_unp, kUnp_a, unpR_s, setT_2, setT_3, S_exp, kExp_a, S_ret, kRet_d, kRet_n, kRet_l, S_rtv, rtvR_o, S_ite, kIf_a, kIf2_a, selS_t, selS_f, chgR_o, chgR_l, ownR_s, locR_s, appF_l, extF_l, subF_l, mutR_o, mutR_l, S_sub, kSub_a, subM_t, kSub2_a, subR_s, S_app, appM_t, kApp_a, appR_s, stepF_a, setR_s, setT_nm, S_for, kFor_a, F_of, kItF_dl, kItF_dt, kItF_ds, kItF_n, kItF_b, I_of, kItI_dl, kItI_dt, kItI_ds, kItI_n, kItI_b, kItI_l, I_rng, F_rng, kRng_a, I_rng2, F_rng2, kRg2_a, kRg3_a, sem_lc, kLc_a, kLc2_a, stepC_nm, wipeR_n, wipeR_c, kCs_a, selC_t, selC_f, kElt_d, kElt_n, Cs_nil, Cs_cons, kC1_a, kC2_a, csS_t, csS_f, csS_n, lv_d, lv_n, lv_x, Res.bind_ok, Res.ofO_some, Res.nox_ok, Option.bind_some, Option.map_some, List.getElem?_cons_zero, List.getElem?_cons_succ, List.set_cons_zero, List.set_cons_succ, f11, isi_of (.tuple (y :: ys)) .tuple true rfl, Bool.not_true, tupK, five_le, if_true, cmp_notin, in5, e2, toB_s, Bool.not_false, seatB, atI_0, eu, hu, Bool.false_and, Bool.and_false, List.take_length]
        | true =>
          rw [hu] at eu
          have hc : compL (stepC Φ (.var 1) (.nm 1) (.cons (.nt (.cal "_law_whole" 10 (.cons (.var 1) (.cons (.con (.int 1)) (.cons (.con (.int 99)) .nil))))) .nil) [1] [some (.d (.tuple (y :: ys))), none]) ys st = .ok (ys.filterMap (gW 1 99)) st := by
            refine compL_fm fun z hz => ?_
            have ez := H.lwh z 1 99 st (hys z hz).noD
            unfold gW
            cases hz1 : upB z 1 99 with
            | true =>
              rw [hz1] at ez
              simp -implicitDefEqProofs only [sem_var, varR_d, varR_own, varR_bor, varR_loc, sem_con, sem_glo, rdk1_s, rdk2_s, rd_d, rd_new, rd_bor, rd_lent, rd_loc, dat_lst, py_d, py_new, arg_d, arg_new, arg_bor, arg_lent, arg_loc, argAll_nil, sems_nil, sems_cons, kEs_a, kPut_a, sem_bin, kBin_a, kBin2_a, sem_neg, kNeg_a, negK_i, truR_b, truR_i, truR_l, truR_t, truR_n, sem_nt, kNot_a, kNot2_a, sem_an, sem_oo, kAn_a, kOo_a, anS_t, anS_f, ooS_t, ooS_f, sem_cmp, kCmp_a, kCmp2_a, cmpK_lt, cmpK_le, cmpK_gt, cmpK_ge, sem_chn, kChn_a, kChn2_a, kChn3_a, chS_t, chS_f, sem_ite, kIte_a, kIte2_a, selE_t, selE_f, sem_tup, sem_lst, kTup_a, kLst_a, pyAll_nil, pyAll_cons, sem_idx, kIdx_a, kIdx2_a, idxK_l, idxK_t, sem_slc, kSlc_a, kSlc2_a, kSlc3_a, slK_l, slK_t, kPart_n, kPart_i, sem_rev, kRev_a, revD_l, revD_t, sem_cal, kCal_a, calR_s, argAll_c, sem_bif, kBif_a, bifR_s, sem_mth, kMth_a, kMth2_a, mthR_s, idxK_s, rdAll_nil, rdAll_c, bif_len_l, bif_len_t, bif_tup_l, bif_tup_t, bif_lst_l, bif_lst_t, bif_len_s, bif_str_s, bif_repr, sem_isi, kIsi_a, add_ii, sub_ii, mul_ii, mul_ti, fdiv_ii, mod_ii, pow_ii, add_tt, add_ll, Ss_nil, Ss_cons, kSs_n, kSs_r, Ss_frz, frzR_nil, frzR_cons, frz1_own, frz1_d, S_set, kSet_pd, kSet_pn, kSet_pl, kSet_pb, kSet_o, kSet_c, S_unp, kUnp_a, unpR_s, setT_2, setT_3, S_exp, kExp_a, S_ret, kRet_d, kRet_n, kRet_l, S_rtv, rtvR_o, S_ite, kIf_a, kIf2_a, selS_t, selS_f, chgR_o, chgR_l, ownR_s, locR_s, appF_l, extF_l, subF_l, mutR_o, mutR_l, S_sub, kSub_a, subM_t, kSub2_a, subR_s, S_app, appM_t, kApp_a, appR_s, stepF_a, setR_s, setT_nm, S_for, kFor_a, F_of, kItF_dl, kItF_dt, kItF_ds, kItF_n, kItF_b, I_of, kItI_dl, kItI_dt, kItI_ds, kItI_n, kItI_b, kItI_l, I_rng, F_rng, kRng_a, I_rng2, F_rng2, kRg2_a, kRg3_a, sem_lc, kLc_a, kLc2_a, stepC_nm, wipeR_n, wipeR_c, kCs_a, selC_t, selC_f, kElt_d, kElt_n, Cs_nil, Cs_cons, kC1_a, kC2_a, csS_t, csS_f, csS_n, lv_d, lv_n, lv_x, Res.bind_ok, Res.ofO_some, Res.nox_ok, Option.bind_some, Option.map_some, List.getElem?_cons_zero, List.getElem?_cons_succ, List.set_cons_zero, List.set_cons_succ, ez, Bool.not_true, if_true]
            | false =>
              rw [hz1] at ez
              simp -implicitDefEqProofs only [sem_var, varR_d, varR_own, varR_bor, varR_loc, sem_con, sem_glo, rdk1_s, rdk2_s, rd_d, rd_new, rd_bor, rd_lent, rd_loc, dat_lst, py_d, py_new, arg_d, arg_new, arg_bor, arg_lent, arg_loc, argAll_nil, sems_nil, sems_cons, kEs_a, kPut_a, sem_bin, kBin_a, kBin2_a, sem_neg, kNeg_a, negK_i, truR_b, truR_i, truR_l, truR_t, truR_n, sem_nt, kNot_a, kNot2_a, sem_an, sem_oo, kAn_a, kOo_a, anS_t, anS_f, ooS_t, ooS_f, sem_cmp, kCmp_a, kCmp2_a, cmpK_lt, cmpK_le, cmpK_gt, cmpK_ge, sem_chn, kChn_a, kChn2_a, kChn3_a, chS_t, chS_f, sem_ite, kIte_a, kIte2_a, selE_t, selE_f, sem_tup, sem_lst, kTup_a, kLst_a, pyAll_nil, pyAll_cons, sem_idx, kIdx_a, kIdx2_a, idxK_l, idxK_t, sem_slc, kSlc_a, kSlc2_a, kSlc3_a, slK_l, slK_t, kPart_n, kPart_i, sem_rev, kRev_a, revD_l, revD_t, sem_cal, kCal_a, calR_s, argAll_c, sem_bif, kBif_a, bifR_s, sem_mth, kMth_a, kMth2_a, mthR_s, idxK_s, rdAll_nil, rdAll_c, bif_len_l, bif_len_t, bif_tup_l, bif_tup_t, bif_lst_l, bif_lst_t, bif_len_s, bif_str_s, bif_repr, sem_isi, kIsi_a, add_ii, sub_ii, mul_ii, mul_ti, fdiv_ii, mod_ii, pow_ii, add_tt, add_ll, Ss_nil, Ss_cons, kSs_n, kSs_r, Ss_frz, frzR_nil, frzR_cons, frz1_own, frz1_d, S_set, kSet_pd, kSet_pn, kSet_pl, kSet_pb, kSet_o, kSet_c, S_unp, kUnp_a, unpR_s, setT_2, setT_3, S_exp, kExp_a, S_ret, kRet_d, kRet_n, kRet_l, S_rtv, rtvR_o, S_ite, kIf_a, kIf2_a, selS_t, selS_f, chgR_o, chgR_l, ownR_s, locR_s, appF_l, extF_l, subF_l, mutR_o, mutR_l, S_sub, kSub_a, subM_t, kSub2_a, subR_s, S_app, appM_t, kApp_a, appR_s, stepF_a, setR_s, setT_nm, S_for, kFor_a, F_of, kItF_dl, kItF_dt, kItF_ds, kItF_n, kItF_b, I_of, kItI_dl, kItI_dt, kItI_ds, kItI_n, kItI_b, kItI_l, I_rng, F_rng, kRng_a, I_rng2, F_rng2, kRg2_a, kRg3_a, sem_lc, kLc_a, kLc2_a, stepC_nm, wipeR_n, wipeR_c, kCs_a, selC_t, selC_f, kElt_d, kElt_n, Cs_nil, Cs_cons, kC1_a, kC2_a, csS_t, csS_f, csS_n, lv_d, lv_n, lv_x, Res.bind_ok, Res.ofO_some, Res.nox_ok, Option.bind_some, Option.map_some, List.getElem?_cons_zero, List.getElem?_cons_succ, List.set_cons_zero, List.set_cons_succ, ez, Bool.not_false, Bool.false_eq_true, if_false]
          have hl : ((ys.filterMap (gW 1 99)).length ≤ lineN) = True := eq_true (le_line (b := 5) (Nat.le_trans (List.length_filterMap_le _ _) (by omega)) (by decide))
          have he : eqD (.list (ys.filterMap (gW 1 99))) (.list []) = some (ys.all fun z => upB z 1 99) := by
            rw [eqD_l0 fun z hz => ?_, gW_all]
            obtain ⟨w, hw, hg⟩ := List.mem_filterMap.mp hz
            unfold gW at hg
            split at hg
            · cases hg
            · cases hg; exact hys _ hw
          simp -implicitDefEqProofs only [sem_var, varR_d, varR_own, varR_bor, varR_loc, sem_con, sem_glo, rdk1_s, rdk2_s, rd_d, rd_new, rd_bor, rd_lent, rd_loc, dat_lst, py_d, py_new, arg_d, arg_new, arg_bor, arg_lent, arg_loc, argAll_nil, sems_nil, sems_cons, kEs_a, kPut_a, sem_bin, kBin_a, kBin2_a, sem_neg, kNeg_a, negK_i, truR_b, truR_i, truR_l, truR_t, truR_n, sem_nt, kNot_a, kNot2_a, sem_an, sem_oo, kAn_a, kOo_a, anS_t, anS_f, ooS_t, ooS_f, sem_cmp, kCmp_a, kCmp2_a, cmpK_lt, cmpK_le, cmpK_gt, cmpK_ge, sem_chn, kChn_a, kChn2_a, kChn3_a, chS_t, chS_f, sem_ite, kIte_a, kIte2_a, selE_t, selE_f, sem_tup, sem_lst, kTup_a, kLst_a, pyAll_nil, pyAll_cons, sem_idx, kIdx_a, kIdx2_a, idxK_l, idxK_t, sem_slc, kSlc_a, kSlc2_a, kSlc3_a, slK_l, slK_t, kPart_n, kPart_i, sem_rev, kRev_a, revD_l, revD_t, sem_cal, kCal_a, calR_s, argAll_c, sem_bif, kBif_a, bifR_s, sem_mth, kMth_a, kMth2_a, mthR_s, idxK_s, rdAll_nil, rdAll_c, bif_len_l, bif_len_t, bif_tup_l, bif_tup_t, bif_lst_l, bif_lst_t, bif_len_s, bif_str_s, bif_repr, sem_isi, kIsi_a, add_ii, sub_ii, mul_ii, mul_ti, fdiv_ii, mod_ii, pow_ii, add_tt, add_ll, Ss_nil, Ss_cons, kSs_n, kSs_r, Ss_frz, frzR_nil, frzR_cons, frz1_own, frz1_d, S_set, kSet_pd, kSet_pn, kSet_pl, kSet_pb, kSet_o, kSet_c, S_unp, kUnp_a, unpR_s, setT_2, setT_3, S_exp, kExp_a, S_ret, kRet_d, kRet_n, kRet_l, S_rtv, rtvR_o, S_ite, kIf_a, kIf2_a, selS_t, selS_f, chgR_o, chgR_l, ownR_s, locR_s, appF_l, extF_l, subF_l, mutR_o, mutR_l, S_sub, kSub_a, subM_t, kSub2_a, subR_s, S_app, appM_t, kApp_a, appR_s, stepF_a, setR_s, setT_nm, S_for, kFor_a, F_of, kItF_dl, kItF_dt, kItF_ds, kItF_n, kItF_b, I_of, kItI_dl, kItI_dt, kItI_ds, kItI_n, kItI_b, kItI_l, I_rng, F_rng, kRng_a, I_rng2, F_rng2, kRg2_a, kRg3_a, sem_lc, kLc_a, kLc2_a, stepC_nm, wipeR_n, wipeR_c, kCs_a, selC_t, selC_f, kElt_d, kElt_n, Cs_nil, Cs_cons, kC1_a, kC2_a, csS_t, csS_f, csS_n, lv_d, lv_n, lv_x, Res.bind_ok, Res.ofO_some, Res.nox_ok, Option.bind_some, Option.map_some, List.getElem?_cons_zero, List.getElem?_cons_succ, List.set_cons_zero, List.set_cons_succ, f11, isi_of (.tuple (y :: ys)) .tuple true rfl, Bool.not_true, tupK, lstK, pyAll_nil, five_le, nil_le, if_true, cmp_notin, cmp_eq, in5, e2, e3, toB_s, Bool.not_false, seatB, atI_0, eu, hu, Bool.true_and, cut1, hc, hl, he, List.take_length]
      · have e2 : decide ((1 : Int) ≤ (((y :: ys).length : Nat) : Int) ∧ (((y :: ys).length : Nat) : Int) ≤ 5) = false := decide_eq_false (by rw [List.length_cons]; omega)
        have e3 : decide (ys.length < 5) = false := decide_eq_false h5
        simp -implicitDefEqProofs only [sem_var, varR_d, varR_own, varR_bor, varR_loc, sem_con, sem_glo, rdk1_s, rdk2_s, rd_d, rd_new, rd_bor, rd_lent, rd_loc, dat_lst, py_d, py_new, arg_d, arg_new, arg_bor, arg_lent, arg_loc, argAll_nil, sems_nil, sems_cons, kEs_a, kPut_a, sem_bin, kBin_a, kBin2_a, sem_neg, kNeg_a, negK_i, truR_b, truR_i, truR_l, truR_t, truR_n, sem_nt, kNot_a, kNot2_a, sem_an, sem_oo, kAn_a, kOo_a, anS_t, anS_f, ooS_t, ooS_f, sem_cmp, kCmp_a, kCmp2_a, cmpK_lt, cmpK_le, cmpK_gt, cmpK_ge, sem_chn, kChn_a, kChn2_a, kChn3_a, chS_t, chS_f, sem_ite, kIte_a, kIte2_a, selE_t, selE_f, sem_tup, sem_lst, kTup_a, kLst_a, pyAll_nil, pyAll_cons, sem_idx, kIdx_a, kIdx2_a, idxK_l, idxK_t, sem_slc, kSlc_a, kSlc2_a, kSlc3_a, slK_l, slK_t, kPart_n, kPart_i, sem_rev, kRev_a, revD_l, revD_t, sem_cal, kCal_a, calR_s, argAll_c, sem_bif, kBif_a, bifR_s, sem_mth, kMth_a, kMth2_a, mthR_s, idxK_s, rdAll_nil, rdAll_c, bif_len_l, bif_len_t, bif_tup_l, bif_tup_t, bif_lst_l, bif_lst_t, bif_len_s, bif_str_s, bif_repr, sem_isi, kIsi_a, add_ii, sub_ii, mul_ii, mul_ti, fdiv_ii, mod_ii, pow_ii, add_tt, add_ll, Ss_nil, Ss_cons, kSs_n, kSs_r, Ss_frz, frzR_nil, frzR_cons, frz1_own, frz1_d, S_set, kSet_pd, kSet_pn, kSet_pl, kSet_pb, kSet_o, kSet_c, S_unp, kUnp_a, unpR_s, setT_2, setT_3, S_exp, kExp_a, S_ret, kRet_d, kRet_n, kRet_l, S_rtv, rtvR_o, S_ite, kIf_a, kIf2_a, selS_t, selS_f, chgR_o, chgR_l, ownR_s, locR_s, appF_l, extF_l, subF_l, mutR_o, mutR_l, S_sub, kSub_a, subM_t, kSub2_a, subR_s, S_app, appM_t, kApp_a, appR_s, stepF_a, setR_s, setT_nm, S_for, kFor_a, F_of, kItF_dl, kItF_dt, kItF_ds, kItF_n, kItF_b, I_of, kItI_dl, kItI_dt, kItI_ds, kItI_n, kItI_b, kItI_l, I_rng, F_rng, kRng_a, I_rng2, F_rng2, kRg2_a, kRg3_a, sem_lc, kLc_a, kLc2_a, stepC_nm, wipeR_n, wipeR_c, kCs_a, selC_t, selC_f, kElt_d, kElt_n, Cs_nil, Cs_cons, kC1_a, kC2_a, csS_t, csS_f, csS_n, lv_d, lv_n, lv_x, Res.bind_ok, Res.ofO_some, Res.nox_ok, Option.bind_some, Option.map_some, List.getElem?_cons_zero, List.getElem?_cons_succ, List.set_cons_zero, List.set_cons_succ, f11, isi_of (.tuple (y :: ys)) .tuple true rfl, Bool.not_true, tupK, five_le, if_true, cmp_notin, in5, e2, toB_s, e3, Bool.not_false, seatB, Bool.false_and, List.take_length]
/-! things and the bent ones -/
def TD (n : Nat) (x : PyData) : Prop := x.canLay0 = true ∧ x.depth ≤ n
theorem TD.up {n m : Nat} {x : PyData} (h : TD n x) (hn : n ≤ m) : TD m x := ⟨h.1, Nat.le_trans h.2 hn⟩
theorem td_int (i : Int) : TD 0 (.int i) := ⟨by simp [PyData.canLay0], by simp [PyData.depth]⟩
theorem td_bool (i : Bool) : TD 0 (.bool i) := ⟨by simp [PyData.canLay0], by simp [PyData.depth]⟩
theorem td_none : TD 0 .none := ⟨by simp [PyData.canLay0], by simp [PyData.depth]⟩
theorem strOk_of (s : String) : PyData.strOk (Str.ofString s) = true := by
  unfold PyData.strOk
  rw [Array.all_eq_true']
  intro x hx
  have hx : x ∈ (Str.ofString s).cps.toList := by simpa using hx
  rw [signs_ofString] at hx
  obtain ⟨c, _, rfl⟩ := List.mem_map.mp hx
  refine decide_eq_true ?_
  have := c.valid
  rcases this with h | ⟨_, h⟩
  · exact Nat.lt_of_lt_of_le h (by decide)
  · exact h
theorem td_str (s : String) : TD 0 (.str (Str.ofString s)) := ⟨by simp only [PyData.canLay0]; exact strOk_of s, by simp [PyData.depth]⟩
theorem td_tup {n : Nat} {xs : List PyData} (h : ∀ x ∈ xs, TD n x) : TD (n + 1) (.tuple xs) := ⟨by simp only [PyData.canLay0]; exact (lay_all xs).mpr fun x hx => (h x hx).1, by simp only [PyData.depth]; have := (dep_all n xs).mpr fun x hx => (h x hx).2; omega⟩
theorem td_lst {n : Nat} {xs : List PyData} (h : ∀ x ∈ xs, TD n x) : TD (n + 1) (.list xs) := ⟨by simp only [PyData.canLay0]; exact (lay_all xs).mpr fun x hx => (h x hx).1, by simp only [PyData.depth]; have := (dep_all n xs).mpr fun x hx => (h x hx).2; omega⟩
theorem cut_sub {xs : List PyData} {lo hi : Option Int} {x : PyData} (h : x ∈ Gm.cutD xs lo hi) : x ∈ xs := List.drop_subset _ _ (List.take_subset _ _ h)
theorem cut_len {xs : List PyData} {lo hi : Option Int} : (Gm.cutD xs lo hi).length ≤ xs.length := by
  unfold Gm.cutD
  rw [List.length_take, List.length_drop]
  omega
theorem t1 (c c' : C) : ([c'] : Stt).take ([c] : Stt).length = [c'] := rfl
theorem n_le {n : Nat} (h : n ≤ 1000) : (n ≤ lineN) = True := eq_true (le_line h (by decide))
theorem small_b {i : Int} (h : i.natAbs ≤ 10 ^ 45) : smallI i = true := by
  refine decide_eq_true ?_
  by_cases h0 : i.natAbs = 0
  · rw [h0]; decide
  · have h2 : i.natAbs < 2 ^ 200 := Nat.lt_of_le_of_lt h (by decide)
    have := (Nat.log2_lt h0).mpr h2
    omega
theorem bif_str_i {i : Int} (h : smallI i = true) : bifD .str [.int i] = some (.d (.str (Str.ofString (toString i)))) := by
  show (strD (.int i)).map W.d = _
  have e : strD (.int i) = some (.str (Str.ofString (toString i))) := by
    show (if smallI i then some (PyData.str (Str.ofString (toString i))) else none) = _
    rw [if_pos h]
  rw [e]
  rfl
/-! bounded things -/
mutual
def bdB (B L : Nat) : PyData → Bool
  | .none => true
  | .bool _ => true
  | .int i => decide (i.natAbs ≤ B)
  | .str x => PyData.strOk x && decide (x.length ≤ 2000)
  | .list xs => decide (xs.length ≤ L) && bdBs B L xs
  | .tuple xs => decide (xs.length ≤ L) && bdBs B L xs
  | .dict _ => false
def bdBs (B L : Nat) : List PyData → Bool
  | [] => true
  | x :: xs => bdB B L x && bdBs B L xs
end
theorem bdBs_iff (B L : Nat) : ∀ xs : List PyData, bdBs B L xs = true ↔ ∀ x ∈ xs, bdB B L x = true
  | [] => by simp [bdBs]
  | x :: xs => by simp [bdBs, bdBs_iff B L xs]
mutual
theorem bd_up {B L B' L' : Nat} (h1 : B ≤ B') (h2 : L ≤ L') : ∀ x : PyData, bdB B L x = true → bdB B' L' x = true
  | .none, _ => by simp [bdB]
  | .bool _, _ => by simp [bdB]
  | .int i, h => by simp only [bdB, decide_eq_true_eq] at h ⊢; omega
  | .str x, h => by simpa [bdB] using h
  | .list xs, h => by
    simp only [bdB, Bool.and_eq_true, decide_eq_true_eq] at h ⊢
    exact ⟨by omega, bds_up h1 h2 xs h.2⟩
  | .tuple xs, h => by
    simp only [bdB, Bool.and_eq_true, decide_eq_true_eq] at h ⊢
    exact ⟨by omega, bds_up h1 h2 xs h.2⟩
  | .dict _, h => by simp [bdB] at h
theorem bds_up {B L B' L' : Nat} (h1 : B ≤ B') (h2 : L ≤ L') : ∀ xs : List PyData, bdBs B L xs = true → bdBs B' L' xs = true
  | [], _ => by simp [bdBs]
  | x :: xs, h => by
    simp only [bdBs, Bool.and_eq_true] at h ⊢
    exact ⟨bd_up h1 h2 x h.1, bds_up h1 h2 xs h.2⟩
end
mutual
theorem bd_lay {B L : Nat} : ∀ x : PyData, bdB B L x = true → x.canLay0 = true
  | .none, _ => by simp [PyData.canLay0]
  | .bool _, _ => by simp [PyData.canLay0]
  | .int i, _ => by simp [PyData.canLay0]
  | .str x, h => by simp only [bdB, Bool.and_eq_true] at h; simp only [PyData.canLay0]; exact h.1
  | .list xs, h => by simp only [bdB, Bool.and_eq_true] at h; simp only [PyData.canLay0]; exact bds_lay xs h.2
  | .tuple xs, h => by simp only [bdB, Bool.and_eq_true] at h; simp only [PyData.canLay0]; exact bds_lay xs h.2
  | .dict _, h => by simp [bdB] at h
theorem bds_lay {B L : Nat} : ∀ xs : List PyData, bdBs B L xs = true → PyData.canLayAll0 xs = true
  | [], _ => by simp [PyData.canLayAll0]
  | x :: xs, h => by
    simp only [bdBs, Bool.and_eq_true] at h
    simp only [PyData.canLayAll0, Bool.and_eq_true]
    exact ⟨bd_lay x h.1, bds_lay xs h.2⟩
end
/-- a thing of bounded ints, lengths, depth -/
def Bd (B L D : Nat) (x : PyData) : Prop := bdB B L x = true ∧ x.depth ≤ D
theorem Bd.up {B L D B' L' D' : Nat} {x : PyData} (h : Bd B L D x) (h1 : B ≤ B') (h2 : L ≤ L') (h3 : D ≤ D') : Bd B' L' D' x := ⟨bd_up h1 h2 x h.1, Nat.le_trans h.2 h3⟩
theorem Bd.th {B L D : Nat} {x : PyData} (h : Bd B L D x) (hD : D ≤ 20) : Th x := ⟨bd_lay x h.1, Nat.le_trans h.2 hD⟩
theorem bd_tup {B L D : Nat} {xs : List PyData} (hl : xs.length ≤ L) (h : ∀ x ∈ xs, Bd B L D x) : Bd B L (D + 1) (.tuple xs) := ⟨by
  simp only [bdB, Bool.and_eq_true, decide_eq_true_eq]
  exact ⟨hl, (bdBs_iff B L xs).mpr fun x hx => (h x hx).1⟩, by
  simp only [PyData.depth]
  have := (dep_all D xs).mpr fun x hx => (h x hx).2
  omega⟩
theorem bd_lst {B L D : Nat} {xs : List PyData} (hl : xs.length ≤ L) (h : ∀ x ∈ xs, Bd B L D x) : Bd B L (D + 1) (.list xs) := ⟨by
  simp only [bdB, Bool.and_eq_true, decide_eq_true_eq]
  exact ⟨hl, (bdBs_iff B L xs).mpr fun x hx => (h x hx).1⟩, by
  simp only [PyData.depth]
  have := (dep_all D xs).mpr fun x hx => (h x hx).2
  omega⟩
theorem bd_items {B L D : Nat} {xs : List PyData} (h : Bd B L (D + 1) (.tuple xs)) : xs.length ≤ L ∧ ∀ x ∈ xs, Bd B L D x := by
  obtain ⟨h1, h2⟩ := h
  simp only [bdB, Bool.and_eq_true, decide_eq_true_eq] at h1
  simp only [PyData.depth] at h2
  have h3 := (dep_all D xs).mp (by omega)
  exact ⟨h1.1, fun x hx => ⟨(bdBs_iff B L xs).mp h1.2 x hx, h3 x hx⟩⟩
theorem bd_int {B L : Nat} {i : Int} (h : i.natAbs ≤ B) : Bd B L 0 (.int i) := ⟨by simp only [bdB]; exact decide_eq_true h, by simp [PyData.depth]⟩
theorem bd_bool {B L : Nat} {b : Bool} : Bd B L 0 (.bool b) := ⟨by simp [bdB], by simp [PyData.depth]⟩
theorem bd_none {B L : Nat} : Bd B L 0 .none := ⟨by simp [bdB], by simp [PyData.depth]⟩
theorem bd_str {B L : Nat} {s : String} (h : s.length ≤ 2000) : Bd B L 0 (.str (Str.ofString s)) := ⟨by
  simp only [bdB, Bool.and_eq_true, decide_eq_true_eq]
  exact ⟨strOk_of s, by rw [PySem.ofString_length]; exact h⟩, by simp [PyData.depth]⟩
/-! the odd ones, the bent ones -/
theorem bd_txt {B L : Nat} {i : Int} (h : i.natAbs ≤ 10 ^ 45) : Bd B L 0 (.str (Str.ofString (toString i))) := bd_str (by
  have := int_text_length_le (a := i) (k := 1920) (by decide) (of_decide_eq_true (small_b h))
  omega)
def oddN : List PyData := [.str "", .str "A", .str "a b", .str "abcdefghi", .str "ab", .none, .int 7, .str "1"]
theorem bd_mono {B L D D' : Nat} {x : PyData} (h : Bd B L D x) (h2 : D ≤ D') : Bd B L D' x := h.up (Nat.le_refl _) (Nat.le_refl _) h2
theorem oddN_bd {B L D : Nat} : ∀ y ∈ oddN, Bd (B + 101) L D y := by
  intro y hy
  simp only [oddN, List.mem_cons, List.not_mem_nil, or_false] at hy
  rcases hy with rfl | rfl | rfl | rfl | rfl | rfl | rfl | rfl
  · exact bd_mono (bd_str (by decide)) (Nat.zero_le _)
  · exact bd_mono (bd_str (by decide)) (Nat.zero_le _)
  · exact bd_mono (bd_str (by decide)) (Nat.zero_le _)
  · exact bd_mono (bd_str (by decide)) (Nat.zero_le _)
  · exact bd_mono (bd_str (by decide)) (Nat.zero_le _)
  · exact bd_mono bd_none (Nat.zero_le _)
  · exact bd_mono (bd_int (by show 7 ≤ B + 101; omega)) (Nat.zero_le _)
  · exact bd_mono (bd_str (by decide)) (Nat.zero_le _)
theorem k8 {a b c d e f g h : PyData} : ([a, b, c, d, e, f, g, h].length ≤ lineN) = True := n_le (Nat.le_of_ble_eq_true rfl)
theorem k0 : (([] : List PyData).length ≤ lineN) = True := n_le (Nat.le_of_ble_eq_true rfl)
theorem k1 {a : PyData} : ([a].length ≤ lineN) = True := n_le (Nat.le_of_ble_eq_true rfl)
theorem k3 {a b c : PyData} : ([a, b, c].length ≤ lineN) = True := n_le (Nat.le_of_ble_eq_true rfl)
theorem k5 {a b c d e : PyData} : ([a, b, c, d, e].length ≤ lineN) = True := n_le (Nat.le_of_ble_eq_true rfl)
theorem k10 {a b c d e a' b' c' d' e' : PyData} : ([a, b, c, d, e].length + [a', b', c', d', e'].length ≤ lineN) = True := n_le (Nat.le_of_ble_eq_true rfl)
theorem odd_ok {Φ : Phi} {B L D : Nat} {x : PyData} {st : Stt} (h : Bd B L D x) (hB : B ≤ 10 ^ 45) (hL : L ≤ 100) : ∃ M, 1 ≤ M.length ∧ M.length ≤ 10 ∧ (∀ y ∈ M, Bd (B + 101) (2 * L + 1) (D + 2) y) ∧ leaveW st.length (semSs Φ f8.body [some (.d x), none] st) = .ok (.new (.lst M)) st := by
  cases x with
  | dict _ => have := h.1; simp [bdB] at this
  | bool b =>
    refine ⟨[.int 1, .none, .int 0], Nat.le_of_ble_eq_true rfl, Nat.le_of_ble_eq_true rfl, fun y hy => ?_, ?_⟩
    · simp only [List.mem_cons, List.not_mem_nil, or_false] at hy
      rcases hy with rfl | rfl | rfl
      · exact bd_mono (bd_int (by show 1 ≤ B + 101; omega)) (Nat.zero_le _)
      · exact bd_mono bd_none (Nat.zero_le _)
      · exact bd_mono (bd_int (Nat.zero_le _)) (Nat.zero_le _)
    · simp -implicitDefEqProofs only [sem_var, varR_d, varR_own, varR_bor, varR_loc, sem_con, sem_glo, rdk1_s, rdk2_s, rd_d, rd_new, rd_bor, rd_lent, rd_loc, dat_lst, py_d, py_new, arg_d, arg_new, arg_bor, arg_lent, arg_loc, argAll_nil, sems_nil, sems_cons, kEs_a, kPut_a, sem_bin, kBin_a, kBin2_a, sem_neg, kNeg_a, negK_i, truR_b, truR_i, truR_l, truR_t, truR_n, sem_nt, kNot_a, kNot2_a, sem_an, sem_oo, kAn_a, kOo_a, anS_t, anS_f, ooS_t, ooS_f, sem_cmp, kCmp_a, kCmp2_a, cmpK_lt, cmpK_le, cmpK_gt, cmpK_ge, sem_chn, kChn_a, kChn2_a, kChn3_a, chS_t, chS_f, sem_ite, kIte_a, kIte2_a, selE_t, selE_f, sem_tup, sem_lst, kTup_a, kLst_a, pyAll_nil, pyAll_cons, sem_idx, kIdx_a, kIdx2_a, idxK_l, idxK_t, sem_slc, kSlc_a, kSlc2_a, kSlc3_a, slK_l, slK_t, kPart_n, kPart_i, sem_rev, kRev_a, revD_l, revD_t, sem_cal, kCal_a, calR_s, argAll_c, sem_bif, kBif_a, bifR_s, sem_mth, kMth_a, kMth2_a, mthR_s, idxK_s, rdAll_nil, rdAll_c, bif_len_l, bif_len_t, bif_tup_l, bif_tup_t, bif_lst_l, bif_lst_t, bif_len_s, bif_str_s, bif_repr, sem_isi, kIsi_a, add_ii, sub_ii, mul_ii, mul_ti, fdiv_ii, mod_ii, pow_ii, add_tt, add_ll, Ss_nil, Ss_cons, kSs_n, kSs_r, Ss_frz, frzR_nil, frzR_cons, frz1_own, frz1_d, S_set, kSet_pd, kSet_pn, kSet_pl, kSet_pb, kSet_o, kSet_c, S_unp, kUnp_a, unpR_s, setT_2, setT_3, S_exp, kExp_a, S_ret, kRet_d, kRet_n, kRet_l, S_rtv, rtvR_o, S_ite, kIf_a, kIf2_a, selS_t, selS_f, chgR_o, chgR_l, ownR_s, locR_s, appF_l, extF_l, subF_l, mutR_o, mutR_l, S_sub, kSub_a, subM_t, kSub2_a, subR_s, S_app, appM_t, kApp_a, appR_s, stepF_a, setR_s, setT_nm, S_for, kFor_a, F_of, kItF_dl, kItF_dt, kItF_ds, kItF_n, kItF_b, I_of, kItI_dl, kItI_dt, kItI_ds, kItI_n, kItI_b, kItI_l, I_rng, F_rng, kRng_a, I_rng2, F_rng2, kRg2_a, kRg3_a, sem_lc, kLc_a, kLc2_a, stepC_nm, wipeR_n, wipeR_c, kCs_a, selC_t, selC_f, kElt_d, kElt_n, Cs_nil, Cs_cons, kC1_a, kC2_a, csS_t, csS_f, csS_n, lv_d, lv_n, lv_x, Res.bind_ok, Res.ofO_some, Res.nox_ok, Option.bind_some, Option.map_some, List.getElem?_cons_zero, List.getElem?_cons_succ, List.set_cons_zero, List.set_cons_succ, f8, isi_of (.bool b) .bool true rfl, lstK, pyAll_nil, k3, if_true, List.take_length]
  | none =>
    refine ⟨oddN, Nat.le_of_ble_eq_true rfl, Nat.le_of_ble_eq_true rfl, oddN_bd, ?_⟩
    simp -implicitDefEqProofs only [sem_var, varR_d, varR_own, varR_bor, varR_loc, sem_con, sem_glo, rdk1_s, rdk2_s, rd_d, rd_new, rd_bor, rd_lent, rd_loc, dat_lst, py_d, py_new, arg_d, arg_new, arg_bor, arg_lent, arg_loc, argAll_nil, sems_nil, sems_cons, kEs_a, kPut_a, sem_bin, kBin_a, kBin2_a, sem_neg, kNeg_a, negK_i, truR_b, truR_i, truR_l, truR_t, truR_n, sem_nt, kNot_a, kNot2_a, sem_an, sem_oo, kAn_a, kOo_a, anS_t, anS_f, ooS_t, ooS_f, sem_cmp, kCmp_a, kCmp2_a, cmpK_lt, cmpK_le, cmpK_gt, cmpK_ge, sem_chn, kChn_a, kChn2_a, kChn3_a, chS_t, chS_f, sem_ite, kIte_a, kIte2_a, selE_t, selE_f, sem_tup, sem_lst, kTup_a, kLst_a, pyAll_nil, pyAll_cons, sem_idx, kIdx_a, kIdx2_a, idxK_l, idxK_t, sem_slc, kSlc_a, kSlc2_a, kSlc3_a, slK_l, slK_t, kPart_n, kPart_i, sem_rev, kRev_a, revD_l, revD_t, sem_cal, kCal_a, calR_s, argAll_c, sem_bif, kBif_a, bifR_s, sem_mth, kMth_a, kMth2_a, mthR_s, idxK_s, rdAll_nil, rdAll_c, bif_len_l, bif_len_t, bif_tup_l, bif_tup_t, bif_lst_l, bif_lst_t, bif_len_s, bif_str_s, bif_repr, sem_isi, kIsi_a, add_ii, sub_ii, mul_ii, mul_ti, fdiv_ii, mod_ii, pow_ii, add_tt, add_ll, Ss_nil, Ss_cons, kSs_n, kSs_r, Ss_frz, frzR_nil, frzR_cons, frz1_own, frz1_d, S_set, kSet_pd, kSet_pn, kSet_pl, kSet_pb, kSet_o, kSet_c, S_unp, kUnp_a, unpR_s, setT_2, setT_3, S_exp, kExp_a, S_ret, kRet_d, kRet_n, kRet_l, S_rtv, rtvR_o, S_ite, kIf_a, kIf2_a, selS_t, selS_f, chgR_o, chgR_l, ownR_s, locR_s, appF_l, extF_l, subF_l, mutR_o, mutR_l, S_sub, kSub_a, subM_t, kSub2_a, subR_s, S_app, appM_t, kApp_a, appR_s, stepF_a, setR_s, setT_nm, S_for, kFor_a, F_of, kItF_dl, kItF_dt, kItF_ds, kItF_n, kItF_b, I_of, kItI_dl, kItI_dt, kItI_ds, kItI_n, kItI_b, kItI_l, I_rng, F_rng, kRng_a, I_rng2, F_rng2, kRg2_a, kRg3_a, sem_lc, kLc_a, kLc2_a, stepC_nm, wipeR_n, wipeR_c, kCs_a, selC_t, selC_f, kElt_d, kElt_n, Cs_nil, Cs_cons, kC1_a, kC2_a, csS_t, csS_f, csS_n, lv_d, lv_n, lv_x, Res.bind_ok, Res.ofO_some, Res.nox_ok, Option.bind_some, Option.map_some, List.getElem?_cons_zero, List.getElem?_cons_succ, List.set_cons_zero, List.set_cons_succ, f8, isi_of .none .bool false rfl, isi_of .none .int false rfl, isi_of .none .tuple false rfl, lstK, pyAll_nil, k8, if_true, oddN, List.take_length]
  | str s =>
    refine ⟨oddN, Nat.le_of_ble_eq_true rfl, Nat.le_of_ble_eq_true rfl, oddN_bd, ?_⟩
    simp -implicitDefEqProofs only [sem_var, varR_d, varR_own, varR_bor, varR_loc, sem_con, sem_glo, rdk1_s, rdk2_s, rd_d, rd_new, rd_bor, rd_lent, rd_loc, dat_lst, py_d, py_new, arg_d, arg_new, arg_bor, arg_lent, arg_loc, argAll_nil, sems_nil, sems_cons, kEs_a, kPut_a, sem_bin, kBin_a, kBin2_a, sem_neg, kNeg_a, negK_i, truR_b, truR_i, truR_l, truR_t, truR_n, sem_nt, kNot_a, kNot2_a, sem_an, sem_oo, kAn_a, kOo_a, anS_t, anS_f, ooS_t, ooS_f, sem_cmp, kCmp_a, kCmp2_a, cmpK_lt, cmpK_le, cmpK_gt, cmpK_ge, sem_chn, kChn_a, kChn2_a, kChn3_a, chS_t, chS_f, sem_ite, kIte_a, kIte2_a, selE_t, selE_f, sem_tup, sem_lst, kTup_a, kLst_a, pyAll_nil, pyAll_cons, sem_idx, kIdx_a, kIdx2_a, idxK_l, idxK_t, sem_slc, kSlc_a, kSlc2_a, kSlc3_a, slK_l, slK_t, kPart_n, kPart_i, sem_rev, kRev_a, revD_l, revD_t, sem_cal, kCal_a, calR_s, argAll_c, sem_bif, kBif_a, bifR_s, sem_mth, kMth_a, kMth2_a, mthR_s, idxK_s, rdAll_nil, rdAll_c, bif_len_l, bif_len_t, bif_tup_l, bif_tup_t, bif_lst_l, bif_lst_t, bif_len_s, bif_str_s, bif_repr, sem_isi, kIsi_a, add_ii, sub_ii, mul_ii, mul_ti, fdiv_ii, mod_ii, pow_ii, add_tt, add_ll, Ss_nil, Ss_cons, kSs_n, kSs_r, Ss_frz, frzR_nil, frzR_cons, frz1_own, frz1_d, S_set, kSet_pd, kSet_pn, kSet_pl, kSet_pb, kSet_o, kSet_c, S_unp, kUnp_a, unpR_s, setT_2, setT_3, S_exp, kExp_a, S_ret, kRet_d, kRet_n, kRet_l, S_rtv, rtvR_o, S_ite, kIf_a, kIf2_a, selS_t, selS_f, chgR_o, chgR_l, ownR_s, locR_s, appF_l, extF_l, subF_l, mutR_o, mutR_l, S_sub, kSub_a, subM_t, kSub2_a, subR_s, S_app, appM_t, kApp_a, appR_s, stepF_a, setR_s, setT_nm, S_for, kFor_a, F_of, kItF_dl, kItF_dt, kItF_ds, kItF_n, kItF_b, I_of, kItI_dl, kItI_dt, kItI_ds, kItI_n, kItI_b, kItI_l, I_rng, F_rng, kRng_a, I_rng2, F_rng2, kRg2_a, kRg3_a, sem_lc, kLc_a, kLc2_a, stepC_nm, wipeR_n, wipeR_c, kCs_a, selC_t, selC_f, kElt_d, kElt_n, Cs_nil, Cs_cons, kC1_a, kC2_a, csS_t, csS_f, csS_n, lv_d, lv_n, lv_x, Res.bind_ok, Res.ofO_some, Res.nox_ok, Option.bind_some, Option.map_some, List.getElem?_cons_zero, List.getElem?_cons_succ, List.set_cons_zero, List.set_cons_succ, f8, isi_of (.str s) .bool false rfl, isi_of (.str s) .int false rfl, isi_of (.str s) .tuple false rfl, lstK, pyAll_nil, k8, if_true, oddN, List.take_length]
  | list s =>
    refine ⟨oddN, Nat.le_of_ble_eq_true rfl, Nat.le_of_ble_eq_true rfl, oddN_bd, ?_⟩
    simp -implicitDefEqProofs only [sem_var, varR_d, varR_own, varR_bor, varR_loc, sem_con, sem_glo, rdk1_s, rdk2_s, rd_d, rd_new, rd_bor, rd_lent, rd_loc, dat_lst, py_d, py_new, arg_d, arg_new, arg_bor, arg_lent, arg_loc, argAll_nil, sems_nil, sems_cons, kEs_a, kPut_a, sem_bin, kBin_a, kBin2_a, sem_neg, kNeg_a, negK_i, truR_b, truR_i, truR_l, truR_t, truR_n, sem_nt, kNot_a, kNot2_a, sem_an, sem_oo, kAn_a, kOo_a, anS_t, anS_f, ooS_t, ooS_f, sem_cmp, kCmp_a, kCmp2_a, cmpK_lt, cmpK_le, cmpK_gt, cmpK_ge, sem_chn, kChn_a, kChn2_a, kChn3_a, chS_t, chS_f, sem_ite, kIte_a, kIte2_a, selE_t, selE_f, sem_tup, sem_lst, kTup_a, kLst_a, pyAll_nil, pyAll_cons, sem_idx, kIdx_a, kIdx2_a, idxK_l, idxK_t, sem_slc, kSlc_a, kSlc2_a, kSlc3_a, slK_l, slK_t, kPart_n, kPart_i, sem_rev, kRev_a, revD_l, revD_t, sem_cal, kCal_a, calR_s, argAll_c, sem_bif, kBif_a, bifR_s, sem_mth, kMth_a, kMth2_a, mthR_s, idxK_s, rdAll_nil, rdAll_c, bif_len_l, bif_len_t, bif_tup_l, bif_tup_t, bif_lst_l, bif_lst_t, bif_len_s, bif_str_s, bif_repr, sem_isi, kIsi_a, add_ii, sub_ii, mul_ii, mul_ti, fdiv_ii, mod_ii, pow_ii, add_tt, add_ll, Ss_nil, Ss_cons, kSs_n, kSs_r, Ss_frz, frzR_nil, frzR_cons, frz1_own, frz1_d, S_set, kSet_pd, kSet_pn, kSet_pl, kSet_pb, kSet_o, kSet_c, S_unp, kUnp_a, unpR_s, setT_2, setT_3, S_exp, kExp_a, S_ret, kRet_d, kRet_n, kRet_l, S_rtv, rtvR_o, S_ite, kIf_a, kIf2_a, selS_t, selS_f, chgR_o, chgR_l, ownR_s, locR_s, appF_l, extF_l, subF_l, mutR_o, mutR_l, S_sub, kSub_a, subM_t, kSub2_a, subR_s, S_app, appM_t, kApp_a, appR_s, stepF_a, setR_s, setT_nm, S_for, kFor_a, F_of, kItF_dl, kItF_dt, kItF_ds, kItF_n, kItF_b, I_of, kItI_dl, kItI_dt, kItI_ds, kItI_n, kItI_b, kItI_l, I_rng, F_rng, kRng_a, I_rng2, F_rng2, kRg2_a, kRg3_a, sem_lc, kLc_a, kLc2_a, stepC_nm, wipeR_n, wipeR_c, kCs_a, selC_t, selC_f, kElt_d, kElt_n, Cs_nil, Cs_cons, kC1_a, kC2_a, csS_t, csS_f, csS_n, lv_d, lv_n, lv_x, Res.bind_ok, Res.ofO_some, Res.nox_ok, Option.bind_some, Option.map_some, List.getElem?_cons_zero, List.getElem?_cons_succ, List.set_cons_zero, List.set_cons_succ, f8, isi_of (.list s) .bool false rfl, isi_of (.list s) .int false rfl, isi_of (.list s) .tuple false rfl, lstK, pyAll_nil, k8, if_true, oddN, List.take_length]
  | int i =>
    have hi : i.natAbs ≤ B := by have := h.1; simpa only [bdB, decide_eq_true_eq] using this
    have hi' : i.natAbs ≤ 10 ^ 45 := Nat.le_trans hi hB
    refine ⟨[.int (i + 1), .int (i - 1), .bool (decide (i = 1)), .none, .int (0 - i), .str (Str.ofString (toString i)), .tuple [.int i], .int 100], Nat.le_of_ble_eq_true rfl, Nat.le_of_ble_eq_true rfl, fun y hy => ?_, ?_⟩
    · simp only [List.mem_cons, List.not_mem_nil, or_false] at hy
      rcases hy with rfl | rfl | rfl | rfl | rfl | rfl | rfl | rfl
      · exact bd_mono (bd_int (by omega)) (Nat.zero_le _)
      · exact bd_mono (bd_int (by omega)) (Nat.zero_le _)
      · exact bd_mono bd_bool (Nat.zero_le _)
      · exact bd_mono bd_none (Nat.zero_le _)
      · exact bd_mono (bd_int (by omega)) (Nat.zero_le _)
      · exact bd_mono (bd_txt hi') (Nat.zero_le _)
      · exact bd_mono (bd_tup (D := 0) (by show 1 ≤ 2 * L + 1; omega) fun y hy => by rw [List.mem_singleton.mp hy]; exact bd_int (by omega)) (by omega)
      · exact bd_mono (bd_int (by show 100 ≤ B + 101; omega)) (Nat.zero_le _)
    · simp -implicitDefEqProofs only [sem_var, varR_d, varR_own, varR_bor, varR_loc, sem_con, sem_glo, rdk1_s, rdk2_s, rd_d, rd_new, rd_bor, rd_lent, rd_loc, dat_lst, py_d, py_new, arg_d, arg_new, arg_bor, arg_lent, arg_loc, argAll_nil, sems_nil, sems_cons, kEs_a, kPut_a, sem_bin, kBin_a, kBin2_a, sem_neg, kNeg_a, negK_i, truR_b, truR_i, truR_l, truR_t, truR_n, sem_nt, kNot_a, kNot2_a, sem_an, sem_oo, kAn_a, kOo_a, anS_t, anS_f, ooS_t, ooS_f, sem_cmp, kCmp_a, kCmp2_a, cmpK_lt, cmpK_le, cmpK_gt, cmpK_ge, sem_chn, kChn_a, kChn2_a, kChn3_a, chS_t, chS_f, sem_ite, kIte_a, kIte2_a, selE_t, selE_f, sem_tup, sem_lst, kTup_a, kLst_a, pyAll_nil, pyAll_cons, sem_idx, kIdx_a, kIdx2_a, idxK_l, idxK_t, sem_slc, kSlc_a, kSlc2_a, kSlc3_a, slK_l, slK_t, kPart_n, kPart_i, sem_rev, kRev_a, revD_l, revD_t, sem_cal, kCal_a, calR_s, argAll_c, sem_bif, kBif_a, bifR_s, sem_mth, kMth_a, kMth2_a, mthR_s, idxK_s, rdAll_nil, rdAll_c, bif_len_l, bif_len_t, bif_tup_l, bif_tup_t, bif_lst_l, bif_lst_t, bif_len_s, bif_str_s, bif_repr, sem_isi, kIsi_a, add_ii, sub_ii, mul_ii, mul_ti, fdiv_ii, mod_ii, pow_ii, add_tt, add_ll, Ss_nil, Ss_cons, kSs_n, kSs_r, Ss_frz, frzR_nil, frzR_cons, frz1_own, frz1_d, S_set, kSet_pd, kSet_pn, kSet_pl, kSet_pb, kSet_o, kSet_c, S_unp, kUnp_a, unpR_s, setT_2, setT_3, S_exp, kExp_a, S_ret, kRet_d, kRet_n, kRet_l, S_rtv, rtvR_o, S_ite, kIf_a, kIf2_a, selS_t, selS_f, chgR_o, chgR_l, ownR_s, locR_s, appF_l, extF_l, subF_l, mutR_o, mutR_l, S_sub, kSub_a, subM_t, kSub2_a, subR_s, S_app, appM_t, kApp_a, appR_s, stepF_a, setR_s, setT_nm, S_for, kFor_a, F_of, kItF_dl, kItF_dt, kItF_ds, kItF_n, kItF_b, I_of, kItI_dl, kItI_dt, kItI_ds, kItI_n, kItI_b, kItI_l, I_rng, F_rng, kRng_a, I_rng2, F_rng2, kRg2_a, kRg3_a, sem_lc, kLc_a, kLc2_a, stepC_nm, wipeR_n, wipeR_c, kCs_a, selC_t, selC_f, kElt_d, kElt_n, Cs_nil, Cs_cons, kC1_a, kC2_a, csS_t, csS_f, csS_n, lv_d, lv_n, lv_x, Res.bind_ok, Res.ofO_some, Res.nox_ok, Option.bind_some, Option.map_some, List.getElem?_cons_zero, List.getElem?_cons_succ, List.set_cons_zero, List.set_cons_succ, f8, isi_of (.int i) .bool false rfl, isi_of (.int i) .int true rfl, cmp_eq, eqD_ii, toB_s, bif_str_i (small_b hi'), tupK, lstK, pyAll_nil, k1, k8, if_true, List.take_length]
  | tuple xs =>
    obtain ⟨D', rfl⟩ : ∃ D', D = D' + 1 := by
      have := h.2
      simp only [PyData.depth] at this
      exact ⟨D - 1, by omega⟩
    obtain ⟨hl, hx0⟩ := bd_items h
    have hx : ∀ y ∈ xs, Bd (B + 101) (2 * L + 1) D' y := fun y hy => (hx0 y hy).up (by omega) (by omega) (Nat.le_refl _)
    have c1 := cut_len (xs := xs) (lo := none) (hi := some 1)
    have c2 := cut_len (xs := xs) (lo := some (-1)) (hi := none)
    have c3 := cut_len (xs := xs) (lo := none) (hi := some (-1))
    have c4 := cut_len (xs := xs) (lo := some 1) (hi := none)
    have a1 : (xs.length + (Gm.cutD xs none (some 1)).length ≤ lineN) = True := n_le (by omega)
    have a2 : (xs.length + (Gm.cutD xs (some (-1)) none).length ≤ lineN) = True := n_le (by omega)
    have a3 : (xs.length + [PyData.int 1].length ≤ lineN) = True := n_le (by show xs.length + 1 ≤ 1000; omega)
    have one : Bd (B + 101) (2 * L + 1) D' (.int 1) := bd_mono (bd_int (by show 1 ≤ B + 101; omega)) (Nat.zero_le _)
    have self : Bd (B + 101) (2 * L + 1) (D' + 1) (.tuple xs) := bd_tup (by omega) hx
    have app : ∀ ys : List PyData, xs.length + ys.length ≤ 2 * L + 1 → (∀ y ∈ ys, Bd (B + 101) (2 * L + 1) D' y) → Bd (B + 101) (2 * L + 1) (D' + 1 + 2) (.tuple (xs ++ ys)) := fun ys hl hy => bd_mono (bd_tup (by rw [List.length_append]; exact hl) fun z hz => (List.mem_append.mp hz).elim (hx z) (hy z)) (by omega)
    refine ⟨[.list xs, .tuple (Gm.cutD xs none (some (-1))), .tuple xs.reverse, .tuple (xs ++ cutD xs none (some 1)), .tuple (xs ++ cutD xs (some (-1)) none)] ++ [.tuple (xs ++ [.int 1]), .tuple [], .none, .tuple [.tuple xs], .tuple (Gm.cutD xs (some 1) none)], Nat.le_of_ble_eq_true rfl, Nat.le_of_ble_eq_true rfl, fun x hm => ?_, ?_⟩
    · simp only [List.cons_append, List.nil_append, List.mem_cons, List.not_mem_nil, or_false] at hm
      rcases hm with rfl | rfl | rfl | rfl | rfl | rfl | rfl | rfl | rfl | rfl
      · exact bd_mono (bd_lst (by omega) hx) (by omega)
      · exact bd_mono (bd_tup (by omega) fun y hy => hx y (cut_sub hy)) (by omega)
      · exact bd_mono (bd_tup (by rw [List.length_reverse]; omega) fun y hy => hx y (List.mem_reverse.mp hy)) (by omega)
      · refine app _ ?_ fun y hy => hx y (cut_sub hy)
        have : (Gm.cutD xs none (some 1)).length ≤ 1 := by rw [show (some (1 : Int)) = some ((1 : Nat) : Int) from rfl, cut_to, List.length_take]; omega
        omega
      · exact app _ (by omega) fun y hy => hx y (cut_sub hy)
      · exact app _ (by show xs.length + 1 ≤ _; omega) fun y hy => by rw [List.mem_singleton.mp hy]; exact one
      · exact bd_mono (bd_tup (D := 0) (xs := []) (Nat.zero_le _) fun y hy => (nomatch hy)) (by omega)
      · exact bd_mono bd_none (by omega)
      · exact bd_mono (bd_tup (D := D' + 1) (by show 1 ≤ _; omega) fun y hy => by rw [List.mem_singleton.mp hy]; exact self) (by omega)
      · exact bd_mono (bd_tup (by omega) fun y hy => hx y (cut_sub hy)) (by omega)
    · simp -implicitDefEqProofs only [sem_var, varR_d, varR_own, varR_bor, varR_loc, sem_con, sem_glo, rdk1_s, rdk2_s, rd_d, rd_new, rd_bor, rd_lent, rd_loc, dat_lst, py_d, py_new, arg_d, arg_new, arg_bor, arg_lent, arg_loc, argAll_nil, sems_nil, sems_cons, kEs_a, kPut_a, sem_bin, kBin_a, kBin2_a, sem_neg, kNeg_a, negK_i, truR_b, truR_i, truR_l, truR_t, truR_n, sem_nt, kNot_a, kNot2_a, sem_an, sem_oo, kAn_a, kOo_a, anS_t, anS_f, ooS_t, ooS_f, sem_cmp, kCmp_a, kCmp2_a, cmpK_lt, cmpK_le, cmpK_gt, cmpK_ge, sem_chn, kChn_a, kChn2_a, kChn3_a, chS_t, chS_f, sem_ite, kIte_a, kIte2_a, selE_t, selE_f, sem_tup, sem_lst, kTup_a, kLst_a, pyAll_nil, pyAll_cons, sem_idx, kIdx_a, kIdx2_a, idxK_l, idxK_t, sem_slc, kSlc_a, kSlc2_a, kSlc3_a, slK_l, slK_t, kPart_n, kPart_i, sem_rev, kRev_a, revD_l, revD_t, sem_cal, kCal_a, calR_s, argAll_c, sem_bif, kBif_a, bifR_s, sem_mth, kMth_a, kMth2_a, mthR_s, idxK_s, rdAll_nil, rdAll_c, bif_len_l, bif_len_t, bif_tup_l, bif_tup_t, bif_lst_l, bif_lst_t, bif_len_s, bif_str_s, bif_repr, sem_isi, kIsi_a, add_ii, sub_ii, mul_ii, mul_ti, fdiv_ii, mod_ii, pow_ii, add_tt, add_ll, Ss_nil, Ss_cons, kSs_n, kSs_r, Ss_frz, frzR_nil, frzR_cons, frz1_own, frz1_d, S_set, kSet_pd, kSet_pn, kSet_pl, kSet_pb, kSet_o, kSet_c, S_unp, kUnp_a, unpR_s, setT_2, setT_3, S_exp, kExp_a, S_ret, kRet_d, kRet_n, kRet_l, S_rtv, rtvR_o, S_ite, kIf_a, kIf2_a, selS_t, selS_f, chgR_o, chgR_l, ownR_s, locR_s, appF_l, extF_l, subF_l, mutR_o, mutR_l, S_sub, kSub_a, subM_t, kSub2_a, subR_s, S_app, appM_t, kApp_a, appR_s, stepF_a, setR_s, setT_nm, S_for, kFor_a, F_of, kItF_dl, kItF_dt, kItF_ds, kItF_n, kItF_b, I_of, kItI_dl, kItI_dt, kItI_ds, kItI_n, kItI_b, kItI_l, I_rng, F_rng, kRng_a, I_rng2, F_rng2, kRg2_a, kRg3_a, sem_lc, kLc_a, kLc2_a, stepC_nm, wipeR_n, wipeR_c, kCs_a, selC_t, selC_f, kElt_d, kElt_n, Cs_nil, Cs_cons, kC1_a, kC2_a, csS_t, csS_f, csS_n, lv_d, lv_n, lv_x, Res.bind_ok, Res.ofO_some, Res.nox_ok, Option.bind_some, Option.map_some, List.getElem?_cons_zero, List.getElem?_cons_succ, List.set_cons_zero, List.set_cons_succ, f8, isi_of (.tuple xs) .bool false rfl, isi_of (.tuple xs) .int false rfl, isi_of (.tuple xs) .tuple true rfl, negK_i, a1, a2, a3, tupK, lstK, pyAll_nil, k0, k1, k5, k10, if_true, List.take_length]
structure BentH (Φ : Phi) : Prop extends FeedH Φ 6 7 where
  odd : ∀ (B L D : Nat) (x : PyData) (st : Stt), Bd B L D x → B ≤ 10 ^ 45 → L ≤ 100 → ∃ M, 1 ≤ M.length ∧ M.length ≤ 10 ∧ (∀ y ∈ M, Bd (B + 101) (2 * L + 1) (D + 2) y) ∧ Φ 8 [.d x] st = .ok (.new (.lst M)) st
theorem bentH (k : Nat) : BentH (phi fs (k + 1)) := { feedH (fs := fs) (gf := 6) (gt := 7) rfl rfl with
  odd := fun B L D x st h hB hL => by rw [phi_at (f := f8) rfl ⟨rfl, by decide⟩]; exact odd_ok h hB hL }
theorem atI_mem {α : Type} {xs : List α} {i : Int} (h0 : 0 ≤ i) (h1 : i < (xs.length : Int)) : ∃ x, atI xs i = some x ∧ x ∈ xs := by
  obtain ⟨n, rfl⟩ : ∃ n : Nat, i = (n : Int) := ⟨i.toNat, by omega⟩
  exact ⟨xs[n], atI_nat xs n (by omega), List.getElem_mem _⟩
def BentOf (Φ : Phi) (B L D : Nat) : Prop := ∀ (c : C) (x : PyData), FeedOk c → Bd B L D x → ∃ y c', FeedOk c' ∧ Bd (B + 101) (2 * L + 1) (D + 2) y ∧ Φ 9 [.loc 0, .d x] [c] = .ok (.d y) [c']
theorem bent_odd {Φ : Phi} (H : BentH Φ) {B L D : Nat} {x : PyData} {c : C} (hc : FeedOk c) (h : Bd B L D x) (hB : B ≤ 10 ^ 45) (hL : L ≤ 100) : ∃ M y c' r, FeedOk c' ∧ Bd (B + 101) (2 * L + 1) (D + 2) y ∧ Φ 8 [.d x] [c] = .ok (.new (.lst M)) [c] ∧ Φ 7 [.loc 0, .d (.int (M.length : Nat))] [c] = .ok (.d (.int r)) [c'] ∧ atI M r = some y := by
  obtain ⟨M, m1, m2, hM, e0⟩ := H.odd B L D x [c] h hB hL
  obtain ⟨r, c1, h0, h1, hc1, e1⟩ := H.take c [] (M.length : Int) hc (by omega) (by omega)
  obtain ⟨y, e2, hy⟩ := atI_mem h0 h1
  exact ⟨M, y, c1, r, hc1, hM y hy, e0, e1, e2⟩
theorem bentN_ok {Φ : Phi} (H : BentH Φ) {B L D : Nat} (hB : B ≤ 10 ^ 45) (hL : L ≤ 100) {c : C} {x : PyData} (hc : FeedOk c) (h : Bd B L D x) (hn : isiK .tuple x = some (.d (.bool false))) : ∃ y c', FeedOk c' ∧ Bd (B + 101) (2 * L + 1) (D + 2) y ∧ leaveW ([c] : Stt).length (semSs Φ f9.body [some (.loc 0), some (.d x), none, none] [c]) = .ok (.d y) [c'] := by
  obtain ⟨M, y, c1, r, hc1, hy, e0, e1, e2⟩ := bent_odd H hc h hB hL
  refine ⟨y, c1, hc1, hy, ?_⟩
  simp -implicitDefEqProofs only [sem_var, varR_d, varR_own, varR_bor, varR_loc, sem_con, sem_glo, rdk1_s, rdk2_s, rd_d, rd_new, rd_bor, rd_lent, rd_loc, dat_lst, py_d, py_new, arg_d, arg_new, arg_bor, arg_lent, arg_loc, argAll_nil, sems_nil, sems_cons, kEs_a, kPut_a, sem_bin, kBin_a, kBin2_a, sem_neg, kNeg_a, negK_i, truR_b, truR_i, truR_l, truR_t, truR_n, sem_nt, kNot_a, kNot2_a, sem_an, sem_oo, kAn_a, kOo_a, anS_t, anS_f, ooS_t, ooS_f, sem_cmp, kCmp_a, kCmp2_a, cmpK_lt, cmpK_le, cmpK_gt, cmpK_ge, sem_chn, kChn_a, kChn2_a, kChn3_a, chS_t, chS_f, sem_ite, kIte_a, kIte2_a, selE_t, selE_f, sem_tup, sem_lst, kTup_a, kLst_a, pyAll_nil, pyAll_cons, sem_idx, kIdx_a, kIdx2_a, idxK_l, idxK_t, sem_slc, kSlc_a, kSlc2_a, kSlc3_a, slK_l, slK_t, kPart_n, kPart_i, sem_rev, kRev_a, revD_l, revD_t, sem_cal, kCal_a, calR_s, argAll_c, sem_bif, kBif_a, bifR_s, sem_mth, kMth_a, kMth2_a, mthR_s, idxK_s, rdAll_nil, rdAll_c, bif_len_l, bif_len_t, bif_tup_l, bif_tup_t, bif_lst_l, bif_lst_t, bif_len_s, bif_str_s, bif_repr, sem_isi, kIsi_a, add_ii, sub_ii, mul_ii, mul_ti, fdiv_ii, mod_ii, pow_ii, add_tt, add_ll, Ss_nil, Ss_cons, kSs_n, kSs_r, Ss_frz, frzR_nil, frzR_cons, frz1_own, frz1_d, S_set, kSet_pd, kSet_pn, kSet_pl, kSet_pb, kSet_o, kSet_c, S_unp, kUnp_a, unpR_s, setT_2, setT_3, S_exp, kExp_a, S_ret, kRet_d, kRet_n, kRet_l, S_rtv, rtvR_o, S_ite, kIf_a, kIf2_a, selS_t, selS_f, chgR_o, chgR_l, ownR_s, locR_s, appF_l, extF_l, subF_l, mutR_o, mutR_l, S_sub, kSub_a, subM_t, kSub2_a, subR_s, S_app, appM_t, kApp_a, appR_s, stepF_a, setR_s, setT_nm, S_for, kFor_a, F_of, kItF_dl, kItF_dt, kItF_ds, kItF_n, kItF_b, I_of, kItI_dl, kItI_dt, kItI_ds, kItI_n, kItI_b, kItI_l, I_rng, F_rng, kRng_a, I_rng2, F_rng2, kRg2_a, kRg3_a, sem_lc, kLc_a, kLc2_a, stepC_nm, wipeR_n, wipeR_c, kCs_a, selC_t, selC_f, kElt_d, kElt_n, Cs_nil, Cs_cons, kC1_a, kC2_a, csS_t, csS_f, csS_n, lv_d, lv_n, lv_x, Res.bind_ok, Res.ofO_some, Res.nox_ok, Option.bind_some, Option.map_some, List.getElem?_cons_zero, List.getElem?_cons_succ, List.set_cons_zero, List.set_cons_succ, f9, hn, e0, e1, e2, t1]
theorem bentT_ok {Φ : Phi} (H : BentH Φ) {B L D : Nat} (hB : B ≤ 10 ^ 45) (hL : L ≤ 100) (G : BentOf Φ B L D) {c : C} {xs : List PyData} (hc : FeedOk c) (h : Bd B L (D + 1) (.tuple xs)) : ∃ y c', FeedOk c' ∧ Bd (B + 101) (2 * L + 1) (D + 1 + 2) y ∧ leaveW ([c] : Stt).length (semSs Φ f9.body [some (.loc 0), some (.d (.tuple xs)), none, none] [c]) = .ok (.d y) [c'] := by
  obtain ⟨hl, hx⟩ := bd_items h
  have it := isi_of (.tuple xs) .tuple true rfl
  by_cases hp : 0 < xs.length
  · have d0 : decide ((0 : Int) < ((xs.length : Nat) : Int)) = true := decide_eq_true (by omega)
    obtain ⟨r, c1, h10, h11, hc1, e1⟩ := H.take c [] 6 hc (by decide) (by decide)
    by_cases hr : 0 < r
    · have dr : decide (0 < r) = true := decide_eq_true hr
      obtain ⟨a, c2, h20, h21, hc2, e2⟩ := H.take c1 [] (xs.length : Int) hc1 (by omega) (by omega)
      obtain ⟨z, e3, hz⟩ := atI_mem h20 h21
      obtain ⟨y, c3, hc3, hy, e4⟩ := G c2 z hc2 (hx z hz)
      have m1 : (Gm.cutD xs none (some a)).length = min a.toNat xs.length := by
        have e := cut_to (xs := xs) a.toNat
        rw [show ((a.toNat : Nat) : Int) = a by omega] at e
        rw [e, List.length_take]
      have m2 : (Gm.cutD xs (some (a + 1)) none).length = xs.length - (a.toNat + 1) := by
        have e := cut_from (xs := xs) (a.toNat + 1)
        rw [show ((a.toNat + 1 : Nat) : Int) = a + 1 by omega] at e
        rw [e, List.length_drop]
      have l1 : ([y].length ≤ lineN) = True := k1
      have a1 : ((Gm.cutD xs none (some a)).length + [y].length ≤ lineN) = True := n_le (by show _ + 1 ≤ 1000; omega)
      have a2 : ((Gm.cutD xs none (some a) ++ [y]).length + (Gm.cutD xs (some (a + 1)) none).length ≤ lineN) = True := n_le (by rw [List.length_append]; show _ + 1 + _ ≤ 1000; omega)
      have up : ∀ w ∈ xs, Bd (B + 101) (2 * L + 1) (D + 2) w := fun w hw => (hx w hw).up (by omega) (by omega) (by omega)
      refine ⟨.tuple (Gm.cutD xs none (some a) ++ [y] ++ cutD xs (some (a + 1)) none), c3, hc3, bd_mono (bd_tup (D := D + 2) ?_ fun x hm => ?_) (by omega), ?_⟩
      · rw [List.length_append, List.length_append]
        show _ + 1 + _ ≤ _
        omega
      · rcases List.mem_append.mp hm with hm | hm
        · rcases List.mem_append.mp hm with hm | hm
          · exact up x (cut_sub hm)
          · rw [List.mem_singleton.mp hm]; exact hy
        · exact up x (cut_sub hm)
      · simp -implicitDefEqProofs only [sem_var, varR_d, varR_own, varR_bor, varR_loc, sem_con, sem_glo, rdk1_s, rdk2_s, rd_d, rd_new, rd_bor, rd_lent, rd_loc, dat_lst, py_d, py_new, arg_d, arg_new, arg_bor, arg_lent, arg_loc, argAll_nil, sems_nil, sems_cons, kEs_a, kPut_a, sem_bin, kBin_a, kBin2_a, sem_neg, kNeg_a, negK_i, truR_b, truR_i, truR_l, truR_t, truR_n, sem_nt, kNot_a, kNot2_a, sem_an, sem_oo, kAn_a, kOo_a, anS_t, anS_f, ooS_t, ooS_f, sem_cmp, kCmp_a, kCmp2_a, cmpK_lt, cmpK_le, cmpK_gt, cmpK_ge, sem_chn, kChn_a, kChn2_a, kChn3_a, chS_t, chS_f, sem_ite, kIte_a, kIte2_a, selE_t, selE_f, sem_tup, sem_lst, kTup_a, kLst_a, pyAll_nil, pyAll_cons, sem_idx, kIdx_a, kIdx2_a, idxK_l, idxK_t, sem_slc, kSlc_a, kSlc2_a, kSlc3_a, slK_l, slK_t, kPart_n, kPart_i, sem_rev, kRev_a, revD_l, revD_t, sem_cal, kCal_a, calR_s, argAll_c, sem_bif, kBif_a, bifR_s, sem_mth, kMth_a, kMth2_a, mthR_s, idxK_s, rdAll_nil, rdAll_c, bif_len_l, bif_len_t, bif_tup_l, bif_tup_t, bif_lst_l, bif_lst_t, bif_len_s, bif_str_s, bif_repr, sem_isi, kIsi_a, add_ii, sub_ii, mul_ii, mul_ti, fdiv_ii, mod_ii, pow_ii, add_tt, add_ll, Ss_nil, Ss_cons, kSs_n, kSs_r, Ss_frz, frzR_nil, frzR_cons, frz1_own, frz1_d, S_set, kSet_pd, kSet_pn, kSet_pl, kSet_pb, kSet_o, kSet_c, S_unp, kUnp_a, unpR_s, setT_2, setT_3, S_exp, kExp_a, S_ret, kRet_d, kRet_n, kRet_l, S_rtv, rtvR_o, S_ite, kIf_a, kIf2_a, selS_t, selS_f, chgR_o, chgR_l, ownR_s, locR_s, appF_l, extF_l, subF_l, mutR_o, mutR_l, S_sub, kSub_a, subM_t, kSub2_a, subR_s, S_app, appM_t, kApp_a, appR_s, stepF_a, setR_s, setT_nm, S_for, kFor_a, F_of, kItF_dl, kItF_dt, kItF_ds, kItF_n, kItF_b, I_of, kItI_dl, kItI_dt, kItI_ds, kItI_n, kItI_b, kItI_l, I_rng, F_rng, kRng_a, I_rng2, F_rng2, kRg2_a, kRg3_a, sem_lc, kLc_a, kLc2_a, stepC_nm, wipeR_n, wipeR_c, kCs_a, selC_t, selC_f, kElt_d, kElt_n, Cs_nil, Cs_cons, kC1_a, kC2_a, csS_t, csS_f, csS_n, lv_d, lv_n, lv_x, Res.bind_ok, Res.ofO_some, Res.nox_ok, Option.bind_some, Option.map_some, List.getElem?_cons_zero, List.getElem?_cons_succ, List.set_cons_zero, List.set_cons_succ, f9, it, d0, e1, dr, e2, e3, e4, tupK, pyAll_nil, l1, a1, a2, if_true, t1]
    · have dr : decide (0 < r) = false := decide_eq_false hr
      obtain ⟨M, y, c2, q, hc2, hy, e0, e2, e3⟩ := bent_odd H hc1 h hB hL
      refine ⟨y, c2, hc2, hy, ?_⟩
      simp -implicitDefEqProofs only [sem_var, varR_d, varR_own, varR_bor, varR_loc, sem_con, sem_glo, rdk1_s, rdk2_s, rd_d, rd_new, rd_bor, rd_lent, rd_loc, dat_lst, py_d, py_new, arg_d, arg_new, arg_bor, arg_lent, arg_loc, argAll_nil, sems_nil, sems_cons, kEs_a, kPut_a, sem_bin, kBin_a, kBin2_a, sem_neg, kNeg_a, negK_i, truR_b, truR_i, truR_l, truR_t, truR_n, sem_nt, kNot_a, kNot2_a, sem_an, sem_oo, kAn_a, kOo_a, anS_t, anS_f, ooS_t, ooS_f, sem_cmp, kCmp_a, kCmp2_a, cmpK_lt, cmpK_le, cmpK_gt, cmpK_ge, sem_chn, kChn_a, kChn2_a, kChn3_a, chS_t, chS_f, sem_ite, kIte_a, kIte2_a, selE_t, selE_f, sem_tup, sem_lst, kTup_a, kLst_a, pyAll_nil, pyAll_cons, sem_idx, kIdx_a, kIdx2_a, idxK_l, idxK_t, sem_slc, kSlc_a, kSlc2_a, kSlc3_a, slK_l, slK_t, kPart_n, kPart_i, sem_rev, kRev_a, revD_l, revD_t, sem_cal, kCal_a, calR_s, argAll_c, sem_bif, kBif_a, bifR_s, sem_mth, kMth_a, kMth2_a, mthR_s, idxK_s, rdAll_nil, rdAll_c, bif_len_l, bif_len_t, bif_tup_l, bif_tup_t, bif_lst_l, bif_lst_t, bif_len_s, bif_str_s, bif_repr, sem_isi, kIsi_a, add_ii, sub_ii, mul_ii, mul_ti, fdiv_ii, mod_ii, pow_ii, add_tt, add_ll, Ss_nil, Ss_cons, kSs_n, kSs_r, Ss_frz, frzR_nil, frzR_cons, frz1_own, frz1_d, S_set, kSet_pd, kSet_pn, kSet_pl, kSet_pb, kSet_o, kSet_c, S_unp, kUnp_a, unpR_s, setT_2, setT_3, S_exp, kExp_a, S_ret, kRet_d, kRet_n, kRet_l, S_rtv, rtvR_o, S_ite, kIf_a, kIf2_a, selS_t, selS_f, chgR_o, chgR_l, ownR_s, locR_s, appF_l, extF_l, subF_l, mutR_o, mutR_l, S_sub, kSub_a, subM_t, kSub2_a, subR_s, S_app, appM_t, kApp_a, appR_s, stepF_a, setR_s, setT_nm, S_for, kFor_a, F_of, kItF_dl, kItF_dt, kItF_ds, kItF_n, kItF_b, I_of, kItI_dl, kItI_dt, kItI_ds, kItI_n, kItI_b, kItI_l, I_rng, F_rng, kRng_a, I_rng2, F_rng2, kRg2_a, kRg3_a, sem_lc, kLc_a, kLc2_a, stepC_nm, wipeR_n, wipeR_c, kCs_a, selC_t, selC_f, kElt_d, kElt_n, Cs_nil, Cs_cons, kC1_a, kC2_a, csS_t, csS_f, csS_n, lv_d, lv_n, lv_x, Res.bind_ok, Res.ofO_some, Res.nox_ok, Option.bind_some, Option.map_some, List.getElem?_cons_zero, List.getElem?_cons_succ, List.set_cons_zero, List.set_cons_succ, f9, it, d0, e1, dr, e0, e2, e3, t1]
  · have d0 : decide ((0 : Int) < ((xs.length : Nat) : Int)) = false := decide_eq_false (by omega)
    obtain ⟨M, y, c2, q, hc2, hy, e0, e2, e3⟩ := bent_odd H hc h hB hL
    refine ⟨y, c2, hc2, hy, ?_⟩
    simp -implicitDefEqProofs only [sem_var, varR_d, varR_own, varR_bor, varR_loc, sem_con, sem_glo, rdk1_s, rdk2_s, rd_d, rd_new, rd_bor, rd_lent, rd_loc, dat_lst, py_d, py_new, arg_d, arg_new, arg_bor, arg_lent, arg_loc, argAll_nil, sems_nil, sems_cons, kEs_a, kPut_a, sem_bin, kBin_a, kBin2_a, sem_neg, kNeg_a, negK_i, truR_b, truR_i, truR_l, truR_t, truR_n, sem_nt, kNot_a, kNot2_a, sem_an, sem_oo, kAn_a, kOo_a, anS_t, anS_f, ooS_t, ooS_f, sem_cmp, kCmp_a, kCmp2_a, cmpK_lt, cmpK_le, cmpK_gt, cmpK_ge, sem_chn, kChn_a, kChn2_a, kChn3_a, chS_t, chS_f, sem_ite, kIte_a, kIte2_a, selE_t, selE_f, sem_tup, sem_lst, kTup_a, kLst_a, pyAll_nil, pyAll_cons, sem_idx, kIdx_a, kIdx2_a, idxK_l, idxK_t, sem_slc, kSlc_a, kSlc2_a, kSlc3_a, slK_l, slK_t, kPart_n, kPart_i, sem_rev, kRev_a, revD_l, revD_t, sem_cal, kCal_a, calR_s, argAll_c, sem_bif, kBif_a, bifR_s, sem_mth, kMth_a, kMth2_a, mthR_s, idxK_s, rdAll_nil, rdAll_c, bif_len_l, bif_len_t, bif_tup_l, bif_tup_t, bif_lst_l, bif_lst_t, bif_len_s, bif_str_s, bif_repr, sem_isi, kIsi_a, add_ii, sub_ii, mul_ii, mul_ti, fdiv_ii, mod_ii, pow_ii, add_tt, add_ll, Ss_nil, Ss_cons, kSs_n, kSs_r, Ss_frz, frzR_nil, frzR_cons, frz1_own, frz1_d, S_set, kSet_pd, kSet_pn, kSet_pl, kSet_pb, kSet_o, kSet_c, S_unp, kUnp_a, unpR_s, setT_2, setT_3, S_exp, kExp_a, S_ret, kRet_d, kRet_n, kRet_l, S_rtv, rtvR_o, S_ite, kIf_a, kIf2_a, selS_t, selS_f, chgR_o, chgR_l, ownR_s, locR_s, appF_l, extF_l, subF_l, mutR_o, mutR_l, S_sub, kSub_a, subM_t, kSub2_a, subR_s, S_app, appM_t, kApp_a, appR_s, stepF_a, setR_s, setT_nm, S_for, kFor_a, F_of, kItF_dl, kItF_dt, kItF_ds, kItF_n, kItF_b, I_of, kItI_dl, kItI_dt, kItI_ds, kItI_n, kItI_b, kItI_l, I_rng, F_rng, kRng_a, I_rng2, F_rng2, kRg2_a, kRg3_a, sem_lc, kLc_a, kLc2_a, stepC_nm, wipeR_n, wipeR_c, kCs_a, selC_t, selC_f, kElt_d, kElt_n, Cs_nil, Cs_cons, kC1_a, kC2_a, csS_t, csS_f, csS_n, lv_d, lv_n, lv_x, Res.bind_ok, Res.ofO_some, Res.nox_ok, Option.bind_some, Option.map_some, List.getElem?_cons_zero, List.getElem?_cons_succ, List.set_cons_zero, List.set_cons_succ, f9, it, d0, e0, e2, e3, t1]
theorem bent_gen {B L : Nat} (hB : B ≤ 10 ^ 45) (hL : L ≤ 100) : ∀ D k : Nat, BentOf (phi fs (k + D + 2)) B L D
  | 0, k, c, x, hc, h => by
    rw [phi_at (f := f9) rfl ⟨rfl, by decide⟩]
    refine bentN_ok (bentH k) hB hL hc h ?_
    cases x with
    | tuple xs => have := h.2; simp only [PyData.depth] at this; omega
    | dict _ => have := h.1; simp [bdB] at this
    | _ => rfl
  | D + 1, k, c, x, hc, h => by
    have e : k + (D + 1) + 2 = (k + D + 2) + 1 := by omega
    rw [e, phi_at (f := f9) rfl ⟨rfl, by decide⟩]
    have H : BentH (phi fs (k + D + 2)) := bentH (k + D + 1)
    cases x with
    | tuple xs => exact bentT_ok H hB hL (bent_gen hB hL D k) hc h
    | dict _ => have := h.1; simp [bdB] at this
    | _ => exact bentN_ok H hB hL hc h rfl
/-! dots, names, things -/
def dotB : PyData → Bool
  | .tuple [a, b] => seatB a && whB b 1
  | _ => false
theorem len2 {xs : List PyData} (h : xs.length = 2) : ∃ a b, xs = [a, b] := by
  match xs, h with
  | [a, b], _ => exact ⟨a, b, rfl⟩
theorem len3 {xs : List PyData} (h : xs.length = 3) : ∃ a b c, xs = [a, b, c] := by
  match xs, h with
  | [a, b, c], _ => exact ⟨a, b, c, rfl⟩
theorem dotB_no {xs : List PyData} (h : xs.length ≠ 2) : dotB (.tuple xs) = false := by
  unfold dotB
  split
  · rename_i e; cases e; exact absurd rfl h
  · rfl
theorem p50 : ((0 : Int) ≤ 50 ∧ (50 : Int) ≤ 1000000 ∧ within64 10 = true) = True := eq_true (by decide)
theorem t50 : (10 : Int) ^ (50 : Int).toNat = 10 ^ 50 := rfl
structure SeatH (Φ : Phi) : Prop where
  whole : ∀ (x : PyData) (lo : Int) (st : Stt), noD x = true → Φ 0 [.d x, .d (.int lo)] st = .ok (.d (.bool (whB x lo))) st
  upto : ∀ (x : PyData) (lo hi : Int) (st : Stt), noD x = true → Φ 1 [.d x, .d (.int lo), .d (.int hi)] st = .ok (.d (.bool (upB x lo hi))) st
  lwh : ∀ (x : PyData) (lo hi : Int) (st : Stt), noD x = true → Φ 10 [.d x, .d (.int lo), .d (.int hi)] st = .ok (.d (.bool (upB x lo hi))) st
  seat : ∀ (x : PyData) (st : Stt), Th x → Φ 2 [.d x] st = .ok (.d (.bool (seatB x))) st
  lseat : ∀ (x : PyData) (st : Stt), Th x → Φ 11 [.d x] st = .ok (.d (.bool (seatB x))) st
theorem seatH (k : Nat) : SeatH (phi fs (k + 3)) where
  whole := fun x lo st h => by rw [phi_at (f := f0) rfl ⟨rfl, by decide⟩]; exact whole_ok h
  upto := (calH (k + 1)).upto
  lwh := (calH (k + 1)).lwh
  seat := fun x st h => by rw [phi_at (f := f2) rfl ⟨rfl, by decide⟩]; exact is_seat_ok (calH k) h
  lseat := fun x st h => by rw [phi_at (f := f11) rfl ⟨rfl, by decide⟩]; exact lseat_ok (calH k) h
theorem is_dot_ok {Φ : Phi} (H : SeatH Φ) {x : PyData} {st : Stt} (h : Th x) : leaveW st.length (semSs Φ f3.body [some (.d x)] st) = .ok (.d (.bool (dotB x))) st := by
  cases x with
  | dict _ => have := h.noD; cases this
  | int i => simp -implicitDefEqProofs only [sem_var, varR_d, varR_own, varR_bor, varR_loc, sem_con, sem_glo, rdk1_s, rdk2_s, rd_d, rd_new, rd_bor, rd_lent, rd_loc, dat_lst, py_d, py_new, arg_d, arg_new, arg_bor, arg_lent, arg_loc, argAll_nil, sems_nil, sems_cons, kEs_a, kPut_a, sem_bin, kBin_a, kBin2_a, sem_neg, kNeg_a, negK_i, truR_b, truR_i, truR_l, truR_t, truR_n, sem_nt, kNot_a, kNot2_a, sem_an, sem_oo, kAn_a, kOo_a, anS_t, anS_f, ooS_t, ooS_f, sem_cmp, kCmp_a, kCmp2_a, cmpK_lt, cmpK_le, cmpK_gt, cmpK_ge, sem_chn, kChn_a, kChn2_a, kChn3_a, chS_t, chS_f, sem_ite, kIte_a, kIte2_a, selE_t, selE_f, sem_tup, sem_lst, kTup_a, kLst_a, pyAll_nil, pyAll_cons, sem_idx, kIdx_a, kIdx2_a, idxK_l, idxK_t, sem_slc, kSlc_a, kSlc2_a, kSlc3_a, slK_l, slK_t, kPart_n, kPart_i, sem_rev, kRev_a, revD_l, revD_t, sem_cal, kCal_a, calR_s, argAll_c, sem_bif, kBif_a, bifR_s, sem_mth, kMth_a, kMth2_a, mthR_s, idxK_s, rdAll_nil, rdAll_c, bif_len_l, bif_len_t, bif_tup_l, bif_tup_t, bif_lst_l, bif_lst_t, bif_len_s, bif_str_s, bif_repr, sem_isi, kIsi_a, add_ii, sub_ii, mul_ii, mul_ti, fdiv_ii, mod_ii, pow_ii, add_tt, add_ll, Ss_nil, Ss_cons, kSs_n, kSs_r, Ss_frz, frzR_nil, frzR_cons, frz1_own, frz1_d, S_set, kSet_pd, kSet_pn, kSet_pl, kSet_pb, kSet_o, kSet_c, S_unp, kUnp_a, unpR_s, setT_2, setT_3, S_exp, kExp_a, S_ret, kRet_d, kRet_n, kRet_l, S_rtv, rtvR_o, S_ite, kIf_a, kIf2_a, selS_t, selS_f, chgR_o, chgR_l, ownR_s, locR_s, appF_l, extF_l, subF_l, mutR_o, mutR_l, S_sub, kSub_a, subM_t, kSub2_a, subR_s, S_app, appM_t, kApp_a, appR_s, stepF_a, setR_s, setT_nm, S_for, kFor_a, F_of, kItF_dl, kItF_dt, kItF_ds, kItF_n, kItF_b, I_of, kItI_dl, kItI_dt, kItI_ds, kItI_n, kItI_b, kItI_l, I_rng, F_rng, kRng_a, I_rng2, F_rng2, kRg2_a, kRg3_a, sem_lc, kLc_a, kLc2_a, stepC_nm, wipeR_n, wipeR_c, kCs_a, selC_t, selC_f, kElt_d, kElt_n, Cs_nil, Cs_cons, kC1_a, kC2_a, csS_t, csS_f, csS_n, lv_d, lv_n, lv_x, Res.bind_ok, Res.ofO_some, Res.nox_ok, Option.bind_some, Option.map_some, List.getElem?_cons_zero, List.getElem?_cons_succ, List.set_cons_zero, List.set_cons_succ, f3, isi_of (.int i) .tuple false rfl, dotB, List.take_length]
  | bool i => simp -implicitDefEqProofs only [sem_var, varR_d, varR_own, varR_bor, varR_loc, sem_con, sem_glo, rdk1_s, rdk2_s, rd_d, rd_new, rd_bor, rd_lent, rd_loc, dat_lst, py_d, py_new, arg_d, arg_new, arg_bor, arg_lent, arg_loc, argAll_nil, sems_nil, sems_cons, kEs_a, kPut_a, sem_bin, kBin_a, kBin2_a, sem_neg, kNeg_a, negK_i, truR_b, truR_i, truR_l, truR_t, truR_n, sem_nt, kNot_a, kNot2_a, sem_an, sem_oo, kAn_a, kOo_a, anS_t, anS_f, ooS_t, ooS_f, sem_cmp, kCmp_a, kCmp2_a, cmpK_lt, cmpK_le, cmpK_gt, cmpK_ge, sem_chn, kChn_a, kChn2_a, kChn3_a, chS_t, chS_f, sem_ite, kIte_a, kIte2_a, selE_t, selE_f, sem_tup, sem_lst, kTup_a, kLst_a, pyAll_nil, pyAll_cons, sem_idx, kIdx_a, kIdx2_a, idxK_l, idxK_t, sem_slc, kSlc_a, kSlc2_a, kSlc3_a, slK_l, slK_t, kPart_n, kPart_i, sem_rev, kRev_a, revD_l, revD_t, sem_cal, kCal_a, calR_s, argAll_c, sem_bif, kBif_a, bifR_s, sem_mth, kMth_a, kMth2_a, mthR_s, idxK_s, rdAll_nil, rdAll_c, bif_len_l, bif_len_t, bif_tup_l, bif_tup_t, bif_lst_l, bif_lst_t, bif_len_s, bif_str_s, bif_repr, sem_isi, kIsi_a, add_ii, sub_ii, mul_ii, mul_ti, fdiv_ii, mod_ii, pow_ii, add_tt, add_ll, Ss_nil, Ss_cons, kSs_n, kSs_r, Ss_frz, frzR_nil, frzR_cons, frz1_own, frz1_d, S_set, kSet_pd, kSet_pn, kSet_pl, kSet_pb, kSet_o, kSet_c, S_unp, kUnp_a, unpR_s, setT_2, setT_3, S_exp, kExp_a, S_ret, kRet_d, kRet_n, kRet_l, S_rtv, rtvR_o, S_ite, kIf_a, kIf2_a, selS_t, selS_f, chgR_o, chgR_l, ownR_s, locR_s, appF_l, extF_l, subF_l, mutR_o, mutR_l, S_sub, kSub_a, subM_t, kSub2_a, subR_s, S_app, appM_t, kApp_a, appR_s, stepF_a, setR_s, setT_nm, S_for, kFor_a, F_of, kItF_dl, kItF_dt, kItF_ds, kItF_n, kItF_b, I_of, kItI_dl, kItI_dt, kItI_ds, kItI_n, kItI_b, kItI_l, I_rng, F_rng, kRng_a, I_rng2, F_rng2, kRg2_a, kRg3_a, sem_lc, kLc_a, kLc2_a, stepC_nm, wipeR_n, wipeR_c, kCs_a, selC_t, selC_f, kElt_d, kElt_n, Cs_nil, Cs_cons, kC1_a, kC2_a, csS_t, csS_f, csS_n, lv_d, lv_n, lv_x, Res.bind_ok, Res.ofO_some, Res.nox_ok, Option.bind_some, Option.map_some, List.getElem?_cons_zero, List.getElem?_cons_succ, List.set_cons_zero, List.set_cons_succ, f3, isi_of (.bool i) .tuple false rfl, dotB, List.take_length]
  | none => simp -implicitDefEqProofs only [sem_var, varR_d, varR_own, varR_bor, varR_loc, sem_con, sem_glo, rdk1_s, rdk2_s, rd_d, rd_new, rd_bor, rd_lent, rd_loc, dat_lst, py_d, py_new, arg_d, arg_new, arg_bor, arg_lent, arg_loc, argAll_nil, sems_nil, sems_cons, kEs_a, kPut_a, sem_bin, kBin_a, kBin2_a, sem_neg, kNeg_a, negK_i, truR_b, truR_i, truR_l, truR_t, truR_n, sem_nt, kNot_a, kNot2_a, sem_an, sem_oo, kAn_a, kOo_a, anS_t, anS_f, ooS_t, ooS_f, sem_cmp, kCmp_a, kCmp2_a, cmpK_lt, cmpK_le, cmpK_gt, cmpK_ge, sem_chn, kChn_a, kChn2_a, kChn3_a, chS_t, chS_f, sem_ite, kIte_a, kIte2_a, selE_t, selE_f, sem_tup, sem_lst, kTup_a, kLst_a, pyAll_nil, pyAll_cons, sem_idx, kIdx_a, kIdx2_a, idxK_l, idxK_t, sem_slc, kSlc_a, kSlc2_a, kSlc3_a, slK_l, slK_t, kPart_n, kPart_i, sem_rev, kRev_a, revD_l, revD_t, sem_cal, kCal_a, calR_s, argAll_c, sem_bif, kBif_a, bifR_s, sem_mth, kMth_a, kMth2_a, mthR_s, idxK_s, rdAll_nil, rdAll_c, bif_len_l, bif_len_t, bif_tup_l, bif_tup_t, bif_lst_l, bif_lst_t, bif_len_s, bif_str_s, bif_repr, sem_isi, kIsi_a, add_ii, sub_ii, mul_ii, mul_ti, fdiv_ii, mod_ii, pow_ii, add_tt, add_ll, Ss_nil, Ss_cons, kSs_n, kSs_r, Ss_frz, frzR_nil, frzR_cons, frz1_own, frz1_d, S_set, kSet_pd, kSet_pn, kSet_pl, kSet_pb, kSet_o, kSet_c, S_unp, kUnp_a, unpR_s, setT_2, setT_3, S_exp, kExp_a, S_ret, kRet_d, kRet_n, kRet_l, S_rtv, rtvR_o, S_ite, kIf_a, kIf2_a, selS_t, selS_f, chgR_o, chgR_l, ownR_s, locR_s, appF_l, extF_l, subF_l, mutR_o, mutR_l, S_sub, kSub_a, subM_t, kSub2_a, subR_s, S_app, appM_t, kApp_a, appR_s, stepF_a, setR_s, setT_nm, S_for, kFor_a, F_of, kItF_dl, kItF_dt, kItF_ds, kItF_n, kItF_b, I_of, kItI_dl, kItI_dt, kItI_ds, kItI_n, kItI_b, kItI_l, I_rng, F_rng, kRng_a, I_rng2, F_rng2, kRg2_a, kRg3_a, sem_lc, kLc_a, kLc2_a, stepC_nm, wipeR_n, wipeR_c, kCs_a, selC_t, selC_f, kElt_d, kElt_n, Cs_nil, Cs_cons, kC1_a, kC2_a, csS_t, csS_f, csS_n, lv_d, lv_n, lv_x, Res.bind_ok, Res.ofO_some, Res.nox_ok, Option.bind_some, Option.map_some, List.getElem?_cons_zero, List.getElem?_cons_succ, List.set_cons_zero, List.set_cons_succ, f3, isi_of .none .tuple false rfl, dotB, List.take_length]
  | str i => simp -implicitDefEqProofs only [sem_var, varR_d, varR_own, varR_bor, varR_loc, sem_con, sem_glo, rdk1_s, rdk2_s, rd_d, rd_new, rd_bor, rd_lent, rd_loc, dat_lst, py_d, py_new, arg_d, arg_new, arg_bor, arg_lent, arg_loc, argAll_nil, sems_nil, sems_cons, kEs_a, kPut_a, sem_bin, kBin_a, kBin2_a, sem_neg, kNeg_a, negK_i, truR_b, truR_i, truR_l, truR_t, truR_n, sem_nt, kNot_a, kNot2_a, sem_an, sem_oo, kAn_a, kOo_a, anS_t, anS_f, ooS_t, ooS_f, sem_cmp, kCmp_a, kCmp2_a, cmpK_lt, cmpK_le, cmpK_gt, cmpK_ge, sem_chn, kChn_a, kChn2_a, kChn3_a, chS_t, chS_f, sem_ite, kIte_a, kIte2_a, selE_t, selE_f, sem_tup, sem_lst, kTup_a, kLst_a, pyAll_nil, pyAll_cons, sem_idx, kIdx_a, kIdx2_a, idxK_l, idxK_t, sem_slc, kSlc_a, kSlc2_a, kSlc3_a, slK_l, slK_t, kPart_n, kPart_i, sem_rev, kRev_a, revD_l, revD_t, sem_cal, kCal_a, calR_s, argAll_c, sem_bif, kBif_a, bifR_s, sem_mth, kMth_a, kMth2_a, mthR_s, idxK_s, rdAll_nil, rdAll_c, bif_len_l, bif_len_t, bif_tup_l, bif_tup_t, bif_lst_l, bif_lst_t, bif_len_s, bif_str_s, bif_repr, sem_isi, kIsi_a, add_ii, sub_ii, mul_ii, mul_ti, fdiv_ii, mod_ii, pow_ii, add_tt, add_ll, Ss_nil, Ss_cons, kSs_n, kSs_r, Ss_frz, frzR_nil, frzR_cons, frz1_own, frz1_d, S_set, kSet_pd, kSet_pn, kSet_pl, kSet_pb, kSet_o, kSet_c, S_unp, kUnp_a, unpR_s, setT_2, setT_3, S_exp, kExp_a, S_ret, kRet_d, kRet_n, kRet_l, S_rtv, rtvR_o, S_ite, kIf_a, kIf2_a, selS_t, selS_f, chgR_o, chgR_l, ownR_s, locR_s, appF_l, extF_l, subF_l, mutR_o, mutR_l, S_sub, kSub_a, subM_t, kSub2_a, subR_s, S_app, appM_t, kApp_a, appR_s, stepF_a, setR_s, setT_nm, S_for, kFor_a, F_of, kItF_dl, kItF_dt, kItF_ds, kItF_n, kItF_b, I_of, kItI_dl, kItI_dt, kItI_ds, kItI_n, kItI_b, kItI_l, I_rng, F_rng, kRng_a, I_rng2, F_rng2, kRg2_a, kRg3_a, sem_lc, kLc_a, kLc2_a, stepC_nm, wipeR_n, wipeR_c, kCs_a, selC_t, selC_f, kElt_d, kElt_n, Cs_nil, Cs_cons, kC1_a, kC2_a, csS_t, csS_f, csS_n, lv_d, lv_n, lv_x, Res.bind_ok, Res.ofO_some, Res.nox_ok, Option.bind_some, Option.map_some, List.getElem?_cons_zero, List.getElem?_cons_succ, List.set_cons_zero, List.set_cons_succ, f3, isi_of (.str i) .tuple false rfl, dotB, List.take_length]
  | list i => simp -implicitDefEqProofs only [sem_var, varR_d, varR_own, varR_bor, varR_loc, sem_con, sem_glo, rdk1_s, rdk2_s, rd_d, rd_new, rd_bor, rd_lent, rd_loc, dat_lst, py_d, py_new, arg_d, arg_new, arg_bor, arg_lent, arg_loc, argAll_nil, sems_nil, sems_cons, kEs_a, kPut_a, sem_bin, kBin_a, kBin2_a, sem_neg, kNeg_a, negK_i, truR_b, truR_i, truR_l, truR_t, truR_n, sem_nt, kNot_a, kNot2_a, sem_an, sem_oo, kAn_a, kOo_a, anS_t, anS_f, ooS_t, ooS_f, sem_cmp, kCmp_a, kCmp2_a, cmpK_lt, cmpK_le, cmpK_gt, cmpK_ge, sem_chn, kChn_a, kChn2_a, kChn3_a, chS_t, chS_f, sem_ite, kIte_a, kIte2_a, selE_t, selE_f, sem_tup, sem_lst, kTup_a, kLst_a, pyAll_nil, pyAll_cons, sem_idx, kIdx_a, kIdx2_a, idxK_l, idxK_t, sem_slc, kSlc_a, kSlc2_a, kSlc3_a, slK_l, slK_t, kPart_n, kPart_i, sem_rev, kRev_a, revD_l, revD_t, sem_cal, kCal_a, calR_s, argAll_c, sem_bif, kBif_a, bifR_s, sem_mth, kMth_a, kMth2_a, mthR_s, idxK_s, rdAll_nil, rdAll_c, bif_len_l, bif_len_t, bif_tup_l, bif_tup_t, bif_lst_l, bif_lst_t, bif_len_s, bif_str_s, bif_repr, sem_isi, kIsi_a, add_ii, sub_ii, mul_ii, mul_ti, fdiv_ii, mod_ii, pow_ii, add_tt, add_ll, Ss_nil, Ss_cons, kSs_n, kSs_r, Ss_frz, frzR_nil, frzR_cons, frz1_own, frz1_d, S_set, kSet_pd, kSet_pn, kSet_pl, kSet_pb, kSet_o, kSet_c, S_unp, kUnp_a, unpR_s, setT_2, setT_3, S_exp, kExp_a, S_ret, kRet_d, kRet_n, kRet_l, S_rtv, rtvR_o, S_ite, kIf_a, kIf2_a, selS_t, selS_f, chgR_o, chgR_l, ownR_s, locR_s, appF_l, extF_l, subF_l, mutR_o, mutR_l, S_sub, kSub_a, subM_t, kSub2_a, subR_s, S_app, appM_t, kApp_a, appR_s, stepF_a, setR_s, setT_nm, S_for, kFor_a, F_of, kItF_dl, kItF_dt, kItF_ds, kItF_n, kItF_b, I_of, kItI_dl, kItI_dt, kItI_ds, kItI_n, kItI_b, kItI_l, I_rng, F_rng, kRng_a, I_rng2, F_rng2, kRg2_a, kRg3_a, sem_lc, kLc_a, kLc2_a, stepC_nm, wipeR_n, wipeR_c, kCs_a, selC_t, selC_f, kElt_d, kElt_n, Cs_nil, Cs_cons, kC1_a, kC2_a, csS_t, csS_f, csS_n, lv_d, lv_n, lv_x, Res.bind_ok, Res.ofO_some, Res.nox_ok, Option.bind_some, Option.map_some, List.getElem?_cons_zero, List.getElem?_cons_succ, List.set_cons_zero, List.set_cons_succ, f3, isi_of (.list i) .tuple false rfl, dotB, List.take_length]
  | tuple xs =>
    have it := isi_of (.tuple xs) .tuple true rfl
    by_cases hl : xs.length = 2
    · obtain ⟨a, b, rfl⟩ := len2 hl
      have e2 : decide ((([a, b].length : Nat) : Int) = 2) = true := decide_eq_true rfl
      have ha := h.items a (List.mem_cons_self ..)
      have hb := h.items b (List.mem_cons_of_mem _ (List.mem_cons_self ..))
      have es := H.seat a st ha
      have ew := H.whole b 1 st hb.noD
      cases hs : seatB a with
      | false =>
        rw [hs] at es
        simp -implicitDefEqProofs only [sem_var, varR_d, varR_own, varR_bor, varR_loc, sem_con, sem_glo, rdk1_s, rdk2_s, rd_d, rd_new, rd_bor, rd_lent, rd_loc, dat_lst, py_d, py_new, arg_d, arg_new, arg_bor, arg_lent, arg_loc, argAll_nil, sems_nil, sems_cons, kEs_a, kPut_a, sem_bin, kBin_a, kBin2_a, sem_neg, kNeg_a, negK_i, truR_b, truR_i, truR_l, truR_t, truR_n, sem_nt, kNot_a, kNot2_a, sem_an, sem_oo, kAn_a, kOo_a, anS_t, anS_f, ooS_t, ooS_f, sem_cmp, kCmp_a, kCmp2_a, cmpK_lt, cmpK_le, cmpK_gt, cmpK_ge, sem_chn, kChn_a, kChn2_a, kChn3_a, chS_t, chS_f, sem_ite, kIte_a, kIte2_a, selE_t, selE_f, sem_tup, sem_lst, kTup_a, kLst_a, pyAll_nil, pyAll_cons, sem_idx, kIdx_a, kIdx2_a, idxK_l, idxK_t, sem_slc, kSlc_a, kSlc2_a, kSlc3_a, slK_l, slK_t, kPart_n, kPart_i, sem_rev, kRev_a, revD_l, revD_t, sem_cal, kCal_a, calR_s, argAll_c, sem_bif, kBif_a, bifR_s, sem_mth, kMth_a, kMth2_a, mthR_s, idxK_s, rdAll_nil, rdAll_c, bif_len_l, bif_len_t, bif_tup_l, bif_tup_t, bif_lst_l, bif_lst_t, bif_len_s, bif_str_s, bif_repr, sem_isi, kIsi_a, add_ii, sub_ii, mul_ii, mul_ti, fdiv_ii, mod_ii, pow_ii, add_tt, add_ll, Ss_nil, Ss_cons, kSs_n, kSs_r, Ss_frz, frzR_nil, frzR_cons, frz1_own, frz1_d, S_set, kSet_pd, kSet_pn, kSet_pl, kSet_pb, kSet_o, kSet_c, S_unp, kUnp_a, unpR_s, setT_2, setT_3, S_exp, kExp_a, S_ret, kRet_d, kRet_n, kRet_l, S_rtv, rtvR_o, S_ite, kIf_a, kIf2_a, selS_t, selS_f, chgR_o, chgR_l, ownR_s, locR_s, appF_l, extF_l, subF_l, mutR_o, mutR_l, S_sub, kSub_a, subM_t, kSub2_a, subR_s, S_app, appM_t, kApp_a, appR_s, stepF_a, setR_s, setT_nm, S_for, kFor_a, F_of, kItF_dl, kItF_dt, kItF_ds, kItF_n, kItF_b, I_of, kItI_dl, kItI_dt, kItI_ds, kItI_n, kItI_b, kItI_l, I_rng, F_rng, kRng_a, I_rng2, F_rng2, kRg2_a, kRg3_a, sem_lc, kLc_a, kLc2_a, stepC_nm, wipeR_n, wipeR_c, kCs_a, selC_t, selC_f, kElt_d, kElt_n, Cs_nil, Cs_cons, kC1_a, kC2_a, csS_t, csS_f, csS_n, lv_d, lv_n, lv_x, Res.bind_ok, Res.ofO_some, Res.nox_ok, Option.bind_some, Option.map_some, List.getElem?_cons_zero, List.getElem?_cons_succ, List.set_cons_zero, List.set_cons_succ, f3, it, cmp_eq, eqD_ii, toB_s, e2, atI_0, es, dotB, hs, Bool.false_and, List.take_length]
      | true =>
        rw [hs] at es
        simp -implicitDefEqProofs only [sem_var, varR_d, varR_own, varR_bor, varR_loc, sem_con, sem_glo, rdk1_s, rdk2_s, rd_d, rd_new, rd_bor, rd_lent, rd_loc, dat_lst, py_d, py_new, arg_d, arg_new, arg_bor, arg_lent, arg_loc, argAll_nil, sems_nil, sems_cons, kEs_a, kPut_a, sem_bin, kBin_a, kBin2_a, sem_neg, kNeg_a, negK_i, truR_b, truR_i, truR_l, truR_t, truR_n, sem_nt, kNot_a, kNot2_a, sem_an, sem_oo, kAn_a, kOo_a, anS_t, anS_f, ooS_t, ooS_f, sem_cmp, kCmp_a, kCmp2_a, cmpK_lt, cmpK_le, cmpK_gt, cmpK_ge, sem_chn, kChn_a, kChn2_a, kChn3_a, chS_t, chS_f, sem_ite, kIte_a, kIte2_a, selE_t, selE_f, sem_tup, sem_lst, kTup_a, kLst_a, pyAll_nil, pyAll_cons, sem_idx, kIdx_a, kIdx2_a, idxK_l, idxK_t, sem_slc, kSlc_a, kSlc2_a, kSlc3_a, slK_l, slK_t, kPart_n, kPart_i, sem_rev, kRev_a, revD_l, revD_t, sem_cal, kCal_a, calR_s, argAll_c, sem_bif, kBif_a, bifR_s, sem_mth, kMth_a, kMth2_a, mthR_s, idxK_s, rdAll_nil, rdAll_c, bif_len_l, bif_len_t, bif_tup_l, bif_tup_t, bif_lst_l, bif_lst_t, bif_len_s, bif_str_s, bif_repr, sem_isi, kIsi_a, add_ii, sub_ii, mul_ii, mul_ti, fdiv_ii, mod_ii, pow_ii, add_tt, add_ll, Ss_nil, Ss_cons, kSs_n, kSs_r, Ss_frz, frzR_nil, frzR_cons, frz1_own, frz1_d, S_set, kSet_pd, kSet_pn, kSet_pl, kSet_pb, kSet_o, kSet_c, S_unp, kUnp_a, unpR_s, setT_2, setT_3, S_exp, kExp_a, S_ret, kRet_d, kRet_n, kRet_l, S_rtv, rtvR_o, S_ite, kIf_a, kIf2_a, selS_t, selS_f, chgR_o, chgR_l, ownR_s, locR_s, appF_l, extF_l, subF_l, mutR_o, mutR_l, S_sub, kSub_a, subM_t, kSub2_a, subR_s, S_app, appM_t, kApp_a, appR_s, stepF_a, setR_s, setT_nm, S_for, kFor_a, F_of, kItF_dl, kItF_dt, kItF_ds, kItF_n, kItF_b, I_of, kItI_dl, kItI_dt, kItI_ds, kItI_n, kItI_b, kItI_l, I_rng, F_rng, kRng_a, I_rng2, F_rng2, kRg2_a, kRg3_a, sem_lc, kLc_a, kLc2_a, stepC_nm, wipeR_n, wipeR_c, kCs_a, selC_t, selC_f, kElt_d, kElt_n, Cs_nil, Cs_cons, kC1_a, kC2_a, csS_t, csS_f, csS_n, lv_d, lv_n, lv_x, Res.bind_ok, Res.ofO_some, Res.nox_ok, Option.bind_some, Option.map_some, List.getElem?_cons_zero, List.getElem?_cons_succ, List.set_cons_zero, List.set_cons_succ, f3, it, cmp_eq, eqD_ii, toB_s, e2, atI_0, atI_1, es, ew, dotB, hs, Bool.true_and, List.take_length]
    · have e2 : decide (((xs.length : Nat) : Int) = 2) = false := decide_eq_false (by omega)
      simp -implicitDefEqProofs only [sem_var, varR_d, varR_own, varR_bor, varR_loc, sem_con, sem_glo, rdk1_s, rdk2_s, rd_d, rd_new, rd_bor, rd_lent, rd_loc, dat_lst, py_d, py_new, arg_d, arg_new, arg_bor, arg_lent, arg_loc, argAll_nil, sems_nil, sems_cons, kEs_a, kPut_a, sem_bin, kBin_a, kBin2_a, sem_neg, kNeg_a, negK_i, truR_b, truR_i, truR_l, truR_t, truR_n, sem_nt, kNot_a, kNot2_a, sem_an, sem_oo, kAn_a, kOo_a, anS_t, anS_f, ooS_t, ooS_f, sem_cmp, kCmp_a, kCmp2_a, cmpK_lt, cmpK_le, cmpK_gt, cmpK_ge, sem_chn, kChn_a, kChn2_a, kChn3_a, chS_t, chS_f, sem_ite, kIte_a, kIte2_a, selE_t, selE_f, sem_tup, sem_lst, kTup_a, kLst_a, pyAll_nil, pyAll_cons, sem_idx, kIdx_a, kIdx2_a, idxK_l, idxK_t, sem_slc, kSlc_a, kSlc2_a, kSlc3_a, slK_l, slK_t, kPart_n, kPart_i, sem_rev, kRev_a, revD_l, revD_t, sem_cal, kCal_a, calR_s, argAll_c, sem_bif, kBif_a, bifR_s, sem_mth, kMth_a, kMth2_a, mthR_s, idxK_s, rdAll_nil, rdAll_c, bif_len_l, bif_len_t, bif_tup_l, bif_tup_t, bif_lst_l, bif_lst_t, bif_len_s, bif_str_s, bif_repr, sem_isi, kIsi_a, add_ii, sub_ii, mul_ii, mul_ti, fdiv_ii, mod_ii, pow_ii, add_tt, add_ll, Ss_nil, Ss_cons, kSs_n, kSs_r, Ss_frz, frzR_nil, frzR_cons, frz1_own, frz1_d, S_set, kSet_pd, kSet_pn, kSet_pl, kSet_pb, kSet_o, kSet_c, S_unp, kUnp_a, unpR_s, setT_2, setT_3, S_exp, kExp_a, S_ret, kRet_d, kRet_n, kRet_l, S_rtv, rtvR_o, S_ite, kIf_a, kIf2_a, selS_t, selS_f, chgR_o, chgR_l, ownR_s, locR_s, appF_l, extF_l, subF_l, mutR_o, mutR_l, S_sub, kSub_a, subM_t, kSub2_a, subR_s, S_app, appM_t, kApp_a, appR_s, stepF_a, setR_s, setT_nm, S_for, kFor_a, F_of, kItF_dl, kItF_dt, kItF_ds, kItF_n, kItF_b, I_of, kItI_dl, kItI_dt, kItI_ds, kItI_n, kItI_b, kItI_l, I_rng, F_rng, kRng_a, I_rng2, F_rng2, kRg2_a, kRg3_a, sem_lc, kLc_a, kLc2_a, stepC_nm, wipeR_n, wipeR_c, kCs_a, selC_t, selC_f, kElt_d, kElt_n, Cs_nil, Cs_cons, kC1_a, kC2_a, csS_t, csS_f, csS_n, lv_d, lv_n, lv_x, Res.bind_ok, Res.ofO_some, Res.nox_ok, Option.bind_some, Option.map_some, List.getElem?_cons_zero, List.getElem?_cons_succ, List.set_cons_zero, List.set_cons_succ, f3, it, cmp_eq, eqD_ii, toB_s, e2, dotB_no hl, List.take_length]
theorem up_wh {B L D : Nat} {x : PyData} {lo : Int} (h : Bd B L D x) (hB : B ≤ 10 ^ 50) : upB x lo (10 ^ 50) = whB x lo := by
  cases x with
  | int i =>
    have hi : i.natAbs ≤ B := by have := h.1; simpa only [bdB, decide_eq_true_eq] using this
    show (decide (lo ≤ i) && decide (i ≤ 10 ^ 50)) = decide (lo ≤ i)
    rw [decide_eq_true (show i ≤ 10 ^ 50 by omega), Bool.and_true]
  | _ => rfl
theorem ldot_ok {Φ : Phi} (H : SeatH Φ) {B L D : Nat} {x : PyData} {st : Stt} (hb : Bd B L D x) (hD : D ≤ 20) (hB : B ≤ 10 ^ 50) : leaveW st.length (semSs Φ f12.body [some (.d x)] st) = .ok (.d (.bool (dotB x))) st := by
  have h : Th x := hb.th hD
  cases x with
  | dict _ => have := h.noD; cases this
  | int i => simp -implicitDefEqProofs only [sem_var, varR_d, varR_own, varR_bor, varR_loc, sem_con, sem_glo, rdk1_s, rdk2_s, rd_d, rd_new, rd_bor, rd_lent, rd_loc, dat_lst, py_d, py_new, arg_d, arg_new, arg_bor, arg_lent, arg_loc, argAll_nil, sems_nil, sems_cons, kEs_a, kPut_a, sem_bin, kBin_a, kBin2_a, sem_neg, kNeg_a, negK_i, truR_b, truR_i, truR_l, truR_t, truR_n, sem_nt, kNot_a, kNot2_a, sem_an, sem_oo, kAn_a, kOo_a, anS_t, anS_f, ooS_t, ooS_f, sem_cmp, kCmp_a, kCmp2_a, cmpK_lt, cmpK_le, cmpK_gt, cmpK_ge, sem_chn, kChn_a, kChn2_a, kChn3_a, chS_t, chS_f, sem_ite, kIte_a, kIte2_a, selE_t, selE_f, sem_tup, sem_lst, kTup_a, kLst_a, pyAll_nil, pyAll_cons, sem_idx, kIdx_a, kIdx2_a, idxK_l, idxK_t, sem_slc, kSlc_a, kSlc2_a, kSlc3_a, slK_l, slK_t, kPart_n, kPart_i, sem_rev, kRev_a, revD_l, revD_t, sem_cal, kCal_a, calR_s, argAll_c, sem_bif, kBif_a, bifR_s, sem_mth, kMth_a, kMth2_a, mthR_s, idxK_s, rdAll_nil, rdAll_c, bif_len_l, bif_len_t, bif_tup_l, bif_tup_t, bif_lst_l, bif_lst_t, bif_len_s, bif_str_s, bif_repr, sem_isi, kIsi_a, add_ii, sub_ii, mul_ii, mul_ti, fdiv_ii, mod_ii, pow_ii, add_tt, add_ll, Ss_nil, Ss_cons, kSs_n, kSs_r, Ss_frz, frzR_nil, frzR_cons, frz1_own, frz1_d, S_set, kSet_pd, kSet_pn, kSet_pl, kSet_pb, kSet_o, kSet_c, S_unp, kUnp_a, unpR_s, setT_2, setT_3, S_exp, kExp_a, S_ret, kRet_d, kRet_n, kRet_l, S_rtv, rtvR_o, S_ite, kIf_a, kIf2_a, selS_t, selS_f, chgR_o, chgR_l, ownR_s, locR_s, appF_l, extF_l, subF_l, mutR_o, mutR_l, S_sub, kSub_a, subM_t, kSub2_a, subR_s, S_app, appM_t, kApp_a, appR_s, stepF_a, setR_s, setT_nm, S_for, kFor_a, F_of, kItF_dl, kItF_dt, kItF_ds, kItF_n, kItF_b, I_of, kItI_dl, kItI_dt, kItI_ds, kItI_n, kItI_b, kItI_l, I_rng, F_rng, kRng_a, I_rng2, F_rng2, kRg2_a, kRg3_a, sem_lc, kLc_a, kLc2_a, stepC_nm, wipeR_n, wipeR_c, kCs_a, selC_t, selC_f, kElt_d, kElt_n, Cs_nil, Cs_cons, kC1_a, kC2_a, csS_t, csS_f, csS_n, lv_d, lv_n, lv_x, Res.bind_ok, Res.ofO_some, Res.nox_ok, Option.bind_some, Option.map_some, List.getElem?_cons_zero, List.getElem?_cons_succ, List.set_cons_zero, List.set_cons_succ, f12, isi_of (.int i) .tuple false rfl, Bool.not_false, dotB, List.take_length]
  | bool i => simp -implicitDefEqProofs only [sem_var, varR_d, varR_own, varR_bor, varR_loc, sem_con, sem_glo, rdk1_s, rdk2_s, rd_d, rd_new, rd_bor, rd_lent, rd_loc, dat_lst, py_d, py_new, arg_d, arg_new, arg_bor, arg_lent, arg_loc, argAll_nil, sems_nil, sems_cons, kEs_a, kPut_a, sem_bin, kBin_a, kBin2_a, sem_neg, kNeg_a, negK_i, truR_b, truR_i, truR_l, truR_t, truR_n, sem_nt, kNot_a, kNot2_a, sem_an, sem_oo, kAn_a, kOo_a, anS_t, anS_f, ooS_t, ooS_f, sem_cmp, kCmp_a, kCmp2_a, cmpK_lt, cmpK_le, cmpK_gt, cmpK_ge, sem_chn, kChn_a, kChn2_a, kChn3_a, chS_t, chS_f, sem_ite, kIte_a, kIte2_a, selE_t, selE_f, sem_tup, sem_lst, kTup_a, kLst_a, pyAll_nil, pyAll_cons, sem_idx, kIdx_a, kIdx2_a, idxK_l, idxK_t, sem_slc, kSlc_a, kSlc2_a, kSlc3_a, slK_l, slK_t, kPart_n, kPart_i, sem_rev, kRev_a, revD_l, revD_t, sem_cal, kCal_a, calR_s, argAll_c, sem_bif, kBif_a, bifR_s, sem_mth, kMth_a, kMth2_a, mthR_s, idxK_s, rdAll_nil, rdAll_c, bif_len_l, bif_len_t, bif_tup_l, bif_tup_t, bif_lst_l, bif_lst_t, bif_len_s, bif_str_s, bif_repr, sem_isi, kIsi_a, add_ii, sub_ii, mul_ii, mul_ti, fdiv_ii, mod_ii, pow_ii, add_tt, add_ll, Ss_nil, Ss_cons, kSs_n, kSs_r, Ss_frz, frzR_nil, frzR_cons, frz1_own, frz1_d, S_set, kSet_pd, kSet_pn, kSet_pl, kSet_pb, kSet_o, kSet_c, S_unp, kUnp_a, unpR_s, setT_2, setT_3, S_exp, kExp_a, S_ret, kRet_d, kRet_n, kRet_l, S_rtv, rtvR_o, S_ite, kIf_a, kIf2_a, selS_t, selS_f, chgR_o, chgR_l, ownR_s, locR_s, appF_l, extF_l, subF_l, mutR_o, mutR_l, S_sub, kSub_a, subM_t, kSub2_a, subR_s, S_app, appM_t, kApp_a, appR_s, stepF_a, setR_s, setT_nm, S_for, kFor_a, F_of, kItF_dl, kItF_dt, kItF_ds, kItF_n, kItF_b, I_of, kItI_dl, kItI_dt, kItI_ds, kItI_n, kItI_b, kItI_l, I_rng, F_rng, kRng_a, I_rng2, F_rng2, kRg2_a, kRg3_a, sem_lc, kLc_a, kLc2_a, stepC_nm, wipeR_n, wipeR_c, kCs_a, selC_t, selC_f, kElt_d, kElt_n, Cs_nil, Cs_cons, kC1_a, kC2_a, csS_t, csS_f, csS_n, lv_d, lv_n, lv_x, Res.bind_ok, Res.ofO_some, Res.nox_ok, Option.bind_some, Option.map_some, List.getElem?_cons_zero, List.getElem?_cons_succ, List.set_cons_zero, List.set_cons_succ, f12, isi_of (.bool i) .tuple false rfl, Bool.not_false, dotB, List.take_length]
  | none => simp -implicitDefEqProofs only [sem_var, varR_d, varR_own, varR_bor, varR_loc, sem_con, sem_glo, rdk1_s, rdk2_s, rd_d, rd_new, rd_bor, rd_lent, rd_loc, dat_lst, py_d, py_new, arg_d, arg_new, arg_bor, arg_lent, arg_loc, argAll_nil, sems_nil, sems_cons, kEs_a, kPut_a, sem_bin, kBin_a, kBin2_a, sem_neg, kNeg_a, negK_i, truR_b, truR_i, truR_l, truR_t, truR_n, sem_nt, kNot_a, kNot2_a, sem_an, sem_oo, kAn_a, kOo_a, anS_t, anS_f, ooS_t, ooS_f, sem_cmp, kCmp_a, kCmp2_a, cmpK_lt, cmpK_le, cmpK_gt, cmpK_ge, sem_chn, kChn_a, kChn2_a, kChn3_a, chS_t, chS_f, sem_ite, kIte_a, kIte2_a, selE_t, selE_f, sem_tup, sem_lst, kTup_a, kLst_a, pyAll_nil, pyAll_cons, sem_idx, kIdx_a, kIdx2_a, idxK_l, idxK_t, sem_slc, kSlc_a, kSlc2_a, kSlc3_a, slK_l, slK_t, kPart_n, kPart_i, sem_rev, kRev_a, revD_l, revD_t, sem_cal, kCal_a, calR_s, argAll_c, sem_bif, kBif_a, bifR_s, sem_mth, kMth_a, kMth2_a, mthR_s, idxK_s, rdAll_nil, rdAll_c, bif_len_l, bif_len_t, bif_tup_l, bif_tup_t, bif_lst_l, bif_lst_t, bif_len_s, bif_str_s, bif_repr, sem_isi, kIsi_a, add_ii, sub_ii, mul_ii, mul_ti, fdiv_ii, mod_ii, pow_ii, add_tt, add_ll, Ss_nil, Ss_cons, kSs_n, kSs_r, Ss_frz, frzR_nil, frzR_cons, frz1_own, frz1_d, S_set, kSet_pd, kSet_pn, kSet_pl, kSet_pb, kSet_o, kSet_c, S_unp, kUnp_a, unpR_s, setT_2, setT_3, S_exp, kExp_a, S_ret, kRet_d, kRet_n, kRet_l, S_rtv, rtvR_o, S_ite, kIf_a, kIf2_a, selS_t, selS_f, chgR_o, chgR_l, ownR_s, locR_s, appF_l, extF_l, subF_l, mutR_o, mutR_l, S_sub, kSub_a, subM_t, kSub2_a, subR_s, S_app, appM_t, kApp_a, appR_s, stepF_a, setR_s, setT_nm, S_for, kFor_a, F_of, kItF_dl, kItF_dt, kItF_ds, kItF_n, kItF_b, I_of, kItI_dl, kItI_dt, kItI_ds, kItI_n, kItI_b, kItI_l, I_rng, F_rng, kRng_a, I_rng2, F_rng2, kRg2_a, kRg3_a, sem_lc, kLc_a, kLc2_a, stepC_nm, wipeR_n, wipeR_c, kCs_a, selC_t, selC_f, kElt_d, kElt_n, Cs_nil, Cs_cons, kC1_a, kC2_a, csS_t, csS_f, csS_n, lv_d, lv_n, lv_x, Res.bind_ok, Res.ofO_some, Res.nox_ok, Option.bind_some, Option.map_some, List.getElem?_cons_zero, List.getElem?_cons_succ, List.set_cons_zero, List.set_cons_succ, f12, isi_of .none .tuple false rfl, Bool.not_false, dotB, List.take_length]
  | str i => simp -implicitDefEqProofs only [sem_var, varR_d, varR_own, varR_bor, varR_loc, sem_con, sem_glo, rdk1_s, rdk2_s, rd_d, rd_new, rd_bor, rd_lent, rd_loc, dat_lst, py_d, py_new, arg_d, arg_new, arg_bor, arg_lent, arg_loc, argAll_nil, sems_nil, sems_cons, kEs_a, kPut_a, sem_bin, kBin_a, kBin2_a, sem_neg, kNeg_a, negK_i, truR_b, truR_i, truR_l, truR_t, truR_n, sem_nt, kNot_a, kNot2_a, sem_an, sem_oo, kAn_a, kOo_a, anS_t, anS_f, ooS_t, ooS_f, sem_cmp, kCmp_a, kCmp2_a, cmpK_lt, cmpK_le, cmpK_gt, cmpK_ge, sem_chn, kChn_a, kChn2_a, kChn3_a, chS_t, chS_f, sem_ite, kIte_a, kIte2_a, selE_t, selE_f, sem_tup, sem_lst, kTup_a, kLst_a, pyAll_nil, pyAll_cons, sem_idx, kIdx_a, kIdx2_a, idxK_l, idxK_t, sem_slc, kSlc_a, kSlc2_a, kSlc3_a, slK_l, slK_t, kPart_n, kPart_i, sem_rev, kRev_a, revD_l, revD_t, sem_cal, kCal_a, calR_s, argAll_c, sem_bif, kBif_a, bifR_s, sem_mth, kMth_a, kMth2_a, mthR_s, idxK_s, rdAll_nil, rdAll_c, bif_len_l, bif_len_t, bif_tup_l, bif_tup_t, bif_lst_l, bif_lst_t, bif_len_s, bif_str_s, bif_repr, sem_isi, kIsi_a, add_ii, sub_ii, mul_ii, mul_ti, fdiv_ii, mod_ii, pow_ii, add_tt, add_ll, Ss_nil, Ss_cons, kSs_n, kSs_r, Ss_frz, frzR_nil, frzR_cons, frz1_own, frz1_d, S_set, kSet_pd, kSet_pn, kSet_pl, kSet_pb, kSet_o, kSet_c, S_unp, kUnp_a, unpR_s, setT_2, setT_3, S_exp, kExp_a, S_ret, kRet_d, kRet_n, kRet_l, S_rtv, rtvR_o, S_ite, kIf_a, kIf2_a, selS_t, selS_f, chgR_o, chgR_l, ownR_s, locR_s, appF_l, extF_l, subF_l, mutR_o, mutR_l, S_sub, kSub_a, subM_t, kSub2_a, subR_s, S_app, appM_t, kApp_a, appR_s, stepF_a, setR_s, setT_nm, S_for, kFor_a, F_of, kItF_dl, kItF_dt, kItF_ds, kItF_n, kItF_b, I_of, kItI_dl, kItI_dt, kItI_ds, kItI_n, kItI_b, kItI_l, I_rng, F_rng, kRng_a, I_rng2, F_rng2, kRg2_a, kRg3_a, sem_lc, kLc_a, kLc2_a, stepC_nm, wipeR_n, wipeR_c, kCs_a, selC_t, selC_f, kElt_d, kElt_n, Cs_nil, Cs_cons, kC1_a, kC2_a, csS_t, csS_f, csS_n, lv_d, lv_n, lv_x, Res.bind_ok, Res.ofO_some, Res.nox_ok, Option.bind_some, Option.map_some, List.getElem?_cons_zero, List.getElem?_cons_succ, List.set_cons_zero, List.set_cons_succ, f12, isi_of (.str i) .tuple false rfl, Bool.not_false, dotB, List.take_length]
  | list i => simp -implicitDefEqProofs only [sem_var, varR_d, varR_own, varR_bor, varR_loc, sem_con, sem_glo, rdk1_s, rdk2_s, rd_d, rd_new, rd_bor, rd_lent, rd_loc, dat_lst, py_d, py_new, arg_d, arg_new, arg_bor, arg_lent, arg_loc, argAll_nil, sems_nil, sems_cons, kEs_a, kPut_a, sem_bin, kBin_a, kBin2_a, sem_neg, kNeg_a, negK_i, truR_b, truR_i, truR_l, truR_t, truR_n, sem_nt, kNot_a, kNot2_a, sem_an, sem_oo, kAn_a, kOo_a, anS_t, anS_f, ooS_t, ooS_f, sem_cmp, kCmp_a, kCmp2_a, cmpK_lt, cmpK_le, cmpK_gt, cmpK_ge, sem_chn, kChn_a, kChn2_a, kChn3_a, chS_t, chS_f, sem_ite, kIte_a, kIte2_a, selE_t, selE_f, sem_tup, sem_lst, kTup_a, kLst_a, pyAll_nil, pyAll_cons, sem_idx, kIdx_a, kIdx2_a, idxK_l, idxK_t, sem_slc, kSlc_a, kSlc2_a, kSlc3_a, slK_l, slK_t, kPart_n, kPart_i, sem_rev, kRev_a, revD_l, revD_t, sem_cal, kCal_a, calR_s, argAll_c, sem_bif, kBif_a, bifR_s, sem_mth, kMth_a, kMth2_a, mthR_s, idxK_s, rdAll_nil, rdAll_c, bif_len_l, bif_len_t, bif_tup_l, bif_tup_t, bif_lst_l, bif_lst_t, bif_len_s, bif_str_s, bif_repr, sem_isi, kIsi_a, add_ii, sub_ii, mul_ii, mul_ti, fdiv_ii, mod_ii, pow_ii, add_tt, add_ll, Ss_nil, Ss_cons, kSs_n, kSs_r, Ss_frz, frzR_nil, frzR_cons, frz1_own, frz1_d, S_set, kSet_pd, kSet_pn, kSet_pl, kSet_pb, kSet_o, kSet_c, S_unp, kUnp_a, unpR_s, setT_2, setT_3, S_exp, kExp_a, S_ret, kRet_d, kRet_n, kRet_l, S_rtv, rtvR_o, S_ite, kIf_a, kIf2_a, selS_t, selS_f, chgR_o, chgR_l, ownR_s, locR_s, appF_l, extF_l, subF_l, mutR_o, mutR_l, S_sub, kSub_a, subM_t, kSub2_a, subR_s, S_app, appM_t, kApp_a, appR_s, stepF_a, setR_s, setT_nm, S_for, kFor_a, F_of, kItF_dl, kItF_dt, kItF_ds, kItF_n, kItF_b, I_of, kItI_dl, kItI_dt, kItI_ds, kItI_n, kItI_b, kItI_l, I_rng, F_rng, kRng_a, I_rng2, F_rng2, kRg2_a, kRg3_a, sem_lc, kLc_a, kLc2_a, stepC_nm, wipeR_n, wipeR_c, kCs_a, selC_t, selC_f, kElt_d, kElt_n, Cs_nil, Cs_cons, kC1_a, kC2_a, csS_t, csS_f, csS_n, lv_d, lv_n, lv_x, Res.bind_ok, Res.ofO_some, Res.nox_ok, Option.bind_some, Option.map_some, List.getElem?_cons_zero, List.getElem?_cons_succ, List.set_cons_zero, List.set_cons_succ, f12, isi_of (.list i) .tuple false rfl, Bool.not_false, dotB, List.take_length]
  | tuple xs =>
    have it := isi_of (.tuple xs) .tuple true rfl
    by_cases hl : xs.length = 2
    · obtain ⟨a, b, rfl⟩ := len2 hl
      have e2 : decide ((([a, b].length : Nat) : Int) = 2) = true := decide_eq_true rfl
      have ha := h.items a (List.mem_cons_self ..)
      obtain ⟨D', rfl⟩ : ∃ D', D = D' + 1 := by
        have := hb.2
        simp only [PyData.depth] at this
        exact ⟨D - 1, by omega⟩
      have hbb := (bd_items hb).2 b (List.mem_cons_of_mem _ (List.mem_cons_self ..))
      have hb' := h.items b (List.mem_cons_of_mem _ (List.mem_cons_self ..))
      have es := H.lseat a st ha
      have ew := H.lwh b 1 (10 ^ 50) st hb'.noD
      rw [up_wh hbb hB] at ew
      cases hs : seatB a with
      | false =>
        rw [hs] at es
        simp -implicitDefEqProofs only [sem_var, varR_d, varR_own, varR_bor, varR_loc, sem_con, sem_glo, rdk1_s, rdk2_s, rd_d, rd_new, rd_bor, rd_lent, rd_loc, dat_lst, py_d, py_new, arg_d, arg_new, arg_bor, arg_lent, arg_loc, argAll_nil, sems_nil, sems_cons, kEs_a, kPut_a, sem_bin, kBin_a, kBin2_a, sem_neg, kNeg_a, negK_i, truR_b, truR_i, truR_l, truR_t, truR_n, sem_nt, kNot_a, kNot2_a, sem_an, sem_oo, kAn_a, kOo_a, anS_t, anS_f, ooS_t, ooS_f, sem_cmp, kCmp_a, kCmp2_a, cmpK_lt, cmpK_le, cmpK_gt, cmpK_ge, sem_chn, kChn_a, kChn2_a, kChn3_a, chS_t, chS_f, sem_ite, kIte_a, kIte2_a, selE_t, selE_f, sem_tup, sem_lst, kTup_a, kLst_a, pyAll_nil, pyAll_cons, sem_idx, kIdx_a, kIdx2_a, idxK_l, idxK_t, sem_slc, kSlc_a, kSlc2_a, kSlc3_a, slK_l, slK_t, kPart_n, kPart_i, sem_rev, kRev_a, revD_l, revD_t, sem_cal, kCal_a, calR_s, argAll_c, sem_bif, kBif_a, bifR_s, sem_mth, kMth_a, kMth2_a, mthR_s, idxK_s, rdAll_nil, rdAll_c, bif_len_l, bif_len_t, bif_tup_l, bif_tup_t, bif_lst_l, bif_lst_t, bif_len_s, bif_str_s, bif_repr, sem_isi, kIsi_a, add_ii, sub_ii, mul_ii, mul_ti, fdiv_ii, mod_ii, pow_ii, add_tt, add_ll, Ss_nil, Ss_cons, kSs_n, kSs_r, Ss_frz, frzR_nil, frzR_cons, frz1_own, frz1_d, S_set, kSet_pd, kSet_pn, kSet_pl, kSet_pb, kSet_o, kSet_c, S_unp, kUnp_a, unpR_s, setT_2, setT_3, S_exp, kExp_a, S_ret, kRet_d, kRet_n, kRet_l, S_rtv, rtvR_o, S_ite, kIf_a, kIf2_a, selS_t, selS_f, chgR_o, chgR_l, ownR_s, locR_s, appF_l, extF_l, subF_l, mutR_o, mutR_l, S_sub, kSub_a, subM_t, kSub2_a, subR_s, S_app, appM_t, kApp_a, appR_s, stepF_a, setR_s, setT_nm, S_for, kFor_a, F_of, kItF_dl, kItF_dt, kItF_ds, kItF_n, kItF_b, I_of, kItI_dl, kItI_dt, kItI_ds, kItI_n, kItI_b, kItI_l, I_rng, F_rng, kRng_a, I_rng2, F_rng2, kRg2_a, kRg3_a, sem_lc, kLc_a, kLc2_a, stepC_nm, wipeR_n, wipeR_c, kCs_a, selC_t, selC_f, kElt_d, kElt_n, Cs_nil, Cs_cons, kC1_a, kC2_a, csS_t, csS_f, csS_n, lv_d, lv_n, lv_x, Res.bind_ok, Res.ofO_some, Res.nox_ok, Option.bind_some, Option.map_some, List.getElem?_cons_zero, List.getElem?_cons_succ, List.set_cons_zero, List.set_cons_succ, f12, it, Bool.not_true, cmp_ne, eqD_ii, toB_s, e2, Option.map_some, atI_0, es, dotB, hs, Bool.false_and, List.take_length]
      | true =>
        rw [hs] at es
        simp -implicitDefEqProofs only [sem_var, varR_d, varR_own, varR_bor, varR_loc, sem_con, sem_glo, rdk1_s, rdk2_s, rd_d, rd_new, rd_bor, rd_lent, rd_loc, dat_lst, py_d, py_new, arg_d, arg_new, arg_bor, arg_lent, arg_loc, argAll_nil, sems_nil, sems_cons, kEs_a, kPut_a, sem_bin, kBin_a, kBin2_a, sem_neg, kNeg_a, negK_i, truR_b, truR_i, truR_l, truR_t, truR_n, sem_nt, kNot_a, kNot2_a, sem_an, sem_oo, kAn_a, kOo_a, anS_t, anS_f, ooS_t, ooS_f, sem_cmp, kCmp_a, kCmp2_a, cmpK_lt, cmpK_le, cmpK_gt, cmpK_ge, sem_chn, kChn_a, kChn2_a, kChn3_a, chS_t, chS_f, sem_ite, kIte_a, kIte2_a, selE_t, selE_f, sem_tup, sem_lst, kTup_a, kLst_a, pyAll_nil, pyAll_cons, sem_idx, kIdx_a, kIdx2_a, idxK_l, idxK_t, sem_slc, kSlc_a, kSlc2_a, kSlc3_a, slK_l, slK_t, kPart_n, kPart_i, sem_rev, kRev_a, revD_l, revD_t, sem_cal, kCal_a, calR_s, argAll_c, sem_bif, kBif_a, bifR_s, sem_mth, kMth_a, kMth2_a, mthR_s, idxK_s, rdAll_nil, rdAll_c, bif_len_l, bif_len_t, bif_tup_l, bif_tup_t, bif_lst_l, bif_lst_t, bif_len_s, bif_str_s, bif_repr, sem_isi, kIsi_a, add_ii, sub_ii, mul_ii, mul_ti, fdiv_ii, mod_ii, pow_ii, add_tt, add_ll, Ss_nil, Ss_cons, kSs_n, kSs_r, Ss_frz, frzR_nil, frzR_cons, frz1_own, frz1_d, S_set, kSet_pd, kSet_pn, kSet_pl, kSet_pb, kSet_o, kSet_c, S_unp, kUnp_a, unpR_s, setT_2, setT_3, S_exp, kExp_a, S_ret, kRet_d, kRet_n, kRet_l, S_rtv, rtvR_o, S_ite, kIf_a, kIf2_a, selS_t, selS_f, chgR_o, chgR_l, ownR_s, locR_s, appF_l, extF_l, subF_l, mutR_o, mutR_l, S_sub, kSub_a, subM_t, kSub2_a, subR_s, S_app, appM_t, kApp_a, appR_s, stepF_a, setR_s, setT_nm, S_for, kFor_a, F_of, kItF_dl, kItF_dt, kItF_ds, kItF_n, kItF_b, I_of, kItI_dl, kItI_dt, kItI_ds, kItI_n, kItI_b, kItI_l, I_rng, F_rng, kRng_a, I_rng2, F_rng2, kRg2_a, kRg3_a, sem_lc, kLc_a, kLc2_a, stepC_nm, wipeR_n, wipeR_c, kCs_a, selC_t, selC_f, kElt_d, kElt_n, Cs_nil, Cs_cons, kC1_a, kC2_a, csS_t, csS_f, csS_n, lv_d, lv_n, lv_x, Res.bind_ok, Res.ofO_some, Res.nox_ok, Option.bind_some, Option.map_some, List.getElem?_cons_zero, List.getElem?_cons_succ, List.set_cons_zero, List.set_cons_succ, f12, it, Bool.not_true, cmp_ne, eqD_ii, toB_s, e2, Option.map_some, atI_0, atI_1, es, p50, if_true, t50, ew, dotB, hs, Bool.true_and, List.take_length]
    · have e2 : decide (((xs.length : Nat) : Int) = 2) = false := decide_eq_false (by omega)
      simp -implicitDefEqProofs only [sem_var, varR_d, varR_own, varR_bor, varR_loc, sem_con, sem_glo, rdk1_s, rdk2_s, rd_d, rd_new, rd_bor, rd_lent, rd_loc, dat_lst, py_d, py_new, arg_d, arg_new, arg_bor, arg_lent, arg_loc, argAll_nil, sems_nil, sems_cons, kEs_a, kPut_a, sem_bin, kBin_a, kBin2_a, sem_neg, kNeg_a, negK_i, truR_b, truR_i, truR_l, truR_t, truR_n, sem_nt, kNot_a, kNot2_a, sem_an, sem_oo, kAn_a, kOo_a, anS_t, anS_f, ooS_t, ooS_f, sem_cmp, kCmp_a, kCmp2_a, cmpK_lt, cmpK_le, cmpK_gt, cmpK_ge, sem_chn, kChn_a, kChn2_a, kChn3_a, chS_t, chS_f, sem_ite, kIte_a, kIte2_a, selE_t, selE_f, sem_tup, sem_lst, kTup_a, kLst_a, pyAll_nil, pyAll_cons, sem_idx, kIdx_a, kIdx2_a, idxK_l, idxK_t, sem_slc, kSlc_a, kSlc2_a, kSlc3_a, slK_l, slK_t, kPart_n, kPart_i, sem_rev, kRev_a, revD_l, revD_t, sem_cal, kCal_a, calR_s, argAll_c, sem_bif, kBif_a, bifR_s, sem_mth, kMth_a, kMth2_a, mthR_s, idxK_s, rdAll_nil, rdAll_c, bif_len_l, bif_len_t, bif_tup_l, bif_tup_t, bif_lst_l, bif_lst_t, bif_len_s, bif_str_s, bif_repr, sem_isi, kIsi_a, add_ii, sub_ii, mul_ii, mul_ti, fdiv_ii, mod_ii, pow_ii, add_tt, add_ll, Ss_nil, Ss_cons, kSs_n, kSs_r, Ss_frz, frzR_nil, frzR_cons, frz1_own, frz1_d, S_set, kSet_pd, kSet_pn, kSet_pl, kSet_pb, kSet_o, kSet_c, S_unp, kUnp_a, unpR_s, setT_2, setT_3, S_exp, kExp_a, S_ret, kRet_d, kRet_n, kRet_l, S_rtv, rtvR_o, S_ite, kIf_a, kIf2_a, selS_t, selS_f, chgR_o, chgR_l, ownR_s, locR_s, appF_l, extF_l, subF_l, mutR_o, mutR_l, S_sub, kSub_a, subM_t, kSub2_a, subR_s, S_app, appM_t, kApp_a, appR_s, stepF_a, setR_s, setT_nm, S_for, kFor_a, F_of, kItF_dl, kItF_dt, kItF_ds, kItF_n, kItF_b, I_of, kItI_dl, kItI_dt, kItI_ds, kItI_n, kItI_b, kItI_l, I_rng, F_rng, kRng_a, I_rng2, F_rng2, kRg2_a, kRg3_a, sem_lc, kLc_a, kLc2_a, stepC_nm, wipeR_n, wipeR_c, kCs_a, selC_t, selC_f, kElt_d, kElt_n, Cs_nil, Cs_cons, kC1_a, kC2_a, csS_t, csS_f, csS_n, lv_d, lv_n, lv_x, Res.bind_ok, Res.ofO_some, Res.nox_ok, Option.bind_some, Option.map_some, List.getElem?_cons_zero, List.getElem?_cons_succ, List.set_cons_zero, List.set_cons_succ, f12, it, Bool.not_true, cmp_ne, eqD_ii, toB_s, e2, Option.map_some, Bool.not_false, dotB_no hl, List.take_length]

def LET : Str := "abcdefghijklmnopqrstuvwxyz"
def inL : PyData → Bool
  | .str x => !(Builtin.Str.occurrences LET x 0 LET.length 1).isEmpty
  | _ => false
def signs (s : Str) : List PyData := s.cps.toList.map fun c => .str ⟨#[c]⟩
theorem signs_len (s : Str) : (signs s).length = s.length := by
  unfold signs
  rw [List.length_map]
  rfl
theorem inL_ok {s : Str} {x : PyData} (h : x ∈ signs s) : inD x (.str "abcdefghijklmnopqrstuvwxyz") = some (inL x) := by
  obtain ⟨c, _, rfl⟩ := List.mem_map.mp h
  rfl
def nameS (s : Str) : Bool := decide (1 ≤ s.length) && (decide (s.length ≤ 8) && (signs s).all inL)
def nameB : PyData → Bool
  | .str s => nameS s
  | _ => false
theorem str_len {B L D : Nat} {s : Str} (h : Bd B L D (.str s)) : PyData.strOk s = true ∧ s.length ≤ 2000 := by
  have := h.1
  simpa only [bdB, Bool.and_eq_true, decide_eq_true_eq] using this
theorem cmp_in (x y : PyData) : cmpK .isin x y = toB (inD x y) := rfl
theorem is_name_ok {Φ : Phi} {B L D : Nat} {x : PyData} {st : Stt} (h : Bd B L D x) : leaveW st.length (semSs Φ f4.body [some (.d x), none] st) = .ok (.d (.bool (nameB x))) st := by
  cases x with
  | dict _ => have := h.1; simp [bdB] at this
  | int i => simp -implicitDefEqProofs only [sem_var, varR_d, varR_own, varR_bor, varR_loc, sem_con, sem_glo, rdk1_s, rdk2_s, rd_d, rd_new, rd_bor, rd_lent, rd_loc, dat_lst, py_d, py_new, arg_d, arg_new, arg_bor, arg_lent, arg_loc, argAll_nil, sems_nil, sems_cons, kEs_a, kPut_a, sem_bin, kBin_a, kBin2_a, sem_neg, kNeg_a, negK_i, truR_b, truR_i, truR_l, truR_t, truR_n, sem_nt, kNot_a, kNot2_a, sem_an, sem_oo, kAn_a, kOo_a, anS_t, anS_f, ooS_t, ooS_f, sem_cmp, kCmp_a, kCmp2_a, cmpK_lt, cmpK_le, cmpK_gt, cmpK_ge, sem_chn, kChn_a, kChn2_a, kChn3_a, chS_t, chS_f, sem_ite, kIte_a, kIte2_a, selE_t, selE_f, sem_tup, sem_lst, kTup_a, kLst_a, pyAll_nil, pyAll_cons, sem_idx, kIdx_a, kIdx2_a, idxK_l, idxK_t, sem_slc, kSlc_a, kSlc2_a, kSlc3_a, slK_l, slK_t, kPart_n, kPart_i, sem_rev, kRev_a, revD_l, revD_t, sem_cal, kCal_a, calR_s, argAll_c, sem_bif, kBif_a, bifR_s, sem_mth, kMth_a, kMth2_a, mthR_s, idxK_s, rdAll_nil, rdAll_c, bif_len_l, bif_len_t, bif_tup_l, bif_tup_t, bif_lst_l, bif_lst_t, bif_len_s, bif_str_s, bif_repr, sem_isi, kIsi_a, add_ii, sub_ii, mul_ii, mul_ti, fdiv_ii, mod_ii, pow_ii, add_tt, add_ll, Ss_nil, Ss_cons, kSs_n, kSs_r, Ss_frz, frzR_nil, frzR_cons, frz1_own, frz1_d, S_set, kSet_pd, kSet_pn, kSet_pl, kSet_pb, kSet_o, kSet_c, S_unp, kUnp_a, unpR_s, setT_2, setT_3, S_exp, kExp_a, S_ret, kRet_d, kRet_n, kRet_l, S_rtv, rtvR_o, S_ite, kIf_a, kIf2_a, selS_t, selS_f, chgR_o, chgR_l, ownR_s, locR_s, appF_l, extF_l, subF_l, mutR_o, mutR_l, S_sub, kSub_a, subM_t, kSub2_a, subR_s, S_app, appM_t, kApp_a, appR_s, stepF_a, setR_s, setT_nm, S_for, kFor_a, F_of, kItF_dl, kItF_dt, kItF_ds, kItF_n, kItF_b, I_of, kItI_dl, kItI_dt, kItI_ds, kItI_n, kItI_b, kItI_l, I_rng, F_rng, kRng_a, I_rng2, F_rng2, kRg2_a, kRg3_a, sem_lc, kLc_a, kLc2_a, stepC_nm, wipeR_n, wipeR_c, kCs_a, selC_t, selC_f, kElt_d, kElt_n, Cs_nil, Cs_cons, kC1_a, kC2_a, csS_t, csS_f, csS_n, lv_d, lv_n, lv_x, Res.bind_ok, Res.ofO_some, Res.nox_ok, Option.bind_some, Option.map_some, List.getElem?_cons_zero, List.getElem?_cons_succ, List.set_cons_zero, List.set_cons_succ, f4, isi_of (.int i) .str false rfl, Bool.not_false, nameB, List.take_length]
  | bool i => simp -implicitDefEqProofs only [sem_var, varR_d, varR_own, varR_bor, varR_loc, sem_con, sem_glo, rdk1_s, rdk2_s, rd_d, rd_new, rd_bor, rd_lent, rd_loc, dat_lst, py_d, py_new, arg_d, arg_new, arg_bor, arg_lent, arg_loc, argAll_nil, sems_nil, sems_cons, kEs_a, kPut_a, sem_bin, kBin_a, kBin2_a, sem_neg, kNeg_a, negK_i, truR_b, truR_i, truR_l, truR_t, truR_n, sem_nt, kNot_a, kNot2_a, sem_an, sem_oo, kAn_a, kOo_a, anS_t, anS_f, ooS_t, ooS_f, sem_cmp, kCmp_a, kCmp2_a, cmpK_lt, cmpK_le, cmpK_gt, cmpK_ge, sem_chn, kChn_a, kChn2_a, kChn3_a, chS_t, chS_f, sem_ite, kIte_a, kIte2_a, selE_t, selE_f, sem_tup, sem_lst, kTup_a, kLst_a, pyAll_nil, pyAll_cons, sem_idx, kIdx_a, kIdx2_a, idxK_l, idxK_t, sem_slc, kSlc_a, kSlc2_a, kSlc3_a, slK_l, slK_t, kPart_n, kPart_i, sem_rev, kRev_a, revD_l, revD_t, sem_cal, kCal_a, calR_s, argAll_c, sem_bif, kBif_a, bifR_s, sem_mth, kMth_a, kMth2_a, mthR_s, idxK_s, rdAll_nil, rdAll_c, bif_len_l, bif_len_t, bif_tup_l, bif_tup_t, bif_lst_l, bif_lst_t, bif_len_s, bif_str_s, bif_repr, sem_isi, kIsi_a, add_ii, sub_ii, mul_ii, mul_ti, fdiv_ii, mod_ii, pow_ii, add_tt, add_ll, Ss_nil, Ss_cons, kSs_n, kSs_r, Ss_frz, frzR_nil, frzR_cons, frz1_own, frz1_d, S_set, kSet_pd, kSet_pn, kSet_pl, kSet_pb, kSet_o, kSet_c, S_unp, kUnp_a, unpR_s, setT_2, setT_3, S_exp, kExp_a, S_ret, kRet_d, kRet_n, kRet_l, S_rtv, rtvR_o, S_ite, kIf_a, kIf2_a, selS_t, selS_f, chgR_o, chgR_l, ownR_s, locR_s, appF_l, extF_l, subF_l, mutR_o, mutR_l, S_sub, kSub_a, subM_t, kSub2_a, subR_s, S_app, appM_t, kApp_a, appR_s, stepF_a, setR_s, setT_nm, S_for, kFor_a, F_of, kItF_dl, kItF_dt, kItF_ds, kItF_n, kItF_b, I_of, kItI_dl, kItI_dt, kItI_ds, kItI_n, kItI_b, kItI_l, I_rng, F_rng, kRng_a, I_rng2, F_rng2, kRg2_a, kRg3_a, sem_lc, kLc_a, kLc2_a, stepC_nm, wipeR_n, wipeR_c, kCs_a, selC_t, selC_f, kElt_d, kElt_n, Cs_nil, Cs_cons, kC1_a, kC2_a, csS_t, csS_f, csS_n, lv_d, lv_n, lv_x, Res.bind_ok, Res.ofO_some, Res.nox_ok, Option.bind_some, Option.map_some, List.getElem?_cons_zero, List.getElem?_cons_succ, List.set_cons_zero, List.set_cons_succ, f4, isi_of (.bool i) .str false rfl, Bool.not_false, nameB, List.take_length]
  | none => simp -implicitDefEqProofs only [sem_var, varR_d, varR_own, varR_bor, varR_loc, sem_con, sem_glo, rdk1_s, rdk2_s, rd_d, rd_new, rd_bor, rd_lent, rd_loc, dat_lst, py_d, py_new, arg_d, arg_new, arg_bor, arg_lent, arg_loc, argAll_nil, sems_nil, sems_cons, kEs_a, kPut_a, sem_bin, kBin_a, kBin2_a, sem_neg, kNeg_a, negK_i, truR_b, truR_i, truR_l, truR_t, truR_n, sem_nt, kNot_a, kNot2_a, sem_an, sem_oo, kAn_a, kOo_a, anS_t, anS_f, ooS_t, ooS_f, sem_cmp, kCmp_a, kCmp2_a, cmpK_lt, cmpK_le, cmpK_gt, cmpK_ge, sem_chn, kChn_a, kChn2_a, kChn3_a, chS_t, chS_f, sem_ite, kIte_a, kIte2_a, selE_t, selE_f, sem_tup, sem_lst, kTup_a, kLst_a, pyAll_nil, pyAll_cons, sem_idx, kIdx_a, kIdx2_a, idxK_l, idxK_t, sem_slc, kSlc_a, kSlc2_a, kSlc3_a, slK_l, slK_t, kPart_n, kPart_i, sem_rev, kRev_a, revD_l, revD_t, sem_cal, kCal_a, calR_s, argAll_c, sem_bif, kBif_a, bifR_s, sem_mth, kMth_a, kMth2_a, mthR_s, idxK_s, rdAll_nil, rdAll_c, bif_len_l, bif_len_t, bif_tup_l, bif_tup_t, bif_lst_l, bif_lst_t, bif_len_s, bif_str_s, bif_repr, sem_isi, kIsi_a, add_ii, sub_ii, mul_ii, mul_ti, fdiv_ii, mod_ii, pow_ii, add_tt, add_ll, Ss_nil, Ss_cons, kSs_n, kSs_r, Ss_frz, frzR_nil, frzR_cons, frz1_own, frz1_d, S_set, kSet_pd, kSet_pn, kSet_pl, kSet_pb, kSet_o, kSet_c, S_unp, kUnp_a, unpR_s, setT_2, setT_3, S_exp, kExp_a, S_ret, kRet_d, kRet_n, kRet_l, S_rtv, rtvR_o, S_ite, kIf_a, kIf2_a, selS_t, selS_f, chgR_o, chgR_l, ownR_s, locR_s, appF_l, extF_l, subF_l, mutR_o, mutR_l, S_sub, kSub_a, subM_t, kSub2_a, subR_s, S_app, appM_t, kApp_a, appR_s, stepF_a, setR_s, setT_nm, S_for, kFor_a, F_of, kItF_dl, kItF_dt, kItF_ds, kItF_n, kItF_b, I_of, kItI_dl, kItI_dt, kItI_ds, kItI_n, kItI_b, kItI_l, I_rng, F_rng, kRng_a, I_rng2, F_rng2, kRg2_a, kRg3_a, sem_lc, kLc_a, kLc2_a, stepC_nm, wipeR_n, wipeR_c, kCs_a, selC_t, selC_f, kElt_d, kElt_n, Cs_nil, Cs_cons, kC1_a, kC2_a, csS_t, csS_f, csS_n, lv_d, lv_n, lv_x, Res.bind_ok, Res.ofO_some, Res.nox_ok, Option.bind_some, Option.map_some, List.getElem?_cons_zero, List.getElem?_cons_succ, List.set_cons_zero, List.set_cons_succ, f4, isi_of .none .str false rfl, Bool.not_false, nameB, List.take_length]
  | tuple i => simp -implicitDefEqProofs only [sem_var, varR_d, varR_own, varR_bor, varR_loc, sem_con, sem_glo, rdk1_s, rdk2_s, rd_d, rd_new, rd_bor, rd_lent, rd_loc, dat_lst, py_d, py_new, arg_d, arg_new, arg_bor, arg_lent, arg_loc, argAll_nil, sems_nil, sems_cons, kEs_a, kPut_a, sem_bin, kBin_a, kBin2_a, sem_neg, kNeg_a, negK_i, truR_b, truR_i, truR_l, truR_t, truR_n, sem_nt, kNot_a, kNot2_a, sem_an, sem_oo, kAn_a, kOo_a, anS_t, anS_f, ooS_t, ooS_f, sem_cmp, kCmp_a, kCmp2_a, cmpK_lt, cmpK_le, cmpK_gt, cmpK_ge, sem_chn, kChn_a, kChn2_a, kChn3_a, chS_t, chS_f, sem_ite, kIte_a, kIte2_a, selE_t, selE_f, sem_tup, sem_lst, kTup_a, kLst_a, pyAll_nil, pyAll_cons, sem_idx, kIdx_a, kIdx2_a, idxK_l, idxK_t, sem_slc, kSlc_a, kSlc2_a, kSlc3_a, slK_l, slK_t, kPart_n, kPart_i, sem_rev, kRev_a, revD_l, revD_t, sem_cal, kCal_a, calR_s, argAll_c, sem_bif, kBif_a, bifR_s, sem_mth, kMth_a, kMth2_a, mthR_s, idxK_s, rdAll_nil, rdAll_c, bif_len_l, bif_len_t, bif_tup_l, bif_tup_t, bif_lst_l, bif_lst_t, bif_len_s, bif_str_s, bif_repr, sem_isi, kIsi_a, add_ii, sub_ii, mul_ii, mul_ti, fdiv_ii, mod_ii, pow_ii, add_tt, add_ll, Ss_nil, Ss_cons, kSs_n, kSs_r, Ss_frz, frzR_nil, frzR_cons, frz1_own, frz1_d, S_set, kSet_pd, kSet_pn, kSet_pl, kSet_pb, kSet_o, kSet_c, S_unp, kUnp_a, unpR_s, setT_2, setT_3, S_exp, kExp_a, S_ret, kRet_d, kRet_n, kRet_l, S_rtv, rtvR_o, S_ite, kIf_a, kIf2_a, selS_t, selS_f, chgR_o, chgR_l, ownR_s, locR_s, appF_l, extF_l, subF_l, mutR_o, mutR_l, S_sub, kSub_a, subM_t, kSub2_a, subR_s, S_app, appM_t, kApp_a, appR_s, stepF_a, setR_s, setT_nm, S_for, kFor_a, F_of, kItF_dl, kItF_dt, kItF_ds, kItF_n, kItF_b, I_of, kItI_dl, kItI_dt, kItI_ds, kItI_n, kItI_b, kItI_l, I_rng, F_rng, kRng_a, I_rng2, F_rng2, kRg2_a, kRg3_a, sem_lc, kLc_a, kLc2_a, stepC_nm, wipeR_n, wipeR_c, kCs_a, selC_t, selC_f, kElt_d, kElt_n, Cs_nil, Cs_cons, kC1_a, kC2_a, csS_t, csS_f, csS_n, lv_d, lv_n, lv_x, Res.bind_ok, Res.ofO_some, Res.nox_ok, Option.bind_some, Option.map_some, List.getElem?_cons_zero, List.getElem?_cons_succ, List.set_cons_zero, List.set_cons_succ, f4, isi_of (.tuple i) .str false rfl, Bool.not_false, nameB, List.take_length]
  | list i => simp -implicitDefEqProofs only [sem_var, varR_d, varR_own, varR_bor, varR_loc, sem_con, sem_glo, rdk1_s, rdk2_s, rd_d, rd_new, rd_bor, rd_lent, rd_loc, dat_lst, py_d, py_new, arg_d, arg_new, arg_bor, arg_lent, arg_loc, argAll_nil, sems_nil, sems_cons, kEs_a, kPut_a, sem_bin, kBin_a, kBin2_a, sem_neg, kNeg_a, negK_i, truR_b, truR_i, truR_l, truR_t, truR_n, sem_nt, kNot_a, kNot2_a, sem_an, sem_oo, kAn_a, kOo_a, anS_t, anS_f, ooS_t, ooS_f, sem_cmp, kCmp_a, kCmp2_a, cmpK_lt, cmpK_le, cmpK_gt, cmpK_ge, sem_chn, kChn_a, kChn2_a, kChn3_a, chS_t, chS_f, sem_ite, kIte_a, kIte2_a, selE_t, selE_f, sem_tup, sem_lst, kTup_a, kLst_a, pyAll_nil, pyAll_cons, sem_idx, kIdx_a, kIdx2_a, idxK_l, idxK_t, sem_slc, kSlc_a, kSlc2_a, kSlc3_a, slK_l, slK_t, kPart_n, kPart_i, sem_rev, kRev_a, revD_l, revD_t, sem_cal, kCal_a, calR_s, argAll_c, sem_bif, kBif_a, bifR_s, sem_mth, kMth_a, kMth2_a, mthR_s, idxK_s, rdAll_nil, rdAll_c, bif_len_l, bif_len_t, bif_tup_l, bif_tup_t, bif_lst_l, bif_lst_t, bif_len_s, bif_str_s, bif_repr, sem_isi, kIsi_a, add_ii, sub_ii, mul_ii, mul_ti, fdiv_ii, mod_ii, pow_ii, add_tt, add_ll, Ss_nil, Ss_cons, kSs_n, kSs_r, Ss_frz, frzR_nil, frzR_cons, frz1_own, frz1_d, S_set, kSet_pd, kSet_pn, kSet_pl, kSet_pb, kSet_o, kSet_c, S_unp, kUnp_a, unpR_s, setT_2, setT_3, S_exp, kExp_a, S_ret, kRet_d, kRet_n, kRet_l, S_rtv, rtvR_o, S_ite, kIf_a, kIf2_a, selS_t, selS_f, chgR_o, chgR_l, ownR_s, locR_s, appF_l, extF_l, subF_l, mutR_o, mutR_l, S_sub, kSub_a, subM_t, kSub2_a, subR_s, S_app, appM_t, kApp_a, appR_s, stepF_a, setR_s, setT_nm, S_for, kFor_a, F_of, kItF_dl, kItF_dt, kItF_ds, kItF_n, kItF_b, I_of, kItI_dl, kItI_dt, kItI_ds, kItI_n, kItI_b, kItI_l, I_rng, F_rng, kRng_a, I_rng2, F_rng2, kRg2_a, kRg3_a, sem_lc, kLc_a, kLc2_a, stepC_nm, wipeR_n, wipeR_c, kCs_a, selC_t, selC_f, kElt_d, kElt_n, Cs_nil, Cs_cons, kC1_a, kC2_a, csS_t, csS_f, csS_n, lv_d, lv_n, lv_x, Res.bind_ok, Res.ofO_some, Res.nox_ok, Option.bind_some, Option.map_some, List.getElem?_cons_zero, List.getElem?_cons_succ, List.set_cons_zero, List.set_cons_succ, f4, isi_of (.list i) .str false rfl, Bool.not_false, nameB, List.take_length]
  | str s =>
    have it := isi_of (.str s) .str true rfl
    have hl : (s.length ≤ lineN) = True := eq_true (le_line (str_len h).2 (by decide))
    by_cases h1 : 1 ≤ s.length
    · have d1 : decide ((1 : Int) ≤ ((s.length : Nat) : Int)) = true := decide_eq_true (by omega)
      have d1' : decide (1 ≤ s.length) = true := decide_eq_true h1
      by_cases h8 : s.length ≤ 8
      · have d8 : decide (((s.length : Nat) : Int) ≤ 8) = true := decide_eq_true (by omega)
        have d8' : decide (s.length ≤ 8) = true := decide_eq_true h8
        have hc : compL (stepC Φ (.cmp .isin (.var 1) (.glo "LETTERS" (.str "abcdefghijklmnopqrstuvwxyz"))) (.nm 1) .nil [1] [some (.d (.str s)), none]) (s.cps.toList.map fun c => .str ⟨#[c]⟩) st = .ok ((signs s).map fun z => .bool (inL z)) st := by
          show compL _ (signs s) st = _
          rw [← fm_some]
          refine compL_fm fun z hz => ?_
          have ez := inL_ok hz
          simp -implicitDefEqProofs only [sem_var, varR_d, varR_own, varR_bor, varR_loc, sem_con, sem_glo, rdk1_s, rdk2_s, rd_d, rd_new, rd_bor, rd_lent, rd_loc, dat_lst, py_d, py_new, arg_d, arg_new, arg_bor, arg_lent, arg_loc, argAll_nil, sems_nil, sems_cons, kEs_a, kPut_a, sem_bin, kBin_a, kBin2_a, sem_neg, kNeg_a, negK_i, truR_b, truR_i, truR_l, truR_t, truR_n, sem_nt, kNot_a, kNot2_a, sem_an, sem_oo, kAn_a, kOo_a, anS_t, anS_f, ooS_t, ooS_f, sem_cmp, kCmp_a, kCmp2_a, cmpK_lt, cmpK_le, cmpK_gt, cmpK_ge, sem_chn, kChn_a, kChn2_a, kChn3_a, chS_t, chS_f, sem_ite, kIte_a, kIte2_a, selE_t, selE_f, sem_tup, sem_lst, kTup_a, kLst_a, pyAll_nil, pyAll_cons, sem_idx, kIdx_a, kIdx2_a, idxK_l, idxK_t, sem_slc, kSlc_a, kSlc2_a, kSlc3_a, slK_l, slK_t, kPart_n, kPart_i, sem_rev, kRev_a, revD_l, revD_t, sem_cal, kCal_a, calR_s, argAll_c, sem_bif, kBif_a, bifR_s, sem_mth, kMth_a, kMth2_a, mthR_s, idxK_s, rdAll_nil, rdAll_c, bif_len_l, bif_len_t, bif_tup_l, bif_tup_t, bif_lst_l, bif_lst_t, bif_len_s, bif_str_s, bif_repr, sem_isi, kIsi_a, add_ii, sub_ii, mul_ii, mul_ti, fdiv_ii, mod_ii, pow_ii, add_tt, add_ll, Ss_nil, Ss_cons, kSs_n, kSs_r, Ss_frz, frzR_nil, frzR_cons, frz1_own, frz1_d, S_set, kSet_pd, kSet_pn, kSet_pl, kSet_pb, kSet_o, kSet_c, S_unp, kUnp_a, unpR_s, setT_2, setT_3, S_exp, kExp_a, S_ret, kRet_d, kRet_n, kRet_l, S_rtv, rtvR_o, S_ite, kIf_a, kIf2_a, selS_t, selS_f, chgR_o, chgR_l, ownR_s, locR_s, appF_l, extF_l, subF_l, mutR_o, mutR_l, S_sub, kSub_a, subM_t, kSub2_a, subR_s, S_app, appM_t, kApp_a, appR_s, stepF_a, setR_s, setT_nm, S_for, kFor_a, F_of, kItF_dl, kItF_dt, kItF_ds, kItF_n, kItF_b, I_of, kItI_dl, kItI_dt, kItI_ds, kItI_n, kItI_b, kItI_l, I_rng, F_rng, kRng_a, I_rng2, F_rng2, kRg2_a, kRg3_a, sem_lc, kLc_a, kLc2_a, stepC_nm, wipeR_n, wipeR_c, kCs_a, selC_t, selC_f, kElt_d, kElt_n, Cs_nil, Cs_cons, kC1_a, kC2_a, csS_t, csS_f, csS_n, lv_d, lv_n, lv_x, Res.bind_ok, Res.ofO_some, Res.nox_ok, Option.bind_some, Option.map_some, List.getElem?_cons_zero, List.getElem?_cons_succ, List.set_cons_zero, List.set_cons_succ, cmp_in, ez, toB_s]
        have hk : (((signs s).map fun z => PyData.bool (inL z)).length ≤ lineN) = True := eq_true (le_line (b := 8) (by rw [List.length_map, signs_len]; omega) (by decide))
        have ha : bifD .all [.list ((signs s).map fun z => PyData.bool (inL z))] = some (.d (.bool ((signs s).all inL))) := by
          show (Gm.allB _).map _ = _
          rw [allB_map, Option.map_some, List.all_map]
          rfl
        simp -implicitDefEqProofs only [sem_var, varR_d, varR_own, varR_bor, varR_loc, sem_con, sem_glo, rdk1_s, rdk2_s, rd_d, rd_new, rd_bor, rd_lent, rd_loc, dat_lst, py_d, py_new, arg_d, arg_new, arg_bor, arg_lent, arg_loc, argAll_nil, sems_nil, sems_cons, kEs_a, kPut_a, sem_bin, kBin_a, kBin2_a, sem_neg, kNeg_a, negK_i, truR_b, truR_i, truR_l, truR_t, truR_n, sem_nt, kNot_a, kNot2_a, sem_an, sem_oo, kAn_a, kOo_a, anS_t, anS_f, ooS_t, ooS_f, sem_cmp, kCmp_a, kCmp2_a, cmpK_lt, cmpK_le, cmpK_gt, cmpK_ge, sem_chn, kChn_a, kChn2_a, kChn3_a, chS_t, chS_f, sem_ite, kIte_a, kIte2_a, selE_t, selE_f, sem_tup, sem_lst, kTup_a, kLst_a, pyAll_nil, pyAll_cons, sem_idx, kIdx_a, kIdx2_a, idxK_l, idxK_t, sem_slc, kSlc_a, kSlc2_a, kSlc3_a, slK_l, slK_t, kPart_n, kPart_i, sem_rev, kRev_a, revD_l, revD_t, sem_cal, kCal_a, calR_s, argAll_c, sem_bif, kBif_a, bifR_s, sem_mth, kMth_a, kMth2_a, mthR_s, idxK_s, rdAll_nil, rdAll_c, bif_len_l, bif_len_t, bif_tup_l, bif_tup_t, bif_lst_l, bif_lst_t, bif_len_s, bif_str_s, bif_repr, sem_isi, kIsi_a, add_ii, sub_ii, mul_ii, mul_ti, fdiv_ii, mod_ii, pow_ii, add_tt, add_ll, Ss_nil, Ss_cons, kSs_n, kSs_r, Ss_frz, frzR_nil, frzR_cons, frz1_own, frz1_d, S_set, kSet_pd, kSet_pn, kSet_pl, kSet_pb, kSet_o, kSet_c, S_unp, kUnp_a, unpR_s, setT_2, setT_3, S_exp, kExp_a, S_ret, kRet_d, kRet_n, kRet_l, S_rtv, rtvR_o, S_ite, kIf_a, kIf2_a, selS_t, selS_f, chgR_o, chgR_l, ownR_s, locR_s, appF_l, extF_l, subF_l, mutR_o, mutR_l, S_sub, kSub_a, subM_t, kSub2_a, subR_s, S_app, appM_t, kApp_a, appR_s, stepF_a, setR_s, setT_nm, S_for, kFor_a, F_of, kItF_dl, kItF_dt, kItF_ds, kItF_n, kItF_b, I_of, kItI_dl, kItI_dt, kItI_ds, kItI_n, kItI_b, kItI_l, I_rng, F_rng, kRng_a, I_rng2, F_rng2, kRg2_a, kRg3_a, sem_lc, kLc_a, kLc2_a, stepC_nm, wipeR_n, wipeR_c, kCs_a, selC_t, selC_f, kElt_d, kElt_n, Cs_nil, Cs_cons, kC1_a, kC2_a, csS_t, csS_f, csS_n, lv_d, lv_n, lv_x, Res.bind_ok, Res.ofO_some, Res.nox_ok, Option.bind_some, Option.map_some, List.getElem?_cons_zero, List.getElem?_cons_succ, List.set_cons_zero, List.set_cons_succ, f4, it, Bool.not_true, hl, if_true, d1, d8, d1', d8', nameB, nameS, Bool.true_and, hc, hk, ha, List.take_length]
      · have d8 : decide (((s.length : Nat) : Int) ≤ 8) = false := decide_eq_false (by omega)
        have d8' : decide (s.length ≤ 8) = false := decide_eq_false h8
        simp -implicitDefEqProofs only [sem_var, varR_d, varR_own, varR_bor, varR_loc, sem_con, sem_glo, rdk1_s, rdk2_s, rd_d, rd_new, rd_bor, rd_lent, rd_loc, dat_lst, py_d, py_new, arg_d, arg_new, arg_bor, arg_lent, arg_loc, argAll_nil, sems_nil, sems_cons, kEs_a, kPut_a, sem_bin, kBin_a, kBin2_a, sem_neg, kNeg_a, negK_i, truR_b, truR_i, truR_l, truR_t, truR_n, sem_nt, kNot_a, kNot2_a, sem_an, sem_oo, kAn_a, kOo_a, anS_t, anS_f, ooS_t, ooS_f, sem_cmp, kCmp_a, kCmp2_a, cmpK_lt, cmpK_le, cmpK_gt, cmpK_ge, sem_chn, kChn_a, kChn2_a, kChn3_a, chS_t, chS_f, sem_ite, kIte_a, kIte2_a, selE_t, selE_f, sem_tup, sem_lst, kTup_a, kLst_a, pyAll_nil, pyAll_cons, sem_idx, kIdx_a, kIdx2_a, idxK_l, idxK_t, sem_slc, kSlc_a, kSlc2_a, kSlc3_a, slK_l, slK_t, kPart_n, kPart_i, sem_rev, kRev_a, revD_l, revD_t, sem_cal, kCal_a, calR_s, argAll_c, sem_bif, kBif_a, bifR_s, sem_mth, kMth_a, kMth2_a, mthR_s, idxK_s, rdAll_nil, rdAll_c, bif_len_l, bif_len_t, bif_tup_l, bif_tup_t, bif_lst_l, bif_lst_t, bif_len_s, bif_str_s, bif_repr, sem_isi, kIsi_a, add_ii, sub_ii, mul_ii, mul_ti, fdiv_ii, mod_ii, pow_ii, add_tt, add_ll, Ss_nil, Ss_cons, kSs_n, kSs_r, Ss_frz, frzR_nil, frzR_cons, frz1_own, frz1_d, S_set, kSet_pd, kSet_pn, kSet_pl, kSet_pb, kSet_o, kSet_c, S_unp, kUnp_a, unpR_s, setT_2, setT_3, S_exp, kExp_a, S_ret, kRet_d, kRet_n, kRet_l, S_rtv, rtvR_o, S_ite, kIf_a, kIf2_a, selS_t, selS_f, chgR_o, chgR_l, ownR_s, locR_s, appF_l, extF_l, subF_l, mutR_o, mutR_l, S_sub, kSub_a, subM_t, kSub2_a, subR_s, S_app, appM_t, kApp_a, appR_s, stepF_a, setR_s, setT_nm, S_for, kFor_a, F_of, kItF_dl, kItF_dt, kItF_ds, kItF_n, kItF_b, I_of, kItI_dl, kItI_dt, kItI_ds, kItI_n, kItI_b, kItI_l, I_rng, F_rng, kRng_a, I_rng2, F_rng2, kRg2_a, kRg3_a, sem_lc, kLc_a, kLc2_a, stepC_nm, wipeR_n, wipeR_c, kCs_a, selC_t, selC_f, kElt_d, kElt_n, Cs_nil, Cs_cons, kC1_a, kC2_a, csS_t, csS_f, csS_n, lv_d, lv_n, lv_x, Res.bind_ok, Res.ofO_some, Res.nox_ok, Option.bind_some, Option.map_some, List.getElem?_cons_zero, List.getElem?_cons_succ, List.set_cons_zero, List.set_cons_succ, f4, it, Bool.not_true, hl, if_true, d1, d8, d1', d8', nameB, nameS, Bool.true_and, Bool.false_and, Bool.not_false, List.take_length]
    · have d1 : decide ((1 : Int) ≤ ((s.length : Nat) : Int)) = false := decide_eq_false (by omega)
      have d1' : decide (1 ≤ s.length) = false := decide_eq_false h1
      simp -implicitDefEqProofs only [sem_var, varR_d, varR_own, varR_bor, varR_loc, sem_con, sem_glo, rdk1_s, rdk2_s, rd_d, rd_new, rd_bor, rd_lent, rd_loc, dat_lst, py_d, py_new, arg_d, arg_new, arg_bor, arg_lent, arg_loc, argAll_nil, sems_nil, sems_cons, kEs_a, kPut_a, sem_bin, kBin_a, kBin2_a, sem_neg, kNeg_a, negK_i, truR_b, truR_i, truR_l, truR_t, truR_n, sem_nt, kNot_a, kNot2_a, sem_an, sem_oo, kAn_a, kOo_a, anS_t, anS_f, ooS_t, ooS_f, sem_cmp, kCmp_a, kCmp2_a, cmpK_lt, cmpK_le, cmpK_gt, cmpK_ge, sem_chn, kChn_a, kChn2_a, kChn3_a, chS_t, chS_f, sem_ite, kIte_a, kIte2_a, selE_t, selE_f, sem_tup, sem_lst, kTup_a, kLst_a, pyAll_nil, pyAll_cons, sem_idx, kIdx_a, kIdx2_a, idxK_l, idxK_t, sem_slc, kSlc_a, kSlc2_a, kSlc3_a, slK_l, slK_t, kPart_n, kPart_i, sem_rev, kRev_a, revD_l, revD_t, sem_cal, kCal_a, calR_s, argAll_c, sem_bif, kBif_a, bifR_s, sem_mth, kMth_a, kMth2_a, mthR_s, idxK_s, rdAll_nil, rdAll_c, bif_len_l, bif_len_t, bif_tup_l, bif_tup_t, bif_lst_l, bif_lst_t, bif_len_s, bif_str_s, bif_repr, sem_isi, kIsi_a, add_ii, sub_ii, mul_ii, mul_ti, fdiv_ii, mod_ii, pow_ii, add_tt, add_ll, Ss_nil, Ss_cons, kSs_n, kSs_r, Ss_frz, frzR_nil, frzR_cons, frz1_own, frz1_d, S_set, kSet_pd, kSet_pn, kSet_pl, kSet_pb, kSet_o, kSet_c, S_unp, kUnp_a, unpR_s, setT_2, setT_3, S_exp, kExp_a, S_ret, kRet_d, kRet_n, kRet_l, S_rtv, rtvR_o, S_ite, kIf_a, kIf2_a, selS_t, selS_f, chgR_o, chgR_l, ownR_s, locR_s, appF_l, extF_l, subF_l, mutR_o, mutR_l, S_sub, kSub_a, subM_t, kSub2_a, subR_s, S_app, appM_t, kApp_a, appR_s, stepF_a, setR_s, setT_nm, S_for, kFor_a, F_of, kItF_dl, kItF_dt, kItF_ds, kItF_n, kItF_b, I_of, kItI_dl, kItI_dt, kItI_ds, kItI_n, kItI_b, kItI_l, I_rng, F_rng, kRng_a, I_rng2, F_rng2, kRg2_a, kRg3_a, sem_lc, kLc_a, kLc2_a, stepC_nm, wipeR_n, wipeR_c, kCs_a, selC_t, selC_f, kElt_d, kElt_n, Cs_nil, Cs_cons, kC1_a, kC2_a, csS_t, csS_f, csS_n, lv_d, lv_n, lv_x, Res.bind_ok, Res.ofO_some, Res.nox_ok, Option.bind_some, Option.map_some, List.getElem?_cons_zero, List.getElem?_cons_succ, List.set_cons_zero, List.set_cons_succ, f4, it, Bool.not_true, hl, if_true, d1, d1', nameB, nameS, Bool.false_and, Bool.not_false, List.take_length]
/-! things -/
theorem neg0 : (0 : Int) - 999 = -999 := rfl
def emT : PyData → Bool
  | .tuple [] => true
  | _ => false
def thingB : PyData → Bool
  | .tuple [a, b, c] => (dotB a || emT a) && (nameB b && upB c (-999) 999)
  | _ => false
theorem thingB_no {xs : List PyData} (h : xs.length ≠ 3) : thingB (.tuple xs) = false := by
  unfold thingB
  split
  · rename_i e; cases e; exact absurd rfl h
  · rfl
structure ThH (Φ : Phi) : Prop extends SeatH Φ where
  dot : ∀ (x : PyData) (st : Stt), Th x → Φ 3 [.d x] st = .ok (.d (.bool (dotB x))) st
  ldot : ∀ (B L D : Nat) (x : PyData) (st : Stt), Bd B L D x → D ≤ 20 → B ≤ 10 ^ 50 → Φ 12 [.d x] st = .ok (.d (.bool (dotB x))) st
  name : ∀ (B L D : Nat) (x : PyData) (st : Stt), Bd B L D x → Φ 4 [.d x] st = .ok (.d (.bool (nameB x))) st
theorem thH (k : Nat) : ThH (phi fs (k + 4)) := { seatH (k + 1) with
  dot := fun x st h => by rw [phi_at (f := f3) rfl ⟨rfl, by decide⟩]; exact is_dot_ok (seatH k) h
  ldot := fun B L D x st h h1 h2 => by rw [phi_at (f := f12) rfl ⟨rfl, by decide⟩]; exact ldot_ok (seatH k) h h1 h2
  name := fun B L D x st h => by rw [phi_at (f := f4) rfl ⟨rfl, by decide⟩]; exact is_name_ok h }
theorem bd_tup_pos {B L D : Nat} {xs : List PyData} (h : Bd B L D (.tuple xs)) : ∃ D', D = D' + 1 := by
  have := h.2
  simp only [PyData.depth] at this
  exact ⟨D - 1, by omega⟩
theorem is_thing_ok {Φ : Phi} (H : ThH Φ) {B L D : Nat} {x : PyData} {st : Stt} (hb : Bd B L D x) (hD : D ≤ 20) : leaveW st.length (semSs Φ f5.body [some (.d x), none, none, none] st) = .ok (.d (.bool (thingB x))) st := by
  have h : Th x := hb.th hD
  cases x with
  | dict _ => have := h.noD; cases this
  | int i => simp -implicitDefEqProofs only [sem_var, varR_d, varR_own, varR_bor, varR_loc, sem_con, sem_glo, rdk1_s, rdk2_s, rd_d, rd_new, rd_bor, rd_lent, rd_loc, dat_lst, py_d, py_new, arg_d, arg_new, arg_bor, arg_lent, arg_loc, argAll_nil, sems_nil, sems_cons, kEs_a, kPut_a, sem_bin, kBin_a, kBin2_a, sem_neg, kNeg_a, negK_i, truR_b, truR_i, truR_l, truR_t, truR_n, sem_nt, kNot_a, kNot2_a, sem_an, sem_oo, kAn_a, kOo_a, anS_t, anS_f, ooS_t, ooS_f, sem_cmp, kCmp_a, kCmp2_a, cmpK_lt, cmpK_le, cmpK_gt, cmpK_ge, sem_chn, kChn_a, kChn2_a, kChn3_a, chS_t, chS_f, sem_ite, kIte_a, kIte2_a, selE_t, selE_f, sem_tup, sem_lst, kTup_a, kLst_a, pyAll_nil, pyAll_cons, sem_idx, kIdx_a, kIdx2_a, idxK_l, idxK_t, sem_slc, kSlc_a, kSlc2_a, kSlc3_a, slK_l, slK_t, kPart_n, kPart_i, sem_rev, kRev_a, revD_l, revD_t, sem_cal, kCal_a, calR_s, argAll_c, sem_bif, kBif_a, bifR_s, sem_mth, kMth_a, kMth2_a, mthR_s, idxK_s, rdAll_nil, rdAll_c, bif_len_l, bif_len_t, bif_tup_l, bif_tup_t, bif_lst_l, bif_lst_t, bif_len_s, bif_str_s, bif_repr, sem_isi, kIsi_a, add_ii, sub_ii, mul_ii, mul_ti, fdiv_ii, mod_ii, pow_ii, add_tt, add_ll, Ss_nil, Ss_cons, kSs_n, kSs_r, Ss_frz, frzR_nil, frzR_cons, frz1_own, frz1_d, S_set, kSet_pd, kSet_pn, kSet_pl, kSet_pb, kSet_o, kSet_c, S_unp, kUnp_a, unpR_s, setT_2, setT_3, S_exp, kExp_a, S_ret, kRet_d, kRet_n, kRet_l, S_rtv, rtvR_o, S_ite, kIf_a, kIf2_a, selS_t, selS_f, chgR_o, chgR_l, ownR_s, locR_s, appF_l, extF_l, subF_l, mutR_o, mutR_l, S_sub, kSub_a, subM_t, kSub2_a, subR_s, S_app, appM_t, kApp_a, appR_s, stepF_a, setR_s, setT_nm, S_for, kFor_a, F_of, kItF_dl, kItF_dt, kItF_ds, kItF_n, kItF_b, I_of, kItI_dl, kItI_dt, kItI_ds, kItI_n, kItI_b, kItI_l, I_rng, F_rng, kRng_a, I_rng2, F_rng2, kRg2_a, kRg3_a, sem_lc, kLc_a, kLc2_a, stepC_nm, wipeR_n, wipeR_c, kCs_a, selC_t, selC_f, kElt_d, kElt_n, Cs_nil, Cs_cons, kC1_a, kC2_a, csS_t, csS_f, csS_n, lv_d, lv_n, lv_x, Res.bind_ok, Res.ofO_some, Res.nox_ok, Option.bind_some, Option.map_some, List.getElem?_cons_zero, List.getElem?_cons_succ, List.set_cons_zero, List.set_cons_succ, f5, isi_of (.int i) .tuple false rfl, Bool.not_false, thingB, List.take_length]
  | bool i => simp -implicitDefEqProofs only [sem_var, varR_d, varR_own, varR_bor, varR_loc, sem_con, sem_glo, rdk1_s, rdk2_s, rd_d, rd_new, rd_bor, rd_lent, rd_loc, dat_lst, py_d, py_new, arg_d, arg_new, arg_bor, arg_lent, arg_loc, argAll_nil, sems_nil, sems_cons, kEs_a, kPut_a, sem_bin, kBin_a, kBin2_a, sem_neg, kNeg_a, negK_i, truR_b, truR_i, truR_l, truR_t, truR_n, sem_nt, kNot_a, kNot2_a, sem_an, sem_oo, kAn_a, kOo_a, anS_t, anS_f, ooS_t, ooS_f, sem_cmp, kCmp_a, kCmp2_a, cmpK_lt, cmpK_le, cmpK_gt, cmpK_ge, sem_chn, kChn_a, kChn2_a, kChn3_a, chS_t, chS_f, sem_ite, kIte_a, kIte2_a, selE_t, selE_f, sem_tup, sem_lst, kTup_a, kLst_a, pyAll_nil, pyAll_cons, sem_idx, kIdx_a, kIdx2_a, idxK_l, idxK_t, sem_slc, kSlc_a, kSlc2_a, kSlc3_a, slK_l, slK_t, kPart_n, kPart_i, sem_rev, kRev_a, revD_l, revD_t, sem_cal, kCal_a, calR_s, argAll_c, sem_bif, kBif_a, bifR_s, sem_mth, kMth_a, kMth2_a, mthR_s, idxK_s, rdAll_nil, rdAll_c, bif_len_l, bif_len_t, bif_tup_l, bif_tup_t, bif_lst_l, bif_lst_t, bif_len_s, bif_str_s, bif_repr, sem_isi, kIsi_a, add_ii, sub_ii, mul_ii, mul_ti, fdiv_ii, mod_ii, pow_ii, add_tt, add_ll, Ss_nil, Ss_cons, kSs_n, kSs_r, Ss_frz, frzR_nil, frzR_cons, frz1_own, frz1_d, S_set, kSet_pd, kSet_pn, kSet_pl, kSet_pb, kSet_o, kSet_c, S_unp, kUnp_a, unpR_s, setT_2, setT_3, S_exp, kExp_a, S_ret, kRet_d, kRet_n, kRet_l, S_rtv, rtvR_o, S_ite, kIf_a, kIf2_a, selS_t, selS_f, chgR_o, chgR_l, ownR_s, locR_s, appF_l, extF_l, subF_l, mutR_o, mutR_l, S_sub, kSub_a, subM_t, kSub2_a, subR_s, S_app, appM_t, kApp_a, appR_s, stepF_a, setR_s, setT_nm, S_for, kFor_a, F_of, kItF_dl, kItF_dt, kItF_ds, kItF_n, kItF_b, I_of, kItI_dl, kItI_dt, kItI_ds, kItI_n, kItI_b, kItI_l, I_rng, F_rng, kRng_a, I_rng2, F_rng2, kRg2_a, kRg3_a, sem_lc, kLc_a, kLc2_a, stepC_nm, wipeR_n, wipeR_c, kCs_a, selC_t, selC_f, kElt_d, kElt_n, Cs_nil, Cs_cons, kC1_a, kC2_a, csS_t, csS_f, csS_n, lv_d, lv_n, lv_x, Res.bind_ok, Res.ofO_some, Res.nox_ok, Option.bind_some, Option.map_some, List.getElem?_cons_zero, List.getElem?_cons_succ, List.set_cons_zero, List.set_cons_succ, f5, isi_of (.bool i) .tuple false rfl, Bool.not_false, thingB, List.take_length]
  | none => simp -implicitDefEqProofs only [sem_var, varR_d, varR_own, varR_bor, varR_loc, sem_con, sem_glo, rdk1_s, rdk2_s, rd_d, rd_new, rd_bor, rd_lent, rd_loc, dat_lst, py_d, py_new, arg_d, arg_new, arg_bor, arg_lent, arg_loc, argAll_nil, sems_nil, sems_cons, kEs_a, kPut_a, sem_bin, kBin_a, kBin2_a, sem_neg, kNeg_a, negK_i, truR_b, truR_i, truR_l, truR_t, truR_n, sem_nt, kNot_a, kNot2_a, sem_an, sem_oo, kAn_a, kOo_a, anS_t, anS_f, ooS_t, ooS_f, sem_cmp, kCmp_a, kCmp2_a, cmpK_lt, cmpK_le, cmpK_gt, cmpK_ge, sem_chn, kChn_a, kChn2_a, kChn3_a, chS_t, chS_f, sem_ite, kIte_a, kIte2_a, selE_t, selE_f, sem_tup, sem_lst, kTup_a, kLst_a, pyAll_nil, pyAll_cons, sem_idx, kIdx_a, kIdx2_a, idxK_l, idxK_t, sem_slc, kSlc_a, kSlc2_a, kSlc3_a, slK_l, slK_t, kPart_n, kPart_i, sem_rev, kRev_a, revD_l, revD_t, sem_cal, kCal_a, calR_s, argAll_c, sem_bif, kBif_a, bifR_s, sem_mth, kMth_a, kMth2_a, mthR_s, idxK_s, rdAll_nil, rdAll_c, bif_len_l, bif_len_t, bif_tup_l, bif_tup_t, bif_lst_l, bif_lst_t, bif_len_s, bif_str_s, bif_repr, sem_isi, kIsi_a, add_ii, sub_ii, mul_ii, mul_ti, fdiv_ii, mod_ii, pow_ii, add_tt, add_ll, Ss_nil, Ss_cons, kSs_n, kSs_r, Ss_frz, frzR_nil, frzR_cons, frz1_own, frz1_d, S_set, kSet_pd, kSet_pn, kSet_pl, kSet_pb, kSet_o, kSet_c, S_unp, kUnp_a, unpR_s, setT_2, setT_3, S_exp, kExp_a, S_ret, kRet_d, kRet_n, kRet_l, S_rtv, rtvR_o, S_ite, kIf_a, kIf2_a, selS_t, selS_f, chgR_o, chgR_l, ownR_s, locR_s, appF_l, extF_l, subF_l, mutR_o, mutR_l, S_sub, kSub_a, subM_t, kSub2_a, subR_s, S_app, appM_t, kApp_a, appR_s, stepF_a, setR_s, setT_nm, S_for, kFor_a, F_of, kItF_dl, kItF_dt, kItF_ds, kItF_n, kItF_b, I_of, kItI_dl, kItI_dt, kItI_ds, kItI_n, kItI_b, kItI_l, I_rng, F_rng, kRng_a, I_rng2, F_rng2, kRg2_a, kRg3_a, sem_lc, kLc_a, kLc2_a, stepC_nm, wipeR_n, wipeR_c, kCs_a, selC_t, selC_f, kElt_d, kElt_n, Cs_nil, Cs_cons, kC1_a, kC2_a, csS_t, csS_f, csS_n, lv_d, lv_n, lv_x, Res.bind_ok, Res.ofO_some, Res.nox_ok, Option.bind_some, Option.map_some, List.getElem?_cons_zero, List.getElem?_cons_succ, List.set_cons_zero, List.set_cons_succ, f5, isi_of .none .tuple false rfl, Bool.not_false, thingB, List.take_length]
  | str i => simp -implicitDefEqProofs only [sem_var, varR_d, varR_own, varR_bor, varR_loc, sem_con, sem_glo, rdk1_s, rdk2_s, rd_d, rd_new, rd_bor, rd_lent, rd_loc, dat_lst, py_d, py_new, arg_d, arg_new, arg_bor, arg_lent, arg_loc, argAll_nil, sems_nil, sems_cons, kEs_a, kPut_a, sem_bin, kBin_a, kBin2_a, sem_neg, kNeg_a, negK_i, truR_b, truR_i, truR_l, truR_t, truR_n, sem_nt, kNot_a, kNot2_a, sem_an, sem_oo, kAn_a, kOo_a, anS_t, anS_f, ooS_t, ooS_f, sem_cmp, kCmp_a, kCmp2_a, cmpK_lt, cmpK_le, cmpK_gt, cmpK_ge, sem_chn, kChn_a, kChn2_a, kChn3_a, chS_t, chS_f, sem_ite, kIte_a, kIte2_a, selE_t, selE_f, sem_tup, sem_lst, kTup_a, kLst_a, pyAll_nil, pyAll_cons, sem_idx, kIdx_a, kIdx2_a, idxK_l, idxK_t, sem_slc, kSlc_a, kSlc2_a, kSlc3_a, slK_l, slK_t, kPart_n, kPart_i, sem_rev, kRev_a, revD_l, revD_t, sem_cal, kCal_a, calR_s, argAll_c, sem_bif, kBif_a, bifR_s, sem_mth, kMth_a, kMth2_a, mthR_s, idxK_s, rdAll_nil, rdAll_c, bif_len_l, bif_len_t, bif_tup_l, bif_tup_t, bif_lst_l, bif_lst_t, bif_len_s, bif_str_s, bif_repr, sem_isi, kIsi_a, add_ii, sub_ii, mul_ii, mul_ti, fdiv_ii, mod_ii, pow_ii, add_tt, add_ll, Ss_nil, Ss_cons, kSs_n, kSs_r, Ss_frz, frzR_nil, frzR_cons, frz1_own, frz1_d, S_set, kSet_pd, kSet_pn, kSet_pl, kSet_pb, kSet_o, kSet_c, S_unp, kUnp_a, unpR_s, setT_2, setT_3, S_exp, kExp_a, S_ret, kRet_d, kRet_n, kRet_l, S_rtv, rtvR_o, S_ite, kIf_a, kIf2_a, selS_t, selS_f, chgR_o, chgR_l, ownR_s, locR_s, appF_l, extF_l, subF_l, mutR_o, mutR_l, S_sub, kSub_a, subM_t, kSub2_a, subR_s, S_app, appM_t, kApp_a, appR_s, stepF_a, setR_s, setT_nm, S_for, kFor_a, F_of, kItF_dl, kItF_dt, kItF_ds, kItF_n, kItF_b, I_of, kItI_dl, kItI_dt, kItI_ds, kItI_n, kItI_b, kItI_l, I_rng, F_rng, kRng_a, I_rng2, F_rng2, kRg2_a, kRg3_a, sem_lc, kLc_a, kLc2_a, stepC_nm, wipeR_n, wipeR_c, kCs_a, selC_t, selC_f, kElt_d, kElt_n, Cs_nil, Cs_cons, kC1_a, kC2_a, csS_t, csS_f, csS_n, lv_d, lv_n, lv_x, Res.bind_ok, Res.ofO_some, Res.nox_ok, Option.bind_some, Option.map_some, List.getElem?_cons_zero, List.getElem?_cons_succ, List.set_cons_zero, List.set_cons_succ, f5, isi_of (.str i) .tuple false rfl, Bool.not_false, thingB, List.take_length]
  | list i => simp -implicitDefEqProofs only [sem_var, varR_d, varR_own, varR_bor, varR_loc, sem_con, sem_glo, rdk1_s, rdk2_s, rd_d, rd_new, rd_bor, rd_lent, rd_loc, dat_lst, py_d, py_new, arg_d, arg_new, arg_bor, arg_lent, arg_loc, argAll_nil, sems_nil, sems_cons, kEs_a, kPut_a, sem_bin, kBin_a, kBin2_a, sem_neg, kNeg_a, negK_i, truR_b, truR_i, truR_l, truR_t, truR_n, sem_nt, kNot_a, kNot2_a, sem_an, sem_oo, kAn_a, kOo_a, anS_t, anS_f, ooS_t, ooS_f, sem_cmp, kCmp_a, kCmp2_a, cmpK_lt, cmpK_le, cmpK_gt, cmpK_ge, sem_chn, kChn_a, kChn2_a, kChn3_a, chS_t, chS_f, sem_ite, kIte_a, kIte2_a, selE_t, selE_f, sem_tup, sem_lst, kTup_a, kLst_a, pyAll_nil, pyAll_cons, sem_idx, kIdx_a, kIdx2_a, idxK_l, idxK_t, sem_slc, kSlc_a, kSlc2_a, kSlc3_a, slK_l, slK_t, kPart_n, kPart_i, sem_rev, kRev_a, revD_l, revD_t, sem_cal, kCal_a, calR_s, argAll_c, sem_bif, kBif_a, bifR_s, sem_mth, kMth_a, kMth2_a, mthR_s, idxK_s, rdAll_nil, rdAll_c, bif_len_l, bif_len_t, bif_tup_l, bif_tup_t, bif_lst_l, bif_lst_t, bif_len_s, bif_str_s, bif_repr, sem_isi, kIsi_a, add_ii, sub_ii, mul_ii, mul_ti, fdiv_ii, mod_ii, pow_ii, add_tt, add_ll, Ss_nil, Ss_cons, kSs_n, kSs_r, Ss_frz, frzR_nil, frzR_cons, frz1_own, frz1_d, S_set, kSet_pd, kSet_pn, kSet_pl, kSet_pb, kSet_o, kSet_c, S_unp, kUnp_a, unpR_s, setT_2, setT_3, S_exp, kExp_a, S_ret, kRet_d, kRet_n, kRet_l, S_rtv, rtvR_o, S_ite, kIf_a, kIf2_a, selS_t, selS_f, chgR_o, chgR_l, ownR_s, locR_s, appF_l, extF_l, subF_l, mutR_o, mutR_l, S_sub, kSub_a, subM_t, kSub2_a, subR_s, S_app, appM_t, kApp_a, appR_s, stepF_a, setR_s, setT_nm, S_for, kFor_a, F_of, kItF_dl, kItF_dt, kItF_ds, kItF_n, kItF_b, I_of, kItI_dl, kItI_dt, kItI_ds, kItI_n, kItI_b, kItI_l, I_rng, F_rng, kRng_a, I_rng2, F_rng2, kRg2_a, kRg3_a, sem_lc, kLc_a, kLc2_a, stepC_nm, wipeR_n, wipeR_c, kCs_a, selC_t, selC_f, kElt_d, kElt_n, Cs_nil, Cs_cons, kC1_a, kC2_a, csS_t, csS_f, csS_n, lv_d, lv_n, lv_x, Res.bind_ok, Res.ofO_some, Res.nox_ok, Option.bind_some, Option.map_some, List.getElem?_cons_zero, List.getElem?_cons_succ, List.set_cons_zero, List.set_cons_succ, f5, isi_of (.list i) .tuple false rfl, Bool.not_false, thingB, List.take_length]
  | tuple xs =>
    have it := isi_of (.tuple xs) .tuple true rfl
    by_cases hl : xs.length = 3
    · obtain ⟨a, b, c, rfl⟩ := len3 hl
      obtain ⟨D', rfl⟩ := bd_tup_pos hb
      have hi := (bd_items hb).2
      have e3 : decide ((([a, b, c].length : Nat) : Int) = 3) = true := decide_eq_true rfl
      have ha := hi a (List.mem_cons_self ..)
      have hbb := hi b (List.mem_cons_of_mem _ (List.mem_cons_self ..))
      have hc := hi c (List.mem_cons_of_mem _ (List.mem_cons_of_mem _ (List.mem_cons_self ..)))
      have ed := H.dot a st (ha.th (by omega))
      have en := H.name _ _ _ b st hbb
      have eu := H.upto c (-999) 999 st (hc.th (by omega)).noD
      cases hd : dotB a with
      | true =>
        rw [hd] at ed
        cases hn : nameB b with
        | true =>
          rw [hn] at en
          simp -implicitDefEqProofs only [sem_var, varR_d, varR_own, varR_bor, varR_loc, sem_con, sem_glo, rdk1_s, rdk2_s, rd_d, rd_new, rd_bor, rd_lent, rd_loc, dat_lst, py_d, py_new, arg_d, arg_new, arg_bor, arg_lent, arg_loc, argAll_nil, sems_nil, sems_cons, kEs_a, kPut_a, sem_bin, kBin_a, kBin2_a, sem_neg, kNeg_a, negK_i, truR_b, truR_i, truR_l, truR_t, truR_n, sem_nt, kNot_a, kNot2_a, sem_an, sem_oo, kAn_a, kOo_a, anS_t, anS_f, ooS_t, ooS_f, sem_cmp, kCmp_a, kCmp2_a, cmpK_lt, cmpK_le, cmpK_gt, cmpK_ge, sem_chn, kChn_a, kChn2_a, kChn3_a, chS_t, chS_f, sem_ite, kIte_a, kIte2_a, selE_t, selE_f, sem_tup, sem_lst, kTup_a, kLst_a, pyAll_nil, pyAll_cons, sem_idx, kIdx_a, kIdx2_a, idxK_l, idxK_t, sem_slc, kSlc_a, kSlc2_a, kSlc3_a, slK_l, slK_t, kPart_n, kPart_i, sem_rev, kRev_a, revD_l, revD_t, sem_cal, kCal_a, calR_s, argAll_c, sem_bif, kBif_a, bifR_s, sem_mth, kMth_a, kMth2_a, mthR_s, idxK_s, rdAll_nil, rdAll_c, bif_len_l, bif_len_t, bif_tup_l, bif_tup_t, bif_lst_l, bif_lst_t, bif_len_s, bif_str_s, bif_repr, sem_isi, kIsi_a, add_ii, sub_ii, mul_ii, mul_ti, fdiv_ii, mod_ii, pow_ii, add_tt, add_ll, Ss_nil, Ss_cons, kSs_n, kSs_r, Ss_frz, frzR_nil, frzR_cons, frz1_own, frz1_d, S_set, kSet_pd, kSet_pn, kSet_pl, kSet_pb, kSet_o, kSet_c, S_unp, kUnp_a, unpR_s, setT_2, setT_3, S_exp, kExp_a, S_ret, kRet_d, kRet_n, kRet_l, S_rtv, rtvR_o, S_ite, kIf_a, kIf2_a, selS_t, selS_f, chgR_o, chgR_l, ownR_s, locR_s, appF_l, extF_l, subF_l, mutR_o, mutR_l, S_sub, kSub_a, subM_t, kSub2_a, subR_s, S_app, appM_t, kApp_a, appR_s, stepF_a, setR_s, setT_nm, S_for, kFor_a, F_of, kItF_dl, kItF_dt, kItF_ds, kItF_n, kItF_b, I_of, kItI_dl, kItI_dt, kItI_ds, kItI_n, kItI_b, kItI_l, I_rng, F_rng, kRng_a, I_rng2, F_rng2, kRg2_a, kRg3_a, sem_lc, kLc_a, kLc2_a, stepC_nm, wipeR_n, wipeR_c, kCs_a, selC_t, selC_f, kElt_d, kElt_n, Cs_nil, Cs_cons, kC1_a, kC2_a, csS_t, csS_f, csS_n, lv_d, lv_n, lv_x, Res.bind_ok, Res.ofO_some, Res.nox_ok, Option.bind_some, Option.map_some, List.getElem?_cons_zero, List.getElem?_cons_succ, List.set_cons_zero, List.set_cons_succ, f5, it, Bool.not_true, cmp_ne, eqD_ii, toB_s, e3, Option.map_some, setT_3, ed, en, neg0, eu, thingB, hd, hn, Bool.true_or, Bool.true_and, List.take_length]
        | false =>
          rw [hn] at en
          simp -implicitDefEqProofs only [sem_var, varR_d, varR_own, varR_bor, varR_loc, sem_con, sem_glo, rdk1_s, rdk2_s, rd_d, rd_new, rd_bor, rd_lent, rd_loc, dat_lst, py_d, py_new, arg_d, arg_new, arg_bor, arg_lent, arg_loc, argAll_nil, sems_nil, sems_cons, kEs_a, kPut_a, sem_bin, kBin_a, kBin2_a, sem_neg, kNeg_a, negK_i, truR_b, truR_i, truR_l, truR_t, truR_n, sem_nt, kNot_a, kNot2_a, sem_an, sem_oo, kAn_a, kOo_a, anS_t, anS_f, ooS_t, ooS_f, sem_cmp, kCmp_a, kCmp2_a, cmpK_lt, cmpK_le, cmpK_gt, cmpK_ge, sem_chn, kChn_a, kChn2_a, kChn3_a, chS_t, chS_f, sem_ite, kIte_a, kIte2_a, selE_t, selE_f, sem_tup, sem_lst, kTup_a, kLst_a, pyAll_nil, pyAll_cons, sem_idx, kIdx_a, kIdx2_a, idxK_l, idxK_t, sem_slc, kSlc_a, kSlc2_a, kSlc3_a, slK_l, slK_t, kPart_n, kPart_i, sem_rev, kRev_a, revD_l, revD_t, sem_cal, kCal_a, calR_s, argAll_c, sem_bif, kBif_a, bifR_s, sem_mth, kMth_a, kMth2_a, mthR_s, idxK_s, rdAll_nil, rdAll_c, bif_len_l, bif_len_t, bif_tup_l, bif_tup_t, bif_lst_l, bif_lst_t, bif_len_s, bif_str_s, bif_repr, sem_isi, kIsi_a, add_ii, sub_ii, mul_ii, mul_ti, fdiv_ii, mod_ii, pow_ii, add_tt, add_ll, Ss_nil, Ss_cons, kSs_n, kSs_r, Ss_frz, frzR_nil, frzR_cons, frz1_own, frz1_d, S_set, kSet_pd, kSet_pn, kSet_pl, kSet_pb, kSet_o, kSet_c, S_unp, kUnp_a, unpR_s, setT_2, setT_3, S_exp, kExp_a, S_ret, kRet_d, kRet_n, kRet_l, S_rtv, rtvR_o, S_ite, kIf_a, kIf2_a, selS_t, selS_f, chgR_o, chgR_l, ownR_s, locR_s, appF_l, extF_l, subF_l, mutR_o, mutR_l, S_sub, kSub_a, subM_t, kSub2_a, subR_s, S_app, appM_t, kApp_a, appR_s, stepF_a, setR_s, setT_nm, S_for, kFor_a, F_of, kItF_dl, kItF_dt, kItF_ds, kItF_n, kItF_b, I_of, kItI_dl, kItI_dt, kItI_ds, kItI_n, kItI_b, kItI_l, I_rng, F_rng, kRng_a, I_rng2, F_rng2, kRg2_a, kRg3_a, sem_lc, kLc_a, kLc2_a, stepC_nm, wipeR_n, wipeR_c, kCs_a, selC_t, selC_f, kElt_d, kElt_n, Cs_nil, Cs_cons, kC1_a, kC2_a, csS_t, csS_f, csS_n, lv_d, lv_n, lv_x, Res.bind_ok, Res.ofO_some, Res.nox_ok, Option.bind_some, Option.map_some, List.getElem?_cons_zero, List.getElem?_cons_succ, List.set_cons_zero, List.set_cons_succ, f5, it, Bool.not_true, cmp_ne, eqD_ii, toB_s, e3, Option.map_some, setT_3, ed, en, thingB, hd, hn, Bool.true_or, Bool.true_and, Bool.false_and, List.take_length]
      | false =>
        rw [hd] at ed
        cases ht : emT a with
        | true =>
          obtain rfl : a = .tuple [] := by
            unfold emT at ht
            split at ht
            · rfl
            · cases ht
          have i0 := isi_of (.tuple []) .tuple true rfl
          have e0 : decide (((([] : List PyData).length : Nat) : Int) = 0) = true := decide_eq_true rfl
          cases hn : nameB b with
          | true =>
            rw [hn] at en
            simp -implicitDefEqProofs only [sem_var, varR_d, varR_own, varR_bor, varR_loc, sem_con, sem_glo, rdk1_s, rdk2_s, rd_d, rd_new, rd_bor, rd_lent, rd_loc, dat_lst, py_d, py_new, arg_d, arg_new, arg_bor, arg_lent, arg_loc, argAll_nil, sems_nil, sems_cons, kEs_a, kPut_a, sem_bin, kBin_a, kBin2_a, sem_neg, kNeg_a, negK_i, truR_b, truR_i, truR_l, truR_t, truR_n, sem_nt, kNot_a, kNot2_a, sem_an, sem_oo, kAn_a, kOo_a, anS_t, anS_f, ooS_t, ooS_f, sem_cmp, kCmp_a, kCmp2_a, cmpK_lt, cmpK_le, cmpK_gt, cmpK_ge, sem_chn, kChn_a, kChn2_a, kChn3_a, chS_t, chS_f, sem_ite, kIte_a, kIte2_a, selE_t, selE_f, sem_tup, sem_lst, kTup_a, kLst_a, pyAll_nil, pyAll_cons, sem_idx, kIdx_a, kIdx2_a, idxK_l, idxK_t, sem_slc, kSlc_a, kSlc2_a, kSlc3_a, slK_l, slK_t, kPart_n, kPart_i, sem_rev, kRev_a, revD_l, revD_t, sem_cal, kCal_a, calR_s, argAll_c, sem_bif, kBif_a, bifR_s, sem_mth, kMth_a, kMth2_a, mthR_s, idxK_s, rdAll_nil, rdAll_c, bif_len_l, bif_len_t, bif_tup_l, bif_tup_t, bif_lst_l, bif_lst_t, bif_len_s, bif_str_s, bif_repr, sem_isi, kIsi_a, add_ii, sub_ii, mul_ii, mul_ti, fdiv_ii, mod_ii, pow_ii, add_tt, add_ll, Ss_nil, Ss_cons, kSs_n, kSs_r, Ss_frz, frzR_nil, frzR_cons, frz1_own, frz1_d, S_set, kSet_pd, kSet_pn, kSet_pl, kSet_pb, kSet_o, kSet_c, S_unp, kUnp_a, unpR_s, setT_2, setT_3, S_exp, kExp_a, S_ret, kRet_d, kRet_n, kRet_l, S_rtv, rtvR_o, S_ite, kIf_a, kIf2_a, selS_t, selS_f, chgR_o, chgR_l, ownR_s, locR_s, appF_l, extF_l, subF_l, mutR_o, mutR_l, S_sub, kSub_a, subM_t, kSub2_a, subR_s, S_app, appM_t, kApp_a, appR_s, stepF_a, setR_s, setT_nm, S_for, kFor_a, F_of, kItF_dl, kItF_dt, kItF_ds, kItF_n, kItF_b, I_of, kItI_dl, kItI_dt, kItI_ds, kItI_n, kItI_b, kItI_l, I_rng, F_rng, kRng_a, I_rng2, F_rng2, kRg2_a, kRg3_a, sem_lc, kLc_a, kLc2_a, stepC_nm, wipeR_n, wipeR_c, kCs_a, selC_t, selC_f, kElt_d, kElt_n, Cs_nil, Cs_cons, kC1_a, kC2_a, csS_t, csS_f, csS_n, lv_d, lv_n, lv_x, Res.bind_ok, Res.ofO_some, Res.nox_ok, Option.bind_some, Option.map_some, List.getElem?_cons_zero, List.getElem?_cons_succ, List.set_cons_zero, List.set_cons_succ, f5, it, Bool.not_true, Bool.not_false, cmp_eq, cmp_ne, eqD_ii, toB_s, e3, Option.map_some, setT_3, ed, i0, e0, en, neg0, eu, thingB, hd, ht, hn, Bool.false_or, Bool.true_or, Bool.true_and, List.take_length]
          | false =>
            rw [hn] at en
            simp -implicitDefEqProofs only [sem_var, varR_d, varR_own, varR_bor, varR_loc, sem_con, sem_glo, rdk1_s, rdk2_s, rd_d, rd_new, rd_bor, rd_lent, rd_loc, dat_lst, py_d, py_new, arg_d, arg_new, arg_bor, arg_lent, arg_loc, argAll_nil, sems_nil, sems_cons, kEs_a, kPut_a, sem_bin, kBin_a, kBin2_a, sem_neg, kNeg_a, negK_i, truR_b, truR_i, truR_l, truR_t, truR_n, sem_nt, kNot_a, kNot2_a, sem_an, sem_oo, kAn_a, kOo_a, anS_t, anS_f, ooS_t, ooS_f, sem_cmp, kCmp_a, kCmp2_a, cmpK_lt, cmpK_le, cmpK_gt, cmpK_ge, sem_chn, kChn_a, kChn2_a, kChn3_a, chS_t, chS_f, sem_ite, kIte_a, kIte2_a, selE_t, selE_f, sem_tup, sem_lst, kTup_a, kLst_a, pyAll_nil, pyAll_cons, sem_idx, kIdx_a, kIdx2_a, idxK_l, idxK_t, sem_slc, kSlc_a, kSlc2_a, kSlc3_a, slK_l, slK_t, kPart_n, kPart_i, sem_rev, kRev_a, revD_l, revD_t, sem_cal, kCal_a, calR_s, argAll_c, sem_bif, kBif_a, bifR_s, sem_mth, kMth_a, kMth2_a, mthR_s, idxK_s, rdAll_nil, rdAll_c, bif_len_l, bif_len_t, bif_tup_l, bif_tup_t, bif_lst_l, bif_lst_t, bif_len_s, bif_str_s, bif_repr, sem_isi, kIsi_a, add_ii, sub_ii, mul_ii, mul_ti, fdiv_ii, mod_ii, pow_ii, add_tt, add_ll, Ss_nil, Ss_cons, kSs_n, kSs_r, Ss_frz, frzR_nil, frzR_cons, frz1_own, frz1_d, S_set, kSet_pd, kSet_pn, kSet_pl, kSet_pb, kSet_o, kSet_c, S_unp, kUnp_a, unpR_s, setT_2, setT_3, S_exp, kExp_a, S_ret, kRet_d, kRet_n, kRet_l, S_rtv, rtvR_o, S_ite, kIf_a, kIf2_a, selS_t, selS_f, chgR_o, chgR_l, ownR_s, locR_s, appF_l, extF_l, subF_l, mutR_o, mutR_l, S_sub, kSub_a, subM_t, kSub2_a, subR_s, S_app, appM_t, kApp_a, appR_s, stepF_a, setR_s, setT_nm, S_for, kFor_a, F_of, kItF_dl, kItF_dt, kItF_ds, kItF_n, kItF_b, I_of, kItI_dl, kItI_dt, kItI_ds, kItI_n, kItI_b, kItI_l, I_rng, F_rng, kRng_a, I_rng2, F_rng2, kRg2_a, kRg3_a, sem_lc, kLc_a, kLc2_a, stepC_nm, wipeR_n, wipeR_c, kCs_a, selC_t, selC_f, kElt_d, kElt_n, Cs_nil, Cs_cons, kC1_a, kC2_a, csS_t, csS_f, csS_n, lv_d, lv_n, lv_x, Res.bind_ok, Res.ofO_some, Res.nox_ok, Option.bind_some, Option.map_some, List.getElem?_cons_zero, List.getElem?_cons_succ, List.set_cons_zero, List.set_cons_succ, f5, it, Bool.not_true, Bool.not_false, cmp_eq, cmp_ne, eqD_ii, toB_s, e3, Option.map_some, setT_3, ed, i0, e0, en, thingB, hd, ht, hn, Bool.false_or, Bool.true_or, Bool.true_and, Bool.false_and, List.take_length]
        | false =>
          cases a with
          | dict _ => have := ha.1; simp [bdB] at this
          | tuple ys =>
            have i0 := isi_of (.tuple ys) .tuple true rfl
            have e0 : decide (((ys.length : Nat) : Int) = 0) = false := decide_eq_false (by
              cases ys with
              | nil => cases ht
              | cons y ys => rw [List.length_cons]; omega)
            simp -implicitDefEqProofs only [sem_var, varR_d, varR_own, varR_bor, varR_loc, sem_con, sem_glo, rdk1_s, rdk2_s, rd_d, rd_new, rd_bor, rd_lent, rd_loc, dat_lst, py_d, py_new, arg_d, arg_new, arg_bor, arg_lent, arg_loc, argAll_nil, sems_nil, sems_cons, kEs_a, kPut_a, sem_bin, kBin_a, kBin2_a, sem_neg, kNeg_a, negK_i, truR_b, truR_i, truR_l, truR_t, truR_n, sem_nt, kNot_a, kNot2_a, sem_an, sem_oo, kAn_a, kOo_a, anS_t, anS_f, ooS_t, ooS_f, sem_cmp, kCmp_a, kCmp2_a, cmpK_lt, cmpK_le, cmpK_gt, cmpK_ge, sem_chn, kChn_a, kChn2_a, kChn3_a, chS_t, chS_f, sem_ite, kIte_a, kIte2_a, selE_t, selE_f, sem_tup, sem_lst, kTup_a, kLst_a, pyAll_nil, pyAll_cons, sem_idx, kIdx_a, kIdx2_a, idxK_l, idxK_t, sem_slc, kSlc_a, kSlc2_a, kSlc3_a, slK_l, slK_t, kPart_n, kPart_i, sem_rev, kRev_a, revD_l, revD_t, sem_cal, kCal_a, calR_s, argAll_c, sem_bif, kBif_a, bifR_s, sem_mth, kMth_a, kMth2_a, mthR_s, idxK_s, rdAll_nil, rdAll_c, bif_len_l, bif_len_t, bif_tup_l, bif_tup_t, bif_lst_l, bif_lst_t, bif_len_s, bif_str_s, bif_repr, sem_isi, kIsi_a, add_ii, sub_ii, mul_ii, mul_ti, fdiv_ii, mod_ii, pow_ii, add_tt, add_ll, Ss_nil, Ss_cons, kSs_n, kSs_r, Ss_frz, frzR_nil, frzR_cons, frz1_own, frz1_d, S_set, kSet_pd, kSet_pn, kSet_pl, kSet_pb, kSet_o, kSet_c, S_unp, kUnp_a, unpR_s, setT_2, setT_3, S_exp, kExp_a, S_ret, kRet_d, kRet_n, kRet_l, S_rtv, rtvR_o, S_ite, kIf_a, kIf2_a, selS_t, selS_f, chgR_o, chgR_l, ownR_s, locR_s, appF_l, extF_l, subF_l, mutR_o, mutR_l, S_sub, kSub_a, subM_t, kSub2_a, subR_s, S_app, appM_t, kApp_a, appR_s, stepF_a, setR_s, setT_nm, S_for, kFor_a, F_of, kItF_dl, kItF_dt, kItF_ds, kItF_n, kItF_b, I_of, kItI_dl, kItI_dt, kItI_ds, kItI_n, kItI_b, kItI_l, I_rng, F_rng, kRng_a, I_rng2, F_rng2, kRg2_a, kRg3_a, sem_lc, kLc_a, kLc2_a, stepC_nm, wipeR_n, wipeR_c, kCs_a, selC_t, selC_f, kElt_d, kElt_n, Cs_nil, Cs_cons, kC1_a, kC2_a, csS_t, csS_f, csS_n, lv_d, lv_n, lv_x, Res.bind_ok, Res.ofO_some, Res.nox_ok, Option.bind_some, Option.map_some, List.getElem?_cons_zero, List.getElem?_cons_succ, List.set_cons_zero, List.set_cons_succ, f5, it, Bool.not_true, Bool.not_false, cmp_eq, cmp_ne, eqD_ii, toB_s, e3, Option.map_some, setT_3, ed, i0, e0, thingB, hd, ht, Bool.false_or, Bool.false_and, List.take_length]
          | int i => simp -implicitDefEqProofs only [sem_var, varR_d, varR_own, varR_bor, varR_loc, sem_con, sem_glo, rdk1_s, rdk2_s, rd_d, rd_new, rd_bor, rd_lent, rd_loc, dat_lst, py_d, py_new, arg_d, arg_new, arg_bor, arg_lent, arg_loc, argAll_nil, sems_nil, sems_cons, kEs_a, kPut_a, sem_bin, kBin_a, kBin2_a, sem_neg, kNeg_a, negK_i, truR_b, truR_i, truR_l, truR_t, truR_n, sem_nt, kNot_a, kNot2_a, sem_an, sem_oo, kAn_a, kOo_a, anS_t, anS_f, ooS_t, ooS_f, sem_cmp, kCmp_a, kCmp2_a, cmpK_lt, cmpK_le, cmpK_gt, cmpK_ge, sem_chn, kChn_a, kChn2_a, kChn3_a, chS_t, chS_f, sem_ite, kIte_a, kIte2_a, selE_t, selE_f, sem_tup, sem_lst, kTup_a, kLst_a, pyAll_nil, pyAll_cons, sem_idx, kIdx_a, kIdx2_a, idxK_l, idxK_t, sem_slc, kSlc_a, kSlc2_a, kSlc3_a, slK_l, slK_t, kPart_n, kPart_i, sem_rev, kRev_a, revD_l, revD_t, sem_cal, kCal_a, calR_s, argAll_c, sem_bif, kBif_a, bifR_s, sem_mth, kMth_a, kMth2_a, mthR_s, idxK_s, rdAll_nil, rdAll_c, bif_len_l, bif_len_t, bif_tup_l, bif_tup_t, bif_lst_l, bif_lst_t, bif_len_s, bif_str_s, bif_repr, sem_isi, kIsi_a, add_ii, sub_ii, mul_ii, mul_ti, fdiv_ii, mod_ii, pow_ii, add_tt, add_ll, Ss_nil, Ss_cons, kSs_n, kSs_r, Ss_frz, frzR_nil, frzR_cons, frz1_own, frz1_d, S_set, kSet_pd, kSet_pn, kSet_pl, kSet_pb, kSet_o, kSet_c, S_unp, kUnp_a, unpR_s, setT_2, setT_3, S_exp, kExp_a, S_ret, kRet_d, kRet_n, kRet_l, S_rtv, rtvR_o, S_ite, kIf_a, kIf2_a, selS_t, selS_f, chgR_o, chgR_l, ownR_s, locR_s, appF_l, extF_l, subF_l, mutR_o, mutR_l, S_sub, kSub_a, subM_t, kSub2_a, subR_s, S_app, appM_t, kApp_a, appR_s, stepF_a, setR_s, setT_nm, S_for, kFor_a, F_of, kItF_dl, kItF_dt, kItF_ds, kItF_n, kItF_b, I_of, kItI_dl, kItI_dt, kItI_ds, kItI_n, kItI_b, kItI_l, I_rng, F_rng, kRng_a, I_rng2, F_rng2, kRg2_a, kRg3_a, sem_lc, kLc_a, kLc2_a, stepC_nm, wipeR_n, wipeR_c, kCs_a, selC_t, selC_f, kElt_d, kElt_n, Cs_nil, Cs_cons, kC1_a, kC2_a, csS_t, csS_f, csS_n, lv_d, lv_n, lv_x, Res.bind_ok, Res.ofO_some, Res.nox_ok, Option.bind_some, Option.map_some, List.getElem?_cons_zero, List.getElem?_cons_succ, List.set_cons_zero, List.set_cons_succ, f5, it, isi_of (.int i) .tuple false rfl, Bool.not_true, Bool.not_false, cmp_ne, eqD_ii, toB_s, e3, Option.map_some, setT_3, ed, thingB, hd, ht, Bool.false_or, Bool.false_and, List.take_length]
          | bool i => simp -implicitDefEqProofs only [sem_var, varR_d, varR_own, varR_bor, varR_loc, sem_con, sem_glo, rdk1_s, rdk2_s, rd_d, rd_new, rd_bor, rd_lent, rd_loc, dat_lst, py_d, py_new, arg_d, arg_new, arg_bor, arg_lent, arg_loc, argAll_nil, sems_nil, sems_cons, kEs_a, kPut_a, sem_bin, kBin_a, kBin2_a, sem_neg, kNeg_a, negK_i, truR_b, truR_i, truR_l, truR_t, truR_n, sem_nt, kNot_a, kNot2_a, sem_an, sem_oo, kAn_a, kOo_a, anS_t, anS_f, ooS_t, ooS_f, sem_cmp, kCmp_a, kCmp2_a, cmpK_lt, cmpK_le, cmpK_gt, cmpK_ge, sem_chn, kChn_a, kChn2_a, kChn3_a, chS_t, chS_f, sem_ite, kIte_a, kIte2_a, selE_t, selE_f, sem_tup, sem_lst, kTup_a, kLst_a, pyAll_nil, pyAll_cons, sem_idx, kIdx_a, kIdx2_a, idxK_l, idxK_t, sem_slc, kSlc_a, kSlc2_a, kSlc3_a, slK_l, slK_t, kPart_n, kPart_i, sem_rev, kRev_a, revD_l, revD_t, sem_cal, kCal_a, calR_s, argAll_c, sem_bif, kBif_a, bifR_s, sem_mth, kMth_a, kMth2_a, mthR_s, idxK_s, rdAll_nil, rdAll_c, bif_len_l, bif_len_t, bif_tup_l, bif_tup_t, bif_lst_l, bif_lst_t, bif_len_s, bif_str_s, bif_repr, sem_isi, kIsi_a, add_ii, sub_ii, mul_ii, mul_ti, fdiv_ii, mod_ii, pow_ii, add_tt, add_ll, Ss_nil, Ss_cons, kSs_n, kSs_r, Ss_frz, frzR_nil, frzR_cons, frz1_own, frz1_d, S_set, kSet_pd, kSet_pn, kSet_pl, kSet_pb, kSet_o, kSet_c, S_unp, kUnp_a, unpR_s, setT_2, setT_3, S_exp, kExp_a, S_ret, kRet_d, kRet_n, kRet_l, S_rtv, rtvR_o, S_ite, kIf_a, kIf2_a, selS_t, selS_f, chgR_o, chgR_l, ownR_s, locR_s, appF_l, extF_l, subF_l, mutR_o, mutR_l, S_sub, kSub_a, subM_t, kSub2_a, subR_s, S_app, appM_t, kApp_a, appR_s, stepF_a, setR_s, setT_nm, S_for, kFor_a, F_of, kItF_dl, kItF_dt, kItF_ds, kItF_n, kItF_b, I_of, kItI_dl, kItI_dt, kItI_ds, kItI_n, kItI_b, kItI_l, I_rng, F_rng, kRng_a, I_rng2, F_rng2, kRg2_a, kRg3_a, sem_lc, kLc_a, kLc2_a, stepC_nm, wipeR_n, wipeR_c, kCs_a, selC_t, selC_f, kElt_d, kElt_n, Cs_nil, Cs_cons, kC1_a, kC2_a, csS_t, csS_f, csS_n, lv_d, lv_n, lv_x, Res.bind_ok, Res.ofO_some, Res.nox_ok, Option.bind_some, Option.map_some, List.getElem?_cons_zero, List.getElem?_cons_succ, List.set_cons_zero, List.set_cons_succ, f5, it, isi_of (.bool i) .tuple false rfl, Bool.not_true, Bool.not_false, cmp_ne, eqD_ii, toB_s, e3, Option.map_some, setT_3, ed, thingB, hd, ht, Bool.false_or, Bool.false_and, List.take_length]
          | none => simp -implicitDefEqProofs only [sem_var, varR_d, varR_own, varR_bor, varR_loc, sem_con, sem_glo, rdk1_s, rdk2_s, rd_d, rd_new, rd_bor, rd_lent, rd_loc, dat_lst, py_d, py_new, arg_d, arg_new, arg_bor, arg_lent, arg_loc, argAll_nil, sems_nil, sems_cons, kEs_a, kPut_a, sem_bin, kBin_a, kBin2_a, sem_neg, kNeg_a, negK_i, truR_b, truR_i, truR_l, truR_t, truR_n, sem_nt, kNot_a, kNot2_a, sem_an, sem_oo, kAn_a, kOo_a, anS_t, anS_f, ooS_t, ooS_f, sem_cmp, kCmp_a, kCmp2_a, cmpK_lt, cmpK_le, cmpK_gt, cmpK_ge, sem_chn, kChn_a, kChn2_a, kChn3_a, chS_t, chS_f, sem_ite, kIte_a, kIte2_a, selE_t, selE_f, sem_tup, sem_lst, kTup_a, kLst_a, pyAll_nil, pyAll_cons, sem_idx, kIdx_a, kIdx2_a, idxK_l, idxK_t, sem_slc, kSlc_a, kSlc2_a, kSlc3_a, slK_l, slK_t, kPart_n, kPart_i, sem_rev, kRev_a, revD_l, revD_t, sem_cal, kCal_a, calR_s, argAll_c, sem_bif, kBif_a, bifR_s, sem_mth, kMth_a, kMth2_a, mthR_s, idxK_s, rdAll_nil, rdAll_c, bif_len_l, bif_len_t, bif_tup_l, bif_tup_t, bif_lst_l, bif_lst_t, bif_len_s, bif_str_s, bif_repr, sem_isi, kIsi_a, add_ii, sub_ii, mul_ii, mul_ti, fdiv_ii, mod_ii, pow_ii, add_tt, add_ll, Ss_nil, Ss_cons, kSs_n, kSs_r, Ss_frz, frzR_nil, frzR_cons, frz1_own, frz1_d, S_set, kSet_pd, kSet_pn, kSet_pl, kSet_pb, kSet_o, kSet_c, S_unp, kUnp_a, unpR_s, setT_2, setT_3, S_exp, kExp_a, S_ret, kRet_d, kRet_n, kRet_l, S_rtv, rtvR_o, S_ite, kIf_a, kIf2_a, selS_t, selS_f, chgR_o, chgR_l, ownR_s, locR_s, appF_l, extF_l, subF_l, mutR_o, mutR_l, S_sub, kSub_a, subM_t, kSub2_a, subR_s, S_app, appM_t, kApp_a, appR_s, stepF_a, setR_s, setT_nm, S_for, kFor_a, F_of, kItF_dl, kItF_dt, kItF_ds, kItF_n, kItF_b, I_of, kItI_dl, kItI_dt, kItI_ds, kItI_n, kItI_b, kItI_l, I_rng, F_rng, kRng_a, I_rng2, F_rng2, kRg2_a, kRg3_a, sem_lc, kLc_a, kLc2_a, stepC_nm, wipeR_n, wipeR_c, kCs_a, selC_t, selC_f, kElt_d, kElt_n, Cs_nil, Cs_cons, kC1_a, kC2_a, csS_t, csS_f, csS_n, lv_d, lv_n, lv_x, Res.bind_ok, Res.ofO_some, Res.nox_ok, Option.bind_some, Option.map_some, List.getElem?_cons_zero, List.getElem?_cons_succ, List.set_cons_zero, List.set_cons_succ, f5, it, isi_of .none .tuple false rfl, Bool.not_true, Bool.not_false, cmp_ne, eqD_ii, toB_s, e3, Option.map_some, setT_3, ed, thingB, hd, ht, Bool.false_or, Bool.false_and, List.take_length]
          | str i => simp -implicitDefEqProofs only [sem_var, varR_d, varR_own, varR_bor, varR_loc, sem_con, sem_glo, rdk1_s, rdk2_s, rd_d, rd_new, rd_bor, rd_lent, rd_loc, dat_lst, py_d, py_new, arg_d, arg_new, arg_bor, arg_lent, arg_loc, argAll_nil, sems_nil, sems_cons, kEs_a, kPut_a, sem_bin, kBin_a, kBin2_a, sem_neg, kNeg_a, negK_i, truR_b, truR_i, truR_l, truR_t, truR_n, sem_nt, kNot_a, kNot2_a, sem_an, sem_oo, kAn_a, kOo_a, anS_t, anS_f, ooS_t, ooS_f, sem_cmp, kCmp_a, kCmp2_a, cmpK_lt, cmpK_le, cmpK_gt, cmpK_ge, sem_chn, kChn_a, kChn2_a, kChn3_a, chS_t, chS_f, sem_ite, kIte_a, kIte2_a, selE_t, selE_f, sem_tup, sem_lst, kTup_a, kLst_a, pyAll_nil, pyAll_cons, sem_idx, kIdx_a, kIdx2_a, idxK_l, idxK_t, sem_slc, kSlc_a, kSlc2_a, kSlc3_a, slK_l, slK_t, kPart_n, kPart_i, sem_rev, kRev_a, revD_l, revD_t, sem_cal, kCal_a, calR_s, argAll_c, sem_bif, kBif_a, bifR_s, sem_mth, kMth_a, kMth2_a, mthR_s, idxK_s, rdAll_nil, rdAll_c, bif_len_l, bif_len_t, bif_tup_l, bif_tup_t, bif_lst_l, bif_lst_t, bif_len_s, bif_str_s, bif_repr, sem_isi, kIsi_a, add_ii, sub_ii, mul_ii, mul_ti, fdiv_ii, mod_ii, pow_ii, add_tt, add_ll, Ss_nil, Ss_cons, kSs_n, kSs_r, Ss_frz, frzR_nil, frzR_cons, frz1_own, frz1_d, S_set, kSet_pd, kSet_pn, kSet_pl, kSet_pb, kSet_o, kSet_c, S_unp, kUnp_a, unpR_s, setT_2, setT_3, S_exp, kExp_a, S_ret, kRet_d, kRet_n, kRet_l, S_rtv, rtvR_o, S_ite, kIf_a, kIf2_a, selS_t, selS_f, chgR_o, chgR_l, ownR_s, locR_s, appF_l, extF_l, subF_l, mutR_o, mutR_l, S_sub, kSub_a, subM_t, kSub2_a, subR_s, S_app, appM_t, kApp_a, appR_s, stepF_a, setR_s, setT_nm, S_for, kFor_a, F_of, kItF_dl, kItF_dt, kItF_ds, kItF_n, kItF_b, I_of, kItI_dl, kItI_dt, kItI_ds, kItI_n, kItI_b, kItI_l, I_rng, F_rng, kRng_a, I_rng2, F_rng2, kRg2_a, kRg3_a, sem_lc, kLc_a, kLc2_a, stepC_nm, wipeR_n, wipeR_c, kCs_a, selC_t, selC_f, kElt_d, kElt_n, Cs_nil, Cs_cons, kC1_a, kC2_a, csS_t, csS_f, csS_n, lv_d, lv_n, lv_x, Res.bind_ok, Res.ofO_some, Res.nox_ok, Option.bind_some, Option.map_some, List.getElem?_cons_zero, List.getElem?_cons_succ, List.set_cons_zero, List.set_cons_succ, f5, it, isi_of (.str i) .tuple false rfl, Bool.not_true, Bool.not_false, cmp_ne, eqD_ii, toB_s, e3, Option.map_some, setT_3, ed, thingB, hd, ht, Bool.false_or, Bool.false_and, List.take_length]
          | list i => simp -implicitDefEqProofs only [sem_var, varR_d, varR_own, varR_bor, varR_loc, sem_con, sem_glo, rdk1_s, rdk2_s, rd_d, rd_new, rd_bor, rd_lent, rd_loc, dat_lst, py_d, py_new, arg_d, arg_new, arg_bor, arg_lent, arg_loc, argAll_nil, sems_nil, sems_cons, kEs_a, kPut_a, sem_bin, kBin_a, kBin2_a, sem_neg, kNeg_a, negK_i, truR_b, truR_i, truR_l, truR_t, truR_n, sem_nt, kNot_a, kNot2_a, sem_an, sem_oo, kAn_a, kOo_a, anS_t, anS_f, ooS_t, ooS_f, sem_cmp, kCmp_a, kCmp2_a, cmpK_lt, cmpK_le, cmpK_gt, cmpK_ge, sem_chn, kChn_a, kChn2_a, kChn3_a, chS_t, chS_f, sem_ite, kIte_a, kIte2_a, selE_t, selE_f, sem_tup, sem_lst, kTup_a, kLst_a, pyAll_nil, pyAll_cons, sem_idx, kIdx_a, kIdx2_a, idxK_l, idxK_t, sem_slc, kSlc_a, kSlc2_a, kSlc3_a, slK_l, slK_t, kPart_n, kPart_i, sem_rev, kRev_a, revD_l, revD_t, sem_cal, kCal_a, calR_s, argAll_c, sem_bif, kBif_a, bifR_s, sem_mth, kMth_a, kMth2_a, mthR_s, idxK_s, rdAll_nil, rdAll_c, bif_len_l, bif_len_t, bif_tup_l, bif_tup_t, bif_lst_l, bif_lst_t, bif_len_s, bif_str_s, bif_repr, sem_isi, kIsi_a, add_ii, sub_ii, mul_ii, mul_ti, fdiv_ii, mod_ii, pow_ii, add_tt, add_ll, Ss_nil, Ss_cons, kSs_n, kSs_r, Ss_frz, frzR_nil, frzR_cons, frz1_own, frz1_d, S_set, kSet_pd, kSet_pn, kSet_pl, kSet_pb, kSet_o, kSet_c, S_unp, kUnp_a, unpR_s, setT_2, setT_3, S_exp, kExp_a, S_ret, kRet_d, kRet_n, kRet_l, S_rtv, rtvR_o, S_ite, kIf_a, kIf2_a, selS_t, selS_f, chgR_o, chgR_l, ownR_s, locR_s, appF_l, extF_l, subF_l, mutR_o, mutR_l, S_sub, kSub_a, subM_t, kSub2_a, subR_s, S_app, appM_t, kApp_a, appR_s, stepF_a, setR_s, setT_nm, S_for, kFor_a, F_of, kItF_dl, kItF_dt, kItF_ds, kItF_n, kItF_b, I_of, kItI_dl, kItI_dt, kItI_ds, kItI_n, kItI_b, kItI_l, I_rng, F_rng, kRng_a, I_rng2, F_rng2, kRg2_a, kRg3_a, sem_lc, kLc_a, kLc2_a, stepC_nm, wipeR_n, wipeR_c, kCs_a, selC_t, selC_f, kElt_d, kElt_n, Cs_nil, Cs_cons, kC1_a, kC2_a, csS_t, csS_f, csS_n, lv_d, lv_n, lv_x, Res.bind_ok, Res.ofO_some, Res.nox_ok, Option.bind_some, Option.map_some, List.getElem?_cons_zero, List.getElem?_cons_succ, List.set_cons_zero, List.set_cons_succ, f5, it, isi_of (.list i) .tuple false rfl, Bool.not_true, Bool.not_false, cmp_ne, eqD_ii, toB_s, e3, Option.map_some, setT_3, ed, thingB, hd, ht, Bool.false_or, Bool.false_and, List.take_length]
    · have e3 : decide (((xs.length : Nat) : Int) = 3) = false := decide_eq_false (by omega)
      simp -implicitDefEqProofs only [sem_var, varR_d, varR_own, varR_bor, varR_loc, sem_con, sem_glo, rdk1_s, rdk2_s, rd_d, rd_new, rd_bor, rd_lent, rd_loc, dat_lst, py_d, py_new, arg_d, arg_new, arg_bor, arg_lent, arg_loc, argAll_nil, sems_nil, sems_cons, kEs_a, kPut_a, sem_bin, kBin_a, kBin2_a, sem_neg, kNeg_a, negK_i, truR_b, truR_i, truR_l, truR_t, truR_n, sem_nt, kNot_a, kNot2_a, sem_an, sem_oo, kAn_a, kOo_a, anS_t, anS_f, ooS_t, ooS_f, sem_cmp, kCmp_a, kCmp2_a, cmpK_lt, cmpK_le, cmpK_gt, cmpK_ge, sem_chn, kChn_a, kChn2_a, kChn3_a, chS_t, chS_f, sem_ite, kIte_a, kIte2_a, selE_t, selE_f, sem_tup, sem_lst, kTup_a, kLst_a, pyAll_nil, pyAll_cons, sem_idx, kIdx_a, kIdx2_a, idxK_l, idxK_t, sem_slc, kSlc_a, kSlc2_a, kSlc3_a, slK_l, slK_t, kPart_n, kPart_i, sem_rev, kRev_a, revD_l, revD_t, sem_cal, kCal_a, calR_s, argAll_c, sem_bif, kBif_a, bifR_s, sem_mth, kMth_a, kMth2_a, mthR_s, idxK_s, rdAll_nil, rdAll_c, bif_len_l, bif_len_t, bif_tup_l, bif_tup_t, bif_lst_l, bif_lst_t, bif_len_s, bif_str_s, bif_repr, sem_isi, kIsi_a, add_ii, sub_ii, mul_ii, mul_ti, fdiv_ii, mod_ii, pow_ii, add_tt, add_ll, Ss_nil, Ss_cons, kSs_n, kSs_r, Ss_frz, frzR_nil, frzR_cons, frz1_own, frz1_d, S_set, kSet_pd, kSet_pn, kSet_pl, kSet_pb, kSet_o, kSet_c, S_unp, kUnp_a, unpR_s, setT_2, setT_3, S_exp, kExp_a, S_ret, kRet_d, kRet_n, kRet_l, S_rtv, rtvR_o, S_ite, kIf_a, kIf2_a, selS_t, selS_f, chgR_o, chgR_l, ownR_s, locR_s, appF_l, extF_l, subF_l, mutR_o, mutR_l, S_sub, kSub_a, subM_t, kSub2_a, subR_s, S_app, appM_t, kApp_a, appR_s, stepF_a, setR_s, setT_nm, S_for, kFor_a, F_of, kItF_dl, kItF_dt, kItF_ds, kItF_n, kItF_b, I_of, kItI_dl, kItI_dt, kItI_ds, kItI_n, kItI_b, kItI_l, I_rng, F_rng, kRng_a, I_rng2, F_rng2, kRg2_a, kRg3_a, sem_lc, kLc_a, kLc2_a, stepC_nm, wipeR_n, wipeR_c, kCs_a, selC_t, selC_f, kElt_d, kElt_n, Cs_nil, Cs_cons, kC1_a, kC2_a, csS_t, csS_f, csS_n, lv_d, lv_n, lv_x, Res.bind_ok, Res.ofO_some, Res.nox_ok, Option.bind_some, Option.map_some, List.getElem?_cons_zero, List.getElem?_cons_succ, List.set_cons_zero, List.set_cons_succ, f5, it, Bool.not_true, cmp_ne, eqD_ii, toB_s, e3, Option.map_some, Bool.not_false, thingB_no hl, List.take_length]
theorem eqD_t0 {L : List PyData} (h : Th (.tuple L)) : eqD (.tuple L) (.tuple []) = some L.isEmpty := by
  show eqS _ _ = _
  unfold eqS
  have e1 : SeqAt.shaped (.tuple L) = true := by
    unfold SeqAt.shaped
    rw [h.1, Bool.true_and]
    exact decide_eq_true (Nat.le_trans h.2 (by decide))
  have e2 : SeqAt.shaped (.tuple []) = true := by
    unfold SeqAt.shaped
    simp [PyData.canLay0, PyData.depth, PyData.canLayAll0, PyData.depthAll]
  rw [e1, e2, Bool.and_true, if_pos rfl, PyData.eqv]
  cases L <;> rfl
theorem emT_t (L : List PyData) : emT (.tuple L) = L.isEmpty := by
  cases L <;> rfl
def gL (y : PyData) : Option PyData := if inL y = true then none else some y
theorem gL_all (ys : List PyData) : (ys.filterMap gL).isEmpty = ys.all inL := by
  induction ys with
  | nil => rfl
  | cons y ys ih =>
    rw [List.filterMap_cons, List.all_cons, ← ih]
    unfold gL
    cases inL y <;> rfl
theorem signs_th {s : Str} (h : PyData.strOk s = true) : ∀ x ∈ signs s, Th x := by
  intro x hx
  obtain ⟨c, hc, rfl⟩ := List.mem_map.mp hx
  unfold PyData.strOk at h
  rw [Array.all_eq_true'] at h
  have h1 := h c (by simpa using hc)
  refine ⟨?_, by simp [PyData.depth]⟩
  simp only [PyData.canLay0]
  unfold PyData.strOk
  rw [Array.all_eq_true']
  intro y hy
  have hy : y = c := by simpa using hy
  rw [hy]
  exact h1
/-- the end of the law's own answer: the name -/
theorem lend {Φ : Phi} {a b c : PyData} {B L D : Nat} {st : Stt} (hb : Bd B L D b) : leaveW st.length (semSs Φ (match f13.body with | .cons _ (.cons _ r) => r | r => r) [some (.d (.tuple [a, b, c])), none] st) = .ok (.d (.bool (nameB b))) st := by
  cases b with
  | dict _ => have := hb.1; simp [bdB] at this
  | int i => simp -implicitDefEqProofs only [sem_var, varR_d, varR_own, varR_bor, varR_loc, sem_con, sem_glo, rdk1_s, rdk2_s, rd_d, rd_new, rd_bor, rd_lent, rd_loc, dat_lst, py_d, py_new, arg_d, arg_new, arg_bor, arg_lent, arg_loc, argAll_nil, sems_nil, sems_cons, kEs_a, kPut_a, sem_bin, kBin_a, kBin2_a, sem_neg, kNeg_a, negK_i, truR_b, truR_i, truR_l, truR_t, truR_n, sem_nt, kNot_a, kNot2_a, sem_an, sem_oo, kAn_a, kOo_a, anS_t, anS_f, ooS_t, ooS_f, sem_cmp, kCmp_a, kCmp2_a, cmpK_lt, cmpK_le, cmpK_gt, cmpK_ge, sem_chn, kChn_a, kChn2_a, kChn3_a, chS_t, chS_f, sem_ite, kIte_a, kIte2_a, selE_t, selE_f, sem_tup, sem_lst, kTup_a, kLst_a, pyAll_nil, pyAll_cons, sem_idx, kIdx_a, kIdx2_a, idxK_l, idxK_t, sem_slc, kSlc_a, kSlc2_a, kSlc3_a, slK_l, slK_t, kPart_n, kPart_i, sem_rev, kRev_a, revD_l, revD_t, sem_cal, kCal_a, calR_s, argAll_c, sem_bif, kBif_a, bifR_s, sem_mth, kMth_a, kMth2_a, mthR_s, idxK_s, rdAll_nil, rdAll_c, bif_len_l, bif_len_t, bif_tup_l, bif_tup_t, bif_lst_l, bif_lst_t, bif_len_s, bif_str_s, bif_repr, sem_isi, kIsi_a, add_ii, sub_ii, mul_ii, mul_ti, fdiv_ii, mod_ii, pow_ii, add_tt, add_ll, Ss_nil, Ss_cons, kSs_n, kSs_r, Ss_frz, frzR_nil, frzR_cons, frz1_own, frz1_d, S_set, kSet_pd, kSet_pn, kSet_pl, kSet_pb, kSet_o, kSet_c, S_unp, kUnp_a, unpR_s, setT_2, setT_3, S_exp, kExp_a, S_ret, kRet_d, kRet_n, kRet_l, S_rtv, rtvR_o, S_ite, kIf_a, kIf2_a, selS_t, selS_f, chgR_o, chgR_l, ownR_s, locR_s, appF_l, extF_l, subF_l, mutR_o, mutR_l, S_sub, kSub_a, subM_t, kSub2_a, subR_s, S_app, appM_t, kApp_a, appR_s, stepF_a, setR_s, setT_nm, S_for, kFor_a, F_of, kItF_dl, kItF_dt, kItF_ds, kItF_n, kItF_b, I_of, kItI_dl, kItI_dt, kItI_ds, kItI_n, kItI_b, kItI_l, I_rng, F_rng, kRng_a, I_rng2, F_rng2, kRg2_a, kRg3_a, sem_lc, kLc_a, kLc2_a, stepC_nm, wipeR_n, wipeR_c, kCs_a, selC_t, selC_f, kElt_d, kElt_n, Cs_nil, Cs_cons, kC1_a, kC2_a, csS_t, csS_f, csS_n, lv_d, lv_n, lv_x, Res.bind_ok, Res.ofO_some, Res.nox_ok, Option.bind_some, Option.map_some, List.getElem?_cons_zero, List.getElem?_cons_succ, List.set_cons_zero, List.set_cons_succ, f13, atI_1, isi_of (.int i) .str false rfl, Bool.not_false, nameB, List.take_length]
  | bool i => simp -implicitDefEqProofs only [sem_var, varR_d, varR_own, varR_bor, varR_loc, sem_con, sem_glo, rdk1_s, rdk2_s, rd_d, rd_new, rd_bor, rd_lent, rd_loc, dat_lst, py_d, py_new, arg_d, arg_new, arg_bor, arg_lent, arg_loc, argAll_nil, sems_nil, sems_cons, kEs_a, kPut_a, sem_bin, kBin_a, kBin2_a, sem_neg, kNeg_a, negK_i, truR_b, truR_i, truR_l, truR_t, truR_n, sem_nt, kNot_a, kNot2_a, sem_an, sem_oo, kAn_a, kOo_a, anS_t, anS_f, ooS_t, ooS_f, sem_cmp, kCmp_a, kCmp2_a, cmpK_lt, cmpK_le, cmpK_gt, cmpK_ge, sem_chn, kChn_a, kChn2_a, kChn3_a, chS_t, chS_f, sem_ite, kIte_a, kIte2_a, selE_t, selE_f, sem_tup, sem_lst, kTup_a, kLst_a, pyAll_nil, pyAll_cons, sem_idx, kIdx_a, kIdx2_a, idxK_l, idxK_t, sem_slc, kSlc_a, kSlc2_a, kSlc3_a, slK_l, slK_t, kPart_n, kPart_i, sem_rev, kRev_a, revD_l, revD_t, sem_cal, kCal_a, calR_s, argAll_c, sem_bif, kBif_a, bifR_s, sem_mth, kMth_a, kMth2_a, mthR_s, idxK_s, rdAll_nil, rdAll_c, bif_len_l, bif_len_t, bif_tup_l, bif_tup_t, bif_lst_l, bif_lst_t, bif_len_s, bif_str_s, bif_repr, sem_isi, kIsi_a, add_ii, sub_ii, mul_ii, mul_ti, fdiv_ii, mod_ii, pow_ii, add_tt, add_ll, Ss_nil, Ss_cons, kSs_n, kSs_r, Ss_frz, frzR_nil, frzR_cons, frz1_own, frz1_d, S_set, kSet_pd, kSet_pn, kSet_pl, kSet_pb, kSet_o, kSet_c, S_unp, kUnp_a, unpR_s, setT_2, setT_3, S_exp, kExp_a, S_ret, kRet_d, kRet_n, kRet_l, S_rtv, rtvR_o, S_ite, kIf_a, kIf2_a, selS_t, selS_f, chgR_o, chgR_l, ownR_s, locR_s, appF_l, extF_l, subF_l, mutR_o, mutR_l, S_sub, kSub_a, subM_t, kSub2_a, subR_s, S_app, appM_t, kApp_a, appR_s, stepF_a, setR_s, setT_nm, S_for, kFor_a, F_of, kItF_dl, kItF_dt, kItF_ds, kItF_n, kItF_b, I_of, kItI_dl, kItI_dt, kItI_ds, kItI_n, kItI_b, kItI_l, I_rng, F_rng, kRng_a, I_rng2, F_rng2, kRg2_a, kRg3_a, sem_lc, kLc_a, kLc2_a, stepC_nm, wipeR_n, wipeR_c, kCs_a, selC_t, selC_f, kElt_d, kElt_n, Cs_nil, Cs_cons, kC1_a, kC2_a, csS_t, csS_f, csS_n, lv_d, lv_n, lv_x, Res.bind_ok, Res.ofO_some, Res.nox_ok, Option.bind_some, Option.map_some, List.getElem?_cons_zero, List.getElem?_cons_succ, List.set_cons_zero, List.set_cons_succ, f13, atI_1, isi_of (.bool i) .str false rfl, Bool.not_false, nameB, List.take_length]
  | none => simp -implicitDefEqProofs only [sem_var, varR_d, varR_own, varR_bor, varR_loc, sem_con, sem_glo, rdk1_s, rdk2_s, rd_d, rd_new, rd_bor, rd_lent, rd_loc, dat_lst, py_d, py_new, arg_d, arg_new, arg_bor, arg_lent, arg_loc, argAll_nil, sems_nil, sems_cons, kEs_a, kPut_a, sem_bin, kBin_a, kBin2_a, sem_neg, kNeg_a, negK_i, truR_b, truR_i, truR_l, truR_t, truR_n, sem_nt, kNot_a, kNot2_a, sem_an, sem_oo, kAn_a, kOo_a, anS_t, anS_f, ooS_t, ooS_f, sem_cmp, kCmp_a, kCmp2_a, cmpK_lt, cmpK_le, cmpK_gt, cmpK_ge, sem_chn, kChn_a, kChn2_a, kChn3_a, chS_t, chS_f, sem_ite, kIte_a, kIte2_a, selE_t, selE_f, sem_tup, sem_lst, kTup_a, kLst_a, pyAll_nil, pyAll_cons, sem_idx, kIdx_a, kIdx2_a, idxK_l, idxK_t, sem_slc, kSlc_a, kSlc2_a, kSlc3_a, slK_l, slK_t, kPart_n, kPart_i, sem_rev, kRev_a, revD_l, revD_t, sem_cal, kCal_a, calR_s, argAll_c, sem_bif, kBif_a, bifR_s, sem_mth, kMth_a, kMth2_a, mthR_s, idxK_s, rdAll_nil, rdAll_c, bif_len_l, bif_len_t, bif_tup_l, bif_tup_t, bif_lst_l, bif_lst_t, bif_len_s, bif_str_s, bif_repr, sem_isi, kIsi_a, add_ii, sub_ii, mul_ii, mul_ti, fdiv_ii, mod_ii, pow_ii, add_tt, add_ll, Ss_nil, Ss_cons, kSs_n, kSs_r, Ss_frz, frzR_nil, frzR_cons, frz1_own, frz1_d, S_set, kSet_pd, kSet_pn, kSet_pl, kSet_pb, kSet_o, kSet_c, S_unp, kUnp_a, unpR_s, setT_2, setT_3, S_exp, kExp_a, S_ret, kRet_d, kRet_n, kRet_l, S_rtv, rtvR_o, S_ite, kIf_a, kIf2_a, selS_t, selS_f, chgR_o, chgR_l, ownR_s, locR_s, appF_l, extF_l, subF_l, mutR_o, mutR_l, S_sub, kSub_a, subM_t, kSub2_a, subR_s, S_app, appM_t, kApp_a, appR_s, stepF_a, setR_s, setT_nm, S_for, kFor_a, F_of, kItF_dl, kItF_dt, kItF_ds, kItF_n, kItF_b, I_of, kItI_dl, kItI_dt, kItI_ds, kItI_n, kItI_b, kItI_l, I_rng, F_rng, kRng_a, I_rng2, F_rng2, kRg2_a, kRg3_a, sem_lc, kLc_a, kLc2_a, stepC_nm, wipeR_n, wipeR_c, kCs_a, selC_t, selC_f, kElt_d, kElt_n, Cs_nil, Cs_cons, kC1_a, kC2_a, csS_t, csS_f, csS_n, lv_d, lv_n, lv_x, Res.bind_ok, Res.ofO_some, Res.nox_ok, Option.bind_some, Option.map_some, List.getElem?_cons_zero, List.getElem?_cons_succ, List.set_cons_zero, List.set_cons_succ, f13, atI_1, isi_of .none .str false rfl, Bool.not_false, nameB, List.take_length]
  | tuple i => simp -implicitDefEqProofs only [sem_var, varR_d, varR_own, varR_bor, varR_loc, sem_con, sem_glo, rdk1_s, rdk2_s, rd_d, rd_new, rd_bor, rd_lent, rd_loc, dat_lst, py_d, py_new, arg_d, arg_new, arg_bor, arg_lent, arg_loc, argAll_nil, sems_nil, sems_cons, kEs_a, kPut_a, sem_bin, kBin_a, kBin2_a, sem_neg, kNeg_a, negK_i, truR_b, truR_i, truR_l, truR_t, truR_n, sem_nt, kNot_a, kNot2_a, sem_an, sem_oo, kAn_a, kOo_a, anS_t, anS_f, ooS_t, ooS_f, sem_cmp, kCmp_a, kCmp2_a, cmpK_lt, cmpK_le, cmpK_gt, cmpK_ge, sem_chn, kChn_a, kChn2_a, kChn3_a, chS_t, chS_f, sem_ite, kIte_a, kIte2_a, selE_t, selE_f, sem_tup, sem_lst, kTup_a, kLst_a, pyAll_nil, pyAll_cons, sem_idx, kIdx_a, kIdx2_a, idxK_l, idxK_t, sem_slc, kSlc_a, kSlc2_a, kSlc3_a, slK_l, slK_t, kPart_n, kPart_i, sem_rev, kRev_a, revD_l, revD_t, sem_cal, kCal_a, calR_s, argAll_c, sem_bif, kBif_a, bifR_s, sem_mth, kMth_a, kMth2_a, mthR_s, idxK_s, rdAll_nil, rdAll_c, bif_len_l, bif_len_t, bif_tup_l, bif_tup_t, bif_lst_l, bif_lst_t, bif_len_s, bif_str_s, bif_repr, sem_isi, kIsi_a, add_ii, sub_ii, mul_ii, mul_ti, fdiv_ii, mod_ii, pow_ii, add_tt, add_ll, Ss_nil, Ss_cons, kSs_n, kSs_r, Ss_frz, frzR_nil, frzR_cons, frz1_own, frz1_d, S_set, kSet_pd, kSet_pn, kSet_pl, kSet_pb, kSet_o, kSet_c, S_unp, kUnp_a, unpR_s, setT_2, setT_3, S_exp, kExp_a, S_ret, kRet_d, kRet_n, kRet_l, S_rtv, rtvR_o, S_ite, kIf_a, kIf2_a, selS_t, selS_f, chgR_o, chgR_l, ownR_s, locR_s, appF_l, extF_l, subF_l, mutR_o, mutR_l, S_sub, kSub_a, subM_t, kSub2_a, subR_s, S_app, appM_t, kApp_a, appR_s, stepF_a, setR_s, setT_nm, S_for, kFor_a, F_of, kItF_dl, kItF_dt, kItF_ds, kItF_n, kItF_b, I_of, kItI_dl, kItI_dt, kItI_ds, kItI_n, kItI_b, kItI_l, I_rng, F_rng, kRng_a, I_rng2, F_rng2, kRg2_a, kRg3_a, sem_lc, kLc_a, kLc2_a, stepC_nm, wipeR_n, wipeR_c, kCs_a, selC_t, selC_f, kElt_d, kElt_n, Cs_nil, Cs_cons, kC1_a, kC2_a, csS_t, csS_f, csS_n, lv_d, lv_n, lv_x, Res.bind_ok, Res.ofO_some, Res.nox_ok, Option.bind_some, Option.map_some, List.getElem?_cons_zero, List.getElem?_cons_succ, List.set_cons_zero, List.set_cons_succ, f13, atI_1, isi_of (.tuple i) .str false rfl, Bool.not_false, nameB, List.take_length]
  | list i => simp -implicitDefEqProofs only [sem_var, varR_d, varR_own, varR_bor, varR_loc, sem_con, sem_glo, rdk1_s, rdk2_s, rd_d, rd_new, rd_bor, rd_lent, rd_loc, dat_lst, py_d, py_new, arg_d, arg_new, arg_bor, arg_lent, arg_loc, argAll_nil, sems_nil, sems_cons, kEs_a, kPut_a, sem_bin, kBin_a, kBin2_a, sem_neg, kNeg_a, negK_i, truR_b, truR_i, truR_l, truR_t, truR_n, sem_nt, kNot_a, kNot2_a, sem_an, sem_oo, kAn_a, kOo_a, anS_t, anS_f, ooS_t, ooS_f, sem_cmp, kCmp_a, kCmp2_a, cmpK_lt, cmpK_le, cmpK_gt, cmpK_ge, sem_chn, kChn_a, kChn2_a, kChn3_a, chS_t, chS_f, sem_ite, kIte_a, kIte2_a, selE_t, selE_f, sem_tup, sem_lst, kTup_a, kLst_a, pyAll_nil, pyAll_cons, sem_idx, kIdx_a, kIdx2_a, idxK_l, idxK_t, sem_slc, kSlc_a, kSlc2_a, kSlc3_a, slK_l, slK_t, kPart_n, kPart_i, sem_rev, kRev_a, revD_l, revD_t, sem_cal, kCal_a, calR_s, argAll_c, sem_bif, kBif_a, bifR_s, sem_mth, kMth_a, kMth2_a, mthR_s, idxK_s, rdAll_nil, rdAll_c, bif_len_l, bif_len_t, bif_tup_l, bif_tup_t, bif_lst_l, bif_lst_t, bif_len_s, bif_str_s, bif_repr, sem_isi, kIsi_a, add_ii, sub_ii, mul_ii, mul_ti, fdiv_ii, mod_ii, pow_ii, add_tt, add_ll, Ss_nil, Ss_cons, kSs_n, kSs_r, Ss_frz, frzR_nil, frzR_cons, frz1_own, frz1_d, S_set, kSet_pd, kSet_pn, kSet_pl, kSet_pb, kSet_o, kSet_c, S_unp, kUnp_a, unpR_s, setT_2, setT_3, S_exp, kExp_a, S_ret, kRet_d, kRet_n, kRet_l, S_rtv, rtvR_o, S_ite, kIf_a, kIf2_a, selS_t, selS_f, chgR_o, chgR_l, ownR_s, locR_s, appF_l, extF_l, subF_l, mutR_o, mutR_l, S_sub, kSub_a, subM_t, kSub2_a, subR_s, S_app, appM_t, kApp_a, appR_s, stepF_a, setR_s, setT_nm, S_for, kFor_a, F_of, kItF_dl, kItF_dt, kItF_ds, kItF_n, kItF_b, I_of, kItI_dl, kItI_dt, kItI_ds, kItI_n, kItI_b, kItI_l, I_rng, F_rng, kRng_a, I_rng2, F_rng2, kRg2_a, kRg3_a, sem_lc, kLc_a, kLc2_a, stepC_nm, wipeR_n, wipeR_c, kCs_a, selC_t, selC_f, kElt_d, kElt_n, Cs_nil, Cs_cons, kC1_a, kC2_a, csS_t, csS_f, csS_n, lv_d, lv_n, lv_x, Res.bind_ok, Res.ofO_some, Res.nox_ok, Option.bind_some, Option.map_some, List.getElem?_cons_zero, List.getElem?_cons_succ, List.set_cons_zero, List.set_cons_succ, f13, atI_1, isi_of (.list i) .str false rfl, Bool.not_false, nameB, List.take_length]
  | str s =>
    have it := isi_of (.str s) .str true rfl
    have hl : (s.length ≤ lineN) = True := eq_true (le_line (str_len hb).2 (by decide))
    by_cases h1 : 1 ≤ s.length
    · have d1 : decide ((0 : Int) < ((s.length : Nat) : Int)) = true := decide_eq_true (by omega)
      have d1' : decide (1 ≤ s.length) = true := decide_eq_true h1
      by_cases h8 : s.length ≤ 8
      · have d8 : decide (((s.length : Nat) : Int) < 9) = true := decide_eq_true (by omega)
        have d8' : decide (s.length ≤ 8) = true := decide_eq_true h8
        have hc : compL (stepC Φ (.var 1) (.nm 1) (.cons (.cmp .notin (.var 1) (.con (.str "abcdefghijklmnopqrstuvwxyz"))) .nil) [1] [some (.d (.tuple [a, .str s, c])), none]) (s.cps.toList.map fun c => .str ⟨#[c]⟩) st = .ok ((signs s).filterMap gL) st := by
          show compL _ (signs s) st = _
          refine compL_fm fun z hz => ?_
          have ez := inL_ok hz
          unfold gL
          cases hz1 : inL z with
          | true =>
            rw [hz1] at ez
            simp -implicitDefEqProofs only [sem_var, varR_d, varR_own, varR_bor, varR_loc, sem_con, sem_glo, rdk1_s, rdk2_s, rd_d, rd_new, rd_bor, rd_lent, rd_loc, dat_lst, py_d, py_new, arg_d, arg_new, arg_bor, arg_lent, arg_loc, argAll_nil, sems_nil, sems_cons, kEs_a, kPut_a, sem_bin, kBin_a, kBin2_a, sem_neg, kNeg_a, negK_i, truR_b, truR_i, truR_l, truR_t, truR_n, sem_nt, kNot_a, kNot2_a, sem_an, sem_oo, kAn_a, kOo_a, anS_t, anS_f, ooS_t, ooS_f, sem_cmp, kCmp_a, kCmp2_a, cmpK_lt, cmpK_le, cmpK_gt, cmpK_ge, sem_chn, kChn_a, kChn2_a, kChn3_a, chS_t, chS_f, sem_ite, kIte_a, kIte2_a, selE_t, selE_f, sem_tup, sem_lst, kTup_a, kLst_a, pyAll_nil, pyAll_cons, sem_idx, kIdx_a, kIdx2_a, idxK_l, idxK_t, sem_slc, kSlc_a, kSlc2_a, kSlc3_a, slK_l, slK_t, kPart_n, kPart_i, sem_rev, kRev_a, revD_l, revD_t, sem_cal, kCal_a, calR_s, argAll_c, sem_bif, kBif_a, bifR_s, sem_mth, kMth_a, kMth2_a, mthR_s, idxK_s, rdAll_nil, rdAll_c, bif_len_l, bif_len_t, bif_tup_l, bif_tup_t, bif_lst_l, bif_lst_t, bif_len_s, bif_str_s, bif_repr, sem_isi, kIsi_a, add_ii, sub_ii, mul_ii, mul_ti, fdiv_ii, mod_ii, pow_ii, add_tt, add_ll, Ss_nil, Ss_cons, kSs_n, kSs_r, Ss_frz, frzR_nil, frzR_cons, frz1_own, frz1_d, S_set, kSet_pd, kSet_pn, kSet_pl, kSet_pb, kSet_o, kSet_c, S_unp, kUnp_a, unpR_s, setT_2, setT_3, S_exp, kExp_a, S_ret, kRet_d, kRet_n, kRet_l, S_rtv, rtvR_o, S_ite, kIf_a, kIf2_a, selS_t, selS_f, chgR_o, chgR_l, ownR_s, locR_s, appF_l, extF_l, subF_l, mutR_o, mutR_l, S_sub, kSub_a, subM_t, kSub2_a, subR_s, S_app, appM_t, kApp_a, appR_s, stepF_a, setR_s, setT_nm, S_for, kFor_a, F_of, kItF_dl, kItF_dt, kItF_ds, kItF_n, kItF_b, I_of, kItI_dl, kItI_dt, kItI_ds, kItI_n, kItI_b, kItI_l, I_rng, F_rng, kRng_a, I_rng2, F_rng2, kRg2_a, kRg3_a, sem_lc, kLc_a, kLc2_a, stepC_nm, wipeR_n, wipeR_c, kCs_a, selC_t, selC_f, kElt_d, kElt_n, Cs_nil, Cs_cons, kC1_a, kC2_a, csS_t, csS_f, csS_n, lv_d, lv_n, lv_x, Res.bind_ok, Res.ofO_some, Res.nox_ok, Option.bind_some, Option.map_some, List.getElem?_cons_zero, List.getElem?_cons_succ, List.set_cons_zero, List.set_cons_succ, cmp_notin, ez, Option.map_some, Bool.not_true, toB_s, if_true]
          | false =>
            rw [hz1] at ez
            simp -implicitDefEqProofs only [sem_var, varR_d, varR_own, varR_bor, varR_loc, sem_con, sem_glo, rdk1_s, rdk2_s, rd_d, rd_new, rd_bor, rd_lent, rd_loc, dat_lst, py_d, py_new, arg_d, arg_new, arg_bor, arg_lent, arg_loc, argAll_nil, sems_nil, sems_cons, kEs_a, kPut_a, sem_bin, kBin_a, kBin2_a, sem_neg, kNeg_a, negK_i, truR_b, truR_i, truR_l, truR_t, truR_n, sem_nt, kNot_a, kNot2_a, sem_an, sem_oo, kAn_a, kOo_a, anS_t, anS_f, ooS_t, ooS_f, sem_cmp, kCmp_a, kCmp2_a, cmpK_lt, cmpK_le, cmpK_gt, cmpK_ge, sem_chn, kChn_a, kChn2_a, kChn3_a, chS_t, chS_f, sem_ite, kIte_a, kIte2_a, selE_t, selE_f, sem_tup, sem_lst, kTup_a, kLst_a, pyAll_nil, pyAll_cons, sem_idx, kIdx_a, kIdx2_a, idxK_l, idxK_t, sem_slc, kSlc_a, kSlc2_a, kSlc3_a, slK_l, slK_t, kPart_n, kPart_i, sem_rev, kRev_a, revD_l, revD_t, sem_cal, kCal_a, calR_s, argAll_c, sem_bif, kBif_a, bifR_s, sem_mth, kMth_a, kMth2_a, mthR_s, idxK_s, rdAll_nil, rdAll_c, bif_len_l, bif_len_t, bif_tup_l, bif_tup_t, bif_lst_l, bif_lst_t, bif_len_s, bif_str_s, bif_repr, sem_isi, kIsi_a, add_ii, sub_ii, mul_ii, mul_ti, fdiv_ii, mod_ii, pow_ii, add_tt, add_ll, Ss_nil, Ss_cons, kSs_n, kSs_r, Ss_frz, frzR_nil, frzR_cons, frz1_own, frz1_d, S_set, kSet_pd, kSet_pn, kSet_pl, kSet_pb, kSet_o, kSet_c, S_unp, kUnp_a, unpR_s, setT_2, setT_3, S_exp, kExp_a, S_ret, kRet_d, kRet_n, kRet_l, S_rtv, rtvR_o, S_ite, kIf_a, kIf2_a, selS_t, selS_f, chgR_o, chgR_l, ownR_s, locR_s, appF_l, extF_l, subF_l, mutR_o, mutR_l, S_sub, kSub_a, subM_t, kSub2_a, subR_s, S_app, appM_t, kApp_a, appR_s, stepF_a, setR_s, setT_nm, S_for, kFor_a, F_of, kItF_dl, kItF_dt, kItF_ds, kItF_n, kItF_b, I_of, kItI_dl, kItI_dt, kItI_ds, kItI_n, kItI_b, kItI_l, I_rng, F_rng, kRng_a, I_rng2, F_rng2, kRg2_a, kRg3_a, sem_lc, kLc_a, kLc2_a, stepC_nm, wipeR_n, wipeR_c, kCs_a, selC_t, selC_f, kElt_d, kElt_n, Cs_nil, Cs_cons, kC1_a, kC2_a, csS_t, csS_f, csS_n, lv_d, lv_n, lv_x, Res.bind_ok, Res.ofO_some, Res.nox_ok, Option.bind_some, Option.map_some, List.getElem?_cons_zero, List.getElem?_cons_succ, List.set_cons_zero, List.set_cons_succ, cmp_notin, ez, Option.map_some, Bool.not_false, toB_s, Bool.false_eq_true, if_false]
        have hk : (((signs s).filterMap gL).length ≤ lineN) = True := eq_true (le_line (b := 8) (Nat.le_trans (List.length_filterMap_le _ _) (by rw [signs_len]; omega)) (by decide))
        have he : eqD (.list ((signs s).filterMap gL)) (.list []) = some ((signs s).all inL) := by
          rw [eqD_l0 fun z hz => ?_, gL_all]
          obtain ⟨w, hw, hg⟩ := List.mem_filterMap.mp hz
          unfold gL at hg
          split at hg
          · cases hg
          · cases hg; exact signs_th (str_len hb).1 _ hw
        simp -implicitDefEqProofs only [sem_var, varR_d, varR_own, varR_bor, varR_loc, sem_con, sem_glo, rdk1_s, rdk2_s, rd_d, rd_new, rd_bor, rd_lent, rd_loc, dat_lst, py_d, py_new, arg_d, arg_new, arg_bor, arg_lent, arg_loc, argAll_nil, sems_nil, sems_cons, kEs_a, kPut_a, sem_bin, kBin_a, kBin2_a, sem_neg, kNeg_a, negK_i, truR_b, truR_i, truR_l, truR_t, truR_n, sem_nt, kNot_a, kNot2_a, sem_an, sem_oo, kAn_a, kOo_a, anS_t, anS_f, ooS_t, ooS_f, sem_cmp, kCmp_a, kCmp2_a, cmpK_lt, cmpK_le, cmpK_gt, cmpK_ge, sem_chn, kChn_a, kChn2_a, kChn3_a, chS_t, chS_f, sem_ite, kIte_a, kIte2_a, selE_t, selE_f, sem_tup, sem_lst, kTup_a, kLst_a, pyAll_nil, pyAll_cons, sem_idx, kIdx_a, kIdx2_a, idxK_l, idxK_t, sem_slc, kSlc_a, kSlc2_a, kSlc3_a, slK_l, slK_t, kPart_n, kPart_i, sem_rev, kRev_a, revD_l, revD_t, sem_cal, kCal_a, calR_s, argAll_c, sem_bif, kBif_a, bifR_s, sem_mth, kMth_a, kMth2_a, mthR_s, idxK_s, rdAll_nil, rdAll_c, bif_len_l, bif_len_t, bif_tup_l, bif_tup_t, bif_lst_l, bif_lst_t, bif_len_s, bif_str_s, bif_repr, sem_isi, kIsi_a, add_ii, sub_ii, mul_ii, mul_ti, fdiv_ii, mod_ii, pow_ii, add_tt, add_ll, Ss_nil, Ss_cons, kSs_n, kSs_r, Ss_frz, frzR_nil, frzR_cons, frz1_own, frz1_d, S_set, kSet_pd, kSet_pn, kSet_pl, kSet_pb, kSet_o, kSet_c, S_unp, kUnp_a, unpR_s, setT_2, setT_3, S_exp, kExp_a, S_ret, kRet_d, kRet_n, kRet_l, S_rtv, rtvR_o, S_ite, kIf_a, kIf2_a, selS_t, selS_f, chgR_o, chgR_l, ownR_s, locR_s, appF_l, extF_l, subF_l, mutR_o, mutR_l, S_sub, kSub_a, subM_t, kSub2_a, subR_s, S_app, appM_t, kApp_a, appR_s, stepF_a, setR_s, setT_nm, S_for, kFor_a, F_of, kItF_dl, kItF_dt, kItF_ds, kItF_n, kItF_b, I_of, kItI_dl, kItI_dt, kItI_ds, kItI_n, kItI_b, kItI_l, I_rng, F_rng, kRng_a, I_rng2, F_rng2, kRg2_a, kRg3_a, sem_lc, kLc_a, kLc2_a, stepC_nm, wipeR_n, wipeR_c, kCs_a, selC_t, selC_f, kElt_d, kElt_n, Cs_nil, Cs_cons, kC1_a, kC2_a, csS_t, csS_f, csS_n, lv_d, lv_n, lv_x, Res.bind_ok, Res.ofO_some, Res.nox_ok, Option.bind_some, Option.map_some, List.getElem?_cons_zero, List.getElem?_cons_succ, List.set_cons_zero, List.set_cons_succ, f13, atI_1, it, Bool.not_true, hl, if_true, d1, d8, d1', d8', nameB, nameS, Bool.true_and, hc, hk, cmp_eq, he, toB_s, lstK, pyAll_nil, k0, List.take_length]
      · have d8 : decide (((s.length : Nat) : Int) < 9) = false := decide_eq_false (by omega)
        have d8' : decide (s.length ≤ 8) = false := decide_eq_false h8
        simp -implicitDefEqProofs only [sem_var, varR_d, varR_own, varR_bor, varR_loc, sem_con, sem_glo, rdk1_s, rdk2_s, rd_d, rd_new, rd_bor, rd_lent, rd_loc, dat_lst, py_d, py_new, arg_d, arg_new, arg_bor, arg_lent, arg_loc, argAll_nil, sems_nil, sems_cons, kEs_a, kPut_a, sem_bin, kBin_a, kBin2_a, sem_neg, kNeg_a, negK_i, truR_b, truR_i, truR_l, truR_t, truR_n, sem_nt, kNot_a, kNot2_a, sem_an, sem_oo, kAn_a, kOo_a, anS_t, anS_f, ooS_t, ooS_f, sem_cmp, kCmp_a, kCmp2_a, cmpK_lt, cmpK_le, cmpK_gt, cmpK_ge, sem_chn, kChn_a, kChn2_a, kChn3_a, chS_t, chS_f, sem_ite, kIte_a, kIte2_a, selE_t, selE_f, sem_tup, sem_lst, kTup_a, kLst_a, pyAll_nil, pyAll_cons, sem_idx, kIdx_a, kIdx2_a, idxK_l, idxK_t, sem_slc, kSlc_a, kSlc2_a, kSlc3_a, slK_l, slK_t, kPart_n, kPart_i, sem_rev, kRev_a, revD_l, revD_t, sem_cal, kCal_a, calR_s, argAll_c, sem_bif, kBif_a, bifR_s, sem_mth, kMth_a, kMth2_a, mthR_s, idxK_s, rdAll_nil, rdAll_c, bif_len_l, bif_len_t, bif_tup_l, bif_tup_t, bif_lst_l, bif_lst_t, bif_len_s, bif_str_s, bif_repr, sem_isi, kIsi_a, add_ii, sub_ii, mul_ii, mul_ti, fdiv_ii, mod_ii, pow_ii, add_tt, add_ll, Ss_nil, Ss_cons, kSs_n, kSs_r, Ss_frz, frzR_nil, frzR_cons, frz1_own, frz1_d, S_set, kSet_pd, kSet_pn, kSet_pl, kSet_pb, kSet_o, kSet_c, S_unp, kUnp_a, unpR_s, setT_2, setT_3, S_exp, kExp_a, S_ret, kRet_d, kRet_n, kRet_l, S_rtv, rtvR_o, S_ite, kIf_a, kIf2_a, selS_t, selS_f, chgR_o, chgR_l, ownR_s, locR_s, appF_l, extF_l, subF_l, mutR_o, mutR_l, S_sub, kSub_a, subM_t, kSub2_a, subR_s, S_app, appM_t, kApp_a, appR_s, stepF_a, setR_s, setT_nm, S_for, kFor_a, F_of, kItF_dl, kItF_dt, kItF_ds, kItF_n, kItF_b, I_of, kItI_dl, kItI_dt, kItI_ds, kItI_n, kItI_b, kItI_l, I_rng, F_rng, kRng_a, I_rng2, F_rng2, kRg2_a, kRg3_a, sem_lc, kLc_a, kLc2_a, stepC_nm, wipeR_n, wipeR_c, kCs_a, selC_t, selC_f, kElt_d, kElt_n, Cs_nil, Cs_cons, kC1_a, kC2_a, csS_t, csS_f, csS_n, lv_d, lv_n, lv_x, Res.bind_ok, Res.ofO_some, Res.nox_ok, Option.bind_some, Option.map_some, List.getElem?_cons_zero, List.getElem?_cons_succ, List.set_cons_zero, List.set_cons_succ, f13, atI_1, it, Bool.not_true, hl, if_true, d1, d8, d1', d8', nameB, nameS, Bool.true_and, Bool.false_and, Bool.not_false, List.take_length]
    · have d1 : decide ((0 : Int) < ((s.length : Nat) : Int)) = false := decide_eq_false (by omega)
      have d1' : decide (1 ≤ s.length) = false := decide_eq_false h1
      simp -implicitDefEqProofs only [sem_var, varR_d, varR_own, varR_bor, varR_loc, sem_con, sem_glo, rdk1_s, rdk2_s, rd_d, rd_new, rd_bor, rd_lent, rd_loc, dat_lst, py_d, py_new, arg_d, arg_new, arg_bor, arg_lent, arg_loc, argAll_nil, sems_nil, sems_cons, kEs_a, kPut_a, sem_bin, kBin_a, kBin2_a, sem_neg, kNeg_a, negK_i, truR_b, truR_i, truR_l, truR_t, truR_n, sem_nt, kNot_a, kNot2_a, sem_an, sem_oo, kAn_a, kOo_a, anS_t, anS_f, ooS_t, ooS_f, sem_cmp, kCmp_a, kCmp2_a, cmpK_lt, cmpK_le, cmpK_gt, cmpK_ge, sem_chn, kChn_a, kChn2_a, kChn3_a, chS_t, chS_f, sem_ite, kIte_a, kIte2_a, selE_t, selE_f, sem_tup, sem_lst, kTup_a, kLst_a, pyAll_nil, pyAll_cons, sem_idx, kIdx_a, kIdx2_a, idxK_l, idxK_t, sem_slc, kSlc_a, kSlc2_a, kSlc3_a, slK_l, slK_t, kPart_n, kPart_i, sem_rev, kRev_a, revD_l, revD_t, sem_cal, kCal_a, calR_s, argAll_c, sem_bif, kBif_a, bifR_s, sem_mth, kMth_a, kMth2_a, mthR_s, idxK_s, rdAll_nil, rdAll_c, bif_len_l, bif_len_t, bif_tup_l, bif_tup_t, bif_lst_l, bif_lst_t, bif_len_s, bif_str_s, bif_repr, sem_isi, kIsi_a, add_ii, sub_ii, mul_ii, mul_ti, fdiv_ii, mod_ii, pow_ii, add_tt, add_ll, Ss_nil, Ss_cons, kSs_n, kSs_r, Ss_frz, frzR_nil, frzR_cons, frz1_own, frz1_d, S_set, kSet_pd, kSet_pn, kSet_pl, kSet_pb, kSet_o, kSet_c, S_unp, kUnp_a, unpR_s, setT_2, setT_3, S_exp, kExp_a, S_ret, kRet_d, kRet_n, kRet_l, S_rtv, rtvR_o, S_ite, kIf_a, kIf2_a, selS_t, selS_f, chgR_o, chgR_l, ownR_s, locR_s, appF_l, extF_l, subF_l, mutR_o, mutR_l, S_sub, kSub_a, subM_t, kSub2_a, subR_s, S_app, appM_t, kApp_a, appR_s, stepF_a, setR_s, setT_nm, S_for, kFor_a, F_of, kItF_dl, kItF_dt, kItF_ds, kItF_n, kItF_b, I_of, kItI_dl, kItI_dt, kItI_ds, kItI_n, kItI_b, kItI_l, I_rng, F_rng, kRng_a, I_rng2, F_rng2, kRg2_a, kRg3_a, sem_lc, kLc_a, kLc2_a, stepC_nm, wipeR_n, wipeR_c, kCs_a, selC_t, selC_f, kElt_d, kElt_n, Cs_nil, Cs_cons, kC1_a, kC2_a, csS_t, csS_f, csS_n, lv_d, lv_n, lv_x, Res.bind_ok, Res.ofO_some, Res.nox_ok, Option.bind_some, Option.map_some, List.getElem?_cons_zero, List.getElem?_cons_succ, List.set_cons_zero, List.set_cons_succ, f13, atI_1, it, Bool.not_true, hl, if_true, d1, d1', nameB, nameS, Bool.false_and, Bool.not_false, List.take_length]
def a13 : S := .ite (.oo (.nt (.isi (.var 0) .tuple)) (.oo (.cmp .ne (.bif .len (.cons (.var 0) .nil)) (.con (.int 3))) (.nt (.cal "_law_whole" 10 (.cons (.idx (.var 0) (.con (.int 2))) (.cons (.neg (.con (.int 999))) (.cons (.con (.int 999)) .nil)))))))
    (.cons (.ret (.con (.bool false))) .nil) .nil
def b13 : S := .ite (.oo (.nt (.isi (.idx (.var 0) (.con (.int 0))) .tuple)) (.an (.cmp .ne (.idx (.var 0) (.con (.int 0))) (.tup .nil)) (.nt (.cal "_law_is_dot" 12 (.cons (.idx (.var 0) (.con (.int 0))) .nil)))))
    (.cons (.ret (.con (.bool false))) .nil) .nil
def r13 : Ss := match f13.body with | .cons _ (.cons _ r) => r | r => r
theorem f13_is : f13.body = .cons a13 (.cons b13 r13) := rfl
theorem r13_ok {Φ : Phi} {a b c : PyData} {B L D : Nat} {st : Stt} (hb : Bd B L D b) : leaveW st.length (semSs Φ r13 [some (.d (.tuple [a, b, c])), none] st) = .ok (.d (.bool (nameB b))) st := lend hb
theorem lthing_ok {Φ : Phi} (H : ThH Φ) {B L D : Nat} {x : PyData} {st : Stt} (hb : Bd B L D x) (hD : D ≤ 20) (hB : B ≤ 10 ^ 50) : leaveW st.length (semSs Φ f13.body [some (.d x), none] st) = .ok (.d (.bool (thingB x))) st := by
  have h : Th x := hb.th hD
  cases x with
  | dict _ => have := h.noD; cases this
  | int i => simp -implicitDefEqProofs only [sem_var, varR_d, varR_own, varR_bor, varR_loc, sem_con, sem_glo, rdk1_s, rdk2_s, rd_d, rd_new, rd_bor, rd_lent, rd_loc, dat_lst, py_d, py_new, arg_d, arg_new, arg_bor, arg_lent, arg_loc, argAll_nil, sems_nil, sems_cons, kEs_a, kPut_a, sem_bin, kBin_a, kBin2_a, sem_neg, kNeg_a, negK_i, truR_b, truR_i, truR_l, truR_t, truR_n, sem_nt, kNot_a, kNot2_a, sem_an, sem_oo, kAn_a, kOo_a, anS_t, anS_f, ooS_t, ooS_f, sem_cmp, kCmp_a, kCmp2_a, cmpK_lt, cmpK_le, cmpK_gt, cmpK_ge, sem_chn, kChn_a, kChn2_a, kChn3_a, chS_t, chS_f, sem_ite, kIte_a, kIte2_a, selE_t, selE_f, sem_tup, sem_lst, kTup_a, kLst_a, pyAll_nil, pyAll_cons, sem_idx, kIdx_a, kIdx2_a, idxK_l, idxK_t, sem_slc, kSlc_a, kSlc2_a, kSlc3_a, slK_l, slK_t, kPart_n, kPart_i, sem_rev, kRev_a, revD_l, revD_t, sem_cal, kCal_a, calR_s, argAll_c, sem_bif, kBif_a, bifR_s, sem_mth, kMth_a, kMth2_a, mthR_s, idxK_s, rdAll_nil, rdAll_c, bif_len_l, bif_len_t, bif_tup_l, bif_tup_t, bif_lst_l, bif_lst_t, bif_len_s, bif_str_s, bif_repr, sem_isi, kIsi_a, add_ii, sub_ii, mul_ii, mul_ti, fdiv_ii, mod_ii, pow_ii, add_tt, add_ll, Ss_nil, Ss_cons, kSs_n, kSs_r, Ss_frz, frzR_nil, frzR_cons, frz1_own, frz1_d, S_set, kSet_pd, kSet_pn, kSet_pl, kSet_pb, kSet_o, kSet_c, S_unp, kUnp_a, unpR_s, setT_2, setT_3, S_exp, kExp_a, S_ret, kRet_d, kRet_n, kRet_l, S_rtv, rtvR_o, S_ite, kIf_a, kIf2_a, selS_t, selS_f, chgR_o, chgR_l, ownR_s, locR_s, appF_l, extF_l, subF_l, mutR_o, mutR_l, S_sub, kSub_a, subM_t, kSub2_a, subR_s, S_app, appM_t, kApp_a, appR_s, stepF_a, setR_s, setT_nm, S_for, kFor_a, F_of, kItF_dl, kItF_dt, kItF_ds, kItF_n, kItF_b, I_of, kItI_dl, kItI_dt, kItI_ds, kItI_n, kItI_b, kItI_l, I_rng, F_rng, kRng_a, I_rng2, F_rng2, kRg2_a, kRg3_a, sem_lc, kLc_a, kLc2_a, stepC_nm, wipeR_n, wipeR_c, kCs_a, selC_t, selC_f, kElt_d, kElt_n, Cs_nil, Cs_cons, kC1_a, kC2_a, csS_t, csS_f, csS_n, lv_d, lv_n, lv_x, Res.bind_ok, Res.ofO_some, Res.nox_ok, Option.bind_some, Option.map_some, List.getElem?_cons_zero, List.getElem?_cons_succ, List.set_cons_zero, List.set_cons_succ, f13, isi_of (.int i) .tuple false rfl, Bool.not_false, thingB, List.take_length]
  | bool i => simp -implicitDefEqProofs only [sem_var, varR_d, varR_own, varR_bor, varR_loc, sem_con, sem_glo, rdk1_s, rdk2_s, rd_d, rd_new, rd_bor, rd_lent, rd_loc, dat_lst, py_d, py_new, arg_d, arg_new, arg_bor, arg_lent, arg_loc, argAll_nil, sems_nil, sems_cons, kEs_a, kPut_a, sem_bin, kBin_a, kBin2_a, sem_neg, kNeg_a, negK_i, truR_b, truR_i, truR_l, truR_t, truR_n, sem_nt, kNot_a, kNot2_a, sem_an, sem_oo, kAn_a, kOo_a, anS_t, anS_f, ooS_t, ooS_f, sem_cmp, kCmp_a, kCmp2_a, cmpK_lt, cmpK_le, cmpK_gt, cmpK_ge, sem_chn, kChn_a, kChn2_a, kChn3_a, chS_t, chS_f, sem_ite, kIte_a, kIte2_a, selE_t, selE_f, sem_tup, sem_lst, kTup_a, kLst_a, pyAll_nil, pyAll_cons, sem_idx, kIdx_a, kIdx2_a, idxK_l, idxK_t, sem_slc, kSlc_a, kSlc2_a, kSlc3_a, slK_l, slK_t, kPart_n, kPart_i, sem_rev, kRev_a, revD_l, revD_t, sem_cal, kCal_a, calR_s, argAll_c, sem_bif, kBif_a, bifR_s, sem_mth, kMth_a, kMth2_a, mthR_s, idxK_s, rdAll_nil, rdAll_c, bif_len_l, bif_len_t, bif_tup_l, bif_tup_t, bif_lst_l, bif_lst_t, bif_len_s, bif_str_s, bif_repr, sem_isi, kIsi_a, add_ii, sub_ii, mul_ii, mul_ti, fdiv_ii, mod_ii, pow_ii, add_tt, add_ll, Ss_nil, Ss_cons, kSs_n, kSs_r, Ss_frz, frzR_nil, frzR_cons, frz1_own, frz1_d, S_set, kSet_pd, kSet_pn, kSet_pl, kSet_pb, kSet_o, kSet_c, S_unp, kUnp_a, unpR_s, setT_2, setT_3, S_exp, kExp_a, S_ret, kRet_d, kRet_n, kRet_l, S_rtv, rtvR_o, S_ite, kIf_a, kIf2_a, selS_t, selS_f, chgR_o, chgR_l, ownR_s, locR_s, appF_l, extF_l, subF_l, mutR_o, mutR_l, S_sub, kSub_a, subM_t, kSub2_a, subR_s, S_app, appM_t, kApp_a, appR_s, stepF_a, setR_s, setT_nm, S_for, kFor_a, F_of, kItF_dl, kItF_dt, kItF_ds, kItF_n, kItF_b, I_of, kItI_dl, kItI_dt, kItI_ds, kItI_n, kItI_b, kItI_l, I_rng, F_rng, kRng_a, I_rng2, F_rng2, kRg2_a, kRg3_a, sem_lc, kLc_a, kLc2_a, stepC_nm, wipeR_n, wipeR_c, kCs_a, selC_t, selC_f, kElt_d, kElt_n, Cs_nil, Cs_cons, kC1_a, kC2_a, csS_t, csS_f, csS_n, lv_d, lv_n, lv_x, Res.bind_ok, Res.ofO_some, Res.nox_ok, Option.bind_some, Option.map_some, List.getElem?_cons_zero, List.getElem?_cons_succ, List.set_cons_zero, List.set_cons_succ, f13, isi_of (.bool i) .tuple false rfl, Bool.not_false, thingB, List.take_length]
  | none => simp -implicitDefEqProofs only [sem_var, varR_d, varR_own, varR_bor, varR_loc, sem_con, sem_glo, rdk1_s, rdk2_s, rd_d, rd_new, rd_bor, rd_lent, rd_loc, dat_lst, py_d, py_new, arg_d, arg_new, arg_bor, arg_lent, arg_loc, argAll_nil, sems_nil, sems_cons, kEs_a, kPut_a, sem_bin, kBin_a, kBin2_a, sem_neg, kNeg_a, negK_i, truR_b, truR_i, truR_l, truR_t, truR_n, sem_nt, kNot_a, kNot2_a, sem_an, sem_oo, kAn_a, kOo_a, anS_t, anS_f, ooS_t, ooS_f, sem_cmp, kCmp_a, kCmp2_a, cmpK_lt, cmpK_le, cmpK_gt, cmpK_ge, sem_chn, kChn_a, kChn2_a, kChn3_a, chS_t, chS_f, sem_ite, kIte_a, kIte2_a, selE_t, selE_f, sem_tup, sem_lst, kTup_a, kLst_a, pyAll_nil, pyAll_cons, sem_idx, kIdx_a, kIdx2_a, idxK_l, idxK_t, sem_slc, kSlc_a, kSlc2_a, kSlc3_a, slK_l, slK_t, kPart_n, kPart_i, sem_rev, kRev_a, revD_l, revD_t, sem_cal, kCal_a, calR_s, argAll_c, sem_bif, kBif_a, bifR_s, sem_mth, kMth_a, kMth2_a, mthR_s, idxK_s, rdAll_nil, rdAll_c, bif_len_l, bif_len_t, bif_tup_l, bif_tup_t, bif_lst_l, bif_lst_t, bif_len_s, bif_str_s, bif_repr, sem_isi, kIsi_a, add_ii, sub_ii, mul_ii, mul_ti, fdiv_ii, mod_ii, pow_ii, add_tt, add_ll, Ss_nil, Ss_cons, kSs_n, kSs_r, Ss_frz, frzR_nil, frzR_cons, frz1_own, frz1_d, S_set, kSet_pd, kSet_pn, kSet_pl, kSet_pb, kSet_o, kSet_c, S_unp, kUnp_a, unpR_s, setT_2, setT_3, S_exp, kExp_a, S_ret, kRet_d, kRet_n, kRet_l, S_rtv, rtvR_o, S_ite, kIf_a, kIf2_a, selS_t, selS_f, chgR_o, chgR_l, ownR_s, locR_s, appF_l, extF_l, subF_l, mutR_o, mutR_l, S_sub, kSub_a, subM_t, kSub2_a, subR_s, S_app, appM_t, kApp_a, appR_s, stepF_a, setR_s, setT_nm, S_for, kFor_a, F_of, kItF_dl, kItF_dt, kItF_ds, kItF_n, kItF_b, I_of, kItI_dl, kItI_dt, kItI_ds, kItI_n, kItI_b, kItI_l, I_rng, F_rng, kRng_a, I_rng2, F_rng2, kRg2_a, kRg3_a, sem_lc, kLc_a, kLc2_a, stepC_nm, wipeR_n, wipeR_c, kCs_a, selC_t, selC_f, kElt_d, kElt_n, Cs_nil, Cs_cons, kC1_a, kC2_a, csS_t, csS_f, csS_n, lv_d, lv_n, lv_x, Res.bind_ok, Res.ofO_some, Res.nox_ok, Option.bind_some, Option.map_some, List.getElem?_cons_zero, List.getElem?_cons_succ, List.set_cons_zero, List.set_cons_succ, f13, isi_of .none .tuple false rfl, Bool.not_false, thingB, List.take_length]
  | str i => simp -implicitDefEqProofs only [sem_var, varR_d, varR_own, varR_bor, varR_loc, sem_con, sem_glo, rdk1_s, rdk2_s, rd_d, rd_new, rd_bor, rd_lent, rd_loc, dat_lst, py_d, py_new, arg_d, arg_new, arg_bor, arg_lent, arg_loc, argAll_nil, sems_nil, sems_cons, kEs_a, kPut_a, sem_bin, kBin_a, kBin2_a, sem_neg, kNeg_a, negK_i, truR_b, truR_i, truR_l, truR_t, truR_n, sem_nt, kNot_a, kNot2_a, sem_an, sem_oo, kAn_a, kOo_a, anS_t, anS_f, ooS_t, ooS_f, sem_cmp, kCmp_a, kCmp2_a, cmpK_lt, cmpK_le, cmpK_gt, cmpK_ge, sem_chn, kChn_a, kChn2_a, kChn3_a, chS_t, chS_f, sem_ite, kIte_a, kIte2_a, selE_t, selE_f, sem_tup, sem_lst, kTup_a, kLst_a, pyAll_nil, pyAll_cons, sem_idx, kIdx_a, kIdx2_a, idxK_l, idxK_t, sem_slc, kSlc_a, kSlc2_a, kSlc3_a, slK_l, slK_t, kPart_n, kPart_i, sem_rev, kRev_a, revD_l, revD_t, sem_cal, kCal_a, calR_s, argAll_c, sem_bif, kBif_a, bifR_s, sem_mth, kMth_a, kMth2_a, mthR_s, idxK_s, rdAll_nil, rdAll_c, bif_len_l, bif_len_t, bif_tup_l, bif_tup_t, bif_lst_l, bif_lst_t, bif_len_s, bif_str_s, bif_repr, sem_isi, kIsi_a, add_ii, sub_ii, mul_ii, mul_ti, fdiv_ii, mod_ii, pow_ii, add_tt, add_ll, Ss_nil, Ss_cons, kSs_n, kSs_r, Ss_frz, frzR_nil, frzR_cons, frz1_own, frz1_d, S_set, kSet_pd, kSet_pn, kSet_pl, kSet_pb, kSet_o, kSet_c, S_unp, kUnp_a, unpR_s, setT_2, setT_3, S_exp, kExp_a, S_ret, kRet_d, kRet_n, kRet_l, S_rtv, rtvR_o, S_ite, kIf_a, kIf2_a, selS_t, selS_f, chgR_o, chgR_l, ownR_s, locR_s, appF_l, extF_l, subF_l, mutR_o, mutR_l, S_sub, kSub_a, subM_t, kSub2_a, subR_s, S_app, appM_t, kApp_a, appR_s, stepF_a, setR_s, setT_nm, S_for, kFor_a, F_of, kItF_dl, kItF_dt, kItF_ds, kItF_n, kItF_b, I_of, kItI_dl, kItI_dt, kItI_ds, kItI_n, kItI_b, kItI_l, I_rng, F_rng, kRng_a, I_rng2, F_rng2, kRg2_a, kRg3_a, sem_lc, kLc_a, kLc2_a, stepC_nm, wipeR_n, wipeR_c, kCs_a, selC_t, selC_f, kElt_d, kElt_n, Cs_nil, Cs_cons, kC1_a, kC2_a, csS_t, csS_f, csS_n, lv_d, lv_n, lv_x, Res.bind_ok, Res.ofO_some, Res.nox_ok, Option.bind_some, Option.map_some, List.getElem?_cons_zero, List.getElem?_cons_succ, List.set_cons_zero, List.set_cons_succ, f13, isi_of (.str i) .tuple false rfl, Bool.not_false, thingB, List.take_length]
  | list i => simp -implicitDefEqProofs only [sem_var, varR_d, varR_own, varR_bor, varR_loc, sem_con, sem_glo, rdk1_s, rdk2_s, rd_d, rd_new, rd_bor, rd_lent, rd_loc, dat_lst, py_d, py_new, arg_d, arg_new, arg_bor, arg_lent, arg_loc, argAll_nil, sems_nil, sems_cons, kEs_a, kPut_a, sem_bin, kBin_a, kBin2_a, sem_neg, kNeg_a, negK_i, truR_b, truR_i, truR_l, truR_t, truR_n, sem_nt, kNot_a, kNot2_a, sem_an, sem_oo, kAn_a, kOo_a, anS_t, anS_f, ooS_t, ooS_f, sem_cmp, kCmp_a, kCmp2_a, cmpK_lt, cmpK_le, cmpK_gt, cmpK_ge, sem_chn, kChn_a, kChn2_a, kChn3_a, chS_t, chS_f, sem_ite, kIte_a, kIte2_a, selE_t, selE_f, sem_tup, sem_lst, kTup_a, kLst_a, pyAll_nil, pyAll_cons, sem_idx, kIdx_a, kIdx2_a, idxK_l, idxK_t, sem_slc, kSlc_a, kSlc2_a, kSlc3_a, slK_l, slK_t, kPart_n, kPart_i, sem_rev, kRev_a, revD_l, revD_t, sem_cal, kCal_a, calR_s, argAll_c, sem_bif, kBif_a, bifR_s, sem_mth, kMth_a, kMth2_a, mthR_s, idxK_s, rdAll_nil, rdAll_c, bif_len_l, bif_len_t, bif_tup_l, bif_tup_t, bif_lst_l, bif_lst_t, bif_len_s, bif_str_s, bif_repr, sem_isi, kIsi_a, add_ii, sub_ii, mul_ii, mul_ti, fdiv_ii, mod_ii, pow_ii, add_tt, add_ll, Ss_nil, Ss_cons, kSs_n, kSs_r, Ss_frz, frzR_nil, frzR_cons, frz1_own, frz1_d, S_set, kSet_pd, kSet_pn, kSet_pl, kSet_pb, kSet_o, kSet_c, S_unp, kUnp_a, unpR_s, setT_2, setT_3, S_exp, kExp_a, S_ret, kRet_d, kRet_n, kRet_l, S_rtv, rtvR_o, S_ite, kIf_a, kIf2_a, selS_t, selS_f, chgR_o, chgR_l, ownR_s, locR_s, appF_l, extF_l, subF_l, mutR_o, mutR_l, S_sub, kSub_a, subM_t, kSub2_a, subR_s, S_app, appM_t, kApp_a, appR_s, stepF_a, setR_s, setT_nm, S_for, kFor_a, F_of, kItF_dl, kItF_dt, kItF_ds, kItF_n, kItF_b, I_of, kItI_dl, kItI_dt, kItI_ds, kItI_n, kItI_b, kItI_l, I_rng, F_rng, kRng_a, I_rng2, F_rng2, kRg2_a, kRg3_a, sem_lc, kLc_a, kLc2_a, stepC_nm, wipeR_n, wipeR_c, kCs_a, selC_t, selC_f, kElt_d, kElt_n, Cs_nil, Cs_cons, kC1_a, kC2_a, csS_t, csS_f, csS_n, lv_d, lv_n, lv_x, Res.bind_ok, Res.ofO_some, Res.nox_ok, Option.bind_some, Option.map_some, List.getElem?_cons_zero, List.getElem?_cons_succ, List.set_cons_zero, List.set_cons_succ, f13, isi_of (.list i) .tuple false rfl, Bool.not_false, thingB, List.take_length]
  | tuple xs =>
    have it := isi_of (.tuple xs) .tuple true rfl
    by_cases hl : xs.length = 3
    · obtain ⟨a, b, c, rfl⟩ := len3 hl
      obtain ⟨D', rfl⟩ := bd_tup_pos hb
      have hi := (bd_items hb).2
      have e3 : decide ((([a, b, c].length : Nat) : Int) = 3) = true := decide_eq_true rfl
      have ha := hi a (List.mem_cons_self ..)
      have hbb := hi b (List.mem_cons_of_mem _ (List.mem_cons_self ..))
      have hc := hi c (List.mem_cons_of_mem _ (List.mem_cons_of_mem _ (List.mem_cons_self ..)))
      have ed := H.ldot _ _ _ a st ha (by omega) hB
      have eu := H.lwh c (-999) 999 st (hc.th (by omega)).noD
      cases hu : upB c (-999) 999 with
      | false =>
        rw [hu] at eu
        simp -implicitDefEqProofs only [sem_var, varR_d, varR_own, varR_bor, varR_loc, sem_con, sem_glo, rdk1_s, rdk2_s, rd_d, rd_new, rd_bor, rd_lent, rd_loc, dat_lst, py_d, py_new, arg_d, arg_new, arg_bor, arg_lent, arg_loc, argAll_nil, sems_nil, sems_cons, kEs_a, kPut_a, sem_bin, kBin_a, kBin2_a, sem_neg, kNeg_a, negK_i, truR_b, truR_i, truR_l, truR_t, truR_n, sem_nt, kNot_a, kNot2_a, sem_an, sem_oo, kAn_a, kOo_a, anS_t, anS_f, ooS_t, ooS_f, sem_cmp, kCmp_a, kCmp2_a, cmpK_lt, cmpK_le, cmpK_gt, cmpK_ge, sem_chn, kChn_a, kChn2_a, kChn3_a, chS_t, chS_f, sem_ite, kIte_a, kIte2_a, selE_t, selE_f, sem_tup, sem_lst, kTup_a, kLst_a, pyAll_nil, pyAll_cons, sem_idx, kIdx_a, kIdx2_a, idxK_l, idxK_t, sem_slc, kSlc_a, kSlc2_a, kSlc3_a, slK_l, slK_t, kPart_n, kPart_i, sem_rev, kRev_a, revD_l, revD_t, sem_cal, kCal_a, calR_s, argAll_c, sem_bif, kBif_a, bifR_s, sem_mth, kMth_a, kMth2_a, mthR_s, idxK_s, rdAll_nil, rdAll_c, bif_len_l, bif_len_t, bif_tup_l, bif_tup_t, bif_lst_l, bif_lst_t, bif_len_s, bif_str_s, bif_repr, sem_isi, kIsi_a, add_ii, sub_ii, mul_ii, mul_ti, fdiv_ii, mod_ii, pow_ii, add_tt, add_ll, Ss_nil, Ss_cons, kSs_n, kSs_r, Ss_frz, frzR_nil, frzR_cons, frz1_own, frz1_d, S_set, kSet_pd, kSet_pn, kSet_pl, kSet_pb, kSet_o, kSet_c, S_unp, kUnp_a, unpR_s, setT_2, setT_3, S_exp, kExp_a, S_ret, kRet_d, kRet_n, kRet_l, S_rtv, rtvR_o, S_ite, kIf_a, kIf2_a, selS_t, selS_f, chgR_o, chgR_l, ownR_s, locR_s, appF_l, extF_l, subF_l, mutR_o, mutR_l, S_sub, kSub_a, subM_t, kSub2_a, subR_s, S_app, appM_t, kApp_a, appR_s, stepF_a, setR_s, setT_nm, S_for, kFor_a, F_of, kItF_dl, kItF_dt, kItF_ds, kItF_n, kItF_b, I_of, kItI_dl, kItI_dt, kItI_ds, kItI_n, kItI_b, kItI_l, I_rng, F_rng, kRng_a, I_rng2, F_rng2, kRg2_a, kRg3_a, sem_lc, kLc_a, kLc2_a, stepC_nm, wipeR_n, wipeR_c, kCs_a, selC_t, selC_f, kElt_d, kElt_n, Cs_nil, Cs_cons, kC1_a, kC2_a, csS_t, csS_f, csS_n, lv_d, lv_n, lv_x, Res.bind_ok, Res.ofO_some, Res.nox_ok, Option.bind_some, Option.map_some, List.getElem?_cons_zero, List.getElem?_cons_succ, List.set_cons_zero, List.set_cons_succ, f13, it, Bool.not_true, cmp_ne, eqD_ii, toB_s, e3, Option.map_some, atI_2, negK_i, eu, Bool.not_false, thingB, hu, Bool.and_false, List.take_length]
      | true =>
        rw [hu] at eu
        have s1 : semS Φ a13 [some (.d (.tuple [a, b, c])), none] st = .ok (.nx [some (.d (.tuple [a, b, c])), none]) st := by
          simp -implicitDefEqProofs only [sem_var, varR_d, varR_own, varR_bor, varR_loc, sem_con, sem_glo, rdk1_s, rdk2_s, rd_d, rd_new, rd_bor, rd_lent, rd_loc, dat_lst, py_d, py_new, arg_d, arg_new, arg_bor, arg_lent, arg_loc, argAll_nil, sems_nil, sems_cons, kEs_a, kPut_a, sem_bin, kBin_a, kBin2_a, sem_neg, kNeg_a, negK_i, truR_b, truR_i, truR_l, truR_t, truR_n, sem_nt, kNot_a, kNot2_a, sem_an, sem_oo, kAn_a, kOo_a, anS_t, anS_f, ooS_t, ooS_f, sem_cmp, kCmp_a, kCmp2_a, cmpK_lt, cmpK_le, cmpK_gt, cmpK_ge, sem_chn, kChn_a, kChn2_a, kChn3_a, chS_t, chS_f, sem_ite, kIte_a, kIte2_a, selE_t, selE_f, sem_tup, sem_lst, kTup_a, kLst_a, pyAll_nil, pyAll_cons, sem_idx, kIdx_a, kIdx2_a, idxK_l, idxK_t, sem_slc, kSlc_a, kSlc2_a, kSlc3_a, slK_l, slK_t, kPart_n, kPart_i, sem_rev, kRev_a, revD_l, revD_t, sem_cal, kCal_a, calR_s, argAll_c, sem_bif, kBif_a, bifR_s, sem_mth, kMth_a, kMth2_a, mthR_s, idxK_s, rdAll_nil, rdAll_c, bif_len_l, bif_len_t, bif_tup_l, bif_tup_t, bif_lst_l, bif_lst_t, bif_len_s, bif_str_s, bif_repr, sem_isi, kIsi_a, add_ii, sub_ii, mul_ii, mul_ti, fdiv_ii, mod_ii, pow_ii, add_tt, add_ll, Ss_nil, Ss_cons, kSs_n, kSs_r, Ss_frz, frzR_nil, frzR_cons, frz1_own, frz1_d, S_set, kSet_pd, kSet_pn, kSet_pl, kSet_pb, kSet_o, kSet_c, S_unp, kUnp_a, unpR_s, setT_2, setT_3, S_exp, kExp_a, S_ret, kRet_d, kRet_n, kRet_l, S_rtv, rtvR_o, S_ite, kIf_a, kIf2_a, selS_t, selS_f, chgR_o, chgR_l, ownR_s, locR_s, appF_l, extF_l, subF_l, mutR_o, mutR_l, S_sub, kSub_a, subM_t, kSub2_a, subR_s, S_app, appM_t, kApp_a, appR_s, stepF_a, setR_s, setT_nm, S_for, kFor_a, F_of, kItF_dl, kItF_dt, kItF_ds, kItF_n, kItF_b, I_of, kItI_dl, kItI_dt, kItI_ds, kItI_n, kItI_b, kItI_l, I_rng, F_rng, kRng_a, I_rng2, F_rng2, kRg2_a, kRg3_a, sem_lc, kLc_a, kLc2_a, stepC_nm, wipeR_n, wipeR_c, kCs_a, selC_t, selC_f, kElt_d, kElt_n, Cs_nil, Cs_cons, kC1_a, kC2_a, csS_t, csS_f, csS_n, lv_d, lv_n, lv_x, Res.bind_ok, Res.ofO_some, Res.nox_ok, Option.bind_some, Option.map_some, List.getElem?_cons_zero, List.getElem?_cons_succ, List.set_cons_zero, List.set_cons_succ, a13, it, Bool.not_true, cmp_ne, eqD_ii, toB_s, e3, Option.map_some, atI_2, negK_i, eu]
        have yes : (dotB a || emT a) = true → isiK .tuple a = some (.d (.bool true)) → leaveW st.length (semSs Φ f13.body [some (.d (.tuple [a, b, c])), none] st) = .ok (.d (.bool (thingB (.tuple [a, b, c])))) st := by
          intro hy ia
          have s2 : semS Φ b13 [some (.d (.tuple [a, b, c])), none] st = .ok (.nx [some (.d (.tuple [a, b, c])), none]) st := by
            cases a with
            | tuple ys =>
              have e0 := eqD_t0 (ha.th (by omega))
              cases hz : ys.isEmpty with
              | true =>
                rw [hz] at e0
                simp -implicitDefEqProofs only [sem_var, varR_d, varR_own, varR_bor, varR_loc, sem_con, sem_glo, rdk1_s, rdk2_s, rd_d, rd_new, rd_bor, rd_lent, rd_loc, dat_lst, py_d, py_new, arg_d, arg_new, arg_bor, arg_lent, arg_loc, argAll_nil, sems_nil, sems_cons, kEs_a, kPut_a, sem_bin, kBin_a, kBin2_a, sem_neg, kNeg_a, negK_i, truR_b, truR_i, truR_l, truR_t, truR_n, sem_nt, kNot_a, kNot2_a, sem_an, sem_oo, kAn_a, kOo_a, anS_t, anS_f, ooS_t, ooS_f, sem_cmp, kCmp_a, kCmp2_a, cmpK_lt, cmpK_le, cmpK_gt, cmpK_ge, sem_chn, kChn_a, kChn2_a, kChn3_a, chS_t, chS_f, sem_ite, kIte_a, kIte2_a, selE_t, selE_f, sem_tup, sem_lst, kTup_a, kLst_a, pyAll_nil, pyAll_cons, sem_idx, kIdx_a, kIdx2_a, idxK_l, idxK_t, sem_slc, kSlc_a, kSlc2_a, kSlc3_a, slK_l, slK_t, kPart_n, kPart_i, sem_rev, kRev_a, revD_l, revD_t, sem_cal, kCal_a, calR_s, argAll_c, sem_bif, kBif_a, bifR_s, sem_mth, kMth_a, kMth2_a, mthR_s, idxK_s, rdAll_nil, rdAll_c, bif_len_l, bif_len_t, bif_tup_l, bif_tup_t, bif_lst_l, bif_lst_t, bif_len_s, bif_str_s, bif_repr, sem_isi, kIsi_a, add_ii, sub_ii, mul_ii, mul_ti, fdiv_ii, mod_ii, pow_ii, add_tt, add_ll, Ss_nil, Ss_cons, kSs_n, kSs_r, Ss_frz, frzR_nil, frzR_cons, frz1_own, frz1_d, S_set, kSet_pd, kSet_pn, kSet_pl, kSet_pb, kSet_o, kSet_c, S_unp, kUnp_a, unpR_s, setT_2, setT_3, S_exp, kExp_a, S_ret, kRet_d, kRet_n, kRet_l, S_rtv, rtvR_o, S_ite, kIf_a, kIf2_a, selS_t, selS_f, chgR_o, chgR_l, ownR_s, locR_s, appF_l, extF_l, subF_l, mutR_o, mutR_l, S_sub, kSub_a, subM_t, kSub2_a, subR_s, S_app, appM_t, kApp_a, appR_s, stepF_a, setR_s, setT_nm, S_for, kFor_a, F_of, kItF_dl, kItF_dt, kItF_ds, kItF_n, kItF_b, I_of, kItI_dl, kItI_dt, kItI_ds, kItI_n, kItI_b, kItI_l, I_rng, F_rng, kRng_a, I_rng2, F_rng2, kRg2_a, kRg3_a, sem_lc, kLc_a, kLc2_a, stepC_nm, wipeR_n, wipeR_c, kCs_a, selC_t, selC_f, kElt_d, kElt_n, Cs_nil, Cs_cons, kC1_a, kC2_a, csS_t, csS_f, csS_n, lv_d, lv_n, lv_x, Res.bind_ok, Res.ofO_some, Res.nox_ok, Option.bind_some, Option.map_some, List.getElem?_cons_zero, List.getElem?_cons_succ, List.set_cons_zero, List.set_cons_succ, b13, atI_0, ia, Bool.not_true, cmp_ne, e0, Option.map_some, toB_s, tupK, pyAll_nil, k0, if_true]
              | false =>
                rw [emT_t, hz, Bool.or_false] at hy
                rw [hz] at e0
                rw [hy] at ed
                simp -implicitDefEqProofs only [sem_var, varR_d, varR_own, varR_bor, varR_loc, sem_con, sem_glo, rdk1_s, rdk2_s, rd_d, rd_new, rd_bor, rd_lent, rd_loc, dat_lst, py_d, py_new, arg_d, arg_new, arg_bor, arg_lent, arg_loc, argAll_nil, sems_nil, sems_cons, kEs_a, kPut_a, sem_bin, kBin_a, kBin2_a, sem_neg, kNeg_a, negK_i, truR_b, truR_i, truR_l, truR_t, truR_n, sem_nt, kNot_a, kNot2_a, sem_an, sem_oo, kAn_a, kOo_a, anS_t, anS_f, ooS_t, ooS_f, sem_cmp, kCmp_a, kCmp2_a, cmpK_lt, cmpK_le, cmpK_gt, cmpK_ge, sem_chn, kChn_a, kChn2_a, kChn3_a, chS_t, chS_f, sem_ite, kIte_a, kIte2_a, selE_t, selE_f, sem_tup, sem_lst, kTup_a, kLst_a, pyAll_nil, pyAll_cons, sem_idx, kIdx_a, kIdx2_a, idxK_l, idxK_t, sem_slc, kSlc_a, kSlc2_a, kSlc3_a, slK_l, slK_t, kPart_n, kPart_i, sem_rev, kRev_a, revD_l, revD_t, sem_cal, kCal_a, calR_s, argAll_c, sem_bif, kBif_a, bifR_s, sem_mth, kMth_a, kMth2_a, mthR_s, idxK_s, rdAll_nil, rdAll_c, bif_len_l, bif_len_t, bif_tup_l, bif_tup_t, bif_lst_l, bif_lst_t, bif_len_s, bif_str_s, bif_repr, sem_isi, kIsi_a, add_ii, sub_ii, mul_ii, mul_ti, fdiv_ii, mod_ii, pow_ii, add_tt, add_ll, Ss_nil, Ss_cons, kSs_n, kSs_r, Ss_frz, frzR_nil, frzR_cons, frz1_own, frz1_d, S_set, kSet_pd, kSet_pn, kSet_pl, kSet_pb, kSet_o, kSet_c, S_unp, kUnp_a, unpR_s, setT_2, setT_3, S_exp, kExp_a, S_ret, kRet_d, kRet_n, kRet_l, S_rtv, rtvR_o, S_ite, kIf_a, kIf2_a, selS_t, selS_f, chgR_o, chgR_l, ownR_s, locR_s, appF_l, extF_l, subF_l, mutR_o, mutR_l, S_sub, kSub_a, subM_t, kSub2_a, subR_s, S_app, appM_t, kApp_a, appR_s, stepF_a, setR_s, setT_nm, S_for, kFor_a, F_of, kItF_dl, kItF_dt, kItF_ds, kItF_n, kItF_b, I_of, kItI_dl, kItI_dt, kItI_ds, kItI_n, kItI_b, kItI_l, I_rng, F_rng, kRng_a, I_rng2, F_rng2, kRg2_a, kRg3_a, sem_lc, kLc_a, kLc2_a, stepC_nm, wipeR_n, wipeR_c, kCs_a, selC_t, selC_f, kElt_d, kElt_n, Cs_nil, Cs_cons, kC1_a, kC2_a, csS_t, csS_f, csS_n, lv_d, lv_n, lv_x, Res.bind_ok, Res.ofO_some, Res.nox_ok, Option.bind_some, Option.map_some, List.getElem?_cons_zero, List.getElem?_cons_succ, List.set_cons_zero, List.set_cons_succ, b13, atI_0, ia, Bool.not_true, Bool.not_false, cmp_ne, e0, Option.map_some, toB_s, tupK, pyAll_nil, k0, if_true, ed]
            | _ => cases ia
          have hh := r13_ok (Φ := Φ) (a := a) (c := c) (st := st) hbb
          have ht : thingB (.tuple [a, b, c]) = nameB b := by
            show ((dotB a || emT a) && (nameB b && upB c (-999) 999)) = _
            rw [hy, hu, Bool.true_and, Bool.and_true]
          rw [f13_is, ht, Ss_cons, s1, Res.bind_ok, kSs_n, Ss_cons, s2, Res.bind_ok, kSs_n]
          exact hh
        cases hy : (dotB a || emT a) with
        | true =>
          refine yes hy ?_
          cases a with
          | tuple ys => rfl
          | _ => cases hy
        | false =>
          have ht : thingB (.tuple [a, b, c]) = false := by
            show ((dotB a || emT a) && _) = _
            rw [hy, Bool.false_and]
          rw [Bool.or_eq_false_iff] at hy
          rw [hy.1] at ed
          cases a with
          | dict _ => have := ha.1; simp [bdB] at this
          | tuple ys =>
            have e0 := eqD_t0 (ha.th (by omega))
            rw [show ys.isEmpty = false by rw [← emT_t]; exact hy.2] at e0
            simp -implicitDefEqProofs only [sem_var, varR_d, varR_own, varR_bor, varR_loc, sem_con, sem_glo, rdk1_s, rdk2_s, rd_d, rd_new, rd_bor, rd_lent, rd_loc, dat_lst, py_d, py_new, arg_d, arg_new, arg_bor, arg_lent, arg_loc, argAll_nil, sems_nil, sems_cons, kEs_a, kPut_a, sem_bin, kBin_a, kBin2_a, sem_neg, kNeg_a, negK_i, truR_b, truR_i, truR_l, truR_t, truR_n, sem_nt, kNot_a, kNot2_a, sem_an, sem_oo, kAn_a, kOo_a, anS_t, anS_f, ooS_t, ooS_f, sem_cmp, kCmp_a, kCmp2_a, cmpK_lt, cmpK_le, cmpK_gt, cmpK_ge, sem_chn, kChn_a, kChn2_a, kChn3_a, chS_t, chS_f, sem_ite, kIte_a, kIte2_a, selE_t, selE_f, sem_tup, sem_lst, kTup_a, kLst_a, pyAll_nil, pyAll_cons, sem_idx, kIdx_a, kIdx2_a, idxK_l, idxK_t, sem_slc, kSlc_a, kSlc2_a, kSlc3_a, slK_l, slK_t, kPart_n, kPart_i, sem_rev, kRev_a, revD_l, revD_t, sem_cal, kCal_a, calR_s, argAll_c, sem_bif, kBif_a, bifR_s, sem_mth, kMth_a, kMth2_a, mthR_s, idxK_s, rdAll_nil, rdAll_c, bif_len_l, bif_len_t, bif_tup_l, bif_tup_t, bif_lst_l, bif_lst_t, bif_len_s, bif_str_s, bif_repr, sem_isi, kIsi_a, add_ii, sub_ii, mul_ii, mul_ti, fdiv_ii, mod_ii, pow_ii, add_tt, add_ll, Ss_nil, Ss_cons, kSs_n, kSs_r, Ss_frz, frzR_nil, frzR_cons, frz1_own, frz1_d, S_set, kSet_pd, kSet_pn, kSet_pl, kSet_pb, kSet_o, kSet_c, S_unp, kUnp_a, unpR_s, setT_2, setT_3, S_exp, kExp_a, S_ret, kRet_d, kRet_n, kRet_l, S_rtv, rtvR_o, S_ite, kIf_a, kIf2_a, selS_t, selS_f, chgR_o, chgR_l, ownR_s, locR_s, appF_l, extF_l, subF_l, mutR_o, mutR_l, S_sub, kSub_a, subM_t, kSub2_a, subR_s, S_app, appM_t, kApp_a, appR_s, stepF_a, setR_s, setT_nm, S_for, kFor_a, F_of, kItF_dl, kItF_dt, kItF_ds, kItF_n, kItF_b, I_of, kItI_dl, kItI_dt, kItI_ds, kItI_n, kItI_b, kItI_l, I_rng, F_rng, kRng_a, I_rng2, F_rng2, kRg2_a, kRg3_a, sem_lc, kLc_a, kLc2_a, stepC_nm, wipeR_n, wipeR_c, kCs_a, selC_t, selC_f, kElt_d, kElt_n, Cs_nil, Cs_cons, kC1_a, kC2_a, csS_t, csS_f, csS_n, lv_d, lv_n, lv_x, Res.bind_ok, Res.ofO_some, Res.nox_ok, Option.bind_some, Option.map_some, List.getElem?_cons_zero, List.getElem?_cons_succ, List.set_cons_zero, List.set_cons_succ, f13, it, isi_of (.tuple ys) .tuple true rfl, Bool.not_true, Bool.not_false, cmp_ne, eqD_ii, toB_s, e3, Option.map_some, atI_2, atI_0, negK_i, eu, e0, ed, tupK, pyAll_nil, k0, if_true, ht, List.take_length]
          | int i => simp -implicitDefEqProofs only [sem_var, varR_d, varR_own, varR_bor, varR_loc, sem_con, sem_glo, rdk1_s, rdk2_s, rd_d, rd_new, rd_bor, rd_lent, rd_loc, dat_lst, py_d, py_new, arg_d, arg_new, arg_bor, arg_lent, arg_loc, argAll_nil, sems_nil, sems_cons, kEs_a, kPut_a, sem_bin, kBin_a, kBin2_a, sem_neg, kNeg_a, negK_i, truR_b, truR_i, truR_l, truR_t, truR_n, sem_nt, kNot_a, kNot2_a, sem_an, sem_oo, kAn_a, kOo_a, anS_t, anS_f, ooS_t, ooS_f, sem_cmp, kCmp_a, kCmp2_a, cmpK_lt, cmpK_le, cmpK_gt, cmpK_ge, sem_chn, kChn_a, kChn2_a, kChn3_a, chS_t, chS_f, sem_ite, kIte_a, kIte2_a, selE_t, selE_f, sem_tup, sem_lst, kTup_a, kLst_a, pyAll_nil, pyAll_cons, sem_idx, kIdx_a, kIdx2_a, idxK_l, idxK_t, sem_slc, kSlc_a, kSlc2_a, kSlc3_a, slK_l, slK_t, kPart_n, kPart_i, sem_rev, kRev_a, revD_l, revD_t, sem_cal, kCal_a, calR_s, argAll_c, sem_bif, kBif_a, bifR_s, sem_mth, kMth_a, kMth2_a, mthR_s, idxK_s, rdAll_nil, rdAll_c, bif_len_l, bif_len_t, bif_tup_l, bif_tup_t, bif_lst_l, bif_lst_t, bif_len_s, bif_str_s, bif_repr, sem_isi, kIsi_a, add_ii, sub_ii, mul_ii, mul_ti, fdiv_ii, mod_ii, pow_ii, add_tt, add_ll, Ss_nil, Ss_cons, kSs_n, kSs_r, Ss_frz, frzR_nil, frzR_cons, frz1_own, frz1_d, S_set, kSet_pd, kSet_pn, kSet_pl, kSet_pb, kSet_o, kSet_c, S_unp, kUnp_a, unpR_s, setT_2, setT_3, S_exp, kExp_a, S_ret, kRet_d, kRet_n, kRet_l, S_rtv, rtvR_o, S_ite, kIf_a, kIf2_a, selS_t, selS_f, chgR_o, chgR_l, ownR_s, locR_s, appF_l, extF_l, subF_l, mutR_o, mutR_l, S_sub, kSub_a, subM_t, kSub2_a, subR_s, S_app, appM_t, kApp_a, appR_s, stepF_a, setR_s, setT_nm, S_for, kFor_a, F_of, kItF_dl, kItF_dt, kItF_ds, kItF_n, kItF_b, I_of, kItI_dl, kItI_dt, kItI_ds, kItI_n, kItI_b, kItI_l, I_rng, F_rng, kRng_a, I_rng2, F_rng2, kRg2_a, kRg3_a, sem_lc, kLc_a, kLc2_a, stepC_nm, wipeR_n, wipeR_c, kCs_a, selC_t, selC_f, kElt_d, kElt_n, Cs_nil, Cs_cons, kC1_a, kC2_a, csS_t, csS_f, csS_n, lv_d, lv_n, lv_x, Res.bind_ok, Res.ofO_some, Res.nox_ok, Option.bind_some, Option.map_some, List.getElem?_cons_zero, List.getElem?_cons_succ, List.set_cons_zero, List.set_cons_succ, f13, it, isi_of (.int i) .tuple false rfl, Bool.not_true, Bool.not_false, cmp_ne, eqD_ii, toB_s, e3, Option.map_some, atI_2, atI_0, negK_i, eu, ht, List.take_length]
          | bool i => simp -implicitDefEqProofs only [sem_var, varR_d, varR_own, varR_bor, varR_loc, sem_con, sem_glo, rdk1_s, rdk2_s, rd_d, rd_new, rd_bor, rd_lent, rd_loc, dat_lst, py_d, py_new, arg_d, arg_new, arg_bor, arg_lent, arg_loc, argAll_nil, sems_nil, sems_cons, kEs_a, kPut_a, sem_bin, kBin_a, kBin2_a, sem_neg, kNeg_a, negK_i, truR_b, truR_i, truR_l, truR_t, truR_n, sem_nt, kNot_a, kNot2_a, sem_an, sem_oo, kAn_a, kOo_a, anS_t, anS_f, ooS_t, ooS_f, sem_cmp, kCmp_a, kCmp2_a, cmpK_lt, cmpK_le, cmpK_gt, cmpK_ge, sem_chn, kChn_a, kChn2_a, kChn3_a, chS_t, chS_f, sem_ite, kIte_a, kIte2_a, selE_t, selE_f, sem_tup, sem_lst, kTup_a, kLst_a, pyAll_nil, pyAll_cons, sem_idx, kIdx_a, kIdx2_a, idxK_l, idxK_t, sem_slc, kSlc_a, kSlc2_a, kSlc3_a, slK_l, slK_t, kPart_n, kPart_i, sem_rev, kRev_a, revD_l, revD_t, sem_cal, kCal_a, calR_s, argAll_c, sem_bif, kBif_a, bifR_s, sem_mth, kMth_a, kMth2_a, mthR_s, idxK_s, rdAll_nil, rdAll_c, bif_len_l, bif_len_t, bif_tup_l, bif_tup_t, bif_lst_l, bif_lst_t, bif_len_s, bif_str_s, bif_repr, sem_isi, kIsi_a, add_ii, sub_ii, mul_ii, mul_ti, fdiv_ii, mod_ii, pow_ii, add_tt, add_ll, Ss_nil, Ss_cons, kSs_n, kSs_r, Ss_frz, frzR_nil, frzR_cons, frz1_own, frz1_d, S_set, kSet_pd, kSet_pn, kSet_pl, kSet_pb, kSet_o, kSet_c, S_unp, kUnp_a, unpR_s, setT_2, setT_3, S_exp, kExp_a, S_ret, kRet_d, kRet_n, kRet_l, S_rtv, rtvR_o, S_ite, kIf_a, kIf2_a, selS_t, selS_f, chgR_o, chgR_l, ownR_s, locR_s, appF_l, extF_l, subF_l, mutR_o, mutR_l, S_sub, kSub_a, subM_t, kSub2_a, subR_s, S_app, appM_t, kApp_a, appR_s, stepF_a, setR_s, setT_nm, S_for, kFor_a, F_of, kItF_dl, kItF_dt, kItF_ds, kItF_n, kItF_b, I_of, kItI_dl, kItI_dt, kItI_ds, kItI_n, kItI_b, kItI_l, I_rng, F_rng, kRng_a, I_rng2, F_rng2, kRg2_a, kRg3_a, sem_lc, kLc_a, kLc2_a, stepC_nm, wipeR_n, wipeR_c, kCs_a, selC_t, selC_f, kElt_d, kElt_n, Cs_nil, Cs_cons, kC1_a, kC2_a, csS_t, csS_f, csS_n, lv_d, lv_n, lv_x, Res.bind_ok, Res.ofO_some, Res.nox_ok, Option.bind_some, Option.map_some, List.getElem?_cons_zero, List.getElem?_cons_succ, List.set_cons_zero, List.set_cons_succ, f13, it, isi_of (.bool i) .tuple false rfl, Bool.not_true, Bool.not_false, cmp_ne, eqD_ii, toB_s, e3, Option.map_some, atI_2, atI_0, negK_i, eu, ht, List.take_length]
          | none => simp -implicitDefEqProofs only [sem_var, varR_d, varR_own, varR_bor, varR_loc, sem_con, sem_glo, rdk1_s, rdk2_s, rd_d, rd_new, rd_bor, rd_lent, rd_loc, dat_lst, py_d, py_new, arg_d, arg_new, arg_bor, arg_lent, arg_loc, argAll_nil, sems_nil, sems_cons, kEs_a, kPut_a, sem_bin, kBin_a, kBin2_a, sem_neg, kNeg_a, negK_i, truR_b, truR_i, truR_l, truR_t, truR_n, sem_nt, kNot_a, kNot2_a, sem_an, sem_oo, kAn_a, kOo_a, anS_t, anS_f, ooS_t, ooS_f, sem_cmp, kCmp_a, kCmp2_a, cmpK_lt, cmpK_le, cmpK_gt, cmpK_ge, sem_chn, kChn_a, kChn2_a, kChn3_a, chS_t, chS_f, sem_ite, kIte_a, kIte2_a, selE_t, selE_f, sem_tup, sem_lst, kTup_a, kLst_a, pyAll_nil, pyAll_cons, sem_idx, kIdx_a, kIdx2_a, idxK_l, idxK_t, sem_slc, kSlc_a, kSlc2_a, kSlc3_a, slK_l, slK_t, kPart_n, kPart_i, sem_rev, kRev_a, revD_l, revD_t, sem_cal, kCal_a, calR_s, argAll_c, sem_bif, kBif_a, bifR_s, sem_mth, kMth_a, kMth2_a, mthR_s, idxK_s, rdAll_nil, rdAll_c, bif_len_l, bif_len_t, bif_tup_l, bif_tup_t, bif_lst_l, bif_lst_t, bif_len_s, bif_str_s, bif_repr, sem_isi, kIsi_a, add_ii, sub_ii, mul_ii, mul_ti, fdiv_ii, mod_ii, pow_ii, add_tt, add_ll, Ss_nil, Ss_cons, kSs_n, kSs_r, Ss_frz, frzR_nil, frzR_cons, frz1_own, frz1_d, S_set, kSet_pd, kSet_pn, kSet_pl, kSet_pb, kSet_o, kSet_c, S_unp, kUnp_a, unpR_s, setT_2, setT_3, S_exp, kExp_a, S_ret, kRet_d, kRet_n, kRet_l, S_rtv, rtvR_o, S_ite, kIf_a, kIf2_a, selS_t, selS_f, chgR_o, chgR_l, ownR_s, locR_s, appF_l, extF_l, subF_l, mutR_o, mutR_l, S_sub, kSub_a, subM_t, kSub2_a, subR_s, S_app, appM_t, kApp_a, appR_s, stepF_a, setR_s, setT_nm, S_for, kFor_a, F_of, kItF_dl, kItF_dt, kItF_ds, kItF_n, kItF_b, I_of, kItI_dl, kItI_dt, kItI_ds, kItI_n, kItI_b, kItI_l, I_rng, F_rng, kRng_a, I_rng2, F_rng2, kRg2_a, kRg3_a, sem_lc, kLc_a, kLc2_a, stepC_nm, wipeR_n, wipeR_c, kCs_a, selC_t, selC_f, kElt_d, kElt_n, Cs_nil, Cs_cons, kC1_a, kC2_a, csS_t, csS_f, csS_n, lv_d, lv_n, lv_x, Res.bind_ok, Res.ofO_some, Res.nox_ok, Option.bind_some, Option.map_some, List.getElem?_cons_zero, List.getElem?_cons_succ, List.set_cons_zero, List.set_cons_succ, f13, it, isi_of .none .tuple false rfl, Bool.not_true, Bool.not_false, cmp_ne, eqD_ii, toB_s, e3, Option.map_some, atI_2, atI_0, negK_i, eu, ht, List.take_length]
          | str i => simp -implicitDefEqProofs only [sem_var, varR_d, varR_own, varR_bor, varR_loc, sem_con, sem_glo, rdk1_s, rdk2_s, rd_d, rd_new, rd_bor, rd_lent, rd_loc, dat_lst, py_d, py_new, arg_d, arg_new, arg_bor, arg_lent, arg_loc, argAll_nil, sems_nil, sems_cons, kEs_a, kPut_a, sem_bin, kBin_a, kBin2_a, sem_neg, kNeg_a, negK_i, truR_b, truR_i, truR_l, truR_t, truR_n, sem_nt, kNot_a, kNot2_a, sem_an, sem_oo, kAn_a, kOo_a, anS_t, anS_f, ooS_t, ooS_f, sem_cmp, kCmp_a, kCmp2_a, cmpK_lt, cmpK_le, cmpK_gt, cmpK_ge, sem_chn, kChn_a, kChn2_a, kChn3_a, chS_t, chS_f, sem_ite, kIte_a, kIte2_a, selE_t, selE_f, sem_tup, sem_lst, kTup_a, kLst_a, pyAll_nil, pyAll_cons, sem_idx, kIdx_a, kIdx2_a, idxK_l, idxK_t, sem_slc, kSlc_a, kSlc2_a, kSlc3_a, slK_l, slK_t, kPart_n, kPart_i, sem_rev, kRev_a, revD_l, revD_t, sem_cal, kCal_a, calR_s, argAll_c, sem_bif, kBif_a, bifR_s, sem_mth, kMth_a, kMth2_a, mthR_s, idxK_s, rdAll_nil, rdAll_c, bif_len_l, bif_len_t, bif_tup_l, bif_tup_t, bif_lst_l, bif_lst_t, bif_len_s, bif_str_s, bif_repr, sem_isi, kIsi_a, add_ii, sub_ii, mul_ii, mul_ti, fdiv_ii, mod_ii, pow_ii, add_tt, add_ll, Ss_nil, Ss_cons, kSs_n, kSs_r, Ss_frz, frzR_nil, frzR_cons, frz1_own, frz1_d, S_set, kSet_pd, kSet_pn, kSet_pl, kSet_pb, kSet_o, kSet_c, S_unp, kUnp_a, unpR_s, setT_2, setT_3, S_exp, kExp_a, S_ret, kRet_d, kRet_n, kRet_l, S_rtv, rtvR_o, S_ite, kIf_a, kIf2_a, selS_t, selS_f, chgR_o, chgR_l, ownR_s, locR_s, appF_l, extF_l, subF_l, mutR_o, mutR_l, S_sub, kSub_a, subM_t, kSub2_a, subR_s, S_app, appM_t, kApp_a, appR_s, stepF_a, setR_s, setT_nm, S_for, kFor_a, F_of, kItF_dl, kItF_dt, kItF_ds, kItF_n, kItF_b, I_of, kItI_dl, kItI_dt, kItI_ds, kItI_n, kItI_b, kItI_l, I_rng, F_rng, kRng_a, I_rng2, F_rng2, kRg2_a, kRg3_a, sem_lc, kLc_a, kLc2_a, stepC_nm, wipeR_n, wipeR_c, kCs_a, selC_t, selC_f, kElt_d, kElt_n, Cs_nil, Cs_cons, kC1_a, kC2_a, csS_t, csS_f, csS_n, lv_d, lv_n, lv_x, Res.bind_ok, Res.ofO_some, Res.nox_ok, Option.bind_some, Option.map_some, List.getElem?_cons_zero, List.getElem?_cons_succ, List.set_cons_zero, List.set_cons_succ, f13, it, isi_of (.str i) .tuple false rfl, Bool.not_true, Bool.not_false, cmp_ne, eqD_ii, toB_s, e3, Option.map_some, atI_2, atI_0, negK_i, eu, ht, List.take_length]
          | list i => simp -implicitDefEqProofs only [sem_var, varR_d, varR_own, varR_bor, varR_loc, sem_con, sem_glo, rdk1_s, rdk2_s, rd_d, rd_new, rd_bor, rd_lent, rd_loc, dat_lst, py_d, py_new, arg_d, arg_new, arg_bor, arg_lent, arg_loc, argAll_nil, sems_nil, sems_cons, kEs_a, kPut_a, sem_bin, kBin_a, kBin2_a, sem_neg, kNeg_a, negK_i, truR_b, truR_i, truR_l, truR_t, truR_n, sem_nt, kNot_a, kNot2_a, sem_an, sem_oo, kAn_a, kOo_a, anS_t, anS_f, ooS_t, ooS_f, sem_cmp, kCmp_a, kCmp2_a, cmpK_lt, cmpK_le, cmpK_gt, cmpK_ge, sem_chn, kChn_a, kChn2_a, kChn3_a, chS_t, chS_f, sem_ite, kIte_a, kIte2_a, selE_t, selE_f, sem_tup, sem_lst, kTup_a, kLst_a, pyAll_nil, pyAll_cons, sem_idx, kIdx_a, kIdx2_a, idxK_l, idxK_t, sem_slc, kSlc_a, kSlc2_a, kSlc3_a, slK_l, slK_t, kPart_n, kPart_i, sem_rev, kRev_a, revD_l, revD_t, sem_cal, kCal_a, calR_s, argAll_c, sem_bif, kBif_a, bifR_s, sem_mth, kMth_a, kMth2_a, mthR_s, idxK_s, rdAll_nil, rdAll_c, bif_len_l, bif_len_t, bif_tup_l, bif_tup_t, bif_lst_l, bif_lst_t, bif_len_s, bif_str_s, bif_repr, sem_isi, kIsi_a, add_ii, sub_ii, mul_ii, mul_ti, fdiv_ii, mod_ii, pow_ii, add_tt, add_ll, Ss_nil, Ss_cons, kSs_n, kSs_r, Ss_frz, frzR_nil, frzR_cons, frz1_own, frz1_d, S_set, kSet_pd, kSet_pn, kSet_pl, kSet_pb, kSet_o, kSet_c, S_unp, kUnp_a, unpR_s, setT_2, setT_3, S_exp, kExp_a, S_ret, kRet_d, kRet_n, kRet_l, S_rtv, rtvR_o, S_ite, kIf_a, kIf2_a, selS_t, selS_f, chgR_o, chgR_l, ownR_s, locR_s, appF_l, extF_l, subF_l, mutR_o, mutR_l, S_sub, kSub_a, subM_t, kSub2_a, subR_s, S_app, appM_t, kApp_a, appR_s, stepF_a, setR_s, setT_nm, S_for, kFor_a, F_of, kItF_dl, kItF_dt, kItF_ds, kItF_n, kItF_b, I_of, kItI_dl, kItI_dt, kItI_ds, kItI_n, kItI_b, kItI_l, I_rng, F_rng, kRng_a, I_rng2, F_rng2, kRg2_a, kRg3_a, sem_lc, kLc_a, kLc2_a, stepC_nm, wipeR_n, wipeR_c, kCs_a, selC_t, selC_f, kElt_d, kElt_n, Cs_nil, Cs_cons, kC1_a, kC2_a, csS_t, csS_f, csS_n, lv_d, lv_n, lv_x, Res.bind_ok, Res.ofO_some, Res.nox_ok, Option.bind_some, Option.map_some, List.getElem?_cons_zero, List.getElem?_cons_succ, List.set_cons_zero, List.set_cons_succ, f13, it, isi_of (.list i) .tuple false rfl, Bool.not_true, Bool.not_false, cmp_ne, eqD_ii, toB_s, e3, Option.map_some, atI_2, atI_0, negK_i, eu, ht, List.take_length]
    · have e3 : decide (((xs.length : Nat) : Int) = 3) = false := decide_eq_false (by omega)
      simp -implicitDefEqProofs only [sem_var, varR_d, varR_own, varR_bor, varR_loc, sem_con, sem_glo, rdk1_s, rdk2_s, rd_d, rd_new, rd_bor, rd_lent, rd_loc, dat_lst, py_d, py_new, arg_d, arg_new, arg_bor, arg_lent, arg_loc, argAll_nil, sems_nil, sems_cons, kEs_a, kPut_a, sem_bin, kBin_a, kBin2_a, sem_neg, kNeg_a, negK_i, truR_b, truR_i, truR_l, truR_t, truR_n, sem_nt, kNot_a, kNot2_a, sem_an, sem_oo, kAn_a, kOo_a, anS_t, anS_f, ooS_t, ooS_f, sem_cmp, kCmp_a, kCmp2_a, cmpK_lt, cmpK_le, cmpK_gt, cmpK_ge, sem_chn, kChn_a, kChn2_a, kChn3_a, chS_t, chS_f, sem_ite, kIte_a, kIte2_a, selE_t, selE_f, sem_tup, sem_lst, kTup_a, kLst_a, pyAll_nil, pyAll_cons, sem_idx, kIdx_a, kIdx2_a, idxK_l, idxK_t, sem_slc, kSlc_a, kSlc2_a, kSlc3_a, slK_l, slK_t, kPart_n, kPart_i, sem_rev, kRev_a, revD_l, revD_t, sem_cal, kCal_a, calR_s, argAll_c, sem_bif, kBif_a, bifR_s, sem_mth, kMth_a, kMth2_a, mthR_s, idxK_s, rdAll_nil, rdAll_c, bif_len_l, bif_len_t, bif_tup_l, bif_tup_t, bif_lst_l, bif_lst_t, bif_len_s, bif_str_s, bif_repr, sem_isi, kIsi_a, add_ii, sub_ii, mul_ii, mul_ti, fdiv_ii, mod_ii, pow_ii, add_tt, add_ll, Ss_nil, Ss_cons, kSs_n, kSs_r, Ss_frz, frzR_nil, frzR_cons, frz1_own, frz1_d, S_set, kSet_pd, kSet_pn, kSet_pl, kSet_pb, kSet_o, kSet_c, S_unp, kUnp_a, unpR_s, setT_2, setT_3, S_exp, kExp_a, S_ret, kRet_d, kRet_n, kRet_l, S_rtv, rtvR_o, S_ite, kIf_a, kIf2_a, selS_t, selS_f, chgR_o, chgR_l, ownR_s, locR_s, appF_l, extF_l, subF_l, mutR_o, mutR_l, S_sub, kSub_a, subM_t, kSub2_a, subR_s, S_app, appM_t, kApp_a, appR_s, stepF_a, setR_s, setT_nm, S_for, kFor_a, F_of, kItF_dl, kItF_dt, kItF_ds, kItF_n, kItF_b, I_of, kItI_dl, kItI_dt, kItI_ds, kItI_n, kItI_b, kItI_l, I_rng, F_rng, kRng_a, I_rng2, F_rng2, kRg2_a, kRg3_a, sem_lc, kLc_a, kLc2_a, stepC_nm, wipeR_n, wipeR_c, kCs_a, selC_t, selC_f, kElt_d, kElt_n, Cs_nil, Cs_cons, kC1_a, kC2_a, csS_t, csS_f, csS_n, lv_d, lv_n, lv_x, Res.bind_ok, Res.ofO_some, Res.nox_ok, Option.bind_some, Option.map_some, List.getElem?_cons_zero, List.getElem?_cons_succ, List.set_cons_zero, List.set_cons_succ, f13, it, Bool.not_true, cmp_ne, eqD_ii, toB_s, e3, Option.map_some, Bool.not_false, thingB_no hl, List.take_length]
/-! the draws of letters -/
theorem compL_st {f : PyData → Stt → Res (Option PyData)} {P : PyData → Prop} {I : Stt → Prop} : ∀ {xs : List PyData} {st : Stt}, I st → (∀ x ∈ xs, ∀ st, I st → ∃ y st', f x st = .ok (some y) st' ∧ I st' ∧ P y) → ∃ ys st', compL f xs st = .ok ys st' ∧ I st' ∧ ys.length = xs.length ∧ ∀ y ∈ ys, P y
  | [], st, h, _ => ⟨[], st, rfl, h, rfl, fun _ h => (nomatch h)⟩
  | x :: xs, st, h, hf => by
    obtain ⟨y, s1, e1, h1, hy⟩ := hf x List.mem_cons_self st h
    obtain ⟨ys, s2, e2, h2, hl, hys⟩ := compL_st h1 fun z hz => hf z (List.mem_cons_of_mem _ hz)
    refine ⟨y :: ys, s2, ?_, h2, by rw [List.length_cons, List.length_cons, hl], fun z hz => ?_⟩
    · unfold compL
      rw [e1, Res.bind_ok, e2, Res.bind_ok]
    · rcases List.mem_cons.mp hz with rfl | hz
      · exact hy
      · exact hys z hz
theorem fold_join (g : Array Nat) (hg : g.size = 0) : ∀ (ps : List Str) (acc : Array Nat), (∀ p ∈ ps, PyData.strOk p = true ∧ p.length = 1) → acc.all (· < 0x110000) = true → (ps.foldl (fun acc p => acc ++ g ++ p.cps) acc).all (· < 0x110000) = true ∧ (ps.foldl (fun acc p => acc ++ g ++ p.cps) acc).size = acc.size + ps.length
  | [], acc, _, ha => ⟨ha, rfl⟩
  | p :: ps, acc, h, ha => by
    have hp := h p List.mem_cons_self
    have hg' : g = #[] := Array.eq_empty_of_size_eq_zero hg
    have h1 : (acc ++ g ++ p.cps).all (· < 0x110000) = true := by
      have h2 : p.cps.all (· < 0x110000) = true := hp.1
      rw [hg', Array.append_empty, Array.all_append, ha, h2]
      rfl
    have h3 : (acc ++ g ++ p.cps).size = acc.size + 1 := by
      have h2 : p.cps.size = 1 := hp.2
      rw [hg', Array.append_empty, Array.size_append, h2]
    have r := fold_join g hg ps (acc ++ g ++ p.cps) (fun q hq => h q (List.mem_cons_of_mem _ hq)) h1
    refine ⟨r.1, ?_⟩
    show (ps.foldl _ (acc ++ g ++ p.cps)).size = _
    rw [r.2, h3, List.length_cons]
    omega
theorem glue_ok (ps : List Str) (h : ∀ p ∈ ps, PyData.strOk p = true ∧ p.length = 1) : PyData.strOk (Txt.join "" ps) = true ∧ (Txt.join "" ps).length ≤ ps.length := by
  cases ps with
  | nil => exact ⟨by decide +kernel, by decide +kernel⟩
  | cons p ps =>
    have hp := h p List.mem_cons_self
    have r := fold_join ("" : Str).cps rfl ps p.cps (fun q hq => h q (List.mem_cons_of_mem _ hq)) hp.1
    refine ⟨r.1, ?_⟩
    show (ps.foldl _ p.cps).size ≤ _
    have h2 : p.cps.size = 1 := hp.2
    have r2 := r.2
    rw [h2] at r2
    rw [List.length_cons]
    exact Nat.le_trans (Nat.le_of_eq r2) (by omega)
def Ltr (y : PyData) : Prop := ∃ p : Str, y = .str p ∧ PyData.strOk p = true ∧ p.length = 1
theorem allS_ltr : ∀ ys : List PyData, (∀ y ∈ ys, Ltr y) → ∃ ps, allS ys = some ps ∧ ps.length = ys.length ∧ (ps.map (·.length)).sum = ys.length ∧ ∀ p ∈ ps, PyData.strOk p = true ∧ p.length = 1
  | [], _ => ⟨[], rfl, rfl, rfl, fun _ h => (nomatch h)⟩
  | y :: ys, h => by
    obtain ⟨p, rfl, h1, h2⟩ := h y List.mem_cons_self
    obtain ⟨ps, e, hl, hs, hp⟩ := allS_ltr ys fun z hz => h z (List.mem_cons_of_mem _ hz)
    refine ⟨p :: ps, ?_, by rw [List.length_cons, List.length_cons, hl], ?_, fun q hq => ?_⟩
    · show (allS ys).map _ = _
      rw [e]; rfl
    · rw [List.map_cons, List.sum_cons, hs, h2, List.length_cons]; omega
    · rcases List.mem_cons.mp hq with rfl | hq
      · exact ⟨h1, h2⟩
      · exact hp q hq
theorem join_ltr {ys : List PyData} (h : ∀ y ∈ ys, Ltr y) (hl : ys.length ≤ 1000) : ∃ s, mthD .join (.str "") [.list ys] = some (.d (.str s)) ∧ PyData.strOk s = true ∧ s.length ≤ ys.length := by
  obtain ⟨ps, e, h1, h2, h3⟩ := allS_ltr ys h
  have g := glue_ok ps h3
  refine ⟨Txt.join "" ps, ?_, g.1, by omega⟩
  show (allS ys).bind _ = _
  rw [e, Option.bind_some]
  have e0 : (("" : String) : Str).length = 0 := rfl
  rw [if_pos]
  rw [h2, e0, Nat.mul_zero, Nat.add_zero]
  exact le_line hl (by decide)
theorem let_ltr {r : Int} (h0 : 0 ≤ r) (h1 : r < 26) : ∃ c, atI LET.cps.toList r = some c ∧ Ltr (.str ⟨#[c]⟩) := by
  obtain ⟨c, e, hc⟩ := atI_mem (xs := LET.cps.toList) h0 (show r < ((LET.cps.toList.length : Nat) : Int) by
    have : LET.cps.toList.length = 26 := by decide +kernel
    omega)
  refine ⟨c, e, ⟨#[c]⟩, rfl, ?_, rfl⟩
  have hs : PyData.strOk LET = true := by decide +kernel
  unfold PyData.strOk at hs
  rw [Array.all_eq_true'] at hs
  have h2 := hs c (by simpa using hc)
  unfold PyData.strOk
  rw [Array.all_eq_true']
  intro y hy
  have hy : y = c := by simpa using hy
  rw [hy]
  exact h2
/-! the law's loop -/
structure LawH (Φ : Phi) : Prop extends FeedH Φ 6 7 where
  isdot : ∀ (x : PyData) (st : Stt), Th x → Φ 3 [.d x] st = .ok (.d (.bool (dotB x))) st
  isthing : ∀ (B L D : Nat) (x : PyData) (st : Stt), Bd B L D x → D ≤ 20 → Φ 5 [.d x] st = .ok (.d (.bool (thingB x))) st
  ldot : ∀ (B L D : Nat) (x : PyData) (st : Stt), Bd B L D x → D ≤ 20 → B ≤ 10 ^ 50 → Φ 12 [.d x] st = .ok (.d (.bool (dotB x))) st
  lthing : ∀ (B L D : Nat) (x : PyData) (st : Stt), Bd B L D x → D ≤ 20 → B ≤ 10 ^ 50 → Φ 13 [.d x] st = .ok (.d (.bool (thingB x))) st
  bent : ∀ B L D : Nat, B ≤ 10 ^ 45 → L ≤ 100 → D ≤ 6 → BentOf Φ B L D
theorem bent_up {Φ : Phi} {B L D : Nat} (h : BentOf Φ B L 6) (hD : D ≤ 6) : True := trivial
theorem lawH (k : Nat) : LawH (phi fs (k + 10)) := { feedH (fs := fs) (gf := 6) (gt := 7) rfl rfl with
  isdot := fun x st h => by rw [phi_at (f := f3) rfl ⟨rfl, by decide⟩]; exact is_dot_ok (seatH (k + 6)) h
  isthing := fun B L D x st h hD => by rw [phi_at (f := f5) rfl ⟨rfl, by decide⟩]; exact is_thing_ok (thH (k + 5)) h hD
  ldot := fun B L D x st h h1 h2 => by rw [phi_at (f := f12) rfl ⟨rfl, by decide⟩]; exact ldot_ok (seatH (k + 6)) h h1 h2
  lthing := fun B L D x st h h1 h2 => by rw [phi_at (f := f13) rfl ⟨rfl, by decide⟩]; exact lthing_ok (thH (k + 5)) h h1 h2
  bent := fun B L D hB hL hD => by
    have := bent_gen (B := B) (L := L) hB hL D (k + 8 - D)
    rw [show k + 8 - D + D + 2 = k + 10 by omega] at this
    exact this }
theorem loopOne {Φ : Phi} (H : LawH Φ) {a0 a1 a2 a3 a4 a5 a6 a7 a8 a9 a10 a12 : Option W} {c : C} {x : PyData} (hx : Bd (10 ^ 49) 500 15 x) {ρ : Rho} {st : Stt} (h : ∃ y, st = [c] ∧ ρ = [a0, a1, a2, a3, a4, a5, a6, a7, a8, a9, a10, y, a12]) :
    Wp (stepF Φ (.nm 11) f14_b1 x ρ st) fun fl st' => ∃ ρ', fl = .nx ρ' ∧ ∃ y, st' = [c] ∧ ρ' = [a0, a1, a2, a3, a4, a5, a6, a7, a8, a9, a10, y, a12] := by
  obtain ⟨y, rfl, rfl⟩ := h
  have e1 := H.isdot x [c] (hx.th (by decide))
  have e2 := H.ldot _ _ _ x [c] hx (by decide) (Nat.pow_le_pow_right (by decide) (by decide))
  have e3 := H.isthing _ _ _ x [c] hx (by decide)
  have e4 := H.lthing _ _ _ x [c] hx (by decide) (Nat.pow_le_pow_right (by decide) (by decide))
  simp -implicitDefEqProofs only [sem_var, varR_d, varR_own, varR_bor, varR_loc, sem_con, sem_glo, rdk1_s, rdk2_s, rd_d, rd_new, rd_bor, rd_lent, rd_loc, dat_lst, py_d, py_new, arg_d, arg_new, arg_bor, arg_lent, arg_loc, argAll_nil, sems_nil, sems_cons, kEs_a, kPut_a, sem_bin, kBin_a, kBin2_a, sem_neg, kNeg_a, negK_i, truR_b, truR_i, truR_l, truR_t, truR_n, sem_nt, kNot_a, kNot2_a, sem_an, sem_oo, kAn_a, kOo_a, anS_t, anS_f, ooS_t, ooS_f, sem_cmp, kCmp_a, kCmp2_a, cmpK_lt, cmpK_le, cmpK_gt, cmpK_ge, sem_chn, kChn_a, kChn2_a, kChn3_a, chS_t, chS_f, sem_ite, kIte_a, kIte2_a, selE_t, selE_f, sem_tup, sem_lst, kTup_a, kLst_a, pyAll_nil, pyAll_cons, sem_idx, kIdx_a, kIdx2_a, idxK_l, idxK_t, sem_slc, kSlc_a, kSlc2_a, kSlc3_a, slK_l, slK_t, kPart_n, kPart_i, sem_rev, kRev_a, revD_l, revD_t, sem_cal, kCal_a, calR_s, argAll_c, sem_bif, kBif_a, bifR_s, sem_mth, kMth_a, kMth2_a, mthR_s, idxK_s, rdAll_nil, rdAll_c, bif_len_l, bif_len_t, bif_tup_l, bif_tup_t, bif_lst_l, bif_lst_t, bif_len_s, bif_str_s, bif_repr, sem_isi, kIsi_a, add_ii, sub_ii, mul_ii, mul_ti, fdiv_ii, mod_ii, pow_ii, add_tt, add_ll, Ss_nil, Ss_cons, kSs_n, kSs_r, Ss_frz, frzR_nil, frzR_cons, frz1_own, frz1_d, S_set, kSet_pd, kSet_pn, kSet_pl, kSet_pb, kSet_o, kSet_c, S_unp, kUnp_a, unpR_s, setT_2, setT_3, S_exp, kExp_a, S_ret, kRet_d, kRet_n, kRet_l, S_rtv, rtvR_o, S_ite, kIf_a, kIf2_a, selS_t, selS_f, chgR_o, chgR_l, ownR_s, locR_s, appF_l, extF_l, subF_l, mutR_o, mutR_l, S_sub, kSub_a, subM_t, kSub2_a, subR_s, S_app, appM_t, kApp_a, appR_s, stepF_a, setR_s, setT_nm, S_for, kFor_a, F_of, kItF_dl, kItF_dt, kItF_ds, kItF_n, kItF_b, I_of, kItI_dl, kItI_dt, kItI_ds, kItI_n, kItI_b, kItI_l, I_rng, F_rng, kRng_a, I_rng2, F_rng2, kRg2_a, kRg3_a, sem_lc, kLc_a, kLc2_a, stepC_nm, wipeR_n, wipeR_c, kCs_a, selC_t, selC_f, kElt_d, kElt_n, Cs_nil, Cs_cons, kC1_a, kC2_a, csS_t, csS_f, csS_n, lv_d, lv_n, lv_x, Res.bind_ok, Res.ofO_some, Res.nox_ok, Option.bind_some, Option.map_some, List.getElem?_cons_zero, List.getElem?_cons_succ, List.set_cons_zero, List.set_cons_succ, Wp_ok, Wp_bind, Wp_nox, f14_b1, e1, e2, e3, e4, bif_repr, reprD_b, cmp_ne, eqD_ss, decide_true, toB_s, Bool.not_true]
  exact ⟨_, rfl, _, trivial, rfl⟩
theorem l2 {a b : PyData} : ([a, b].length ≤ lineN) = True := n_le (Nat.le_of_ble_eq_true rfl)
theorem k4 {a b c d : PyData} : ([a, b, c, d].length ≤ lineN) = True := n_le (Nat.le_of_ble_eq_true rfl)
theorem k6 {a b c d e f : PyData} : ([a, b, c, d, e, f].length ≤ lineN) = True := n_le (Nat.le_of_ble_eq_true rfl)
theorem k9 {a b c d e f g h i : PyData} : ([a, b, c, d, e, f, g, h, i].length ≤ lineN) = True := n_le (Nat.le_of_ble_eq_true rfl)
theorem k41 {a b c d e : PyData} : ([a, b, c, d].length + [e].length ≤ lineN) = True := n_le (Nat.le_of_ble_eq_true rfl)
theorem p39 : ((0 : Int) ≤ 39 ∧ (39 : Int) ≤ 1000000 ∧ within64 10 = true) = True := eq_true (by decide)
theorem t39 : (10 : Int) ^ (39 : Int).toNat = 10 ^ 39 := rfl
theorem rep1 (x : PyData) (k : Nat) : (List.replicate k [x]).flatten = List.replicate k x := by
  induction k with
  | zero => rfl
  | succ k ih => rw [List.replicate_succ, List.replicate_succ, List.flatten_cons, ih]; rfl
theorem mul_1 {x : PyData} {k : Int} (h0 : 0 ≤ k) (h1 : k < 6) : (0 ≤ k ∧ k ≤ 1000 ∧ [x].length ≤ 1000) = True := eq_true ⟨h0, by omega, by show 1 ≤ 1000; decide⟩
theorem rng_len (a b : Int) : (rngL a b).length = (b - a).toNat := by
  unfold rngL
  rw [List.length_map, List.length_range]
theorem rngOk_s {i : Int} (h0 : 0 ≤ i) (h1 : i < 1000000) : rngOk i = true := by
  unfold rngOk
  rw [decide_eq_true (by omega), decide_eq_true (by omega)]
  rfl
abbrev BB := Bd (10 ^ 40) 20
theorem bb_int {i : Int} (h : i.natAbs ≤ 10 ^ 40) {D : Nat} : BB D (.int i) := bd_mono (bd_int h) (Nat.zero_le _)
theorem bb_str {s : String} (h : s.length ≤ 2000) {D : Nat} : BB D (.str (Str.ofString s)) := bd_mono (bd_str h) (Nat.zero_le _)
theorem bb_void {D : Nat} : BB (D + 1) (.tuple []) := bd_mono (bd_tup (D := 0) (xs := []) (Nat.zero_le _) fun y hy => (nomatch hy)) (by omega)
theorem bb_2 {D : Nat} {a b : PyData} (ha : BB D a) (hb : BB D b) : BB (D + 1) (.tuple [a, b]) := bd_tup (by show 2 ≤ 20; decide) fun y hy => by
  simp only [List.mem_cons, List.not_mem_nil, or_false] at hy
  rcases hy with rfl | rfl
  · exact ha
  · exact hb
theorem bb_3 {D : Nat} {a b c : PyData} (ha : BB D a) (hb : BB D b) (hc : BB D c) : BB (D + 1) (.tuple [a, b, c]) := bd_tup (by show 3 ≤ 20; decide) fun y hy => by
  simp only [List.mem_cons, List.not_mem_nil, or_false] at hy
  rcases hy with rfl | rfl | rfl
  · exact ha
  · exact hb
  · exact hc
theorem str26 : (LET.length ≤ lineN) = True := n_le (by decide)
def IL (a0 : Option W) (ρ : Rho) (st : Stt) : Prop := ∃ c x2 x3 x4 x5 x6 x7 x8 x9 x10 x11 x12, st = [c] ∧ FeedOk c ∧ ρ = [a0, some (.loc 0), x2, x3, x4, x5, x6, x7, x8, x9, x10, x11, x12]
theorem turn_ok {Φ : Phi} (H : LawH Φ) {a0 : Option W} (x : PyData) (ρ : Rho) (st : Stt) (h : IL a0 ρ st) : Wp (stepF Φ (.nm 2) f14_b2 x ρ st) fun fl st' => ∃ ρ', fl = .nx ρ' ∧ IL a0 ρ' st' := by
  obtain ⟨c, x2, x3, x4, x5, x6, x7, x8, x9, x10, x11, x12, rfl, hc, rfl⟩ := h
  simp -implicitDefEqProofs only [sem_var, varR_d, varR_own, varR_bor, varR_loc, sem_con, sem_glo, rdk1_s, rdk2_s, rd_d, rd_new, rd_bor, rd_lent, rd_loc, dat_lst, py_d, py_new, arg_d, arg_new, arg_bor, arg_lent, arg_loc, argAll_nil, sems_nil, sems_cons, kEs_a, kPut_a, sem_bin, kBin_a, kBin2_a, sem_neg, kNeg_a, negK_i, truR_b, truR_i, truR_l, truR_t, truR_n, sem_nt, kNot_a, kNot2_a, sem_an, sem_oo, kAn_a, kOo_a, anS_t, anS_f, ooS_t, ooS_f, sem_cmp, kCmp_a, kCmp2_a, cmpK_lt, cmpK_le, cmpK_gt, cmpK_ge, sem_chn, kChn_a, kChn2_a, kChn3_a, chS_t, chS_f, sem_ite, kIte_a, kIte2_a, selE_t, selE_f, sem_tup, sem_lst, kTup_a, kLst_a, pyAll_nil, pyAll_cons, sem_idx, kIdx_a, kIdx2_a, idxK_l, idxK_t, sem_slc, kSlc_a, kSlc2_a, kSlc3_a, slK_l, slK_t, kPart_n, kPart_i, sem_rev, kRev_a, revD_l, revD_t, sem_cal, kCal_a, calR_s, argAll_c, sem_bif, kBif_a, bifR_s, sem_mth, kMth_a, kMth2_a, mthR_s, idxK_s, rdAll_nil, rdAll_c, bif_len_l, bif_len_t, bif_tup_l, bif_tup_t, bif_lst_l, bif_lst_t, bif_len_s, bif_str_s, bif_repr, sem_isi, kIsi_a, add_ii, sub_ii, mul_ii, mul_ti, fdiv_ii, mod_ii, pow_ii, add_tt, add_ll, Ss_nil, Ss_cons, kSs_n, kSs_r, Ss_frz, frzR_nil, frzR_cons, frz1_own, frz1_d, S_set, kSet_pd, kSet_pn, kSet_pl, kSet_pb, kSet_o, kSet_c, S_unp, kUnp_a, unpR_s, setT_2, setT_3, S_exp, kExp_a, S_ret, kRet_d, kRet_n, kRet_l, S_rtv, rtvR_o, S_ite, kIf_a, kIf2_a, selS_t, selS_f, chgR_o, chgR_l, ownR_s, locR_s, appF_l, extF_l, subF_l, mutR_o, mutR_l, S_sub, kSub_a, subM_t, kSub2_a, subR_s, S_app, appM_t, kApp_a, appR_s, stepF_a, setR_s, setT_nm, S_for, kFor_a, F_of, kItF_dl, kItF_dt, kItF_ds, kItF_n, kItF_b, I_of, kItI_dl, kItI_dt, kItI_ds, kItI_n, kItI_b, kItI_l, I_rng, F_rng, kRng_a, I_rng2, F_rng2, kRg2_a, kRg3_a, sem_lc, kLc_a, kLc2_a, stepC_nm, wipeR_n, wipeR_c, kCs_a, selC_t, selC_f, kElt_d, kElt_n, Cs_nil, Cs_cons, kC1_a, kC2_a, csS_t, csS_f, csS_n, lv_d, lv_n, lv_x, Res.bind_ok, Res.ofO_some, Res.nox_ok, Option.bind_some, Option.map_some, List.getElem?_cons_zero, List.getElem?_cons_succ, List.set_cons_zero, List.set_cons_succ, Wp_ok, Wp_bind, Wp_nox, f14_b2]
  refine H.wp hc (by decide) (by decide) fun r c h0 h1 hc => ?_
  simp -implicitDefEqProofs only [sem_var, varR_d, varR_own, varR_bor, varR_loc, sem_con, sem_glo, rdk1_s, rdk2_s, rd_d, rd_new, rd_bor, rd_lent, rd_loc, dat_lst, py_d, py_new, arg_d, arg_new, arg_bor, arg_lent, arg_loc, argAll_nil, sems_nil, sems_cons, kEs_a, kPut_a, sem_bin, kBin_a, kBin2_a, sem_neg, kNeg_a, negK_i, truR_b, truR_i, truR_l, truR_t, truR_n, sem_nt, kNot_a, kNot2_a, sem_an, sem_oo, kAn_a, kOo_a, anS_t, anS_f, ooS_t, ooS_f, sem_cmp, kCmp_a, kCmp2_a, cmpK_lt, cmpK_le, cmpK_gt, cmpK_ge, sem_chn, kChn_a, kChn2_a, kChn3_a, chS_t, chS_f, sem_ite, kIte_a, kIte2_a, selE_t, selE_f, sem_tup, sem_lst, kTup_a, kLst_a, pyAll_nil, pyAll_cons, sem_idx, kIdx_a, kIdx2_a, idxK_l, idxK_t, sem_slc, kSlc_a, kSlc2_a, kSlc3_a, slK_l, slK_t, kPart_n, kPart_i, sem_rev, kRev_a, revD_l, revD_t, sem_cal, kCal_a, calR_s, argAll_c, sem_bif, kBif_a, bifR_s, sem_mth, kMth_a, kMth2_a, mthR_s, idxK_s, rdAll_nil, rdAll_c, bif_len_l, bif_len_t, bif_tup_l, bif_tup_t, bif_lst_l, bif_lst_t, bif_len_s, bif_str_s, bif_repr, sem_isi, kIsi_a, add_ii, sub_ii, mul_ii, mul_ti, fdiv_ii, mod_ii, pow_ii, add_tt, add_ll, Ss_nil, Ss_cons, kSs_n, kSs_r, Ss_frz, frzR_nil, frzR_cons, frz1_own, frz1_d, S_set, kSet_pd, kSet_pn, kSet_pl, kSet_pb, kSet_o, kSet_c, S_unp, kUnp_a, unpR_s, setT_2, setT_3, S_exp, kExp_a, S_ret, kRet_d, kRet_n, kRet_l, S_rtv, rtvR_o, S_ite, kIf_a, kIf2_a, selS_t, selS_f, chgR_o, chgR_l, ownR_s, locR_s, appF_l, extF_l, subF_l, mutR_o, mutR_l, S_sub, kSub_a, subM_t, kSub2_a, subR_s, S_app, appM_t, kApp_a, appR_s, stepF_a, setR_s, setT_nm, S_for, kFor_a, F_of, kItF_dl, kItF_dt, kItF_ds, kItF_n, kItF_b, I_of, kItI_dl, kItI_dt, kItI_ds, kItI_n, kItI_b, kItI_l, I_rng, F_rng, kRng_a, I_rng2, F_rng2, kRg2_a, kRg3_a, sem_lc, kLc_a, kLc2_a, stepC_nm, wipeR_n, wipeR_c, kCs_a, selC_t, selC_f, kElt_d, kElt_n, Cs_nil, Cs_cons, kC1_a, kC2_a, csS_t, csS_f, csS_n, lv_d, lv_n, lv_x, Res.bind_ok, Res.ofO_some, Res.nox_ok, Option.bind_some, Option.map_some, List.getElem?_cons_zero, List.getElem?_cons_succ, List.set_cons_zero, List.set_cons_succ, Wp_ok, Wp_bind, Wp_nox, tupK, pyAll_nil, k1, if_true]
  refine H.wp hc (by decide) (by decide) fun q c q0 q1 hc => ?_
  simp -implicitDefEqProofs only [sem_var, varR_d, varR_own, varR_bor, varR_loc, sem_con, sem_glo, rdk1_s, rdk2_s, rd_d, rd_new, rd_bor, rd_lent, rd_loc, dat_lst, py_d, py_new, arg_d, arg_new, arg_bor, arg_lent, arg_loc, argAll_nil, sems_nil, sems_cons, kEs_a, kPut_a, sem_bin, kBin_a, kBin2_a, sem_neg, kNeg_a, negK_i, truR_b, truR_i, truR_l, truR_t, truR_n, sem_nt, kNot_a, kNot2_a, sem_an, sem_oo, kAn_a, kOo_a, anS_t, anS_f, ooS_t, ooS_f, sem_cmp, kCmp_a, kCmp2_a, cmpK_lt, cmpK_le, cmpK_gt, cmpK_ge, sem_chn, kChn_a, kChn2_a, kChn3_a, chS_t, chS_f, sem_ite, kIte_a, kIte2_a, selE_t, selE_f, sem_tup, sem_lst, kTup_a, kLst_a, pyAll_nil, pyAll_cons, sem_idx, kIdx_a, kIdx2_a, idxK_l, idxK_t, sem_slc, kSlc_a, kSlc2_a, kSlc3_a, slK_l, slK_t, kPart_n, kPart_i, sem_rev, kRev_a, revD_l, revD_t, sem_cal, kCal_a, calR_s, argAll_c, sem_bif, kBif_a, bifR_s, sem_mth, kMth_a, kMth2_a, mthR_s, idxK_s, rdAll_nil, rdAll_c, bif_len_l, bif_len_t, bif_tup_l, bif_tup_t, bif_lst_l, bif_lst_t, bif_len_s, bif_str_s, bif_repr, sem_isi, kIsi_a, add_ii, sub_ii, mul_ii, mul_ti, fdiv_ii, mod_ii, pow_ii, add_tt, add_ll, Ss_nil, Ss_cons, kSs_n, kSs_r, Ss_frz, frzR_nil, frzR_cons, frz1_own, frz1_d, S_set, kSet_pd, kSet_pn, kSet_pl, kSet_pb, kSet_o, kSet_c, S_unp, kUnp_a, unpR_s, setT_2, setT_3, S_exp, kExp_a, S_ret, kRet_d, kRet_n, kRet_l, S_rtv, rtvR_o, S_ite, kIf_a, kIf2_a, selS_t, selS_f, chgR_o, chgR_l, ownR_s, locR_s, appF_l, extF_l, subF_l, mutR_o, mutR_l, S_sub, kSub_a, subM_t, kSub2_a, subR_s, S_app, appM_t, kApp_a, appR_s, stepF_a, setR_s, setT_nm, S_for, kFor_a, F_of, kItF_dl, kItF_dt, kItF_ds, kItF_n, kItF_b, I_of, kItI_dl, kItI_dt, kItI_ds, kItI_n, kItI_b, kItI_l, I_rng, F_rng, kRng_a, I_rng2, F_rng2, kRg2_a, kRg3_a, sem_lc, kLc_a, kLc2_a, stepC_nm, wipeR_n, wipeR_c, kCs_a, selC_t, selC_f, kElt_d, kElt_n, Cs_nil, Cs_cons, kC1_a, kC2_a, csS_t, csS_f, csS_n, lv_d, lv_n, lv_x, Res.bind_ok, Res.ofO_some, Res.nox_ok, Option.bind_some, Option.map_some, List.getElem?_cons_zero, List.getElem?_cons_succ, List.set_cons_zero, List.set_cons_succ, Wp_ok, Wp_bind, Wp_nox, tupK, pyAll_nil, k1, if_true]
  refine H.wp hc (by decide) (by decide) fun m c m0 m1 hc => ?_
  have a1 : ([PyData.int r].length + (List.replicate m.toNat (PyData.int (1 + q))).length ≤ lineN) = True := n_le (by rw [List.length_replicate]; show 1 + _ ≤ 1000; omega)
  simp -implicitDefEqProofs only [sem_var, varR_d, varR_own, varR_bor, varR_loc, sem_con, sem_glo, rdk1_s, rdk2_s, rd_d, rd_new, rd_bor, rd_lent, rd_loc, dat_lst, py_d, py_new, arg_d, arg_new, arg_bor, arg_lent, arg_loc, argAll_nil, sems_nil, sems_cons, kEs_a, kPut_a, sem_bin, kBin_a, kBin2_a, sem_neg, kNeg_a, negK_i, truR_b, truR_i, truR_l, truR_t, truR_n, sem_nt, kNot_a, kNot2_a, sem_an, sem_oo, kAn_a, kOo_a, anS_t, anS_f, ooS_t, ooS_f, sem_cmp, kCmp_a, kCmp2_a, cmpK_lt, cmpK_le, cmpK_gt, cmpK_ge, sem_chn, kChn_a, kChn2_a, kChn3_a, chS_t, chS_f, sem_ite, kIte_a, kIte2_a, selE_t, selE_f, sem_tup, sem_lst, kTup_a, kLst_a, pyAll_nil, pyAll_cons, sem_idx, kIdx_a, kIdx2_a, idxK_l, idxK_t, sem_slc, kSlc_a, kSlc2_a, kSlc3_a, slK_l, slK_t, kPart_n, kPart_i, sem_rev, kRev_a, revD_l, revD_t, sem_cal, kCal_a, calR_s, argAll_c, sem_bif, kBif_a, bifR_s, sem_mth, kMth_a, kMth2_a, mthR_s, idxK_s, rdAll_nil, rdAll_c, bif_len_l, bif_len_t, bif_tup_l, bif_tup_t, bif_lst_l, bif_lst_t, bif_len_s, bif_str_s, bif_repr, sem_isi, kIsi_a, add_ii, sub_ii, mul_ii, mul_ti, fdiv_ii, mod_ii, pow_ii, add_tt, add_ll, Ss_nil, Ss_cons, kSs_n, kSs_r, Ss_frz, frzR_nil, frzR_cons, frz1_own, frz1_d, S_set, kSet_pd, kSet_pn, kSet_pl, kSet_pb, kSet_o, kSet_c, S_unp, kUnp_a, unpR_s, setT_2, setT_3, S_exp, kExp_a, S_ret, kRet_d, kRet_n, kRet_l, S_rtv, rtvR_o, S_ite, kIf_a, kIf2_a, selS_t, selS_f, chgR_o, chgR_l, ownR_s, locR_s, appF_l, extF_l, subF_l, mutR_o, mutR_l, S_sub, kSub_a, subM_t, kSub2_a, subR_s, S_app, appM_t, kApp_a, appR_s, stepF_a, setR_s, setT_nm, S_for, kFor_a, F_of, kItF_dl, kItF_dt, kItF_ds, kItF_n, kItF_b, I_of, kItI_dl, kItI_dt, kItI_ds, kItI_n, kItI_b, kItI_l, I_rng, F_rng, kRng_a, I_rng2, F_rng2, kRg2_a, kRg3_a, sem_lc, kLc_a, kLc2_a, stepC_nm, wipeR_n, wipeR_c, kCs_a, selC_t, selC_f, kElt_d, kElt_n, Cs_nil, Cs_cons, kC1_a, kC2_a, csS_t, csS_f, csS_n, lv_d, lv_n, lv_x, Res.bind_ok, Res.ofO_some, Res.nox_ok, Option.bind_some, Option.map_some, List.getElem?_cons_zero, List.getElem?_cons_succ, List.set_cons_zero, List.set_cons_succ, Wp_ok, Wp_bind, Wp_nox, mul_1 m0 m1, rep1, if_true, a1]
  generalize hs : PyData.tuple ([PyData.int r] ++ List.replicate m.toNat (PyData.int (1 + q))) = seat
  have hseat : BB 1 seat := by
    subst hs
    refine bd_tup (by rw [List.length_append, List.length_replicate]; show 1 + _ ≤ 20; omega) fun y hy => ?_
    rcases List.mem_append.mp hy with hy | hy
    · rw [List.mem_singleton.mp hy]
      exact bb_int (Nat.le_trans (show r.natAbs ≤ 10 by omega) (by decide))
    · rw [(List.mem_replicate.mp hy).2]
      exact bb_int (Nat.le_trans (show (1 + q).natAbs ≤ 1000 by omega) (by decide))
  simp -implicitDefEqProofs only [sem_var, varR_d, varR_own, varR_bor, varR_loc, sem_con, sem_glo, rdk1_s, rdk2_s, rd_d, rd_new, rd_bor, rd_lent, rd_loc, dat_lst, py_d, py_new, arg_d, arg_new, arg_bor, arg_lent, arg_loc, argAll_nil, sems_nil, sems_cons, kEs_a, kPut_a, sem_bin, kBin_a, kBin2_a, sem_neg, kNeg_a, negK_i, truR_b, truR_i, truR_l, truR_t, truR_n, sem_nt, kNot_a, kNot2_a, sem_an, sem_oo, kAn_a, kOo_a, anS_t, anS_f, ooS_t, ooS_f, sem_cmp, kCmp_a, kCmp2_a, cmpK_lt, cmpK_le, cmpK_gt, cmpK_ge, sem_chn, kChn_a, kChn2_a, kChn3_a, chS_t, chS_f, sem_ite, kIte_a, kIte2_a, selE_t, selE_f, sem_tup, sem_lst, kTup_a, kLst_a, pyAll_nil, pyAll_cons, sem_idx, kIdx_a, kIdx2_a, idxK_l, idxK_t, sem_slc, kSlc_a, kSlc2_a, kSlc3_a, slK_l, slK_t, kPart_n, kPart_i, sem_rev, kRev_a, revD_l, revD_t, sem_cal, kCal_a, calR_s, argAll_c, sem_bif, kBif_a, bifR_s, sem_mth, kMth_a, kMth2_a, mthR_s, idxK_s, rdAll_nil, rdAll_c, bif_len_l, bif_len_t, bif_tup_l, bif_tup_t, bif_lst_l, bif_lst_t, bif_len_s, bif_str_s, bif_repr, sem_isi, kIsi_a, add_ii, sub_ii, mul_ii, mul_ti, fdiv_ii, mod_ii, pow_ii, add_tt, add_ll, Ss_nil, Ss_cons, kSs_n, kSs_r, Ss_frz, frzR_nil, frzR_cons, frz1_own, frz1_d, S_set, kSet_pd, kSet_pn, kSet_pl, kSet_pb, kSet_o, kSet_c, S_unp, kUnp_a, unpR_s, setT_2, setT_3, S_exp, kExp_a, S_ret, kRet_d, kRet_n, kRet_l, S_rtv, rtvR_o, S_ite, kIf_a, kIf2_a, selS_t, selS_f, chgR_o, chgR_l, ownR_s, locR_s, appF_l, extF_l, subF_l, mutR_o, mutR_l, S_sub, kSub_a, subM_t, kSub2_a, subR_s, S_app, appM_t, kApp_a, appR_s, stepF_a, setR_s, setT_nm, S_for, kFor_a, F_of, kItF_dl, kItF_dt, kItF_ds, kItF_n, kItF_b, I_of, kItI_dl, kItI_dt, kItI_ds, kItI_n, kItI_b, kItI_l, I_rng, F_rng, kRng_a, I_rng2, F_rng2, kRg2_a, kRg3_a, sem_lc, kLc_a, kLc2_a, stepC_nm, wipeR_n, wipeR_c, kCs_a, selC_t, selC_f, kElt_d, kElt_n, Cs_nil, Cs_cons, kC1_a, kC2_a, csS_t, csS_f, csS_n, lv_d, lv_n, lv_x, Res.bind_ok, Res.ofO_some, Res.nox_ok, Option.bind_some, Option.map_some, List.getElem?_cons_zero, List.getElem?_cons_succ, List.set_cons_zero, List.set_cons_succ, Wp_ok, Wp_bind, Wp_nox, p39, t39, negK_i, lstK, pyAll_nil, k6, if_true]
  refine H.wp hc (by decide) (by decide) fun r c h0 h1 hc => ?_
  simp -implicitDefEqProofs only [sem_var, varR_d, varR_own, varR_bor, varR_loc, sem_con, sem_glo, rdk1_s, rdk2_s, rd_d, rd_new, rd_bor, rd_lent, rd_loc, dat_lst, py_d, py_new, arg_d, arg_new, arg_bor, arg_lent, arg_loc, argAll_nil, sems_nil, sems_cons, kEs_a, kPut_a, sem_bin, kBin_a, kBin2_a, sem_neg, kNeg_a, negK_i, truR_b, truR_i, truR_l, truR_t, truR_n, sem_nt, kNot_a, kNot2_a, sem_an, sem_oo, kAn_a, kOo_a, anS_t, anS_f, ooS_t, ooS_f, sem_cmp, kCmp_a, kCmp2_a, cmpK_lt, cmpK_le, cmpK_gt, cmpK_ge, sem_chn, kChn_a, kChn2_a, kChn3_a, chS_t, chS_f, sem_ite, kIte_a, kIte2_a, selE_t, selE_f, sem_tup, sem_lst, kTup_a, kLst_a, pyAll_nil, pyAll_cons, sem_idx, kIdx_a, kIdx2_a, idxK_l, idxK_t, sem_slc, kSlc_a, kSlc2_a, kSlc3_a, slK_l, slK_t, kPart_n, kPart_i, sem_rev, kRev_a, revD_l, revD_t, sem_cal, kCal_a, calR_s, argAll_c, sem_bif, kBif_a, bifR_s, sem_mth, kMth_a, kMth2_a, mthR_s, idxK_s, rdAll_nil, rdAll_c, bif_len_l, bif_len_t, bif_tup_l, bif_tup_t, bif_lst_l, bif_lst_t, bif_len_s, bif_str_s, bif_repr, sem_isi, kIsi_a, add_ii, sub_ii, mul_ii, mul_ti, fdiv_ii, mod_ii, pow_ii, add_tt, add_ll, Ss_nil, Ss_cons, kSs_n, kSs_r, Ss_frz, frzR_nil, frzR_cons, frz1_own, frz1_d, S_set, kSet_pd, kSet_pn, kSet_pl, kSet_pb, kSet_o, kSet_c, S_unp, kUnp_a, unpR_s, setT_2, setT_3, S_exp, kExp_a, S_ret, kRet_d, kRet_n, kRet_l, S_rtv, rtvR_o, S_ite, kIf_a, kIf2_a, selS_t, selS_f, chgR_o, chgR_l, ownR_s, locR_s, appF_l, extF_l, subF_l, mutR_o, mutR_l, S_sub, kSub_a, subM_t, kSub2_a, subR_s, S_app, appM_t, kApp_a, appR_s, stepF_a, setR_s, setT_nm, S_for, kFor_a, F_of, kItF_dl, kItF_dt, kItF_ds, kItF_n, kItF_b, I_of, kItI_dl, kItI_dt, kItI_ds, kItI_n, kItI_b, kItI_l, I_rng, F_rng, kRng_a, I_rng2, F_rng2, kRg2_a, kRg3_a, sem_lc, kLc_a, kLc2_a, stepC_nm, wipeR_n, wipeR_c, kCs_a, selC_t, selC_f, kElt_d, kElt_n, Cs_nil, Cs_cons, kC1_a, kC2_a, csS_t, csS_f, csS_n, lv_d, lv_n, lv_x, Res.bind_ok, Res.ofO_some, Res.nox_ok, Option.bind_some, Option.map_some, List.getElem?_cons_zero, List.getElem?_cons_succ, List.set_cons_zero, List.set_cons_succ, Wp_ok, Wp_bind, Wp_nox]
  refine wp_atP (BB 2) h0 h1 (fun y hy => ?_) fun nb hnb => ?_
  · simp only [List.mem_cons, List.not_mem_nil, or_false] at hy
    rcases hy with rfl | rfl | rfl | rfl | rfl | rfl <;> exact bb_int (by decide)
  simp -implicitDefEqProofs only [sem_var, varR_d, varR_own, varR_bor, varR_loc, sem_con, sem_glo, rdk1_s, rdk2_s, rd_d, rd_new, rd_bor, rd_lent, rd_loc, dat_lst, py_d, py_new, arg_d, arg_new, arg_bor, arg_lent, arg_loc, argAll_nil, sems_nil, sems_cons, kEs_a, kPut_a, sem_bin, kBin_a, kBin2_a, sem_neg, kNeg_a, negK_i, truR_b, truR_i, truR_l, truR_t, truR_n, sem_nt, kNot_a, kNot2_a, sem_an, sem_oo, kAn_a, kOo_a, anS_t, anS_f, ooS_t, ooS_f, sem_cmp, kCmp_a, kCmp2_a, cmpK_lt, cmpK_le, cmpK_gt, cmpK_ge, sem_chn, kChn_a, kChn2_a, kChn3_a, chS_t, chS_f, sem_ite, kIte_a, kIte2_a, selE_t, selE_f, sem_tup, sem_lst, kTup_a, kLst_a, pyAll_nil, pyAll_cons, sem_idx, kIdx_a, kIdx2_a, idxK_l, idxK_t, sem_slc, kSlc_a, kSlc2_a, kSlc3_a, slK_l, slK_t, kPart_n, kPart_i, sem_rev, kRev_a, revD_l, revD_t, sem_cal, kCal_a, calR_s, argAll_c, sem_bif, kBif_a, bifR_s, sem_mth, kMth_a, kMth2_a, mthR_s, idxK_s, rdAll_nil, rdAll_c, bif_len_l, bif_len_t, bif_tup_l, bif_tup_t, bif_lst_l, bif_lst_t, bif_len_s, bif_str_s, bif_repr, sem_isi, kIsi_a, add_ii, sub_ii, mul_ii, mul_ti, fdiv_ii, mod_ii, pow_ii, add_tt, add_ll, Ss_nil, Ss_cons, kSs_n, kSs_r, Ss_frz, frzR_nil, frzR_cons, frz1_own, frz1_d, S_set, kSet_pd, kSet_pn, kSet_pl, kSet_pb, kSet_o, kSet_c, S_unp, kUnp_a, unpR_s, setT_2, setT_3, S_exp, kExp_a, S_ret, kRet_d, kRet_n, kRet_l, S_rtv, rtvR_o, S_ite, kIf_a, kIf2_a, selS_t, selS_f, chgR_o, chgR_l, ownR_s, locR_s, appF_l, extF_l, subF_l, mutR_o, mutR_l, S_sub, kSub_a, subM_t, kSub2_a, subR_s, S_app, appM_t, kApp_a, appR_s, stepF_a, setR_s, setT_nm, S_for, kFor_a, F_of, kItF_dl, kItF_dt, kItF_ds, kItF_n, kItF_b, I_of, kItI_dl, kItI_dt, kItI_ds, kItI_n, kItI_b, kItI_l, I_rng, F_rng, kRng_a, I_rng2, F_rng2, kRg2_a, kRg3_a, sem_lc, kLc_a, kLc2_a, stepC_nm, wipeR_n, wipeR_c, kCs_a, selC_t, selC_f, kElt_d, kElt_n, Cs_nil, Cs_cons, kC1_a, kC2_a, csS_t, csS_f, csS_n, lv_d, lv_n, lv_x, Res.bind_ok, Res.ofO_some, Res.nox_ok, Option.bind_some, Option.map_some, List.getElem?_cons_zero, List.getElem?_cons_succ, List.set_cons_zero, List.set_cons_succ, Wp_ok, Wp_bind, Wp_nox, tupK, pyAll_nil, l2, if_true]
  generalize hd : PyData.tuple [seat, nb] = dot
  have hdot : BB 3 dot := by subst hd; exact bb_2 (bd_mono hseat (by decide)) hnb
  simp -implicitDefEqProofs only [sem_var, varR_d, varR_own, varR_bor, varR_loc, sem_con, sem_glo, rdk1_s, rdk2_s, rd_d, rd_new, rd_bor, rd_lent, rd_loc, dat_lst, py_d, py_new, arg_d, arg_new, arg_bor, arg_lent, arg_loc, argAll_nil, sems_nil, sems_cons, kEs_a, kPut_a, sem_bin, kBin_a, kBin2_a, sem_neg, kNeg_a, negK_i, truR_b, truR_i, truR_l, truR_t, truR_n, sem_nt, kNot_a, kNot2_a, sem_an, sem_oo, kAn_a, kOo_a, anS_t, anS_f, ooS_t, ooS_f, sem_cmp, kCmp_a, kCmp2_a, cmpK_lt, cmpK_le, cmpK_gt, cmpK_ge, sem_chn, kChn_a, kChn2_a, kChn3_a, chS_t, chS_f, sem_ite, kIte_a, kIte2_a, selE_t, selE_f, sem_tup, sem_lst, kTup_a, kLst_a, pyAll_nil, pyAll_cons, sem_idx, kIdx_a, kIdx2_a, idxK_l, idxK_t, sem_slc, kSlc_a, kSlc2_a, kSlc3_a, slK_l, slK_t, kPart_n, kPart_i, sem_rev, kRev_a, revD_l, revD_t, sem_cal, kCal_a, calR_s, argAll_c, sem_bif, kBif_a, bifR_s, sem_mth, kMth_a, kMth2_a, mthR_s, idxK_s, rdAll_nil, rdAll_c, bif_len_l, bif_len_t, bif_tup_l, bif_tup_t, bif_lst_l, bif_lst_t, bif_len_s, bif_str_s, bif_repr, sem_isi, kIsi_a, add_ii, sub_ii, mul_ii, mul_ti, fdiv_ii, mod_ii, pow_ii, add_tt, add_ll, Ss_nil, Ss_cons, kSs_n, kSs_r, Ss_frz, frzR_nil, frzR_cons, frz1_own, frz1_d, S_set, kSet_pd, kSet_pn, kSet_pl, kSet_pb, kSet_o, kSet_c, S_unp, kUnp_a, unpR_s, setT_2, setT_3, S_exp, kExp_a, S_ret, kRet_d, kRet_n, kRet_l, S_rtv, rtvR_o, S_ite, kIf_a, kIf2_a, selS_t, selS_f, chgR_o, chgR_l, ownR_s, locR_s, appF_l, extF_l, subF_l, mutR_o, mutR_l, S_sub, kSub_a, subM_t, kSub2_a, subR_s, S_app, appM_t, kApp_a, appR_s, stepF_a, setR_s, setT_nm, S_for, kFor_a, F_of, kItF_dl, kItF_dt, kItF_ds, kItF_n, kItF_b, I_of, kItI_dl, kItI_dt, kItI_ds, kItI_n, kItI_b, kItI_l, I_rng, F_rng, kRng_a, I_rng2, F_rng2, kRg2_a, kRg3_a, sem_lc, kLc_a, kLc2_a, stepC_nm, wipeR_n, wipeR_c, kCs_a, selC_t, selC_f, kElt_d, kElt_n, Cs_nil, Cs_cons, kC1_a, kC2_a, csS_t, csS_f, csS_n, lv_d, lv_n, lv_x, Res.bind_ok, Res.ofO_some, Res.nox_ok, Option.bind_some, Option.map_some, List.getElem?_cons_zero, List.getElem?_cons_succ, List.set_cons_zero, List.set_cons_succ, Wp_ok, Wp_bind, Wp_nox, tupK, lstK, pyAll_nil, k0, l2, k6, if_true]
  refine H.wp hc (by decide) (by decide) fun r c h0 h1 hc => ?_
  simp -implicitDefEqProofs only [sem_var, varR_d, varR_own, varR_bor, varR_loc, sem_con, sem_glo, rdk1_s, rdk2_s, rd_d, rd_new, rd_bor, rd_lent, rd_loc, dat_lst, py_d, py_new, arg_d, arg_new, arg_bor, arg_lent, arg_loc, argAll_nil, sems_nil, sems_cons, kEs_a, kPut_a, sem_bin, kBin_a, kBin2_a, sem_neg, kNeg_a, negK_i, truR_b, truR_i, truR_l, truR_t, truR_n, sem_nt, kNot_a, kNot2_a, sem_an, sem_oo, kAn_a, kOo_a, anS_t, anS_f, ooS_t, ooS_f, sem_cmp, kCmp_a, kCmp2_a, cmpK_lt, cmpK_le, cmpK_gt, cmpK_ge, sem_chn, kChn_a, kChn2_a, kChn3_a, chS_t, chS_f, sem_ite, kIte_a, kIte2_a, selE_t, selE_f, sem_tup, sem_lst, kTup_a, kLst_a, pyAll_nil, pyAll_cons, sem_idx, kIdx_a, kIdx2_a, idxK_l, idxK_t, sem_slc, kSlc_a, kSlc2_a, kSlc3_a, slK_l, slK_t, kPart_n, kPart_i, sem_rev, kRev_a, revD_l, revD_t, sem_cal, kCal_a, calR_s, argAll_c, sem_bif, kBif_a, bifR_s, sem_mth, kMth_a, kMth2_a, mthR_s, idxK_s, rdAll_nil, rdAll_c, bif_len_l, bif_len_t, bif_tup_l, bif_tup_t, bif_lst_l, bif_lst_t, bif_len_s, bif_str_s, bif_repr, sem_isi, kIsi_a, add_ii, sub_ii, mul_ii, mul_ti, fdiv_ii, mod_ii, pow_ii, add_tt, add_ll, Ss_nil, Ss_cons, kSs_n, kSs_r, Ss_frz, frzR_nil, frzR_cons, frz1_own, frz1_d, S_set, kSet_pd, kSet_pn, kSet_pl, kSet_pb, kSet_o, kSet_c, S_unp, kUnp_a, unpR_s, setT_2, setT_3, S_exp, kExp_a, S_ret, kRet_d, kRet_n, kRet_l, S_rtv, rtvR_o, S_ite, kIf_a, kIf2_a, selS_t, selS_f, chgR_o, chgR_l, ownR_s, locR_s, appF_l, extF_l, subF_l, mutR_o, mutR_l, S_sub, kSub_a, subM_t, kSub2_a, subR_s, S_app, appM_t, kApp_a, appR_s, stepF_a, setR_s, setT_nm, S_for, kFor_a, F_of, kItF_dl, kItF_dt, kItF_ds, kItF_n, kItF_b, I_of, kItI_dl, kItI_dt, kItI_ds, kItI_n, kItI_b, kItI_l, I_rng, F_rng, kRng_a, I_rng2, F_rng2, kRg2_a, kRg3_a, sem_lc, kLc_a, kLc2_a, stepC_nm, wipeR_n, wipeR_c, kCs_a, selC_t, selC_f, kElt_d, kElt_n, Cs_nil, Cs_cons, kC1_a, kC2_a, csS_t, csS_f, csS_n, lv_d, lv_n, lv_x, Res.bind_ok, Res.ofO_some, Res.nox_ok, Option.bind_some, Option.map_some, List.getElem?_cons_zero, List.getElem?_cons_succ, List.set_cons_zero, List.set_cons_succ, Wp_ok, Wp_bind, Wp_nox]
  refine wp_atP (BB 3) h0 h1 (fun y hy => ?_) fun within hwi => ?_
  · simp only [List.mem_cons, List.not_mem_nil, or_false] at hy
    rcases hy with rfl | rfl | rfl | rfl | rfl | rfl
    · exact bb_void
    · exact bb_void
    · exact hdot
    · exact bd_mono bd_none (Nat.zero_le _)
    · exact bb_void
    · exact bb_2 (bd_mono hseat (by decide)) (bb_int (by decide))
  simp -implicitDefEqProofs only [sem_var, varR_d, varR_own, varR_bor, varR_loc, sem_con, sem_glo, rdk1_s, rdk2_s, rd_d, rd_new, rd_bor, rd_lent, rd_loc, dat_lst, py_d, py_new, arg_d, arg_new, arg_bor, arg_lent, arg_loc, argAll_nil, sems_nil, sems_cons, kEs_a, kPut_a, sem_bin, kBin_a, kBin2_a, sem_neg, kNeg_a, negK_i, truR_b, truR_i, truR_l, truR_t, truR_n, sem_nt, kNot_a, kNot2_a, sem_an, sem_oo, kAn_a, kOo_a, anS_t, anS_f, ooS_t, ooS_f, sem_cmp, kCmp_a, kCmp2_a, cmpK_lt, cmpK_le, cmpK_gt, cmpK_ge, sem_chn, kChn_a, kChn2_a, kChn3_a, chS_t, chS_f, sem_ite, kIte_a, kIte2_a, selE_t, selE_f, sem_tup, sem_lst, kTup_a, kLst_a, pyAll_nil, pyAll_cons, sem_idx, kIdx_a, kIdx2_a, idxK_l, idxK_t, sem_slc, kSlc_a, kSlc2_a, kSlc3_a, slK_l, slK_t, kPart_n, kPart_i, sem_rev, kRev_a, revD_l, revD_t, sem_cal, kCal_a, calR_s, argAll_c, sem_bif, kBif_a, bifR_s, sem_mth, kMth_a, kMth2_a, mthR_s, idxK_s, rdAll_nil, rdAll_c, bif_len_l, bif_len_t, bif_tup_l, bif_tup_t, bif_lst_l, bif_lst_t, bif_len_s, bif_str_s, bif_repr, sem_isi, kIsi_a, add_ii, sub_ii, mul_ii, mul_ti, fdiv_ii, mod_ii, pow_ii, add_tt, add_ll, Ss_nil, Ss_cons, kSs_n, kSs_r, Ss_frz, frzR_nil, frzR_cons, frz1_own, frz1_d, S_set, kSet_pd, kSet_pn, kSet_pl, kSet_pb, kSet_o, kSet_c, S_unp, kUnp_a, unpR_s, setT_2, setT_3, S_exp, kExp_a, S_ret, kRet_d, kRet_n, kRet_l, S_rtv, rtvR_o, S_ite, kIf_a, kIf2_a, selS_t, selS_f, chgR_o, chgR_l, ownR_s, locR_s, appF_l, extF_l, subF_l, mutR_o, mutR_l, S_sub, kSub_a, subM_t, kSub2_a, subR_s, S_app, appM_t, kApp_a, appR_s, stepF_a, setR_s, setT_nm, S_for, kFor_a, F_of, kItF_dl, kItF_dt, kItF_ds, kItF_n, kItF_b, I_of, kItI_dl, kItI_dt, kItI_ds, kItI_n, kItI_b, kItI_l, I_rng, F_rng, kRng_a, I_rng2, F_rng2, kRg2_a, kRg3_a, sem_lc, kLc_a, kLc2_a, stepC_nm, wipeR_n, wipeR_c, kCs_a, selC_t, selC_f, kElt_d, kElt_n, Cs_nil, Cs_cons, kC1_a, kC2_a, csS_t, csS_f, csS_n, lv_d, lv_n, lv_x, Res.bind_ok, Res.ofO_some, Res.nox_ok, Option.bind_some, Option.map_some, List.getElem?_cons_zero, List.getElem?_cons_succ, List.set_cons_zero, List.set_cons_succ, Wp_ok, Wp_bind, Wp_nox]
  refine H.wp hc (by decide) (by decide) fun r c h0 h1 hc => ?_
  have hr : rngOk (1 + r) = true := rngOk_s (by omega) (by omega)
  simp -implicitDefEqProofs only [sem_var, varR_d, varR_own, varR_bor, varR_loc, sem_con, sem_glo, rdk1_s, rdk2_s, rd_d, rd_new, rd_bor, rd_lent, rd_loc, dat_lst, py_d, py_new, arg_d, arg_new, arg_bor, arg_lent, arg_loc, argAll_nil, sems_nil, sems_cons, kEs_a, kPut_a, sem_bin, kBin_a, kBin2_a, sem_neg, kNeg_a, negK_i, truR_b, truR_i, truR_l, truR_t, truR_n, sem_nt, kNot_a, kNot2_a, sem_an, sem_oo, kAn_a, kOo_a, anS_t, anS_f, ooS_t, ooS_f, sem_cmp, kCmp_a, kCmp2_a, cmpK_lt, cmpK_le, cmpK_gt, cmpK_ge, sem_chn, kChn_a, kChn2_a, kChn3_a, chS_t, chS_f, sem_ite, kIte_a, kIte2_a, selE_t, selE_f, sem_tup, sem_lst, kTup_a, kLst_a, pyAll_nil, pyAll_cons, sem_idx, kIdx_a, kIdx2_a, idxK_l, idxK_t, sem_slc, kSlc_a, kSlc2_a, kSlc3_a, slK_l, slK_t, kPart_n, kPart_i, sem_rev, kRev_a, revD_l, revD_t, sem_cal, kCal_a, calR_s, argAll_c, sem_bif, kBif_a, bifR_s, sem_mth, kMth_a, kMth2_a, mthR_s, idxK_s, rdAll_nil, rdAll_c, bif_len_l, bif_len_t, bif_tup_l, bif_tup_t, bif_lst_l, bif_lst_t, bif_len_s, bif_str_s, bif_repr, sem_isi, kIsi_a, add_ii, sub_ii, mul_ii, mul_ti, fdiv_ii, mod_ii, pow_ii, add_tt, add_ll, Ss_nil, Ss_cons, kSs_n, kSs_r, Ss_frz, frzR_nil, frzR_cons, frz1_own, frz1_d, S_set, kSet_pd, kSet_pn, kSet_pl, kSet_pb, kSet_o, kSet_c, S_unp, kUnp_a, unpR_s, setT_2, setT_3, S_exp, kExp_a, S_ret, kRet_d, kRet_n, kRet_l, S_rtv, rtvR_o, S_ite, kIf_a, kIf2_a, selS_t, selS_f, chgR_o, chgR_l, ownR_s, locR_s, appF_l, extF_l, subF_l, mutR_o, mutR_l, S_sub, kSub_a, subM_t, kSub2_a, subR_s, S_app, appM_t, kApp_a, appR_s, stepF_a, setR_s, setT_nm, S_for, kFor_a, F_of, kItF_dl, kItF_dt, kItF_ds, kItF_n, kItF_b, I_of, kItI_dl, kItI_dt, kItI_ds, kItI_n, kItI_b, kItI_l, I_rng, F_rng, kRng_a, I_rng2, F_rng2, kRg2_a, kRg3_a, sem_lc, kLc_a, kLc2_a, stepC_nm, wipeR_n, wipeR_c, kCs_a, selC_t, selC_f, kElt_d, kElt_n, Cs_nil, Cs_cons, kC1_a, kC2_a, csS_t, csS_f, csS_n, lv_d, lv_n, lv_x, Res.bind_ok, Res.ofO_some, Res.nox_ok, Option.bind_some, Option.map_some, List.getElem?_cons_zero, List.getElem?_cons_succ, List.set_cons_zero, List.set_cons_succ, Wp_ok, Wp_bind, Wp_nox, hr, if_true]
  refine wp_compL (fun st => ∃ c, st = [c] ∧ FeedOk c) Ltr ⟨c, rfl, hc⟩ (fun y hy st hst => ?_) fun ys st hst hl hys => ?_
  · obtain ⟨c, rfl, hc⟩ := hst
    simp -implicitDefEqProofs only [sem_var, varR_d, varR_own, varR_bor, varR_loc, sem_con, sem_glo, rdk1_s, rdk2_s, rd_d, rd_new, rd_bor, rd_lent, rd_loc, dat_lst, py_d, py_new, arg_d, arg_new, arg_bor, arg_lent, arg_loc, argAll_nil, sems_nil, sems_cons, kEs_a, kPut_a, sem_bin, kBin_a, kBin2_a, sem_neg, kNeg_a, negK_i, truR_b, truR_i, truR_l, truR_t, truR_n, sem_nt, kNot_a, kNot2_a, sem_an, sem_oo, kAn_a, kOo_a, anS_t, anS_f, ooS_t, ooS_f, sem_cmp, kCmp_a, kCmp2_a, cmpK_lt, cmpK_le, cmpK_gt, cmpK_ge, sem_chn, kChn_a, kChn2_a, kChn3_a, chS_t, chS_f, sem_ite, kIte_a, kIte2_a, selE_t, selE_f, sem_tup, sem_lst, kTup_a, kLst_a, pyAll_nil, pyAll_cons, sem_idx, kIdx_a, kIdx2_a, idxK_l, idxK_t, sem_slc, kSlc_a, kSlc2_a, kSlc3_a, slK_l, slK_t, kPart_n, kPart_i, sem_rev, kRev_a, revD_l, revD_t, sem_cal, kCal_a, calR_s, argAll_c, sem_bif, kBif_a, bifR_s, sem_mth, kMth_a, kMth2_a, mthR_s, idxK_s, rdAll_nil, rdAll_c, bif_len_l, bif_len_t, bif_tup_l, bif_tup_t, bif_lst_l, bif_lst_t, bif_len_s, bif_str_s, bif_repr, sem_isi, kIsi_a, add_ii, sub_ii, mul_ii, mul_ti, fdiv_ii, mod_ii, pow_ii, add_tt, add_ll, Ss_nil, Ss_cons, kSs_n, kSs_r, Ss_frz, frzR_nil, frzR_cons, frz1_own, frz1_d, S_set, kSet_pd, kSet_pn, kSet_pl, kSet_pb, kSet_o, kSet_c, S_unp, kUnp_a, unpR_s, setT_2, setT_3, S_exp, kExp_a, S_ret, kRet_d, kRet_n, kRet_l, S_rtv, rtvR_o, S_ite, kIf_a, kIf2_a, selS_t, selS_f, chgR_o, chgR_l, ownR_s, locR_s, appF_l, extF_l, subF_l, mutR_o, mutR_l, S_sub, kSub_a, subM_t, kSub2_a, subR_s, S_app, appM_t, kApp_a, appR_s, stepF_a, setR_s, setT_nm, S_for, kFor_a, F_of, kItF_dl, kItF_dt, kItF_ds, kItF_n, kItF_b, I_of, kItI_dl, kItI_dt, kItI_ds, kItI_n, kItI_b, kItI_l, I_rng, F_rng, kRng_a, I_rng2, F_rng2, kRg2_a, kRg3_a, sem_lc, kLc_a, kLc2_a, stepC_nm, wipeR_n, wipeR_c, kCs_a, selC_t, selC_f, kElt_d, kElt_n, Cs_nil, Cs_cons, kC1_a, kC2_a, csS_t, csS_f, csS_n, lv_d, lv_n, lv_x, Res.bind_ok, Res.ofO_some, Res.nox_ok, Option.bind_some, Option.map_some, List.getElem?_cons_zero, List.getElem?_cons_succ, List.set_cons_zero, List.set_cons_succ, Wp_ok, Wp_bind, Wp_nox]
    refine H.wp hc (by decide) (by decide) fun r c h0 h1 hc => ?_
    obtain ⟨d, e, hL⟩ := let_ltr h0 h1
    have e' : atI ("abcdefghijklmnopqrstuvwxyz" : Str).cps.toList r = some d := e
    have s26 : (("abcdefghijklmnopqrstuvwxyz" : Str).length ≤ lineN) = True := str26
    simp -implicitDefEqProofs only [sem_var, varR_d, varR_own, varR_bor, varR_loc, sem_con, sem_glo, rdk1_s, rdk2_s, rd_d, rd_new, rd_bor, rd_lent, rd_loc, dat_lst, py_d, py_new, arg_d, arg_new, arg_bor, arg_lent, arg_loc, argAll_nil, sems_nil, sems_cons, kEs_a, kPut_a, sem_bin, kBin_a, kBin2_a, sem_neg, kNeg_a, negK_i, truR_b, truR_i, truR_l, truR_t, truR_n, sem_nt, kNot_a, kNot2_a, sem_an, sem_oo, kAn_a, kOo_a, anS_t, anS_f, ooS_t, ooS_f, sem_cmp, kCmp_a, kCmp2_a, cmpK_lt, cmpK_le, cmpK_gt, cmpK_ge, sem_chn, kChn_a, kChn2_a, kChn3_a, chS_t, chS_f, sem_ite, kIte_a, kIte2_a, selE_t, selE_f, sem_tup, sem_lst, kTup_a, kLst_a, pyAll_nil, pyAll_cons, sem_idx, kIdx_a, kIdx2_a, idxK_l, idxK_t, sem_slc, kSlc_a, kSlc2_a, kSlc3_a, slK_l, slK_t, kPart_n, kPart_i, sem_rev, kRev_a, revD_l, revD_t, sem_cal, kCal_a, calR_s, argAll_c, sem_bif, kBif_a, bifR_s, sem_mth, kMth_a, kMth2_a, mthR_s, idxK_s, rdAll_nil, rdAll_c, bif_len_l, bif_len_t, bif_tup_l, bif_tup_t, bif_lst_l, bif_lst_t, bif_len_s, bif_str_s, bif_repr, sem_isi, kIsi_a, add_ii, sub_ii, mul_ii, mul_ti, fdiv_ii, mod_ii, pow_ii, add_tt, add_ll, Ss_nil, Ss_cons, kSs_n, kSs_r, Ss_frz, frzR_nil, frzR_cons, frz1_own, frz1_d, S_set, kSet_pd, kSet_pn, kSet_pl, kSet_pb, kSet_o, kSet_c, S_unp, kUnp_a, unpR_s, setT_2, setT_3, S_exp, kExp_a, S_ret, kRet_d, kRet_n, kRet_l, S_rtv, rtvR_o, S_ite, kIf_a, kIf2_a, selS_t, selS_f, chgR_o, chgR_l, ownR_s, locR_s, appF_l, extF_l, subF_l, mutR_o, mutR_l, S_sub, kSub_a, subM_t, kSub2_a, subR_s, S_app, appM_t, kApp_a, appR_s, stepF_a, setR_s, setT_nm, S_for, kFor_a, F_of, kItF_dl, kItF_dt, kItF_ds, kItF_n, kItF_b, I_of, kItI_dl, kItI_dt, kItI_ds, kItI_n, kItI_b, kItI_l, I_rng, F_rng, kRng_a, I_rng2, F_rng2, kRg2_a, kRg3_a, sem_lc, kLc_a, kLc2_a, stepC_nm, wipeR_n, wipeR_c, kCs_a, selC_t, selC_f, kElt_d, kElt_n, Cs_nil, Cs_cons, kC1_a, kC2_a, csS_t, csS_f, csS_n, lv_d, lv_n, lv_x, Res.bind_ok, Res.ofO_some, Res.nox_ok, Option.bind_some, Option.map_some, List.getElem?_cons_zero, List.getElem?_cons_succ, List.set_cons_zero, List.set_cons_succ, Wp_ok, Wp_bind, Wp_nox, e', s26, if_true]
    exact ⟨⟨c, rfl, hc⟩, _, rfl, hL⟩
  obtain ⟨c, rfl, hc⟩ := hst
  rw [rng_len] at hl
  obtain ⟨nm, e, hn1, hn2⟩ := join_ltr hys (by omega)
  have hys2 : (ys.length ≤ lineN) = True := n_le (by omega)
  have hnm : BB 0 (.str nm) := ⟨by simp only [bdB, Bool.and_eq_true, decide_eq_true_eq]; exact ⟨hn1, by omega⟩, by simp [PyData.depth]⟩
  simp -implicitDefEqProofs only [sem_var, varR_d, varR_own, varR_bor, varR_loc, sem_con, sem_glo, rdk1_s, rdk2_s, rd_d, rd_new, rd_bor, rd_lent, rd_loc, dat_lst, py_d, py_new, arg_d, arg_new, arg_bor, arg_lent, arg_loc, argAll_nil, sems_nil, sems_cons, kEs_a, kPut_a, sem_bin, kBin_a, kBin2_a, sem_neg, kNeg_a, negK_i, truR_b, truR_i, truR_l, truR_t, truR_n, sem_nt, kNot_a, kNot2_a, sem_an, sem_oo, kAn_a, kOo_a, anS_t, anS_f, ooS_t, ooS_f, sem_cmp, kCmp_a, kCmp2_a, cmpK_lt, cmpK_le, cmpK_gt, cmpK_ge, sem_chn, kChn_a, kChn2_a, kChn3_a, chS_t, chS_f, sem_ite, kIte_a, kIte2_a, selE_t, selE_f, sem_tup, sem_lst, kTup_a, kLst_a, pyAll_nil, pyAll_cons, sem_idx, kIdx_a, kIdx2_a, idxK_l, idxK_t, sem_slc, kSlc_a, kSlc2_a, kSlc3_a, slK_l, slK_t, kPart_n, kPart_i, sem_rev, kRev_a, revD_l, revD_t, sem_cal, kCal_a, calR_s, argAll_c, sem_bif, kBif_a, bifR_s, sem_mth, kMth_a, kMth2_a, mthR_s, idxK_s, rdAll_nil, rdAll_c, bif_len_l, bif_len_t, bif_tup_l, bif_tup_t, bif_lst_l, bif_lst_t, bif_len_s, bif_str_s, bif_repr, sem_isi, kIsi_a, add_ii, sub_ii, mul_ii, mul_ti, fdiv_ii, mod_ii, pow_ii, add_tt, add_ll, Ss_nil, Ss_cons, kSs_n, kSs_r, Ss_frz, frzR_nil, frzR_cons, frz1_own, frz1_d, S_set, kSet_pd, kSet_pn, kSet_pl, kSet_pb, kSet_o, kSet_c, S_unp, kUnp_a, unpR_s, setT_2, setT_3, S_exp, kExp_a, S_ret, kRet_d, kRet_n, kRet_l, S_rtv, rtvR_o, S_ite, kIf_a, kIf2_a, selS_t, selS_f, chgR_o, chgR_l, ownR_s, locR_s, appF_l, extF_l, subF_l, mutR_o, mutR_l, S_sub, kSub_a, subM_t, kSub2_a, subR_s, S_app, appM_t, kApp_a, appR_s, stepF_a, setR_s, setT_nm, S_for, kFor_a, F_of, kItF_dl, kItF_dt, kItF_ds, kItF_n, kItF_b, I_of, kItI_dl, kItI_dt, kItI_ds, kItI_n, kItI_b, kItI_l, I_rng, F_rng, kRng_a, I_rng2, F_rng2, kRg2_a, kRg3_a, sem_lc, kLc_a, kLc2_a, stepC_nm, wipeR_n, wipeR_c, kCs_a, selC_t, selC_f, kElt_d, kElt_n, Cs_nil, Cs_cons, kC1_a, kC2_a, csS_t, csS_f, csS_n, lv_d, lv_n, lv_x, Res.bind_ok, Res.ofO_some, Res.nox_ok, Option.bind_some, Option.map_some, List.getElem?_cons_zero, List.getElem?_cons_succ, List.set_cons_zero, List.set_cons_succ, Wp_ok, Wp_bind, Wp_nox, hys2, if_true, e, lstK, pyAll_nil, k9]
  refine H.wp hc (by decide) (by decide) fun r c h0 h1 hc => ?_
  simp -implicitDefEqProofs only [sem_var, varR_d, varR_own, varR_bor, varR_loc, sem_con, sem_glo, rdk1_s, rdk2_s, rd_d, rd_new, rd_bor, rd_lent, rd_loc, dat_lst, py_d, py_new, arg_d, arg_new, arg_bor, arg_lent, arg_loc, argAll_nil, sems_nil, sems_cons, kEs_a, kPut_a, sem_bin, kBin_a, kBin2_a, sem_neg, kNeg_a, negK_i, truR_b, truR_i, truR_l, truR_t, truR_n, sem_nt, kNot_a, kNot2_a, sem_an, sem_oo, kAn_a, kOo_a, anS_t, anS_f, ooS_t, ooS_f, sem_cmp, kCmp_a, kCmp2_a, cmpK_lt, cmpK_le, cmpK_gt, cmpK_ge, sem_chn, kChn_a, kChn2_a, kChn3_a, chS_t, chS_f, sem_ite, kIte_a, kIte2_a, selE_t, selE_f, sem_tup, sem_lst, kTup_a, kLst_a, pyAll_nil, pyAll_cons, sem_idx, kIdx_a, kIdx2_a, idxK_l, idxK_t, sem_slc, kSlc_a, kSlc2_a, kSlc3_a, slK_l, slK_t, kPart_n, kPart_i, sem_rev, kRev_a, revD_l, revD_t, sem_cal, kCal_a, calR_s, argAll_c, sem_bif, kBif_a, bifR_s, sem_mth, kMth_a, kMth2_a, mthR_s, idxK_s, rdAll_nil, rdAll_c, bif_len_l, bif_len_t, bif_tup_l, bif_tup_t, bif_lst_l, bif_lst_t, bif_len_s, bif_str_s, bif_repr, sem_isi, kIsi_a, add_ii, sub_ii, mul_ii, mul_ti, fdiv_ii, mod_ii, pow_ii, add_tt, add_ll, Ss_nil, Ss_cons, kSs_n, kSs_r, Ss_frz, frzR_nil, frzR_cons, frz1_own, frz1_d, S_set, kSet_pd, kSet_pn, kSet_pl, kSet_pb, kSet_o, kSet_c, S_unp, kUnp_a, unpR_s, setT_2, setT_3, S_exp, kExp_a, S_ret, kRet_d, kRet_n, kRet_l, S_rtv, rtvR_o, S_ite, kIf_a, kIf2_a, selS_t, selS_f, chgR_o, chgR_l, ownR_s, locR_s, appF_l, extF_l, subF_l, mutR_o, mutR_l, S_sub, kSub_a, subM_t, kSub2_a, subR_s, S_app, appM_t, kApp_a, appR_s, stepF_a, setR_s, setT_nm, S_for, kFor_a, F_of, kItF_dl, kItF_dt, kItF_ds, kItF_n, kItF_b, I_of, kItI_dl, kItI_dt, kItI_ds, kItI_n, kItI_b, kItI_l, I_rng, F_rng, kRng_a, I_rng2, F_rng2, kRg2_a, kRg3_a, sem_lc, kLc_a, kLc2_a, stepC_nm, wipeR_n, wipeR_c, kCs_a, selC_t, selC_f, kElt_d, kElt_n, Cs_nil, Cs_cons, kC1_a, kC2_a, csS_t, csS_f, csS_n, lv_d, lv_n, lv_x, Res.bind_ok, Res.ofO_some, Res.nox_ok, Option.bind_some, Option.map_some, List.getElem?_cons_zero, List.getElem?_cons_succ, List.set_cons_zero, List.set_cons_succ, Wp_ok, Wp_bind, Wp_nox]
  refine wp_atP (BB 0) h0 h1 (fun y hy => ?_) fun name hname => ?_
  · simp only [List.mem_cons, List.not_mem_nil, or_false] at hy
    rcases hy with rfl | rfl | rfl | rfl | rfl | rfl | rfl | rfl | rfl
    · exact bb_str (by decide)
    · exact bb_str (by decide)
    · exact bb_str (by decide)
    · exact bb_str (by decide)
    · exact bb_str (by decide)
    · exact bb_str (by decide)
    · exact hnm
    · exact bb_str (by decide)
    · exact hnm
  simp -implicitDefEqProofs only [sem_var, varR_d, varR_own, varR_bor, varR_loc, sem_con, sem_glo, rdk1_s, rdk2_s, rd_d, rd_new, rd_bor, rd_lent, rd_loc, dat_lst, py_d, py_new, arg_d, arg_new, arg_bor, arg_lent, arg_loc, argAll_nil, sems_nil, sems_cons, kEs_a, kPut_a, sem_bin, kBin_a, kBin2_a, sem_neg, kNeg_a, negK_i, truR_b, truR_i, truR_l, truR_t, truR_n, sem_nt, kNot_a, kNot2_a, sem_an, sem_oo, kAn_a, kOo_a, anS_t, anS_f, ooS_t, ooS_f, sem_cmp, kCmp_a, kCmp2_a, cmpK_lt, cmpK_le, cmpK_gt, cmpK_ge, sem_chn, kChn_a, kChn2_a, kChn3_a, chS_t, chS_f, sem_ite, kIte_a, kIte2_a, selE_t, selE_f, sem_tup, sem_lst, kTup_a, kLst_a, pyAll_nil, pyAll_cons, sem_idx, kIdx_a, kIdx2_a, idxK_l, idxK_t, sem_slc, kSlc_a, kSlc2_a, kSlc3_a, slK_l, slK_t, kPart_n, kPart_i, sem_rev, kRev_a, revD_l, revD_t, sem_cal, kCal_a, calR_s, argAll_c, sem_bif, kBif_a, bifR_s, sem_mth, kMth_a, kMth2_a, mthR_s, idxK_s, rdAll_nil, rdAll_c, bif_len_l, bif_len_t, bif_tup_l, bif_tup_t, bif_lst_l, bif_lst_t, bif_len_s, bif_str_s, bif_repr, sem_isi, kIsi_a, add_ii, sub_ii, mul_ii, mul_ti, fdiv_ii, mod_ii, pow_ii, add_tt, add_ll, Ss_nil, Ss_cons, kSs_n, kSs_r, Ss_frz, frzR_nil, frzR_cons, frz1_own, frz1_d, S_set, kSet_pd, kSet_pn, kSet_pl, kSet_pb, kSet_o, kSet_c, S_unp, kUnp_a, unpR_s, setT_2, setT_3, S_exp, kExp_a, S_ret, kRet_d, kRet_n, kRet_l, S_rtv, rtvR_o, S_ite, kIf_a, kIf2_a, selS_t, selS_f, chgR_o, chgR_l, ownR_s, locR_s, appF_l, extF_l, subF_l, mutR_o, mutR_l, S_sub, kSub_a, subM_t, kSub2_a, subR_s, S_app, appM_t, kApp_a, appR_s, stepF_a, setR_s, setT_nm, S_for, kFor_a, F_of, kItF_dl, kItF_dt, kItF_ds, kItF_n, kItF_b, I_of, kItI_dl, kItI_dt, kItI_ds, kItI_n, kItI_b, kItI_l, I_rng, F_rng, kRng_a, I_rng2, F_rng2, kRg2_a, kRg3_a, sem_lc, kLc_a, kLc2_a, stepC_nm, wipeR_n, wipeR_c, kCs_a, selC_t, selC_f, kElt_d, kElt_n, Cs_nil, Cs_cons, kC1_a, kC2_a, csS_t, csS_f, csS_n, lv_d, lv_n, lv_x, Res.bind_ok, Res.ofO_some, Res.nox_ok, Option.bind_some, Option.map_some, List.getElem?_cons_zero, List.getElem?_cons_succ, List.set_cons_zero, List.set_cons_succ, Wp_ok, Wp_bind, Wp_nox, negK_i, lstK, pyAll_nil, k6, if_true]
  refine H.wp hc (by decide) (by decide) fun r c h0 h1 hc => ?_
  simp -implicitDefEqProofs only [sem_var, varR_d, varR_own, varR_bor, varR_loc, sem_con, sem_glo, rdk1_s, rdk2_s, rd_d, rd_new, rd_bor, rd_lent, rd_loc, dat_lst, py_d, py_new, arg_d, arg_new, arg_bor, arg_lent, arg_loc, argAll_nil, sems_nil, sems_cons, kEs_a, kPut_a, sem_bin, kBin_a, kBin2_a, sem_neg, kNeg_a, negK_i, truR_b, truR_i, truR_l, truR_t, truR_n, sem_nt, kNot_a, kNot2_a, sem_an, sem_oo, kAn_a, kOo_a, anS_t, anS_f, ooS_t, ooS_f, sem_cmp, kCmp_a, kCmp2_a, cmpK_lt, cmpK_le, cmpK_gt, cmpK_ge, sem_chn, kChn_a, kChn2_a, kChn3_a, chS_t, chS_f, sem_ite, kIte_a, kIte2_a, selE_t, selE_f, sem_tup, sem_lst, kTup_a, kLst_a, pyAll_nil, pyAll_cons, sem_idx, kIdx_a, kIdx2_a, idxK_l, idxK_t, sem_slc, kSlc_a, kSlc2_a, kSlc3_a, slK_l, slK_t, kPart_n, kPart_i, sem_rev, kRev_a, revD_l, revD_t, sem_cal, kCal_a, calR_s, argAll_c, sem_bif, kBif_a, bifR_s, sem_mth, kMth_a, kMth2_a, mthR_s, idxK_s, rdAll_nil, rdAll_c, bif_len_l, bif_len_t, bif_tup_l, bif_tup_t, bif_lst_l, bif_lst_t, bif_len_s, bif_str_s, bif_repr, sem_isi, kIsi_a, add_ii, sub_ii, mul_ii, mul_ti, fdiv_ii, mod_ii, pow_ii, add_tt, add_ll, Ss_nil, Ss_cons, kSs_n, kSs_r, Ss_frz, frzR_nil, frzR_cons, frz1_own, frz1_d, S_set, kSet_pd, kSet_pn, kSet_pl, kSet_pb, kSet_o, kSet_c, S_unp, kUnp_a, unpR_s, setT_2, setT_3, S_exp, kExp_a, S_ret, kRet_d, kRet_n, kRet_l, S_rtv, rtvR_o, S_ite, kIf_a, kIf2_a, selS_t, selS_f, chgR_o, chgR_l, ownR_s, locR_s, appF_l, extF_l, subF_l, mutR_o, mutR_l, S_sub, kSub_a, subM_t, kSub2_a, subR_s, S_app, appM_t, kApp_a, appR_s, stepF_a, setR_s, setT_nm, S_for, kFor_a, F_of, kItF_dl, kItF_dt, kItF_ds, kItF_n, kItF_b, I_of, kItI_dl, kItI_dt, kItI_ds, kItI_n, kItI_b, kItI_l, I_rng, F_rng, kRng_a, I_rng2, F_rng2, kRg2_a, kRg3_a, sem_lc, kLc_a, kLc2_a, stepC_nm, wipeR_n, wipeR_c, kCs_a, selC_t, selC_f, kElt_d, kElt_n, Cs_nil, Cs_cons, kC1_a, kC2_a, csS_t, csS_f, csS_n, lv_d, lv_n, lv_x, Res.bind_ok, Res.ofO_some, Res.nox_ok, Option.bind_some, Option.map_some, List.getElem?_cons_zero, List.getElem?_cons_succ, List.set_cons_zero, List.set_cons_succ, Wp_ok, Wp_bind, Wp_nox]
  refine wp_atP (BB 0) h0 h1 (fun y hy => ?_) fun value hval => ?_
  · simp only [List.mem_cons, List.not_mem_nil, or_false] at hy
    rcases hy with rfl | rfl | rfl | rfl | rfl | rfl <;> exact bb_int (by decide)
  simp -implicitDefEqProofs only [sem_var, varR_d, varR_own, varR_bor, varR_loc, sem_con, sem_glo, rdk1_s, rdk2_s, rd_d, rd_new, rd_bor, rd_lent, rd_loc, dat_lst, py_d, py_new, arg_d, arg_new, arg_bor, arg_lent, arg_loc, argAll_nil, sems_nil, sems_cons, kEs_a, kPut_a, sem_bin, kBin_a, kBin2_a, sem_neg, kNeg_a, negK_i, truR_b, truR_i, truR_l, truR_t, truR_n, sem_nt, kNot_a, kNot2_a, sem_an, sem_oo, kAn_a, kOo_a, anS_t, anS_f, ooS_t, ooS_f, sem_cmp, kCmp_a, kCmp2_a, cmpK_lt, cmpK_le, cmpK_gt, cmpK_ge, sem_chn, kChn_a, kChn2_a, kChn3_a, chS_t, chS_f, sem_ite, kIte_a, kIte2_a, selE_t, selE_f, sem_tup, sem_lst, kTup_a, kLst_a, pyAll_nil, pyAll_cons, sem_idx, kIdx_a, kIdx2_a, idxK_l, idxK_t, sem_slc, kSlc_a, kSlc2_a, kSlc3_a, slK_l, slK_t, kPart_n, kPart_i, sem_rev, kRev_a, revD_l, revD_t, sem_cal, kCal_a, calR_s, argAll_c, sem_bif, kBif_a, bifR_s, sem_mth, kMth_a, kMth2_a, mthR_s, idxK_s, rdAll_nil, rdAll_c, bif_len_l, bif_len_t, bif_tup_l, bif_tup_t, bif_lst_l, bif_lst_t, bif_len_s, bif_str_s, bif_repr, sem_isi, kIsi_a, add_ii, sub_ii, mul_ii, mul_ti, fdiv_ii, mod_ii, pow_ii, add_tt, add_ll, Ss_nil, Ss_cons, kSs_n, kSs_r, Ss_frz, frzR_nil, frzR_cons, frz1_own, frz1_d, S_set, kSet_pd, kSet_pn, kSet_pl, kSet_pb, kSet_o, kSet_c, S_unp, kUnp_a, unpR_s, setT_2, setT_3, S_exp, kExp_a, S_ret, kRet_d, kRet_n, kRet_l, S_rtv, rtvR_o, S_ite, kIf_a, kIf2_a, selS_t, selS_f, chgR_o, chgR_l, ownR_s, locR_s, appF_l, extF_l, subF_l, mutR_o, mutR_l, S_sub, kSub_a, subM_t, kSub2_a, subR_s, S_app, appM_t, kApp_a, appR_s, stepF_a, setR_s, setT_nm, S_for, kFor_a, F_of, kItF_dl, kItF_dt, kItF_ds, kItF_n, kItF_b, I_of, kItI_dl, kItI_dt, kItI_ds, kItI_n, kItI_b, kItI_l, I_rng, F_rng, kRng_a, I_rng2, F_rng2, kRg2_a, kRg3_a, sem_lc, kLc_a, kLc2_a, stepC_nm, wipeR_n, wipeR_c, kCs_a, selC_t, selC_f, kElt_d, kElt_n, Cs_nil, Cs_cons, kC1_a, kC2_a, csS_t, csS_f, csS_n, lv_d, lv_n, lv_x, Res.bind_ok, Res.ofO_some, Res.nox_ok, Option.bind_some, Option.map_some, List.getElem?_cons_zero, List.getElem?_cons_succ, List.set_cons_zero, List.set_cons_succ, Wp_ok, Wp_bind, Wp_nox, tupK, pyAll_nil, k3, if_true]
  generalize ht : PyData.tuple [within, name, value] = thing
  have hthing : BB 4 thing := by subst ht; exact bb_3 hwi (bd_mono hname (by decide)) (bd_mono hval (by decide))
  obtain ⟨b1, c, hc, hb1, e1⟩ := H.bent (10 ^ 40) 20 3 (Nat.pow_le_pow_right (by decide) (by decide)) (by decide) (by decide) c dot hc hdot
  obtain ⟨b2, c, hc, hb2, e2⟩ := H.bent (10 ^ 40) 20 4 (Nat.pow_le_pow_right (by decide) (by decide)) (by decide) (by decide) c thing hc hthing
  obtain ⟨b3, c', hc', hb3, e3⟩ := H.bent (10 ^ 40 + 101) (2 * 20 + 1) 6 (Nat.le_trans (show 10 ^ 40 + 101 ≤ 10 ^ 41 by decide) (Nat.pow_le_pow_right (by decide) (by decide))) (by decide) (by decide) c b2 hc hb2
  simp -implicitDefEqProofs only [sem_var, varR_d, varR_own, varR_bor, varR_loc, sem_con, sem_glo, rdk1_s, rdk2_s, rd_d, rd_new, rd_bor, rd_lent, rd_loc, dat_lst, py_d, py_new, arg_d, arg_new, arg_bor, arg_lent, arg_loc, argAll_nil, sems_nil, sems_cons, kEs_a, kPut_a, sem_bin, kBin_a, kBin2_a, sem_neg, kNeg_a, negK_i, truR_b, truR_i, truR_l, truR_t, truR_n, sem_nt, kNot_a, kNot2_a, sem_an, sem_oo, kAn_a, kOo_a, anS_t, anS_f, ooS_t, ooS_f, sem_cmp, kCmp_a, kCmp2_a, cmpK_lt, cmpK_le, cmpK_gt, cmpK_ge, sem_chn, kChn_a, kChn2_a, kChn3_a, chS_t, chS_f, sem_ite, kIte_a, kIte2_a, selE_t, selE_f, sem_tup, sem_lst, kTup_a, kLst_a, pyAll_nil, pyAll_cons, sem_idx, kIdx_a, kIdx2_a, idxK_l, idxK_t, sem_slc, kSlc_a, kSlc2_a, kSlc3_a, slK_l, slK_t, kPart_n, kPart_i, sem_rev, kRev_a, revD_l, revD_t, sem_cal, kCal_a, calR_s, argAll_c, sem_bif, kBif_a, bifR_s, sem_mth, kMth_a, kMth2_a, mthR_s, idxK_s, rdAll_nil, rdAll_c, bif_len_l, bif_len_t, bif_tup_l, bif_tup_t, bif_lst_l, bif_lst_t, bif_len_s, bif_str_s, bif_repr, sem_isi, kIsi_a, add_ii, sub_ii, mul_ii, mul_ti, fdiv_ii, mod_ii, pow_ii, add_tt, add_ll, Ss_nil, Ss_cons, kSs_n, kSs_r, Ss_frz, frzR_nil, frzR_cons, frz1_own, frz1_d, S_set, kSet_pd, kSet_pn, kSet_pl, kSet_pb, kSet_o, kSet_c, S_unp, kUnp_a, unpR_s, setT_2, setT_3, S_exp, kExp_a, S_ret, kRet_d, kRet_n, kRet_l, S_rtv, rtvR_o, S_ite, kIf_a, kIf2_a, selS_t, selS_f, chgR_o, chgR_l, ownR_s, locR_s, appF_l, extF_l, subF_l, mutR_o, mutR_l, S_sub, kSub_a, subM_t, kSub2_a, subR_s, S_app, appM_t, kApp_a, appR_s, stepF_a, setR_s, setT_nm, S_for, kFor_a, F_of, kItF_dl, kItF_dt, kItF_ds, kItF_n, kItF_b, I_of, kItI_dl, kItI_dt, kItI_ds, kItI_n, kItI_b, kItI_l, I_rng, F_rng, kRng_a, I_rng2, F_rng2, kRg2_a, kRg3_a, sem_lc, kLc_a, kLc2_a, stepC_nm, wipeR_n, wipeR_c, kCs_a, selC_t, selC_f, kElt_d, kElt_n, Cs_nil, Cs_cons, kC1_a, kC2_a, csS_t, csS_f, csS_n, lv_d, lv_n, lv_x, Res.bind_ok, Res.ofO_some, Res.nox_ok, Option.bind_some, Option.map_some, List.getElem?_cons_zero, List.getElem?_cons_succ, List.set_cons_zero, List.set_cons_succ, Wp_ok, Wp_bind, Wp_nox, e1, e2, lstK, pyAll_nil, k4, k1, if_true, atI_3, e3, k41]
  refine wp_forI (fun ρ st => ∃ y, st = [c'] ∧ ρ = [a0, some (.loc 0), some (.d x), some (.d seat), some (.d dot), some (.d within), some (.d (.str "abcdefghijklmnopqrstuvwxyz")), some (.d (.str nm)), some (.d name), some (.d thing), some (.d (.list [dot, b1, thing, b2])), y, x12]) ⟨_, rfl, rfl⟩ (fun z hz ρ st h => loopOne H ?_ h) fun ρ st h => ?_
  · have big : ∀ {B L D : Nat} {z : PyData}, Bd B L D z → B ≤ 10 ^ 49 → L ≤ 500 → D ≤ 15 → Bd (10 ^ 49) 500 15 z := fun h h1 h2 h3 => h.up h1 h2 h3
    have pp : ∀ a b : Nat, a ≤ 49 → b ≤ 1000 → 10 ^ 40 + b ≤ 10 ^ 49 := fun a b _ hb => Nat.le_trans (Nat.add_le_add_left hb _) (by decide)
    simp only [List.cons_append, List.nil_append, List.mem_cons, List.not_mem_nil, or_false] at hz
    rcases hz with rfl | rfl | rfl | rfl | rfl
    · exact big hdot (pp 0 0 (by decide) (by decide)) (by decide) (by decide)
    · exact big hb1 (pp 0 101 (by decide) (by decide)) (by decide) (by decide)
    · exact big hthing (pp 0 0 (by decide) (by decide)) (by decide) (by decide)
    · exact big hb2 (pp 0 101 (by decide) (by decide)) (by decide) (by decide)
    · exact big hb3 (by rw [Nat.add_assoc]; exact pp 0 202 (by decide) (by decide)) (by decide) (by decide)
  · obtain ⟨y, rfl, rfl⟩ := h
    simp -implicitDefEqProofs only [sem_var, varR_d, varR_own, varR_bor, varR_loc, sem_con, sem_glo, rdk1_s, rdk2_s, rd_d, rd_new, rd_bor, rd_lent, rd_loc, dat_lst, py_d, py_new, arg_d, arg_new, arg_bor, arg_lent, arg_loc, argAll_nil, sems_nil, sems_cons, kEs_a, kPut_a, sem_bin, kBin_a, kBin2_a, sem_neg, kNeg_a, negK_i, truR_b, truR_i, truR_l, truR_t, truR_n, sem_nt, kNot_a, kNot2_a, sem_an, sem_oo, kAn_a, kOo_a, anS_t, anS_f, ooS_t, ooS_f, sem_cmp, kCmp_a, kCmp2_a, cmpK_lt, cmpK_le, cmpK_gt, cmpK_ge, sem_chn, kChn_a, kChn2_a, kChn3_a, chS_t, chS_f, sem_ite, kIte_a, kIte2_a, selE_t, selE_f, sem_tup, sem_lst, kTup_a, kLst_a, pyAll_nil, pyAll_cons, sem_idx, kIdx_a, kIdx2_a, idxK_l, idxK_t, sem_slc, kSlc_a, kSlc2_a, kSlc3_a, slK_l, slK_t, kPart_n, kPart_i, sem_rev, kRev_a, revD_l, revD_t, sem_cal, kCal_a, calR_s, argAll_c, sem_bif, kBif_a, bifR_s, sem_mth, kMth_a, kMth2_a, mthR_s, idxK_s, rdAll_nil, rdAll_c, bif_len_l, bif_len_t, bif_tup_l, bif_tup_t, bif_lst_l, bif_lst_t, bif_len_s, bif_str_s, bif_repr, sem_isi, kIsi_a, add_ii, sub_ii, mul_ii, mul_ti, fdiv_ii, mod_ii, pow_ii, add_tt, add_ll, Ss_nil, Ss_cons, kSs_n, kSs_r, Ss_frz, frzR_nil, frzR_cons, frz1_own, frz1_d, S_set, kSet_pd, kSet_pn, kSet_pl, kSet_pb, kSet_o, kSet_c, S_unp, kUnp_a, unpR_s, setT_2, setT_3, S_exp, kExp_a, S_ret, kRet_d, kRet_n, kRet_l, S_rtv, rtvR_o, S_ite, kIf_a, kIf2_a, selS_t, selS_f, chgR_o, chgR_l, ownR_s, locR_s, appF_l, extF_l, subF_l, mutR_o, mutR_l, S_sub, kSub_a, subM_t, kSub2_a, subR_s, S_app, appM_t, kApp_a, appR_s, stepF_a, setR_s, setT_nm, S_for, kFor_a, F_of, kItF_dl, kItF_dt, kItF_ds, kItF_n, kItF_b, I_of, kItI_dl, kItI_dt, kItI_ds, kItI_n, kItI_b, kItI_l, I_rng, F_rng, kRng_a, I_rng2, F_rng2, kRg2_a, kRg3_a, sem_lc, kLc_a, kLc2_a, stepC_nm, wipeR_n, wipeR_c, kCs_a, selC_t, selC_f, kElt_d, kElt_n, Cs_nil, Cs_cons, kC1_a, kC2_a, csS_t, csS_f, csS_n, lv_d, lv_n, lv_x, Res.bind_ok, Res.ofO_some, Res.nox_ok, Option.bind_some, Option.map_some, List.getElem?_cons_zero, List.getElem?_cons_succ, List.set_cons_zero, List.set_cons_succ, Wp_ok, Wp_bind, Wp_nox]
    exact ⟨_, rfl, c', _, _, _, _, _, _, _, _, _, _, _, rfl, hc', rfl⟩
theorem law_true (ns : List Int) (h1 : ns.length ≤ 63) (h2 : ∀ z ∈ ns, Builtin.Int.intBits z ≤ 1048576) : ∃ st, phi fs 12 14 [.d (.list (ns.map PyData.int))] [] = .ok (.d (.bool true)) st := by
  suffices h : Wp (phi fs 12 14 [.d (.list (ns.map PyData.int))] []) fun w _ => w = .d (.bool true) by
    obtain ⟨w, st, e, rfl⟩ := h
    exact ⟨st, e⟩
  have H := lawH 1
  obtain ⟨c, hc, e0⟩ := H.feed ns 0
  have ok8 : rngOk 8 = true := rngOk_s (by decide) (by decide)
  rw [phi_at (f := f14) rfl ⟨rfl, by decide⟩]
  refine wp_leave (r := semSs (phi fs 11) f14.body [some (.d (.list (ns.map PyData.int))), none, none, none, none, none, none, none, none, none, none, none, none] []) ?_
  simp -implicitDefEqProofs only [sem_var, varR_d, varR_own, varR_bor, varR_loc, sem_con, sem_glo, rdk1_s, rdk2_s, rd_d, rd_new, rd_bor, rd_lent, rd_loc, dat_lst, py_d, py_new, arg_d, arg_new, arg_bor, arg_lent, arg_loc, argAll_nil, sems_nil, sems_cons, kEs_a, kPut_a, sem_bin, kBin_a, kBin2_a, sem_neg, kNeg_a, negK_i, truR_b, truR_i, truR_l, truR_t, truR_n, sem_nt, kNot_a, kNot2_a, sem_an, sem_oo, kAn_a, kOo_a, anS_t, anS_f, ooS_t, ooS_f, sem_cmp, kCmp_a, kCmp2_a, cmpK_lt, cmpK_le, cmpK_gt, cmpK_ge, sem_chn, kChn_a, kChn2_a, kChn3_a, chS_t, chS_f, sem_ite, kIte_a, kIte2_a, selE_t, selE_f, sem_tup, sem_lst, kTup_a, kLst_a, pyAll_nil, pyAll_cons, sem_idx, kIdx_a, kIdx2_a, idxK_l, idxK_t, sem_slc, kSlc_a, kSlc2_a, kSlc3_a, slK_l, slK_t, kPart_n, kPart_i, sem_rev, kRev_a, revD_l, revD_t, sem_cal, kCal_a, calR_s, argAll_c, sem_bif, kBif_a, bifR_s, sem_mth, kMth_a, kMth2_a, mthR_s, idxK_s, rdAll_nil, rdAll_c, bif_len_l, bif_len_t, bif_tup_l, bif_tup_t, bif_lst_l, bif_lst_t, bif_len_s, bif_str_s, bif_repr, sem_isi, kIsi_a, add_ii, sub_ii, mul_ii, mul_ti, fdiv_ii, mod_ii, pow_ii, add_tt, add_ll, Ss_nil, Ss_cons, kSs_n, kSs_r, Ss_frz, frzR_nil, frzR_cons, frz1_own, frz1_d, S_set, kSet_pd, kSet_pn, kSet_pl, kSet_pb, kSet_o, kSet_c, S_unp, kUnp_a, unpR_s, setT_2, setT_3, S_exp, kExp_a, S_ret, kRet_d, kRet_n, kRet_l, S_rtv, rtvR_o, S_ite, kIf_a, kIf2_a, selS_t, selS_f, chgR_o, chgR_l, ownR_s, locR_s, appF_l, extF_l, subF_l, mutR_o, mutR_l, S_sub, kSub_a, subM_t, kSub2_a, subR_s, S_app, appM_t, kApp_a, appR_s, stepF_a, setR_s, setT_nm, S_for, kFor_a, F_of, kItF_dl, kItF_dt, kItF_ds, kItF_n, kItF_b, I_of, kItI_dl, kItI_dt, kItI_ds, kItI_n, kItI_b, kItI_l, I_rng, F_rng, kRng_a, I_rng2, F_rng2, kRg2_a, kRg3_a, sem_lc, kLc_a, kLc2_a, stepC_nm, wipeR_n, wipeR_c, kCs_a, selC_t, selC_f, kElt_d, kElt_n, Cs_nil, Cs_cons, kC1_a, kC2_a, csS_t, csS_f, csS_n, lv_d, lv_n, lv_x, Res.bind_ok, Res.ofO_some, Res.nox_ok, Option.bind_some, Option.map_some, List.getElem?_cons_zero, List.getElem?_cons_succ, List.set_cons_zero, List.set_cons_succ, Wp_ok, Wp_bind, Wp_nox, f14, e0, List.nil_append, ok8, if_true]
  refine wp_forI (IL (some (.d (.list (ns.map PyData.int))))) ⟨c, _, _, _, _, _, _, _, _, _, _, _, rfl, hc, rfl⟩ (fun x _ ρ st h => turn_ok H x ρ st h) fun ρ st h => ?_
  obtain ⟨c, x2, x3, x4, x5, x6, x7, x8, x9, x10, x11, x12, rfl, hc, rfl⟩ := h
  simp -implicitDefEqProofs only [sem_var, varR_d, varR_own, varR_bor, varR_loc, sem_con, sem_glo, rdk1_s, rdk2_s, rd_d, rd_new, rd_bor, rd_lent, rd_loc, dat_lst, py_d, py_new, arg_d, arg_new, arg_bor, arg_lent, arg_loc, argAll_nil, sems_nil, sems_cons, kEs_a, kPut_a, sem_bin, kBin_a, kBin2_a, sem_neg, kNeg_a, negK_i, truR_b, truR_i, truR_l, truR_t, truR_n, sem_nt, kNot_a, kNot2_a, sem_an, sem_oo, kAn_a, kOo_a, anS_t, anS_f, ooS_t, ooS_f, sem_cmp, kCmp_a, kCmp2_a, cmpK_lt, cmpK_le, cmpK_gt, cmpK_ge, sem_chn, kChn_a, kChn2_a, kChn3_a, chS_t, chS_f, sem_ite, kIte_a, kIte2_a, selE_t, selE_f, sem_tup, sem_lst, kTup_a, kLst_a, pyAll_nil, pyAll_cons, sem_idx, kIdx_a, kIdx2_a, idxK_l, idxK_t, sem_slc, kSlc_a, kSlc2_a, kSlc3_a, slK_l, slK_t, kPart_n, kPart_i, sem_rev, kRev_a, revD_l, revD_t, sem_cal, kCal_a, calR_s, argAll_c, sem_bif, kBif_a, bifR_s, sem_mth, kMth_a, kMth2_a, mthR_s, idxK_s, rdAll_nil, rdAll_c, bif_len_l, bif_len_t, bif_tup_l, bif_tup_t, bif_lst_l, bif_lst_t, bif_len_s, bif_str_s, bif_repr, sem_isi, kIsi_a, add_ii, sub_ii, mul_ii, mul_ti, fdiv_ii, mod_ii, pow_ii, add_tt, add_ll, Ss_nil, Ss_cons, kSs_n, kSs_r, Ss_frz, frzR_nil, frzR_cons, frz1_own, frz1_d, S_set, kSet_pd, kSet_pn, kSet_pl, kSet_pb, kSet_o, kSet_c, S_unp, kUnp_a, unpR_s, setT_2, setT_3, S_exp, kExp_a, S_ret, kRet_d, kRet_n, kRet_l, S_rtv, rtvR_o, S_ite, kIf_a, kIf2_a, selS_t, selS_f, chgR_o, chgR_l, ownR_s, locR_s, appF_l, extF_l, subF_l, mutR_o, mutR_l, S_sub, kSub_a, subM_t, kSub2_a, subR_s, S_app, appM_t, kApp_a, appR_s, stepF_a, setR_s, setT_nm, S_for, kFor_a, F_of, kItF_dl, kItF_dt, kItF_ds, kItF_n, kItF_b, I_of, kItI_dl, kItI_dt, kItI_ds, kItI_n, kItI_b, kItI_l, I_rng, F_rng, kRng_a, I_rng2, F_rng2, kRg2_a, kRg3_a, sem_lc, kLc_a, kLc2_a, stepC_nm, wipeR_n, wipeR_c, kCs_a, selC_t, selC_f, kElt_d, kElt_n, Cs_nil, Cs_cons, kC1_a, kC2_a, csS_t, csS_f, csS_n, lv_d, lv_n, lv_x, Res.bind_ok, Res.ofO_some, Res.nox_ok, Option.bind_some, Option.map_some, List.getElem?_cons_zero, List.getElem?_cons_succ, List.set_cons_zero, List.set_cons_succ, Wp_ok, Wp_bind, Wp_nox]
abbrev R : PySem.W.OpenRow := PySem.W.OpenLaw.row PySem.Challenge.rw_gonemarks_k02_dots_and_things_by_kind
abbrev hk : PySem.W.Hook := hookM 4 fa fn co
def ob (s : PySem.W.SharedT) : He.AlD := obsM 4 fa fn co (HandSHeadRun.getT s)
theorem ob_eq (s : PySem.W.SharedT) : ob s = hk.obs s.abs := obsM_eq (HandSHeadRun.getT_eq s)
theorem run (w : World) : HandSHeadRun.RunEq R (PySem.W.view R.prog [22]) hk ob 2000 ["MOST_ROOT", "MOST_CHILD", "MOST_DEEP", "MOST_NAME", "MOST_VALUE", "LETTERS", "is_whole", "is_up_to", "is_seat", "is_dot", "is_name", "is_thing", "_law_feed", "_law_take", "_law_odd", "_law_bent", "_law_whole", "_law_is_seat", "_law_is_dot", "_law_is_thing"] w := by
  intro os
  kernel_rfl
end Lk02
open PySem PySem.W PySem.Calls PyProof.Rows
theorem PySem.Challenge.cw_gonemarks_k02_dots_and_things_by_kind_holds : PySem.Challenge.rw_gonemarks_k02_dots_and_things_by_kind.Holds := by
  w_on; o_law
  refine HandSHeadRun.head_any (r := OpenLaw.row PySem.Challenge.rw_gonemarks_k02_dots_and_things_by_kind) (q := view (OpenLaw.row PySem.Challenge.rw_gonemarks_k02_dots_and_things_by_kind).prog [22]) (H := Lk02.hk) (ob := Lk02.ob) (M := 2000) (loose := ["MOST_ROOT", "MOST_CHILD", "MOST_DEEP", "MOST_NAME", "MOST_VALUE", "LETTERS", "is_whole", "is_up_to", "is_seat", "is_dot", "is_name", "is_thing", "_law_feed", "_law_take", "_law_odd", "_law_bent", "_law_whole", "_law_is_seat", "_law_is_dot", "_law_is_thing"]) (d := HandSHeadRun.topDef (OpenLaw.row PySem.Challenge.rw_gonemarks_k02_dots_and_things_by_kind).prog 22) (kwd := []) Lk02.ob_eq
    (by kernel_rfl) (fun s => by kernel_rfl) Lk02.run (by kernel_rfl) (by kernel_rfl) (by kernel_rfl) (by rfl) (by first | assumption | decide +kernel) (by decide +kernel) ⟨rfl, rfl, rfl, rfl, rfl, by decide +kernel⟩ ?hw ?hc
  case hw => w_witness2
  case hc =>
    exact Gm.walk_ofG (l := PySem.Challenge.rw_gonemarks_k02_dots_and_things_by_kind) (n := 63) (k := 12) (T := Lk02.T) (fs := Lk02.fs) (g := 14) rfl (by decide) (by kernel_rfl) ⟨rfl, by decide, by decide⟩ (by decide +kernel) (fun K mg h X G c => Lk02.modOk X G c) Lk02.law_true
