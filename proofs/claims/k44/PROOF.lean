import PyProof.Rows.All
import PySem.Challenge.RW_gonemarks_k44_lines_that_are_none
import Wide.All
import OpenK.AllK
import Wide.FinOn
import HandS.ForMost
import HandS.Exc
import HandS.ExcInit
import HandS.IsInst
import HandS.Iter
import HandS.TupAny
import HandS.TupMul
import HandS.TupLe
import HandS.Deep
import HandS.Style
import HandS.Flow
import HandS.RaiseMore
import HandS.RevTup
import HandS.HeadEnd
import HandS.HeadHook2
import HandS.EndBits
import KE.SortData
import KE.KDictKeyed
import KE.KDictPairs
import KE.DataCmp
import KE.KSortedL
import HandS.TupLen
import KE.KDictCopyH
import KE.KDictSum
import HandS.TupSets
import HandS.SetFor
import HandS.ExcField
import KE.KExcIs
import HandS.Zip
import KE.GoesEnum
import HandS.TryOnly
import HandS.Defaults
import HandS.HeadWalk
import HandS.ExcIs
import KE.KStateDown
import HandS.Head0
import HandS.Head1
import HandS.Head2
set_option Elab.async false
set_option linter.all false
set_option maxRecDepth 100000
set_option maxHeartbeats 0
/-! The deep layer, part A: the IR and its functional semantics. -/
namespace Gm
open PySem PySem.Spec PyProof.Rows L2

/-- what a mutable object holds -/
inductive C where
  | lst (xs : List PyData) | dct (kvs : List (PyData × PyData))
/-- values: pure data; a new object that nobody else has; one that another frame owns, to be read; one that this frame owns (in a slot); the same, read; a cell of the store; a def of the module, by its name -/
inductive W where
  | d (x : PyData) | new (c : C) | bor (c : C) | own (c : C) | lent (c : C) | loc (n : Nat) | fn (n : Str)
abbrev Stt := List C
abbrev Rho := List (Option W)
/-- an exception: its class by the module's name, its fields -/
structure XV where
  cls : Str
  fs : List (Str × PyData)
inductive Res (α : Type) where
  | ok (a : α) (s : Stt) | ex (x : XV) (s : Stt) | bad
def Res.bind {α β : Type} : Res α → (α → Stt → Res β) → Res β
  | .ok a s, f => f a s
  | .ex x s, _ => .ex x s
  | .bad, _ => .bad
@[simp] theorem Res.bind_ok {α β : Type} (a : α) (s : Stt) (f : α → Stt → Res β) : (Res.ok a s).bind f = f a s := rfl
@[simp] theorem Res.bind_bad {α β : Type} (f : α → Stt → Res β) : (Res.bad : Res α).bind f = .bad := rfl
@[simp] theorem Res.bind_ex {α β : Type} (x : XV) (s : Stt) (f : α → Stt → Res β) : (Res.ex x s : Res α).bind f = .ex x s := rfl
def Res.ofO {α : Type} (st : Stt) : Option α → Res α
  | some a => .ok a st
  | none => .bad
@[simp] theorem Res.ofO_some {α : Type} (st : Stt) (a : α) : Res.ofO st (some a) = .ok a st := rfl
@[simp] theorem Res.ofO_none {α : Type} (st : Stt) : Res.ofO st (none : Option α) = .bad := rfl

def C.dat : C → PyData
  | .lst xs => .list xs
  | .dct kvs => .dict kvs
/-- as pure data that stays -/
def W.py : W → Option PyData
  | .d x => some x
  | .new c => some c.dat
  | _ => none
/-- read now -/
def W.rd (st : Stt) : W → Option PyData
  | .d x => some x
  | .new c => some c.dat
  | .bor c => some c.dat
  | .lent c => some c.dat
  | .loc n => (st[n]?).map C.dat
  | .own _ => none
  | .fn _ => none
/-- as an argument -/
def W.arg : W → Option W
  | .d x => some (.d x)
  | .new c => some (.d c.dat)
  | .bor c => some (.bor c)
  | .lent c => some (.bor c)
  | .loc n => some (.loc n)
  | .fn n => some (.fn n)
  | .own _ => none

/-! ### keys and dicts -/
def lineN : Nat := 16777216
mutual
/-- data as a key -/
def nk : PyData → NestedKey
  | .none => .none
  | .bool b => .num (if b = true then 1 else 0)
  | .int i => .num i
  | .str x => .text x
  | .tuple xs => .tup (nks xs)
  | .list _ => .none
  | .dict _ => .none
def nks : List PyData → List NestedKey
  | [] => []
  | x :: xs => nk x :: nks xs
end
mutual
/-- may stand within a key -/
def keyB : PyData → Bool
  | .none => true
  | .bool _ => true
  | .int _ => true
  | .str _ => true
  | .tuple xs => keyBs xs
  | .list _ => false
  | .dict _ => false
def keyBs : List PyData → Bool
  | [] => true
  | x :: xs => keyB x && keyBs xs
end
def isTup : PyData → Bool
  | .tuple _ => true
  | _ => false
/-- may be a key: a tuple -/
def keyOk (x : PyData) : Bool := isTup x && (keyB x && decide (x.depth ≤ 8))
def getP (kvs : List (PyData × PyData)) (k : PyData) : Option PyData := (kvs.find? fun p => decide (nk p.1 = nk k)).map (·.2)
def putP (kvs : List (PyData × PyData)) (k v : PyData) : List (PyData × PyData) := if (getP kvs k).isSome then kvs.map fun p => if nk p.1 = nk k then (p.1, v) else p else kvs ++ [(k, v)]
def delP (kvs : List (PyData × PyData)) (k : PyData) : List (PyData × PyData) := kvs.filter fun p => !decide (nk p.1 = nk k)
def mergeP (kvs more : List (PyData × PyData)) : List (PyData × PyData) := more.foldl (fun acc p => putP acc p.1 p.2) kvs
def pairsD : List PyData → Option (List (PyData × PyData))
  | [] => some []
  | .tuple [k, v] :: r => if keyOk k then (pairsD r).map ((k, v) :: ·) else none
  | _ :: _ => none
/-- data that can be sorted: alike, no void tuple unless all are no tuples -/
def alikes (xs : List PyData) : Bool := xs.all fun x => xs.all fun y => PySem.W.alike x y
def headed : PyData → Bool
  | .tuple (_ :: _) => true
  | _ => false
def plainS : PyData → Bool
  | .none => false
  | .tuple _ => false
  | _ => true
def sortOk (xs : List PyData) : Bool := alikes xs && ((xs.all headed || xs.all plainS) && (xs.all fun x => decide (x.depth ≤ 20) && !x.hasDict))
def sortD (xs : List PyData) : List PyData := xs.mergeSort (PySem.W.dataLe false id)
/-- a set's data: the first of each key; made only to be sorted -/
def addD0 (acc : List PyData) (d : PyData) : List PyData := if nk d ∈ acc.map nk then acc else acc ++ [d]
def setD (xs : List PyData) : List PyData := xs.foldl addD0 []
def isStr : PyData → Bool
  | .str _ => true
  | _ => false
def setOk (xs : List PyData) : Bool := decide (xs.length < 64) && (xs.all keyOk || xs.all isStr) && sortOk xs
/-! ### operations on data -/
inductive BO where
  | add | sub | mul | fdiv | mod | pow
  deriving DecidableEq
inductive CO where
  | eq | ne | lt | le | gt | ge | isin | notin | iss | isnot
  deriving DecidableEq
def within64 (i : Int) : Bool := decide (-18446744073709551616 < i) && decide (i < 18446744073709551616)
def addD : PyData → PyData → Option W
  | .int i, .int j => some (.d (.int (i + j)))
  | .str x, .str y => if x.length + y.length ≤ lineN then some (.d (.str (x ++ y))) else none
  | .tuple xs, .tuple ys => if xs.length + ys.length ≤ lineN then some (.d (.tuple (xs ++ ys))) else none
  | .list xs, .list ys => if xs.length + ys.length ≤ lineN then some (.new (.lst (xs ++ ys))) else none
  | _, _ => none
def subD : PyData → PyData → Option W
  | .int i, .int j => some (.d (.int (i - j)))
  | _, _ => none
def repS (z : Str) (k : Int) : Str := ⟨(List.replicate k.toNat z.cps.toList).flatten.toArray⟩
def mulD : PyData → PyData → Option W
  | .int i, .int j => if within64 i || within64 j then some (.d (.int (i * j))) else none
  | .list xs, .int k => if -1000000 ≤ k ∧ k ≤ 1000000 ∧ xs.length * k.toNat ≤ lineN then some (.new (.lst (List.replicate k.toNat xs).flatten)) else none
  | .tuple xs, .int k => if 0 ≤ k ∧ k ≤ 1000 ∧ xs.length ≤ 1000 then some (.d (.tuple (List.replicate k.toNat xs).flatten)) else none
  | .str x, .int k => if 0 ≤ k ∧ k ≤ 1000 ∧ x.length ≤ 1000 then some (.d (.str (repS x k))) else none
  | _, _ => none
def fdivD : PyData → PyData → Option W
  | .int i, .int j => if 0 < j ∧ j < 1073741824 then some (.d (.int (i / j))) else none
  | _, _ => none
def modD : PyData → PyData → Option W
  | .int i, .int j => if 0 < j then some (.d (.int (i % j))) else none
  | _, _ => none
def powD : PyData → PyData → Option W
  | .int i, .int j => if 0 ≤ j ∧ j ≤ 1000000 ∧ within64 i then some (.d (.int (i ^ j.toNat))) else none
  | _, _ => none
def binD : BO → PyData → PyData → Option W
  | .add => addD | .sub => subD | .mul => mulD | .fdiv => fdivD | .mod => modD | .pow => powD

def eqS (x y : PyData) : Option Bool := if SeqAt.shaped x && SeqAt.shaped y then some (PyData.eqv x y) else none
def eqD : PyData → PyData → Option Bool
  | .str x, .str y => some (decide (x = y))
  | x, y => eqS x y
def cmpOk (x y : PyData) : Bool := PySem.W.alike x y && (decide (x.depth ≤ 20) && (!x.hasDict && !y.hasDict))
def ltI : PyData → PyData → Option Bool
  | .int i, .int j => some (decide (i < j))
  | .tuple x, .tuple y => if cmpOk (.tuple x) (.tuple y) && decide ((PyData.tuple y).depth ≤ 20) then some (PySem.W.dataLt (.tuple x) (.tuple y)) else none
  | .str x, .str y => some (PySem.W.dataLt (.str x) (.str y))
  | _, _ => none
def leI : PyData → PyData → Option Bool
  | .int i, .int j => some (decide (i ≤ j))
  | .tuple x, .tuple y => if cmpOk (.tuple x) (.tuple y) && decide ((PyData.tuple y).depth ≤ 20) then some (!PySem.W.dataLt (.tuple y) (.tuple x)) else none
  | .str x, .str y => some (!PySem.W.dataLt (.str y) (.str x))
  | _, _ => none
/-- x in y -/
def inD : PyData → PyData → Option Bool
  | x, .list ys => if SeqAt.shaped x && SeqAt.shaped (.list ys) then some (ys.any fun z => PyData.eqv z x) else none
  | x, .tuple ys => if SeqAt.shaped x && SeqAt.shaped (.tuple ys) then some (ys.any fun z => PyData.eqv z x) else none
  | .str x, .str y => some (!(Builtin.Str.occurrences y x 0 y.length 1).isEmpty)
  | x, .dict kvs => if keyOk x then some (getP kvs x).isSome else none
  | _, _ => none
def isD : PyData → PyData → Option Bool
  | .none, .none => some true
  | .bool _, .none => some false
  | .int _, .none => some false
  | .str _, .none => some false
  | .list _, .none => some false
  | .tuple _, .none => some false
  | .bool a, .bool b => some (decide (a = b))
  | _, _ => none
def cmpD : CO → PyData → PyData → Option Bool
  | .eq, x, y => eqD x y
  | .ne, x, y => (eqD x y).map (!·)
  | .lt, x, y => ltI x y
  | .le, x, y => leI x y
  | .gt, x, y => ltI y x
  | .ge, x, y => leI y x
  | .isin, x, y => inD x y
  | .notin, x, y => (inD x y).map (!·)
  | .iss, x, y => isD x y
  | .isnot, x, y => (isD x y).map (!·)
/-- a value's truth -/
def truthD : PyData → Option Bool
  | .none => some false
  | .bool b => some b
  | .int i => some (i != 0)
  | .str x => if x.length ≤ lineN then some ((x.length : Int) != 0) else none
  | .list xs => some (!xs.isEmpty)
  | .tuple xs => some (!xs.isEmpty)
  | .dict _ => none
def idxD : PyData → PyData → Option PyData
  | .list xs, .int i => atI xs i
  | .tuple xs, .int i => atI xs i
  | .str x, .int i => if x.length ≤ lineN then (atI x.cps.toList i).map fun c => .str ⟨#[c]⟩ else none
  | .dict kvs, k => if keyOk k then getP kvs k else none
  | _, _ => none
def cutD (xs : List PyData) (lo hi : Option Int) : List PyData := (xs.drop (HT.sIx xs.length 0 lo)).take (HT.sIx xs.length xs.length hi - HT.sIx xs.length 0 lo)
def slcD : PyData → Option Int → Option Int → Option W
  | .list xs, lo, hi => some (.new (.lst (cutD xs lo hi)))
  | .tuple xs, lo, hi => some (.d (.tuple (cutD xs lo hi)))
  | .str x, lo, hi => if x.length ≤ lineN then some (.d (.str (cutS x lo hi))) else none
  | _, _, _ => none
def revD : PyData → Option W
  | .list xs => some (.new (.lst xs.reverse))
  | .tuple xs => some (.d (.tuple xs.reverse))
  | _ => none
/-- the classes that isinstance is asked of -/
inductive Ty where
  | int | bool | str | list | tuple
  deriving DecidableEq
def isT : PyData → Ty → Option Bool
  | .none, _ => some false
  | .bool _, .bool => some true
  | .bool _, .int => some true
  | .bool _, _ => some false
  | .int _, .int => some true
  | .int _, _ => some false
  | .str _, .str => some true
  | .str _, _ => some false
  | .list _, .list => some true
  | .list _, _ => some false
  | .tuple _, .tuple => some true
  | .tuple _, _ => some false
  | .dict _, _ => none
/-- built-in functions and types, called by name -/
inductive BF where
  | len | all | any | tuple | list | str | repr | int | abs | max | min | sum | sorted | dict
  deriving DecidableEq
def allB : List PyData → Option (List Bool)
  | [] => some []
  | .bool b :: r => (allB r).map (b :: ·)
  | _ :: _ => none
def smallI (i : Int) : Bool := decide (i.natAbs.log2 < 1920)
def strD : PyData → Option PyData
  | .int i => if smallI i then some (.str (toString i : String)) else none
  | .str x => some (.str x)
  | _ => none
def reprD (x : PyData) : Option PyData := if PyData.showable x && decide (PyData.depth x ≤ 64) && decide (x.shown.length ≤ lineN) && !x.hasDict then some (.str x.shown) else none
def lenD : PyData → Option PyData
  | .list xs => some (.int xs.length)
  | .tuple xs => some (.int xs.length)
  | .str x => if x.length ≤ lineN then some (.int x.length) else none
  | .dict kvs => some (.int kvs.length)
  | _ => none
def allI : List PyData → Option (List Int)
  | [] => some []
  | .int i :: r => (allI r).map (i :: ·)
  | _ :: _ => none
def maxI : List Int → Option Int
  | [] => none
  | i :: r => some (r.foldl (fun a b => if b > a then b else a) i)
def minI : List Int → Option Int
  | [] => none
  | i :: r => some (r.foldl (fun a b => if b < a then b else a) i)
def intD : PyData → Option PyData
  | .int i => some (.int i)
  | .bool b => some (.int (if b = true then 1 else 0))
  | .str x => if x.length ≤ 640 then (PySem.intText? x).map .int else none
  | _ => none
def sortW : PyData → Option W
  | .list xs => if sortOk xs then some (.new (.lst (sortD xs))) else none
  | .dict kvs => if sortOk (kvs.map (·.1)) then some (.new (.lst (sortD (kvs.map (·.1))))) else none
  | _ => none
def ssetW : PyData → Option W
  | .list xs => if setOk xs then some (.new (.lst (sortD (setD xs)))) else none
  | _ => none
def dictW : PyData → Option W
  | .list xs => (pairsD xs).map fun ps => .new (.dct (mergeP [] ps))
  | .tuple xs => (pairsD xs).map fun ps => .new (.dct (mergeP [] ps))
  | _ => none
def bifD : BF → List PyData → Option W
  | .len, [x] => (lenD x).map .d
  | .all, [.list xs] => (allB xs).map fun bs => .d (.bool (bs.all id))
  | .any, [.list xs] => (allB xs).map fun bs => .d (.bool (bs.any id))
  | .tuple, [.list xs] => some (.d (.tuple xs))
  | .tuple, [.tuple xs] => some (.d (.tuple xs))
  | .list, [.list xs] => some (.new (.lst xs))
  | .list, [.tuple xs] => some (.new (.lst xs))
  | .str, [x] => (strD x).map .d
  | .repr, [x] => (reprD x).map .d
  | .int, [x] => (intD x).map .d
  | .abs, [.int i] => some (.d (.int (if i < 0 then -i else i)))
  | .max, [.int i, .int j] => some (.d (.int (if j > i then j else i)))
  | .min, [.int i, .int j] => some (.d (.int (if j < i then j else i)))
  | .max, [.list xs] => ((allI xs).bind maxI).map fun i => .d (.int i)
  | .min, [.list xs] => ((allI xs).bind minI).map fun i => .d (.int i)
  | .sum, [.list xs] => (allI xs).map fun is => .d (.int is.sum)
  | .sorted, [x] => sortW x
  | .dict, [x] => dictW x
  | _, _ => none
inductive MN where
  | join | split
  deriving DecidableEq
def allS : List PyData → Option (List Str)
  | [] => some []
  | .str b :: r => (allS r).map (b :: ·)
  | _ :: _ => none
def mthD : MN → PyData → List PyData → Option W
  | .join, .str sep, [.list xs] => (allS xs).bind fun ys => if (ys.map (·.length)).sum + ys.length * sep.length ≤ lineN then some (.d (.str (Txt.join sep ys))) else none
  | .split, .str x, [.str y] => if (y.length == 0) = false ∧ x.length + 2 ≤ lineN then some (.new (.lst ((Txt.split x y).map PyData.str))) else none
  | _, _, _ => none

/-! ### the IR -/
inductive T where
  | nm (i : Nat) | tp (is : List Nat)
mutual
inductive E where
  | var (i : Nat) | con (x : PyData) | glo (n : Str) (x : PyData)
  | bin (o : BO) (a b : E) | neg (a : E) | nt (a : E) | an (a b : E) | oo (a b : E)
  | cmp (o : CO) (a b : E) | chn (o p : CO) (a b c : E) | ite (c a b : E)
  | tup (es : Es) | lst (es : Es) | idx (a b : E) | slc (a : E) (lo hi : Es) | rev (a : E)
  | cal (n : Str) (f : Nat) (es : Es) | bif (b : BF) (es : Es) | isi (a : E) (t : Ty) | mth (m : MN) (a : E) (es : Es)
  | lc (elt : E) (t : T) (it : It) (c : Es) (own : List Nat)
  | dnew | get1 (a k : E) | get2 (a k x : E) | sset (a : E) | fnv (n : Str) | cav (i : Nat) (tb : List (Str × Nat)) (es : Es)
inductive Es where
  | nil | cons (e : E) (r : Es)
inductive It where
  | of (a : E) | rng (a : E) | rng2 (a b : E) | zip (a b : E) | enum (a : E)
end
/-- its items are new pairs -/
def isP : It → Bool
  | .zip _ _ => true
  | .enum _ => true
  | _ => false
def isE : It → Bool
  | .enum _ => true
  | _ => false
def isTp : T → Bool
  | .tp _ => true
  | .nm _ => false
/-- how a name is stored: as pure data (or a reference to a cell, a borrowed object), as the frame's own object, as a new cell -/
inductive Md where
  | pure | own | cell
/-- what an except suite may ask of the exception: constants, slots, isinstance (by the known classes), a field, a pair, not, and -/
inductive HE where
  | con (x : PyData) | var (i : Nat) | isx (ms : List (Str × Bool)) | fld (f : Str) | tup (a b : HE) | nt (a : HE) | an (a b : HE)
inductive Hs where
  | nil | set (i : Nat) (e : HE) (r : Hs) | ite (c : HE) (i : Nat) (e : HE) (r : Hs)
mutual
inductive S where
  | set (i : Nat) (m : Md) (e : E) | par (i j : Nat) (a b : E) | unp (is : List Nat) (e : E) | sub (i : Nat) (k e : E) | app (i : Nat) (e : E) | ext (i : Nat) (e : E)
  | nev | exp (e : E) | ret (e : E) | rtv (i : Nat) | ite (c : E) (a b : Ss) | for_ (t : T) (it : It) (b : Ss) | whl (fuel : Nat) (c : E) (b : Ss)
  /-- a try statement whose body runs through -/
  | tri (b : Ss)
  /-- raise c(es), its fields fl -/
  | rse (c : Str) (fl : List Str) (es : Es)
  /-- try: b (one assignment, one return), except ..: h; ms: which known classes the clause takes -/
  | tre (b : S) (ms : List (Str × Bool)) (n : Option Nat) (h : Hs)
inductive Ss where
  | nil | cons (s : S) (r : Ss)
  /-- from here on the frame's own objects in these slots are not changed -/
  | frz (is : List Nat) (r : Ss)
end
inductive Fl where
  | nx (ρ : Rho) | rt (w : W)

/-! ### the semantics -/
abbrev Phi := Nat → List W → Stt → Res W
def rd1 (w : W) (st : Stt) (k : PyData → Option W) : Res W := Res.ofO st ((w.rd st).bind k)
def rd2 (w u : W) (st : Stt) (k : PyData → PyData → Option W) : Res W := Res.ofO st ((w.rd st).bind fun x => (u.rd st).bind fun y => k x y)
def toB (o : Option Bool) : Option W := o.map fun b => .d (.bool b)
def bsel {α : Type} (w : W) (f g : Res α) : Res α := match w with
  | .d (.bool b) => if b then f else g
  | _ => .bad
@[simp] theorem bsel_b {α : Type} (b : Bool) (f g : Res α) : bsel (.d (.bool b)) f g = if b then f else g := rfl
theorem bsel_bind {α β : Type} (w : W) (f g : Res α) (k : α → Stt → Res β) : (bsel w f g).bind k = bsel w (f.bind k) (g.bind k) := by
  cases w with
  | d x => cases x with
    | bool b => cases b <;> rfl
    | _ => rfl
  | _ => rfl
def ssel {α : Type} (w : W) (f : Str → Res α) : Res α := match w with
  | .d (.str b) => f b
  | _ => .bad
@[simp] theorem ssel_s {α : Type} (b : Str) (f : Str → Res α) : ssel (.d (.str b)) f = f b := rfl
def rdAll (st : Stt) : List W → Option (List PyData)
  | [] => some []
  | w :: r => (w.rd st).bind fun x => (rdAll st r).map (x :: ·)
def pyAll : List W → Option (List PyData)
  | [] => some []
  | w :: r => w.py.bind fun x => (pyAll r).map (x :: ·)
def argAll : List W → Option (List W)
  | [] => some []
  | w :: r => w.arg.bind fun x => (argAll r).map (x :: ·)
def truth (w : W) (st : Stt) : Res Bool := Res.ofO st ((w.rd st).bind truthD)
def intOf : PyData → Option Int
  | .int i => some i
  | _ => none
/-- the items of an iterable -/
def itemsD : PyData → Option (List PyData)
  | .list xs => some xs
  | .tuple xs => some xs
  | .str x => some (x.cps.toList.map fun c => .str ⟨#[c]⟩)
  | _ => none
/-- the items with their places, new pairs -/
def enumD : Nat → List PyData → List PyData
  | _, [] => []
  | k, x :: xs => .tuple [.int (k : Nat), x] :: enumD (k + 1) xs
def enumW : PyData → Option (List PyData)
  | .list xs => some (enumD 0 xs)
  | .tuple xs => some (enumD 0 xs)
  | _ => none
def rngL (a b : Int) : List PyData := (List.range (b - a).toNat).map fun i => .int (a + (i : Nat))
def partD (st : Stt) : List W → Option (Option Int)
  | [] => some none
  | [w] => (w.rd st).bind fun x => (intOf x).map some
  | _ => none
def rngOk (i : Int) : Bool := decide (-4611686018427387904 ≤ i) && decide (i < 4611686018427387904)
def setT : T → PyData → Rho → Option Rho
  | .nm i, x, ρ => some (ρ.set i (some (.d x)))
  | .tp is, .tuple xs, ρ => if xs.length = is.length then some ((is.zip xs).foldl (fun r p => r.set p.1 (some (.d p.2))) ρ) else none
  | .tp _, _, _ => none
def wipeR (ρ : Rho) : List Nat → Rho
  | [] => ρ
  | v :: vs => (wipeR ρ vs).set v none
/-- x is a dict -/
def dctIn {α : Type} (x : W) (st : Stt) (r : Res α) : Res α := match x.rd st with
  | some (.dict _) => r
  | _ => .bad
def getW (x y : W) (st : Stt) (z : Option PyData) : Option W := match x.rd st, y.rd st, z with
  | some (.dict kvs), some k, some z => if keyOk k then some (.d ((getP kvs k).getD z)) else none
  | _, _, _ => none
/-- a comprehension's turns -/
def compL (f : PyData → Stt → Res (Option PyData)) : List PyData → Stt → Res (List PyData)
  | [], st => .ok [] st
  | x :: xs, st => (f x st).bind fun o s1 => (compL f xs s1).bind fun r s2 => .ok (match o with | some y => y :: r | none => r) s2
/-- no exception leaves a comprehension -/
def Res.nox {α : Type} : Res α → Res α
  | .ok a s => .ok a s
  | _ => .bad
@[simp] theorem Res.nox_ok {α : Type} (a : α) (s : Stt) : (Res.ok a s).nox = .ok a s := rfl
def W.rdN (st : Stt) : W → Option PyData
  | .loc _ => none
  | w => w.rd st
def zipD : PyData → PyData → Option (List PyData)
  | .list xs, .list ys => some ((xs.zip ys).map fun p => .tuple [p.1, p.2])
  | .tuple xs, .tuple ys => some ((xs.zip ys).map fun p => .tuple [p.1, p.2])
  | _, _ => none
/-- the def's place by its name -/
def tblF (tb : List (Str × Nat)) (n : Str) : Option Nat := (tb.find? fun p => p.1 == n).map (·.2)
mutual
def sem (Φ : Phi) : E → Rho → Stt → Res W
  | .var i, ρ, st => match ρ[i]? with
    | some (some (.own c)) => .ok (.lent c) st
    | some (some w) => .ok w st
    | _ => .bad
  | .con x, _, st => .ok (.d x) st
  | .glo _ x, _, st => .ok (.d x) st
  | .bin o a b, ρ, st => (sem Φ a ρ st).bind fun x s1 => (sem Φ b ρ s1).bind fun y s2 => rd2 x y s2 (binD o)
  | .neg a, ρ, st => (sem Φ a ρ st).bind fun x s1 => rd1 x s1 fun x => (intOf x).map fun i => .d (.int (-i))
  | .nt a, ρ, st => (sem Φ a ρ st).bind fun x s1 => (truth x s1).bind fun b s2 => .ok (.d (.bool (!b))) s2
  | .an a b, ρ, st => (sem Φ a ρ st).bind fun x s1 => bsel x (sem Φ b ρ s1) (.ok (.d (.bool false)) s1)
  | .oo a b, ρ, st => (sem Φ a ρ st).bind fun x s1 => bsel x (.ok (.d (.bool true)) s1) (sem Φ b ρ s1)
  | .cmp o a b, ρ, st => (sem Φ a ρ st).bind fun x s1 => (sem Φ b ρ s1).bind fun y s2 => rd2 x y s2 fun x y => toB (cmpD o x y)
  | .chn o p a b c, ρ, st => (sem Φ a ρ st).bind fun x s1 => (sem Φ b ρ s1).bind fun y s2 => (rd2 x y s2 fun x y => toB (cmpD o x y)).bind fun r s3 => bsel r ((sem Φ c ρ s3).bind fun z s4 => rd2 y z s4 fun x y => toB (cmpD p x y)) (.ok (.d (.bool false)) s3)
  | .ite c a b, ρ, st => (sem Φ c ρ st).bind fun x s1 => (truth x s1).bind fun t s2 => if t then sem Φ a ρ s2 else sem Φ b ρ s2
  | .tup es, ρ, st => (sems Φ es ρ st).bind fun ws s1 => Res.ofO s1 ((pyAll ws).bind fun xs => if xs.length ≤ lineN then some (.d (.tuple xs)) else none)
  | .lst es, ρ, st => (sems Φ es ρ st).bind fun ws s1 => Res.ofO s1 ((pyAll ws).bind fun xs => if xs.length ≤ lineN then some (.new (.lst xs)) else none)
  | .idx a b, ρ, st => (sem Φ a ρ st).bind fun x s1 => (sem Φ b ρ s1).bind fun y s2 => rd2 x y s2 fun x y => (idxD x y).map .d
  | .slc a lo hi, ρ, st => (sem Φ a ρ st).bind fun x s1 => ((sems Φ lo ρ s1).bind fun l s => Res.ofO s (partD s l)).bind fun lo s2 => ((sems Φ hi ρ s2).bind fun l s => Res.ofO s (partD s l)).bind fun hi s3 => Res.ofO s3 ((x.rd s3).bind fun x => slcD x lo hi)
  | .rev a, ρ, st => (sem Φ a ρ st).bind fun x s1 => rd1 x s1 revD
  | .cal _ f es, ρ, st => (sems Φ es ρ st).bind fun ws s1 => (Res.ofO s1 (argAll ws)).bind fun as s2 => Φ f as s2
  | .bif b es, ρ, st => (sems Φ es ρ st).bind fun ws s1 => Res.ofO s1 ((rdAll s1 ws).bind (bifD b))
  | .isi a t, ρ, st => (sem Φ a ρ st).bind fun x s1 => rd1 x s1 fun x => toB (isT x t)
  | .mth m a es, ρ, st => (sem Φ a ρ st).bind fun x s1 => ssel x fun sep => (sems Φ es ρ s1).bind fun ws s2 => Res.ofO s2 ((rdAll s2 ws).bind (mthD m (.str sep)))
  | .dnew, _, st => .ok (.new (.dct [])) st
  | .fnv n, _, st => .ok (.fn n) st
  | .cav i tb es, ρ, st => match ρ[i]? with
    | some (some (.fn n)) => match tblF tb n with
      | some f => (sems Φ es ρ st).bind fun ws s1 => (Res.ofO s1 (argAll ws)).bind fun as s2 => Φ f as s2
      | none => .bad
    | _ => .bad
  | .sset a, ρ, st => (sem Φ a ρ st).bind fun x s1 => rd1 x s1 ssetW
  | .get1 a k, ρ, st => (sem Φ a ρ st).bind fun x s1 => dctIn x s1 ((sem Φ k ρ s1).bind fun y s2 => Res.ofO s2 (getW x y s2 (some .none)))
  | .get2 a k z, ρ, st => (sem Φ a ρ st).bind fun x s1 => dctIn x s1 ((sem Φ k ρ s1).bind fun y s2 => (sem Φ z ρ s2).bind fun z s3 => Res.ofO s3 (getW x y s3 z.py))
  | .lc elt t it c own, ρ, st => (semI Φ it ρ st).bind fun xs s1 => ((compL (fun x s => (Res.ofO s (setT t x (wipeR ρ own))).bind fun ρ1 s => (semCs Φ c ρ1 s).bind fun b s => if b then (sem Φ elt ρ1 s).bind fun w s => (Res.ofO s w.py).bind fun y s => .ok (some y) s else .ok none s) xs s1).nox).bind fun ys s2 => if ys.length ≤ lineN then .ok (.new (.lst ys)) s2 else .bad
def sems (Φ : Phi) : Es → Rho → Stt → Res (List W)
  | .nil, _, st => .ok [] st
  | .cons e r, ρ, st => (sem Φ e ρ st).bind fun x s1 => (sems Φ r ρ s1).bind fun xs s2 => .ok (x :: xs) s2
/-- the items that are walked, at a comprehension -/
def semI (Φ : Phi) : It → Rho → Stt → Res (List PyData)
  | .of a, ρ, st => (sem Φ a ρ st).bind fun x s1 => match x with
    | .loc _ => .bad
    | _ => Res.ofO s1 ((x.rd s1).bind itemsD)
  | .rng a, ρ, st => (sem Φ a ρ st).bind fun x s1 => Res.ofO s1 ((x.rd s1).bind fun x => (intOf x).bind fun i => if rngOk i then some (rngL 0 i) else none)
  | .rng2 a b, ρ, st => (sem Φ a ρ st).bind fun x s1 => (sem Φ b ρ s1).bind fun y s2 => Res.ofO s2 ((x.rd s2).bind fun x => (y.rd s2).bind fun y => (intOf x).bind fun i => (intOf y).bind fun j => if rngOk i && rngOk j then some (rngL i j) else none)
  | .zip a b, ρ, st => (sem Φ a ρ st).bind fun x s1 => (sem Φ b ρ s1).bind fun y s2 => Res.ofO s2 ((x.rdN s2).bind fun dx => (y.rdN s2).bind fun dy => zipD dx dy)
  | .enum _, _, _ => .bad
/-- a comprehension's tests -/
def semCs (Φ : Phi) : Es → Rho → Stt → Res Bool
  | .nil, _, st => .ok true st
  | .cons e r, ρ, st => (sem Φ e ρ st).bind fun x s1 => (truth x s1).bind fun b s2 => if b then semCs Φ r ρ s2 else .ok false s2
end

/-- the items of a for statement: an object that this frame may change is not walked -/
def semF (Φ : Phi) : It → Rho → Stt → Res (List PyData)
  | .of a, ρ, st => (sem Φ a ρ st).bind fun x s1 => match x with
    | .loc _ => .bad
    | .lent _ => .bad
    | _ => Res.ofO s1 ((x.rd s1).bind itemsD)
  | .rng a, ρ, st => semI Φ (.rng a) ρ st
  | .rng2 a b, ρ, st => semI Φ (.rng2 a b) ρ st
  | .zip _ _, _, _ => .bad
  | .enum a, ρ, st => (sem Φ a ρ st).bind fun x s1 => match x with
    | .loc _ => .bad
    | .lent _ => .bad
    | _ => Res.ofO s1 ((x.rd s1).bind enumW)
def setL (xs : List PyData) (k : PyData) (y : PyData) : Option (List PyData) := (intOf k).bind fun i => (ixN xs.length i).map fun j => xs.set j y
/-- x[k] = y -/
def subC (k y : PyData) : C → Option C
  | .lst xs => (setL xs k y).map .lst
  | .dct kvs => if keyOk k && decide (kvs.length < lineN) then some (.dct (putP kvs k y)) else none
def appC (y : PyData) : C → Option C
  | .lst xs => if xs.length < lineN then some (.lst (xs ++ [y])) else none
  | .dct _ => none
def extC (ys : List PyData) : C → Option C
  | .lst xs => if xs.length + ys.length ≤ lineN then some (.lst (xs ++ ys)) else none
  | .dct _ => none
def popC (k : PyData) : C → Option C
  | .lst _ => none
  | .dct kvs => if keyOk k && (getP kvs k).isSome then some (.dct (delP kvs k)) else none
/-- the slot holds an object that this frame may change -/
def mutB (ρ : Rho) (i : Nat) : Bool := match ρ[i]? with
  | some (some (.own _)) => true
  | some (some (.loc _)) => true
  | _ => false
/-- the slot holds a list that this frame may change -/
def lstB (ρ : Rho) (i : Nat) (st : Stt) : Bool := match ρ[i]? with
  | some (some (.own (.lst _))) => true
  | some (some (.loc n)) => match st[n]? with
    | some (.lst _) => true
    | _ => false
  | _ => false
/-- the object in a slot is changed -/
def chg (ρ : Rho) (i : Nat) (st : Stt) (f : C → Option C) : Res Fl := match ρ[i]? with
  | some (some (.own c)) => Res.ofO st ((f c).map fun c => .nx (ρ.set i (some (.own c))))
  | some (some (.loc n)) => match (st[n]?).bind f with
    | some c => .ok (.nx ρ) (st.set n c)
    | none => .bad
  | _ => .bad
def store (ρ : Rho) (i : Nat) : Md → W → Stt → Res Fl
  | .pure, .d x, st => .ok (.nx (ρ.set i (some (.d x)))) st
  | .pure, .new c, st => .ok (.nx (ρ.set i (some (.d c.dat)))) st
  | .pure, .loc n, st => .ok (.nx (ρ.set i (some (.loc n)))) st
  | .pure, .bor c, st => .ok (.nx (ρ.set i (some (.bor c)))) st
  | .own, .new c, st => .ok (.nx (ρ.set i (some (.own c)))) st
  | .cell, .new c, st => .ok (.nx (ρ.set i (some (.loc st.length)))) (st ++ [c])
  | _, _, _ => .bad
def frzR (ρ : Rho) : List Nat → Rho
  | [] => ρ
  | i :: is => match (frzR ρ is)[i]? with
    | some (some (.own c)) => (frzR ρ is).set i (some (.d c.dat))
    | _ => frzR ρ is
def rtW (w : W) (st : Stt) : Res Fl := match w with
  | .d x => .ok (.rt (.d x)) st
  | .new c => .ok (.rt (.new c)) st
  | .loc n => .ok (.rt (.loc n)) st
  | _ => .bad
def forL (f : PyData → Rho → Stt → Res Fl) : List PyData → Rho → Stt → Res Fl
  | [], ρ, st => .ok (.nx ρ) st
  | x :: xs, ρ, st => (f x ρ st).bind fun fl s1 => match fl with
    | .nx ρ' => forL f xs ρ' s1
    | .rt w => .ok (.rt w) s1
def whlL (c : Rho → Stt → Res Bool) (f : Rho → Stt → Res Fl) : Nat → Rho → Stt → Res Fl
  | 0, _, _ => .bad
  | n + 1, ρ, st => (c ρ st).bind fun b s1 => if b then (f ρ s1).bind fun fl s2 => match fl with
    | .nx ρ' => whlL c f n ρ' s2
    | .rt w => .ok (.rt w) s2
    else .ok (.nx ρ) s1
def parW (ρ : Rho) (i j : Nat) : List W → Stt → Res Fl
  | [v, w], st => match v.py, w.py with
    | some x, some y => .ok (.nx ((ρ.set i (some (.d x))).set j (some (.d y)))) st
    | _, _ => .bad
  | _, _ => .bad
/-- what an exception may bear -/
def excV : PyData → Bool
  | .str x => decide (x.length ≤ 1000)
  | .int i => smallI i
  | _ => false
def rseK (c : Str) (fl : List Str) (ws : List W) (st : Stt) : Res Fl := match pyAll ws with
  | some xs => if xs.all excV ∧ xs.length = fl.length then .ex ⟨c, (fl.zip xs).reverse⟩ st else .bad
  | none => .bad
def semHE (x : XV) (ρ : Rho) : HE → Option PyData
  | .con y => some y
  | .var i => match ρ[i]? with
    | some (some (.d y)) => some y
    | _ => none
  | .isx ms => (ms.lookup x.cls).map .bool
  | .fld f => x.fs.lookup f
  | .tup a b => (semHE x ρ a).bind fun y => (semHE x ρ b).map fun z => .tuple [y, z]
  | .nt a => match semHE x ρ a with
    | some (.bool b) => some (.bool (!b))
    | _ => none
  | .an a b => match semHE x ρ a with
    | some (.bool true) => match semHE x ρ b with
      | some (.bool c) => some (.bool c)
      | _ => none
    | some (.bool false) => some (.bool false)
    | _ => none
def semHs (x : XV) : Hs → Rho → Option Rho
  | .nil, ρ => some ρ
  | .set i e r, ρ => (semHE x ρ e).bind fun y => semHs x r (ρ.set i (some (.d y)))
  | .ite c i e r, ρ => match semHE x ρ c with
    | some (.bool true) => (semHE x ρ e).bind fun y => semHs x r (ρ.set i (some (.d y)))
    | some (.bool false) => semHs x r ρ
    | _ => none
/-- the slot that the clause names is unset -/
def nsB (ρ : Rho) : Option Nat → Bool
  | none => true
  | some i => match ρ[i]? with
    | some none => true
    | _ => false
def treH (x : XV) (h : Hs) (ρ : Rho) (n : Option Nat) (s : Stt) : Res Fl := if nsB ρ n then match semHs x h ρ with
  | some ρ' => .ok (.nx ρ') s
  | none => .bad
  else .bad
def treK (ms : List (Str × Bool)) (n : Option Nat) (h : Hs) (ρ : Rho) : Res Fl → Res Fl
  | .ex x s => match ms.lookup x.cls with
    | some true => treH x h ρ n s
    | some false => .ex x s
    | none => .bad
  | r => r
mutual
def semS (Φ : Phi) : S → Rho → Stt → Res Fl
  | .set i m e, ρ, st => (sem Φ e ρ st).bind fun w s1 => store ρ i m w s1
  | .par i j a b, ρ, st => (sems Φ (.cons a (.cons b .nil)) ρ st).bind fun ws s1 => parW ρ i j ws s1
  | .unp is e, ρ, st => (sem Φ e ρ st).bind fun w s1 => Res.ofO s1 ((w.rd s1).bind fun x => (setT (.tp is) x ρ).map .nx)
  | .sub i k e, ρ, st => (sem Φ e ρ st).bind fun w s1 => if mutB ρ i then (sem Φ k ρ s1).bind fun k s2 => match w.py, k.rd s2 with
    | some y, some k => chg ρ i s2 (subC k y)
    | _, _ => .bad
    else .bad
  | .app i e, ρ, st => if lstB ρ i st then (sem Φ e ρ st).bind fun w s1 => match w.py with
    | some y => chg ρ i s1 (appC y)
    | none => .bad
    else .bad
  | .ext i e, ρ, st => if lstB ρ i st then (sem Φ e ρ st).bind fun w s1 => match w.rd s1 with
    | some (.list ys) => chg ρ i s1 (extC ys)
    | _ => .bad
    else .bad
  | .nev, _, _ => .bad
  | .exp e, ρ, st => (sem Φ e ρ st).bind fun _ s1 => .ok (.nx ρ) s1
  | .ret e, ρ, st => (sem Φ e ρ st).bind fun w s1 => rtW w s1
  | .rtv i, ρ, st => match ρ[i]? with
    | some (some (.own c)) => .ok (.rt (.new c)) st
    | _ => .bad
  | .ite c a b, ρ, st => (sem Φ c ρ st).bind fun x s1 => (truth x s1).bind fun t s2 => if t then semSs Φ a ρ s2 else semSs Φ b ρ s2
  | .for_ t it b, ρ, st => (semF Φ it ρ st).bind fun xs s1 => forL (fun x ρ s => (Res.ofO s (setT t x ρ)).bind fun ρ s => semSs Φ b ρ s) xs ρ s1
  | .whl n c b, ρ, st => whlL (fun ρ s => (sem Φ c ρ s).bind fun x s => truth x s) (fun ρ s => semSs Φ b ρ s) n ρ st
  | .tri b, ρ, st => (semSs Φ b ρ st).nox
  | .rse c fl es, ρ, st => (sems Φ es ρ st).bind fun ws s1 => rseK c fl ws s1
  | .tre b ms n h, ρ, st => treK ms n h ρ (semS Φ b ρ st)
def semSs (Φ : Phi) : Ss → Rho → Stt → Res Fl
  | .nil, ρ, st => .ok (.nx ρ) st
  | .cons s r, ρ, st => (semS Φ s ρ st).bind fun fl s1 => match fl with
    | .nx ρ' => semSs Φ r ρ' s1
    | .rt w => .ok (.rt w) s1
  | .frz is r, ρ, st => semSs Φ r (frzR ρ is) st
end
/-- a def: its module's name, its parameters and slots, its body -/
structure Fn where
  name : Str
  np : Nat
  N : List Str
  body : Ss
def leaveW (k : Nat) : Res Fl → Res W
  | .ok (.nx _) s => .ok (.d .none) (s.take k)
  | .ok (.rt (.d x)) s => .ok (.d x) (s.take k)
  | .ok (.rt (.new c)) s => .ok (.new c) (s.take k)
  | .ok (.rt (.loc m)) s => if m < k then .ok (.loc m) (s.take k) else match s[m]? with
    | some c => .ok (.new c) (s.take k)
    | none => .bad
  | .ex x s => .ex x (s.take k)
  | _ => .bad
def callF (Φ : Phi) (f : Fn) (as : List W) (st : Stt) : Res W :=
  if as.length = f.np ∧ f.np ≤ f.N.length then leaveW st.length (semSs Φ f.body (as.map some ++ List.replicate (f.N.length - as.length) none) st) else .bad
/-- the program's defs, to a depth of calls -/
def phi (fs : List Fn) : Nat → Phi
  | 0 => fun _ _ _ => .bad
  | k + 1 => fun i as st => match fs[i]? with
    | some f => callF (phi fs k) f as st
    | none => .bad
end Gm

/-! The deep layer, part B: how a state of the machine (as HandS tells it) stands for a state of the semantics. -/
namespace Gm
open PySem PySem.Spec PyProof.Rows L2
/-- what stands still of the module, and the world -/
structure KW where
  K : PySem.W.Frag
  w : World
  mg : Str → Option Value
instance : Coe KW PySem.W.Frag := ⟨KW.K⟩
abbrev kw (X : Cx) : KW := ⟨X.K, X.w, X.mg⟩
/-- a dict's entries: the key, where its tuple stands, the value -/
abbrev Ent3 := NestedKey × Addr × V
abbrev EntV := NestedKey × Addr × Value
def EntIs (p : Ent3) (q : EntV) : Prop := p.1 = q.1 ∧ p.2.1 = q.2.1 ∧ RelV p.2.2 q.2.2
/-- the object at a is a dict with these entries -/
def RawD (w : World) (h : Heap) (a : Addr) (xs : List EntV) : Prop := ∃ o ds ep, h.get? a = some o ∧ o.ExactDict ∧ o.data = .dict ds ep ∧ ds.toList = xs.map (fun x => (⟨x.1.hash w, .ref x.2.1, x.2.2⟩ : DictEntry)) ∧ (xs.map (·.1)).Nodup
def dctO (w : World) (a : Addr) (es : List Ent3) : HO := .ext fun h => (a == sysModules) = false ∧ es.length ≤ sizeLine ∧ ∃ xs, Paired EntIs es xs ∧ RawD w h a xs

/-- a tuple whose own object has no dict -/
def SqD (K : PySem.W.Frag) (H : Hp) (a : Addr) (xs : List V) : Prop :=
  (∃ o : Obj, H a = some (.frz o (.tup xs)) ∧ o.dict = none) ∨
    ∃ (o : Obj) (its : Array Value) (n : Nat), K.lookup a = some o ∧ o.cls = .type "tuple" ∧ o.dict = none ∧ o.data = .seq its n ∧ its.size ≤ sizeLine ∧ Vals xs its.toList
theorem SqD.sq {K : PySem.W.Frag} {H : Hp} {a : Addr} {xs : List V} (h : SqD K H a xs) : SqT K H a xs := by
  rcases h with ⟨o, h, _⟩ | ⟨o, its, n, h1, h2, _, h3, h4, h5⟩
  · exact .inl (.inr ⟨o, h⟩)
  · exact .inr ⟨o, its, n, h1, h2, h3, h4, h5⟩
mutual
/-- v is x, and stays it; F: the lists that are changed no more -/
inductive Rp (K : KW) (F : Addr → Prop) (H : Hp) : V → PyData → Prop
  | non : Rp K F H .non .none
  | bl (b : Bool) : Rp K F H (.bl b) (.bool b)
  | int (i : Int) : Rp K F H (.int i) (.int i)
  | str (x : Str) : Rp K F H (.str x) (.str x)
  | lst {a : Addr} {xs : List V} {ds : List PyData} : Rd H a (.lst xs) → F a → RpAll K F H xs ds → Rp K F H (.ref a) (.list ds)
  | tup {a : Addr} {xs : List V} {ds : List PyData} : SqD K H a xs → RpAll K F H xs ds → Rp K F H (.ref a) (.tuple ds)
  | dct {a : Addr} {es : List Ent3} {kvs : List (PyData × PyData)} : H a = some (dctO K.w a es) → F a → RpKV K F H es kvs → Rp K F H (.ref a) (.dict kvs)
inductive RpAll (K : KW) (F : Addr → Prop) (H : Hp) : List V → List PyData → Prop
  | nil : RpAll K F H [] []
  | cons {v : V} {vs : List V} {d : PyData} {ds : List PyData} : Rp K F H v d → RpAll K F H vs ds → RpAll K F H (v :: vs) (d :: ds)
inductive RpKV (K : KW) (F : Addr → Prop) (H : Hp) : List Ent3 → List (PyData × PyData) → Prop
  | nil : RpKV K F H [] []
  | cons {b : Addr} {v : V} {es : List Ent3} {k d : PyData} {kvs : List (PyData × PyData)} : keyOk k = true → Rp K F H (.ref b) k → Rp K F H v d → RpKV K F H es kvs → RpKV K F H ((nk k, b, v) :: es) ((k, d) :: kvs)
end
structure Kp (F : Addr → Prop) (H : Hp) (F' : Addr → Prop) (H' : Hp) : Prop where
  sub : ∀ a, F a → F' a
  tup : ∀ a xs, Rd H a (.tup xs) → Rd H' a (.tup xs)
  tupz : ∀ a o xs, H a = some (.frz o (.tup xs)) → H' a = some (.frz o (.tup xs))
  lst : ∀ a xs, F a → Rd H a (.lst xs) → Rd H' a (.lst xs)
  fz : ∀ a, F a → H a ≠ none → H' a = H a
section
variable {K : KW} {F F' : Addr → Prop} {H H' : Hp}
theorem some_ne {α : Type} {o : Option α} {x : α} (h : o = some x) : o ≠ none := by rw [h]; exact fun z => nomatch z
theorem SqT.keepK {a : Addr} {xs : List V} (k : Kp F H F' H') (h : SqT K H a xs) : SqT K H' a xs := by
  rcases h with h | h
  · exact .inl (k.tup a xs h)
  · exact .inr h
theorem SqD.keepK {a : Addr} {xs : List V} (k : Kp F H F' H') (h : SqD K H a xs) : SqD K H' a xs := by
  rcases h with ⟨o, h, hd⟩ | h
  · exact .inl ⟨o, k.tupz a o xs h, hd⟩
  · exact .inr h
mutual
theorem Rp.keep (k : Kp F H F' H') : ∀ (d : PyData) (v : V), Rp K F H v d → Rp K F' H' v d
  | .none, _, h => by cases h; exact .non
  | .bool b, _, h => by cases h; exact .bl b
  | .int i, _, h => by cases h; exact .int i
  | .str x, _, h => by cases h; exact .str x
  | .list ds, _, h => by
    cases h with
    | lst h1 h2 ha => exact .lst (k.lst _ _ h2 h1) (k.sub _ h2) (RpAll.keep k ds _ ha)
  | .tuple ds, _, h => by
    cases h with
    | tup hs ha => exact .tup (SqD.keepK k hs) (RpAll.keep k ds _ ha)
  | .dict kvs, _, h => by
    cases h with
    | dct h1 h2 ha => exact .dct (by rw [k.fz _ h2 (some_ne h1)]; exact h1) (k.sub _ h2) (RpKV.keep k kvs _ ha)
theorem RpKV.keep (k : Kp F H F' H') : ∀ (ds : List (PyData × PyData)) (vs : List Ent3), RpKV K F H vs ds → RpKV K F' H' vs ds
  | [], _, h => by cases h; exact .nil
  | (a, d) :: ds, _, h => by
    cases h with
    | cons h0 h1 h2 h3 => exact .cons h0 (Rp.keep k a _ h1) (Rp.keep k d _ h2) (RpKV.keep k ds _ h3)
theorem RpAll.keep (k : Kp F H F' H') : ∀ (ds : List PyData) (vs : List V), RpAll K F H vs ds → RpAll K F' H' vs ds
  | [], _, h => by cases h; exact .nil
  | d :: ds, _, h => by
    cases h with
    | cons h1 h2 => exact .cons (Rp.keep k d _ h1) (RpAll.keep k ds _ h2)
end
mutual
theorem Rp.dp : ∀ (d : PyData) (v : V), d.hasDict = false → Rp K F H v d → Dp K H v d
  | .none, _, _, h => by cases h; exact .non
  | .bool b, _, _, h => by cases h; exact .bl b
  | .int i, _, _, h => by cases h; exact .int i
  | .str x, _, _, h => by cases h; exact .str x
  | .list ds, _, hd, h => by
    simp only [PyData.hasDict] at hd
    cases h with
    | lst h1 h2 ha => exact .lst (.inl h1) (RpAll.dp ds _ hd ha)
  | .tuple ds, _, hd, h => by
    simp only [PyData.hasDict] at hd
    cases h with
    | tup hs ha => exact .tup hs.sq (RpAll.dp ds _ hd ha)
  | .dict _, _, hd, _ => by simp only [PyData.hasDict] at hd; cases hd
theorem RpAll.dp : ∀ (ds : List PyData) (vs : List V), PyData.hasDictAll ds = false → RpAll K F H vs ds → DpAll K H vs ds
  | [], _, _, h => by cases h; exact .nil
  | d :: ds, _, hd, h => by
    simp only [PyData.hasDictAll, Bool.or_eq_false_iff] at hd
    cases h with
    | cons h1 h2 => exact .cons (Rp.dp d _ hd.1 h1) (RpAll.dp ds _ hd.2 h2)
end
mutual
theorem lay_noDict : ∀ d : PyData, d.canLay0 = true → d.hasDict = false
  | .none, _ => by simp only [PyData.hasDict]
  | .bool _, _ => by simp only [PyData.hasDict]
  | .int _, _ => by simp only [PyData.hasDict]
  | .str _, _ => by simp only [PyData.hasDict]
  | .list xs, h => by simp only [PyData.canLay0] at h; simp only [PyData.hasDict]; exact lays_noDict xs h
  | .tuple xs, h => by simp only [PyData.canLay0] at h; simp only [PyData.hasDict]; exact lays_noDict xs h
  | .dict _, h => by simp only [PyData.canLay0] at h; cases h
theorem lays_noDict : ∀ ds : List PyData, PyData.canLayAll0 ds = true → PyData.hasDictAll ds = false
  | [], _ => by simp only [PyData.hasDictAll]
  | d :: ds, h => by
    simp only [PyData.canLayAll0, Bool.and_eq_true] at h
    simp only [PyData.hasDictAll, lay_noDict d h.1, lays_noDict ds h.2, Bool.or_self]
end
theorem shaped_noDict {d : PyData} (h : SeqAt.shaped d = true) : d.hasDict = false := by
  unfold SeqAt.shaped at h
  exact lay_noDict d (Bool.and_eq_true_iff.mp h).1
theorem RpAll.length : ∀ {ds : List PyData} {vs : List V}, RpAll K F H vs ds → vs.length = ds.length
  | [], _, h => by cases h; rfl
  | d :: ds, _, h => by
    cases h with
    | cons h1 h2 => rw [List.length_cons, List.length_cons, RpAll.length h2]
theorem RpAll.get : ∀ {ds : List PyData} {vs : List V} {i : Nat} {d : PyData}, RpAll K F H vs ds → ds[i]? = some d → ∃ v, vs[i]? = some v ∧ Rp K F H v d
  | [], _, i, d, _, e => by simp at e
  | x :: ds, _, 0, d, h, e => by
    cases h with
    | cons h1 h2 =>
      simp at e
      subst e
      exact ⟨_, rfl, h1⟩
  | x :: ds, _, i + 1, d, h, e => by
    cases h with
    | cons h1 h2 =>
      obtain ⟨v, h3, h4⟩ := RpAll.get (i := i) h2 (by simpa using e)
      exact ⟨v, by simpa using h3, h4⟩
theorem RpAll.get' : ∀ {ds : List PyData} {vs : List V} {i : Nat} {v : V}, RpAll K F H vs ds → vs[i]? = some v → ∃ d, ds[i]? = some d ∧ Rp K F H v d := fun {ds vs i v} h e => by
  have hl := h.length
  obtain ⟨hlt, _⟩ := List.getElem?_eq_some_iff.mp e
  have hd : ds[i]? = some ds[i] := List.getElem?_eq_getElem (by omega)
  obtain ⟨v', h1, h2⟩ := h.get hd
  rw [e] at h1
  cases h1
  exact ⟨_, hd, h2⟩
theorem RpAll.append : ∀ {ds es : List PyData} {vs us : List V}, RpAll K F H vs ds → RpAll K F H us es → RpAll K F H (vs ++ us) (ds ++ es)
  | [], _, _, _, h, g => by cases h; exact g
  | d :: ds, _, _, _, h, g => by
    cases h with
    | cons h1 h2 => exact .cons h1 (h2.append g)
theorem RpAll.take : ∀ {ds : List PyData} {vs : List V} (n : Nat), RpAll K F H vs ds → RpAll K F H (vs.take n) (ds.take n)
  | _, _, 0, h => by rw [List.take_zero, List.take_zero]; exact .nil
  | [], _, n + 1, h => by cases h; exact .nil
  | d :: ds, _, n + 1, h => by
    cases h with
    | cons h1 h2 => exact .cons h1 (h2.take n)
theorem RpAll.drop : ∀ {ds : List PyData} {vs : List V} (n : Nat), RpAll K F H vs ds → RpAll K F H (vs.drop n) (ds.drop n)
  | _, _, 0, h => h
  | [], _, n + 1, h => by cases h; exact .nil
  | d :: ds, _, n + 1, h => by
    cases h with
    | cons h1 h2 => exact h2.drop n
theorem RpAll.reverse : ∀ {ds : List PyData} {vs : List V}, RpAll K F H vs ds → RpAll K F H vs.reverse ds.reverse
  | [], _, h => by cases h; exact .nil
  | d :: ds, _, h => by
    cases h with
    | cons h1 h2 =>
      rw [List.reverse_cons, List.reverse_cons]
      exact h2.reverse.append (.cons h1 .nil)
theorem RpAll.set {x : PyData} {u : V} (r : Rp K F H u x) : ∀ {ds : List PyData} {vs : List V} (i : Nat), RpAll K F H vs ds → RpAll K F H (vs.set i u) (ds.set i x)
  | [], _, i, h => by cases h; exact .nil
  | d :: ds, _, 0, h => by
    cases h with
    | cons h1 h2 => exact .cons r h2
  | d :: ds, _, i + 1, h => by
    cases h with
    | cons h1 h2 => exact .cons h1 (h2.set r i)
theorem RpAll.rep {ds : List PyData} {vs : List V} (h : RpAll K F H vs ds) : ∀ n : Nat, RpAll K F H (List.replicate n vs).flatten (List.replicate n ds).flatten
  | 0 => .nil
  | n + 1 => by
    rw [List.replicate_succ, List.replicate_succ, List.flatten_cons, List.flatten_cons]
    exact h.append (h.rep n)
theorem RpAll.cut {ds : List PyData} {vs : List V} (h : RpAll K F H vs ds) (lo hi : Option Int) : RpAll K F H (cutV vs lo hi) (cutD ds lo hi) := by
  unfold cutV cutD
  rw [h.length]
  exact (h.drop _).take _
/-- an object that may still change -/
def RepC (K : KW) (F : Addr → Prop) (H : Hp) (a : Addr) : C → Prop
  | .lst xs => ∃ vs, H a = some (.lst vs) ∧ RpAll K F H vs xs
  | .dct kvs => ∃ es, H a = some (dctO K.w a es) ∧ RpKV K F H es kvs
theorem RepC.keep {a : Addr} {c : C} (k : Kp F H F' H') (e : H' a = H a) (h : RepC K F H a c) : RepC K F' H' a c := by
  cases c with
  | lst xs =>
    obtain ⟨vs, h1, h2⟩ := h
    exact ⟨vs, by rw [e]; exact h1, RpAll.keep k _ _ h2⟩
  | dct kvs =>
    obtain ⟨es, h1, h2⟩ := h
    exact ⟨es, by rw [e]; exact h1, RpKV.keep k _ _ h2⟩
theorem RepC.there {a : Addr} {c : C} (h : RepC K F H a c) : H a ≠ none := by
  cases c with
  | lst xs =>
    obtain ⟨vs, h1, h2⟩ := h
    rw [h1]
    exact fun z => nomatch z
  | dct kvs =>
    obtain ⟨es, h1, h2⟩ := h
    rw [h1]
    exact fun z => nomatch z
theorem RepC.noTup {a : Addr} {c : C} (h : RepC K F H a c) (vs : List V) : ¬ Rd H a (.tup vs) := by
  cases c with
  | lst xs =>
    obtain ⟨us, h1, h2⟩ := h
    rintro (z | ⟨o, z⟩) <;> (rw [h1] at z; cases z)
  | dct kvs =>
    obtain ⟨us, h1, h2⟩ := h
    rintro (z | ⟨o, z⟩) <;> (rw [h1] at z; unfold dctO at z; cases z)
/-- an object is frozen -/
theorem RepC.frz {a : Addr} {c : C} (h : RepC K F H a c) (hF : F a) : Rp K F H (.ref a) c.dat := by
  cases c with
  | lst xs =>
    obtain ⟨vs, h1, h2⟩ := h
    exact .lst (.inl h1) hF h2
  | dct kvs =>
    obtain ⟨es, h1, h2⟩ := h
    exact .dct h1 hF h2
end

/-- b: the objects that this frame has borrowed; o: those that it owns -/
structure Bs where
  b : Addr → Prop
  o : Addr → Prop
def Bs.u (B : Bs) (a : Addr) : Prop := B.b a ∨ B.o a
def Bs.dn (B : Bs) : Bs := ⟨B.u, fun _ => False⟩

structure StOk (K : KW) (F : Addr → Prop) (β : List Addr) (B : Bs) (H : Hp) (st : Stt) : Prop where
  len : β.length = st.length
  nd : β.Nodup
  nf : ∀ a ∈ β, ¬ F a
  ob : ∀ a, B.u a → a ∉ β ∧ ¬ F a ∧ H a ≠ none
  ft : ∀ a, F a → H a ≠ none
  at_ : ∀ (n : Nat) (a : Addr) (c : C), β[n]? = some a → st[n]? = some c → RepC K F H a c
structure Ext (F : Addr → Prop) (β : List Addr) (H : Hp) (F' : Addr → Prop) (H' : Hp) : Prop where
  sub : ∀ a, F a → F' a
  new : ∀ a, F' a → F a ∨ (a ∉ β ∧ H a = none)
  un : ∀ a, a ∉ β → H a ≠ none → H' a = H a
section
variable {K : KW} {F F' F1 F2 : Addr → Prop} {H H' H1 H2 : Hp} {β : List Addr} {B : Bs} {st : Stt}
theorem StOk.mem (s : StOk K F β B H st) {a : Addr} (h : a ∈ β) : ∃ c, RepC K F H a c := by
  obtain ⟨n, hn, e⟩ := List.mem_iff_getElem.mp h
  have e1 : β[n]? = some a := by rw [List.getElem?_eq_getElem hn, e]
  have e2 : st[n]? = some (st[n]'(by rw [← s.len]; exact hn)) := List.getElem?_eq_getElem _
  exact ⟨_, s.at_ n a _ e1 e2⟩
theorem Ext.refl : Ext F β H F H := ⟨fun _ h => h, fun _ h => .inl h, fun _ _ _ => rfl⟩
theorem Ext.trans (e : Ext F β H F1 H1) (g : Ext F1 β H1 F2 H2) : Ext F β H F2 H2 where
  sub := fun a h => g.sub a (e.sub a h)
  new := fun a h => by
    rcases g.new a h with h | ⟨h1, h2⟩
    · exact e.new a h
    · refine .inr ⟨h1, ?_⟩
      cases q : H a with
      | none => rfl
      | some o =>
        have := e.un a h1 (by rw [q]; exact fun z => nomatch z)
        rw [h2, q] at this
        cases this
  un := fun a h1 h2 => by
    have e1 := e.un a h1 h2
    rw [g.un a h1 (by rw [e1]; exact h2), e1]
theorem Ext.none_back (e : Ext F β H F1 H1) {a : Addr} (h1 : a ∉ β) (h2 : H1 a = none) : H a = none := by
  cases q : H a with
  | none => rfl
  | some o =>
    have := e.un a h1 (by rw [q]; exact fun z => nomatch z)
    rw [h2, q] at this
    cases this
theorem rd_there {H : Hp} {a : Addr} {u : HO} (h : Rd H a u) : H a ≠ none := by
  rcases h with h | ⟨o, h⟩ <;> (rw [h]; exact fun z => nomatch z)
theorem rd_eq {H H' : Hp} {a : Addr} {u : HO} (h : Rd H a u) (e : H' a = H a) : Rd H' a u := by
  unfold Rd
  rw [e]
  exact h
theorem Ext.kp (e : Ext F β H F' H') (s : StOk K F β B H st) : Kp F H F' H' where
  sub := e.sub
  tup := fun a xs h => rd_eq h (e.un a (fun hm => let ⟨c, hc⟩ := s.mem hm; hc.noTup xs h) (rd_there h))
  tupz := fun a o xs h => (e.un a (fun hm => let ⟨c, hc⟩ := s.mem hm; hc.noTup xs (.inr ⟨o, h⟩)) (some_ne h)).trans h
  lst := fun a xs hF h => rd_eq h (e.un a (fun hm => s.nf a hm hF) (rd_there h))
  fz := fun a hF h => e.un a (fun hm => s.nf a hm hF) h
/-- a new object is laid -/
theorem Ext.laid {p : Addr} {o : HO} (hp : H p = none) : Ext F β H F (upd H p o) :=
  ⟨fun _ h => h, fun _ h => .inl h, fun a _ h => upd_ne fun e => h (by rw [e]; exact hp)⟩
theorem StOk.keep (s : StOk K F β B H st) (e : Ext F β H F' H') (hb : ∀ a ∈ β, H' a = H a) (hf : ∀ a, F' a → H' a ≠ none) : StOk K F' β B H' st where
  ft := hf
  len := s.len
  nd := s.nd
  nf := fun a h hF => by
    rcases e.new a hF with z | ⟨z, _⟩
    · exact s.nf a h z
    · exact z h
  ob := fun a h => by
    obtain ⟨h1, h2, h3⟩ := s.ob a h
    refine ⟨h1, fun hF => ?_, by rw [e.un a h1 h3]; exact h3⟩
    rcases e.new a hF with z | ⟨_, z⟩
    · exact h2 z
    · exact h3 z
  at_ := fun n a c e1 e2 => (s.at_ n a c e1 e2).keep (e.kp s) (hb a (List.mem_of_getElem? e1))
theorem StOk.laid {p : Addr} {o : HO} (s : StOk K F β B H st) (hp : H p = none) : StOk K F β B (upd H p o) st :=
  s.keep (Ext.laid hp) (fun a h => upd_ne fun e => by
    obtain ⟨c, hc⟩ := s.mem h
    exact hc.there (by rw [e]; exact hp)) fun a h => by
    have h1 := s.ft a h
    rw [upd_ne fun e => h1 (by rw [e]; exact hp)]
    exact h1
end

/-- a value -/
def RepV (K : KW) (F : Addr → Prop) (β : List Addr) (B : Bs) (H : Hp) (v : V) : W → Prop
  | .d x => Rp K F H v x
  | .new c => ∃ a, v = .ref a ∧ RepC K F H a c ∧ a ∉ β ∧ ¬ F a
  | .bor c => ∃ a, v = .ref a ∧ RepC K F H a c ∧ B.b a
  | .own c => ∃ a, v = .ref a ∧ RepC K F H a c ∧ B.o a
  | .lent c => ∃ a, v = .ref a ∧ RepC K F H a c ∧ B.o a
  | .loc n => ∃ a, v = .ref a ∧ β[n]? = some a
  | .fn n => ∃ a, v = .ref a ∧ K.mg n = some (.ref a)
/-- a new object is new since H -/
def Fresh (H : Hp) (v : V) : W → Prop
  | .new _ => ∀ a, v = .ref a → H a = none
  | .own _ => False
  | _ => True
def RR (K : KW) (β : List Addr) (B : Bs) (H : Hp) (F' : Addr → Prop) (H' : Hp) (v : V) (w : W) : Prop := RepV K F' β B H' v w ∧ Fresh H v w
inductive RL (K : KW) (β : List Addr) (B : Bs) (H : Hp) (F' : Addr → Prop) (H' : Hp) : List V → List W → Prop
  | nil : RL K β B H F' H' [] []
  | cons {v : V} {w : W} {vs : List V} {ws : List W} : RR K β B H F' H' v w → RL K β B H F' H' vs ws → RL K β B H F' H' (v :: vs) (w :: ws)
def REq {α : Type} (_ : Hp) (_ : Addr → Prop) (_ : Hp) (v w : α) : Prop := v = w
/-- an exception: its class by its name, its fields -/
def ExRep (K : KW) (mg : Str → Option Value) (F : Addr → Prop) (H : Hp) (x : XV) (c : Value) (d : Option Addr) : Prop :=
  ∃ C, mg x.cls = some (.ref C) ∧ c = .ref C ∧ ∃ dx fvs, d = some dx ∧ H dx = some (.xd fvs) ∧ fvs.map (·.1) = x.fs.map (·.1) ∧ RpAll K F H (fvs.map (·.2)) (x.fs.map (·.2))

section
variable {K : KW} {F F' F1 F2 : Addr → Prop} {H H' H1 H2 : Hp} {β : List Addr} {B : Bs} {st : Stt}
theorem RepV.ob {v : V} {c : C} (h : ∃ a, v = V.ref a ∧ RepC K F H a c ∧ a ∉ β ∧ ¬ F a) (k : Kp F H F' H') (e : Ext F β H F' H') : ∃ a, v = V.ref a ∧ RepC K F' H' a c ∧ a ∉ β ∧ ¬ F' a := by
  obtain ⟨a, h1, h2, h3, h4⟩ := h
  refine ⟨a, h1, h2.keep k (e.un a h3 h2.there), h3, fun hF => ?_⟩
  rcases e.new a hF with z | ⟨_, z⟩
  · exact h4 z
  · exact h2.there z
theorem RepV.lnt {v : V} {c : C} {P : Addr → Prop} (hP : ∀ a, P a → B.u a) (h : ∃ a, v = V.ref a ∧ RepC K F H a c ∧ P a) (s : StOk K F β B H st) (k : Kp F H F' H') (e : Ext F β H F' H') : ∃ a, v = V.ref a ∧ RepC K F' H' a c ∧ P a := by
  obtain ⟨a, h1, h2, h3⟩ := h
  exact ⟨a, h1, h2.keep k (e.un a (s.ob a (hP a h3)).1 h2.there), h3⟩
theorem RepV.keep {v : V} {w : W} (h : RepV K F β B H v w) (e : Ext F β H F' H') (s : StOk K F β B H st) : RepV K F' β B H' v w := by
  have k := e.kp s
  cases w with
  | d x => exact Rp.keep k _ _ h
  | new c => exact RepV.ob h k e
  | bor c => exact RepV.lnt (fun _ => .inl) h s k e
  | own c => exact RepV.lnt (fun _ => .inr) h s k e
  | lent c => exact RepV.lnt (fun _ => .inr) h s k e
  | loc n => exact h
  | fn n => exact h
/-- read now, the items to stay -/
def RdP (K : KW) (F : Addr → Prop) (H : Hp) (v : V) (x : PyData) : Prop :=
  Rp K F H v x ∨ (∃ a vs xs, v = .ref a ∧ x = .list xs ∧ H a = some (.lst vs) ∧ RpAll K F H vs xs) ∨ ∃ a es kvs, v = .ref a ∧ x = .dict kvs ∧ H a = some (dctO K.w a es) ∧ RpKV K F H es kvs
theorem RdP.dp {v : V} {x : PyData} (hd : x.hasDict = false) (h : RdP K F H v x) : Dp K H v x := by
  rcases h with h | ⟨a, vs, xs, rfl, rfl, h1, h2⟩ | ⟨a, es, kvs, rfl, rfl, h1, h2⟩
  · exact Rp.dp _ _ hd h
  · simp only [PyData.hasDict] at hd
    exact .lst (.inl (.inl h1)) (RpAll.dp _ _ hd h2)
  · simp only [PyData.hasDict] at hd; cases hd
theorem RepC.rdp {a : Addr} {c : C} (h : RepC K F H a c) : RdP K F H (.ref a) c.dat := by
  cases c with
  | lst xs =>
    obtain ⟨vs, h1, h2⟩ := h
    exact .inr (.inl ⟨a, vs, xs, rfl, rfl, h1, h2⟩)
  | dct kvs =>
    obtain ⟨es, h1, h2⟩ := h
    exact .inr (.inr ⟨a, es, kvs, rfl, rfl, h1, h2⟩)
theorem RepV.rdp {v : V} {w : W} {x : PyData} (h : RepV K F β B H v w) (s : StOk K F β B H st) (e : w.rd st = some x) : RdP K F H v x := by
  cases w with
  | d y => cases e; exact .inl h
  | new c => cases e; obtain ⟨a, rfl, h2, _⟩ := h; exact h2.rdp
  | bor c => cases e; obtain ⟨a, rfl, h2, _⟩ := h; exact h2.rdp
  | lent c => cases e; obtain ⟨a, rfl, h2, _⟩ := h; exact h2.rdp
  | own c => cases e
  | loc n =>
    obtain ⟨a, rfl, h2⟩ := h
    cases q : st[n]? with
    | none => rw [W.rd, q] at e; cases e
    | some c =>
      rw [W.rd, q] at e
      cases e
      exact (s.at_ n a c h2 q).rdp
  | fn n => cases e
/-- a list that is read -/
theorem RdP.list {v : V} {xs : List PyData} (h : RdP K F H v (.list xs)) : ∃ a vs, v = .ref a ∧ Rd H a (.lst vs) ∧ RpAll K F H vs xs := by
  rcases h with h | ⟨a, vs, ys, rfl, e, h1, h2⟩ | ⟨a, es, kvs, rfl, e, h1, h2⟩
  · cases h with
    | lst h1 h2 ha => exact ⟨_, _, rfl, h1, ha⟩
  · cases e
    exact ⟨a, vs, rfl, .inl h1, h2⟩
  · cases e
theorem RdP.tuple {v : V} {xs : List PyData} (h : RdP K F H v (.tuple xs)) : ∃ a vs, v = .ref a ∧ SqD K H a vs ∧ RpAll K F H vs xs := by
  rcases h with h | ⟨a, vs, ys, rfl, e, h1, h2⟩ | ⟨a, es, kvs, rfl, e, h1, h2⟩
  · cases h with
    | tup hs ha => exact ⟨_, _, rfl, hs, ha⟩
  · cases e
  · cases e
theorem RdP.int {v : V} {i : Int} (h : RdP K F H v (.int i)) : v = .int i := by
  rcases h with h | ⟨a, vs, ys, rfl, e, h1, h2⟩ | ⟨a, es, kvs, rfl, e, h1, h2⟩
  · cases h; rfl
  · cases e
  · cases e
theorem RdP.bl {v : V} {i : Bool} (h : RdP K F H v (.bool i)) : v = .bl i := by
  rcases h with h | ⟨a, vs, ys, rfl, e, h1, h2⟩ | ⟨a, es, kvs, rfl, e, h1, h2⟩
  · cases h; rfl
  · cases e
  · cases e
theorem RdP.str {v : V} {i : Str} (h : RdP K F H v (.str i)) : v = .str i := by
  rcases h with h | ⟨a, vs, ys, rfl, e, h1, h2⟩ | ⟨a, es, kvs, rfl, e, h1, h2⟩
  · cases h; rfl
  · cases e
  · cases e
theorem RdP.non {v : V} (h : RdP K F H v .none) : v = .non := by
  rcases h with h | ⟨a, vs, ys, rfl, e, h1, h2⟩ | ⟨a, es, kvs, rfl, e, h1, h2⟩
  · cases h; rfl
  · cases e
  · cases e
theorem RdP.dict {v : V} {kvs : List (PyData × PyData)} (h : RdP K F H v (.dict kvs)) : ∃ a es, v = .ref a ∧ H a = some (dctO K.w a es) ∧ RpKV K F H es kvs := by
  rcases h with h | ⟨a, vs, ys, rfl, e, h1, h2⟩ | ⟨a, es, kvs', rfl, e, h1, h2⟩
  · cases h with
    | dct h1 h2 ha => exact ⟨_, _, rfl, h1, ha⟩
  · cases e
  · cases e; exact ⟨a, es, rfl, h1, h2⟩
theorem Fresh.back {v : V} {w : W} (h : RR K β B H1 F' H' v w) (e : Ext F β H F1 H1) : RR K β B H F' H' v w := by
  refine ⟨h.1, ?_⟩
  obtain ⟨hr, h⟩ := h
  cases w with
  | new c =>
    obtain ⟨a, rfl, h2, h3, h4⟩ := hr
    intro b eb
    cases eb
    exact e.none_back h3 (h a rfl)
  | own c => exact h
  | d x => trivial
  | bor c => trivial
  | lent c => trivial
  | loc n => trivial
  | fn n => trivial
theorem RL.back {vs : List V} {ws : List W} (h : RL K β B H1 F' H' vs ws) (e : Ext F β H F1 H1) : RL K β B H F' H' vs ws := by
  induction h with
  | nil => exact .nil
  | cons a _ ih => exact .cons (Fresh.back a e) ih
theorem RR.keep {v : V} {w : W} {H0 : Hp} (h : RR K β B H0 F H v w) (e : Ext F β H F' H') (s : StOk K F β B H st) : RR K β B H0 F' H' v w := ⟨h.1.keep e s, h.2⟩
theorem RL.keep {vs : List V} {ws : List W} {H0 : Hp} (h : RL K β B H0 F H vs ws) (e : Ext F β H F' H') (s : StOk K F β B H st) : RL K β B H0 F' H' vs ws := by
  induction h with
  | nil => exact .nil
  | cons a _ ih => exact .cons (a.keep e s) ih

/-- what is asked of what comes behind a piece of the semantics -/
def Post {α τ : Type} (K : KW) (mg : Str → Option Value) (β : List Addr) (B : Bs) (rep : Hp → (Addr → Prop) → Hp → τ → α → Prop) (F : Addr → Prop) (H : Hp) (wx : Value → Option Addr → Hp → Prop) (r : Res α) (Q : τ → Hp → Prop) : Prop :=
  match r with
  | .ok w st' => ∀ v F' H', Ext F β H F' H' → StOk K F' β B H' st' → rep H F' H' v w → Q v H'
  | .ex x st' => ∀ c d F' H', Ext F β H F' H' → StOk K F' β B H' st' → ExRep K mg F' H' x c d → wx c d H'
  | .bad => False
def Back {α τ : Type} (β : List Addr) (rep : Hp → (Addr → Prop) → Hp → τ → α → Prop) : Prop := ∀ (F : Addr → Prop) (H : Hp) (F1 : Addr → Prop) (H1 : Hp) (F' : Addr → Prop) (H' : Hp) v w, Ext F β H F1 H1 → rep H1 F' H' v w → rep H F' H' v w
theorem back_RR : Back β (RR K β B) := fun _ _ _ _ _ _ _ _ e h => Fresh.back h e
theorem back_RL : Back β (RL K β B) := fun _ _ _ _ _ _ _ _ e h => RL.back h e
theorem back_REq {α : Type} : Back (α := α) β REq := fun _ _ _ _ _ _ _ _ _ h => h
variable {mg : Str → Option Value} {wx : Value → Option Addr → Hp → Prop}
theorem Post.imp {α τ : Type} {rep : Hp → (Addr → Prop) → Hp → τ → α → Prop} {r : Res α} {Q Q' : τ → Hp → Prop} (h : Post K mg β B rep F H wx r Q) (hq : ∀ v H, Q v H → Q' v H) : Post K mg β B rep F H wx r Q' := by
  cases r with
  | ok w st => exact fun v F' H' a b c => hq _ _ (h v F' H' a b c)
  | ex x st => exact h
  | bad => exact h
/-- later: from a state that came of this one -/
theorem Post.later {α τ : Type} {rep : Hp → (Addr → Prop) → Hp → τ → α → Prop} {r : Res α} {Q : τ → Hp → Prop} (hb : Back β rep) (h : Post K mg β B rep F H wx r Q) (e : Ext F β H F1 H1) : Post K mg β B rep F1 H1 wx r Q := by
  cases r with
  | ok w st => exact fun v F' H' a b c => h v F' H' (e.trans a) b (hb _ _ _ _ _ _ _ _ e c)
  | ex x st => exact fun c d F' H' a b r => h c d F' H' (e.trans a) b r
  | bad => exact h
/-- step: the first part of a sequence -/
theorem Post.step {α β' τ τ' : Type} {rep : Hp → (Addr → Prop) → Hp → τ → α → Prop} {rep' : Hp → (Addr → Prop) → Hp → τ' → β' → Prop} {r : Res α} {k : α → Stt → Res β'} {Q : τ' → Hp → Prop} (hb : Back β rep') (h : Post K mg β B rep' F H wx (r.bind k) Q) :
    Post K mg β B rep F H wx r (fun v H1 => ∃ w st1 F1, Ext F β H F1 H1 ∧ StOk K F1 β B H1 st1 ∧ rep H F1 H1 v w ∧ Post K mg β B rep' F H wx (k w st1) Q) := by
  cases r with
  | ok w st => exact fun v F' H' a b c => ⟨w, st, F', a, b, c, h⟩
  | ex x st => exact h
  | bad => exact h
/-- a pure end -/
theorem Post.done {α τ : Type} {rep : Hp → (Addr → Prop) → Hp → τ → α → Prop} {Q : τ → Hp → Prop} {w : α} {st : Stt} {v : τ} (h : Post K mg β B rep F H wx (.ok w st) Q) (s : StOk K F β B H st) (r : rep H F H v w) : Q v H := h v F H Ext.refl s r
theorem Post.doneX {α τ : Type} {rep : Hp → (Addr → Prop) → Hp → τ → α → Prop} {Q : τ → Hp → Prop} {w : α} {st : Stt} {v : τ} (h : Post K mg β B rep F H wx (.ok w st) Q) (e : Ext F β H F' H') (s : StOk K F' β B H' st) (r : rep H F' H' v w) : Q v H' := h v F' H' e s r
theorem Post.ofO {α τ : Type} {rep : Hp → (Addr → Prop) → Hp → τ → α → Prop} {Q : τ → Hp → Prop} {st : Stt} {o : Option α} (h : Post K mg β B rep F H wx (Res.ofO st o) Q) : ∃ w, o = some w ∧ Post K mg β B rep F H wx (.ok w st) Q := by
  cases o with
  | none => exact h.elim
  | some w => exact ⟨w, rfl, h⟩
end

section
variable {K : KW} {F F' F1 F2 : Addr → Prop} {H H' H1 H2 : Hp} {β : List Addr} {B : Bs} {st : Stt}
/-- all that is new since H is frozen -/
def frzF (F1 : Addr → Prop) (β : List Addr) (H H1 : Hp) : Addr → Prop := fun a => F1 a ∨ (a ∉ β ∧ H a = none ∧ H1 a ≠ none)
theorem frz_ext (e : Ext F β H F1 H1) : Ext F β H (frzF F1 β H H1) H1 where
  sub := fun a h => .inl (e.sub a h)
  new := fun a h => h.elim (e.new a) fun z => .inr ⟨z.1, z.2.1⟩
  un := e.un
theorem frz_st (hB : ∀ a, B.u a → H a ≠ none) (s : StOk K F1 β B H1 st) : StOk K (frzF F1 β H H1) β B H1 st where
  len := s.len
  nd := s.nd
  ft := fun a h => h.elim (s.ft a) fun z => z.2.2
  nf := fun a h hF => hF.elim (s.nf a h) fun z => z.1 h
  ob := fun a h => ⟨(s.ob a h).1, fun hF => hF.elim (s.ob a h).2.1 fun z => hB a h z.2.1, (s.ob a h).2.2⟩
  at_ := fun n b c e1 e2 => (s.at_ n b c e1 e2).keep ⟨fun _ h => .inl h, fun _ _ h => h, fun _ _ _ h => h, fun _ _ _ h => h, fun _ _ _ => rfl⟩ rfl
theorem frz_kp : Kp F1 H1 (frzF F1 β H H1) H1 := ⟨fun _ h => .inl h, fun _ _ h => h, fun _ _ _ h => h, fun _ _ _ h => h, fun _ _ _ => rfl⟩
theorem RR.py {v : V} {w : W} {x : PyData} (h : RR K β B H F1 H1 v w) (e : w.py = some x) : Rp K (frzF F1 β H H1) H1 v x := by
  obtain ⟨hr, hf⟩ := h
  cases w with
  | d y => cases e; exact Rp.keep frz_kp _ _ hr
  | new c =>
    cases e
    obtain ⟨a, rfl, h2, h3, h4⟩ := hr
    exact (h2.keep frz_kp rfl).frz (.inr ⟨h3, hf a rfl, h2.there⟩)
  | _ => cases e
theorem RL.py : ∀ {ws : List W} {vs : List V} {xs : List PyData}, RL K β B H F1 H1 vs ws → pyAll ws = some xs → RpAll K (frzF F1 β H H1) H1 vs xs
  | [], _, _, h, e => by cases h; cases e; exact .nil
  | w :: ws, _, _, h, e => by
    cases h with
    | cons h1 h2 =>
      unfold pyAll at e
      obtain ⟨x, e1, e2⟩ := Option.bind_eq_some_iff.mp e
      obtain ⟨ys, e3, rfl⟩ := Option.map_eq_some_iff.mp e2
      exact .cons (h1.py e1) (RL.py h2 e3)
/-- arguments -/
inductive RA (K : KW) (F : Addr → Prop) (β : List Addr) (B : Bs) (H : Hp) : List V → List W → Prop
  | nil : RA K F β B H [] []
  | cons {v : V} {w : W} {vs : List V} {ws : List W} : RepV K F β B H v w → ((∃ x, w = .d x) ∨ (∃ c, w = .bor c) ∨ (∃ n, w = .loc n) ∨ ∃ n, w = .fn n) → RA K F β B H vs ws → RA K F β B H (v :: vs) (w :: ws)
/-- .. what is lent stands apart from all that is new -/
theorem RL.args : ∀ {ws : List W} {vs : List V} {as : List W}, RL K β B H F1 H1 vs ws → argAll ws = some as → RA K (frzF F1 β H H1) β B.dn H1 vs as
  | [], _, _, h, e => by cases h; cases e; exact .nil
  | w :: ws, _, _, h, e => by
    cases h with
    | @cons v _ vs _ h1 h2 =>
      unfold argAll at e
      obtain ⟨x, e1, e2⟩ := Option.bind_eq_some_iff.mp e
      obtain ⟨ys, e3, rfl⟩ := Option.map_eq_some_iff.mp e2
      have rest := RL.args h2 e3
      have lent : ∀ (P : Addr → Prop), (∀ a, P a → B.u a) → ∀ c, (∃ a, v = V.ref a ∧ RepC K F1 H1 a c ∧ P a) → RepV K (frzF F1 β H H1) β B.dn H1 v (.bor c) := fun P hP c q => by
        obtain ⟨a, rfl, q2, q3⟩ := q
        exact ⟨a, rfl, q2.keep frz_kp rfl, hP a q3⟩
      cases w with
      | d y => cases e1; exact .cons (h1.py rfl) (.inl ⟨_, rfl⟩) rest
      | new c => cases e1; exact .cons (h1.py (w := .new c) rfl) (.inl ⟨_, rfl⟩) rest
      | bor c => cases e1; exact .cons (lent _ (fun _ => .inl) c h1.1) (.inr (.inl ⟨_, rfl⟩)) rest
      | lent c => cases e1; exact .cons (lent _ (fun _ => .inr) c h1.1) (.inr (.inl ⟨_, rfl⟩)) rest
      | loc n => cases e1; exact .cons h1.1 (.inr (.inr (.inl ⟨_, rfl⟩))) rest
      | fn n => cases e1; exact .cons h1.1 (.inr (.inr (.inr ⟨_, rfl⟩))) rest
      | own c => cases e1
end

/-- a frame -/
structure RelE (K : KW) (F : Addr → Prop) (β : List Addr) (B : Bs) (ρ : Rho) (st : Stt) (σ : L2.St) (H : Hp) : Prop where
  len : ρ.length = σ.length
  slot : ∀ (i : Nat) (w : W), ρ[i]? = some (some w) → ∃ v, σ[i]? = some (some v) ∧ RepV K F β B H v w
  rest : ∀ (i : Nat) (w : W), ρ[i]? = some (some w) → (∀ c, w ≠ .new c) ∧ ∀ c, w ≠ .lent c
  apart : ∀ (i j : Nat) (c c' : C) (a : Addr), ρ[i]? = some (some (.own c)) → σ[i]? = some (some (V.ref a)) → ρ[j]? = some (some (.own c')) → σ[j]? = some (some (V.ref a)) → i = j
  st : StOk K F β B H st
section
variable {K : KW} {F F' F1 : Addr → Prop} {H H' H1 : Hp} {β : List Addr} {B : Bs} {st st' : Stt} {ρ : Rho} {σ : L2.St}
theorem RelE.ext (R : RelE K F β B ρ st σ H) (e : Ext F β H F' H') (s : StOk K F' β B H' st') : RelE K F' β B ρ st' σ H' :=
  ⟨R.len, fun i w h => let ⟨v, h1, h2⟩ := R.slot i w h; ⟨v, h1, h2.keep e R.st⟩, R.rest, R.apart, s⟩
end
/-- the readings -/
def tE (K : KW) (mg : Str → Option Value) (wx : WX) (f : Rho → Stt → Res W) : TE := fun σ H Q => ∃ F β B ρ st, RelE K F β B ρ st σ H ∧ Post K mg β B (RR K β B) F H (fun c d H' => wx c d σ H') (f ρ st) Q
def tT (K : KW) (mg : Str → Option Value) (wx : WX) (f : Rho → Stt → Res Bool) : TT := fun σ H Q => ∃ F β B ρ st, RelE K F β B ρ st σ H ∧ Post K mg β B REq F H (fun c d H' => wx c d σ H') (f ρ st) Q
def tAs (K : KW) (mg : Str → Option Value) (wx : WX) (f : Rho → Stt → Res (List W)) : TA := fun σ H Q => ∃ F β B ρ st, RelE K F β B ρ st σ H ∧ Post K mg β B (RL K β B) F H (fun c d H' => wx c d σ H') (f ρ st) Q
end Gm

/-! The deep layer, part C: operations on values. -/
namespace Gm
open PySem PySem.Spec PyProof.Rows L2
section
variable {K : KW} {F : Addr → Prop} {H : Hp} {β : List Addr} {B : Bs} {st : Stt} {mg : Str → Option Value} {wx : Value → Option Addr → Hp → Prop} {Q : VK}
theorem fin_d {v : V} {x : PyData} (s : StOk K F β B H st) (h : Post K mg β B (RR K β B) F H wx (.ok (.d x) st) Q) (r : Rp K F H v x) : Q v H := Post.done h s ⟨r, trivial⟩
theorem StOk.noB (s : StOk K F β B H st) {p : Addr} (hp : H p = none) : p ∉ β := fun hm => by
  obtain ⟨c, hc⟩ := s.mem hm
  exact hc.there hp
theorem fin_new {xs : List PyData} {vs : List V} {p : Addr} (s : StOk K F β B H st) (h : Post K mg β B (RR K β B) F H wx (.ok (.new (.lst xs)) st) Q) (ra : RpAll K F H vs xs) (hp : H p = none) : Q (.ref p) (upd H p (.lst vs)) := by
  have e : Ext F β H F (upd H p (.lst vs)) := Ext.laid hp
  refine Post.doneX h e (s.laid hp) ⟨⟨p, rfl, ⟨vs, upd_same, RpAll.keep (e.kp s) _ _ ra⟩, s.noB hp, fun hF => s.ft p hF hp⟩, fun a ea => ?_⟩
  cases ea
  exact hp
theorem fin_tup {xs : List PyData} {vs : List V} {p : Addr} {o : Obj} (s : StOk K F β B H st) (h : Post K mg β B (RR K β B) F H wx (.ok (.d (.tuple xs)) st) Q) (ra : RpAll K F H vs xs) (hp : H p = none) (ho : o.dict = none) : Q (.ref p) (upd H p (.frz o (.tup vs))) := by
  have e : Ext F β H F (upd H p (.frz o (.tup vs))) := Ext.laid hp
  exact Post.doneX h e (s.laid hp) ⟨.tup (.inl ⟨o, upd_same, ho⟩) (RpAll.keep (e.kp s) _ _ ra), trivial⟩
end

/-! ### tuples that are made: their own object has no dict -/
abbrev NewT (xs : List V) (H : Hp) (Q : VK) : Prop := ∀ p (o : Obj), H p = none → o.dict = none → Q (.ref p) (upd H p (.frz o (.tup xs)))
section
variable {X : Cx} {pins : List (Addr × Obj)} {σ : L2.St} {H : Hp} {s : Shared} {Q : VK}
theorem ep_tup (I : Inv X pins σ H s) {xs : List V} {its : List Value} (hz : xs.length ≤ sizeLine) (r : Vals xs its) (q : NewT xs H Q) : EP X pins σ Q (.ref s.heap.objs.size) { s with heap := s.heap.push { cls := .type "tuple", data := .seq its.toArray } } := by
  have new : Inv X pins σ (upd H s.heap.objs.size (.frz { cls := .type "tuple", data := .seq its.toArray } (.tup xs))) { s with heap := s.heap.push { cls := .type "tuple", data := .seq its.toArray } } :=
    I.laid (t' := s.toks) (fun b ob z => Heap.get?_push_of_some _ z) (Nat.le_refl _) ⟨Heap.get?_push_size _ rfl, hz, its, r, IsTup.new _ _⟩
  exact ⟨.ref s.heap.objs.size, _, new, rfl, q _ _ (I.hok.fresh (Nat.le_refl _)) rfl⟩
def tTupD (t : L2.St → Hp → (List V → Hp → Prop) → Prop) : TE := fun σ H Q => t σ H fun xs H1 => xs.length ≤ sizeLine ∧ NewT xs H1 Q
theorem pe_tupD {xs : List Expr} {k : Nat} {pos : Pos} {t} (h : PA X xs t) : PE X (.Tuple xs k pos) (tTupD t) :=
  ⟨fun pins s σ H Q I hq => wpAny_Tuple_spliced (thn (h.run pos pins s σ H _ I hq) fun us s1 ⟨vs, H1, I1, r, hz, q⟩ => ⟨by rw [← r.length]; exact hz, ep_tup I1 hz r q⟩)⟩
theorem call_tuple_D : CallR X (.type "tuple") (fun xs H Q => ∃ p ys, xs = [.ref p] ∧ ((SqL X.K H p ys ∧ NewT ys H Q) ∨ (SqT X.K H p ys ∧ Q (.ref p) H))) := by
  intro pins s σ H args us Q I r h
  obtain ⟨p, ys, rfl, h⟩ := h
  obtain ⟨u, rfl, rx⟩ := vals1 r
  cases rx
  rcases h with ⟨hq, q⟩ | ⟨hq, q⟩
  · obtain ⟨its, ri, pl, hz⟩ := I.list hq
    have hlen := ri.length
    exact call_tuple_list pl.isList (fun h2 kp => ep_tup (I.kept (t' := s.toks) kp) hz ri q) (by simp only [List.size_toArray] <;> omega)
  · obtain ⟨its, ri, pl, hz⟩ := I.tuple hq
    exact call_tuple_same pl ⟨.ref p, H, I, rfl, q⟩
def rCatD (K : KW) : R2 := fun x y H Q => ∃ a b xs ys, x = .ref a ∧ y = .ref b ∧ SqT K H a xs ∧ SqT K H b ys ∧ xs.length + ys.length ≤ sizeLine ∧ (xs = [] → Q (.ref b) H) ∧ (xs ≠ [] → ys = [] → Q (.ref a) H) ∧ (xs ≠ [] → ys ≠ [] → NewT (xs ++ ys) H Q)
theorem op_catD : OpR X (binaryOp .Add) (rCatD (kw X)) := by
  intro pins s σ H x y v u Q I rx ry h
  obtain ⟨a, b, xs, ys, rfl, rfl, ha, hb, hl, g0, g1, g2⟩ := h
  cases rx
  cases ry
  obtain ⟨is, r1, p1, _⟩ := I.tuple ha
  obtain ⟨js, r2, p2, _⟩ := I.tuple hb
  by_cases hx : xs = []
  · subst hx
    cases r1
    exact cat_tup0 p1 p2 ⟨.ref b, H, I, rfl, g0 rfl⟩
  · exact HT.cat_tup p1 p2 (fun w => hx (r1.nil_iff.mp w)) (fun w => ⟨.ref a, H, I, rfl, g1 hx (r2.nil_iff.mp w)⟩) (fun w => ep_tup I (by rw [List.length_append]; exact hl) (r1.append r2) (g2 hx fun e => w (r2.nil_iff.mpr e))) (by rw [← r1.length, ← r2.length]; exact hl)
def rSlD (K : KW) : V → Option Int → Option Int → Hp → VK → Prop := fun x lo hi H Q => ∃ a xs, x = .ref a ∧ SqT K H a xs ∧ (HT.sIx xs.length 0 lo = 0 ∧ HT.sIx xs.length xs.length hi = xs.length → Q (.ref a) H) ∧ (¬ (HT.sIx xs.length 0 lo = 0 ∧ HT.sIx xs.length xs.length hi = xs.length) → NewT (cutV xs lo hi) H Q)
theorem sl_tupD : SlR X (rSlD (kw X)) := by
  intro pins s σ H x v vl vu lo hi sl Q I rx hs pl pu h
  obtain ⟨a, xs, rfl, hx, q1, q2⟩ := h
  cases rx
  obtain ⟨is, ri, ht, hz⟩ := I.tuple hx
  have hn : is.toArray.size = xs.length := by rw [List.size_toArray, ri.length]
  refine ⟨"tuple", _, PyProof.Rows.slot_tuple_getitem.lookup, ht.typeIs, ?_⟩
  by_cases hw : HT.sIx xs.length 0 lo = 0 ∧ HT.sIx xs.length xs.length hi = xs.length
  · exact getItem_tuple_whole ht hs pl pu (by rw [hn]; exact hw) ⟨.ref a, H, I, rfl, q1 hw⟩
  · refine HT.getItem_tuple_cut ht hs pl pu (by rw [hn]; exact hw) ?_ (by rw [hn]; exact hz)
    rw [hn]
    exact ep_tup I (Nat.le_trans (cutV_length xs lo hi) hz) ((ri.drop (HT.sIx xs.length 0 lo)).take (HT.sIx xs.length xs.length hi - HT.sIx xs.length 0 lo)) (q2 hw)
def rRepD (K : KW) : R2 := fun x y H Q => ∃ l k xs, x = .ref l ∧ y = .int k ∧ SqT K H l xs ∧ xs ≠ [] ∧ 2 ≤ k ∧ k ≤ 1000 ∧ xs.length ≤ 1000 ∧ NewT (List.replicate k.toNat xs).flatten H Q
theorem op_repD : OpR X (binaryOp .Mult) (rRepD (kw X)) := by
  intro pins s σ H x y v u Q I rx ry h
  obtain ⟨l, k, xs, rfl, rfl, hT, hne, h1, h2, hz, q⟩ := h
  cases rx
  obtain ⟨t, rfl⟩ := ry
  obtain ⟨is, ri, ⟨⟨cls, dd, data, sl⟩, ho, hc, n, hd⟩, _⟩ := I.tuple hT
  simp only at hc hd
  subst hc hd
  have hn : is.length = xs.length := ri.length.symm
  have hp : 0 < is.length := by
    rw [hn]
    exact List.length_pos_iff.mpr hne
  have hi : is.toArray.isEmpty = false := by
    cases is with
    | nil => exact absurd hp (by decide)
    | cons a b => rfl
  have hs0 : is.toArray.size = xs.length := by rw [List.size_toArray, hn]
  have hm : k.toNat * xs.length ≤ 1000 * 1000 := Nat.mul_le_mul (by omega) hz
  have hmi : ((xs.length : Nat) : Int) * k ≤ 1000000 := by
    have e1 : ((k.toNat * xs.length : Nat) : Int) = ((xs.length : Nat) : Int) * k := by
      rw [Int.natCast_mul, Int.mul_comm, show ((k.toNat : Nat) : Int) = k by omega]
    omega
  have hfl : (List.replicate k.toNat is).flatten.length ≤ sizeLine := by
    rw [PyProof.Rows.lm_len_rep_flat, hn, sizeLine_eq]
    omega
  have c0 : (decide (k < -(2 ^ 63)) || decide (k ≥ 2 ^ 63)) = false := Bool.or_eq_false_iff.mpr ⟨decide_eq_false (by omega), decide_eq_false (by omega)⟩
  have c1 : (is.toArray.isEmpty || k == 1) = false := Bool.or_eq_false_iff.mpr ⟨hi, beq_eq_false_iff_ne.mpr (by omega)⟩
  have c2 : (decide (k ≤ 0) || is.toArray.isEmpty) = false := Bool.or_eq_false_iff.mpr ⟨decide_eq_false (by omega), hi⟩
  have c4 : Builtin.Tuple.tupleTooMany (((is.toArray.size : Nat) : Int) * k) = false := by
    unfold Builtin.Tuple.tupleTooMany
    rw [hs0, sizeLine_eq]
    exact decide_eq_false (by omega)
  have meet := tuple_mulW l is.toArray n dd sl k t c0 c1 c2 (by rw [hs0]; omega) c4 (by rw [size_rep, List.size_toArray]; exact hfl)
  refine wpAny_binaryOp_repeat_ref (T := "tuple") (U := "int") (by decide) ⟨_, ho, rfl⟩ (fun z => typeIs_int z k t) noFill_tuple_mul F.fills_int_mul F.slot_int_rmul repeat_tuple F.slot_int_index.lookup (call_meets F.slot_int_rmul (typeIs_int s k t) F.entry_int_rmul (F.args_int_rmul_2 _ _) (int_rmul_tuple k t l is.toArray n dd sl) ⟨ho, rfl, ⟨_, ho, rfl⟩, call_meets F.slot_tuple_mul ⟨_, ho, rfl⟩ F.entry_tuple_mul (F.args_tuple_mul_2 _ _) meet ⟨ho, ?_⟩⟩)
  rw [size_rep]
  exact ep_tup I (by rw [PyProof.Rows.lm_len_rep_flat, sizeLine_eq]; omega) (ri.rep k.toNat) q
end
/-- an operation on two values does what g says of data -/
def OpOk (X : Cx) (f : Value → Value → Sem Value) (g : PyData → PyData → Option W) : Prop :=
  ∃ r : R2, OpR X f r ∧ ∀ (F : Addr → Prop) (β : List Addr) (B : Bs) (st : Stt) (H : Hp) (mg : Str → Option Value) (wx : Value → Option Addr → Hp → Prop) (Q : VK) (vx vy : V) (dx dy : PyData) (w : W),
    StOk (kw X) F β B H st → RdP (kw X) F H vx dx → RdP (kw X) F H vy dy → g dx dy = some w → Post (kw X) mg β B (RR (kw X) β B) F H wx (.ok w st) Q → r vx vy H Q
section
variable {X : Cx}
/-- list + list, of lists that may be locked -/
def rCatR : R2 := fun x y H Q => ∃ l b xs zs, x = .ref l ∧ y = .ref b ∧ Rd H l (.lst xs) ∧ Rd H b (.lst zs) ∧ xs.length + zs.length ≤ sizeLine ∧ ∀ p, H p = none → Q (.ref p) (upd H p (.lst (xs ++ zs)))
theorem rd_lst {pins : List (Addr × Obj)} {s : Shared} {σ : L2.St} {H : Hp} {l : Addr} {xs : List V} (I : Inv X pins σ H s) (h : Rd H l (.lst xs)) :
    xs.length ≤ sizeLine ∧ ∃ (its : List Value) (n : Nat), Vals xs its ∧ xs.length = its.length ∧ s.heap.get? l = some { cls := .type "list", data := .seq its.toArray n } := by
  obtain ⟨z, its, n, r, e⟩ := (show ObjOk X.prog X.w H s.heap l (.lst xs) from h.ok I.hok)
  exact ⟨z, its, n, r, r.length, e⟩
theorem op_catR : OpR X (binaryOp .Add) rCatR := by
  intro pins s σ H x y v u Q I rx ry h
  obtain ⟨l, b, xs, zs, rfl, rfl, hH, hB, hz, q⟩ := h
  cases rx
  cases ry
  obtain ⟨z, its, n, r, hl, e⟩ := rd_lst I hH
  obtain ⟨z2, its2, n2, r2, hl2, e2⟩ := rd_lst I hB
  refine PySem.P.add_list e e2 ?_ (by rw [List.size_toArray, List.size_toArray]; omega)
  have ea : its.toArray ++ its2.toArray = (its ++ its2).toArray := by simp
  rw [ea]
  exact ⟨.ref _, _, I.lnew (t' := s.toks) (r.append r2) (by rw [List.length_append]; omega), rfl, q _ I.fresh⟩
def rRepR : R2 := fun x y H Q => ∃ l k xs, x = .ref l ∧ y = .int k ∧ Rd H l (.lst xs) ∧ -(2 ^ 63) ≤ k ∧ k < 2 ^ 63 ∧ xs.length * k.toNat ≤ sizeLine ∧
  ∀ p, H p = none → Q (.ref p) (upd H p (.lst (List.replicate k.toNat xs).flatten))
theorem op_repR : OpR X (binaryOp .Mult) rRepR := by
  intro pins s σ H x y v u Q I rx ry h
  obtain ⟨l, k, xs, rfl, rfl, hH, h1, h2, hz, q⟩ := h
  cases rx
  obtain ⟨t, rfl⟩ := ry
  obtain ⟨z, its, n, r, hl, e⟩ := rd_lst I hH
  have hlen : its.toArray.size * k.toNat ≤ sizeLine := by rw [List.size_toArray, ← hl]; exact hz
  have hcap : ¬ its.toArray.size * k.toNat > (2 ^ 63 - 1) / 8 := by
    have : (sizeLine : Nat) ≤ (2 ^ 63 - 1) / 8 := by decide
    omega
  have hfit : ¬ (!Builtin.List.listFitsIndex k) = true := by
    rw [fitsIndex_both h1 h2]
    exact Bool.false_ne_true
  have hlong : ¬ Builtin.List.listTooLong (its.toArray.size * k.toNat) = true := by
    rw [notLongL hlen]
    exact Bool.false_ne_true
  have hnew : List.foldl (fun x1 x2 => x1 ++ x2) #[] (List.replicate (if its.toArray.isEmpty = true then 0 else k.toNat) its.toArray) = (List.replicate k.toNat its).flatten.toArray := by
    have f0 : ∀ m : Nat, List.foldl (fun x1 x2 => x1 ++ x2) #[] (List.replicate m its.toArray) = (List.replicate m its).flatten.toArray := fun m => by
      have := foldl_rep its m []
      rw [List.nil_append] at this
      exact this
    rw [f0]
    cases its with
    | nil => simp
    | cons a r' => rw [if_neg (by simp)]
  refine wpAny_binaryOp_repeat_ref (T := "list") (U := "int") (by decide) ⟨_, e, rfl⟩ (fun s' => typeIs_int s' k t) noFill_list_mul F.fills_int_mul F.slot_int_rmul repeat_list F.slot_int_index.lookup
    (call_meets F.slot_int_rmul (typeIs_int s k t) F.entry_int_rmul (F.args_int_rmul_2 _ _) (int___rmul___int_list k t l its.toArray n)
      ⟨e, rfl, ⟨_, e, rfl⟩, call_meets F.slot_list_mul ⟨_, e, rfl⟩ F.entry_list_mul (F.args_list_mul_2 _ _) (AutoListH.list___mul___list_int_3 l its.toArray n k t hfit hcap hlong) ⟨e, ?_⟩⟩)
  rw [hnew]
  exact ⟨.ref _, _, I.lnew (t' := s.toks) (r.rep k.toNat) (by rw [PyProof.Rows.lm_len_rep_flat, Nat.mul_comm]; exact hz), rfl, q _ I.fresh⟩
theorem tup_mul_same (l : Addr) (items : Array Value) (n : Nat) (dd : Option Addr) (sl : Array (Option Value)) (x : Int) (u : Tok) (c0 : (decide (x < -(2 ^ 63)) || decide (x ≥ 2 ^ 63)) = false) (c1 : (items.isEmpty || x == 1) = true) :
    Meets (Builtin.«tuple.__mul__» ⟨[.ref l, .int x u], []⟩) (fun _ R s => s.heap.get? l = some { cls := .type "tuple", dict := dd, data := .seq items n, slots := sl } ∧ R (.ok (.ret (Value.ref l))) s) :=
  .of_wp fun prog w A R s h => by
    obtain ⟨hp, g, d, tk, os⟩ := s
    obtain ⟨hl, h⟩ := h
    have f1 := AutoSeq1.idx_int
    wp_walk using wpAny_loadPart' hl
    repeat (first
      | (refine wpAny_ite_false (decide_eq_false (by rw [c0]; exact Bool.false_ne_true)) ?_; wp_walk using wpAny_loadPart' hl)
      | (refine wpAny_ite_true (decide_eq_true c1) ?_; wp_walk using wpAny_loadPart' hl))
    exact ⟨_, rfl, h⟩
theorem tup_mul_zero (l : Addr) (items : Array Value) (n : Nat) (dd : Option Addr) (sl : Array (Option Value)) (x : Int) (u : Tok) (c0 : (decide (x < -(2 ^ 63)) || decide (x ≥ 2 ^ 63)) = false) (c1 : (items.isEmpty || x == 1) = false) (c2 : (decide (x ≤ 0) || items.isEmpty) = true) :
    Meets (Builtin.«tuple.__mul__» ⟨[.ref l, .int x u], []⟩) (fun _ R s => s.heap.get? l = some { cls := .type "tuple", dict := dd, data := .seq items n, slots := sl } ∧
      R (.ok (.ret (Value.ref s.heap.objs.size))) { s with heap := s.heap.push { cls := Value.type "tuple", data := Data.seq #[] }, toks := s.toks }) :=
  .of_wp fun prog w A R s h => by
    obtain ⟨hp, g, d, tk, os⟩ := s
    obtain ⟨hl, h⟩ := h
    have f1 := AutoSeq1.idx_int
    wp_walk using wpAny_loadPart' hl
    repeat (first
      | (refine wpAny_ite_false (decide_eq_false (by rw [c0]; exact Bool.false_ne_true)) ?_; wp_walk using wpAny_loadPart' hl)
      | (refine wpAny_ite_false (decide_eq_false (by rw [c1]; exact Bool.false_ne_true)) ?_; wp_walk using wpAny_loadPart' hl)
      | (refine wpAny_ite_true (decide_eq_true c2) ?_; wp_walk using wpAny_loadPart' hl))
    exact ⟨_, rfl, h⟩
def rRepT1 (K : KW) : R2 := fun x y H Q => ∃ l k xs, x = .ref l ∧ y = .int k ∧ SqT K H l xs ∧ -1000 ≤ k ∧ k ≤ 1000 ∧ (xs = [] ∨ k = 1) ∧ Q (.ref l) H
theorem op_repT1 : OpR X (binaryOp .Mult) (rRepT1 (kw X)) := by
  intro pins s σ H x y v u Q I rx ry h
  obtain ⟨l, k, xs, rfl, rfl, hT, h1, h2, h3, q⟩ := h
  cases rx
  obtain ⟨t, rfl⟩ := ry
  obtain ⟨its, r, ⟨⟨cls, dd, data, sl⟩, ho, hc, n, hd⟩, hs⟩ := I.tuple hT
  simp only at hc hd
  subst hc hd
  have c0 : (decide (k < -(2 ^ 63)) || decide (k ≥ 2 ^ 63)) = false := by
    rw [decide_eq_false (by omega), decide_eq_false (by omega)]
    rfl
  have c1 : (its.toArray.isEmpty || k == 1) = true := by
    rcases h3 with h3 | h3
    · subst h3
      cases r
      rfl
    · subst h3
      rw [Bool.or_eq_true]
      exact .inr rfl
  exact wpAny_binaryOp_repeat_ref (T := "tuple") (U := "int") (by decide) ⟨_, ho, rfl⟩ (fun s' => typeIs_int s' k t) noFill_tuple_mul F.fills_int_mul F.slot_int_rmul repeat_tuple F.slot_int_index.lookup
    (call_meets F.slot_int_rmul (typeIs_int s k t) F.entry_int_rmul (F.args_int_rmul_2 _ _) (int_rmul_tuple k t l its.toArray n dd sl) ⟨ho, rfl, ⟨_, ho, rfl⟩, call_meets F.slot_tuple_mul ⟨_, ho, rfl⟩ F.entry_tuple_mul (F.args_tuple_mul_2 _ _) (tup_mul_same l its.toArray n dd sl k t c0 c1) ⟨ho, ⟨.ref l, H, I, rfl, q⟩⟩⟩)
def rRepT0 (K : KW) : R2 := fun x y H Q => ∃ l k xs, x = .ref l ∧ y = .int k ∧ SqT K H l xs ∧ -1000 ≤ k ∧ k ≤ 0 ∧ xs ≠ [] ∧ NewT [] H Q
theorem op_repT0 : OpR X (binaryOp .Mult) (rRepT0 (kw X)) := by
  intro pins s σ H x y v u Q I rx ry h
  obtain ⟨l, k, xs, rfl, rfl, hT, h1, h2, h3, q⟩ := h
  cases rx
  obtain ⟨t, rfl⟩ := ry
  obtain ⟨its, r, ⟨⟨cls, dd, data, sl⟩, ho, hc, n, hd⟩, hs⟩ := I.tuple hT
  simp only at hc hd
  subst hc hd
  have c0 : (decide (k < -(2 ^ 63)) || decide (k ≥ 2 ^ 63)) = false := by
    rw [decide_eq_false (by omega), decide_eq_false (by omega)]
    rfl
  have c1 : (its.toArray.isEmpty || k == 1) = false := by
    cases r with
    | nil => exact absurd rfl h3
    | cons _ _ => exact beq_eq_false_iff_ne.mpr (by omega)
  have c2 : (decide (k ≤ 0) || its.toArray.isEmpty) = true := by
    rw [decide_eq_true h2]
    rfl
  have fin : EP X pins σ Q (.ref s.heap.objs.size) { s with heap := s.heap.push { cls := Value.type "tuple", data := Data.seq #[] }, toks := s.toks } :=
    ep_tup I (Nat.zero_le _) .nil q
  exact wpAny_binaryOp_repeat_ref (T := "tuple") (U := "int") (by decide) ⟨_, ho, rfl⟩ (fun s' => typeIs_int s' k t) noFill_tuple_mul F.fills_int_mul F.slot_int_rmul repeat_tuple F.slot_int_index.lookup
    (call_meets F.slot_int_rmul (typeIs_int s k t) F.entry_int_rmul (F.args_int_rmul_2 _ _) (int_rmul_tuple k t l its.toArray n dd sl) ⟨ho, rfl, ⟨_, ho, rfl⟩, call_meets F.slot_tuple_mul ⟨_, ho, rfl⟩ F.entry_tuple_mul (F.args_tuple_mul_2 _ _) (tup_mul_zero l its.toArray n dd sl k t c0 c1 c2) ⟨ho, fin⟩⟩)
theorem lineN_eq : sizeLine = lineN := rfl
theorem RpAll.nilV {K : KW} {F : Addr → Prop} {H : Hp} {ds : List PyData} (h : RpAll K F H [] ds) : ds = [] := by cases h; rfl
theorem RpAll.nilD {K : KW} {F : Addr → Prop} {H : Hp} {vs : List V} (h : RpAll K F H vs []) : vs = [] := by cases h; rfl

abbrev rStrCat : R2 := fun x y H Q => ∃ i j, x = .str i ∧ y = .str j ∧ i.length + j.length ≤ sizeLine ∧ Q (.str (i ++ j)) H
abbrev rIntAdd : R2 := rI0 fun i j => .int (i + j)
theorem ok_add : OpOk X (binaryOp .Add) addD := by
  refine ⟨fun x y H Q => (rIntAdd x y H Q ∨ rStrCat x y H Q) ∨ (rCatD (kw X) x y H Q ∨ rCatR x y H Q), (OpR.or (OpR.or op_add op_add_str) (OpR.or op_catD op_catR)), ?_⟩
  intro F β B st H mg wx Q vx vy dx dy w s hx hy e h
  unfold addD at e
  split at e
  · cases e; cases hx.int; cases hy.int
    exact .inl (.inl ⟨_, _, rfl, rfl, fin_d s h (.int _)⟩)
  · split at e
    · rename_i hz
      cases e; cases hx.str; cases hy.str
      exact .inl (.inr ⟨_, _, rfl, rfl, hz, fin_d s h (.str _)⟩)
    · cases e
  · rename_i xs ys
    split at e
    · rename_i hz
      cases e
      obtain ⟨a, vs, rfl, h1, h2⟩ := hx.tuple
      obtain ⟨b, us, rfl, h3, h4⟩ := hy.tuple
      refine .inr (.inl ⟨a, b, vs, us, rfl, rfl, h1.sq, h3.sq, by rw [h2.length, h4.length]; exact hz, fun e1 => ?_, fun e1 e2 => ?_, fun _ _ p o hp ho => ?_⟩)
      · subst e1
        cases h2
        exact fin_d s h (.tup h3 h4)
      · subst e2
        cases h4
        rw [List.append_nil] at h
        exact fin_d s h (.tup h1 h2)
      · exact fin_tup s h (h2.append h4) hp ho
    · cases e
  · split at e
    · rename_i hz
      cases e
      obtain ⟨a, vs, rfl, h1, h2⟩ := hx.list
      obtain ⟨b, us, rfl, h3, h4⟩ := hy.list
      exact .inr (.inr ⟨a, b, vs, us, rfl, rfl, h1, h3, by rw [h2.length, h4.length]; exact hz, fun p hp => fin_new s h (h2.append h4) hp⟩)
    · cases e
  · cases e
theorem ok_sub : OpOk X (binaryOp .Sub) subD := by
  refine ⟨_, op_sub, ?_⟩
  intro F β B st H mg wx Q vx vy dx dy w s hx hy e h
  unfold subD at e
  split at e
  · cases e; cases hx.int; cases hy.int
    exact ⟨_, _, rfl, rfl, fin_d s h (.int _)⟩
  · cases e
theorem within_of {i : Int} (h : within64 i = true) : -(2 ^ 64) < i ∧ i < 2 ^ 64 := by
  unfold within64 at h
  simp only [Bool.and_eq_true, decide_eq_true_eq] at h
  omega
theorem rep_nil {α : Type} : ∀ n : Nat, (List.replicate n ([] : List α)).flatten = []
  | 0 => rfl
  | n + 1 => by rw [List.replicate_succ, List.flatten_cons, rep_nil n]; rfl
def rRepS : R2 := fun x y H Q => ∃ z k, x = .str z ∧ y = .int k ∧ 0 ≤ k ∧ k ≤ 1000 ∧ z.length ≤ 1000 ∧ Q (.str (repS z k)) H
theorem repS_one (z : Str) : repS z 1 = z := by
  unfold repS
  rw [show (1 : Int).toNat = 1 from rfl, List.replicate_one, List.flatten_cons, List.flatten_nil, List.append_nil]
theorem repS_nil {z : Str} {k : Int} (h : z.length = 0) : repS z k = z := by
  have e : z.cps.toList = [] := by
    have : z.cps.toList.length = 0 := h
    exact List.length_eq_zero_iff.mp this
  unfold repS
  rw [e, rep_nil, ← e]
theorem foldl_repN (a : Array Nat) : ∀ (n : Nat) (acc : Array Nat), (List.replicate n a).foldl (· ++ ·) acc = acc ++ (List.replicate n a.toList).flatten.toArray
  | 0, acc => by simp
  | n + 1, acc => by
    rw [List.replicate_succ, List.foldl_cons, foldl_repN a n, List.replicate_succ, List.flatten_cons, Array.append_assoc]
    congr 1
    simp
theorem repS_len (z : Str) (k : Int) : (repS z k).length = k.toNat * z.length := by
  show ((List.replicate k.toNat z.cps.toList).flatten.toArray).size = _
  rw [List.size_toArray, List.length_flatten, List.map_replicate, List.sum_replicate_nat]
  rfl
theorem op_repS : OpR X (binaryOp .Mult) rRepS := by
  intro pins s σ H x y v u Q I rx ry h
  obtain ⟨z, k, rfl, rfl, h0, h1, h2, q⟩ := h
  obtain ⟨t, rfl⟩ := rx
  obtain ⟨t', rfl⟩ := ry
  have done : ∀ t' k', EP X pins σ Q (.str (repS z k) t') { s with toks := k' } := fun t' k' => ⟨.str (repS z k), H, I.tok _, ⟨_, rfl⟩, q⟩
  refine PySem.P.mul_str ?_ ?_ ?_ ?_
  · rw [decide_eq_false (by omega), decide_eq_false (by omega)]
    rfl
  · intro hk _ hgt
    have : (2 : Int) ^ 63 - 1 ≥ 1000 * 1000000 := by decide
    have h3 : 1000000 ≤ ((2 : Int) ^ 63 - 1) / k := by
      refine (Int.le_ediv_iff_mul_le (by omega)).mpr ?_
      have : 1000000 * k ≤ 1000000 * 1000 := by omega
      omega
    omega
  · intro hk _
    have h3 : z.length * k.toNat ≤ 1000 * 1000 := Nat.mul_le_mul h2 (by omega)
    exact decide_eq_false (by
      have : (1000 : Nat) * 1000 ≤ sizeLine := by decide
      omega)
  · have hl : (repS z k).length = k.toNat * z.length := repS_len z k
    have h3 : z.length * k.toNat ≤ 1000 * 1000 := Nat.mul_le_mul h2 (by omega)
    have h4 : (1000 : Nat) * 1000 ≤ sizeLine := by decide
    have hz : (repS z k).length ≤ sizeLine := by rw [hl, Nat.mul_comm]; omega
    split
    · have e : (Str.empty : Str) = repS z k := by
        have : k = 0 := by omega
        subst this
        rfl
      refine ⟨by decide, ?_⟩
      rw [e]
      exact done _ _
    · split
      · rename_i hk
        have e : repS z k = z := by
          rcases Bool.or_eq_true_iff.mp hk with hk | hk
          · rw [show k = 1 from beq_iff_eq.mp hk, repS_one]
          · exact repS_nil (beq_iff_eq.mp hk)
        have := done t s.toks
        rw [e] at this
        exact this
      · have e : (⟨(List.replicate k.toNat z.cps).foldl (· ++ ·) #[]⟩ : Str) = repS z k := by
          unfold repS
          congr 1
          rw [foldl_repN, Array.empty_append]
        rw [e]
        exact ⟨hz, done _ _⟩
theorem ok_mul : OpOk X (binaryOp .Mult) mulD := by
  refine ⟨_, OpR.or op_repS (OpR.or (OpR.or op_mul op_repR) (OpR.or op_repD (OpR.or op_repT1 op_repT0))), ?_⟩
  intro F β B st H mg wx Q vx vy dx dy w s hx hy e h
  unfold mulD at e
  split at e
  · split at e
    · rename_i hz
      cases e; cases hx.int; cases hy.int
      refine .inr (.inl (.inl ⟨_, _, rfl, rfl, ?_, fin_d s h (.int _)⟩))
      rcases Bool.or_eq_true_iff.mp hz with q | q
      · exact .inl (within_of q)
      · exact .inr (within_of q)
    · cases e
  · split at e
    · rename_i hz
      cases e
      obtain ⟨a, vs, rfl, h1, h2⟩ := hx.list
      cases hy.int
      exact .inr (.inl (.inr ⟨a, _, vs, rfl, rfl, h1, by omega, by omega, by rw [h2.length]; exact hz.2.2, fun p hp => fin_new s h (h2.rep _) hp⟩))
    · cases e
  · split at e
    · rename_i xs k hz
      cases e
      obtain ⟨a, vs, rfl, h1, h2⟩ := hx.tuple
      cases hy.int
      have hl := h2.length
      refine .inr (.inr ?_)
      by_cases hv : vs = []
      · subst hv
        have hn := h2.nilV
        subst hn
        refine .inr (.inl ⟨a, k, [], rfl, rfl, h1.sq, by omega, by omega, .inl rfl, ?_⟩)
        rw [rep_nil] at h
        exact fin_d s h (.tup h1 .nil)
      · by_cases h0 : k = 0
        · subst h0
          exact .inr (.inr ⟨a, 0, vs, rfl, rfl, h1.sq, by omega, by omega, hv, fun p o hp ho => fin_tup s h .nil hp ho⟩)
        · by_cases hk1 : k = 1
          · subst hk1
            refine .inr (.inl ⟨a, 1, vs, rfl, rfl, h1.sq, by omega, by omega, .inr rfl, ?_⟩)
            have e1 : (List.replicate (1 : Int).toNat xs).flatten = xs := by
              show [xs].flatten = xs
              simp
            rw [e1] at h
            exact fin_d s h (.tup h1 h2)
          · exact .inl ⟨a, k, vs, rfl, rfl, h1.sq, hv, by omega, by omega, by omega, fun p o hp ho => fin_tup s h (h2.rep _) hp ho⟩
    · cases e
  · split at e
    · rename_i hz
      cases e
      cases hx.str; cases hy.int
      exact .inl ⟨_, _, rfl, rfl, by omega, by omega, hz.2.2, fin_d s h (.str _)⟩
    · cases e
  · cases e
theorem ok_fdiv : OpOk X (binaryOp .FloorDiv) fdivD := by
  refine ⟨_, op_fdiv, ?_⟩
  intro F β B st H mg wx Q vx vy dx dy w s hx hy e h
  unfold fdivD at e
  split at e
  · split at e
    · rename_i hz
      cases e; cases hx.int; cases hy.int
      exact ⟨_, _, rfl, rfl, hz, fin_d s h (.int _)⟩
    · cases e
  · cases e
theorem ok_mod : OpOk X (binaryOp .Mod) modD := by
  refine ⟨_, op_mod, ?_⟩
  intro F β B st H mg wx Q vx vy dx dy w s hx hy e h
  unfold modD at e
  split at e
  · split at e
    · rename_i hz
      cases e; cases hx.int; cases hy.int
      exact ⟨_, _, rfl, rfl, hz, fin_d s h (.int _)⟩
    · cases e
  · cases e
theorem ok_pow : OpOk X (binaryOp .Pow) powD := by
  refine ⟨_, op_pow, ?_⟩
  intro F β B st H mg wx Q vx vy dx dy w s hx hy e h
  unfold powD at e
  split at e
  · split at e
    · rename_i hz
      cases e; cases hx.int; cases hy.int
      have hw := within_of hz.2.2
      exact ⟨_, _, rfl, rfl, ⟨hz.1, hz.2.1, by omega⟩, fin_d s h (.int _)⟩
    · cases e
  · cases e
def bop : BO → Operator
  | .add => .Add | .sub => .Sub | .mul => .Mult | .fdiv => .FloorDiv | .mod => .Mod | .pow => .Pow
theorem ok_bin : ∀ o : BO, OpOk X (binaryOp (bop o)) (binD o)
  | .add => ok_add
  | .sub => ok_sub
  | .mul => ok_mul
  | .fdiv => ok_fdiv
  | .mod => ok_mod
  | .pow => ok_pow

/-! ### comparisons -/
theorem ok_cmp {f : Value → Value → Sem Value} {g : PyData → PyData → Option Bool} {r : R2} (hr : OpR X f r)
    (h : ∀ (F : Addr → Prop) (H : Hp) (Q : VK) (vx vy : V) (dx dy : PyData) (b : Bool), RdP (kw X) F H vx dx → RdP (kw X) F H vy dy → g dx dy = some b → Q (.bl b) H → r vx vy H Q) : OpOk X f (fun x y => toB (g x y)) := by
  refine ⟨r, hr, ?_⟩
  intro F β B st H mg wx Q vx vy dx dy w s hx hy e hp
  unfold toB at e
  obtain ⟨b, e1, rfl⟩ := Option.map_eq_some_iff.mp e
  exact h F H Q vx vy dx dy b hx hy e1 (fin_d s hp (.bl b))
theorem dec_s {x y : Str} : decide (V.str x = V.str y) = decide (x = y) := by
  by_cases h : x = y
  · simp [h]
  · simp [h]
theorem ok_eq (hu : X.A.units + 64 < cLine) : OpOk X (compareOp .Eq) (fun x y => toB (eqD x y)) := by
  refine ok_cmp (OpR.or (op_eqD hu) op_eq) fun F H Q vx vy dx dy b hx hy e q => ?_
  unfold eqD at e
  split at e
  · cases e
    have h1 := hx.str
    have h2 := hy.str
    subst h1 h2
    exact .inr ⟨rfl, by rw [dec_s]; exact q⟩
  · unfold eqS at e
    split at e
    · rename_i hs
      cases e
      obtain ⟨s1, s2⟩ := Bool.and_eq_true_iff.mp hs
      exact .inl ⟨_, _, hx.dp (shaped_noDict s1), hy.dp (shaped_noDict s2), s1, s2, q⟩
    · cases e
theorem ok_ne (hu : X.A.units + 64 < cLine) : OpOk X (compareOp .NotEq) (fun x y => toB ((eqD x y).map (!·))) := by
  refine ok_cmp (OpR.or (op_neD hu) op_ne) fun F H Q vx vy dx dy b hx hy e q => ?_
  unfold eqD at e
  split at e
  · cases e
    have h1 := hx.str
    have h2 := hy.str
    subst h1 h2
    exact .inr ⟨rfl, by rw [dec_s]; exact q⟩
  · unfold eqS at e
    split at e
    · rename_i hs
      cases e
      obtain ⟨s1, s2⟩ := Bool.and_eq_true_iff.mp hs
      exact .inl ⟨_, _, hx.dp (shaped_noDict s1), hy.dp (shaped_noDict s2), s1, s2, q⟩
    · cases e
/-- a comparison of alike data -/
def rOrd (K : KW) (g : PyData → PyData → Bool) : R2 := fun x y H Q => ∃ d e, Dp K H x d ∧ Dp K H y e ∧ PySem.W.alike d e = true ∧ d ≠ .none ∧ d.depth ≤ 20 ∧ Q (.bl (g d e)) H
theorem ord_of {f : Value → Value → Sem Value} {g : PyData → PyData → Bool} (hu : X.A.units + 64 < cLine)
    (h : ∀ (E : Value → Shared → Prop) (s : Shared) (a b : Value) (da db : PyData) (as bs : List Addr) (Q : Value → Shared → Prop), Reads s.heap a da as → Reads s.heap b db bs → PySem.W.alike da db = true → da ≠ .none → X.A.units + min da.depth db.depth < cLine → Q (.bool (g da db)) s → wpAny (model X.prog X.w) X.A (f a b) Q E s) : OpR X f (rOrd (kw X) g) := by
  intro pins s σ H x y v u Q I rx ry ⟨d, e, hd, he, h1, h2, h3, q⟩
  obtain ⟨as, r1⟩ := Dp.reads I d x v hd rx
  obtain ⟨bs, r2⟩ := Dp.reads I e y u he ry
  exact h _ _ _ _ _ _ _ _ _ r1 r2 h1 h2 (by omega) ⟨.bl _, H, I, rfl, q⟩
theorem ord_lt (hu : X.A.units + 64 < cLine) : OpR X (compareOp .Lt) (rOrd (kw X) PySem.W.dataLt) := ord_of hu fun E s a b da db as bs Q r1 r2 h1 h2 h3 q => PySem.W.lt_data r1 r2 h1 h2 h3 q
theorem ord_gt (hu : X.A.units + 64 < cLine) : OpR X (compareOp .Gt) (rOrd (kw X) fun x y => PySem.W.dataLt y x) := ord_of hu fun E s a b da db as bs Q r1 r2 h1 h2 h3 q => PySem.W.gt_data r1 r2 h1 h2 h3 q
theorem ord_le (hu : X.A.units + 64 < cLine) : OpR X (compareOp .LtE) (rOrd (kw X) fun x y => !PySem.W.dataLt y x) := ord_of hu fun E s a b da db as bs Q r1 r2 h1 h2 h3 q => PySem.W.le_data r1 r2 h1 h2 h3 q
theorem ord_ge (hu : X.A.units + 64 < cLine) : OpR X (compareOp .GtE) (rOrd (kw X) fun x y => !PySem.W.dataLt x y) := ord_of hu fun E s a b da db as bs Q r1 r2 h1 h2 h3 q => PySem.W.ge_data r1 r2 h1 h2 h3 q
theorem cmpOk_of {x y : PyData} (h : cmpOk x y = true) : PySem.W.alike x y = true ∧ x.depth ≤ 20 ∧ x.hasDict = false ∧ y.hasDict = false := by
  unfold cmpOk at h
  simp only [Bool.and_eq_true, decide_eq_true_eq, Bool.not_eq_true'] at h
  exact ⟨h.1, h.2.1, h.2.2.1, h.2.2.2⟩
theorem ltI_cases {x y : PyData} {b : Bool} (e : ltI x y = some b) : (∃ i j, x = .int i ∧ y = .int j ∧ b = decide (i < j)) ∨ (PySem.W.alike x y = true ∧ x ≠ .none ∧ y ≠ .none ∧ x.depth ≤ 20 ∧ y.depth ≤ 20 ∧ x.hasDict = false ∧ y.hasDict = false ∧ b = PySem.W.dataLt x y) := by
  unfold ltI at e
  split at e
  · cases e; exact .inl ⟨_, _, rfl, rfl, rfl⟩
  · split at e
    · rename_i h
      cases e
      obtain ⟨h1, h2⟩ := Bool.and_eq_true_iff.mp h
      obtain ⟨g1, g2, g3, g4⟩ := cmpOk_of h1
      exact .inr ⟨g1, (fun z => nomatch z), (fun z => nomatch z), g2, of_decide_eq_true h2, g3, g4, rfl⟩
    · cases e
  · cases e
    exact .inr ⟨by simp only [PySem.W.alike], (fun z => nomatch z), (fun z => nomatch z), by simp only [PyData.depth]; omega, by simp only [PyData.depth]; omega, by simp only [PyData.hasDict], by simp only [PyData.hasDict], rfl⟩
  · cases e
theorem leI_cases {x y : PyData} {b : Bool} (e : leI x y = some b) : (∃ i j, x = .int i ∧ y = .int j ∧ b = decide (i ≤ j)) ∨ (PySem.W.alike x y = true ∧ x ≠ .none ∧ y ≠ .none ∧ x.depth ≤ 20 ∧ y.depth ≤ 20 ∧ x.hasDict = false ∧ y.hasDict = false ∧ b = !PySem.W.dataLt y x) := by
  unfold leI at e
  split at e
  · cases e; exact .inl ⟨_, _, rfl, rfl, rfl⟩
  · split at e
    · rename_i h
      cases e
      obtain ⟨h1, h2⟩ := Bool.and_eq_true_iff.mp h
      obtain ⟨g1, g2, g3, g4⟩ := cmpOk_of h1
      exact .inr ⟨g1, (fun z => nomatch z), (fun z => nomatch z), g2, of_decide_eq_true h2, g3, g4, rfl⟩
    · cases e
  · cases e
    exact .inr ⟨by simp only [PySem.W.alike], (fun z => nomatch z), (fun z => nomatch z), by simp only [PyData.depth]; omega, by simp only [PyData.depth]; omega, by simp only [PyData.hasDict], by simp only [PyData.hasDict], rfl⟩
  · cases e
theorem ok_lt (hu : X.A.units + 64 < cLine) : OpOk X (compareOp .Lt) (fun x y => toB (ltI x y)) := by
  refine ok_cmp (OpR.or op_lt (ord_lt hu)) fun F H Q vx vy dx dy b hx hy e q => ?_
  rcases ltI_cases e with ⟨i, j, rfl, rfl, rfl⟩ | ⟨h1, h2, h3, h4, h5, h6, h7, rfl⟩
  · cases hx.int; cases hy.int
    exact .inl ⟨_, _, rfl, rfl, q⟩
  · exact .inr ⟨_, _, hx.dp h6, hy.dp h7, h1, h2, h4, q⟩
theorem ok_le (hu : X.A.units + 64 < cLine) : OpOk X (compareOp .LtE) (fun x y => toB (leI x y)) := by
  refine ok_cmp (OpR.or op_le (ord_le hu)) fun F H Q vx vy dx dy b hx hy e q => ?_
  rcases leI_cases e with ⟨i, j, rfl, rfl, rfl⟩ | ⟨h1, h2, h3, h4, h5, h6, h7, rfl⟩
  · cases hx.int; cases hy.int
    exact .inl ⟨_, _, rfl, rfl, q⟩
  · exact .inr ⟨_, _, hx.dp h6, hy.dp h7, h1, h2, h4, q⟩
theorem ok_gt (hu : X.A.units + 64 < cLine) : OpOk X (compareOp .Gt) (fun x y => toB (ltI y x)) := by
  refine ok_cmp (OpR.or op_gt (ord_gt hu)) fun F H Q vx vy dx dy b hx hy e q => ?_
  rcases ltI_cases e with ⟨i, j, rfl, rfl, rfl⟩ | ⟨h1, h2, h3, h4, h5, h6, h7, rfl⟩
  · cases hx.int; cases hy.int
    exact .inl ⟨_, _, rfl, rfl, q⟩
  · exact .inr ⟨_, _, hx.dp h7, hy.dp h6, by rw [PySem.W.alike_comm]; exact h1, h3, h5, q⟩
theorem ok_ge (hu : X.A.units + 64 < cLine) : OpOk X (compareOp .GtE) (fun x y => toB (leI y x)) := by
  refine ok_cmp (OpR.or op_ge (ord_ge hu)) fun F H Q vx vy dx dy b hx hy e q => ?_
  rcases leI_cases e with ⟨i, j, rfl, rfl, rfl⟩ | ⟨h1, h2, h3, h4, h5, h6, h7, rfl⟩
  · cases hx.int; cases hy.int
    exact .inl ⟨_, _, rfl, rfl, q⟩
  · exact .inr ⟨_, _, hx.dp h7, hy.dp h6, by rw [PySem.W.alike_comm]; exact h1, h3, h5, q⟩
end
end Gm

/-! The deep layer, part C1: dicts whose keys are tuples of any depth. -/
namespace Gm
open PySem PySem.Spec PyProof.Rows L2
mutual
theorem nis_reads {h : Heap} : ∀ (d : PyData) (v : Value) (as : List Addr), keyB d = true → Reads h v d as → NestedIs h (nk d) v
  | .none, _, _, _, r => by cases r; exact .none
  | .bool b, _, _, _, r => by cases r; exact .bool rfl
  | .int i, _, _, _, r => by cases r; exact .int _ _
  | .str x, _, _, _, r => by cases r; exact .text _ _
  | .tuple xs, _, _, hk, r => by
    simp only [keyB] at hk
    cases r with
    | tuple h1 h2 h3 h4 => exact .tup h1 h2 h3 (nis_readsAll xs _ _ hk h4)
  | .list _, _, _, hk, _ => by simp only [keyB] at hk; cases hk
  | .dict _, _, _, hk, _ => by simp only [keyB] at hk; cases hk
theorem nis_readsAll {h : Heap} : ∀ (ds : List PyData) (vs : List Value) (as : List Addr), keyBs ds = true → ReadsAll h vs ds as → NestedAll h (nks ds) vs
  | [], _, _, _, r => by cases r; exact .nil
  | d :: ds, _, _, hk, r => by
    simp only [keyBs, Bool.and_eq_true] at hk
    cases r with
    | cons h1 h2 => exact .cons (nis_reads d _ _ hk.1 h1) (nis_readsAll ds _ _ hk.2 h2)
end
mutual
theorem nk_depth : ∀ d : PyData, (nk d).depth ≤ d.depth
  | .none => by simp only [nk, NestedKey.depth]; omega
  | .bool _ => by simp only [nk, NestedKey.depth]; omega
  | .int _ => by simp only [nk, NestedKey.depth]; omega
  | .str _ => by simp only [nk, NestedKey.depth]; omega
  | .tuple xs => by simp only [nk, NestedKey.depth, PyData.depth]; have := nks_depth xs; omega
  | .list _ => by simp only [nk, NestedKey.depth]; omega
  | .dict _ => by simp only [nk, NestedKey.depth]; omega
theorem nks_depth : ∀ ds : List PyData, NestedKey.depthAll (nks ds) ≤ PyData.depthAll ds
  | [] => by simp only [nks, NestedKey.depthAll, PyData.depthAll]; omega
  | d :: ds => by simp only [nks, NestedKey.depthAll, PyData.depthAll]; have := nk_depth d; have := nks_depth ds; omega
end
mutual
theorem keyB_noDict : ∀ d : PyData, keyB d = true → d.hasDict = false
  | .none, _ => by simp only [PyData.hasDict]
  | .bool _, _ => by simp only [PyData.hasDict]
  | .int _, _ => by simp only [PyData.hasDict]
  | .str _, _ => by simp only [PyData.hasDict]
  | .tuple xs, h => by simp only [keyB] at h; simp only [PyData.hasDict]; exact keyBs_noDict xs h
  | .list _, h => by simp only [keyB] at h; cases h
  | .dict _, h => by simp only [keyB] at h; cases h
theorem keyBs_noDict : ∀ ds : List PyData, keyBs ds = true → PyData.hasDictAll ds = false
  | [], _ => by simp only [PyData.hasDictAll]
  | d :: ds, h => by
    simp only [keyBs, Bool.and_eq_true] at h
    simp only [PyData.hasDictAll, keyB_noDict d h.1, keyBs_noDict ds h.2, Bool.or_self]
end
theorem keyOk_of {d : PyData} (h : keyOk d = true) : (∃ xs, d = .tuple xs) ∧ keyB d = true ∧ d.depth ≤ 8 ∧ d.hasDict = false := by
  unfold keyOk at h
  simp only [Bool.and_eq_true, decide_eq_true_eq] at h
  refine ⟨?_, h.2.1, h.2.2, keyB_noDict d h.2.1⟩
  cases d with
  | tuple xs => exact ⟨xs, rfl⟩
  | _ => cases h.1
section
variable {K : KW} {F : Addr → Prop} {H : Hp}
theorem RdP.key {v : V} {d : PyData} (hk : keyOk d = true) (h : RdP K F H v d) : ∃ b, v = .ref b ∧ Rp K F H (.ref b) d := by
  obtain ⟨⟨xs, rfl⟩, _⟩ := keyOk_of hk
  obtain ⟨a, vs, rfl, h1, h2⟩ := h.tuple
  exact ⟨a, rfl, .tup h1 h2⟩
theorem getP_nil (k : PyData) : getP [] k = none := rfl
theorem getP_cons (k d : PyData) (kvs : List (PyData × PyData)) (q : PyData) : getP ((k, d) :: kvs) q = if nk k = nk q then some d else getP kvs q := by
  unfold getP
  rw [List.find?_cons]
  by_cases h : nk k = nk q
  · simp [h]
  · simp [h]
theorem atKey_cons (x : EntV) (xs : List EntV) (k : NestedKey) : atKey (x :: xs) k = if x.1 = k then some x.2 else atKey xs k := by
  unfold atKey
  rw [List.find?_cons]
  by_cases h : x.1 = k
  · simp [h]
  · simp [h]
theorem getP_rel {es : List Ent3} {kvs : List (PyData × PyData)} : ∀ {xs : List EntV}, RpKV K F H es kvs → Paired EntIs es xs → ∀ q : PyData, (∃ d p v, getP kvs q = some d ∧ atKey xs (nk q) = some p ∧ RelV v p.2 ∧ Rp K F H v d) ∨ (getP kvs q = none ∧ atKey xs (nk q) = none) := by
  induction kvs generalizing es with
  | nil =>
    intro xs h p q
    cases h
    cases p
    exact .inr ⟨rfl, rfl⟩
  | cons kd kvs ih =>
    intro xs h p q
    cases h with
    | cons h0 h1 h2 h3 =>
      cases p with
      | cons p1 p2 =>
        obtain ⟨e1, e2, e3⟩ := p1
        rw [getP_cons, atKey_cons, ← e1]
        split
        · exact .inl ⟨_, _, _, rfl, rfl, e3, h2⟩
        · exact ih h3 p2 q
theorem getP_some {es : List Ent3} {kvs : List (PyData × PyData)} {xs : List EntV} (h : RpKV K F H es kvs) (p : Paired EntIs es xs) (q : PyData) : (getP kvs q).isSome = (atKey xs (nk q)).isSome := by
  rcases getP_rel h p q with ⟨d, r, v, e1, e2, _⟩ | ⟨e1, e2⟩ <;> rw [e1, e2] <;> rfl
theorem kv_map {es : List Ent3} {kvs : List (PyData × PyData)} {q d : PyData} {v : V} {u : Value} : ∀ {xs : List EntV}, RpKV K F H es kvs → Paired EntIs es xs → Rp K F H v d → RelV v u →
    ∃ es', RpKV K F H es' (kvs.map fun p => if nk p.1 = nk q then (p.1, d) else p) ∧ Paired EntIs es' (xs.map (putAt (nk q) u)) := by
  induction kvs generalizing es with
  | nil =>
    intro xs h p _ _
    cases h
    cases p
    exact ⟨[], .nil, .nil⟩
  | cons kd kvs ih =>
    intro xs h p hd ru
    cases h with
    | cons h0 h1 h2 h3 =>
      cases p with
      | @cons _ x _ xs p1 p2 =>
        obtain ⟨es', g1, g2⟩ := ih h3 p2 hd ru
        obtain ⟨e1, e2, e3⟩ := p1
        rw [List.map_cons, List.map_cons]
        unfold putAt
        dsimp only
        rw [← e1]
        split
        · exact ⟨_, .cons h0 h1 hd g1, .cons ⟨rfl, e2, ru⟩ g2⟩
        · exact ⟨_, .cons h0 h1 h2 g1, .cons ⟨e1, e2, e3⟩ g2⟩
theorem kv_snoc {es : List Ent3} {kvs : List (PyData × PyData)} {q d : PyData} {b : Addr} {v : V} {u : Value} : ∀ {xs : List EntV}, RpKV K F H es kvs → Paired EntIs es xs → keyOk q = true → Rp K F H (.ref b) q → Rp K F H v d → RelV v u →
    ∃ es', RpKV K F H es' (kvs ++ [(q, d)]) ∧ Paired EntIs es' (xs ++ [(nk q, b, u)]) := by
  induction kvs generalizing es with
  | nil =>
    intro xs h p hk hq hd ru
    cases h
    cases p
    exact ⟨_, .cons hk hq hd .nil, .cons ⟨rfl, rfl, ru⟩ .nil⟩
  | cons kd kvs ih =>
    intro xs h p hk hq hd ru
    cases h with
    | cons h0 h1 h2 h3 =>
      cases p with
      | cons p1 p2 =>
        obtain ⟨es', g1, g2⟩ := ih h3 p2 hk hq hd ru
        exact ⟨_, .cons h0 h1 h2 g1, .cons p1 g2⟩
theorem kv_put {es : List Ent3} {kvs : List (PyData × PyData)} {xs : List EntV} {q d : PyData} {b : Addr} {v : V} {u : Value} (h : RpKV K F H es kvs) (p : Paired EntIs es xs) (hk : keyOk q = true) (hq : Rp K F H (.ref b) q) (hd : Rp K F H v d) (ru : RelV v u) :
    ∃ es', RpKV K F H es' (putP kvs q d) ∧ Paired EntIs es' (storedH xs (nk q) b u) := by
  unfold putP storedH
  rw [getP_some h p q]
  split
  · exact kv_map h p hd ru
  · exact kv_snoc h p hk hq hd ru
theorem kv_del {es : List Ent3} {kvs : List (PyData × PyData)} {q : PyData} : ∀ {xs : List EntV}, RpKV K F H es kvs → Paired EntIs es xs → ∃ es', RpKV K F H es' (delP kvs q) ∧ Paired EntIs es' (withoutH xs (nk q)) := by
  induction kvs generalizing es with
  | nil =>
    intro xs h p
    cases h
    cases p
    exact ⟨[], .nil, .nil⟩
  | cons kd kvs ih =>
    intro xs h p
    cases h with
    | @cons b v es k d kvs h0 h1 h2 h3 =>
      cases p with
      | @cons _ x _ xs p1 p2 =>
        obtain ⟨es', g1, g2⟩ := ih h3 p2
        obtain ⟨e1, e2, e3⟩ := p1
        have e1' : nk k = x.1 := e1
        unfold delP withoutH at *
        by_cases hq : nk k = nk q
        · rw [List.filter_cons_of_neg (by simp [hq]), List.filter_cons_of_neg (by simp [← e1', hq])]
          exact ⟨es', g1, g2⟩
        · rw [List.filter_cons_of_pos (by simp [hq]), List.filter_cons_of_pos (by simp [← e1', hq])]
          exact ⟨_, .cons h0 h1 h2 g1, .cons ⟨e1, e2, e3⟩ g2⟩
theorem kv_len {es : List Ent3} {kvs : List (PyData × PyData)} (h : RpKV K F H es kvs) : es.length = kvs.length := by
  induction kvs generalizing es with
  | nil => cases h; rfl
  | cons p kvs ih =>
    cases h with
    | cons _ _ _ h3 => rw [List.length_cons, List.length_cons, ih h3]
theorem ent_len {es : List Ent3} {xs : List EntV} (p : Paired EntIs es xs) : es.length = xs.length := Paired.length p
end
section
variable {X : Cx} {pins : List (Addr × Obj)} {σ : L2.St} {H : Hp} {s : Shared} {F : Addr → Prop}
theorem key_is (I : Inv X pins σ H s) {b : Addr} {d : PyData} (hk : keyOk d = true) (h : Rp (kw X) F H (.ref b) d) : (nestedKind X.prog X.w).is s.heap (nk d) b := by
  obtain ⟨_, h1, h2, h3⟩ := keyOk_of hk
  obtain ⟨as, r⟩ := Dp.reads I d (.ref b) (.ref b) (Rp.dp d _ h3 h) rfl
  exact ⟨nis_reads d _ _ h1 r, Nat.le_trans (nk_depth d) h2⟩
theorem keys_are (I : Inv X pins σ H s) {es : List Ent3} {kvs : List (PyData × PyData)} : ∀ {xs : List EntV}, RpKV (kw X) F H es kvs → Paired EntIs es xs → ∀ x ∈ xs, (nestedKind X.prog X.w).is s.heap x.1 x.2.1 := by
  induction kvs generalizing es with
  | nil =>
    intro xs h p x hx
    cases h
    cases p
    cases hx
  | cons kd kvs ih =>
    intro xs h p x hx
    cases h with
    | cons h0 h1 h2 h3 =>
      cases p with
      | cons p1 p2 =>
        obtain ⟨e1, e2, e3⟩ := p1
        rcases List.mem_cons.mp hx with rfl | hx
        · rw [← e1, ← e2]
          exact key_is I h0 h1
        · exact ih h3 p2 x hx
theorem dct_of (I : Inv X pins σ H s) {a : Addr} {es : List Ent3} {kvs : List (PyData × PyData)} (e : H a = some (dctO X.w a es)) (r : RpKV (kw X) F H es kvs) :
    (a == sysModules) = false ∧ es.length ≤ sizeLine ∧ ∃ xs, Paired EntIs es xs ∧ s.heap.DictOfH (nestedKind X.prog X.w) a xs := by
  have hO : ObjOk X.prog X.w H s.heap a (dctO X.w a es) := I.hok a _ e
  obtain ⟨⟨hd, hl, xs, hp, o, ds, ep, h1, h2, h3, h4, h5⟩, _, _⟩ := hO
  exact ⟨hd, hl, xs, hp, o, ds, ep, h1, h2, h3, h4, keys_are I r hp, h5⟩
theorem raw_of {prog : Program} {w : World} {h : Heap} {a : Addr} {xs : List EntV} (hm : h.DictOfH (nestedKind prog w) a xs) : RawD w h a xs := by
  obtain ⟨o, ds, ep, h1, h2, h3, h4, _, h5⟩ := hm
  exact ⟨o, ds, ep, h1, h2, h3, h4, h5⟩
theorem dctO_ok {P : Program} {w : World} {H' : Hp} {h : Heap} {a : Addr} {es : List Ent3} {xs : List EntV} (hd : (a == sysModules) = false) (hl : es.length ≤ sizeLine) (hp : Paired EntIs es xs) (r : RawD w h a xs) : ObjOk P w H' h a (dctO w a es) := by
  refine ⟨⟨hd, hl, xs, hp, r⟩, ?_, ?_⟩
  · obtain ⟨o, _, _, h1, _⟩ := r
    exact ⟨o, h1⟩
  · rintro h1 h2 ⟨a1, a2, ys, a3, o, ds, ep, b1, b2⟩ k
    exact ⟨a1, a2, ys, a3, o, ds, ep, k _ b1, b2⟩
end
/-! ### what is asked of a dict -/
theorem paired_back {α β : Type} {G : α → β → Prop} {l₁ : List α} {l₂ : List β} (h : Paired G l₁ l₂) : ∀ {i : Nat} {b : β}, l₂[i]? = some b → ∃ a, l₁[i]? = some a ∧ G a b := by
  induction h with
  | nil => intro i b e; simp at e
  | cons g _ ih =>
    intro i b e
    cases i with
    | zero => simp at e; subst e; exact ⟨_, rfl, g⟩
    | succ i => simpa using ih (by simpa using e)
section
variable {X : Cx}
theorem room_n (hu : X.A.units + 65 < cLine) : (nestedKind X.prog X.w).room X.A.in1 := by
  show X.A.units + 1 + 8 < cLine
  omega
/-- the dict at a, asked of the key at b -/
structure DAt (K : KW) (F : Addr → Prop) (H : Hp) (a b : Addr) (kvs : List (PyData × PyData)) (k : PyData) : Prop where
  ex : ∃ es, H a = some (dctO K.w a es) ∧ RpKV K F H es kvs ∧ keyOk k = true ∧ Rp K F H (.ref b) k
theorem dat_of {F : Addr → Prop} {H : Hp} {v u : V} {kvs : List (PyData × PyData)} {k : PyData} {K : KW} (hk : keyOk k = true) (hv : RdP K F H v (.dict kvs)) (hu : RdP K F H u k) : ∃ a b, v = .ref a ∧ u = .ref b ∧ DAt K F H a b kvs k := by
  obtain ⟨a, es, rfl, h1, h2⟩ := hv.dict
  obtain ⟨b, rfl, h3⟩ := hu.key hk
  exact ⟨a, b, rfl, rfl, es, h1, h2, hk, h3⟩
def rDin (K : KW) : R2 := fun x y H Q => ∃ F a b kvs k, x = .ref b ∧ y = .ref a ∧ DAt K F H a b kvs k ∧ Q (.bl (getP kvs k).isSome) H
def rDnin (K : KW) : R2 := fun x y H Q => ∃ F a b kvs k, x = .ref b ∧ y = .ref a ∧ DAt K F H a b kvs k ∧ Q (.bl (!(getP kvs k).isSome)) H
theorem op_din (hu : X.A.units + 65 < cLine) : OpR X (compareOp .In) (rDin (kw X)) := by
  intro pins s σ H x y v u Q I rx ry ⟨F, a, b, kvs, k, ex, ey, ⟨es, h1, h2, h3, h4⟩, q⟩
  subst ex ey
  cases rx
  cases ry
  obtain ⟨hd, hl, xs, hp, hm⟩ := dct_of I h1 h2
  refine wpAny_in_heap (room_n hu) (key_is I h3 h4) hd hm ?_
  rw [← getP_some h2 hp k]
  exact ⟨.bl _, H, I.tok _, rfl, q⟩
theorem op_dnin (hu : X.A.units + 65 < cLine) : OpR X (compareOp .NotIn) (rDnin (kw X)) := by
  intro pins s σ H x y v u Q I rx ry ⟨F, a, b, kvs, k, ex, ey, ⟨es, h1, h2, h3, h4⟩, q⟩
  subst ex ey
  cases rx
  cases ry
  obtain ⟨hd, hl, xs, hp, hm⟩ := dct_of I h1 h2
  refine notIn_keyed (room_n hu) (key_is I h3 h4) hd ⟨xs, hm, rfl⟩ ?_
  rw [valueAt_pairsH, Option.isSome_map, ← getP_some h2 hp k]
  exact ⟨.bl _, H, I.tok _, rfl, q⟩
/-- d[k], there -/
def rDix (K : KW) : R2 := fun x y H Q => ∃ F a b kvs k d, x = .ref a ∧ y = .ref b ∧ DAt K F H a b kvs k ∧ getP kvs k = some d ∧ ∀ v, Rp K F H v d → Q v H
theorem ix_dict (hu : X.A.units + 65 < cLine) : IxR X (rDix (kw X)) := by
  intro value slice pins s σ H x y v u Q I rx ry ⟨F, a, b, kvs, k, d, ex, ey, ⟨es, h1, h2, h3, h4⟩, e, q⟩ hs
  subst ex ey
  cases rx
  cases ry
  obtain ⟨hd, hl, xs, hp, hm⟩ := dct_of I h1 h2
  rcases getP_rel h2 hp k with ⟨d', p, z, e1, e2, e3, e4⟩ | ⟨e1, _⟩
  · rw [e] at e1
    cases e1
    exact tail_any hm.typeIs PySem.F.slot_dict_getitem.lookup (wpAny_getItem_heap (room_n hu) (key_is I h3 h4) hm e2 ⟨z, H, I.tok _, e3, q z e4⟩) hs
  · rw [e] at e1; cases e1
/-- d[k] = v -/
def rDset (K : KW) : TSet := fun x y z H Q => ∃ F a b kvs k d, x = .ref a ∧ y = .ref b ∧ DAt K F H a b kvs k ∧ Rp K F H z d ∧ kvs.length < sizeLine ∧ ∀ es', RpKV K F H es' (putP kvs k d) → Q (upd H a (dctO K.w a es'))
theorem set_dict (hu : X.A.units + 65 < cLine) : PSet X (rDset (kw X)) := by
  intro pins s σ H o i v ov iv u Q I ro ri rv ⟨F, a, b, kvs, k, d, ex, ey, ⟨es, h1, h2, h3, h4⟩, h5, h6, q⟩
  subst ex ey
  cases ro
  cases ri
  obtain ⟨hd, hl, xs, hp, hm⟩ := dct_of I h1 h2
  have hz : xs.length ≤ sizeLine := by rw [← ent_len hp]; exact hl
  refine wpAny_setItem_heap (hsz := hz) (room_n hu) (key_is I h3 h4) hm fun h' hm' hs => ?_
  obtain ⟨es', g1, g2⟩ := kv_put (b := b) h2 hp h3 h4 h5 rv
  have hl' : es'.length ≤ sizeLine := by
    have hk : (putP kvs k d).length ≤ kvs.length + 1 := by
      unfold putP
      split
      · rw [List.length_map]; omega
      · rw [List.length_append]; show kvs.length + 1 ≤ _; omega
    rw [kv_len g1]
    omega
  have hr := raw_of hm'
  have hq : ∃ q, h'.get? a = some q := let ⟨o, _, _, e, _⟩ := hr; ⟨o, e⟩
  exact ⟨_, I.write (x := a) (e := a) (by rw [h1]; exact True.intro) (.inl rfl) (fun c o hc e => (hs.2 c hc).trans e) hq (dctO_ok hd hl' g2 hr), q es' g1⟩
/-! ### dict(list of pairs) -/
/-- a pair of data and its entry -/
def PsIs (K : KW) (F : Addr → Prop) (H : Hp) (p : PyData × PyData) (x : EntV) : Prop := nk p.1 = x.1 ∧ keyOk p.1 = true ∧ Rp K F H (.ref x.2.1) p.1 ∧ ∃ v, RelV v x.2.2 ∧ Rp K F H v p.2
theorem pairsD_cons {d : PyData} {ds : List PyData} {ps : List (PyData × PyData)} (e : pairsD (d :: ds) = some ps) : ∃ k v r, d = .tuple [k, v] ∧ keyOk k = true ∧ pairsD ds = some r ∧ ps = (k, v) :: r := by
  unfold pairsD at e
  split at e
  · rename_i e0; cases e0
  · rename_i k v r e0
    cases e0
    split at e
    · rename_i hk
      obtain ⟨r', e1, rfl⟩ := Option.map_eq_some_iff.mp e
      exact ⟨k, v, r', rfl, hk, e1, rfl⟩
    · cases e
  · cases e
theorem pairs_lay {pins : List (Addr × Obj)} {σ : L2.St} {H : Hp} {s : Shared} {F : Addr → Prop} (I : Inv X pins σ H s) : ∀ {ds : List PyData} {vs : List V} {its : List Value} {ps : List (PyData × PyData)}, RpAll (kw X) F H vs ds → Vals vs its → pairsD ds = some ps →
    ∃ (Ts : List Addr) (xs : List EntV), its = Ts.map Value.ref ∧ Ts.length = xs.length ∧ Paired (PsIs (kw X) F H) ps xs ∧ ∀ (j : Nat) (T : Addr) (x : EntV), Ts[j]? = some T → xs[j]? = some x → s.heap.IsTuple T #[.ref x.2.1, x.2.2]
  | [], _, _, ps, h, r, e => by
    cases h
    cases r
    cases e
    exact ⟨[], [], rfl, rfl, .nil, fun j T x e _ => by simp at e⟩
  | d :: ds, _, _, ps, h, r, e => by
    obtain ⟨k, v, r', rfl, hk, e1, rfl⟩ := pairsD_cons e
    cases h with
    | cons h1 h2 =>
      cases r with
      | cons r1 r2 =>
        obtain ⟨Ts, xs, g1, g2, g3, g4⟩ := pairs_lay I h2 r2 e1
        cases h1 with
        | @tup a vs _ t1 t2 =>
          cases r1
          cases t2 with
          | cons u1 u2 =>
            cases u2 with
            | cons u3 u4 =>
              cases u4
              obtain ⟨⟨ys, rfl⟩, _⟩ := keyOk_of hk
              obtain ⟨its2, q1, q2, _⟩ := I.tuple t1.sq
              cases q1 with
              | cons q3 q4 =>
                cases q4 with
                | cons q5 q6 =>
                  cases q6
                  cases u1 with
                  | @tup b ws _ w1 w2 =>
                    cases q3
                    refine ⟨a :: Ts, (nk (.tuple ys), b, _) :: xs, by rw [g1]; rfl, by rw [List.length_cons, List.length_cons, g2], .cons ⟨rfl, hk, .tup w1 w2, _, q5, u3⟩ g3, fun j T x f1 f2 => ?_⟩
                    cases j with
                    | zero =>
                      simp at f1 f2
                      subst f1 f2
                      exact q2
                    | succ j => exact g4 j T x (by simpa using f1) (by simpa using f2)
theorem merge_rel {K : KW} {F : Addr → Prop} {H : Hp} : ∀ {ps : List (PyData × PyData)} {xs ys : List EntV} {es : List Ent3} {kvs : List (PyData × PyData)}, RpKV K F H es kvs → Paired EntIs es ys → Paired (PsIs K F H) ps xs → ∃ es', RpKV K F H es' (mergeP kvs ps) ∧ Paired EntIs es' (storedAllH ys xs)
  | [], xs, ys, es, kvs, h, p, q => by
    cases q
    exact ⟨es, h, p⟩
  | (k, d) :: ps, _, ys, es, kvs, h, p, q => by
    cases q with
    | @cons _ x _ xs q1 q2 =>
      obtain ⟨x1, x2, x3⟩ := x
      obtain ⟨e1, e2, e3, v, e4, e5⟩ := q1
      obtain ⟨es', g1, g2⟩ := kv_put h p e2 e3 e5 e4
      have e1' : nk k = x1 := e1
      rw [e1'] at g2
      exact merge_rel (kvs := putP kvs k d) (ys := storedH ys x1 x2 x3) g1 g2 q2
theorem putP_len (kvs : List (PyData × PyData)) (k d : PyData) : (putP kvs k d).length ≤ kvs.length + 1 := by
  unfold putP
  split
  · rw [List.length_map]; omega
  · rw [List.length_append]; show kvs.length + 1 ≤ _; omega
theorem mergeP_len : ∀ (ps kvs : List (PyData × PyData)), (mergeP kvs ps).length ≤ kvs.length + ps.length
  | [], kvs => by show kvs.length ≤ _; omega
  | p :: ps, kvs => by
    have h1 := mergeP_len ps (putP kvs p.1 p.2)
    have h2 := putP_len kvs p.1 p.2
    show (mergeP (putP kvs p.1 p.2) ps).length ≤ _
    rw [List.length_cons]
    omega
theorem pairsD_len : ∀ {ds : List PyData} {ps : List (PyData × PyData)}, pairsD ds = some ps → ps.length = ds.length
  | [], ps, e => by cases e; rfl
  | d :: ds, ps, e => by
    obtain ⟨k, v, r, rfl, _, e1, rfl⟩ := pairsD_cons e
    rw [List.length_cons, List.length_cons, pairsD_len e1]
theorem rd_tupD {pins : List (Addr × Obj)} {s : Shared} {σ : L2.St} {H : Hp} {l : Addr} {xs : List V} (I : Inv X pins σ H s) (h : SqD X.K H l xs) : xs.length ≤ sizeLine ∧ ∃ its : List Value, Vals xs its ∧ PlainSeq "tuple" s.heap l its.toArray := by
  rcases h with ⟨o, h, hd⟩ | ⟨o, its, n, h1, h2, hd, h3, h4, h5⟩
  · obtain ⟨e, hz, its, r, o2, e2, hc, n, hs⟩ := (show ObjOk X.prog X.w H s.heap l (.frz o (.tup xs)) from I.hok l _ h)
    rw [e] at e2
    cases e2
    exact ⟨hz, its, r, o, n, e, hc, hd, hs⟩
  · have e : s.heap.get? l = some o := I.kIn l o h1
    exact ⟨by rw [h5.length, Array.length_toList]; exact h4, its.toList, h5, o, n, e, h2, hd, by rw [h3, Array.toArray_toList]⟩
theorem dict_core (hc : X.calm = true) (hu : X.A.units + 65 < cLine) {pins : List (Addr × Obj)} {s : Shared} {σ : L2.St} {H : Hp} {Q : VK} {F : Addr → Prop} {a : Addr} {vs : List V} {ds : List PyData} {ps : List (PyData × PyData)} {T : String} {its : List Value} (I : Inv X pins σ H s) (hz : vs.length ≤ sizeLine) (hv : Vals vs its) (ho : PlainSeq T s.heap a its.toArray)
    (hP : ∀ (Ts : Nat → Addr) (ps : List (Value × Value)), PairArg X.prog X.w T a (a :: (List.range ps.length).map Ts) [] ps.length (PairRel ps) (fun h => PlainSeq T h a its.toArray ∧ PairItems h its.toArray Ts ps))
    (h2 : RpAll (kw X) F H vs ds) (h3 : pairsD ds = some ps) (q : ∀ p es, H p = none → RpKV (kw X) F H es (mergeP [] ps) → Q (.ref p) (upd H p (dctO X.w p es))) : wpAny (model X.prog X.w) X.A (call (.type "dict") [.ref a]) (EP X pins σ Q) X.xe s := by
  obtain ⟨Ts, es, g1, g2, g3, g4⟩ := pairs_lay I h2 hv h3
  have hps : ps.length = es.length := Paired.length g3
  have hd : ds.length = vs.length := h2.length.symm
  have hl : vs.length = its.length := hv.length
  have hpl := pairsD_len h3
  let prs : List (Value × Value) := es.map fun x => (.ref x.2.1, x.2.2)
  have hprs : prs.length = es.length := List.length_map ..
  have P := hP (fun j => Ts.getD j 0) prs
  have hI : PairItems s.heap its.toArray (fun j => Ts.getD j 0) prs := by
    refine ⟨by rw [hprs, List.size_toArray, g1, List.length_map, g2], fun j k v e => ?_⟩
    have hj : j < es.length := by rw [← hprs]; exact (List.getElem?_eq_some_iff.mp e).1
    have ej : es[j]? = some es[j] := List.getElem?_eq_getElem hj
    have et : Ts[j]? = some (Ts[j]'(by rw [g2]; exact hj)) := List.getElem?_eq_getElem _
    have e2 : (k, v) = (Value.ref es[j].2.1, es[j].2.2) := by
      have : prs[j]? = some (Value.ref es[j].2.1, es[j].2.2) := by
        show (es.map _)[j]? = _
        rw [List.getElem?_map, ej]; rfl
      rw [this] at e
      exact (Option.some.inj e).symm
    cases e2
    have et' : Ts.getD j 0 = Ts[j]'(by rw [g2]; exact hj) := by rw [List.getD_eq_getElem?_getD, et]; rfl
    refine ⟨?_, ?_⟩
    · show its.toArray[j]? = some (.ref (Ts.getD j 0))
      rw [List.getElem?_toArray, g1, List.getElem?_map, et, et']; rfl
    · show PairAt s.heap (Ts.getD j 0) _ _
      rw [et']
      exact .inl (g4 j _ _ et ej)
  have hk : ∀ x ∈ es, (nestedKind X.prog X.w).is s.heap x.1 x.2.1 := by
    intro x hx
    obtain ⟨j, hj⟩ := List.mem_iff_getElem?.mp hx
    obtain ⟨p, hp, e1, e2, e3, _⟩ := paired_back g3 hj
    rw [← e1]
    exact key_is I e2 e3
  refine call_dict_pairsH (knd := nestedKind X.prog X.w) (ps := es) P (I.ok.hd hc) (show X.A.units + 1 + 1 + 8 < cLine by omega) ⟨ho, hI⟩ ⟨hprs.symm, fun i key v e => ?_⟩ (fun h' hs x hx => ?_) (by rw [hprs]; omega) fun h' tk hm hs => ?_
  · have e : prs[i]? = some (key, v) := e
    rw [List.getElem?_map] at e
    obtain ⟨x, ex, e3⟩ := Option.map_eq_some_iff.mp e
    cases e3
    exact ⟨x.1, x.2.1, by rw [ex], rfl⟩
  · exact nestedKind_stays.stays (fun b o _ _ e _ => hs b o (Nat.ne_of_lt (Heap.lt_size e)) (fun z => nomatch z) e) (hk x hx)
  · have hf : H s.heap.objs.size = none := I.hok.fresh (Nat.le_refl _)
    obtain ⟨es', m1, m2⟩ := merge_rel (ys := []) (kvs := []) .nil .nil g3
    have hle : es'.length ≤ sizeLine := by
      rw [kv_len m1]
      have := mergeP_len ps []
      rw [List.length_nil] at this
      omega
    refine ⟨.ref s.heap.objs.size, _, I.laid (t' := tk) (o := dctO X.w s.heap.objs.size es') (fun b o e => hs b o (fun z => nomatch z) e) (Nat.le_refl _) (dctO_ok (beq_eq_false_iff_ne.mpr (Nat.ne_of_gt I.big)) hle m2 (raw_of hm)), rfl, q _ _ hf m1⟩
def rDictL (K : KW) : List V → Hp → VK → Prop := fun xs H Q => ∃ F a vs ds ps, xs = [.ref a] ∧ (Rd H a (.lst vs) ∨ SqD K H a vs) ∧ RpAll K F H vs ds ∧ pairsD ds = some ps ∧ ∀ p es, H p = none → RpKV K F H es (mergeP [] ps) → Q (.ref p) (upd H p (dctO K.w p es))
theorem cr_dictL (hc : X.calm = true) (hu : X.A.units + 65 < cLine) : CallR X (.type "dict") (rDictL (kw X)) := by
  intro pins s σ H xs us Q I r ⟨F, a, vs, ds, ps, ex, h1, h2, h3, q⟩
  subst ex
  obtain ⟨u, rfl, ru⟩ := vals1 r
  cases ru
  rcases h1 with h1 | h1
  · obtain ⟨hz, its, n, hv, hl, ho⟩ := rd_lst I h1
    exact dict_core hc hu I hz hv ⟨_, n, ho, rfl, rfl, rfl⟩ (fun Ts ps => PairArg.list a its.toArray Ts ps) h2 h3 q
  · obtain ⟨hz, its, hv, ho⟩ := rd_tupD I h1
    exact dict_core hc hu I hz hv ho (fun Ts ps => PairArg.tuple a its.toArray Ts ps) h2 h3 q
/-! ### len(d), sorted(d) -/
def rDlen (K : KW) : List V → Hp → VK → Prop := fun xs H Q => ∃ F a es kvs, xs = [.ref a] ∧ H a = some (dctO K.w a es) ∧ RpKV K F H es kvs ∧ Q (.int ((kvs.length : Nat) : Int)) H
theorem cr_dlen : CallR X (.builtin "len") (rDlen (kw X)) := by
  intro pins s σ H xs us Q I r ⟨F, a, es, kvs, ex, h1, h2, q⟩
  subst ex
  obtain ⟨u, rfl, ru⟩ := vals1 r
  cases ru
  obtain ⟨hd, hl, xs, hp, hm⟩ := dct_of I h1 h2
  have hx : xs.length = kvs.length := by rw [← ent_len hp, kv_len h2]
  have big : ((sizeLine : Nat) : Int) < 2 ^ 63 := by decide
  have le : ((xs.length : Nat) : Int) ≤ ((sizeLine : Nat) : Int) := by rw [← ent_len hp]; exact Int.ofNat_le.mpr hl
  refine call_len_dictH hd hm (Int.lt_of_le_of_lt le big) ?_
  rw [hx]
  exact ⟨.int _, H, I.tok _, ⟨_, rfl⟩, q⟩
/-- {} -/
def rDnew (K : KW) : Hp → VK → Prop := fun H Q => ∀ p, H p = none → Q (.ref p) (upd H p (dctO K.w p []))
theorem pe_dnewN {pos : Pos} : PE X (.Dict [] [] pos) (fun _ H Q => rDnew (kw X) H Q) := ⟨fun pins s σ H Q I h => by
  have hb := I.big
  refine wpAny_Dict_empty ?_
  have hf : H s.heap.objs.size = none := I.hok.fresh (Nat.le_refl _)
  refine ⟨.ref s.heap.objs.size, _, I.laid (t' := s.toks) (o := dctO X.w s.heap.objs.size []) (fun b o e => Heap.get?_push_of_some _ e) (Nat.le_refl _) (dctO_ok ?_ (Nat.zero_le _) .nil (raw_of (prog := X.prog) (Heap.DictOfH.new s.heap))), rfl, h _ hf⟩
  exact beq_eq_false_iff_ne.mpr (Nat.ne_of_gt hb)⟩
end
end Gm

/-! The deep layer, part C4: sorted. -/
namespace Gm
open PySem PySem.Spec PyProof.Rows L2
theorem alikes_of {ds : List PyData} (h : alikes ds = true) : PySem.W.AllAlike ds := fun d hd d' hd' => List.all_eq_true.mp (List.all_eq_true.mp h d hd) d' hd'
theorem sortOk_of {ds : List PyData} (h : sortOk ds = true) : PySem.W.AllAlike ds ∧ PySem.W.Sortable ds ∧ ∀ d ∈ ds, d.depth ≤ 20 ∧ d.hasDict = false := by
  unfold sortOk at h
  simp only [Bool.and_eq_true, Bool.or_eq_true] at h
  obtain ⟨h1, h2, h3⟩ := h
  refine ⟨alikes_of h1, ?_, fun d hd => ?_⟩
  · rcases h2 with h2 | h2
    · refine .inl fun d hd => ?_
      have := List.all_eq_true.mp h2 d hd
      unfold headed at this
      split at this
      · exact ⟨_, _, rfl⟩
      · cases this
    · refine .inr fun d hd => ?_
      have := List.all_eq_true.mp h2 d hd
      unfold plainS at this
      split at this
      · cases this
      · cases this
      · rename_i n1 n2
        exact ⟨fun e => n1 e, fun xs e => n2 xs e⟩
  · have := List.all_eq_true.mp h3 d hd
    simp only [Bool.and_eq_true, decide_eq_true_eq, Bool.not_eq_true'] at this
    exact this
theorem headed_of (d : PyData) : True := trivial
mutual
theorem reads_none {h : Heap} : ∀ (d : PyData) (v : Value) (as : List Addr), keyB d = true → Reads h v d as → as = []
  | .none, _, _, _, r => by cases r; rfl
  | .bool b, _, _, _, r => by cases r; rfl
  | .int i, _, _, _, r => by cases r; rfl
  | .str x, _, _, _, r => by cases r; rfl
  | .tuple xs, _, _, hk, r => by
    simp only [keyB] at hk
    cases r with
    | tuple h1 h2 h3 h4 => exact readsAll_none xs _ _ hk h4
  | .list _, _, _, hk, _ => by simp only [keyB] at hk; cases hk
  | .dict _, _, _, hk, _ => by simp only [keyB] at hk; cases hk
theorem readsAll_none {h : Heap} : ∀ (ds : List PyData) (vs : List Value) (as : List Addr), keyBs ds = true → ReadsAll h vs ds as → as = []
  | [], _, _, _, r => by cases r; rfl
  | d :: ds, _, _, hk, r => by
    simp only [keyBs, Bool.and_eq_true] at hk
    cases r with
    | cons h1 h2 => rw [reads_none d _ _ hk.1 h1, readsAll_none ds _ _ hk.2 h2]; rfl
end
section
variable {X : Cx} {pins : List (Addr × Obj)} {σ : L2.St} {H : Hp} {s : Shared} {F : Addr → Prop}
/-- a value stands for data -/
def StandsV (K : KW) (F : Addr → Prop) (H : Hp) (v : Value) (d : PyData) : Prop := ∃ x : V, RelV x v ∧ Rp K F H x d
theorem stands_all {K : KW} : ∀ {vs : List V} {us : List Value} {ds : List PyData}, RpAll K F H vs ds → Vals vs us → PySem.W.EachIs (StandsV K F H) us ds
  | _, _, [], h, r => by cases h; cases r; exact .nil
  | _, _, d :: ds, h, r => by
    cases h with
    | cons h1 h2 =>
      cases r with
      | cons r1 r2 => exact .cons ⟨_, r1, h1⟩ (stands_all h2 r2)
theorem stands_back {K : KW} : ∀ {us : List Value} {ds : List PyData}, PySem.W.EachIs (StandsV K F H) us ds → ∃ vs, RpAll K F H vs ds ∧ Vals vs us
  | _, _, .nil => ⟨[], .nil, .nil⟩
  | _, _, .cons ⟨x, r, h⟩ t => by
    obtain ⟨vs, g1, g2⟩ := stands_back t
    exact ⟨x :: vs, .cons h g1, .cons r g2⟩
theorem stands_read (I : Inv X pins σ H s) : ∀ {us : List Value} {ds : List PyData}, (∀ d ∈ ds, d.hasDict = false) → PySem.W.EachIs (StandsV (kw X) F H) us ds → PySem.W.EachIs (fun v b => ∃ as, Reads s.heap v (id b) as) us ds
  | _, _, _, .nil => .nil
  | _, d :: _, hd, .cons ⟨x, r, h⟩ t => by
    obtain ⟨as, q⟩ := Dp.reads I d x _ (Rp.dp d _ (hd d List.mem_cons_self) h) r
    exact .cons ⟨as, q⟩ (stands_read I (fun z hz => hd z (List.mem_cons_of_mem _ hz)) t)
theorem sortD_mem {ds : List PyData} : (sortD ds).length = ds.length := by
  unfold sortD
  rw [List.length_mergeSort]
def rSortL (K : KW) : List V → Hp → VK → Prop := fun xs H Q => ∃ F a vs ds, xs = [.ref a] ∧ Rd H a (.lst vs) ∧ RpAll K F H vs ds ∧ sortOk ds = true ∧ ∀ p us, H p = none → RpAll K F H us (sortD ds) → Q (.ref p) (upd H p (.lst us))
theorem cr_sortL (hu : X.A.units + 65 < cLine) : CallR X (.builtin "sorted") (rSortL (kw X)) := by
  intro pins s σ H xs us Q I r ⟨F, a, vs, ds, ex, h1, h2, h3, q⟩
  subst ex
  obtain ⟨u, rfl, ru⟩ := vals1 r
  cases ru
  obtain ⟨hz, its, n, hv, hl, ho⟩ := rd_lst I h1
  obtain ⟨g1, g2, g3⟩ := sortOk_of h3
  have hlen : ds.length ≤ sizeLine := by rw [← h2.length]; exact hz
  have e1 := stands_all h2 hv
  refine PySem.W.sorted_data (vs := its) (bs := ds) (enc := id) (R := StandsV (kw X) F H) ⟨_, ho, rfl, n, rfl⟩ e1 (stands_read I (fun d hd => (g3 d hd).2) e1) (by rw [List.map_id]; exact g1) (by rw [List.map_id]; exact g2) hlen (fun d hd => ?_) fun out ol oe => ?_
  · have := (g3 d hd).1
    show X.A.units + 2 + d.depth < cLine
    omega
  · obtain ⟨us, q1, q2⟩ := stands_back (show PySem.W.EachIs (StandsV (kw X) F H) out (sortD ds) from oe)
    obtain ⟨ep, he⟩ := PyProof.Rows.sortedAll_at s.heap its out.toArray
    have hle : us.length ≤ sizeLine := by rw [q1.length, sortD_mem]; exact hlen
    exact ⟨.ref _, _, I.laid (t' := s.toks) (o := .lst us) (fun _ _ => PyProof.Rows.sortedAll_old) (Nat.le_succ _) ⟨hle, out, ep, q2, he⟩, rfl, q _ us (I.hok.fresh (Nat.le_succ _)) q1⟩
theorem keys_stand {K : KW} {es : List Ent3} {kvs : List (PyData × PyData)} : ∀ {xs : List EntV}, RpKV K F H es kvs → Paired EntIs es xs → PySem.W.EachIs (StandsV K F H) (xs.map fun x => Value.ref x.2.1) (kvs.map (·.1)) := by
  induction kvs generalizing es with
  | nil =>
    intro xs h p
    cases h
    cases p
    exact .nil
  | cons kd kvs ih =>
    intro xs h p
    cases h with
    | @cons b v es k d kvs h0 h1 h2 h3 =>
      cases p with
      | cons p1 p2 =>
        obtain ⟨e1, e2, e3⟩ := p1
        exact .cons ⟨V.ref b, (congrArg Value.ref (Eq.symm e2) : _), h1⟩ (ih h3 p2)
theorem kv_keys {K : KW} {es : List Ent3} {kvs : List (PyData × PyData)} (h : RpKV K F H es kvs) : ∀ d ∈ kvs.map (·.1), keyOk d = true := by
  induction kvs generalizing es with
  | nil => intro d hd; cases hd
  | cons kd kvs ih =>
    intro d hd
    cases h with
    | cons h0 h1 h2 h3 =>
      rcases List.mem_cons.mp hd with rfl | hd
      · exact h0
      · exact ih h3 d hd
theorem each_off {a : Addr} {h : Heap} : ∀ {us : List Value} {ds : List PyData}, (∀ d ∈ ds, keyB d = true) → PySem.W.EachIs (fun v b => ∃ as, Reads h v (id b) as) us ds → PySem.W.EachIs (fun v b => ∃ as, Reads h v (id b) as ∧ a ∉ as) us ds
  | _, _, _, .nil => .nil
  | _, d :: _, hd, .cons ⟨as, q⟩ t => .cons ⟨as, q, by rw [reads_none d _ _ (hd d List.mem_cons_self) q]; exact fun z => nomatch z⟩ (each_off (fun z hz => hd z (List.mem_cons_of_mem _ hz)) t)
def rSortK (K : KW) : List V → Hp → VK → Prop := fun xs H Q => ∃ F a es kvs, xs = [.ref a] ∧ H a = some (dctO K.w a es) ∧ RpKV K F H es kvs ∧ sortOk (kvs.map (·.1)) = true ∧ ∀ p us, H p = none → RpAll K F H us (sortD (kvs.map (·.1))) → Q (.ref p) (upd H p (.lst us))
theorem cr_sortK (hc : X.calm = true) (hu : X.A.units + 65 < cLine) : CallR X (.builtin "sorted") (rSortK (kw X)) := by
  intro pins s σ H xs us Q I r ⟨F, a, es, kvs, ex, h1, h2, h3, q⟩
  subst ex
  obtain ⟨u, rfl, ru⟩ := vals1 r
  cases ru
  obtain ⟨hd, hl, rows, hp, hm⟩ := dct_of I h1 h2
  obtain ⟨g1, g2, g3⟩ := sortOk_of h3
  obtain ⟨o, ds, ep, m1, m2, m3, m4, m5, m6⟩ := hm
  have hsz : ds.size = rows.length := by rw [← Array.length_toList, m4, List.length_map]
  have hrl : rows.length ≤ sizeLine := by rw [← ent_len hp]; exact hl
  have hkl : (kvs.map (·.1)).length ≤ sizeLine := by rw [List.length_map, ← kv_len h2]; exact hl
  refine Calls.call_function_entry PyProof.Rows.kind_sorted PyProof.Rows.plain_sorted PyProof.Rows.entry_sorted (PyProof.Rows.args_sorted1 _) ?_
  unfold Builtin.«sorted»
  refine wpAny_bind (m := checkCount "sorted" 1 1 _) (wpAny_pure ?_)
  refine wpAny_bind (PySem.W.kdu_collect (A := X.A.in1) (PySem.KdlSrc.rawDict (es := ds) (ep := ep) hd) (I.ok.hd hc) (show s.heap.DictRaw a ds ep from ⟨o, m1, m2, m3⟩) (by rw [hsz]; exact hrl) fun h' tk acc hk hacc => ?_)
  have I1 : Inv X pins σ H { s with heap := h', toks := tk } := I.kept hk
  have hacc2 : acc.toList = rows.map fun x => Value.ref x.2.1 := by
    apply List.ext_getElem?
    intro j
    rw [List.getElem?_map]
    by_cases hj : j < rows.length
    · have hjs : j < acc.size := by rw [hacc.1, hsz]; exact hj
      have ej : acc[j]? = some acc[j] := Array.getElem?_eq_getElem hjs
      obtain ⟨hi, ev⟩ := hacc.2 j _ ej
      have e4 : ds.toList[j]? = some ds[j] := by rw [Array.getElem?_toList]; exact Array.getElem?_eq_getElem hi
      rw [m4, List.getElem?_map] at e4
      have er : rows[j]? = some rows[j] := List.getElem?_eq_getElem hj
      rw [er] at e4
      rw [Array.getElem?_toList, ej, er, ev, ← Option.some.inj e4]
      rfl
    · rw [List.getElem?_eq_none (by rw [Array.length_toList, hacc.1, hsz]; omega), List.getElem?_eq_none (by omega)]
      rfl
  have e1 : PySem.W.EachIs (StandsV (kw X) F H) acc.toList (kvs.map (·.1)) := by rw [hacc2]; exact keys_stand h2 hp
  have hal : acc.toList.length ≤ sizeLine := by rw [hacc2, List.length_map]; exact hrl
  refine wpAny_bind (wpAny_newList ?_ hal)
  have hoL : (h'.push (seqObj "list" acc.toList.toArray 0)).get? h'.objs.size = some (seqObj "list" acc.toList.toArray 0) := Heap.get?_push_size _ rfl
  show wpAny _ _ _ _ _ { s with heap := h'.push (seqObj "list" acc.toList.toArray 0), toks := tk }
  have I2 : Inv X pins σ H { s with heap := h'.push (seqObj "list" acc.toList.toArray 0), toks := tk } := I1.kept (t' := tk) fun b u e => Heap.get?_push_of_some _ e
  have e2 := each_off (a := h'.objs.size) (fun d hd => (keyOk_of (kv_keys h2 d hd)).2.1) (stands_read I2 (fun d hd => (g3 d hd).2) e1)
  refine wpAny_bind (wpAny_holding (PySem.W.list_sort_data (s := { s with heap := h'.push (seqObj "list" acc.toList.toArray 0), toks := tk }) (R := StandsV (kw X) F H) (enc := id) (bs := kvs.map (·.1)) hoL e1 e2 (by rw [List.map_id]; exact g1) (by rw [List.map_id]; exact g2) hkl (fun d hd => ?_) fun out ol oe => ?_))
  · have := (g3 d hd).1
    show X.A.units + 1 + 1 + d.depth < cLine
    omega
  · obtain ⟨us, q1, q2⟩ := stands_back (show PySem.W.EachIs (StandsV (kw X) F H) out (sortD (kvs.map (·.1))) from oe)
    obtain ⟨ep', he⟩ := PyProof.Rows.sortedHeap_at (vs := acc.toList) (out := out.toArray) hoL
    have hle : us.length ≤ sizeLine := by rw [q1.length, sortD_mem]; exact hkl
    refine wpAny_pure ⟨_, rfl, .ref h'.objs.size, _, I1.laid (t' := tk) (o := .lst us) (fun b u e => ?_) (Nat.le_refl _) ⟨hle, out, ep', q2, he⟩, rfl, q _ us (I1.hok.fresh (Nat.le_refl _)) q1⟩
    have hb : b < h'.objs.size := Heap.lt_size e
    rw [PyProof.Rows.sortedHeap_old (Nat.ne_of_lt hb) (by rw [size_push']; exact Nat.lt_succ_of_lt hb)]
    exact Heap.get?_push_of_some _ e
end
end Gm

/-! The deep layer, part S: sets of keys (tuples of any depth, or texts), of fewer than 64, made only to be sorted. -/
namespace Gm
open PySem PySem.Spec PyProof.Rows L2

/-! ### plain facts -/
theorem lift_perm {α β : Type} (f : α → β) : ∀ {l m : List β}, l.Perm m → ∀ L : List α, m = L.map f → ∃ L' : List α, L'.Perm L ∧ L'.map f = l := by
  intro l m h
  induction h with
  | nil => intro L e; cases L with
    | nil => exact ⟨[], .nil, rfl⟩
    | cons => cases e
  | cons x _ ih => intro L e; cases L with
    | nil => cases e
    | cons y L =>
      injection e with e1 e2
      obtain ⟨L', p, q⟩ := ih L e2
      exact ⟨y :: L', p.cons y, by rw [List.map_cons, q, e1]⟩
  | swap x y l => intro L e; match L, e with
    | u :: v :: L, e =>
      injection e with e1 e2
      injection e2 with e2 e3
      exact ⟨v :: u :: L, .swap u v L, by rw [List.map_cons, List.map_cons, e1, e2, e3]⟩
  | trans _ _ ih1 ih2 => intro L e; obtain ⟨L1, p1, q1⟩ := ih2 L e; obtain ⟨L2, p2, q2⟩ := ih1 L1 q1.symm; exact ⟨L2, p2.trans p1, q2⟩

section
variable {P : Program} {w : World} {A : Around} {E : Value → Shared → Prop} {s : Shared}

/-! ### quiet questions asked of keys -/
/-- of no class statement of the program's, n levels down -/
def NoCls (P : Program) (w : World) (n : Nat) (s : Shared) (v : Value) : Prop := ∀ (A : Around) (E : Value → Shared → Prop) (Q : Bool → Shared → Prop), Q false s → wpAny (model P w) A (ofAClassStatement n v) Q E s
/-- whether the hash goes by the value alone: some answer -/
def SomeBy (P : Program) (w : World) (n : Nat) (s : Shared) (v : Value) : Prop := ∀ (A : Around) (E : Value → Shared → Prop) (Q : Bool → Shared → Prop), (∀ b, Q b s) → wpAny (model P w) A (hashByValue n v) Q E s
theorem NoCls.tup {n : Nat} {a : Addr} {o : Obj} {vs : Array Value} {m : Nat} (ho : s.heap.get? a = some o) (hc : o.cls = .type "tuple") (hd : o.data = .seq vs m) (hq : ∀ v ∈ vs.toList, NoCls P w n s v) : NoCls P w (n + 1) s (.ref a) := fun A E Q h => by
  have tt : s.TypeIs (.ref a) "tuple" := ⟨o, ho, hc⟩
  unfold ofAClassStatement
  refine wpAny_bind (wpAny_typeOf tt ?_)
  dsimp only
  have e : (("tuple" : String) == "tuple") = true := by decide
  simp only [e, if_true, Bool.not_true, Bool.false_eq_true, if_false]
  try refine wpAny_bind (wpAny_pure ?_)
  try simp only [Bool.not_true, Bool.false_eq_true, if_false]
  change wpAny _ _ (seqItems? (.ref a) >>= _) _ _ s
  refine wpAny_bind (wpAny_seqItems ho hd ?_)
  dsimp only
  refine wpAny_bind ?_
  change wpAny _ _ (forIn vs _ _) _ _ s
  rw [← Array.forIn_toList]
  refine wpAny_forIn_list _ (fun rest r z => r.1 = none ∧ z = s ∧ ∀ v ∈ rest, NoCls P w n s v) _ ?_ ?_ _ _ ⟨rfl, rfl, hq⟩
  · rintro v rest r z ⟨hr, rfl, all⟩
    refine wpAny_bind (all v List.mem_cons_self _ _ _ ?_)
    simp only [Bool.false_eq_true, if_false]
    exact wpAny_pure ⟨rfl, rfl, fun u hu => all u (List.mem_cons_of_mem _ hu)⟩
  · rintro ⟨r1, r2⟩ z ⟨hr, rfl, _⟩
    simp only at hr
    subst hr
    exact wpAny_pure h
theorem SomeBy.tup {n : Nat} {a : Addr} {o : Obj} {vs : Array Value} {m : Nat} (ho : s.heap.get? a = some o) (hc : o.cls = .type "tuple") (hd : o.data = .seq vs m) (hq : ∀ v ∈ vs.toList, SomeBy P w n s v) : SomeBy P w (n + 1) s (.ref a) := fun A E Q h => by
  have tt : s.TypeIs (.ref a) "tuple" := ⟨o, ho, hc⟩
  unfold hashByValue
  refine wpAny_bind (wpAny_specialOf tt F.slot_tuple_hash.lookup ?_)
  change wpAny _ _ (seqItems? (.ref a) >>= _) _ _ s
  refine wpAny_bind (wpAny_seqItems ho hd ?_)
  refine wpAny_bind ?_
  change wpAny _ _ (forIn vs _ _) _ _ s
  rw [← Array.forIn_toList]
  refine wpAny_forIn_list _ (fun rest r z => (∀ b, r.1 = some b → b = false) ∧ z = s ∧ ∀ v ∈ rest, SomeBy P w n s v) _ ?_ ?_ _ _ ⟨fun b e => (by cases e), rfl, hq⟩
  · rintro v rest r z ⟨hr, rfl, all⟩
    refine wpAny_bind (all v List.mem_cons_self _ _ _ fun b => ?_)
    cases b
    · simp only [Bool.not_false, if_true]
      refine wpAny_pure ?_
      exact wpAny_pure (h false)
    · simp only [Bool.not_true, Bool.false_eq_true, if_false]
      exact wpAny_pure ⟨fun b e => (by cases e), rfl, fun u hu => all u (List.mem_cons_of_mem _ hu)⟩
  · rintro ⟨r1, r2⟩ z ⟨hr, rfl, _⟩
    cases r1 with
    | none => exact wpAny_pure (h true)
    | some b => exact wpAny_pure (h _)
mutual
theorem nocls_key : ∀ (k : NestedKey) (v : Value) (n : Nat) (s : Shared), NestedIs s.heap k v → k.depth ≤ n → NoCls P w n s v
  | .none, _, n, s, x, _ => by cases x; cases n <;> exact fun A E Q h => wpAny_pure h
  | .num i, _, n, s, x, _ => by cases x <;> cases n <;> exact fun A E Q h => wpAny_pure h
  | .text y, _, n, s, x, _ => by cases x; cases n <;> exact fun A E Q h => wpAny_pure h
  | .tup ks, _, n, s, x, hn => by
    cases x with
    | tup hg hc hd hk =>
      simp only [NestedKey.depth] at hn
      cases n with
      | zero => omega
      | succ n => exact .tup hg hc hd (nocls_keys ks _ n s hk (by omega))
theorem nocls_keys : ∀ (ks : List NestedKey) (vs : List Value) (n : Nat) (s : Shared), NestedAll s.heap ks vs → NestedKey.depthAll ks ≤ n → ∀ v ∈ vs, NoCls P w n s v
  | [], _, n, s, x, _, v, hv => by cases x; cases hv
  | k :: ks, _, n, s, x, hn, v, hv => by
    cases x with
    | cons x1 x2 =>
      simp only [NestedKey.depthAll] at hn
      rcases List.mem_cons.mp hv with e | hv
      · rw [e]; exact nocls_key k _ n s x1 (by omega)
      · exact nocls_keys ks _ n s x2 (by omega) v hv
end
mutual
theorem someby_key : ∀ (k : NestedKey) (v : Value) (n : Nat) (s : Shared), NestedIs s.heap k v → k.depth ≤ n → SomeBy P w n s v
  | .none, _, n, s, x, _ => by cases x; cases n <;> exact fun A E Q h => wpAny_pure (h _)
  | .num i, _, n, s, x, _ => by cases x <;> cases n <;> exact fun A E Q h => wpAny_pure (h _)
  | .text y, _, n, s, x, _ => by cases x; cases n <;> exact fun A E Q h => wpAny_pure (h _)
  | .tup ks, _, n, s, x, hn => by
    cases x with
    | tup hg hc hd hk =>
      simp only [NestedKey.depth] at hn
      cases n with
      | zero => omega
      | succ n => exact .tup hg hc hd (someby_keys ks _ n s hk (by omega))
theorem someby_keys : ∀ (ks : List NestedKey) (vs : List Value) (n : Nat) (s : Shared), NestedAll s.heap ks vs → NestedKey.depthAll ks ≤ n → ∀ v ∈ vs, SomeBy P w n s v
  | [], _, n, s, x, _, v, hv => by cases x; cases hv
  | k :: ks, _, n, s, x, hn, v, hv => by
    cases x with
    | cons x1 x2 =>
      simp only [NestedKey.depthAll] at hn
      rcases List.mem_cons.mp hv with e | hv
      · rw [e]; exact someby_key k _ n s x1 (by omega)
      · exact someby_keys ks _ n s x2 (by omega) v hv
end
/-- the value is the key of the data: a tuple (b) or a text -/
structure KeyV (b : Bool) (h : Heap) (d : PyData) (v : Value) : Prop where
  is : NestedIs h (nk d) v
  dp : (nk d).depth ≤ 8
  sh : if b = true then ∃ c, v = .ref c else ∃ x u, v = .str x u ∧ nk d = .text x
theorem KeyV.quiet {b : Bool} {d : PyData} {v : Value} (x : KeyV b s.heap d v) {Q : Bool → Shared → Prop} (h : Q true s) : wpAny (model P w) A (eqIsQuiet 8 v) Q E s := quiet_key _ _ 8 s x.is x.dp A E Q h
theorem KeyV.eqv {b : Bool} {d e : PyData} {u v : Value} (x : KeyV b s.heap d u) (y : KeyV b s.heap e v) (hu : A.units + 8 < cLine) {Q : Bool → Shared → Prop} (h : Q (decide (nk d = nk e)) s) : wpAny (model P w) A (eqBool u v) Q E s := by
  have a1 := x.dp
  have a2 := y.dp
  exact eqAt_key _ _ A s _ _ x.is y.is (by omega) _ _ _ _ (by rw [← NestedKey.decide_eq]; exact h)
theorem KeyV.hashed {b : Bool} {d : PyData} {v : Value} (x : KeyV b s.heap d v) (hu : A.units + 8 < cLine) {Q : Int → Shared → Prop} (h : Q ((nk d).hash w) { s with toks := s.toks + (nk d).draws }) : wpAny (model P w) A (pyHash v) Q E s := by
  have a1 := x.dp
  exact pyHash_key _ _ _ _ _ x.is (by omega) h
theorem KeyV.keep {b : Bool} {h h' : Heap} {d : PyData} {v : Value} (x : KeyV b h d v) (k : ∀ c o, h.get? c = some o → h'.get? c = some o) : KeyV b h' d v := ⟨NestedIs.at (fun a o vs n e _ => k a o e) _ _ x.is, x.dp, x.sh⟩
theorem KeyV.but {b : Bool} {h h' : Heap} {a : Addr} {o : Obj} {es : Array (Int × Value)} {ep : Nat} {t : SetTable} {d : PyData} {v : Value} (x : KeyV b h d v) (ho : h.get? a = some o) (hd : o.data = .set es ep t) (hs : Heap.SameBut a h h') : KeyV b h' d v := by
  refine ⟨NestedIs.at (fun c o' vs n e e2 => ?_) _ _ x.is, x.dp, x.sh⟩
  refine (hs.2 c fun z => ?_).trans e
  subst z
  rw [ho] at e
  cases e
  rw [hd] at e2
  cases e2
theorem KeyV.inj {b b' : Bool} {h : Heap} {d e : PyData} {v : Value} (x : KeyV b h d v) (y : KeyV b' h e v) : nk d = nk e := NestedIs.inj _ _ _ x.is y.is
/-- a search among keys shows nothing -/
theorem seen_keys {d : PyData} {v : Value} {Q : Bool → Shared → Prop} (hk : KeyV true s.heap d v) {ys : List Value} (hy : ∀ y ∈ ys, ∃ e, KeyV true s.heap e y) (h : Q false s) : wpAny (model P w) A (searchCouldBeSeen v ys) Q E s := by
  unfold searchCouldBeSeen
  refine wpAny_bind ?_
  refine wpAny_forIn_list _ (fun rest r z => r.1 = none ∧ z = s ∧ ∀ y ∈ rest, ∃ e, KeyV true s.heap e y) _ ?_ ?_ _ _ ⟨rfl, rfl, hy⟩
  · rintro y rest r z ⟨hr, rfl, all⟩
    obtain ⟨e, he⟩ := all y List.mem_cons_self
    have more : ∀ u ∈ rest, ∃ e, KeyV true z.heap e u := fun u hu => all u (List.mem_cons_of_mem _ hu)
    obtain ⟨b, rfl⟩ : ∃ b, v = .ref b := hk.sh
    obtain ⟨c, rfl⟩ : ∃ c, y = .ref c := he.sh
    dsimp only
    by_cases same : (b == c || (carriedByValue (.ref b) && carriedByValue (.ref c))) = true
    · refine wp_if_pos same ?_
      exact wpAny_pure ⟨rfl, rfl, more⟩
    · refine wp_if_neg same ?_
      refine wpAny_bind (hk.quiet ?_)
      simp only [Bool.not_true, Bool.false_eq_true, if_false]
      refine wpAny_bind (he.quiet ?_)
      simp only [Bool.not_true, Bool.false_eq_true, if_false]
      refine wpAny_bind (nocls_key _ _ 8 _ hk.is hk.dp _ _ _ ?_)
      simp only [Bool.false_eq_true, if_false]
      refine wpAny_bind (nocls_key _ _ 8 _ he.is he.dp _ _ _ ?_)
      simp only [Bool.false_eq_true, if_false]
      exact wpAny_pure ⟨rfl, rfl, more⟩
  · rintro ⟨r1, r2⟩ z ⟨hr, rfl, _⟩
    simp only at hr
    subst hr
    exact wpAny_pure h

/-! ### the set -/
abbrev Hk (w : World) (d : PyData) : Int := (nk d).hash w
abbrev Rw (w : World) (L : List (Value × PyData)) : List (Int × Value) := L.map fun p => (Hk w p.2, p.1)
abbrev Kk (L : List (Value × PyData)) : List NestedKey := L.map fun p => nk p.2
structure SetN (b : Bool) (w : World) (h : Heap) (a : Addr) (L : List (Value × PyData)) (es : Array (Int × Value)) (ep : Nat) (t : SetTable) : Prop where
  ob : ∃ o, h.get? a = some o ∧ o.ExactSet ∧ o.data = .set es ep t
  rows : es.toList = Rw w L
  fit : t.fits es.size = true
  ris : Ris t.place.toList
  led : w.params.followText "set-order" = true ∨ t.led = true
  nd : (Kk L).Nodup
  few : L.length < 64
  tab : b = true → TabOk t (L.map fun p => Hk w p.2) ∧ L.length * 5 < t.mask * 3
variable {b : Bool} {a : Addr} {L : List (Value × PyData)} {es : Array (Int × Value)} {ep : Nat} {t : SetTable}
theorem SetN.size {h : Heap} (R : SetN b w h a L es ep t) : es.size = L.length := by
  have e := congrArg List.length R.rows
  rw [Array.length_toList, List.length_map] at e
  exact e
theorem SetN.entry {h : Heap} (R : SetN b w h a L es ep t) {i : Nat} {p : Value × PyData} (e : L[i]? = some p) : es[i]? = some (Hk w p.2, p.1) := by
  rw [← Array.getElem?_toList, R.rows, List.getElem?_map, e] <;> rfl
theorem SetN.gw {h : Heap} (R : SetN true w h a L es ep t) : ¬ t.gaveWay = true := by
  unfold SetTable.gaveWay
  rw [mask_odd (R.tab rfl).1.mok]
  decide
/-- what adding leaves -/
def Grew (L : List (Value × PyData)) (v : Value) (d : PyData) (L' : List (Value × PyData)) : Prop := (nk d ∈ Kk L ∧ L' = L) ∨ (nk d ∉ Kk L ∧ L'.Perm ((v, d) :: L))

/-! ### adding a text: by the scan -/
theorem elems_str {h : Heap} (R : SetN false w h a L es ep t) (hL : ∀ p ∈ L, KeyV false h p.2 p.1) : ElemsOf (strKind P w) es.toList := by
  intro e he
  rw [R.rows] at he
  obtain ⟨p, hp, rfl⟩ := List.mem_map.mp he
  obtain ⟨x, u, e1, e2⟩ : ∃ x u, p.1 = .str x u ∧ nk p.2 = .text x := (hL p hp).sh
  refine ⟨⟨x, ?_, ?_⟩, ?_⟩
  · show Value.isStrOf x p.1 = true
    rw [e1]; exact beq_self_eq_true x
  · show Hk w p.2 = hashStr w x
    unfold Hk; rw [e2]; rfl
  · show p.1.scannable = true
    rw [e1]; rfl
theorem byText_mem {h : Heap} (hL : ∀ p ∈ L, KeyV false h p.2 p.1) (x : Str) : NestedKey.text x ∈ Kk L ↔ ∃ e ∈ Rw w L, (strKind P w).is x e.2 = true := by
  constructor
  · intro m
    obtain ⟨p, hp, e⟩ := List.mem_map.mp m
    obtain ⟨y, u, e1, e2⟩ : ∃ x u, p.1 = .str x u ∧ nk p.2 = .text x := (hL p hp).sh
    have e3 : nk p.2 = .text x := e
    rw [e2] at e3
    injection e3 with e3
    refine ⟨_, List.mem_map.mpr ⟨p, hp, rfl⟩, ?_⟩
    show Value.isStrOf x p.1 = true
    rw [e1, e3]; exact beq_self_eq_true x
  · rintro ⟨e, m, q⟩
    obtain ⟨p, hp, rfl⟩ := List.mem_map.mp m
    obtain ⟨y, u, e1, e2⟩ : ∃ x u, p.1 = .str x u ∧ nk p.2 = .text x := (hL p hp).sh
    refine List.mem_map.mpr ⟨p, hp, ?_⟩
    have q' : Value.isStrOf x p.1 = true := q
    rw [e1] at q'
    have e3 : y = x := eq_of_beq q'
    show nk p.2 = .text x
    rw [e2, e3]
/-- the entries behind a store -/
theorem SetN.stored {h : Heap} {o : Obj} {es1 : Array (Int × Value)} {ep1 : Nat} {t1 : SetTable} {L1 : List (Value × PyData)} (ho : h.get? a = some o) (hex : o.ExactSet) (hd : o.data = .set es1 ep1 t1) (rw1 : es1.toList = Rw w L1) (fit1 : t1.fits es1.size = true)
    (r1 : Ris t1.place.toList) (l1 : w.params.followText "set-order" = true ∨ t1.led = true) (n1 : (Kk L1).Nodup) (f1 : L1.length < 64) (hb : b = true → TabOk t1 (L1.map fun p => Hk w p.2) ∧ L1.length * 5 < t1.mask * 3) : SetN b w h a L1 es1 ep1 t1 := ⟨⟨o, ho, hex, hd⟩, rw1, fit1, r1, l1, n1, f1, hb⟩
theorem tail_str {g : Bool → Sem Unit} (hg : ∀ (y : Bool) (z : Shared) (Q' : Unit → Shared → Prop), Q' () z → wpAny (model P w) A (g y) Q' E z)
    {o : Obj} (ho : s.heap.get? a = some o) (hex : o.ExactSet) (hd : o.data = .set es ep t) {es1 : Array (Int × Value)} {t2 : SetTable} {L1 : List (Value × PyData)} (rw1 : es1.toList = Rw w L1) (n1 : (Kk L1).Nodup) (f1 : L1.length < 64)
    (fit2 : t2.fits es1.size = true) (r2 : Ris t2.place.toList) (l2 : w.params.followText "set-order" = true ∨ t2.led = true) {wd : Bool} {R : Option Bool → Shared → Prop}
    (hR : ∀ h' L' es' ep' t', Heap.SameBut a s.heap h' → SetN false w h' a L' es' ep' t' → L'.Perm L1 → R (some true) { s with heap := h' }) :
    wpAny (model P w) A (do
        storeSet a es1 t2
        if (!wd && t2.tooFull) = true then do
            g (relayAll t2 es1 (SetTable.grown es1.size)).2.2
            storeSet a (relayAll t2 es1 (SetTable.grown es1.size)).1 (relayAll t2 es1 (SetTable.grown es1.size)).2.1
            pure (some true)
          else pure (some true)) R E s := by
  have z1 : es1.size = L1.length := by
    have e := congrArg List.length rw1
    rw [Array.length_toList, List.length_map] at e
    exact e
  refine wpAny_bind (wpAny_storeSet_of ho hd ?_ (by rw [z1, sizeLine_eq]; omega))
  have ho1 := store_at (es' := es1) (t' := t2) ho hd
  have sb1 := Heap.SameBut.update s.heap a (Obj.putSet es1 t2)
  split
  · have pm := relayAll_perm t2 es1 (SetTable.grown es1.size)
    have q1 := relayAll_fits t2 es1 (SetTable.grown es1.size)
    have q2 := relayAll_ris t2 es1 (SetTable.grown es1.size)
    have q3 := relayAll_led t2 es1 (SetTable.grown es1.size)
    generalize relayAll t2 es1 (SetTable.grown es1.size) = Z at pm q1 q2 q3 ⊢
    obtain ⟨es2, t3, gave⟩ := Z
    dsimp only at pm q1 q2 q3 ⊢
    have z2 : es2.size = L1.length := by rw [← Array.length_toList, pm.length_eq, Array.length_toList, z1]
    refine wpAny_bind (hg _ _ _ ?_)
    refine wpAny_bind (wpAny_storeSet_of ho1 rfl ?_ (by rw [z2, sizeLine_eq]; omega))
    have ho2 := store_at (es' := es2) (t' := t3) ho1 rfl
    rw [rw1] at pm
    obtain ⟨L2, p2, e2⟩ := lift_perm _ pm L1 rfl
    refine wpAny_pure (hR _ L2 es2 _ t3 (sb1.trans (Heap.SameBut.update _ a _)) (.stored ho2 ⟨hex.1, hex.2.1, hex.2.2⟩ rfl e2.symm q1 q2 (l2.imp id fun z => by rw [q3]; exact z) ((p2.map fun p => nk p.2).nodup_iff.mpr n1) (by rw [p2.length_eq]; exact f1) fun z => by cases z) p2)
  · exact wpAny_pure (hR _ L1 es1 _ t2 sb1 (.stored ho1 ⟨hex.1, hex.2.1, hex.2.2⟩ rfl rw1 fit2 r2 l2 n1 f1 fun z => by cases z) (.refl _))
theorem add_str (R : SetN false w s.heap a L es ep t) (hL : ∀ p ∈ L, KeyV false s.heap p.2 p.1) {v : Value} {d : PyData} (hx : KeyV false s.heap d v) (few : L.length + 1 < 64) {Q : Bool → Shared → Prop}
    (hQ : ∀ y h' L' es' ep' t', Heap.SameBut a s.heap h' → SetN false w h' a L' es' ep' t' → Grew L v d L' → Q y { s with heap := h' }) : wpAny (model P w) A (setAddHashed a v (Hk w d)) Q E s := by
  obtain ⟨o, ho, hex, hd⟩ := R.ob
  obtain ⟨x, u, rfl, ek⟩ : ∃ x u, v = .str x u ∧ nk d = .text x := hx.sh
  have zl := R.size
  have el : ElemsOf (strKind P w) es.toList := elems_str R hL
  have hkey : (strKind P w).is x (.str x u) = true := beq_self_eq_true x
  have eh : Hk w d = (strKind P w).hash x := by unfold Hk; rw [ek]; rfl
  rw [eh]
  unfold setAddHashed setAddHashedIn
  refine wpAny_holding (wpAny_bind (wpAny_setState_of ho hd R.fit ?_))
  dsimp only
  rw [byScan_of (show (Value.str x u).scannable = true from rfl) (by rw [zl]; have := R.few; unfold scanBound; omega) el]
  simp only [↓reduceIte]
  unfold setAddByScan
  refine wpAny_bind ?_
  refine wpAny_bind (wpAny_rule ?_)
  refine wpAny_bind (wpAny_setScan_of hkey ho hd R.fit el ?_)
  cases hfi : List.findIdx? (fun e => (strKind P w).is x e.2) es.toList with
  | some j =>
    dsimp only
    obtain ⟨hj, pj, _⟩ := List.findIdx?_eq_some_iff_getElem.mp hfi
    have hin : nk d ∈ Kk L := by
      rw [ek]
      exact (byText_mem (P := P) (w := w) hL x).mpr ⟨es.toList[j], by rw [← R.rows]; exact List.getElem_mem hj, pj⟩
    exact wpAny_pure (wpAny_pure (hQ false s.heap L es ep t (Heap.SameBut.refl a s.heap) R (.inl ⟨hin, rfl⟩)))
  | none =>
    dsimp only
    have hno : nk d ∉ Kk L := fun z => by
      rw [ek] at z
      obtain ⟨e, he, q⟩ := (byText_mem (P := P) (w := w) hL x).mp z
      rw [← R.rows] at he
      have c := List.findIdx?_eq_none_iff.mp hfi e he
      rw [q] at c
      cases c
    have hgw : ∀ (y : Bool) {z : Shared} {Q' : Unit → Shared → Prop}, Q' () z → wpAny (model P w) A (match y with | true => rule "set.scan.the-table-gave-way" | false => pure ()) Q' E z :=
      fun y z Q' q => by cases y <;> first | exact wpAny_pure q | exact wpAny_rule q
    have pm := layNew_perm t es ((strKind P w).hash x) (.str x u)
    have q1 := layNew_fits t es ((strKind P w).hash x) (.str x u)
    have q2 := layNew_ris t es ((strKind P w).hash x) (.str x u) R.ris
    have q3 := layNew_led t es ((strKind P w).hash x) (.str x u)
    generalize layNew t es ((strKind P w).hash x) (.str x u) = Z at pm q1 q2 q3 ⊢
    obtain ⟨es1, t1, wd, gave⟩ := Z
    dsimp only at pm q1 q2 q3 ⊢
    rw [Array.toList_push, R.rows, ← eh] at pm
    have pc : es1.toList.Perm (Rw w ((Value.str x u, d) :: L)) := pm.trans (List.perm_append_singleton _ _)
    obtain ⟨L1, p1, e1⟩ := lift_perm _ pc _ rfl
    have n1 : (Kk L1).Nodup := (p1.map fun p => nk p.2).nodup_iff.mpr (List.nodup_cons.mpr ⟨hno, R.nd⟩)
    have f1 : L1.length < 64 := by rw [p1.length_eq, List.length_cons]; exact few
    have l1 : w.params.followText "set-order" = true ∨ t1.led = true := R.led.imp id fun z => by rw [q3]; exact z
    refine wpAny_bind (hgw _ ?_)
    split
    · refine wpAny_bind ?_
      rw [hashByValue_scannable 8 (x := Value.str x u) rfl]
      refine wpAny_pure ?_
      refine tail_str ?_ ho hex hd e1.symm n1 f1 ?_ ?_ ?_ ?_
      · intro y z Q' q; cases y <;> first | exact wpAny_pure q | exact wpAny_rule q
      · first | (split <;> first | exact q1 | exact SetTable.fits_plain_off q1) | exact q1
      · first | (split <;> exact q2) | exact q2
      · first | (split <;> exact l1) | exact l1
      · intro h' L' es' ep' t' sb r pl; dsimp only; exact wpAny_pure (hQ true h' L' es' ep' t' sb r (.inr ⟨hno, pl.trans p1⟩))
    · refine wpAny_bind (wpAny_pure ?_)
      simp only [↓reduceIte]
      refine tail_str ?_ ho hex hd e1.symm n1 f1 q1 q2 l1 ?_
      · intro y z Q' q; cases y <;> first | exact wpAny_pure q | exact wpAny_rule q
      · intro h' L' es' ep' t' sb r pl; dsimp only; exact wpAny_pure (hQ true h' L' es' ep' t' sb r (.inr ⟨hno, pl.trans p1⟩))
end
end Gm

/-! The deep layer, part S2: adding a tuple to a set of tuples. -/
namespace Gm
open PySem PySem.Spec PyProof.Rows L2
section
variable {P : Program} {w : World} {A : Around} {E : Value → Shared → Prop} {s : Shared}
variable {a : Addr} {L : List (Value × PyData)} {es : Array (Int × Value)} {ep : Nat} {t : SetTable}
/-- the k-th state of the way of a hash -/
abbrev stp (m : Nat) (h : Int) (k : Nat) : SetTable.Probe := nth m (runAt m (SetTable.bits h % (m + 1)) (SetTable.bits h)) k
theorem stp_dummy (m : Nat) (h : Int) (k : Nat) : (stp m h k).dummy = none := by
  have key : ∀ (n : Nat) (p : SetTable.Probe), p.dummy = none → (nth m p n).dummy = none := by
    intro n
    induction n with
    | zero => exact fun p h => h
    | succ n ih =>
      intro p h
      refine ih (adv m p) ?_
      unfold adv
      split <;> exact h
  exact key k _ rfl
theorem stp_add (m : Nat) (h : Int) (c q : Nat) : nth m (stp m h c) q = stp m h (c + q) := (nth_add m c _ q).symm
theorem look_tup (R : SetN true w s.heap a L es ep t) (hL : ∀ p ∈ L, KeyV true s.heap p.2 p.1) {v : Value} {d : PyData} (hx : KeyV true s.heap d v) (hu : A.units + 8 < cLine) {K : Nat} (hKf : K < 10 * SetTable.turns t.mask)
    (hK : way t.mask (Hk w d) K ∉ t.place.toList) (hKb : ∀ c, c < K → way t.mask (Hk w d) c ∈ t.place.toList) {Q : SetFound → Shared → Prop}
    (hin : nk d ∈ Kk L → Q (.there none) s) (hout : nk d ∉ Kk L → Q (.free (way t.mask (Hk w d) K) false) s) :
    ∀ (f c : Nat) (stand : Option SetTable.Probe), stand.getD (t.probeStart (Hk w d)) = stp t.mask (Hk w d) c → c ≤ K → K - c < f →
      (∀ (i : Nat) p, L[i]? = some p → nk p.2 = nk d → ∃ c', c ≤ c' ∧ c' < K ∧ t.place.toList[i]? = some (way t.mask (Hk w d) c')) →
      wpAny (model P w) A (setSearchFrom a v (Hk w d) true f stand) Q E s
  | 0, c, stand, _, _, hf, _ => absurd hf (Nat.not_lt_zero _)
  | f + 1, c, stand, hst, hc, hf, hre => by
    obtain ⟨o, ho, hex, hd⟩ := R.ob
    have T := (R.tab rfl).1
    rw [setSearchFrom_succ]
    refine wpAny_bind (wpAny_setState_of ho hd R.fit ?_)
    dsimp only
    refine wp_if_neg R.gw ?_
    try refine wpAny_bind (wpAny_pure ?_)
    have jw : ∀ q, (nth t.mask (stp t.mask (Hk w d) c) q).j = way t.mask (Hk w d) (c + q) := fun q => congrArg SetTable.Probe.j (stp_add t.mask (Hk w d) c q)
    have spec := go_spec t T.ris T.dm (fun i => (es[i]?.map (·.1)).getD 0) (Hk w d) (10 * SetTable.turns t.mask) (K - c) _ (stp_dummy t.mask (Hk w d) c) (by omega)
      (fun q hq => by rw [jw]; exact hKb (c + q) (by omega)) (by rw [jw, show c + (K - c) = K by omega]; exact hK)
    have hat : ∀ (i : Nat) p, L[i]? = some p → (fun i => (es[i]?.map (·.1)).getD 0) i = Hk w p.2 := fun i p e => by
      show (es[i]?.map (·.1)).getD 0 = _
      rw [R.entry e] <;> rfl
    have hkk : ∀ {p : Value × PyData}, nk p.2 = nk d → Hk w p.2 = Hk w d := fun e => congrArg (NestedKey.hash w) e
    rcases spec with ⟨q, i, hq, hi, hh, hno, hpr⟩ | ⟨hno, hpr⟩
    · have hpr2 : t.probe (fun i => (es[i]?.map (·.1)).getD 0) (Hk w d) (stand.getD (t.probeStart (Hk w d))) = some (.candidate (way t.mask (Hk w d) (c + q)) i (stp t.mask (Hk w d) (c + (q + 1)))) := by
        rw [hst, ← jw, ← stp_add]
        exact hpr
      rw [hpr2]
      dsimp only
      rw [jw] at hi
      have hil : i < L.length := by
        have h1 : i < t.place.toList.length := (List.getElem?_eq_some_iff.mp hi).1
        have h2 := T.sz
        rw [List.length_map] at h2
        rw [Array.length_toList] at h1
        omega
      have hp : L[i]? = some L[i] := List.getElem?_eq_getElem hil
      generalize hpe : L[i] = p at hp
      have hmem : p ∈ L := List.mem_of_getElem? hp
      have hpt := hL p hmem
      have rest : wpAny (model P w) A (searchRest a v (Hk w d) true f es t (way t.mask (Hk w d) (c + q)) i (stp t.mask (Hk w d) (c + (q + 1)))) Q E s := by
        unfold searchRest
        rw [R.entry hp]
        dsimp only
        refine wpAny_bind (wpAny_holding (hpt.eqv hx hu ?_))
        refine wpAny_bind (wpAny_setState_of ho hd R.fit ?_)
        dsimp only
        by_cases ee : nk p.2 = nk d
        · refine wp_if_pos (by simp [ee]) ?_
          exact wpAny_pure (hin (List.mem_map.mpr ⟨p, hmem, ee⟩))
        · refine wp_if_neg (by simp [ee]) ?_
          try refine wpAny_bind (wpAny_pure ?_)
          rw [sameMem]
          dsimp only
          have hsl : t.slot (way t.mask (Hk w d) (c + q)) = .live i := slot_live T.ris hi
          obtain ⟨pa, epa⟩ : ∃ c, p.1 = .ref c := hpt.sh
          simp only [if_true, hsl, R.entry hp, epa]
          refine wpAny_bind (wpAny_isSame_ref_self (wpAny_bind (wpAny_pure ?_)))
          simp only [if_true]
          refine wp_if_neg (by simp [ee]) ?_
          refine look_tup R hL hx hu hKf hK hKb hin hout f (c + (q + 1)) _ rfl (by omega) (by omega) fun i0 p0 h0 hk0 => ?_
          obtain ⟨c', a1, a2, a3⟩ := hre i0 p0 h0 hk0
          refine ⟨c', ?_, a2, a3⟩
          rcases Nat.lt_trichotomy c' (c + q) with z | z | z
          · exfalso
            refine hno (c' - c) i0 (by omega) (by rw [jw, show c + (c' - c) = c' by omega]; exact a3) ?_
            exact (hat i0 p0 h0).trans (hkk hk0)
          · exfalso
            rw [z] at a3
            have s0 := slot_live T.ris a3
            rw [hsl] at s0
            injection s0 with s0
            rw [← s0, hp] at h0
            cases h0
            exact ee hk0
          · omega
      by_cases hl : t.led = true
      · refine wp_if_neg (by simp [hl]) ?_
        try refine wpAny_bind (wpAny_pure ?_)
        exact rest
      · refine wp_if_pos (by simp [hl]) ?_
        refine wpAny_bind (seen_keys hx (fun y hy => ?_) ?_)
        · obtain ⟨e, he, ee⟩ := List.mem_map.mp hy
          have he1 : e ∈ es ∧ e.1 = Hk w d := by simpa using he
          have he2 : e ∈ es.toList := by simpa using he1.1
          rw [R.rows] at he2
          obtain ⟨p2, hp2, e2⟩ := List.mem_map.mp he2
          refine ⟨p2.2, ?_⟩
          rw [← ee, ← e2]
          exact hL p2 hp2
        · refine wp_if_neg (by decide) ?_
          try refine wpAny_bind (wpAny_pure ?_)
          exact rest
    · have hpr2 : t.probe (fun i => (es[i]?.map (·.1)).getD 0) (Hk w d) (stand.getD (t.probeStart (Hk w d))) = some (.empty (way t.mask (Hk w d) K) none) := by
        have e2 : way t.mask (Hk w d) K = (nth t.mask (stp t.mask (Hk w d) c) (K - c)).j := by rw [jw, show c + (K - c) = K by omega]
        rw [hst, e2]
        exact hpr
      rw [hpr2]
      dsimp only
      refine wpAny_pure (hout fun hm => ?_)
      obtain ⟨p0, h0, hk0⟩ := List.mem_map.mp hm
      obtain ⟨i0, hi0, e0⟩ := List.getElem_of_mem h0
      have h00 : L[i0]? = some p0 := by rw [List.getElem?_eq_getElem hi0, e0]
      obtain ⟨c', a1, a2, a3⟩ := hre i0 p0 h00 hk0
      refine hno (c' - c) i0 (by omega) (by rw [jw, show c + (c' - c) = c' by omega]; exact a3) ?_
      exact (hat i0 p0 h00).trans (hkk hk0)
theorem find_tup (R : SetN true w s.heap a L es ep t) (hL : ∀ p ∈ L, KeyV true s.heap p.2 p.1) {v : Value} {d : PyData} (hx : KeyV true s.heap d v) (hu : A.units + 8 < cLine) {Q : SetFound → Shared → Prop}
    (hin : nk d ∈ Kk L → Q (.there none) s)
    (hout : ∀ K, nk d ∉ Kk L → way t.mask (Hk w d) K ∉ t.place.toList → (∀ c, c < K → way t.mask (Hk w d) c ∈ t.place.toList) → Q (.free (way t.mask (Hk w d) K) false) s) :
    wpAny (model P w) A (setSearch a v (Hk w d) true) Q E s := by
  obtain ⟨T, room⟩ := R.tab rfl
  obtain ⟨K, hKf, hK, hKb⟩ := T.first (by rw [List.length_map]; omega) (Hk w d)
  have small : K < 100000 := by
    have : 10 * SetTable.turns t.mask ≤ 1420 := by
      unfold SetTable.turns
      rcases T.mok with e | e | e <;> omega
    omega
  unfold setSearch
  refine look_tup R hL hx hu hKf hK hKb hin (fun hn => hout K hn hK hKb) 100000 0 none rfl (Nat.zero_le _) (by omega) fun i p hp hk => ?_
  have hi : (L.map fun p => Hk w p.2)[i]? = some (Hk w d) := by rw [List.getElem?_map, hp]; exact congrArg some (congrArg (NestedKey.hash w) hk)
  have hil : i < t.place.toList.length := by
    have h1 : i < L.length := (List.getElem?_eq_some_iff.mp hp).1
    have h2 := T.sz
    rw [List.length_map] at h2
    rw [Array.length_toList]
    omega
  have hj := List.getElem?_eq_getElem hil
  obtain ⟨c, hc, e⟩ := T.before hK hi hj
  exact ⟨c, Nat.zero_le _, hc, by rw [hj, e]⟩
theorem anew_rows (order : Array Nat) (hr : es.toList = Rw w L) (hp : order.toList.Perm (List.range L.length)) :
    ∃ L2, (order.filterMap (es[·]?)).toList = Rw w L2 ∧ L2.Perm L ∧ (L2.map fun p => Hk w p.2) = order.toList.map fun i => (es.map (·.1)).getD i 0 := by
  have hsz : es.size = L.length := by
    have e := congrArg List.length hr
    rw [Array.length_toList, List.length_map] at e
    exact e
  have ent : ∀ i (h : i < L.length), es[i]? = some (Hk w (L[i]).2, (L[i]).1) := fun i h => by
    rw [← Array.getElem?_toList, hr, List.getElem?_map, List.getElem?_eq_getElem h] <;> rfl
  have key : ∀ l : List Nat, (∀ i ∈ l, i < L.length) → ∃ L2 : List (Value × PyData), l.filterMap (fun i => es[i]?) = Rw w L2 ∧ L2 = l.filterMap (fun i => L[i]?) ∧ (L2.map fun p => Hk w p.2) = l.map fun i => (es.map (·.1)).getD i 0 := by
    intro l
    induction l with
    | nil => intro _; exact ⟨[], rfl, rfl, rfl⟩
    | cons i l ih =>
      intro hl
      have hi := hl i List.mem_cons_self
      obtain ⟨L2, e1, e2, e3⟩ := ih fun j hj => hl j (List.mem_cons_of_mem _ hj)
      refine ⟨L[i] :: L2, ?_, ?_, ?_⟩
      · rw [List.filterMap_cons_some (ent i hi), e1] <;> rfl
      · rw [List.filterMap_cons_some (List.getElem?_eq_getElem hi), e2]
      · rw [List.map_cons, List.map_cons, e3]
        have e5 : (es.map (·.1))[i]? = some (Hk w (L[i]).2) := by rw [Array.getElem?_map, ent i hi] <;> rfl
        have e4 : (es.map (·.1)).getD i 0 = Hk w (L[i]).2 := by simp [Array.getD_eq_getD_getElem?, e5]
        rw [e4]
  obtain ⟨L2, e1, e2, e3⟩ := key order.toList fun i hi => List.mem_range.mp (hp.mem_iff.mp hi)
  refine ⟨L2, by first | (rw [Array.toList_filterMap]; exact e1) | simpa using e1, ?_, e3⟩
  have h1 : L2.Perm ((List.range L.length).filterMap fun i => L[i]?) := by
    rw [e2]
    exact hp.filterMap _
  have all : ∀ n, n ≤ L.length → (List.range n).filterMap (fun i => L[i]?) = L.take n := by
    intro n
    induction n with
    | zero => intro _; rfl
    | succ n ih =>
      intro hn
      have hlt : n < L.length := hn
      rw [List.range_succ, List.filterMap_append, ih (Nat.le_of_lt hlt), List.take_succ, List.getElem?_eq_getElem hlt]
      rw [List.filterMap_cons_some (List.getElem?_eq_getElem hlt)] <;> rfl
  rw [all L.length (Nat.le_refl _), List.take_length] at h1
  exact h1
theorem fits_tab {n : Nat} {hs : List Int} (T : TabOk t hs) (e1 : hs.length = n) (e2 : n ≤ t.mask) : t.fits n = true := by
  have h1 := T.sz
  unfold SetTable.fits SetTable.fill
  rw [T.dm, Bool.and_eq_true, beq_iff_eq, decide_eq_true_eq]
  show t.place.size = n ∧ t.place.size + 0 ≤ t.mask
  omega
theorem relay_tup {o : Obj} (ho : s.heap.get? a = some o) (hex : o.ExactSet) (hd : o.data = .set es ep t) (hrows : es.toList = Rw w L) (hsz : t.place.size = es.size) (hdm : t.dummies = #[]) (hfl : es.size ≤ t.mask)
    (nd : (Kk L).Nodup) (ld : w.params.followText "set-order" = true ∨ t.led = true) (few : L.length < 64) {wanted M : Nat}
    (hw : SetTable.sizeAbove wanted - 1 = M) (hM : MaskOk M) (hw2 : SetTable.sizeAbove wanted ≤ 128) (hn : L.length * 5 < M * 3) {Q : Unit → Shared → Prop}
    (hQ : ∀ h' L' es' ep' t', Heap.SameBut a s.heap h' → SetN true w h' a L' es' ep' t' → L'.Perm L → Q () { s with heap := h' }) : wpAny (model P w) A (setRelay a wanted) Q E s := by
  have hsl : es.size = L.length := by
    have e := congrArg List.length hrows
    rw [Array.length_toList, List.length_map] at e
    exact e
  have hfits : t.fits es.size = true := by
    unfold SetTable.fits SetTable.fill
    rw [hdm, Bool.and_eq_true, beq_iff_eq, decide_eq_true_eq]
    show t.place.size = es.size ∧ t.place.size + 0 ≤ t.mask
    omega
  obtain ⟨t', order, e, hp, T, em, el, _, ed⟩ := relaid_ok t (hs := es.map (·.1)) (wanted := wanted) hw hM (by rw [Array.size_map, hsl]; omega)
  rw [Array.size_map, hsl] at hp
  obtain ⟨L2, r1, r2, r3⟩ := anew_rows order hrows hp
  rw [← r3] at T
  have hs2 : (order.filterMap (es[·]?)).size = es.size := by
    have h := congrArg List.length r1
    rw [Array.length_toList, List.length_map, r2.length_eq] at h
    rw [h, hsl]
  rw [setRelay_eq]
  refine wpAny_bind (wpAny_setState_of ho hd hfits ?_)
  dsimp only
  refine wp_if_neg (by rw [sizeLine_eq]; omega) ?_
  try refine wpAny_bind (wpAny_pure ?_)
  rw [e]
  dsimp only
  refine wpAny_bind ?_
  refine wp_if_neg (by rw [hs2]; simp) ?_
  try refine wpAny_bind (wpAny_pure ?_)
  refine wpAny_pure ?_
  dsimp only
  refine wpAny_storeSet_of ho hd ?_ (by rw [hs2, hsl, sizeLine_eq]; omega)
  have sb : Heap.SameBut a s.heap (s.heap.update a (Obj.putSet (order.filterMap (es[·]?)) t')) := Heap.SameBut.update ..
  have room : L2.length * 5 < t'.mask * 3 := by rw [r2.length_eq, em]; exact hn
  refine hQ _ L2 (order.filterMap (es[·]?)) (ep + 1) t' sb (.stored (store_at ho hd) ⟨hex.1, hex.2.1, hex.2.2⟩ rfl r1 ?_ T.ris (by rw [el]; exact ld) ((r2.map fun p => nk p.2).nodup_iff.mpr nd) (by rw [r2.length_eq]; exact few) fun _ => ⟨T, room⟩) r2
  rw [hs2, hsl, ← r2.length_eq]
  exact fits_tab T (by rw [List.length_map]) (by omega)
theorem add_tup (R : SetN true w s.heap a L es ep t) (hL : ∀ p ∈ L, KeyV true s.heap p.2 p.1) {v : Value} {d : PyData} (hx : KeyV true s.heap d v) (hu : A.units + 8 < cLine) (few : L.length + 1 < 64) {Q : Bool → Shared → Prop}
    (hQ : ∀ y h' L' es' ep' t', Heap.SameBut a s.heap h' → SetN true w h' a L' es' ep' t' → Grew L v d L' → Q y { s with heap := h' }) : wpAny (model P w) A (setAddHashed a v (Hk w d)) Q E s := by
  obtain ⟨o, ho, hex, hd⟩ := R.ob
  obtain ⟨T, room⟩ := R.tab rfl
  have zl := R.size
  obtain ⟨x, rfl⟩ : ∃ c, v = .ref c := hx.sh
  unfold setAddHashed
  refine wpAny_holding ?_
  rw [show (100000 : Nat) = 99999 + 1 from rfl, setAddHashedIn_succ]
  refine wpAny_bind (wpAny_setState_of ho hd R.fit ?_)
  dsimp only
  refine wp_if_neg (by simp [byScan, Value.scannable]) ?_
  try refine wpAny_bind (wpAny_pure ?_)
  refine wpAny_bind (find_tup R hL hx hu (fun hm => ?_) fun K hm hK hb => ?_)
  · dsimp only
    exact wpAny_pure (hQ false s.heap L es ep t (Heap.SameBut.refl a s.heap) R (.inl ⟨hm, rfl⟩))
  · dsimp only
    refine wpAny_bind (wpAny_setState_of ho hd R.fit ?_)
    dsimp only
    obtain ⟨q1, q2, q3, q4, q5, q6, q7, q8, q9⟩ := T.put hK hb
    generalize hpt : t.put (way t.mask (Hk w d) K) = pt at q1 q3 q4 q5 q6 q7 q8 q9 ⊢
    obtain ⟨t1, p⟩ := pt
    dsimp only at q1 q3 q4 q5 q6 q7 q8 q9 ⊢
    subst q1
    have pm := put_perm L (SetTable.below t.place (way t.mask (Hk w d) K)) (Value.ref x, d)
    have hin : (SetTable.insertAt es (SetTable.below t.place (way t.mask (Hk w d) K)) (Hk w d, Value.ref x)).toList = Rw w (L.take (SetTable.below t.place (way t.mask (Hk w d) K)) ++ (Value.ref x, d) :: L.drop (SetTable.below t.place (way t.mask (Hk w d) K))) := by
      rw [SetTable.toList_insertAt, R.rows]
      unfold Rw
      rw [List.map_append, List.map_cons, List.map_take, List.map_drop]
    generalize hpp : SetTable.below t.place (way t.mask (Hk w d) K) = p at q2 q3 hin pm ⊢
    have hlen : (L.take p ++ (Value.ref x, d) :: L.drop p).length = L.length + 1 := pm.length_eq
    have hhs : (L.take p ++ (Value.ref x, d) :: L.drop p).map (fun p => Hk w p.2) = (L.map fun p => Hk w p.2).take p ++ Hk w d :: (L.map fun p => Hk w p.2).drop p := by
      rw [List.map_append, List.map_cons, List.map_take, List.map_drop]
    rw [← hhs] at q3
    have nd1 : (Kk (L.take p ++ (Value.ref x, d) :: L.drop p)).Nodup := by
      refine (pm.map fun p => nk p.2).nodup_iff.mpr ?_
      rw [List.map_cons]
      exact List.nodup_cons.mpr ⟨hm, R.nd⟩
    have hes : (SetTable.insertAt es p (Hk w d, Value.ref x)).size = L.length + 1 := by
      have h := congrArg List.length hin
      rw [Array.length_toList, List.length_map, hlen] at h
      exact h
    generalize SetTable.insertAt es p (Hk w d, Value.ref x) = es1 at hin hes ⊢
    generalize L.take p ++ (Value.ref x, d) :: L.drop p = L1 at pm hlen q3 nd1 hin
    -- whatever the mark says
    have go : ∀ t2 : SetTable, t2.place = t1.place → t2.mask = t1.mask → t2.dummies = t1.dummies → t2.led = t1.led → TabOk t2 (L1.map fun p => Hk w p.2) → t2.tooFull = t1.tooFull → wpAny (model P w) A (do
        storeSet a es1 t2
        if (!false && t2.tooFull) = true then setRelay a (SetTable.grown (es.size + 1))
        return true) Q E s := by
      intro t2 g1 g2 g3 g4 T2 g6
      have mask2 : t2.mask = t.mask := by rw [g2]; exact q4
      refine wpAny_bind (wpAny_storeSet_of ho hd ?_ (by rw [hes, sizeLine_eq]; omega))
      have sb : Heap.SameBut a s.heap (s.heap.update a (Obj.putSet es1 t2)) := Heap.SameBut.update ..
      have ho1 := store_at (es' := es1) (t' := t2) ho hd
      generalize s.heap.update a (Obj.putSet es1 t2) = h1 at sb ho1 ⊢
      have ld1 : w.params.followText "set-order" = true ∨ t2.led = true := by rw [g4, q5]; exact R.led
      by_cases hf : t2.tooFull = true
      · have hfull : (L.length + 1) * 5 ≥ t.mask * 3 := by
          have h := hf
          rw [g6] at h
          unfold SetTable.tooFull at h
          rw [decide_eq_true_eq, q9, List.length_map, q4] at h
          exact h
        rw [zl]
        have hsz1 : t2.place.size = es1.size := by
          have h := T2.sz
          rw [List.length_map, hlen] at h
          rw [h, hes]
        have two : (t.mask = 7 ∧ L.length = 4) ∨ (t.mask = 31 ∧ L.length = 18) := by
          rcases T.mok with e | e | e
          · left; rw [e] at hfull room; exact ⟨e, by omega⟩
          · right; rw [e] at hfull room; exact ⟨e, by omega⟩
          · exfalso; rw [e] at hfull; omega
        have big : ∀ M, SetTable.sizeAbove (SetTable.grown (L.length + 1)) - 1 = M → MaskOk M → SetTable.sizeAbove (SetTable.grown (L.length + 1)) ≤ 128 → (L.length + 1) * 5 < M * 3 →
            wpAny (model P w) A (setRelay a (SetTable.grown (L.length + 1))) (fun _ s' => wpAny (model P w) A (pure true) Q E s') E { s with heap := h1 } := fun M h1' h2' h3' h4' => by
          refine relay_tup (s := { s with heap := h1 }) ho1 ⟨hex.1, hex.2.1, hex.2.2⟩ rfl hin hsz1 T2.dm (by rw [hes, mask2]; rcases two with ⟨e, e2⟩ | ⟨e, e2⟩ <;> omega) nd1 ld1 (by rw [hlen]; exact few) h1' h2' h3' (by rw [hlen]; exact h4') ?_
          intro h2 L2 es2 ep2 t3 sb2 R2 pm2
          exact wpAny_pure (hQ true h2 L2 es2 ep2 t3 (sb.trans sb2) R2 (.inr ⟨hm, pm2.trans pm⟩))
        first
          | (refine wpAny_bind ?_; refine wp_if_pos (by simp [hf]) ?_)
          | (refine wp_if_pos (by simp [hf]) ?_; refine wpAny_bind ?_)
        rcases two with ⟨_, e2⟩ | ⟨_, e2⟩
        · refine big 31 (by rw [e2, size_20]) (.inr (.inl rfl)) (by rw [e2, size_20]; decide) (by omega)
        · refine big 127 (by rw [e2, size_76]) (.inr (.inr rfl)) (by rw [e2, size_76]; decide) (by omega)
      · have small : L1.length * 5 < t2.mask * 3 := by
          have h := hf
          rw [g6] at h
          unfold SetTable.tooFull at h
          rw [decide_eq_true_eq, q9, List.length_map, q4] at h
          rw [hlen, mask2]
          omega
        first
          | refine wp_if_neg (by simp [hf]) ?_
          | (refine wpAny_bind ?_; refine wp_if_neg (by simp [hf]) ?_; refine wpAny_pure ?_)
        refine wpAny_pure (hQ true h1 L1 es1 (ep + 1) t2 sb (.stored ho1 ⟨hex.1, hex.2.1, hex.2.2⟩ rfl hin (by rw [hes, ← hlen]; exact fits_tab T2 (by rw [List.length_map]) (by omega)) T2.ris ld1 nd1 (by rw [hlen]; exact few) fun _ => ⟨T2, small⟩) (.inr ⟨hm, pm⟩))
    have fin : ∀ y : Bool, wpAny (model P w) A (do
        storeSet a es1 (if y = true then t1 else { t1 with plain := false })
        if (!false && (if y = true then t1 else { t1 with plain := false } : SetTable).tooFull) = true then setRelay a (SetTable.grown (es.size + 1))
        return true) Q E s := by
      intro y
      cases y
      · exact go { t1 with plain := false } rfl rfl rfl rfl ⟨q3.ris, q3.dm, q3.sz, q3.mok, q3.bd, q3.reach⟩ rfl
      · exact go t1 rfl rfl rfl rfl q3 rfl
    by_cases hp1 : t1.plain = true
    · first
        | (refine wpAny_bind ?_; refine wp_if_pos hp1 ?_; refine someby_key _ _ 8 _ hx.is hx.dp _ _ _ fun y => ?_)
        | refine wp_if_pos hp1 (wpAny_bind (someby_key _ _ 8 _ hx.is hx.dp _ _ _ fun y => ?_))
      exact fin y
    · first
        | (refine wpAny_bind ?_; refine wp_if_neg hp1 ?_; refine wpAny_pure ?_)
        | refine wp_if_neg hp1 (wpAny_bind (wpAny_pure ?_))
        | refine wp_if_neg hp1 ?_
      exact fin true
end
end Gm

/-! The deep layer, part S3: set(list of keys), sorted(set). -/
namespace Gm
open PySem PySem.Spec PyProof.Rows L2
/-- one more, unless its key is there -/
def addK (acc : List (Value × PyData)) (p : Value × PyData) : List (Value × PyData) := if nk p.2 ∈ Kk acc then acc else acc ++ [p]
def ddV (ks : List (Value × PyData)) : List (Value × PyData) := ks.foldl addK []
theorem ddV_next {ks : List (Value × PyData)} {i : Nat} {p : Value × PyData} (h : ks[i]? = some p) : ddV (ks.take (i + 1)) = addK (ddV (ks.take i)) p := by
  rw [take_next h]
  unfold ddV
  rw [List.foldl_append]
  rfl
theorem Grew.perm {L D L' : List (Value × PyData)} {v : Value} {d : PyData} (g : Grew L v d L') (p : L.Perm D) : L'.Perm (addK D (v, d)) := by
  have km : ∀ k, k ∈ Kk L ↔ k ∈ Kk D := fun k => (p.map fun p => nk p.2).mem_iff
  unfold addK
  rcases g with ⟨g1, g2⟩ | ⟨g1, g2⟩
  · rw [if_pos ((km _).mp g1), g2]
    exact p
  · rw [if_neg (fun z => g1 ((km _).mpr z))]
    exact g2.trans ((p.cons _).trans (List.perm_append_singleton _ _).symm)
theorem ddV_sub (ks : List (Value × PyData)) : ∀ p ∈ ddV ks, p ∈ ks := by
  have key : ∀ (ks acc : List (Value × PyData)), ∀ p ∈ ks.foldl addK acc, p ∈ acc ∨ p ∈ ks := by
    intro ks
    induction ks with
    | nil => exact fun acc p h => .inl h
    | cons k ks ih =>
      intro acc p h
      rcases ih _ p h with z | z
      · unfold addK at z
        split at z
        · exact .inl z
        · rcases List.mem_append.mp z with z | z
          · exact .inl z
          · rw [List.mem_singleton.mp z]; exact .inr List.mem_cons_self
      · exact .inr (List.mem_cons_of_mem _ z)
  intro p h
  exact (key ks [] p h).resolve_left (fun z => by cases z)
theorem ddV_len (ks : List (Value × PyData)) : (ddV ks).length ≤ ks.length := by
  have key : ∀ (ks acc : List (Value × PyData)), (ks.foldl addK acc).length ≤ acc.length + ks.length := by
    intro ks
    induction ks with
    | nil => exact fun acc => Nat.le_refl _
    | cons k ks ih =>
      intro acc
      have h := ih (addK acc k)
      have h2 : (addK acc k).length ≤ acc.length + 1 := by
        unfold addK
        split
        · omega
        · rw [List.length_append]; exact Nat.le_refl _
      rw [List.foldl_cons, List.length_cons]
      omega
  have := key ks []
  simpa [ddV] using this
section
variable {P : Program} {w : World} {A : Around} {E : Value → Shared → Prop} {s : Shared}
variable {b : Bool}
theorem SetN.keep {h h' : Heap} {a : Addr} {L : List (Value × PyData)} {es : Array (Int × Value)} {ep : Nat} {t : SetTable} (R : SetN b w h a L es ep t) (ha : ∀ o, h.get? a = some o → h'.get? a = some o) : SetN b w h' a L es ep t := by
  obtain ⟨o, ho, r⟩ := R.ob
  exact ⟨⟨o, ha o ho, r⟩, R.rows, R.fit, R.ris, R.led, R.nd, R.few, R.tab⟩
abbrev voidO (w : World) : Obj := { cls := .type "set", dict := none, data := .set #[] 0 (.fresh 0 0 (!w.params.followText "set-order")) }
theorem setN_void {h : Heap} {a : Addr} (ho : h.get? a = some (voidO w)) : SetN b w h a [] #[] 0 (.fresh 0 0 (!w.params.followText "set-order")) where
  ob := ⟨_, ho, ⟨rfl, rfl, rfl⟩, rfl⟩
  rows := rfl
  fit := rfl
  ris := List.Pairwise.nil
  led := by
    show _ ∨ (!w.params.followText "set-order") = true
    cases w.params.followText "set-order"
    · exact .inr rfl
    · exact .inl rfl
  nd := List.nodup_nil
  few := by
    show 0 < 64
    decide
  tab := fun _ => ⟨⟨List.Pairwise.nil, rfl, rfl, .inl rfl, fun x hx => (by cases hx), fun i h j hi => (by simp at hi)⟩, by show 0 * 5 < 7 * 3; decide⟩
theorem add_any {a : Addr} {L : List (Value × PyData)} {es : Array (Int × Value)} {ep : Nat} {t : SetTable} (R : SetN b w s.heap a L es ep t) (hL : ∀ p ∈ L, KeyV b s.heap p.2 p.1) {v : Value} {d : PyData} (hx : KeyV b s.heap d v) (hu : A.units + 8 < cLine) (few : L.length + 1 < 64) {Q : Bool → Shared → Prop}
    (hQ : ∀ y h' L' es' ep' t', Heap.SameBut a s.heap h' → SetN b w h' a L' es' ep' t' → Grew L v d L' → Q y { s with heap := h' }) : wpAny (model P w) A (setAddHashed a v (Hk w d)) Q E s := by
  cases b
  · exact add_str R hL hx few hQ
  · exact add_tup R hL hx hu few hQ
/-- the loop that puts all in -/
theorem fill_set {I : Addr} {fp wr : List Addr} {G : Array GenState → Array GenState → Prop} {n : Nat} {Pv : Nat → Value → Prop} {St : Nat → Shared → Prop} {R : Result → Shared → Prop}
    (W : WalksS P w A.in1 I fp wr G n Pv St) (S : Addr) (hSf : S ∉ fp) (ks : List (Value × PyData)) (hn : n = ks.length) (few : ks.length < 64) (hval : ∀ i v, Pv i v → ∃ p, ks[i]? = some p ∧ v = p.1)
    (h0 : Heap) (hk : ∀ p ∈ ks, KeyV b h0 p.2 p.1) (hS0 : h0.get? S = none) (hw0 : ∀ c ∈ wr, h0.get? c = none) (hu : A.in1.units + 8 < cLine) :
    ∀ (k i : Nat) (s : Shared), n - i = k → i ≤ n → St i s → (∀ c o, h0.get? c = some o → s.heap.get? c = some o) → (∃ L es ep t, SetN b w s.heap S L es ep t ∧ L.Perm (ddV (ks.take i))) →
      (∀ s' L es ep t, Moved (S :: wr) G s s' → SetN b w s'.heap S L es ep t → L.Perm (ddV ks) → (∀ c o, h0.get? c = some o → s'.heap.get? c = some o) → R (.ok (.ret .none)) s') →
      codeAny (model P w) A (.builtin "set.update.loop" ⟨[.ref S, .ref I], []⟩) R s := by
  have hSw : S ∉ wr := fun h => hSf (W.sub _ h)
  have hsub : ∀ c ∈ wr, c ∈ S :: wr := fun c hc => List.mem_cons_of_mem _ hc
  have stay : ∀ {s s' : Shared}, Moved wr G s s' → (∀ c o, h0.get? c = some o → s.heap.get? c = some o) → ∀ c o, h0.get? c = some o → s'.heap.get? c = some o := fun hm hkp c o e =>
    hm.heap c o (fun hc => by rw [hw0 c hc] at e; cases e) (hkp c o e)
  intro k
  induction k with
  | zero =>
    intro i s hk' hi hst hkp ⟨L, es, ep, t, hS, g⟩ hR
    have hin : i = n := by omega
    subst hin
    refine codeAny_builtin F.entry_set_update_loop ?_
    rw [Around.under_plainId F.plain_set_update_loop _]
    change wpAny _ A.in1 (pyNext (.ref I) >>= _) _ _ s
    refine wpAny_bind (W.done s _ _ hst fun s' hm => ?_)
    change wpAny _ A.in1 (ret Value.none) _ _ s'
    rw [hn, List.take_length] at g
    exact wpAny_pure (hR s' L es ep t (hm.mono hsub) (hS.keep fun o e => hm.heap S o hSw e) g (stay hm hkp))
  | succ k ih =>
    intro i s hk' hi hst hkp ⟨L, es, ep, t, hS, g⟩ hR
    have hlt : i < n := by omega
    refine codeAny_builtin F.entry_set_update_loop ?_
    rw [Around.under_plainId F.plain_set_update_loop _]
    change wpAny _ A.in1 (pyNext (.ref I) >>= _) _ _ s
    refine wpAny_bind (W.item i s _ _ hlt hst fun v s' hP hst' hm => ?_)
    obtain ⟨p, hp, rfl⟩ := hval i v hP
    have hkp' := stay hm hkp
    have sub : ∀ q ∈ L, q ∈ ks := fun q hq => List.mem_of_mem_take (ddV_sub _ q (g.mem_iff.mp hq))
    have hlen : L.length ≤ i := by
      rw [g.length_eq]
      refine Nat.le_trans (ddV_len _) ?_
      rw [List.length_take]
      omega
    have hS' : SetN b w s'.heap S L es ep t := hS.keep fun o e => hm.heap S o hSw e
    have hL' : ∀ q ∈ L, KeyV b s'.heap q.2 q.1 := fun q hq => (hk q (sub q hq)).keep hkp'
    have hx : KeyV b s'.heap p.2 p.1 := (hk p (List.mem_of_getElem? hp)).keep hkp'
    change wpAny _ A.in1 (holding [p.1] (setAdd S p.1) >>= _) _ _ s'
    refine wpAny_bind (wpAny_holding ?_)
    unfold setAdd
    refine wpAny_holding ?_
    refine wpAny_bind (hx.hashed hu ?_)
    refine add_any (s := { s' with toks := s'.toks + (nk p.2).draws }) hS' hL' hx hu (by omega) fun y h' L' es' ep' t' hsb hS2 gr => ?_
    have g' : L'.Perm (ddV (ks.take (i + 1))) := by
      rw [ddV_next hp]
      exact gr.perm g
    have hkp2 : ∀ c o, h0.get? c = some o → h'.get? c = some o := fun c o e => (hsb.2 c (fun z => by rw [z, hS0] at e; cases e)).trans (hkp' c o e)
    refine wpAny_pure ⟨plainId_quiet F.plain_set_update_loop _, ih (i + 1) _ (by omega) hlt (W.frame _ s' _ _ hst' (Nat.le_add_right _ _) fun c hc o e => ?_) hkp2 ⟨L', es', ep', t', hS2, g'⟩ fun s'' L2 es2 ep2 t2 hm'' hS'' g'' hkp'' => ?_⟩
    · rw [hsb.2 c (fun h : c = S => hSf (by rw [← h]; exact hc))]; exact e
    · refine hR s'' L2 es2 ep2 t2 (Moved.trans W.gtrans ((hm.mono hsub).then_heap (Nat.le_add_right _ _) fun c o hc e => ?_) hm'') hS'' g'' hkp''
      rw [hsb.2 c (fun h : c = S => hc (by rw [h]; exact List.mem_cons_self))]; exact e

/-- set(xs), xs a list of keys -/
theorem set_of_keys {l : Addr} {items : Array Value} (ks : List (Value × PyData)) {Q : Value → Shared → Prop} (hh : A.handled = none) (hl : s.heap.IsList l items) (hit : items.toList = ks.map fun p => p.1)
    (hk : ∀ p ∈ ks, KeyV b s.heap p.2 p.1) (few : ks.length < 64) (hu : A.units + 12 < cLine)
    (h : ∀ (h' : Heap) (tk : Nat) L es ep t, SetN b w h' s.heap.objs.size L es ep t → L.Perm (ddV ks) → (∀ c o, s.heap.get? c = some o → h'.get? c = some o) → Q (.ref s.heap.objs.size) { s with heap := h', toks := tk }) :
    wpAny (model P w) A (call (.type "set") [.ref l]) Q E s := by
  have hisz : items.size = ks.length := by
    have q := congrArg List.length hit
    rw [Array.length_toList, List.length_map] at q
    exact q
  obtain ⟨c, tl, hmro⟩ := F.called_set.mro
  have hmade := F.called_set.made
  have hsub := F.called_set.sub
  refine wpAny_call (codeAny_of_tree ?_)
  change wpAny _ _ (callAny (.type "set") _) _ _ _
  refine wpAny_pure ⟨Code.quiet_builtin _ (by decide +kernel), codeAny_builtin F.entry_type_call ?_⟩
  rw [Around.under_plain (weight_type_call_type "set" [.ref l] []) rfl]
  have h1 := F.called_set.notType
  have h2 := F.called_set.canCreate
  have hct := F.typeCall_set_1 (.ref l)
  repeat (any_goals (first | assumption | wp_step))
  refine codeAny_mono (code_set_led1 (.ref l) (E := E) (Q₁ := fun obj z => obj = .ref s.heap.objs.size ∧ z = { s with heap := s.heap.push (voidO w) }) ⟨rfl, rfl⟩) fun r s₁ hr => ?_
  cases r with
  | error e => exact hr
  | ok fl =>
    cases fl with
    | ret obj =>
      obtain ⟨rfl, rfl⟩ := hr
      have hS : (s.heap.push (voidO w)).get? s.heap.objs.size = some (voidO w) := Heap.get?_push_size _ rfl
      have hT : Shared.TypeIs { s with heap := s.heap.push (voidO w) } (.ref s.heap.objs.size) "set" := ⟨_, hS, rfl⟩
      have hli := F.called_set.init.lookup
      have hbi := F.called_set.init.bind (.ref s.heap.objs.size)
      repeat (any_goals (first | assumption | wp_step))
      refine codeAny_mono (codeAny_call_builtin (R := wants (fun r z => r = .none ∧ ∃ h' tk L es ep t, z = { s with heap := h', toks := tk } ∧ SetN b w h' s.heap.objs.size L es ep t ∧ L.Perm (ddV ks) ∧
          (∀ c o, s.heap.get? c = some o → h'.get? c = some o)) E) F.called_set.init.plain F.entry_set_init (check_set_init_1 hT ?_)) fun r₂ s₂ hr₂ => ?_
      · obtain ⟨ol, hol, hcl, nl, hdl⟩ := hl
        obtain ⟨ocls, odict, odata, oslots⟩ := ol
        simp only at hcl hdl
        subst hcl; subst hdl
        have hol' : (s.heap.push (voidO w)).get? l = some { cls := .type "list", dict := odict, data := .seq items nl, slots := oslots } := Heap.get?_push_of_some _ hol
        have hsls := F.sub_list_set
        have hslf := F.sub_list_frozenset
        have hne : (Value.type "list" == Value.type "dict") = false := by decide
        have hl1 : (s.heap.push (voidO w)).IsList l items := ⟨_, hol', rfl, nl, rfl⟩
        unfold Builtin.«set.__init__» noKeywords Builtin.Frozenset.updateFrom
        generalize hPI : pyIter = PI
        wp_walk
        subst hPI
        refine wpAny_pyIter_list hl1 ?_
        refine wpAny_bind (wpAny_runValue ?_)
        have hlS : l < s.heap.objs.size := Heap.lt_size hol
        have hh3 : A.in1.in1.in1.handled = none := by simp [hh]
        have hneI : l ≠ (s.heap.push (voidO w)).objs.size := by
          rw [Heap.size_push]; exact Nat.ne_of_lt (Nat.lt_succ_of_lt hlS)
        have hSf : s.heap.objs.size ∉ [(s.heap.push (voidO w)).objs.size, l] := by
          rw [Heap.size_push]; simp only [List.mem_cons, List.mem_singleton, List.not_mem_nil, or_false, not_or]
          exact ⟨Nat.ne_of_lt (Nat.lt_succ_self _), Nat.ne_of_gt hlS⟩
        have hval : ∀ (i : Nat) (v : Value), items[i]? = some v → ∃ p, ks[i]? = some p ∧ v = p.1 := fun i v hv => by
          have q : items.toList[i]? = some v := by rw [Array.getElem?_toList]; exact hv
          rw [hit, List.getElem?_map] at q
          cases hq : ks[i]? with
          | none => rw [hq] at q; cases q
          | some p =>
            rw [hq] at q
            exact ⟨p, rfl, (Option.some.inj q).symm⟩
        have void_of : ∀ c, s.heap.objs.size ≤ c → s.heap.get? c = none := fun c hc => by
          cases q : s.heap.get? c with
          | none => rfl
          | some o => exact absurd (Nat.lt_of_lt_of_le (Heap.lt_size q) hc) (Nat.lt_irrefl _)
        have hu3 : A.in1.in1.in1.units + 8 < cLine := by simp only [Around.in1_units]; omega
        refine fill_set ((Walks.list hh3 _ l hneI items).toS) s.heap.objs.size
          hSf ks hisz few hval s.heap hk (void_of _ (Nat.le_refl _)) (fun c hc => void_of c (by
            rw [List.mem_singleton.mp hc, Heap.size_push]
            exact Nat.le_succ _)) hu3 (items.size - 0) 0 _ (by omega) (Nat.zero_le _)
          ⟨⟨_, Heap.get?_push_size _ rfl, rfl, rfl⟩, (hl1.push _)⟩ (fun c o e => Heap.get?_push_of_some _ (Heap.get?_push_of_some _ e)) ?hS0 ?hR
        case hS0 =>
          have hget : ((s.heap.push (voidO w)).push { cls := .type "list_iterator", data := .fields #[.ref l, .int 0 0] }).get? s.heap.objs.size = some (voidO w) := Heap.get?_push_of_some _ hS
          exact ⟨[], #[], 0, _, setN_void hget, List.Perm.refl _⟩
        case hR =>
          intro s' L es ep t hm hS' g' hkp
          obtain ⟨h', g2, d', tk', os'⟩ := s'
          have eg : g2 = s.gens := hm.gens
          have ed : d' = s.drawn := hm.drawn
          have eo : os' = s.os := hm.os
          subst eg; subst ed; subst eo
          change wpAny _ _ _ _ _ _
          refine wpAny_pure ?_
          change wpAny _ _ (ret Value.none) _ _ _
          exact wpAny_pure ⟨rfl, h', tk', L, es, ep, t, rfl, hS', g', hkp⟩
      · cases r₂ with
        | error e => exact hr₂
        | ok fl₂ =>
          cases fl₂ with
          | ret r =>
            obtain ⟨rfl, h', tk, L, es, ep, t, rfl, hS', g', hk'⟩ := hr₂
            repeat (any_goals (first | assumption | wp_step))
            exact h _ _ _ _ _ _ hS' g' hk'
          | _ => exact hr₂.elim
    | _ => exact hr.elim
end
end Gm

/-! The deep layer, part C2: more operations on values. -/
namespace Gm
open PySem PySem.Spec PyProof.Rows L2
section
variable {X : Cx}
theorem ok_in (hu : X.A.units + 65 < cLine) : OpOk X (compareOp .In) (fun x y => toB (inD x y)) := by
  refine ok_cmp (r := fun x y H Q => ((rInD (kw X) x y H Q ∨ (∃ d ds, Dp (kw X) H x d ∧ Dp (kw X) H y (.tuple ds) ∧ SeqAt.shaped d = true ∧ SeqAt.shaped (.tuple ds) = true ∧ Q (.bl (ds.any fun z => PyData.eqv z d)) H)) ∨
      (∃ i j, x = .str i ∧ y = .str j ∧ Q (.bl (!(Builtin.Str.occurrences j i 0 j.length 1).isEmpty)) H)) ∨ rDin (kw X) x y H Q) (OpR.or (OpR.or (OpR.or (op_inD hu) ?_) op_in_str) (op_din hu)) fun F H Q vx vy dx dy b hx hy e q => ?_
  · intro pins s σ H x y v u Q I rx ry h
    obtain ⟨d, ds, hd, he, sd, se, q⟩ := h
    obtain ⟨as, r1⟩ := Dp.reads I d x v hd rx
    obtain ⟨bs, r2⟩ := Dp.reads I (.tuple ds) y u he ry
    exact SeqAt.in_tuple_reads r2 r1 (SeqAt.canLay_of_shaped se) (SeqAt.canLay_of_shaped sd) (room_in_shaped sd hu) ⟨.bl _, H, I, rfl, q⟩
  · unfold inD at e
    split at e
    · split at e
      · rename_i hs
        cases e
        obtain ⟨s1, s2⟩ := Bool.and_eq_true_iff.mp hs
        exact .inl (.inl (.inl ⟨_, _, hx.dp (shaped_noDict s1), hy.dp (shaped_noDict s2), s1, s2, q⟩))
      · cases e
    · split at e
      · rename_i hs
        cases e
        obtain ⟨s1, s2⟩ := Bool.and_eq_true_iff.mp hs
        exact .inl (.inl (.inr ⟨_, _, hx.dp (shaped_noDict s1), hy.dp (shaped_noDict s2), s1, s2, q⟩))
      · cases e
    · cases e; cases hx.str; cases hy.str
      exact .inl (.inr ⟨_, _, rfl, rfl, q⟩)
    · split at e
      · rename_i hk
        cases e
        obtain ⟨a, b, rfl, rfl, hd⟩ := dat_of hk hy hx
        exact .inr ⟨_, a, b, _, _, rfl, rfl, hd, q⟩
      · cases e
    · cases e
theorem ok_notin (hu : X.A.units + 65 < cLine) : OpOk X (compareOp .NotIn) (fun x y => toB ((inD x y).map (!·))) := by
  refine ok_cmp (r := fun x y H Q => ((rNotInD (kw X) x y H Q ∨ (∃ d ds, Dp (kw X) H x d ∧ Dp (kw X) H y (.tuple ds) ∧ SeqAt.shaped d = true ∧ SeqAt.shaped (.tuple ds) = true ∧ Q (.bl (!ds.any fun z => PyData.eqv z d)) H)) ∨
      (∃ i j, x = .str i ∧ y = .str j ∧ Q (.bl (!(!(Builtin.Str.occurrences j i 0 j.length 1).isEmpty))) H)) ∨ rDnin (kw X) x y H Q) (OpR.or (OpR.or (OpR.or (op_notInD hu) ?_) op_notin_str) (op_dnin hu)) fun F H Q vx vy dx dy b hx hy e q => ?_
  · intro pins s σ H x y v u Q I rx ry h
    obtain ⟨d, ds, hd, he, sd, se, q⟩ := h
    obtain ⟨as, r1⟩ := Dp.reads I d x v hd rx
    obtain ⟨bs, r2⟩ := Dp.reads I (.tuple ds) y u he ry
    exact SeqAt.notIn_tuple_reads r2 r1 (SeqAt.canLay_of_shaped se) (SeqAt.canLay_of_shaped sd) (room_in_shaped sd hu) ⟨.bl _, H, I, rfl, q⟩
  · unfold inD at e
    split at e
    · split at e
      · rename_i hs
        cases e
        obtain ⟨s1, s2⟩ := Bool.and_eq_true_iff.mp hs
        exact .inl (.inl (.inl ⟨_, _, hx.dp (shaped_noDict s1), hy.dp (shaped_noDict s2), s1, s2, q⟩))
      · cases e
    · split at e
      · rename_i hs
        cases e
        obtain ⟨s1, s2⟩ := Bool.and_eq_true_iff.mp hs
        exact .inl (.inl (.inr ⟨_, _, hx.dp (shaped_noDict s1), hy.dp (shaped_noDict s2), s1, s2, q⟩))
      · cases e
    · cases e; cases hx.str; cases hy.str
      exact .inl (.inr ⟨_, _, rfl, rfl, q⟩)
    · split at e
      · rename_i hk
        cases e
        obtain ⟨a, b, rfl, rfl, hd⟩ := dat_of hk hy hx
        exact .inr ⟨_, a, b, _, _, rfl, rfl, hd, q⟩
      · cases e
    · cases e
theorem non_iff {F : Addr → Prop} {H : Hp} {v : V} {x : PyData} (h : RdP (kw X) F H v x) : x = .none ∨ v ≠ .non := by
  cases x with
  | none => exact .inl rfl
  | bool b => right; rw [h.bl]; exact fun z => nomatch z
  | int b => right; rw [h.int]; exact fun z => nomatch z
  | str b => right; rw [h.str]; exact fun z => nomatch z
  | list b => right; obtain ⟨a, vs, rfl, _⟩ := h.list; exact fun z => nomatch z
  | tuple b => right; obtain ⟨a, vs, rfl, _⟩ := h.tuple; exact fun z => nomatch z
  | dict b => right; obtain ⟨a, es, rfl, _⟩ := h.dict; exact fun z => nomatch z
theorem ok_is : OpOk X (compareOp .Is) (fun x y => toB (isD x y)) := by
  refine ok_cmp (OpR.or op_isN op_isBl) fun F H Q vx vy dx dy b hx hy e q => ?_
  have key : ∀ z, isD dx .none = some z → decide (vx = V.non) = z := fun z hz => by
    rcases non_iff hx with rfl | hv
    · cases hz; cases hx.non; rfl
    · rw [decide_eq_false hv]
      cases dx <;> first | (cases hz; rfl) | (cases hx.non; exact absurd rfl hv) | cases hz
  cases dy with
  | none =>
    cases hy.non
    exact .inl ⟨rfl, by rw [key b e]; exact q⟩
  | bool c =>
    cases dx with
    | bool a =>
      cases e; cases hx.bl; cases hy.bl
      exact .inr ⟨_, _, rfl, rfl, q⟩
    | _ => cases e
  | _ => cases dx <;> cases e
theorem ok_isnot : OpOk X (compareOp .IsNot) (fun x y => toB ((isD x y).map (!·))) := by
  refine ok_cmp (OpR.or op_notN op_notBl) fun F H Q vx vy dx dy b hx hy e q => ?_
  have key : ∀ z, isD dx .none = some z → decide (vx = V.non) = z := fun z hz => by
    rcases non_iff hx with rfl | hv
    · cases hz; cases hx.non; rfl
    · rw [decide_eq_false hv]
      cases dx <;> first | (cases hz; rfl) | (cases hx.non; exact absurd rfl hv) | cases hz
  obtain ⟨z, e1, rfl⟩ := Option.map_eq_some_iff.mp e
  cases dy with
  | none =>
    cases hy.non
    exact .inl ⟨rfl, by rw [key z e1]; exact q⟩
  | bool c =>
    cases dx with
    | bool a =>
      cases e1; cases hx.bl; cases hy.bl
      exact .inr ⟨_, _, rfl, rfl, q⟩
    | _ => cases e1
  | _ => cases dx <;> cases e1
def cop : CO → CmpOp
  | .eq => .Eq | .ne => .NotEq | .lt => .Lt | .le => .LtE | .gt => .Gt | .ge => .GtE | .isin => .In | .notin => .NotIn | .iss => .Is | .isnot => .IsNot
theorem ok_cmps (hu : X.A.units + 65 < cLine) : ∀ o : CO, OpOk X (compareOp (cop o)) (fun x y => toB (cmpD o x y))
  | .eq => ok_eq (by omega)
  | .ne => ok_ne (by omega)
  | .lt => ok_lt (by omega)
  | .le => ok_le (by omega)
  | .gt => ok_gt (by omega)
  | .ge => ok_ge (by omega)
  | .isin => ok_in hu
  | .notin => ok_notin hu
  | .iss => ok_is
  | .isnot => ok_isnot

/-! ### truth -/
theorem ok_truth {F : Addr → Prop} {H : Hp} {v : V} {x : PyData} {b : Bool} (h : RdP (kw X) F H v x) (e : truthD x = some b) : TruV (kw X) v H b := by
  cases x with
  | none => cases e; rw [h.non]; rfl
  | bool c => cases e; rw [h.bl]; rfl
  | int i => cases e; rw [h.int]; rfl
  | str y =>
    rw [h.str]
    have e' : (if y.length ≤ lineN then some ((y.length : Int) != 0) else none) = some b := e
    split at e'
    · rename_i hz
      cases e'
      exact ⟨hz, rfl⟩
    · cases e'
  | list xs =>
    cases e
    obtain ⟨a, vs, rfl, h1, h2⟩ := h.list
    refine .inl ⟨vs, .inl h1, ?_⟩
    cases h2 <;> rfl
  | tuple xs =>
    cases e
    obtain ⟨a, vs, rfl, h1, h2⟩ := h.tuple
    refine .inr (.inl ⟨vs, h1.sq, ?_⟩)
    cases h2 <;> rfl
  | dict kvs => cases e

/-! ### items, slices -/
theorem atI_rp {K : KW} {F : Addr → Prop} {H : Hp} {xs : List PyData} {vs : List V} {i : Int} {d : PyData} (h : RpAll K F H vs xs) (e : atI xs i = some d) : ∃ v, atI vs i = some v ∧ Rp K F H v d := by
  unfold atI at e ⊢
  rw [h.length]
  obtain ⟨j, e1, e2⟩ := Option.bind_eq_some_iff.mp e
  obtain ⟨v, h1, h2⟩ := h.get e2
  exact ⟨v, by rw [e1]; exact h1, h2⟩
theorem ok_idx {F : Addr → Prop} {β : List Addr} {B : Bs} {st : Stt} {H : Hp} {mg : Str → Option Value} {wx : Value → Option Addr → Hp → Prop} {Q : VK} {vx vy : V} {dx dy z : PyData}
    (s : StOk (kw X) F β B H st) (hx : RdP (kw X) F H vx dx) (hy : RdP (kw X) F H vy dy) (e : idxD dx dy = some z) (h : Post (kw X) mg β B (RR (kw X) β B) F H wx (.ok (.d z) st) Q) : rIx (kw X) vx vy H Q ∨ rDix (kw X) vx vy H Q := by
  unfold idxD at e
  split at e
  · obtain ⟨a, vs, rfl, h1, h2⟩ := hx.list
    cases hy.int
    obtain ⟨v, h3, h4⟩ := atI_rp h2 e
    exact .inl (.inl ⟨a, vs, _, v, rfl, rfl, .inl h1, h3, fin_d s h h4⟩)
  · obtain ⟨a, vs, rfl, h1, h2⟩ := hx.tuple
    cases hy.int
    obtain ⟨v, h3, h4⟩ := atI_rp h2 e
    exact .inl (.inr (.inl ⟨a, vs, _, v, rfl, rfl, h1.sq, h3, fin_d s h h4⟩))
  · split at e
    · rename_i hz
      cases hx.str; cases hy.int
      obtain ⟨c, e1, rfl⟩ := Option.map_eq_some_iff.mp e
      exact .inl (.inr (.inr ⟨_, _, c, rfl, rfl, hz, e1, fin_d s h (.str _)⟩))
    · cases e
  · split at e
    · rename_i hk
      obtain ⟨a, b, rfl, rfl, hd⟩ := dat_of hk hx hy
      exact .inr ⟨F, a, b, _, _, _, rfl, rfl, hd, e, fun v hv => fin_d s h hv⟩
    · cases e
  · cases e
theorem cutD_whole {xs : List PyData} {lo hi : Option Int} (h : HT.sIx xs.length 0 lo = 0 ∧ HT.sIx xs.length xs.length hi = xs.length) : cutD xs lo hi = xs := by
  unfold cutD
  rw [h.1, h.2]
  simp
abbrev rSl (K : KW) : V → Option Int → Option Int → Hp → VK → Prop := fun x lo hi H Q => rSlS x lo hi H Q ∨ rSlL K x lo hi H Q ∨ rSlD K x lo hi H Q
theorem sl_ok : SlR X (rSl (kw X)) := SlR.or sl_str (SlR.or sl_list sl_tupD)
theorem ok_slc {F : Addr → Prop} {β : List Addr} {B : Bs} {st : Stt} {H : Hp} {mg : Str → Option Value} {wx : Value → Option Addr → Hp → Prop} {Q : VK} {vx : V} {dx : PyData} {lo hi : Option Int} {w : W}
    (s : StOk (kw X) F β B H st) (hx : RdP (kw X) F H vx dx) (e : slcD dx lo hi = some w) (h : Post (kw X) mg β B (RR (kw X) β B) F H wx (.ok w st) Q) : rSl (kw X) vx lo hi H Q := by
  unfold slcD at e
  split at e
  · cases e
    obtain ⟨a, vs, rfl, h1, h2⟩ := hx.list
    exact .inr (.inl ⟨a, vs, rfl, .inl h1, fun p hp => fin_new s h (h2.cut lo hi) hp⟩)
  · cases e
    obtain ⟨a, vs, rfl, h1, h2⟩ := hx.tuple
    refine .inr (.inr ⟨a, vs, rfl, h1.sq, fun hw => ?_, fun hw p o hp ho => fin_tup s h (h2.cut lo hi) hp ho⟩)
    rw [h2.length] at hw
    rw [cutD_whole hw] at h
    exact fin_d s h (.tup h1 h2)
  · split at e
    · rename_i hz
      cases e
      cases hx.str
      exact .inl ⟨_, rfl, hz, fin_d s h (.str _)⟩
    · cases e
  · cases e

/-! ### x[::-1] -/
theorem filterMap_cg {α β : Type} {f g : α → Option β} : ∀ {l : List α}, (∀ x ∈ l, f x = g x) → l.filterMap f = l.filterMap g
  | [], _ => rfl
  | a :: l, h => by
    rw [List.filterMap_cons, List.filterMap_cons, h a (List.mem_cons_self ..), filterMap_cg (l := l) fun x hx => h x (List.mem_cons_of_mem _ hx)]
theorem rev_pick (xs : Array Value) : ((List.range xs.size).filterMap fun (m : Nat) => xs[(((xs.size : Nat) : Int) - 1 + (m : Int) * (-1)).toNat]?).toArray = xs.toList.reverse.toArray := by
  congr 1
  apply List.ext_getElem?
  intro i
  by_cases hi : i < xs.size
  · have e : ((List.range xs.size).filterMap fun (m : Nat) => xs[(((xs.size : Nat) : Int) - 1 + (m : Int) * (-1)).toNat]?) = (List.range xs.size).map fun m => xs.getD (xs.size - 1 - m) .none := by
      rw [← List.filterMap_eq_map]
      apply filterMap_cg
      intro m hm
      have hm := List.mem_range.mp hm
      have e1 : (((xs.size : Nat) : Int) - 1 + (m : Int) * (-1)).toNat = xs.size - 1 - m := by omega
      rw [e1]
      have h2 : xs.size - 1 - m < xs.size := by omega
      simp [h2]
    rw [e]
    simp only [List.getElem?_map, List.getElem?_range hi, Option.map_some]
    have hl : xs.toList.length = xs.size := Array.length_toList
    rw [List.getElem?_reverse (by rw [hl]; exact hi), hl]
    have h2 : xs.size - 1 - i < xs.size := by omega
    simp [h2]
  · have hl : xs.toList.reverse.length = xs.size := by simp
    rw [List.getElem?_eq_none (by
      refine Nat.le_trans (List.length_filterMap_le _ _) ?_
      simp; omega), List.getElem?_eq_none (by omega)]
theorem getItem_tuple_rev {prog : Program} {w : World} {A : Around} {E : Value → Shared → Prop} {s : Shared} {t sl : Addr} {items : Array Value} {vl vu vs : Value} {Q : Value → Shared → Prop} (ht : IsTup s.heap t items) (hs : s.heap.IsSliceOf sl vl vu vs) (pl : IsPart vl none) (pu : IsPart vu none) (ps : IsPart vs (some (-1)))
    (h : Q (.ref s.heap.objs.size) { s with heap := s.heap.push { cls := .type "tuple", data := .seq items.toList.reverse.toArray } }) (hsz : items.size ≤ sizeLine) : wpAny (model prog w) A (getItem (.ref t) (.ref sl)) Q E s := by
  have htake : sizeOk (.seq items.toList.reverse.toArray) := by
    show items.toList.reverse.toArray.size ≤ sizeLine
    simpa using hsz
  obtain ⟨os, hos, hcs, hds⟩ := id hs
  have hTs : s.TypeIs (.ref sl) "slice" := ⟨os, hos, hcs⟩
  unfold getItem
  try with_reducible refine wpAny_holding ?_
  first | refine wpAny_bind (wpAny_pure ?_) | skip
  refine wpAny_bind (wpAny_sequenceKey ht.typeIs (by decide) ?_)
  refine wpAny_bind (wpAny_callSpecial?_slot (name := Str.ofString "__getitem__") ht.typeIs PyProof.Rows.slot_tuple_getitem
    (wpAny_call_entry PyProof.Rows.slot_tuple_getitem ht.typeIs entry_tuple_getitem ?_ (args_tuple_getitem _ _)))
  show wpAny _ _ (Builtin.Tuple.tupleItemsOf (.ref t) >>= _) _ _ s
  refine wpAny_bind (tupleItemsOf_ ht ?_)
  refine wpAny_bind (wpAny_typeOf hTs ?_)
  rw [if_pos (by decide)]
  have happ : ∀ {Q' : Int × Int × Nat → Shared → Prop}, Q' (((items.size : Nat) : Int) - 1, -1, items.size) s → wpAny (model prog w) A.in1 (Builtin.Slice.sliceApplied (.ref sl) (pure ((items.size : Nat) : Int))) Q' E s := by
    intro Q' hq
    unfold Builtin.Slice.sliceApplied Builtin.Slice.sliceFields
    refine wpAny_bind (wpAny_bind (wpAny_field hos hds (x := vl) rfl (wpAny_bind (wpAny_field hos hds (x := vu) rfl (wpAny_bind (wpAny_field hos hds (x := vs) rfl (wpAny_pure ?_)))))))
    refine wpAny_bind (HT.slicePart_ ps ?_)
    show wpAny _ _ (if ((-1 : Int) == 0) = true then _ else _) _ _ s
    rw [if_neg (by decide)]
    refine wpAny_bind (HT.slicePart_ pl (wpAny_bind (HT.slicePart_ pu (wpAny_bind (wpAny_pure ?_)))))
    have e2 : Builtin.Slice.slicePlaces (((items.size : Nat) : Int) - 1) (-1) (-1) = items.size := by
      unfold Builtin.Slice.slicePlaces
      rw [if_neg (by decide)]
      by_cases hz : items.size = 0
      · rw [hz]; rfl
      · rw [if_pos (by omega)]
        have e3 : (((items.size : Nat) : Int) - 1 - -1 - 1) / - -1 = ((items.size : Nat) : Int) - 1 := by
          rw [show (- -1 : Int) = 1 from rfl, Int.ediv_one]
          omega
        first | (rw [e3]; omega) | omega
    show wpAny _ _ (pure (((items.size : Nat) : Int) - 1, (-1 : Int), Builtin.Slice.slicePlaces (((items.size : Nat) : Int) - 1) (-1) (-1))) _ _ s
    rw [e2]
    exact wpAny_pure hq
  refine wpAny_bind (happ ?_)
  have hno : ¬ (((((items.size : Nat) : Int) - 1) == 0 && (-1 : Int) == 1 && items.size == items.size) = true) := by
    intro q
    rw [Bool.and_eq_true, Bool.and_eq_true] at q
    exact absurd q.1.2 (by decide)
  show wpAny _ _ (if ((((items.size : Nat) : Int) - 1) == 0 && (-1 : Int) == 1 && items.size == items.size) = true then _ else _) _ _ s
  rw [if_neg hno, rev_pick]
  first
    | exact wpAny_bind (m := Builtin.Tuple.tupleExact _) (wpAny_newObj_type (wpAny_pure ⟨_, rfl, wpAny_pure h⟩) htake)
    | exact wpAny_bind (m := Builtin.Tuple.tupleExact _) (wpAny_newObj_type (wpAny_bind (wpAny_pure (wpAny_pure ⟨_, rfl, wpAny_pure h⟩))) htake)
    | exact wpAny_bind (wpAny_bind (m := Builtin.Tuple.tupleExact _) (wpAny_newObj_type (wpAny_pure (wpAny_pure ⟨_, rfl, wpAny_pure h⟩)) htake))
    | exact wpAny_bind (wpAny_bind (m := Builtin.Tuple.tupleExact _) (wpAny_newObj_type (wpAny_pure ⟨_, rfl, wpAny_pure h⟩) htake))
def rRevV (K : KW) (x : V) (H1 : Hp) (Q : VK) : Prop := (∃ a xs, x = .ref a ∧ SqL K H1 a xs ∧ ∀ p, H1 p = none → Q (.ref p) (upd H1 p (.lst xs.reverse))) ∨ (∃ a xs, x = .ref a ∧ SqT K H1 a xs ∧ NewT xs.reverse H1 Q)
theorem pe_rev {e : Expr} {te : TE} {k : Nat} {p1 p2 p3 pos : Pos} (he : PE X e te) : PE X (.Subscript e (.Slice none none (some (.UnaryOp .USub (.Constant (.int 1) k p1) p2)) p3) pos) (fun σ H Q => te σ H fun x H1 => rRevV (kw X) x H1 Q) := by
  refine ⟨fun pins s σ H Q I h => ?_⟩
  refine Subscript_ (thn (he.run pins s σ H _ I h) fun v s1 ⟨x, H1, I1, r1, q1⟩ => ?_)
  have hst : PO X (some (.UnaryOp .USub (.Constant (.int 1) k p1) p2)) (tPart (tUn (rU fun i => .int (-i)) (tC (.int 1)))) := po_some (pe_un un_neg pe_int)
  refine wpAny_Slice (thn (po_none.run pins s1 σ H1 (fun o H2 => o = none ∧ H2 = H1) I1 ⟨rfl, rfl⟩) fun vl s2 ⟨l, H2, I2, pl, el, e2⟩ => ?_)
  subst el e2
  refine thn (po_none.run pins s2 σ H2 (fun o H3 => o = none ∧ H3 = H2) I2 ⟨rfl, rfl⟩) fun vu s3 ⟨u, H3, I3, pu, eu, e3⟩ => ?_
  subst eu e3
  refine thn (hst.run pins s3 σ H3 (fun o H4 => o = some (-1) ∧ H4 = H3) I3 ⟨1, rfl, -1, rfl, rfl, rfl⟩) fun vs s4 ⟨o, H4, I4, ps, eo, e4⟩ => ?_
  subst eo e4
  have I5 : Inv X pins σ H4 { s4 with heap := s4.heap.push { cls := .type "slice", data := .fields #[vl, vu, vs] } } := I4.kept (t' := s4.toks) fun b ob q => Heap.get?_push_of_some _ q
  rcases q1 with ⟨a, xs, ex, hx, q⟩ | ⟨a, xs, ex, hx, q⟩
  · subst ex
    cases r1
    obtain ⟨its, r, ht, hz⟩ := I5.list hx
    have hlen := r.length
    show wpAny (model X.prog X.w) X.A (subscriptTail e (.Slice none none (some (.UnaryOp .USub (.Constant (.int 1) k p1) p2)) p3) (.ref a) (.ref s4.heap.objs.size)) (EP X pins σ Q) X.xe { s4 with heap := s4.heap.push { cls := .type "slice", data := .fields #[vl, vu, vs] } }
    refine tail_any (ops := [.ref a, .ref s4.heap.objs.size]) ht.isList.typeIs (PySem.slot_list_getitem.lookup) ?_ (by with_unfolding_all rfl)
    refine wpAny_getItem_list_slice ht.isList (Heap.IsSliceOf.new _ vl vu vs) pl pu ps (by decide) ?_ (by rw [List.size_toArray]; omega)
    rw [PySem.W.krv_pick]
    refine ⟨.ref _, _, I5.laid (t' := s4.toks) (o := .lst xs.reverse) (fun b ob q => Heap.get?_push_of_some _ q) (Nat.le_refl _) ?_, rfl, q _ (I5.hok.fresh (Nat.le_refl _))⟩
    exact ⟨by rw [List.length_reverse]; exact hz, _, 0, r.reverse, Heap.get?_push_size _ rfl⟩
  · subst ex
    cases r1
    obtain ⟨its, r, ht, hz⟩ := I5.tuple hx
    have hlen := r.length
    show wpAny (model X.prog X.w) X.A (subscriptTail e (.Slice none none (some (.UnaryOp .USub (.Constant (.int 1) k p1) p2)) p3) (.ref a) (.ref s4.heap.objs.size)) (EP X pins σ Q) X.xe { s4 with heap := s4.heap.push { cls := .type "slice", data := .fields #[vl, vu, vs] } }
    refine tail_any (ops := [.ref a, .ref s4.heap.objs.size]) ht.typeIs (PyProof.Rows.slot_tuple_getitem.lookup) ?_ (by with_unfolding_all rfl)
    refine getItem_tuple_rev ht (Heap.IsSliceOf.new _ vl vu vs) pl pu ps ?_ (by rw [List.size_toArray]; omega)
    have hrv : its.toArray.toList.reverse.toArray = its.reverse.toArray := by simp
    rw [hrv]
    exact ep_tup I5 (by rw [List.length_reverse]; exact hz) r.reverse q
theorem ok_rev {F : Addr → Prop} {β : List Addr} {B : Bs} {st : Stt} {H : Hp} {mg : Str → Option Value} {wx : Value → Option Addr → Hp → Prop} {Q : VK} {vx : V} {dx : PyData} {w : W}
    (s : StOk (kw X) F β B H st) (hx : RdP (kw X) F H vx dx) (e : revD dx = some w) (h : Post (kw X) mg β B (RR (kw X) β B) F H wx (.ok w st) Q) : rRevV (kw X) vx H Q := by
  unfold revD at e
  split at e
  · cases e
    obtain ⟨a, vs, rfl, h1, h2⟩ := hx.list
    exact .inl ⟨a, vs, rfl, .inl h1, fun p hp => fin_new s h h2.reverse hp⟩
  · cases e
    obtain ⟨a, vs, rfl, h1, h2⟩ := hx.tuple
    exact .inr ⟨a, vs, rfl, h1.sq, fun p o hp ho => fin_tup s h h2.reverse hp ho⟩
  · cases e

/-! ### isinstance -/
def tyS : Ty → String
  | .int => "int" | .bool => "bool" | .str => "str" | .list => "list" | .tuple => "tuple"
def clsS : PyData → String
  | .none => "NoneType" | .bool _ => "bool" | .int _ => "int" | .str _ => "str" | .list _ => "list" | .tuple _ => "tuple" | .dict _ => "dict"
theorem ok_cls {F : Addr → Prop} {H : Hp} {v : V} {x : PyData} (hd : ∀ kvs, x ≠ .dict kvs) (h : RdP (kw X) F H v x) : TyX (kw X) H v (.type (clsS x)) := by
  cases x with
  | none => rw [h.non]; exact .base .non
  | bool c => rw [h.bl]; exact .base (.bl _)
  | int i => rw [h.int]; exact .base (.int _)
  | str y => rw [h.str]; exact .base (.str _)
  | list xs =>
    obtain ⟨a, vs, rfl, h1, h2⟩ := h.list
    rcases h1 with h1 | ⟨o, h1⟩
    · exact .base (.lst h1)
    · exact .base (.frz h1)
  | tuple xs =>
    obtain ⟨a, vs, rfl, h0, h2⟩ := h.tuple
    have h1 : SqT (kw X) H a vs := h0.sq
    rcases h1 with (h1 | ⟨o, h1⟩) | ⟨o, its, n, h1, h3, _⟩
    · exact .base (.tup h1)
    · exact .fTuple h1
    · exact .kTuple h1 h3
  | dict kvs => exact absurd rfl (hd kvs)
theorem kit_is (K : KW) (x : PyData) (t : Ty) (b : Bool) (e : isT x t = some b) : PySem.W.kitOne K (.type (clsS x)) (.type (tyS t)) = some b := by
  have h : kitB (clsS x) (tyS t) = some b := by
    cases x <;> cases t <;> first | (cases e; done) | (cases e; rfl) | (cases e; simp only [clsS, tyS]; decide +kernel)
  exact kit_ty h
end
end Gm

/-! The deep layer, part C3: built-in functions. -/
namespace Gm
open PySem PySem.Spec PyProof.Rows L2
inductive RdPs (K : KW) (F : Addr → Prop) (H : Hp) : List V → List PyData → Prop
  | nil : RdPs K F H [] []
  | cons {v : V} {d : PyData} {vs : List V} {ds : List PyData} : RdP K F H v d → RdPs K F H vs ds → RdPs K F H (v :: vs) (d :: ds)
section
variable {K : KW} {F : Addr → Prop} {H H0 : Hp} {β : List Addr} {B : Bs} {st : Stt}
theorem RL.rdps (s : StOk K F β B H st) : ∀ {ws : List W} {vs : List V} {xs : List PyData}, RL K β B H0 F H vs ws → rdAll st ws = some xs → RdPs K F H vs xs
  | [], _, _, h, e => by cases h; cases e; exact .nil
  | w :: ws, _, _, h, e => by
    cases h with
    | cons h1 h2 =>
      unfold rdAll at e
      obtain ⟨x, e1, e2⟩ := Option.bind_eq_some_iff.mp e
      obtain ⟨ys, e3, rfl⟩ := Option.map_eq_some_iff.mp e2
      exact .cons (h1.1.rdp s e1) (RL.rdps s h2 e3)
theorem RpAll.bls : ∀ {xs : List PyData} {vs : List V} {bs : List Bool}, RpAll K F H vs xs → allB xs = some bs → vs = bs.map V.bl
  | [], _, _, h, e => by cases h; cases e; rfl
  | x :: xs, _, _, h, e => by
    cases h with
    | cons h1 h2 =>
      unfold allB at e
      split at e
      · rename_i e0; cases e0
      · rename_i b r e0
        cases e0
        obtain ⟨cs, e1, rfl⟩ := Option.map_eq_some_iff.mp e
        cases h1
        rw [RpAll.bls h2 e1]
        rfl
      · cases e
theorem RpAll.strs : ∀ {xs : List PyData} {vs : List V} {bs : List Str}, RpAll K F H vs xs → allS xs = some bs → vs = bs.map V.str
  | [], _, _, h, e => by cases h; cases e; rfl
  | x :: xs, _, _, h, e => by
    cases h with
    | cons h1 h2 =>
      unfold allS at e
      split at e
      · rename_i e0; cases e0
      · rename_i b r e0
        cases e0
        obtain ⟨cs, e1, rfl⟩ := Option.map_eq_some_iff.mp e
        cases h1
        rw [RpAll.strs h2 e1]
        rfl
      · cases e
theorem RpAll.ints : ∀ {xs : List PyData} {vs : List V} {bs : List Int}, RpAll K F H vs xs → allI xs = some bs → vs = bs.map V.int
  | [], _, _, h, e => by cases h; cases e; rfl
  | x :: xs, _, _, h, e => by
    cases h with
    | cons h1 h2 =>
      unfold allI at e
      split at e
      · rename_i e0; cases e0
      · rename_i b r e0
        cases e0
        obtain ⟨cs, e1, rfl⟩ := Option.map_eq_some_iff.mp e
        cases h1
        rw [RpAll.ints h2 e1]
        rfl
      · cases e
end
def BfOk (X : Cx) (f : Value) (b : BF) : Prop :=
  ∃ r : List V → Hp → VK → Prop, CallR X f r ∧ ∀ (F : Addr → Prop) (β : List Addr) (B : Bs) (st : Stt) (H : Hp) (mg : Str → Option Value) (wx : Value → Option Addr → Hp → Prop) (Q : VK) (vs : List V) (xs : List PyData) (w : W),
    StOk (kw X) F β B H st → RdPs (kw X) F H vs xs → bifD b xs = some w → Post (kw X) mg β B (RR (kw X) β B) F H wx (.ok w st) Q → r vs H Q
section
variable {X : Cx}
theorem RdPs.one {K : KW} {F : Addr → Prop} {H : Hp} {vs : List V} {x : PyData} (h : RdPs K F H vs [x]) : ∃ v, vs = [v] ∧ RdP K F H v x := by
  cases h with
  | cons h1 h2 => cases h2; exact ⟨_, rfl, h1⟩
theorem bif1 {b : BF} {xs : List PyData} {w : W} (e : bifD b xs = some w) (n1 : b ≠ .max := by decide) (n2 : b ≠ .min := by decide) : ∃ x, xs = [x] := by
  unfold bifD at e
  split at e <;> first | exact ⟨_, rfl⟩ | exact absurd rfl n1 | exact absurd rfl n2 | cases e
theorem RdPs.two {K : KW} {F : Addr → Prop} {H : Hp} {vs : List V} {x y : PyData} (h : RdPs K F H vs [x, y]) : ∃ v u, vs = [v, u] ∧ RdP K F H v x ∧ RdP K F H u y := by
  cases h with
  | cons h1 h2 => cases h2 with
    | cons h3 h4 => cases h4; exact ⟨_, _, rfl, h1, h3⟩
theorem maxI_is : ∀ (is : List Int) (i : Int), is.foldl (fun a b => if b > a then b else a) i ∈ i :: is ∧ ∀ j ∈ i :: is, j ≤ is.foldl (fun a b => if b > a then b else a) i
  | [], i => ⟨List.mem_singleton.mpr rfl, fun j hj => by rw [List.mem_singleton.mp hj]; exact Int.le_refl _⟩
  | k :: is, i => by
    have h := maxI_is is (if k > i then k else i)
    rw [List.foldl_cons]
    refine ⟨?_, fun j hj => ?_⟩
    · rcases List.mem_cons.mp h.1 with e | e
      · rw [e]; split <;> simp
      · exact List.mem_cons_of_mem _ (List.mem_cons_of_mem _ e)
    · have hb := h.2 (if k > i then k else i) List.mem_cons_self
      rcases List.mem_cons.mp hj with rfl | hj
      · exact Int.le_trans (by split <;> omega) hb
      · rcases List.mem_cons.mp hj with rfl | hj
        · exact Int.le_trans (by split <;> omega) hb
        · exact h.2 j (List.mem_cons_of_mem _ hj)
theorem minI_is : ∀ (is : List Int) (i : Int), is.foldl (fun a b => if b < a then b else a) i ∈ i :: is ∧ ∀ j ∈ i :: is, is.foldl (fun a b => if b < a then b else a) i ≤ j
  | [], i => ⟨List.mem_singleton.mpr rfl, fun j hj => by rw [List.mem_singleton.mp hj]; exact Int.le_refl _⟩
  | k :: is, i => by
    have h := minI_is is (if k < i then k else i)
    rw [List.foldl_cons]
    refine ⟨?_, fun j hj => ?_⟩
    · rcases List.mem_cons.mp h.1 with e | e
      · rw [e]; split <;> simp
      · exact List.mem_cons_of_mem _ (List.mem_cons_of_mem _ e)
    · have hb := h.2 (if k < i then k else i) List.mem_cons_self
      rcases List.mem_cons.mp hj with rfl | hj
      · exact Int.le_trans hb (by split <;> omega)
      · rcases List.mem_cons.mp hj with rfl | hj
        · exact Int.le_trans hb (by split <;> omega)
        · exact h.2 j (List.mem_cons_of_mem _ hj)
theorem maxI_of {is : List Int} {z m : Int} (e : maxI is = some z) (h1 : m ∈ is) (h2 : ∀ j ∈ is, j ≤ m) : m = z := by
  cases is with
  | nil => cases e
  | cons i is =>
    have h := maxI_is is i
    cases e
    have a1 := h2 _ h.1
    have a2 := h.2 m h1
    omega
theorem minI_of {is : List Int} {z m : Int} (e : minI is = some z) (h1 : m ∈ is) (h2 : ∀ j ∈ is, m ≤ j) : m = z := by
  cases is with
  | nil => cases e
  | cons i is =>
    have h := minI_is is i
    cases e
    have a1 := h2 _ h.1
    have a2 := h.2 m h1
    omega
theorem ne_of_maxI {is : List Int} {z : Int} (e : maxI is = some z) : 0 < is.length := by
  cases is with
  | nil => cases e
  | cons i is => exact Nat.succ_pos _
theorem ne_of_minI {is : List Int} {z : Int} (e : minI is = some z) : 0 < is.length := by
  cases is with
  | nil => cases e
  | cons i is => exact Nat.succ_pos _
theorem CallR.or {f : Value} {r r' : List V → Hp → VK → Prop} (h : CallR X f r) (h' : CallR X f r') : CallR X f (fun xs H Q => r xs H Q ∨ r' xs H Q) := fun pins s σ H xs us Q I rv q => q.elim (h pins s σ H xs us Q I rv) (h' pins s σ H xs us Q I rv)
theorem bf_len : BfOk X (.builtin "len") .len := by
  refine ⟨_, CallR.or call_len cr_dlen, ?_⟩
  intro F β B st H mg wx Q vs xs w s hx e h
  obtain ⟨x, rfl⟩ := bif1 e
  · skip
    obtain ⟨v, rfl, hy⟩ := hx.one
    obtain ⟨z, e1, rfl⟩ := Option.map_eq_some_iff.mp (show (lenD x).map W.d = some w from e)
    unfold lenD at e1
    split at e1
    · cases e1
      obtain ⟨a, vs, rfl, h1, h2⟩ := hy.list
      exact .inl ⟨_, _, rfl, .inl ⟨vs, .inl h1, rfl⟩, by rw [h2.length]; exact fin_d s h (.int _)⟩
    · cases e1
      obtain ⟨a, vs, rfl, h1, h2⟩ := hy.tuple
      exact .inl ⟨_, _, rfl, .inr ⟨vs, h1.sq, rfl⟩, by rw [h2.length]; exact fin_d s h (.int _)⟩
    · split at e1
      · rename_i hz
        cases e1; cases hy.str
        exact .inl ⟨_, _, rfl, ⟨hz, rfl⟩, fin_d s h (.int _)⟩
      · cases e1
    · cases e1
      obtain ⟨a, es, rfl, h1, h2⟩ := hy.dict
      exact .inr ⟨F, a, es, _, rfl, h1, h2, fin_d s h (.int _)⟩
    · cases e1
theorem bf_all (hc : X.calm = true) : BfOk X (.builtin "all") .all := by
  refine ⟨_, cr_all hc, ?_⟩
  intro F β B st H mg wx Q vs xs w s hx e h
  obtain ⟨x, rfl⟩ := bif1 e
  match x, e with
  | .list xs, e =>
    obtain ⟨v, rfl, hy⟩ := hx.one
    obtain ⟨bs, e1, rfl⟩ := Option.map_eq_some_iff.mp (show (allB xs).map _ = some w from e)
    obtain ⟨a, vs, rfl, h1, h2⟩ := hy.list
    cases h2.bls e1
    exact ⟨a, bs, rfl, .inl h1, fin_d s h (.bl _)⟩
  | .none, e => cases e
  | .bool _, e => cases e
  | .int _, e => cases e
  | .str _, e => cases e
  | .tuple _, e => cases e
  | .dict _, e => cases e
theorem bf_any (hc : X.calm = true) : BfOk X (.builtin "any") .any := by
  refine ⟨_, cr_any hc, ?_⟩
  intro F β B st H mg wx Q vs xs w s hx e h
  obtain ⟨x, rfl⟩ := bif1 e
  match x, e with
  | .list xs, e =>
    obtain ⟨v, rfl, hy⟩ := hx.one
    obtain ⟨bs, e1, rfl⟩ := Option.map_eq_some_iff.mp (show (allB xs).map _ = some w from e)
    obtain ⟨a, vs, rfl, h1, h2⟩ := hy.list
    cases h2.bls e1
    exact ⟨a, bs, rfl, .inl h1, fin_d s h (.bl _)⟩
  | .none, e => cases e
  | .bool _, e => cases e
  | .int _, e => cases e
  | .str _, e => cases e
  | .tuple _, e => cases e
  | .dict _, e => cases e
theorem bf_tuple : BfOk X (.type "tuple") .tuple := by
  refine ⟨_, call_tuple_D, ?_⟩
  intro F β B st H mg wx Q vs xs w s hx e h
  obtain ⟨x, rfl⟩ := bif1 e
  match x, e with
  | .list xs, e =>
    cases e
    obtain ⟨v, rfl, hy⟩ := hx.one
    obtain ⟨a, vs, rfl, h1, h2⟩ := hy.list
    exact ⟨a, vs, rfl, .inl ⟨.inl h1, fun p o hp ho => fin_tup s h h2 hp ho⟩⟩
  | .tuple xs, e =>
    cases e
    obtain ⟨v, rfl, hy⟩ := hx.one
    obtain ⟨a, vs, rfl, h1, h2⟩ := hy.tuple
    exact ⟨a, vs, rfl, .inr ⟨h1.sq, fin_d s h (.tup h1 h2)⟩⟩
  | .none, e => cases e
  | .bool _, e => cases e
  | .int _, e => cases e
  | .str _, e => cases e
  | .dict _, e => cases e
theorem bf_list : BfOk X (.type "list") .list := by
  refine ⟨_, call_list_of, ?_⟩
  intro F β B st H mg wx Q vs xs w s hx e h
  obtain ⟨x, rfl⟩ := bif1 e
  match x, e with
  | .list xs, e =>
    cases e
    obtain ⟨v, rfl, hy⟩ := hx.one
    obtain ⟨a, vs, rfl, h1, h2⟩ := hy.list
    exact ⟨a, vs, rfl, .inl (.inl h1), fun p hp => fin_new s h h2 hp⟩
  | .tuple xs, e =>
    cases e
    obtain ⟨v, rfl, hy⟩ := hx.one
    obtain ⟨a, vs, rfl, h1, h2⟩ := hy.tuple
    exact ⟨a, vs, rfl, .inr h1.sq, fun p hp => fin_new s h h2 hp⟩
  | .none, e => cases e
  | .bool _, e => cases e
  | .int _, e => cases e
  | .str _, e => cases e
  | .dict _, e => cases e
theorem bf_str : BfOk X (.type "str") .str := by
  refine ⟨_, CallR.or call_str_int SkE.call_str_str, ?_⟩
  intro F β B st H mg wx Q vs xs w s hx e h
  obtain ⟨x, rfl⟩ := bif1 e
  · skip
    obtain ⟨v, rfl, hy⟩ := hx.one
    obtain ⟨z, e1, rfl⟩ := Option.map_eq_some_iff.mp (show (strD x).map W.d = some w from e)
    unfold strD at e1
    split at e1
    · split at e1
      · rename_i hz
        cases e1; cases hy.int
        exact .inl ⟨_, rfl, of_decide_eq_true hz, fin_d s h (.str _)⟩
      · cases e1
    · cases e1; cases hy.str
      exact .inr ⟨_, rfl, fin_d s h (.str _)⟩
    · cases e1
theorem call_reprG (hg : X.A.guards = some []) (hu : X.A.units + 66 < cLine) : CallR X (.builtin "repr") (fun xs H Q => ∃ x d, xs = [x] ∧ Dp (kw X) H x d ∧ d.showable = true ∧ d.hasDict = false ∧ d.depth ≤ 64 ∧ d.shown.length ≤ sizeLine ∧ Q (.str d.shown) H) := by
  intro pins s σ H xs us Q I r h
  obtain ⟨x, d, rfl, hd, h1, h2, h3, h4, q⟩ := h
  obtain ⟨u, rfl, rx⟩ := vals1 r
  have box : ∀ a : Addr, x = .ref a → wpAny (model X.prog X.w) X.A (call (.builtin "repr") [u]) (EP X pins σ Q) X.xe s := fun a e => by
    subst e
    obtain ⟨as, rr⟩ := Dp.reads I d _ u hd rx
    cases rx
    exact repr_of_reads' rr h1 (PyData.noDict_hsm h2) hg (by omega) (fun _ _ z => z) (fun h' u tk hk => ⟨.str _, H, I.kept (t' := tk) hk, ⟨_, rfl⟩, q⟩) h4
  cases d with
  | none =>
    cases hd; cases rx
    exact PySem.P.repr_of_none ⟨.str _, H, I.tok _, ⟨_, rfl⟩, q⟩
  | bool b =>
    cases hd; cases rx
    refine PySem.P.repr_of_bool ⟨.str (if b then "True" else "False"), H, I.tok _, ⟨_, rfl⟩, ?_⟩
    simp only [PyData.shown] at q
    exact q
  | int i =>
    cases hd
    obtain ⟨t, rfl⟩ := rx
    simp only [PyData.showable] at h1
    simp only [PyData.shown] at q
    exact PySem.P.repr_of_int (of_decide_eq_true h1) ⟨.str _, H, I.tok _, ⟨_, rfl⟩, q⟩
  | str y =>
    cases hd
    obtain ⟨t, rfl⟩ := rx
    simp only [PyData.shown] at q h4
    exact PySem.P.repr_of_str ⟨.str _, H, I.tok _, ⟨_, rfl⟩, q⟩ h4
  | list xs => cases hd; exact box _ rfl
  | tuple xs => cases hd; exact box _ rfl
  | dict kvs => simp only [PyData.hasDict] at h2; cases h2
theorem bf_repr (hg : X.A.guards = some []) (hu : X.A.units + 66 < cLine) : BfOk X (.builtin "repr") .repr := by
  refine ⟨_, call_reprG hg hu, ?_⟩
  intro F β B st H mg wx Q vs xs w s hx e h
  obtain ⟨x, rfl⟩ := bif1 e
  · skip
    obtain ⟨v, rfl, hy⟩ := hx.one
    obtain ⟨z, e1, rfl⟩ := Option.map_eq_some_iff.mp (show (reprD x).map W.d = some w from e)
    unfold reprD at e1
    split at e1
    · rename_i hz
      cases e1
      simp only [Bool.and_eq_true, decide_eq_true_eq] at hz
      have hnd : x.hasDict = false := by simpa using hz.2
      exact ⟨v, x, rfl, hy.dp hnd, hz.1.1.1, hnd, hz.1.1.2, hz.1.2, fin_d s h (.str _)⟩
    · cases e1
theorem bf_int : BfOk X (.type "int") .int := by
  refine ⟨_, CallR.or call_int1 call_int_str, ?_⟩
  intro F β B st H mg wx Q vs xs w s hx e h
  obtain ⟨x, rfl⟩ := bif1 e
  obtain ⟨v, rfl, hy⟩ := hx.one
  obtain ⟨z, e1, rfl⟩ := Option.map_eq_some_iff.mp (show (intD x).map W.d = some w from e)
  unfold intD at e1
  split at e1
  · cases e1; cases hy.int
    exact .inl (.inl ⟨_, rfl, fin_d s h (.int _)⟩)
  · cases e1; cases hy.bl
    exact .inl (.inr ⟨_, rfl, fin_d s h (.int _)⟩)
  · split at e1
    · rename_i hz
      obtain ⟨i, e2, rfl⟩ := Option.map_eq_some_iff.mp e1
      cases hy.str
      exact .inr ⟨_, i, rfl, e2, hz, fin_d s h (.int _)⟩
    · cases e1
  · cases e1
theorem bf_abs : BfOk X (.builtin "abs") .abs := by
  refine ⟨_, call_abs, ?_⟩
  intro F β B st H mg wx Q vs xs w s hx e h
  obtain ⟨x, rfl⟩ := bif1 e
  obtain ⟨v, rfl, hy⟩ := hx.one
  cases x with
  | int i => cases e; cases hy.int; exact ⟨_, rfl, fin_d s h (.int _)⟩
  | _ => cases e
theorem bf_max (hc : X.calm = true) : BfOk X (.builtin "max") .max := by
  refine ⟨_, CallR.or (call_max2 hc) (cr_max hc), ?_⟩
  intro F β B st H mg wx Q vs xs w s hx e h
  unfold bifD at e
  split at e
  all_goals try (rename_i e0; cases e0; done)
  all_goals try (cases e; done)
  all_goals try (rename_i e0 _; cases e0; done)
  · cases e
    obtain ⟨v, u, rfl, h1, h2⟩ := hx.two
    cases h1.int; cases h2.int
    exact .inl ⟨_, _, rfl, fin_d s h (.int _)⟩
  · obtain ⟨z, e1, rfl⟩ := Option.map_eq_some_iff.mp e
    obtain ⟨is, e2, e3⟩ := Option.bind_eq_some_iff.mp e1
    obtain ⟨v, rfl, hy⟩ := hx.one
    obtain ⟨a, vs, rfl, h1, h2⟩ := hy.list
    cases h2.ints e2
    exact .inr ⟨a, is, rfl, .inl h1, ne_of_maxI e3, fun m m1 m2 => by rw [maxI_of e3 m1 m2]; exact fin_d s h (.int _)⟩
theorem bf_min (hc : X.calm = true) : BfOk X (.builtin "min") .min := by
  refine ⟨_, CallR.or (call_min2 hc) (cr_min hc), ?_⟩
  intro F β B st H mg wx Q vs xs w s hx e h
  unfold bifD at e
  split at e
  all_goals try (rename_i e0; cases e0; done)
  all_goals try (cases e; done)
  all_goals try (rename_i e0 _; cases e0; done)
  · cases e
    obtain ⟨v, u, rfl, h1, h2⟩ := hx.two
    cases h1.int; cases h2.int
    exact .inl ⟨_, _, rfl, fin_d s h (.int _)⟩
  · obtain ⟨z, e1, rfl⟩ := Option.map_eq_some_iff.mp e
    obtain ⟨is, e2, e3⟩ := Option.bind_eq_some_iff.mp e1
    obtain ⟨v, rfl, hy⟩ := hx.one
    obtain ⟨a, vs, rfl, h1, h2⟩ := hy.list
    cases h2.ints e2
    exact .inr ⟨a, is, rfl, .inl h1, ne_of_minI e3, fun m m1 m2 => by rw [minI_of e3 m1 m2]; exact fin_d s h (.int _)⟩
theorem bf_sum (hc : X.calm = true) : BfOk X (.builtin "sum") .sum := by
  refine ⟨_, cr_sum hc, ?_⟩
  intro F β B st H mg wx Q vs xs w s hx e h
  obtain ⟨x, rfl⟩ := bif1 e
  obtain ⟨v, rfl, hy⟩ := hx.one
  cases x with
  | list xs =>
    obtain ⟨is, e2, rfl⟩ := Option.map_eq_some_iff.mp (show (allI xs).map _ = some w from e)
    obtain ⟨a, vs, rfl, h1, h2⟩ := hy.list
    cases h2.ints e2
    exact ⟨a, is, rfl, .inl h1, fin_d s h (.int _)⟩
  | _ => cases e
theorem bf_sorted (hc : X.calm = true) (hu : X.A.units + 65 < cLine) : BfOk X (.builtin "sorted") .sorted := by
  refine ⟨_, CallR.or (cr_sortL hu) (cr_sortK hc hu), ?_⟩
  intro F β B st H mg wx Q vs xs w s hx e h
  obtain ⟨x, rfl⟩ := bif1 e
  obtain ⟨v, rfl, hy⟩ := hx.one
  have e : sortW x = some w := e
  unfold sortW at e
  split at e
  · split at e
    · rename_i hk
      cases e
      obtain ⟨a, vs, rfl, h1, h2⟩ := hy.list
      exact .inl ⟨F, a, vs, _, rfl, h1, h2, hk, fun p us hp hr => fin_new s h hr hp⟩
    · cases e
  · split at e
    · rename_i hk
      cases e
      obtain ⟨a, es, rfl, h1, h2⟩ := hy.dict
      exact .inr ⟨F, a, es, _, rfl, h1, h2, hk, fun p us hp hr => fin_new s h hr hp⟩
    · cases e
  · cases e
theorem fin_dct {K : KW} {F : Addr → Prop} {H : Hp} {β : List Addr} {B : Bs} {st : Stt} {mg : Str → Option Value} {wx : Value → Option Addr → Hp → Prop} {Q : VK} {kvs : List (PyData × PyData)} {es : List Ent3} {p : Addr} (s : StOk K F β B H st) (h : Post K mg β B (RR K β B) F H wx (.ok (.new (.dct kvs)) st) Q) (ra : RpKV K F H es kvs) (hp : H p = none) : Q (.ref p) (upd H p (dctO K.w p es)) := by
  have e : Ext F β H F (upd H p (dctO K.w p es)) := Ext.laid hp
  refine Post.doneX h e (s.laid hp) ⟨⟨p, rfl, ⟨es, upd_same, RpKV.keep (e.kp s) _ _ ra⟩, s.noB hp, fun hF => s.ft p hF hp⟩, fun a ea => ?_⟩
  cases ea
  exact hp
theorem bf_dict (hc : X.calm = true) (hu : X.A.units + 65 < cLine) : BfOk X (.type "dict") .dict := by
  refine ⟨_, cr_dictL hc hu, ?_⟩
  intro F β B st H mg wx Q vs xs w s hx e h
  obtain ⟨x, rfl⟩ := bif1 e
  obtain ⟨v, rfl, hy⟩ := hx.one
  have e : dictW x = some w := e
  unfold dictW at e
  split at e
  · obtain ⟨ps, e1, rfl⟩ := Option.map_eq_some_iff.mp e
    obtain ⟨a, vs, rfl, h1, h2⟩ := hy.list
    exact ⟨F, a, vs, _, ps, rfl, .inl h1, h2, e1, fun p es hp hr => fin_dct s h hr hp⟩
  · obtain ⟨ps, e1, rfl⟩ := Option.map_eq_some_iff.mp e
    obtain ⟨a, vs, rfl, h1, h2⟩ := hy.tuple
    exact ⟨F, a, vs, _, ps, rfl, .inr h1, h2, e1, fun p es hp hr => fin_dct s h hr hp⟩
  · cases e
def bname : BF → Str
  | .len => "len" | .all => "all" | .any => "any" | .tuple => "tuple" | .list => "list" | .str => "str" | .repr => "repr" | .int => "int" | .abs => "abs" | .max => "max" | .min => "min" | .sum => "sum" | .sorted => "sorted" | .dict => "dict"
def bval : BF → Value
  | .len => .builtin "len" | .all => .builtin "all" | .any => .builtin "any" | .tuple => .type "tuple" | .list => .type "list" | .str => .type "str" | .repr => .builtin "repr" | .int => .type "int" | .abs => .builtin "abs" | .max => .builtin "max" | .min => .builtin "min" | .sum => .builtin "sum" | .sorted => .builtin "sorted" | .dict => .type "dict"
theorem bf_ok (hc : X.calm = true) (hg : X.A.guards = some []) (hu : X.A.units + 66 < cLine) : ∀ b : BF, BfOk X (bval b) b
  | .len => bf_len
  | .all => bf_all hc
  | .any => bf_any hc
  | .tuple => bf_tuple
  | .list => bf_list
  | .str => bf_str
  | .repr => bf_repr hg hu
  | .int => bf_int
  | .abs => bf_abs
  | .max => bf_max hc
  | .min => bf_min hc
  | .sum => bf_sum hc
  | .sorted => bf_sorted hc (by omega)
  | .dict => bf_dict hc (by omega)
theorem bval_boot (b : BF) : bootBuiltins (bname b) = some (bval b) := by cases b <;> first | rfl | kernel_rfl | decide +kernel
theorem bname_ok (b : BF) : bname b ≠ "__name__" ∧ (bname b == ("__debug__" : Str)) = false := by cases b <;> decide +kernel
def tyn : Ty → Str
  | .int => "int" | .bool => "bool" | .str => "str" | .list => "list" | .tuple => "tuple"
theorem tyn_boot (t : Ty) : bootBuiltins (tyn t) = some (.type (tyS t)) := by cases t <;> first | rfl | kernel_rfl | decide +kernel
theorem tyn_ok (b : Ty) : tyn b ≠ "__name__" ∧ (tyn b == ("__debug__" : Str)) = false := by cases b <;> decide +kernel
end
end Gm

/-! The deep layer, part D: functions' promises, side facts, expressions. -/
namespace Gm
open PySem PySem.Spec PyProof.Rows L2

/-- as HandS's FnOk, where no guard stands -/
structure FnG (P : Program) (w : World) (K : KW) (mg : Str → Option Value) (base : Heap) (k : Nat) (f : Addr) (fd : FuncData) (ps : List Str) (sp : Sp) : Prop where
  len : ∀ vs H Q E, sp vs H Q E → vs.length = ps.length
  run : ∀ (A : Around) (outer : List Env) (s : Shared) (H : Hp) (args : Args) (us : List Value) (vs : List V) (Q : VK) (E : XK), Room k A → A.guards = some [] → Env0 P w K mg base A outer s H → BindsTo s fd args (ps.zip us) → Vals vs us → sp vs H Q E →
    codeAny (model P w) A (.call (.ref f) args) (CR (CX P w) outer P w H s Q E) s

/-- results are data, new objects, cells -/
def Plain (Φ : Phi) : Prop := ∀ f as st w s, Φ f as st = .ok w s → (∃ x, w = .d x) ∨ (∃ c, w = .new c) ∨ ∃ n, w = .loc n
def spOf (K : KW) (mg : Str → Option Value) (φ : List W → Stt → Res W) : Sp := fun vs H Q E => ∃ (F : Addr → Prop) (β : List Addr) (P : Addr → Prop) (as : List W) (st : Stt),
  StOk K F β ⟨P, fun _ => False⟩ H st ∧ RA K F β ⟨P, fun _ => False⟩ H vs as ∧ Post K mg β ⟨P, fun _ => False⟩ (RR K β ⟨P, fun _ => False⟩) F H E (φ as st) Q

/-! ### exceptions of the program -/
/-- an argument of an exception -/
def ArgV (v : V) : Prop := (∃ x : Str, v = .str x ∧ x.length ≤ 1000) ∨ ∃ i : Int, v = .int i ∧ i.natAbs.log2 < 1920
/-- an own exception's __init__: the fields fl are stored -/
def spX (K : PySem.W.Frag) (fl : List Str) : Sp := fun vs H Q _ => ∃ (a C : Addr) (xs : List V), vs = .ref a :: xs ∧ xs.length = fl.length ∧ (∀ v ∈ xs, ArgV v) ∧ OexC K C ∧ (∀ f ∈ fl, PySem.W.findIn K (.ref C) f = some none) ∧ H a = some (exo a C none) ∧
  ∀ (d : Addr) (H2 : Hp), H d = none → d ≠ a → H2 a = some (exo a C (some d)) → H2 d = some (exd d (fl.zip xs).reverse) → (∀ b, b ≠ a → b ≠ d → H2 b = H b) → Q .non H2
/-- fields that may be read -/
def fieldsX : List Str := ["word", "place", "row"]
/-- what isinstance and a field's reading ask of the class -/
structure KxC (K : PySem.W.Frag) (C : Addr) : Prop extends XfC K C where
  cl : (PySem.W.clsIn K C).isSome = true
  ca : PySem.W.findIn K (.ref C) "__class__" = some (some (.builtin "object.__class__"))
  gn : PySem.W.specialIn K (.builtin "object.__class__") "__get__" = some (some (.builtin "getset_descriptor.__get__"))
  tk : PySem.W.takesIn K (.builtin "object.__class__") = some true
  mo : PySem.W.mroIn K C (.type "object") = some true
  nf : ∀ f ∈ fieldsX, PySem.W.findIn K (.ref C) f = some none
/-- an exception class c of the program, its __init__ stores fl -/
structure XcK (K : PySem.W.Frag) (mg : Str → Option Value) (c : Str) (fl : List Str) (C : Addr) : Prop where
  at_ : mg c = some (.ref C)
  ox : OexC K C
  kx : KxC K C
  ln : fl.length ≤ 900
  fs : ∀ f ∈ fl, f ∈ fieldsX
  ini : ∃ (fI : Addr) (fd : FuncData) (ps : List Str), PySem.W.findIn K (.ref C) "__init__" = some (some (.ref fI)) ∧ PySem.W.typeIn K (.ref fI) = some (.type "function") ∧ Binds K fd ps [] ∧
    ∀ (P : Program) (w : World) (base : Heap), FnOk P w K mg base (CX P w) 1 fI fd ps (spX K fl)
/-- what stands at a class's name -/
def ClsV (mg : Str → Option Value) (D : Str) (v : V) (u : Value) : Prop := RelV v u ∧ (∀ u', RelV v u' → u' = u) ∧ (D == ("__debug__" : Str)) = false ∧ (mg D = some u ∨ (mg D = none ∧ bootBuiltins D = some u ∧ D ≠ "__name__"))
/-- how class c stands to the class that is named D -/
def XrK (K : PySem.W.Frag) (mg : Str → Option Value) (c D : Str) (b : Bool) : Prop := ∃ (C : Addr) (v : V) (u : Value), mg c = some (.ref C) ∧ ClsV mg D v u ∧ PySem.W.exmOne K (.ref C) u = some b ∧ PySem.W.kitOne K (.ref C) u = some b
/-- names of the module -/
structure Tb where
  fn : List (Str × Nat)
  co : List (Str × PyData)
  ab : List Str
  xc : List (Str × List Str)
  xr : List (Str × Str × Bool)
def FnAt (X : Cx) (Φ : Phi) (n : Str) (f : Nat) : Prop := ∃ (a : Addr) (fd : FuncData) (ps : List Str) (k : Nat), FnG X.prog X.w (kw X) X.mg X.base k a fd ps (spOf (kw X) X.mg (Φ f)) ∧ Room k X.A ∧ X.mg n = some (.ref a) ∧ PySem.W.keepIn (kw X) (.ref a) = true ∧ Binds (kw X) fd ps []
def CoAt (X : Cx) (n : Str) (x : PyData) : Prop := ∃ (u : Value) (v : V), X.mg n = some u ∧ RelV v u ∧ ∀ F H, Rp (kw X) F H v x
structure Side (X : Cx) (Φ : Phi) (T : Tb) (wx : WX) : Prop where
  nd : X.N.Nodup
  calm : X.calm = true
  un : X.A.units + 66 < cLine
  gu : X.A.guards = some []
  tk : Takes X wx
  pl : Plain Φ
  co : ∀ n x, (n, x) ∈ T.co → CoAt X n x
  ab : ∀ n ∈ T.ab, X.mg n = none
  fn : ∀ n f, (n, f) ∈ T.fn → FnAt X Φ n f
  xc : ∀ c fl, (c, fl) ∈ T.xc → ∃ C, XcK X.K X.mg c fl C
  xr : ∀ c D b, (c, D, b) ∈ T.xr → XrK X.K X.mg c D b
  rm : T.xc ≠ [] → Room 2 X.A

theorem PE.imp {X : Cx} {e : Expr} {t t' : TE} (h : PE X e t) (i : ∀ σ H Q, t' σ H Q → t σ H Q) : PE X e t' := ⟨fun pins s σ H Q I q => h.run pins s σ H Q I (i σ H Q q)⟩
theorem PT.imp {X : Cx} {e : Expr} {t t' : TT} (h : PT X e t) (i : ∀ σ H Q, t' σ H Q → t σ H Q) : PT X e t' := ⟨fun pins s σ H Q I q => h.run pins s σ H Q I (i σ H Q q)⟩
theorem PA.imp {X : Cx} {e : List Expr} {t t' : TA} (h : PA X e t) (i : ∀ σ H Q, t' σ H Q → t σ H Q) : PA X e t' := ⟨fun pos pins s σ H Q I q => h.run pos pins s σ H Q I (i σ H Q q)⟩

/-! ### syntax -/
def noStar : Expr → Bool
  | .Starred _ _ => false
  | _ => true
theorem star_of {e : Expr} {es : List Expr} {env : Env} (h : noStar e = true) : starEach (e :: es) env = (false, eval e env) :: starEach es env := by
  cases e <;> first | rfl | cases h
def noStars : List Expr → Bool
  | [] => true
  | e :: r => noStar e && noStars r
theorem back_of {pos : Pos} {env : Env} : ∀ {es : List Expr}, noStars es = true → (backTo pos (starEach es env)).any (·.1) = false
  | [], _ => rfl
  | e :: r, h => by
    obtain ⟨h1, h2⟩ := Bool.and_eq_true_iff.mp (show (noStar e && noStars r) = true from h)
    rw [star_of h1]
    exact back_of h2
def plainB : Expr → Bool
  | .Slice _ _ _ _ => false
  | .Starred _ _ => false
  | _ => true
theorem plainIx_of {b : Expr} (h : plainB b = true) : PlainIx b := by
  intro o i
  cases b <;> first | rfl | cases h
def plainT : Expr → Bool
  | .UnaryOp .Not _ _ => false
  | .BoolOp _ _ _ => false
  | .IfExp _ _ _ _ => false
  | .Compare _ _ _ _ => false
  | _ => true
theorem isTrue_of {e : Expr} {env : Env} (h : plainT e = true) (whole : Sem Value) : isTrue e env whole = (do let v ← whole; standAt e.pos; holding [v] (truthy v)) := by
  cases e with
  | UnaryOp op a pos => cases op <;> first | rfl | cases h
  | BoolOp _ _ _ => cases h
  | IfExp _ _ _ _ => cases h
  | Compare _ _ _ _ => cases h
  | _ => rfl
def plainO : Expr → Bool
  | .Call _ [] _ _ => false
  | _ => true
theorem attr_plain {o : Expr} {a : Str} {env : Env} (h : plainO o = true) : attributeBase o a env (eval o env) = eval o env := by
  cases o with
  | Call f xs kw p =>
    cases xs with
    | nil => cases h
    | cons x xs => cases f <;> rfl
  | _ => rfl
def noComp : Expr → Bool
  | .ListComp _ _ _ _ => false
  | .SetComp _ _ _ _ => false
  | .DictComp _ _ _ _ _ => false
  | _ => true
theorem swaps_of {e : Expr} {t : Option Expr} {l : Nat} {env : Env} (h : noComp e = true) : swapsWith e t l env = pure false := by
  cases e <;> first | rfl | cases h
def noSet : Expr → Bool
  | .Set _ _ _ => false
  | _ => true
theorem folded_of {e : Expr} {env : Env} (h : noSet e = true) (x : Value) : foldedSetIterable e env x = pure x := by
  cases e <;> first | rfl | cases h

/-! ### steps -/
section
variable {X : Cx} {Φ : Phi} {T : Tb} {wx : WX}
abbrev tEs (X : Cx) (Φ : Phi) (wx : WX) (e : E) : TE := tE (kw X) X.mg wx (sem Φ e)
abbrev tTs (X : Cx) (Φ : Phi) (wx : WX) (e : E) : TT := tT (kw X) X.mg wx fun ρ st => (sem Φ e ρ st).bind truth
abbrev tEss (X : Cx) (Φ : Phi) (wx : WX) (e : Es) : TA := tAs (kw X) X.mg wx (sems Φ e)
variable {K : KW} {mg : Str → Option Value}
theorem gen_step {α β' τ τ' : Type} {rep : Hp → (Addr → Prop) → Hp → τ → α → Prop} {rep' : Hp → (Addr → Prop) → Hp → τ' → β' → Prop} {β : List Addr} {B : Bs} {F : Addr → Prop} {ρ : Rho} {st : Stt} {σ : L2.St} {H : Hp} {Q : τ' → Hp → Prop} {P : τ → Hp → Prop} {r : Res α} {k : α → Stt → Res β'} {wx' : Value → Option Addr → Hp → Prop}
    (R : RelE K F β B ρ st σ H) (hb : Back β rep') (h : Post K mg β B rep' F H wx' (r.bind k) Q)
    (g : ∀ w st1 F1 v H1, Ext F β H F1 H1 → RelE K F1 β B ρ st1 σ H1 → rep H F1 H1 v w → Post K mg β B rep' F1 H1 wx' (k w st1) Q → P v H1) : Post K mg β B rep F H wx' r P :=
  (Post.step hb h).imp fun v H1 ⟨w, st1, F1, e, s, rv, p⟩ => g w st1 F1 v H1 e (R.ext e s) rv (p.later hb e)
theorem step_e {β' τ' : Type} {rep' : Hp → (Addr → Prop) → Hp → τ' → β' → Prop} {β : List Addr} {B : Bs} {F : Addr → Prop} {ρ : Rho} {st : Stt} {σ : L2.St} {H : Hp} {Q : τ' → Hp → Prop} {P : VK} {f : Rho → Stt → Res W} {k : W → Stt → Res β'}
    (R : RelE K F β B ρ st σ H) (hb : Back β rep') (h : Post K mg β B rep' F H (fun c d H' => wx c d σ H') ((f ρ st).bind k) Q)
    (g : ∀ w st1 F1 v H1, Ext F β H F1 H1 → RelE K F1 β B ρ st1 σ H1 → RR K β B H F1 H1 v w → Post K mg β B rep' F1 H1 (fun c d H' => wx c d σ H') (k w st1) Q → P v H1) : tE K mg wx f σ H P := ⟨F, β, B, ρ, st, R, gen_step R hb h g⟩
theorem step_t {β' τ' : Type} {rep' : Hp → (Addr → Prop) → Hp → τ' → β' → Prop} {β : List Addr} {B : Bs} {F : Addr → Prop} {ρ : Rho} {st : Stt} {σ : L2.St} {H : Hp} {Q : τ' → Hp → Prop} {P : Bool → Hp → Prop} {f : Rho → Stt → Res Bool} {k : Bool → Stt → Res β'}
    (R : RelE K F β B ρ st σ H) (hb : Back β rep') (h : Post K mg β B rep' F H (fun c d H' => wx c d σ H') ((f ρ st).bind k) Q)
    (g : ∀ w st1 F1 H1, Ext F β H F1 H1 → RelE K F1 β B ρ st1 σ H1 → Post K mg β B rep' F1 H1 (fun c d H' => wx c d σ H') (k w st1) Q → P w H1) : tT K mg wx f σ H P := ⟨F, β, B, ρ, st, R, gen_step R hb h fun w st1 F1 v H1 e R1 hv q => by cases hv; exact g _ st1 F1 H1 e R1 q⟩
theorem step_a {β' τ' : Type} {rep' : Hp → (Addr → Prop) → Hp → τ' → β' → Prop} {β : List Addr} {B : Bs} {F : Addr → Prop} {ρ : Rho} {st : Stt} {σ : L2.St} {H : Hp} {Q : τ' → Hp → Prop} {P : List V → Hp → Prop} {f : Rho → Stt → Res (List W)} {k : List W → Stt → Res β'}
    (R : RelE K F β B ρ st σ H) (hb : Back β rep') (h : Post K mg β B rep' F H (fun c d H' => wx c d σ H') ((f ρ st).bind k) Q)
    (g : ∀ w st1 F1 v H1, Ext F β H F1 H1 → RelE K F1 β B ρ st1 σ H1 → RL K β B H F1 H1 v w → Post K mg β B rep' F1 H1 (fun c d H' => wx c d σ H') (k w st1) Q → P v H1) : tAs K mg wx f σ H P := ⟨F, β, B, ρ, st, R, gen_step R hb h g⟩
theorem post_bool {β : List Addr} {B : Bs} {F : Addr → Prop} {H : Hp} {st : Stt} {wx' : Value → Option Addr → Hp → Prop} {b : Bool} {Q : Bool → Hp → Prop}
    (h : Post K mg β B REq F H wx' (.ok b st) Q) : Post K mg β B (RR K β B) F H wx' (.ok (.d (.bool b)) st) (fun x H' => ∃ k, x = .bl k ∧ Q k H') := fun v F' H' e s r => by
  have := r.1
  cases this
  exact ⟨b, rfl, h b F' H' e s rfl⟩
theorem Res.bind_assoc {α β γ : Type} (r : Res α) (f : α → Stt → Res β) (g : β → Stt → Res γ) : (r.bind f).bind g = r.bind fun a s => (f a s).bind g := by cases r <;> rfl
theorem ofO_bind {α β : Type} {st : Stt} {o : Option α} {f : α → Stt → Res β} : (Res.ofO st o).bind f = match o with | some a => f a st | none => .bad := by cases o <;> rfl

variable {a b c x : Expr} {ea eb ec : E} {pos : Pos}
theorem hB_of {F : Addr → Prop} {β : List Addr} {B : Bs} {ρ : Rho} {st : Stt} {σ : L2.St} {H : Hp} (R : RelE K F β B ρ st σ H) : ∀ a, B.u a → H a ≠ none := fun a h => (R.st.ob a h).2.2

/-! ### atoms -/
theorem e_var {i : Nat} {n : Str} (hN : X.N[i]? = some n) (hv : Vis X.env.scope n) (hd : (n == ("__debug__" : Str)) = false) (hcd : (n == ("__classdict__" : Str)) = false) : PE X (.Name n pos) (tEs X Φ wx (.var i)) :=
  PE.imp (pe_var hN hv hd hcd) fun σ H Q ⟨F, β, B, ρ, st, R, h⟩ => by
    have h' : Post (kw X) X.mg β B (RR (kw X) β B) F H (fun c d H' => wx c d σ H') (match ρ[i]? with
      | some (some (.own c)) => .ok (.lent c) st
      | some (some w) => .ok w st
      | _ => .bad) Q := by unfold sem at h; exact h
    cases q : ρ[i]? with
    | none => rw [q] at h'; exact h'.elim
    | some o =>
      cases o with
      | none => rw [q] at h'; exact h'.elim
      | some w =>
        obtain ⟨v, e1, rv⟩ := R.slot i w q
        refine ⟨v, e1, ?_⟩
        rw [q] at h'
        obtain ⟨n1, n2⟩ := R.rest i w q
        cases w with
        | own c => exact Post.done h' R.st ⟨rv, trivial⟩
        | d x => exact Post.done h' R.st ⟨rv, trivial⟩
        | bor x => exact Post.done h' R.st ⟨rv, trivial⟩
        | loc x => exact Post.done h' R.st ⟨rv, trivial⟩
        | fn x => exact Post.done h' R.st ⟨rv, trivial⟩
        | new c => exact absurd rfl (n1 c)
        | lent c => exact absurd rfl (n2 c)
theorem e_d {v : V} {y : PyData} {e : Expr} (h : PE X e (tC v)) (r : ∀ F H, Rp (kw X) F H v y) {E : E} (hE : ∀ ρ st, sem Φ E ρ st = .ok (.d y) st) : PE X e (tEs X Φ wx E) :=
  PE.imp h fun σ H Q ⟨F, β, B, ρ, st, R, h⟩ => by
    rw [hE] at h
    exact fin_d R.st h (r F H)
theorem e_glo {n : Str} {y : PyData} (S : Side X Φ T wx) (hm : (n, y) ∈ T.co) (hg : Gl X n) (hd : (n == ("__debug__" : Str)) = false) : PE X (.Name n pos) (tEs X Φ wx (.glo n y)) := by
  obtain ⟨u, v, h1, h2, h3⟩ := S.co n y hm
  exact e_d (pe_glob hg h1 h2 hd) h3 fun _ _ => by rw [sem]
theorem e_fnv {n : Str} {g : Nat} (S : Side X Φ T wx) (hf : (n, g) ∈ T.fn) (hg : Gl X n) (hd : (n == ("__debug__" : Str)) = false) : PE X (.Name n pos) (tEs X Φ wx (.fnv n)) := by
  obtain ⟨ad, fd, ps, k, F, hr, hm, hk, hb⟩ := S.fn n g hf
  refine PE.imp (pe_glob (v := .ref ad) hg hm rfl hd) fun σ H Q ⟨F, β, B, ρ, st, R, h⟩ => ?_
  unfold sem at h
  exact Post.done h R.st ⟨⟨ad, rfl, hm⟩, trivial⟩

/-! ### operators -/
theorem rd2_of {β : List Addr} {B : Bs} {F : Addr → Prop} {H : Hp} {wx' : Value → Option Addr → Hp → Prop} {u v : W} {st : Stt} {k : PyData → PyData → Option W} {Q : VK} (h : Post K mg β B (RR K β B) F H wx' (rd2 u v st k) Q) :
    ∃ x y w, u.rd st = some x ∧ v.rd st = some y ∧ k x y = some w ∧ Post K mg β B (RR K β B) F H wx' (.ok w st) Q := by
  unfold rd2 at h
  obtain ⟨w, e, h⟩ := Post.ofO h
  obtain ⟨x, e1, e⟩ := Option.bind_eq_some_iff.mp e
  obtain ⟨y, e2, e⟩ := Option.bind_eq_some_iff.mp e
  exact ⟨x, y, w, e1, e2, e, h⟩
theorem rd1_of {β : List Addr} {B : Bs} {F : Addr → Prop} {H : Hp} {wx' : Value → Option Addr → Hp → Prop} {u : W} {st : Stt} {k : PyData → Option W} {Q : VK} (h : Post K mg β B (RR K β B) F H wx' (rd1 u st k) Q) :
    ∃ x w, u.rd st = some x ∧ k x = some w ∧ Post K mg β B (RR K β B) F H wx' (.ok w st) Q := by
  unfold rd1 at h
  obtain ⟨w, e, h⟩ := Post.ofO h
  obtain ⟨x, e1, e⟩ := Option.bind_eq_some_iff.mp e
  exact ⟨x, w, e1, e, h⟩
theorem e_bin {o : BO} (ha : PE X a (tEs X Φ wx ea)) (hb : PE X b (tEs X Φ wx eb)) : PE X (.BinOp a (bop o) b pos) (tEs X Φ wx (.bin o ea eb)) := by
  obtain ⟨r, hr, hk⟩ := ok_bin (X := X) o
  refine PE.imp (pe_op hr ha hb) fun σ H Q ⟨F, β, B, ρ, st, R, h⟩ => ?_
  unfold sem at h
  refine step_e R back_RR h fun w st1 F1 v H1 e1 R1 rv h => ?_
  refine step_e R1 back_RR h fun u st2 F2 y H2 e2 R2 ry h => ?_
  obtain ⟨dx, dy, z, h1, h2, h3, h⟩ := rd2_of h
  exact hk F2 β B st2 H2 _ _ Q v y dx dy z R2.st ((rv.1.keep e2 R1.st).rdp R2.st h1) (ry.1.rdp R2.st h2) h3 h
theorem e_neg (ha : PE X a (tEs X Φ wx ea)) : PE X (.UnaryOp .USub a pos) (tEs X Φ wx (.neg ea)) := by
  refine PE.imp (pe_un un_neg ha) fun σ H Q ⟨F, β, B, ρ, st, R, h⟩ => ?_
  unfold sem at h
  refine step_e R back_RR h fun w st1 F1 v H1 e1 R1 rv h => ?_
  obtain ⟨dx, z, h1, h2, h⟩ := rd1_of h
  obtain ⟨i, h3, rfl⟩ := Option.map_eq_some_iff.mp h2
  unfold intOf at h3
  split at h3
  · cases h3
    have := (rv.1.rdp R1.st h1).int
    subst this
    exact ⟨_, rfl, fin_d R1.st h (.int _)⟩
  · cases h3
theorem e_cmp {o : CO} (S : Side X Φ T wx) (ha : PE X a (tEs X Φ wx ea)) (hb : PE X b (tEs X Φ wx eb)) (hm : behindInMarks (cop o) b = false) : PE X (.Compare a [cop o] [b] pos) (tEs X Φ wx (.cmp o ea eb)) := by
  obtain ⟨r, hr, hk⟩ := ok_cmps (X := X) (by have := S.un; omega) o
  refine PE.imp (pe_cmpR hr ha hb hm) fun σ H Q ⟨F, β, B, ρ, st, R, h⟩ => ?_
  unfold sem at h
  refine step_e R back_RR h fun w st1 F1 v H1 e1 R1 rv h => ?_
  refine step_e R1 back_RR h fun u st2 F2 y H2 e2 R2 ry h => ?_
  obtain ⟨dx, dy, z, h1, h2, h3, h⟩ := rd2_of h
  exact hk F2 β B st2 H2 _ _ Q v y dx dy z R2.st ((rv.1.keep e2 R1.st).rdp R2.st h1) (ry.1.rdp R2.st h2) h3 h
theorem truth_b {b : Bool} {st : Stt} : truth (.d (.bool b)) st = .ok b st := rfl
theorem toB_of {o : Option Bool} {w : W} (h : toB o = some w) : ∃ b, o = some b ∧ w = .d (.bool b) := by
  unfold toB at h
  obtain ⟨b, e, rfl⟩ := Option.map_eq_some_iff.mp h
  exact ⟨b, e, rfl⟩
theorem rd2_bind {α : Type} {β : List Addr} {B : Bs} {F : Addr → Prop} {H : Hp} {wx' : Value → Option Addr → Hp → Prop} {u v : W} {st : Stt} {k : PyData → PyData → Option W} {f : W → Stt → Res α} {τ : Type} {rep : Hp → (Addr → Prop) → Hp → τ → α → Prop} {Q : τ → Hp → Prop} (h : Post K mg β B rep F H wx' ((rd2 u v st k).bind f) Q) :
    ∃ x y w, u.rd st = some x ∧ v.rd st = some y ∧ k x y = some w ∧ Post K mg β B rep F H wx' (f w st) Q := by
  unfold rd2 at h
  rw [ofO_bind] at h
  split at h
  · rename_i w e
    obtain ⟨x, e1, e⟩ := Option.bind_eq_some_iff.mp e
    obtain ⟨y, e2, e⟩ := Option.bind_eq_some_iff.mp e
    exact ⟨x, y, w, e1, e2, e, h⟩
  · exact h.elim
theorem t_cmp {o : CO} (S : Side X Φ T wx) (ha : PE X a (tEs X Φ wx ea)) (hb : PE X b (tEs X Φ wx eb)) (hm : behindInMarks (cop o) b = false) : PT X (.Compare a [cop o] [b] pos) (tTs X Φ wx (.cmp o ea eb)) := by
  obtain ⟨r, hr, hk⟩ := ok_cmps (X := X) (by have := S.un; omega) o
  refine PT.imp (pt_cmpR hr ha hb hm) fun σ H Q ⟨F, β, B, ρ, st, R, h⟩ => ?_
  unfold sem at h
  simp only [Res.bind_assoc] at h
  refine step_e R back_REq h fun w st1 F1 v H1 e1 R1 rv h => ?_
  refine step_e R1 back_REq h fun u st2 F2 y H2 e2 R2 ry h => ?_
  obtain ⟨dx, dy, z, h1, h2, h3, h⟩ := rd2_bind h
  obtain ⟨bb, h4, rfl⟩ := toB_of h3
  exact hk F2 β B st2 H2 _ _ _ v y dx dy _ R2.st ((rv.1.keep e2 R1.st).rdp R2.st h1) (ry.1.rdp R2.st h2) h3 (post_bool h)
theorem e_chn {o p : CO} (S : Side X Φ T wx) (ha : PE X a (tEs X Φ wx ea)) (hb : PE X b (tEs X Φ wx eb)) (hc : PE X c (tEs X Φ wx ec)) (hm : lastMarks [cop o, cop p] [b, c] = false) : PE X (.Compare a [cop o, cop p] [b, c] pos) (tEs X Φ wx (.chn o p ea eb ec)) := by
  obtain ⟨r, hr, hk⟩ := ok_cmps (X := X) (by have := S.un; omega) o
  obtain ⟨r', hr', hk'⟩ := ok_cmps (X := X) (by have := S.un; omega) p
  refine PE.imp (pe_chain hr hr' ha hb hc hm) fun σ H Q ⟨F, β, B, ρ, st, R, h⟩ => ?_
  unfold sem at h
  refine step_e R back_RR h fun w st1 F1 v H1 e1 R1 rv h => ?_
  refine step_e R1 back_RR h fun u st2 F2 y H2 e2 R2 ry h => ?_
  obtain ⟨dx, dy, z, h1, h2, h3, h⟩ := rd2_bind h
  obtain ⟨bb, h4, rfl⟩ := toB_of h3
  refine hk F2 β B st2 H2 X.mg (fun c d H' => wx c d σ H') _ v y dx dy _ R2.st ((rv.1.keep e2 R1.st).rdp R2.st h1) (ry.1.rdp R2.st h2) h3 ?_
  intro v3 F3 H3 e3 s3 r3
  have r3' := r3.1
  cases r3'
  refine ⟨bb, rfl, ?_⟩
  have R3 := R2.ext e3 s3
  have h := h.later back_RR e3
  cases bb with
  | false => exact fin_d s3 h (.bl _)
  | true =>
    show tE (kw X) X.mg wx (sem Φ ec) σ H3 _
    refine step_e R3 back_RR h fun u4 st4 F4 y4 H4 e4 R4 ry4 h => ?_
    obtain ⟨dx', dy', z', g1, g2, g3, h⟩ := rd2_of h
    exact hk' F4 β B st4 H4 _ _ Q y y4 dx' dy' z' R4.st (((ry.1.keep e3 R2.st).keep e4 R3.st).rdp R4.st g1) (ry4.1.rdp R4.st g2) g3 h
theorem t_chn {o p : CO} (S : Side X Φ T wx) (ha : PE X a (tEs X Φ wx ea)) (hb : PE X b (tEs X Φ wx eb)) (hc : PE X c (tEs X Φ wx ec)) (hm : lastMarks [cop o, cop p] [b, c] = false) : PT X (.Compare a [cop o, cop p] [b, c] pos) (tTs X Φ wx (.chn o p ea eb ec)) := by
  obtain ⟨r, hr, hk⟩ := ok_cmps (X := X) (by have := S.un; omega) o
  obtain ⟨r', hr', hk'⟩ := ok_cmps (X := X) (by have := S.un; omega) p
  refine PT.imp (pt_chain hr hr' ha hb hc hm) fun σ H Q ⟨F, β, B, ρ, st, R, h⟩ => ?_
  unfold sem at h
  simp only [Res.bind_assoc, bsel_bind, Res.bind_ok, truth_b] at h
  refine step_e R back_REq h fun w st1 F1 v H1 e1 R1 rv h => ?_
  refine step_e R1 back_REq h fun u st2 F2 y H2 e2 R2 ry h => ?_
  obtain ⟨dx, dy, z, h1, h2, h3, h⟩ := rd2_bind h
  obtain ⟨bb, h4, rfl⟩ := toB_of h3
  refine hk F2 β B st2 H2 X.mg (fun c d H' => wx c d σ H') _ v y dx dy _ R2.st ((rv.1.keep e2 R1.st).rdp R2.st h1) (ry.1.rdp R2.st h2) h3 ?_
  intro v3 F3 H3 e3 s3 r3
  have r3' := r3.1
  cases r3'
  refine ⟨bb, rfl, ?_⟩
  have R3 := R2.ext e3 s3
  have h := h.later back_REq e3
  cases bb with
  | false => exact ⟨false, rfl, Post.done h s3 rfl⟩
  | true =>
    show tE (kw X) X.mg wx (sem Φ ec) σ H3 _
    refine step_e R3 back_REq h fun u4 st4 F4 y4 H4 e4 R4 ry4 h => ?_
    obtain ⟨dx', dy', z', g1, g2, g3, h⟩ := rd2_bind h
    obtain ⟨bb', h4', rfl⟩ := toB_of g3
    exact hk' F4 β B st4 H4 _ _ _ y y4 dx' dy' _ R4.st (((ry.1.keep e3 R2.st).keep e4 R3.st).rdp R4.st g1) (ry4.1.rdp R4.st g2) g3 (post_bool h)

/-! ### tests -/
theorem t_val (ha : PE X a (tEs X Φ wx ea)) (he : plainT a = true) : PT X a (tTs X Φ wx ea) := by
  refine PT.imp (pt_truth ha (isTrue_of he)) fun σ H Q ⟨F, β, B, ρ, st, R, h⟩ => ?_
  refine step_e R back_REq h fun w st1 F1 v H1 e1 R1 rv h => ?_
  unfold truth at h
  obtain ⟨b, e, h⟩ := Post.ofO h
  obtain ⟨x, h1, h2⟩ := Option.bind_eq_some_iff.mp e
  exact ⟨b, ok_truth (rv.1.rdp R1.st h1) h2, Post.done h R1.st rfl⟩
theorem t_not (ha : PT X a (tTs X Φ wx ea)) : PT X (.UnaryOp .Not a pos) (tTs X Φ wx (.nt ea)) := by
  refine PT.imp (pt_not ha) fun σ H Q ⟨F, β, B, ρ, st, R, h⟩ => ?_
  unfold sem at h
  simp only [Res.bind_assoc] at h
  rw [← Res.bind_assoc] at h
  exact step_t R back_REq h fun w st1 F1 H1 e1 R1 h => Post.done (by simpa [truth_b] using h) R1.st rfl
theorem e_not (ha : PE X a (tEs X Φ wx ea)) : PE X (.UnaryOp .Not a pos) (tEs X Φ wx (.nt ea)) := by
  have key : PE X (.UnaryOp .Not a pos) (fun σ H Q => tEs X Φ wx ea σ H fun x H1 => ∃ k, TruV (kw X) x H1 k ∧ Q (.bl (!k)) H1) := by
    refine ⟨fun pins s σ H Q I h => ?_⟩
    refine UnaryOp_ (thn (ha.run pins s σ H _ I h) fun v s1 ⟨x, H1, I1, r1, k, q1, q2⟩ => ?_)
    exact not_of (thn (tru_ok pins s1 σ H1 x v (fun b H' => Q (.bl (!b)) H') I1 r1 ⟨k, q1, q2⟩) fun b s2 ⟨H2, I2, q⟩ => ⟨.bl (!b), H2, I2, rfl, q⟩)
  refine PE.imp key fun σ H Q ⟨F, β, B, ρ, st, R, h⟩ => ?_
  unfold sem at h
  refine step_e R back_RR h fun w st1 F1 v H1 e1 R1 rv h => ?_
  unfold truth at h
  rw [ofO_bind] at h
  split at h
  · rename_i b e
    obtain ⟨x, h1, h2⟩ := Option.bind_eq_some_iff.mp e
    exact ⟨b, ok_truth (rv.1.rdp R1.st h1) h2, fin_d R1.st h (.bl _)⟩
  · exact h.elim
theorem t_bt {β : List Addr} {B : Bs} {F : Addr → Prop} {H : Hp} {wx' : Value → Option Addr → Hp → Prop} {w : W} {α τ : Type} {rep : Hp → (Addr → Prop) → Hp → τ → α → Prop} {Q : τ → Hp → Prop} {f g : Res α}
    (h : Post K mg β B rep F H wx' (bsel w f g) Q) : ∃ b, w = .d (.bool b) ∧ Post K mg β B rep F H wx' (if b then f else g) Q := by
  unfold bsel at h
  split at h
  · exact ⟨_, rfl, h⟩
  · exact h.elim
theorem rrb {β : List Addr} {B : Bs} {F : Addr → Prop} {H H0 : Hp} {v : V} {b : Bool} (r : RR K β B H0 F H v (.d (.bool b))) : v = .bl b := by
  have := r.1
  cases this
  rfl
/-- a's truth, where its value is to be a bool -/
theorem step_tb {α τ : Type} {rep : Hp → (Addr → Prop) → Hp → τ → α → Prop} {β : List Addr} {B : Bs} {F : Addr → Prop} {ρ : Rho} {st : Stt} {σ : L2.St} {H : Hp} {Q : τ → Hp → Prop} {P : Bool → Hp → Prop} {f g : Stt → Res α}
    (R : RelE K F β B ρ st σ H) (hb : Back β rep) (h : Post K mg β B rep F H (fun c d H' => wx c d σ H') ((sem Φ ea ρ st).bind fun w s => bsel w (f s) (g s)) Q)
    (k : ∀ b st1 F1 H1, Ext F β H F1 H1 → RelE K F1 β B ρ st1 σ H1 → Post K mg β B rep F1 H1 (fun c d H' => wx c d σ H') (if b then f st1 else g st1) Q → P b H1) : tT K mg wx (fun ρ st => (sem Φ ea ρ st).bind truth) σ H P := by
  refine step_t (k := fun b s => if b then f s else g s) R hb ?_ fun b st1 F1 H1 e1 R1 h => k b st1 F1 H1 e1 R1 h
  rw [Res.bind_assoc]
  cases q : sem Φ ea ρ st with
  | bad => rw [q] at h; exact h
  | ex x s => rw [q] at h; exact h
  | ok w s =>
    rw [q] at h
    simp only [Res.bind_ok] at h ⊢
    obtain ⟨b, rfl, h⟩ := t_bt h
    rw [truth_b]
    exact h
theorem t_pw {op : BoolOp} {vs : List Expr} {t : TT} (h : PT X (.BoolOp op vs pos) t) : PW X (.BoolOp op vs pos) t := ⟨fun wh pins s σ H Q I q => by have := h.run pins s σ H Q I q; exact this⟩
theorem t_one {op : BoolOp} (h : PT X b (tTs X Φ wx eb)) : PT X (.BoolOp op [b] pos) (tTs X Φ wx eb) := by
  cases op with
  | And => exact (pw_and1 h).pt
  | Or => exact (pw_or1 h).pt
theorem t_and {rest : List Expr} (ha : PT X a (tTs X Φ wx ea)) (hb : PT X (.BoolOp .And (b :: rest) pos) (tTs X Φ wx eb)) : PT X (.BoolOp .And (a :: b :: rest) pos) (tTs X Φ wx (.an ea eb)) := by
  refine PT.imp (pw_and ha (t_pw hb)).pt fun σ H Q ⟨F, β, B, ρ, st, R, h⟩ => ?_
  unfold sem at h
  simp only [Res.bind_assoc, bsel_bind, Res.bind_ok, truth_b] at h
  refine step_tb R back_REq h fun b st1 F1 H1 e1 R1 h => ?_
  cases b with
  | true => exact ⟨F1, β, B, ρ, st1, R1, h⟩
  | false => exact Post.done h R1.st rfl
theorem t_or {rest : List Expr} (ha : PT X a (tTs X Φ wx ea)) (hb : PT X (.BoolOp .Or (b :: rest) pos) (tTs X Φ wx eb)) : PT X (.BoolOp .Or (a :: b :: rest) pos) (tTs X Φ wx (.oo ea eb)) := by
  refine PT.imp (pw_or ha (t_pw hb)).pt fun σ H Q ⟨F, β, B, ρ, st, R, h⟩ => ?_
  unfold sem at h
  simp only [Res.bind_assoc, bsel_bind, Res.bind_ok, truth_b] at h
  refine step_tb R back_REq h fun b st1 F1 H1 e1 R1 h => ?_
  cases b with
  | false => exact ⟨F1, β, B, ρ, st1, R1, h⟩
  | true => exact Post.done h R1.st rfl
theorem e_and {rest : List Expr} (ha : PE X a (tEs X Φ wx ea)) (hb : PE X (.BoolOp .And (b :: rest) pos) (tEs X Φ wx eb)) : PE X (.BoolOp .And (a :: b :: rest) pos) (tEs X Φ wx (.an ea eb)) := by
  refine PE.imp (pe_and ha hb) fun σ H Q ⟨F, β, B, ρ, st, R, h⟩ => ?_
  unfold sem at h
  refine step_e R back_RR h fun w st1 F1 v H1 e1 R1 rv h => ?_
  obtain ⟨b, rfl, h⟩ := t_bt h
  cases rrb rv
  refine ⟨b, rfl, ?_⟩
  cases b with
  | true => exact ⟨F1, β, B, ρ, st1, R1, h⟩
  | false => exact fin_d R1.st h (.bl _)
theorem e_or {rest : List Expr} (ha : PE X a (tEs X Φ wx ea)) (hb : PE X (.BoolOp .Or (b :: rest) pos) (tEs X Φ wx eb)) : PE X (.BoolOp .Or (a :: b :: rest) pos) (tEs X Φ wx (.oo ea eb)) := by
  refine PE.imp (pe_or ha hb) fun σ H Q ⟨F, β, B, ρ, st, R, h⟩ => ?_
  unfold sem at h
  refine step_e R back_RR h fun w st1 F1 v H1 e1 R1 rv h => ?_
  obtain ⟨b, rfl, h⟩ := t_bt h
  cases rrb rv
  refine ⟨b, rfl, ?_⟩
  cases b with
  | false => exact ⟨F1, β, B, ρ, st1, R1, h⟩
  | true => exact fin_d R1.st h (.bl _)
theorem e_ite {ec : E} (hc : PT X c (tTs X Φ wx ec)) (ha : PE X a (tEs X Φ wx ea)) (hb : PE X b (tEs X Φ wx eb)) : PE X (.IfExp c a b pos) (tEs X Φ wx (.ite ec ea eb)) := by
  refine PE.imp (pe_ifExp hc ha hb) fun σ H Q ⟨F, β, B, ρ, st, R, h⟩ => ?_
  unfold sem at h
  rw [← Res.bind_assoc] at h
  refine step_t R back_RR h fun b st1 F1 H1 e1 R1 h => ?_
  cases b with
  | true => exact ⟨F1, β, B, ρ, st1, R1, h⟩
  | false => exact ⟨F1, β, B, ρ, st1, R1, h⟩
/-- a if c else b, as a test -/
theorem t_ite {ec : E} (hc : PT X c (tTs X Φ wx ec)) (ha : PT X a (tTs X Φ wx ea)) (hb : PT X b (tTs X Φ wx eb)) : PT X (.IfExp c a b pos) (tTs X Φ wx (.ite ec ea eb)) := by
  refine ⟨fun pins s σ H Q I h => ?_⟩
  obtain ⟨F, β, B, ρ, st, R, h⟩ := h
  unfold sem at h
  simp only [Res.bind_assoc] at h
  rw [← Res.bind_assoc] at h
  rw [show isTrue (.IfExp c a b pos) X.env (eval (.IfExp c a b pos) X.env) = (do if ← isTrue c X.env (eval c X.env) then isTrue a X.env (eval a X.env) else isTrue b X.env (eval b X.env)) from by rw [PySem.isTrue]]
  refine wpAny_bind (thn (hc.run pins s σ H (fun b H1 => if b then tTs X Φ wx ea σ H1 Q else tTs X Φ wx eb σ H1 Q) I (step_t R back_REq h fun bb st1 F1 H1 e1 R1 h => ?_)) fun d s1 ⟨H1, I1, q1⟩ => ?_)
  · cases bb with
    | true => exact ⟨F1, β, B, ρ, st1, R1, h⟩
    | false => exact ⟨F1, β, B, ρ, st1, R1, h⟩
  · cases d with
    | true => exact ha.run pins s1 σ H1 Q I1 q1
    | false => exact hb.run pins s1 σ H1 Q I1 q1
end
end Gm

/-! The deep layer, part D2: displays, items, calls. -/
namespace Gm
open PySem PySem.Spec PyProof.Rows L2
section
variable {X : Cx} {Φ : Phi} {T : Tb} {wx : WX} {K : KW} {mg : Str → Option Value}
variable {a b c x : Expr} {xs : List Expr} {ea eb ec : E} {es : Es} {pos : Pos}
theorem Post.stepX {α β' τ τ' : Type} {rep : Hp → (Addr → Prop) → Hp → τ → α → Prop} {rep' : Hp → (Addr → Prop) → Hp → τ' → β' → Prop} {β : List Addr} {B : Bs} {F F1 : Addr → Prop} {H H1 : Hp} {wx' : Value → Option Addr → Hp → Prop} {r : Res α} {k : α → Stt → Res β'} {Q : τ' → Hp → Prop} (h : Post K mg β B rep' F H wx' (r.bind k) Q) (e : Ext F β H F1 H1) :
    Post K mg β B rep F1 H1 wx' r (fun v H2 => ∃ w st2 F2, Ext F1 β H1 F2 H2 ∧ StOk K F2 β B H2 st2 ∧ rep H1 F2 H2 v w ∧ Post K mg β B rep' F H wx' (k w st2) Q) := by
  cases r with
  | ok w st => exact fun v F' H' a b c => ⟨w, st, F', a, b, c, h⟩
  | ex x st => exact fun c d F' H' a b r => h c d F' H' (e.trans a) b r
  | bad => exact h
theorem a_nil : PA X [] (tEss X Φ wx .nil) := PA.imp pa_nil fun σ H Q ⟨F, β, B, ρ, st, R, h⟩ => by
  unfold sems at h
  exact Post.done h R.st .nil
theorem a_cons (hx : PE X x (tEs X Φ wx ea)) (hr : PA X xs (tEss X Φ wx es)) (hs : noStar x = true) : PA X (x :: xs) (tEss X Φ wx (.cons ea es)) := by
  refine PA.imp (pa_cons hx hr (star_of hs)) fun σ H Q ⟨F, β, B, ρ, st, R, h⟩ => ?_
  unfold sems at h
  refine ⟨F, β, B, ρ, st, R, (Post.step back_RL h).imp fun v H1 ⟨w, st1, F1, e1, s1, rv, h⟩ => ?_⟩
  have R1 := R.ext e1 s1
  refine ⟨F1, β, B, ρ, st1, R1, (Post.stepX h e1).imp fun vs H2 ⟨ws, st2, F2, e2, s2, rvs, h⟩ => ?_⟩
  exact Post.doneX h (e1.trans e2) s2 (.cons (rv.keep e2 s1) (rvs.back e1))
theorem e_tup {k : Nat} (ha : PA X xs (tEss X Φ wx es)) : PE X (.Tuple xs k pos) (tEs X Φ wx (.tup es)) := by
  refine PE.imp (pe_tupD ha) fun σ H Q ⟨F, β, B, ρ, st, R, h⟩ => ?_
  unfold sem at h
  refine ⟨F, β, B, ρ, st, R, (Post.step back_RR h).imp fun vs H1 ⟨ws, st1, F1, e1, s1, rv, h⟩ => ?_⟩
  obtain ⟨w, e, h⟩ := Post.ofO h
  obtain ⟨ds, h1, h2⟩ := Option.bind_eq_some_iff.mp e
  split at h2
  · rename_i hz
    cases h2
    have ra := RL.py rv h1
    exact ⟨by rw [ra.length]; exact hz, fun p o hp ho => fin_tup (frz_st (hB_of R) s1) (h.later back_RR (frz_ext e1)) ra hp ho⟩
  · cases h2
theorem e_lst (ha : PA X xs (tEss X Φ wx es)) : PE X (.List xs pos) (tEs X Φ wx (.lst es)) := by
  refine PE.imp (pe_lst ha) fun σ H Q ⟨F, β, B, ρ, st, R, h⟩ => ?_
  unfold sem at h
  refine ⟨F, β, B, ρ, st, R, (Post.step back_RR h).imp fun vs H1 ⟨ws, st1, F1, e1, s1, rv, h⟩ => ?_⟩
  obtain ⟨w, e, h⟩ := Post.ofO h
  obtain ⟨ds, h1, h2⟩ := Option.bind_eq_some_iff.mp e
  split at h2
  · rename_i hz
    cases h2
    have ra := RL.py rv h1
    exact ⟨by rw [ra.length]; exact hz, fun p hp => fin_new (frz_st (hB_of R) s1) (h.later back_RR (frz_ext e1)) ra hp⟩
  · cases h2
theorem e_idx (S : Side X Φ T wx) (ha : PE X a (tEs X Φ wx ea)) (hb : PE X b (tEs X Φ wx eb)) (hs : plainB b = true) : PE X (.Subscript a b pos) (tEs X Φ wx (.idx ea eb)) := by
  refine PE.imp (pe_ix (IxR.or ix_seq (ix_dict (by have := S.un; omega))) ha hb (plainIx_of hs)) fun σ H Q ⟨F, β, B, ρ, st, R, h⟩ => ?_
  unfold sem at h
  refine step_e R back_RR h fun w st1 F1 v H1 e1 R1 rv h => ?_
  refine step_e R1 back_RR h fun u st2 F2 y H2 e2 R2 ry h => ?_
  obtain ⟨dx, dy, z, h1, h2, h3, h⟩ := rd2_of h
  obtain ⟨z', h4, rfl⟩ := Option.map_eq_some_iff.mp h3
  exact ok_idx R2.st ((rv.1.keep e2 R1.st).rdp R2.st h1) (ry.1.rdp R2.st h2) h4 h
/-- a slice's part -/
def tOp' (K : KW) (mg : Str → Option Value) (wx : WX) (f : Rho → Stt → Res (Option Int)) : TO := fun σ H Q => ∃ F β B ρ st, RelE K F β B ρ st σ H ∧ Post K mg β B REq F H (fun c d H' => wx c d σ H') (f ρ st) Q
abbrev tOs (X : Cx) (Φ : Phi) (wx : WX) (e : Es) : TO := tOp' (kw X) X.mg wx fun ρ st => (sems Φ e ρ st).bind fun l s => Res.ofO s (partD s l)
theorem PO.imp {e : Option Expr} {t t' : TO} (h : PO X e t) (i : ∀ σ H Q, t' σ H Q → t σ H Q) : PO X e t' := ⟨fun pins s σ H Q I q => h.run pins s σ H Q I (i σ H Q q)⟩
theorem o_none : PO X none (tOs X Φ wx .nil) := PO.imp po_none fun σ H Q ⟨F, β, B, ρ, st, R, h⟩ => by
  unfold sems at h
  exact Post.done (w := (none : Option Int)) h R.st rfl
theorem o_some (ha : PE X a (tEs X Φ wx ea)) : PO X (some a) (tOs X Φ wx (.cons ea .nil)) := PO.imp (po_some ha) fun σ H Q ⟨F, β, B, ρ, st, R, h⟩ => by
  unfold sems sems at h
  simp only [Res.bind_assoc, Res.bind_ok] at h
  refine step_e R back_REq h fun w st1 F1 v H1 e1 R1 rv h => ?_
  obtain ⟨o, e, h⟩ := Post.ofO h
  obtain ⟨d, h1, h2⟩ := Option.bind_eq_some_iff.mp (show (w.rd st1).bind (fun x => (intOf x).map some) = some o from e)
  obtain ⟨i, h3, rfl⟩ := Option.map_eq_some_iff.mp h2
  unfold intOf at h3
  split at h3
  · cases h3
    exact ⟨_, (rv.1.rdp R1.st h1).int, Post.done h R1.st rfl⟩
  · cases h3
theorem e_slc {lo hi : Option Expr} {el eh : Es} {p2 : Pos} (ha : PE X a (tEs X Φ wx ea)) (hl : PO X lo (tOs X Φ wx el)) (hh : PO X hi (tOs X Φ wx eh)) : PE X (.Subscript a (.Slice lo hi none p2) pos) (tEs X Φ wx (.slc ea el eh)) := by
  refine PE.imp (pe_slice sl_ok ha hl hh) fun σ H Q ⟨F, β, B, ρ, st, R, h⟩ => ?_
  unfold sem at h
  refine step_e R back_RR h fun w st1 F1 v H1 e1 R1 rv h => ?_
  refine ⟨F1, β, B, ρ, st1, R1, gen_step R1 back_RR h fun l st2 F2 l' H2 e2 R2 q2 h => ?_⟩
  cases q2
  refine ⟨F2, β, B, ρ, st2, R2, gen_step R2 back_RR h fun u st3 F3 u' H3 e3 R3 q3 h => ?_⟩
  cases q3
  obtain ⟨z, e, h⟩ := Post.ofO h
  obtain ⟨d, h1, h2⟩ := Option.bind_eq_some_iff.mp e
  exact ok_slc R3.st (((rv.1.keep e2 R1.st).keep e3 R2.st).rdp R3.st h1) h2 h
theorem e_rev {k : Nat} {p1 p2 p3 : Pos} (ha : PE X a (tEs X Φ wx ea)) : PE X (.Subscript a (.Slice none none (some (.UnaryOp .USub (.Constant (.int 1) k p1) p2)) p3) pos) (tEs X Φ wx (.rev ea)) := by
  refine PE.imp (pe_rev ha) fun σ H Q ⟨F, β, B, ρ, st, R, h⟩ => ?_
  unfold sem at h
  refine step_e R back_RR h fun w st1 F1 v H1 e1 R1 rv h => ?_
  obtain ⟨d, z, h1, h2, h⟩ := rd1_of h
  exact ok_rev R1.st (rv.1.rdp R1.st h1) h2 h

/-! ### calls -/
theorem run_fnG {pins : List (Addr × Obj)} {σ : L2.St} {H : Hp} {s : Shared} {Q : VK} {us : List Value} {vs : List V} {k : Nat} {f : Addr} {fd : FuncData} {ps : List Str} {sp : Sp} (F : FnG X.prog X.w (kw X) X.mg X.base k f fd ps sp) (hr : Room k X.A) (hg : X.A.guards = some []) (hb : Binds (kw X) fd ps []) (tk : Takes X wx)
    (I : Inv X pins σ H s) (r : Vals vs us) (h : sp vs H Q (fun c d H' => wx c d σ H')) : wpAny (model X.prog X.w) X.A (call (.ref f) us) (EP X pins σ Q) X.xe s := by
  have hl : (us ++ []).length = ps.length := by rw [List.append_nil, ← r.length]; exact F.len _ _ _ _ h
  have hb' := hb s us I.kIn hl
  rw [List.append_nil] at hb'
  refine wpAny_call (codeAny_mono (F.run X.A X.stack s H ⟨us, []⟩ us vs Q _ hr hg I.env0 hb' r h) fun r s' hq => ?_)
  cases r with
  | error e => exact tk e s' (XE.of_call I (fun _ _ _ z => z) hq)
  | ok fl =>
    cases fl with
    | ret u => exact I.after hq
    | next => exact False.elim hq
    | brk => exact False.elim hq
    | cont => exact False.elim hq
theorem pe_callG {k : Nat} {f : Addr} {fd : FuncData} {ps : List Str} {sp : Sp} {n : Str} {p : Pos} {t : TA} (F : FnG X.prog X.w (kw X) X.mg X.base k f fd ps sp) (hr : Room k X.A) (hgu : X.A.guards = some []) (hg : Gl X n) (hm : X.mg n = some (.ref f)) (hk : PySem.W.keepIn (kw X) (.ref f) = true) (hb : Binds (kw X) fd ps []) (tk : Takes X wx)
    (ha : PA X (x :: xs) t) (hdb : (n == ("__debug__" : Str)) = false) (hst : noStars (x :: xs) = true) :
    PE X (.Call (.Name n p) (x :: xs) [] pos) (fun σ H Q => t σ H fun vs H1 => sp vs H1 Q (fun c d H' => wx c d σ H')) := by
  obtain ⟨h1, h2⟩ := Bool.and_eq_true_iff.mp (show (noStar x && noStars xs) = true from hst)
  refine ⟨fun pins s σ H Q I h => ?_⟩
  refine wpAny_Call_Name_kw (ld_glob I hg hm ?_ hdb)
  refine PySem.W.callWith_K (h₀ := X.base) I.ok.mod.kin hk (thn (ha.run pos pins s σ H _ I h) fun us s1 ⟨vs, H1, I1, r, q⟩ => ⟨I1.kIn, ?_⟩) (star_of h1) (back_of h2)
  exact run_fnG F hr hgu hb tk I1 r q
theorem pe_callG0 {k : Nat} {f : Addr} {fd : FuncData} {ps : List Str} {sp : Sp} {n : Str} {p : Pos} (F : FnG X.prog X.w (kw X) X.mg X.base k f fd ps sp) (hr : Room k X.A) (hgu : X.A.guards = some []) (hg : Gl X n) (hm : X.mg n = some (.ref f)) (hk : PySem.W.keepIn (kw X) (.ref f) = true) (hb : Binds (kw X) fd ps []) (tk : Takes X wx)
    (hdb : (n == ("__debug__" : Str)) = false) :
    PE X (.Call (.Name n p) [] [] pos) (fun σ H Q => sp [] H Q (fun c d H' => wx c d σ H')) := by
  refine ⟨fun pins s σ H Q I h => ?_⟩
  refine wpAny_Call_Name_kw (ld_glob I hg hm ?_ hdb)
  exact PySem.W.callWith_K0 I.kIn hk (run_fnG (us := []) F hr hgu hb tk I .nil h)
theorem StOk.dn {F : Addr → Prop} {β : List Addr} {B : Bs} {H : Hp} {st : Stt} (s : StOk K F β B H st) : StOk K F β B.dn H st := ⟨s.len, s.nd, s.nf, fun a h => s.ob a (h.elim (fun z => z) False.elim), s.ft, s.at_⟩
theorem StOk.up {F : Addr → Prop} {β : List Addr} {B : Bs} {H : Hp} {st : Stt} (s : StOk K F β B.dn H st) : StOk K F β B H st := ⟨s.len, s.nd, s.nf, fun a h => s.ob a (.inl h), s.ft, s.at_⟩
theorem Post.dn {F : Addr → Prop} {β : List Addr} {B : Bs} {H : Hp} {wx' : Value → Option Addr → Hp → Prop} {r : Res W} {Q : VK} (hp : ∀ w s, r = .ok w s → (∃ x, w = .d x) ∨ (∃ c, w = .new c) ∨ ∃ n, w = .loc n)
    (h : Post K mg β B (RR K β B) F H wx' r Q) : Post K mg β B.dn (RR K β B.dn) F H wx' r Q := by
  cases r with
  | bad => exact h
  | ex x st => exact fun c d F' H' e s r => h c d F' H' e s.up r
  | ok w st =>
    intro v F' H' e s ⟨r, f⟩
    refine h v F' H' e s.up ⟨?_, f⟩
    rcases hp w st rfl with ⟨x, rfl⟩ | ⟨c, rfl⟩ | ⟨n, rfl⟩ <;> exact r
theorem sp_call {es : Es} {f : Nat} (S : Side X Φ T wx) {σ : L2.St} {H : Hp} {Q : VK} (h : tEs X Φ wx (.cal n f es) σ H Q) : tEss X Φ wx es σ H fun vs H1 => spOf (kw X) X.mg (Φ f) vs H1 Q (fun c d H' => wx c d σ H') := by
  obtain ⟨F, β, B, ρ, st, R, h⟩ := h
  unfold sem at h
  refine ⟨F, β, B, ρ, st, R, (Post.step back_RR h).imp fun vs H1 ⟨ws, st1, F1, e1, s1, rv, h⟩ => ?_⟩
  rw [ofO_bind] at h
  split at h
  · rename_i as e
    refine ⟨frzF F1 β H H1, β, B.u, as, st1, (frz_st (hB_of R) s1).dn, RL.args rv e, ?_⟩
    exact Post.dn (fun w s q => S.pl _ _ _ _ _ q) (h.later back_RR (frz_ext e1))
  · exact h.elim
theorem e_cal {f : Nat} {n : Str} {p : Pos} (S : Side X Φ T wx) (hf : (n, f) ∈ T.fn) (hg : Gl X n) (hd : (n == ("__debug__" : Str)) = false) (ha : PA X xs (tEss X Φ wx es)) (hst : noStars xs = true) (hne : xs.isEmpty = false) : PE X (.Call (.Name n p) xs [] pos) (tEs X Φ wx (.cal n f es)) := by
  obtain ⟨ad, fd, ps, k, F, hr, hm, hk, hb⟩ := S.fn n f hf
  cases xs with
  | nil => cases hne
  | cons x xs => exact PE.imp (pe_callG F hr S.gu hg hm hk hb S.tk ha hd hst) fun σ H Q h => sp_call S h
theorem e_cal0 {f : Nat} {n : Str} {p : Pos} (S : Side X Φ T wx) (hf : (n, f) ∈ T.fn) (hg : Gl X n) (hd : (n == ("__debug__" : Str)) = false) : PE X (.Call (.Name n p) [] [] pos) (tEs X Φ wx (.cal n f .nil)) := by
  obtain ⟨ad, fd, ps, k, F, hr, hm, hk, hb⟩ := S.fn n f hf
  refine PE.imp (pe_callG0 F hr S.gu hg hm hk hb S.tk hd) fun σ H Q ⟨F, β, B, ρ, st, R, h⟩ => ?_
  unfold sem sems at h
  exact ⟨F, β, B.u, [], st, R.st.dn, .nil, Post.dn (fun w s q => S.pl _ _ _ _ _ q) h⟩
theorem tblF_mem {tb : List (Str × Nat)} {n : Str} {g : Nat} (h : tblF tb n = some g) : (n, g) ∈ tb := by
  unfold tblF at h
  obtain ⟨p, h1, h2⟩ := Option.map_eq_some_iff.mp h
  have h3 := List.find?_some h1
  have h4 := List.mem_of_find?_eq_some h1
  obtain ⟨m, k⟩ := p
  have h3 : m = n := eq_of_beq h3
  cases h2
  cases h3
  exact h4
/-- a call of a def that a name of the frame holds -/
theorem e_cav {i : Nat} {tb : List (Str × Nat)} {n : Str} {p : Pos} (S : Side X Φ T wx) (hf : ∀ q ∈ tb, q ∈ T.fn) (hN : X.N[i]? = some n) (hv : Vis X.env.scope n) (hd : (n == ("__debug__" : Str)) = false) (hcd : (n == ("__classdict__" : Str)) = false) (ha : PA X (x :: xs) (tEss X Φ wx es)) (hst : noStars (x :: xs) = true) : PE X (.Call (.Name n p) (x :: xs) [] pos) (tEs X Φ wx (.cav i tb es)) := by
  obtain ⟨h1, h2⟩ := Bool.and_eq_true_iff.mp (show (noStar x && noStars xs) = true from hst)
  refine ⟨fun pins s σ H Q I h => ?_⟩
  obtain ⟨F0, β, B, ρ, st, R, h⟩ := h
  unfold sem at h
  cases q : ρ[i]? with
  | none => rw [q] at h; exact h.elim
  | some o =>
    cases o with
    | none => rw [q] at h; exact h.elim
    | some w =>
      cases w with
      | fn m =>
        rw [q] at h
        dsimp only at h
        cases hg : tblF tb m with
        | none => rw [hg] at h; exact h.elim
        | some g =>
          rw [hg] at h
          dsimp only at h
          obtain ⟨v, e1, a, rfl, em⟩ := R.slot i _ q
          obtain ⟨ad, fd, ps, k, F, hr, hm, hk, hb⟩ := S.fn m g (hf _ (tblF_mem hg))
          have ea : a = ad := by
            have := em.symm.trans hm
            cases this
            rfl
          subst ea
          have hc : tEs X Φ wx (.cal m g es) σ H Q := ⟨F0, β, B, ρ, st, R, by unfold sem; exact h⟩
          have hs := sp_call S hc
          refine wpAny_Call_Name_kw (thn ((pe_var (pos := p) hN hv hd hcd).run pins s σ H (fun v H1 => v = .ref a ∧ H1 = H) I ⟨.ref a, e1, rfl, rfl⟩) fun u s1 ⟨v, H1, I1, r1, q1⟩ => ?_)
          obtain ⟨rfl, rfl⟩ := q1
          cases r1
          refine PySem.W.callWith_K (h₀ := X.base) I.ok.mod.kin hk (thn (ha.run pos pins s1 σ _ _ I1 hs) fun us s2 ⟨vs, H2, I2, r, q⟩ => ⟨I2.kIn, ?_⟩) (star_of h1) (back_of h2)
          exact run_fnG F hr S.gu hb S.tk I2 r q
      | _ => rw [q] at h; exact h.elim
theorem e_bif {bf : BF} {n : Str} {p : Pos} (S : Side X Φ T wx) (hn : n = bname bf) (ht : n ∈ T.ab) (hg : Gl X n) (ha : PA X (x :: xs) (tEss X Φ wx es)) (hst : noStars (x :: xs) = true) : PE X (.Call (.Name n p) (x :: xs) [] pos) (tEs X Φ wx (.bif bf es)) := by
  obtain ⟨h1, h2⟩ := Bool.and_eq_true_iff.mp (show (noStar x && noStars xs) = true from hst)
  obtain ⟨r, hr, hk⟩ := bf_ok (X := X) S.calm S.gu S.un bf
  have hm := S.ab n ht
  subst hn
  have key : PE X (.Call (.Name (bname bf) p) (x :: xs) [] pos) (tCB r (tEss X Φ wx es)) := by
    have hv := bval_boot bf
    obtain ⟨n1, n2⟩ := bname_ok bf
    cases bf with
    | tuple => exact pe_callTy (T := "tuple") hr hg hm hv ha n1 n2 (star_of h1) (back_of h2)
    | list => exact pe_callTy (T := "list") hr hg hm hv ha n1 n2 (star_of h1) (back_of h2)
    | str => exact pe_callTy (T := "str") hr hg hm hv ha n1 n2 (star_of h1) (back_of h2)
    | int => exact pe_callTy (T := "int") hr hg hm hv ha n1 n2 (star_of h1) (back_of h2)
    | dict => exact pe_callTy (T := "dict") hr hg hm hv ha n1 n2 (star_of h1) (back_of h2)
    | _ => exact pe_callB hr hg hm hv ha n1 n2 (star_of h1) (back_of h2)
  refine PE.imp key fun σ H Q ⟨F, β, B, ρ, st, R, h⟩ => ?_
  unfold sem at h
  refine step_a R back_RR h fun ws st1 F1 vs H1 e1 R1 rv h => ?_
  obtain ⟨w, e, h⟩ := Post.ofO h
  obtain ⟨ds, h3, h4⟩ := Option.bind_eq_some_iff.mp e
  exact hk F1 β B st1 H1 _ _ Q vs ds w R1.st (RL.rdps R1.st rv h3) h4 h
theorem e_isi {t : Ty} {n m : Str} {p pn : Pos} (S : Side X Φ T wx) (hn : n = "isinstance") (ht : n ∈ T.ab) (hg : Gl X n) (hm : m = tyn t) (hmt : m ∈ T.ab) (hgm : Gl X m) (ha : PE X a (tEs X Φ wx ea)) (hst : noStar a = true) : PE X (.Call (.Name n p) [a, .Name m pn] [] pos) (tEs X Φ wx (.isi ea t)) := by
  have hmn := S.ab n ht
  have hmm := S.ab m hmt
  subst hn hm
  obtain ⟨n1, n2⟩ := tyn_ok t
  have hb : PE X (.Name (tyn t) pn) (tC (.ty (tyS t))) := pe_bltn hgm hmm (tyn_boot t) rfl n1 n2
  have key := pe_callB (pos := pos) (p := p) call_isi hg hmn (by first | rfl | kernel_rfl) (pa_cons ha (pa_cons hb pa_nil (by rfl)) (star_of hst)) (by decide +kernel) (by decide +kernel) (star_of hst) (by rfl)
  refine PE.imp key fun σ H Q ⟨F, β, B, ρ, st, R, h⟩ => ?_
  unfold sem at h
  refine step_e R back_RR h fun w st1 F1 v H1 e1 R1 rv h => ?_
  obtain ⟨d, z, h1, h2, h⟩ := rd1_of h
  obtain ⟨bb, h3, rfl⟩ := toB_of h2
  have hnd : ∀ kvs, d ≠ .dict kvs := fun kvs ek => by
    subst ek
    cases t <;> cases h3
  exact ⟨v, _, _, _, bb, rfl, .ty _, ok_cls hnd (rv.1.rdp R1.st h1), kit_is (kw X) d t bb h3, fin_d R1.st h (.bl _)⟩
/-! ### dicts -/
theorem e_dnew : PE X (.Dict [] [] pos) (tEs X Φ wx .dnew) := PE.imp pe_dnewN fun σ H Q ⟨F, β, B, ρ, st, R, h⟩ => by
  unfold sem at h
  exact fun p hp => fin_dct R.st h .nil hp
/-- a is a dict -/
def IsDN (K : KW) (H : Hp) (a : Addr) : Prop := ∃ es, H a = some (dctO K.w a es)
theorem isDN_at {pins : List (Addr × Obj)} {σ : L2.St} {H : Hp} {s : Shared} {a : Addr} (I : Inv X pins σ H s) (d : IsDN (kw X) H a) : s.TypeIs (.ref a) "dict" ∧ ∀ b, Value.ref a = .ref b → ∃ ob, s.heap.get? b = some ob ∧ ob.dict = none := by
  obtain ⟨es, e⟩ := d
  have hO : ObjOk X.prog X.w H s.heap a (dctO X.w a es) := I.hok a _ e
  obtain ⟨⟨hd, hl, xs, hp, o, ds, ep, h1, h2, h3, h4, h5⟩, _, _⟩ := hO
  exact ⟨⟨o, h1, h2.1⟩, fun b q => by cases q; exact ⟨o, h1, h2.2.1⟩⟩
def tGetA (K : KW) (td ty : TE) : TE := fun σ H Q => td σ H fun x H1 => ∃ a, x = .ref a ∧ IsDN K H1 a ∧ ty σ H1 fun y H2 => ∃ F b kvs k, y = .ref b ∧ DAt K F H2 a b kvs k ∧ (∀ d v, getP kvs k = some d → Rp K F H2 v d → Q v H2) ∧ (getP kvs k = none → Q .non H2)
def tGetB (K : KW) (td ty tz : TE) : TE := fun σ H Q => td σ H fun x H1 => ∃ a, x = .ref a ∧ IsDN K H1 a ∧ ty σ H1 fun y H2 => tz σ H2 fun z H3 => ∃ F b kvs k, y = .ref b ∧ DAt K F H3 a b kvs k ∧ (∀ d v, getP kvs k = some d → Rp K F H3 v d → Q v H3) ∧ (getP kvs k = none → Q z H3)
theorem get_core {pins : List (Addr × Obj)} {σ : L2.St} {H : Hp} {s : Shared} {F : Addr → Prop} {a b : Addr} {kvs : List (PyData × PyData)} {k : PyData} {Q : VK} {z : V} {u : Value} (hu : X.A.units + 65 < cLine) (I : Inv X pins σ H s) (g : DAt (kw X) F H a b kvs k) (rz : RelV z u)
    (h1 : ∀ d v, getP kvs k = some d → Rp (kw X) F H v d → Q v H) (h2 : getP kvs k = none → Q z H) : ∃ xs, (a == sysModules) = false ∧ s.heap.DictKeyed (nestedKind X.prog X.w) a xs ∧ (nestedKind X.prog X.w).is s.heap (nk k) b ∧ ∀ t, EP X pins σ Q ((valueAt xs (nk k)).getD u) { s with toks := t } := by
  obtain ⟨es, e1, e2, e3, e4⟩ := g
  obtain ⟨hd, hl, xs, hp, hm⟩ := dct_of I e1 e2
  refine ⟨_, hd, ⟨xs, hm, rfl⟩, key_is I e3 e4, fun t => ?_⟩
  rw [valueAt_pairsH]
  rcases getP_rel e2 hp k with ⟨d, p, v, q1, q2, q3, q4⟩ | ⟨q1, q2⟩
  · rw [q2]
    exact ⟨v, H, I.tok _, q3, h1 d v q1 q4⟩
  · rw [q2]
    exact ⟨z, H, I.tok _, rz, h2 q1⟩
theorem pe_getA {td ty : TE} {apos : Pos} (hu : X.A.units + 65 < cLine) (ho : PE X a td) (he : PE X b ty) (m : M1 X a "get" apos b pos) : PE X (.Call (.Attribute a "get" apos) [b] [] pos) (tGetA (kw X) td ty) := by
  refine ⟨fun pins s σ H Q I h => ?_⟩
  refine wpAny_Call_method m.base m.few m.line PySem.F.plainAttrs_dict PySem.F.slot_dict_get PySem.F.type_dict_get (thn (ho.run pins s σ H _ I h) fun u s1 ⟨x, H1, I1, rx, ad, ex, d, q1⟩ => ?_)
  subst ex
  cases rx
  obtain ⟨t1, t2⟩ := isDN_at I1 d
  refine ⟨t1, t2, ?_⟩
  rw [m.trees]
  refine Calls.callWith_builtin rfl (Calls.evalArgs_plain (Calls.spliced_cons (thn (he.run pins s1 σ H1 _ I1 q1) fun iv s2 ⟨y, H2, I2, ry, F, bd, kvs, k, ey, g, g1, g2⟩ => Calls.spliced_nil ?_)))
  subst ey
  cases ry
  obtain ⟨xs, c1, c2, c3, c4⟩ := get_core (z := .non) hu I2 g (show RelV .non .none from rfl) g1 g2
  exact get_keyed (room_n hu) c3 c1 c2 (c4 _)
theorem pe_getB {td ty tz : TE} {apos : Pos} (hu : X.A.units + 65 < cLine) (ho : PE X a td) (he : PE X b ty) (hz : PE X c tz) (m : M2 X a "get" apos b c pos) : PE X (.Call (.Attribute a "get" apos) [b, c] [] pos) (tGetB (kw X) td ty tz) := by
  refine ⟨fun pins s σ H Q I h => ?_⟩
  refine wpAny_Call_method m.base m.few m.line PySem.F.plainAttrs_dict PySem.F.slot_dict_get PySem.F.type_dict_get (thn (ho.run pins s σ H _ I h) fun u s1 ⟨x, H1, I1, rx, ad, ex, d, q1⟩ => ?_)
  subst ex
  cases rx
  obtain ⟨t1, t2⟩ := isDN_at I1 d
  refine ⟨t1, t2, ?_⟩
  rw [m.trees]
  refine Calls.callWith_builtin rfl (Calls.evalArgs_plain (Calls.spliced_cons (thn (he.run pins s1 σ H1 _ I1 q1) fun iv s2 ⟨y, H2, I2, ry, q2⟩ => Calls.spliced_cons (thn (hz.run pins s2 σ H2 _ I2 q2) fun zv s3 ⟨z, H3, I3, rz, F, bd, kvs, k, ey, g, g1, g2⟩ => Calls.spliced_nil ?_))))
  subst ey
  cases ry
  obtain ⟨xs, c1, c2, c3, c4⟩ := get_core (z := z) hu I3 g rz g1 g2
  exact getOr_keyed (room_n hu) c3 c1 c2 (c4 _)
theorem getW_of {x y : W} {st : Stt} {z : Option PyData} {w : W} (e : getW x y st z = some w) : ∃ kvs k z', x.rd st = some (.dict kvs) ∧ y.rd st = some k ∧ z = some z' ∧ keyOk k = true ∧ w = .d ((getP kvs k).getD z') := by
  unfold getW at e
  split at e
  · rename_i kvs k z' e1 e2
    split at e
    · rename_i hk
      cases e
      exact ⟨kvs, k, z', e1, e2, rfl, hk, rfl⟩
    · cases e
  · cases e
theorem e_get1 {apos : Pos} {nm : Str} (S : Side X Φ T wx) (hnm : nm = "get") (ha : PE X a (tEs X Φ wx ea)) (hb : PE X b (tEs X Φ wx eb)) (hs : noStar b = true) (ho : plainO a = true) (hline : (apos.endLine == pos.line) = true) : PE X (.Call (.Attribute a nm apos) [b] [] pos) (tEs X Φ wx (.get1 ea eb)) := by
  subst hnm
  refine PE.imp (pe_getA (by have := S.un; omega) ha hb ⟨attr_plain ho, by rw [star_of hs]; rfl, hline, by rw [star_of hs]; rfl⟩) fun σ H Q ⟨F, β, B, ρ, st, R, h⟩ => ?_
  unfold sem at h
  refine step_e R back_RR h fun w st1 F1 v H1 e1 R1 rv h => ?_
  unfold dctIn at h
  split at h
  · rename_i kvs0 eq
    obtain ⟨ad, es, rfl, g1, g2⟩ := (rv.1.rdp R1.st eq).dict
    refine ⟨ad, rfl, ⟨es, g1⟩, step_e R1 back_RR h fun u st2 F2 y H2 e2 R2 ry h => ?_⟩
    obtain ⟨z, ez, h⟩ := Post.ofO h
    obtain ⟨kvs, k, z', q1, q2, q3, q4, rfl⟩ := getW_of ez
    cases q3
    obtain ⟨a', b', e3, rfl, hd⟩ := dat_of q4 ((rv.1.keep e2 R1.st).rdp R2.st q1) (ry.1.rdp R2.st q2)
    cases e3
    refine ⟨F2, b', kvs, k, rfl, hd, fun d v ed rv => ?_, fun ed => ?_⟩
    · rw [ed] at h
      exact fin_d R2.st h rv
    · rw [ed] at h
      exact fin_d R2.st h .non
  · exact h.elim
theorem e_get2 {apos : Pos} {nm : Str} (S : Side X Φ T wx) (hnm : nm = "get") (ha : PE X a (tEs X Φ wx ea)) (hb : PE X b (tEs X Φ wx eb)) (hc : PE X c (tEs X Φ wx ec)) (hs : noStar b = true) (hs2 : noStar c = true) (ho : plainO a = true) (hline : (apos.endLine == pos.line) = true) : PE X (.Call (.Attribute a nm apos) [b, c] [] pos) (tEs X Φ wx (.get2 ea eb ec)) := by
  subst hnm
  refine PE.imp (pe_getB (by have := S.un; omega) ha hb hc ⟨attr_plain ho, by rw [star_of hs, star_of hs2]; rfl, hline, by rw [star_of hs, star_of hs2]; rfl⟩) fun σ H Q ⟨F, β, B, ρ, st, R, h⟩ => ?_
  unfold sem at h
  refine step_e R back_RR h fun w st1 F1 v H1 e1 R1 rv h => ?_
  unfold dctIn at h
  split at h
  · rename_i kvs0 eq
    obtain ⟨ad, es, rfl, g1, g2⟩ := (rv.1.rdp R1.st eq).dict
    refine ⟨ad, rfl, ⟨es, g1⟩, step_e R1 back_RR h fun u st2 F2 y H2 e2 R2 ry h => ?_⟩
    refine ⟨F2, β, B, ρ, st2, R2, (Post.step back_RR h).imp fun vz H3 ⟨wz, st3, F3, e3, s3, rz, h⟩ => ?_⟩
    have ef := frz_ext e3
    have sf := frz_st (hB_of R2) s3
    have h := h.later back_RR ef
    obtain ⟨z, ez, h⟩ := Post.ofO h
    obtain ⟨kvs, k, z', q1, q2, q3, q4, rfl⟩ := getW_of ez
    obtain ⟨a', b', e4, rfl, hd⟩ := dat_of q4 (((rv.1.keep e2 R1.st).keep ef R2.st).rdp sf q1) ((ry.1.keep ef R2.st).rdp sf q2)
    cases e4
    refine ⟨_, b', kvs, k, rfl, hd, fun d v ed rv => ?_, fun ed => ?_⟩
    · rw [ed] at h
      exact fin_d sf h rv
    · rw [ed] at h
      exact fin_d sf h (rz.py q3)
  · exact h.elim
theorem e_join {apos : Pos} {nm : Str} (hnm : nm = "join") (ha : PE X a (tEs X Φ wx ea)) (hb : PE X b (tEs X Φ wx eb)) (hs : noStar b = true) (ho : plainO a = true) (hline : (apos.endLine == pos.line) = true) : PE X (.Call (.Attribute a nm apos) [b] [] pos) (tEs X Φ wx (.mth .join ea (.cons eb .nil))) := by
  subst hnm
  refine PE.imp (pe_join ha hb (by rw [star_of hs]; rfl) (attr_plain ho) hline) fun σ H Q ⟨F, β, B, ρ, st, R, h⟩ => ?_
  unfold sem sems sems at h
  simp only [Res.bind_assoc, Res.bind_ok] at h
  refine ⟨F, β, B, ρ, st, R, (Post.step back_RR h).imp fun v H1 ⟨w, st1, F1, e1, s1, rv, h⟩ => ?_⟩
  have R1 := R.ext e1 s1
  unfold ssel at h
  split at h
  · rename_i sep
    have hv := rv.1
    cases hv
    refine ⟨⟨sep, rfl⟩, ⟨F1, β, B, ρ, st1, R1, (Post.stepX h e1).imp fun y H2 ⟨u, st2, F2, e2, s2, ry, h⟩ => ?_⟩⟩
    obtain ⟨z, e, h⟩ := Post.ofO h
    obtain ⟨dl, h3, h4⟩ := Option.bind_eq_some_iff.mp e
    obtain ⟨dz, h5, h6⟩ := Option.bind_eq_some_iff.mp (show (u.rd st2).bind _ = some dl from h3)
    obtain ⟨dr, h7, rfl⟩ := Option.map_eq_some_iff.mp h6
    cases h7
    cases dz with
    | list ds =>
      obtain ⟨ys, h8, h9⟩ := Option.bind_eq_some_iff.mp (show (allS ds).bind _ = some z from h4)
      split at h9
      · rename_i hz
        cases h9
        obtain ⟨la, lvs, rfl, h10, h11⟩ := (ry.1.rdp s2 h5).list
        cases h11.strs h8
        exact ⟨sep, la, ys, rfl, rfl, .inl (.inl h10), hz, fin_d s2 (h.later back_RR (e1.trans e2)) (.str _)⟩
      · cases h9
    | _ => cases h4
  · exact h.elim
theorem strs_rp {K : KW} {F : Addr → Prop} {H : Hp} : ∀ ys : List Str, RpAll K F H (ys.map V.str) (ys.map PyData.str)
  | [] => .nil
  | y :: ys => .cons (.str y) (strs_rp ys)
theorem e_split {apos : Pos} {nm : Str} (hnm : nm = "split") (ha : PE X a (tEs X Φ wx ea)) (hb : PE X b (tEs X Φ wx eb)) (hs : noStar b = true) (ho : plainO a = true) (hline : (apos.endLine == pos.line) = true) : PE X (.Call (.Attribute a nm apos) [b] [] pos) (tEs X Φ wx (.mth .split ea (.cons eb .nil))) := by
  subst hnm
  refine PE.imp (pe_split ha hb (by rw [star_of hs]; rfl) (attr_plain ho) hline) fun σ H Q ⟨F, β, B, ρ, st, R, h⟩ => ?_
  unfold sem sems sems at h
  simp only [Res.bind_assoc, Res.bind_ok] at h
  refine ⟨F, β, B, ρ, st, R, (Post.step back_RR h).imp fun v H1 ⟨w, st1, F1, e1, s1, rv, h⟩ => ?_⟩
  have R1 := R.ext e1 s1
  unfold ssel at h
  split at h
  · rename_i sep
    have hv := rv.1
    cases hv
    refine ⟨⟨sep, rfl⟩, ⟨F1, β, B, ρ, st1, R1, (Post.stepX h e1).imp fun y H2 ⟨u, st2, F2, e2, s2, ry, h⟩ => ?_⟩⟩
    obtain ⟨z, e, h⟩ := Post.ofO h
    obtain ⟨dl, h3, h4⟩ := Option.bind_eq_some_iff.mp e
    obtain ⟨dz, h5, h6⟩ := Option.bind_eq_some_iff.mp (show (u.rd st2).bind _ = some dl from h3)
    obtain ⟨dr, h7, rfl⟩ := Option.map_eq_some_iff.mp h6
    cases h7
    cases dz with
    | str b =>
      have h4 : (if (b.length == 0) = false ∧ sep.length + 2 ≤ lineN then some (W.new (.lst ((Txt.split sep b).map PyData.str))) else none) = some z := h4
      split at h4
      · rename_i hz
        cases h4
        cases (ry.1.rdp s2 h5).str
        exact ⟨sep, b, rfl, rfl, hz.1, hz.2, fun p hp => fin_new s2 (h.later back_RR (e1.trans e2)) (strs_rp _) hp⟩
      · cases h4
    | _ => cases h4
  · exact h.elim
end
end Gm

/-! The deep layer, part S4: sorted(set(list of keys)). -/
namespace Gm
open PySem PySem.Spec PyProof.Rows L2
/-! ### the order of distinct keys -/
theorem le_tot : PySem.W.TotalLe (PySem.W.dataLe false (id : PyData → PyData)) := by
  have e : ∀ a b : PyData, PySem.W.dataLe false id a b = !PySem.W.dataLt b a := fun a b => rfl
  have tr := @lex_trans itemOrd
  have ng := @lex_negTrans itemOrd
  refine ⟨fun a b c h1 h2 => ?_, fun a b => ?_⟩
  · rw [e, Bool.not_eq_true'] at h1 h2 ⊢
    cases h : PySem.W.dataLt c a with
    | false => rfl
    | true =>
      rcases ng _ (PySem.W.keyToks b) _ h with z | z
      · exact absurd ((show PySem.W.dataLt c b = true from z).symm.trans h2) (by decide)
      · exact absurd ((show PySem.W.dataLt b a = true from z).symm.trans h1) (by decide)
  · rw [e, e]
    cases h : PySem.W.dataLt b a with
    | false => exact .inl rfl
    | true =>
      refine .inr ?_
      cases h2 : PySem.W.dataLt a b with
      | false => rfl
      | true =>
        have z := tr _ _ _ h h2
        rw [lex_irrefl] at z
        cases z
theorem toks_same {x y : PyData} (h : PySem.W.alike x y = true) (e : PySem.W.keyToks x = PySem.W.keyToks y) : PyData.eqv x y = true := by
  cases q : PyData.eqv x y with
  | true => rfl
  | false =>
    have z := (PySem.W.toks_eqv x y h).2 q [] [.inl 0]
    rw [e, PySem.W.lex_pre, lex_irrefl] at z
    exact absurd (show true = false from z) (by decide)
mutual
theorem nk_eqv : ∀ x y : PyData, keyB x = true → keyB y = true → PySem.W.alike x y = true → PyData.eqv x y = true → nk x = nk y
  | .none, y, _, _, h, _ => by cases y <;> first | rfl | (simp [PySem.W.alike] at h)
  | .bool a, y, _, _, h, e => by
    cases y with
    | bool c =>
      have e' : a = c := by simpa [PyData.eqv] using e
      rw [e']
    | _ => simp [PySem.W.alike] at h
  | .int a, y, _, _, h, e => by
    cases y with
    | int c =>
      have e' : a = c := by simpa [PyData.eqv] using e
      rw [e']
    | _ => simp [PySem.W.alike] at h
  | .str a, y, _, _, h, e => by
    cases y with
    | str c =>
      have e' : a = c := by simpa [PyData.eqv] using e
      rw [e']
    | _ => simp [PySem.W.alike] at h
  | .tuple xs, y, h1, h2, h, e => by
    cases y with
    | tuple ys =>
      simp only [nk]
      rw [nks_eqv xs ys h1 h2 (by simpa [PySem.W.alike] using h) (by simpa [PyData.eqv] using e)]
    | _ => simp [PySem.W.alike] at h
  | .list _, _, h1, _, _, _ => by cases h1
  | .dict _, _, h1, _, _, _ => by cases h1
theorem nks_eqv : ∀ xs ys : List PyData, keyBs xs = true → keyBs ys = true → PySem.W.alikeAll xs ys = true → PyData.eqvAll xs ys = true → nks xs = nks ys
  | [], [], _, _, _, _ => rfl
  | [], _ :: _, _, _, _, e => by simp [PyData.eqvAll] at e
  | _ :: _, [], _, _, _, e => by simp [PyData.eqvAll] at e
  | x :: xs, y :: ys, h1, h2, h, e => by
    simp only [keyBs, Bool.and_eq_true] at h1 h2
    obtain ⟨a1, a2⟩ := PySem.W.alike_all_cons h
    rw [PySem.W.eqv_all_cons, Bool.and_eq_true] at e
    simp only [nks]
    rw [nk_eqv x y h1.1 h2.1 a1 e.1, nks_eqv xs ys h1.2 h2.2 a2 e.2]
end
theorem nodup_inj {xs : List PyData} (hn : (xs.map nk).Nodup) : ∀ {a b : PyData}, a ∈ xs → b ∈ xs → nk a = nk b → a = b := by
  induction xs with
  | nil => intro a b h; cases h
  | cons x xs ih =>
    rw [List.map_cons] at hn
    obtain ⟨n1, n2⟩ := List.nodup_cons.mp hn
    intro a b ha hb e
    rcases List.mem_cons.mp ha with ea | ma
    · rcases List.mem_cons.mp hb with eb | mb
      · rw [ea, eb]
      · exact absurd (List.mem_map.mpr ⟨b, mb, by rw [← ea]; exact e.symm⟩) n1
    · rcases List.mem_cons.mp hb with eb | mb
      · exact absurd (List.mem_map.mpr ⟨a, ma, by rw [← eb]; exact e⟩) n1
      · exact ih n2 ma mb e
theorem alikes_sub {xs ys : List PyData} (h : alikes xs = true) (hs : ∀ y ∈ ys, y ∈ xs) : alikes ys = true := by
  have a := alikes_of h
  unfold alikes
  rw [List.all_eq_true]
  intro x hx
  rw [List.all_eq_true]
  exact fun y hy => a x (hs x hx) y (hs y hy)
theorem sortD_perm {xs ys : List PyData} (p : xs.Perm ys) (ha : alikes xs = true) (hk : ∀ x ∈ xs, keyB x = true) (hn : (xs.map nk).Nodup) : sortD xs = sortD ys := by
  have q1 : (sortD xs).Perm xs := List.mergeSort_perm _ _
  have q2 : (sortD ys).Perm ys := List.mergeSort_perm _ _
  refine List.Perm.eq_of_pairwise (le := fun a b => PySem.W.dataLe false id a b = true) (fun a b h1 h2 l1 l2 => ?_) (PySem.W.sort_pairwise le_tot xs) (PySem.W.sort_pairwise le_tot ys) (q1.trans (p.trans q2.symm))
  have m1 : a ∈ xs := q1.mem_iff.mp h1
  have m2 : b ∈ xs := p.mem_iff.mpr (q2.mem_iff.mp h2)
  refine nodup_inj hn m1 m2 ?_
  have al := alikes_of ha a m1 b m2
  refine nk_eqv a b (hk a m1) (hk b m2) al (toks_same al ?_)
  have l1' : (!PySem.W.dataLt b a) = true := l1
  have l2' : (!PySem.W.dataLt a b) = true := l2
  rw [Bool.not_eq_true'] at l1' l2'
  exact @lex_total itemOrd _ _ l2' l1'
theorem addK_map (acc : List (Value × PyData)) (p : Value × PyData) : (addK acc p).map (·.2) = addD0 (acc.map (·.2)) p.2 := by
  have e : Kk acc = (acc.map (·.2)).map nk := by rw [List.map_map]; rfl
  unfold addK addD0
  rw [e]
  split
  · rfl
  · rw [List.map_append]; rfl
theorem ddV_map (ks : List (Value × PyData)) : (ddV ks).map (·.2) = setD (ks.map (·.2)) := by
  have key : ∀ (ks acc : List (Value × PyData)), (ks.foldl addK acc).map (·.2) = (ks.map (·.2)).foldl addD0 (acc.map (·.2)) := by
    intro ks
    induction ks with
    | nil => exact fun acc => rfl
    | cons k ks ih =>
      intro acc
      rw [List.foldl_cons, List.map_cons, List.foldl_cons, ih, addK_map]
  exact key ks []
theorem each_map {α β : Type} {R : α → β → Prop} : ∀ {L : List (α × β)}, (∀ p ∈ L, R p.1 p.2) → PySem.W.EachIs R (L.map (·.1)) (L.map (·.2))
  | [], _ => .nil
  | p :: L, h => .cons (h p List.mem_cons_self) (each_map fun q hq => h q (List.mem_cons_of_mem _ hq))
theorem each_zip {α β : Type} {R : α → β → Prop} : ∀ {us : List α} {ds : List β}, PySem.W.EachIs R us ds → ∃ L : List (α × β), L.map (·.1) = us ∧ L.map (·.2) = ds ∧ ∀ p ∈ L, R p.1 p.2
  | _, _, .nil => ⟨[], rfl, rfl, fun p h => by cases h⟩
  | _, _, @PySem.W.EachIs.cons _ _ _ u d _ _ h t => by
    obtain ⟨L, e1, e2, e3⟩ := each_zip t
    refine ⟨(u, d) :: L, by rw [List.map_cons, e1], by rw [List.map_cons, e2], fun p hp => ?_⟩
    rcases List.mem_cons.mp hp with rfl | hp
    · exact h
    · exact e3 p hp
section
variable {P : Program} {w : World} {A : Around} {E : Value → Shared → Prop} {s : Shared} {b : Bool} {a : Addr} {L ks : List (Value × PyData)} {es : Array (Int × Value)} {ep : Nat} {t : SetTable}
/-- sorted(set of keys) -/
theorem sort_of_set (R : SetN b w s.heap a L es ep t) (hh : A.handled = none) (hp : L.Perm (ddV ks)) (RV : Value → PyData → Prop) (hR : ∀ p ∈ ks, RV p.1 p.2) (hrd : ∀ p ∈ ks, ∃ as, Reads s.heap p.1 p.2 as) (hk : ∀ p ∈ ks, keyB p.2 = true)
    (hso : sortOk (ks.map (·.2)) = true) (hu : A.units + 65 < cLine) {Q : Value → Shared → Prop}
    (hQ : ∀ s' p out c, (∀ c o, s.heap.get? c = some o → s'.heap.get? c = some o) → s'.gens = s.gens → s'.os = s.os → s.heap.objs.size ≤ p → s'.heap.get? p = some (seqObj "list" (List.toArray out) c) → PySem.W.EachIs RV out (sortD (setD (ks.map (·.2)))) → Q (.ref p) s') :
    wpAny (model P w) A (call (.builtin "sorted") [.ref a]) Q E s := by
  obtain ⟨o, ho, hex, hd⟩ := R.ob
  have hsz := R.size
  have few := R.few
  have sub : ∀ q ∈ L, q ∈ ks := fun q hq => ddV_sub _ q (hp.mem_iff.mp hq)
  refine Calls.call_function_entry PyProof.Rows.kind_sorted PyProof.Rows.plain_sorted PyProof.Rows.entry_sorted (PyProof.Rows.args_sorted1 _) ?_
  unfold Builtin.«sorted»
  refine wpAny_bind (m := checkCount "sorted" 1 1 _) (wpAny_pure ?_)
  refine wpAny_bind (collect_set (A := A.in1) hh ⟨o, ho, hex.1, hd⟩ R.fit (by rw [hsz]; unfold scanBound; omega) R.ris R.led fun z vs k1 hz g1 o1 pm => ?_)
  have hes : es.toList.map (·.2) = L.map (·.1) := by
    rw [R.rows]
    unfold Rw
    rw [List.map_map]
    rfl
  rw [hes] at pm
  obtain ⟨L2, p2, e2⟩ := lift_perm (fun q : Value × PyData => q.1) pm L rfl
  subst e2
  have sub2 : ∀ q ∈ L2, q ∈ ks := fun q hq => sub q (p2.mem_iff.mp hq)
  have hl2 : L2.length < 64 := by rw [p2.length_eq]; exact few
  refine wpAny_bind (wpAny_newList ?_ (by rw [List.length_map, sizeLine_eq]; omega))
  have hoL : (z.heap.push (seqObj "list" (L2.map (·.1)).toArray 0)).get? z.heap.objs.size = some (seqObj "list" (L2.map (·.1)).toArray 0) := Heap.get?_push_size _ rfl
  obtain ⟨g2, g3, g4⟩ := sortOk_of hso
  have mem2 : ∀ d ∈ L2.map (·.2), d ∈ ks.map (·.2) := fun d hd => by
    obtain ⟨q, hq, e⟩ := List.mem_map.mp hd
    exact List.mem_map.mpr ⟨q, sub2 q hq, e⟩
  have al : PySem.W.AllAlike ((L2.map (·.2)).map id) := by
    rw [List.map_id]
    exact fun d hd d' hd' => g2 d (mem2 d hd) d' (mem2 d' hd')
  have so : PySem.W.Sortable ((L2.map (·.2)).map id) := by
    rw [List.map_id]
    rcases g3 with g3 | g3
    · exact .inl fun d hd => g3 d (mem2 d hd)
    · exact .inr fun d hd => g3 d (mem2 d hd)
  have er : PySem.W.EachIs (fun v d => ∃ as, Reads (z.heap.push (seqObj "list" (L2.map (·.1)).toArray 0)) v (id d) as ∧ z.heap.objs.size ∉ as) (L2.map (·.1)) (L2.map (·.2)) := each_map fun q hq => by
    obtain ⟨as, r⟩ := hrd q (sub2 q hq)
    have en := reads_none _ _ _ (hk q (sub2 q hq)) r
    subst en
    exact ⟨[], Reads.keeps (fun c o e => Heap.get?_push_of_some _ (k1 c o e)) r, fun z => nomatch z⟩
  refine wpAny_bind (wpAny_holding (PySem.W.list_sort_data (s := { z with heap := z.heap.push (seqObj "list" (L2.map (·.1)).toArray 0) }) (R := RV) (enc := id) (bs := L2.map (·.2)) hoL (each_map fun q hq => hR q (sub2 q hq)) er al so (by rw [List.length_map, sizeLine_eq]; omega) (fun d hd => ?_) fun out ol oe => ?_))
  · have := (g4 d (mem2 d hd)).1
    show A.units + 1 + 1 + d.depth < cLine
    omega
  · obtain ⟨c, hc⟩ := PyProof.Rows.sortedHeap_at (vs := L2.map (·.1)) (out := out.toArray) hoL
    have fin : sortD (L2.map (·.2)) = sortD (setD (ks.map (·.2))) := by
      have pp : (L2.map (·.2)).Perm (setD (ks.map (·.2))) := by
        rw [← ddV_map]
        exact (p2.trans hp).map _
      refine sortD_perm pp ?_ (fun d hd => ?_) ?_
      · unfold sortOk at hso
        rw [Bool.and_eq_true] at hso
        exact alikes_sub hso.1 mem2
      · obtain ⟨q, hq, e⟩ := List.mem_map.mp hd
        rw [← e]
        exact hk q (sub2 q hq)
      · rw [List.map_map]
        exact ((p2.map fun q => nk q.2).nodup_iff.mpr R.nd)
    refine wpAny_pure ⟨_, rfl, hQ _ z.heap.objs.size out c (fun b u e => ?_) g1 o1 hz hc (by rw [← fin]; exact oe)⟩
    have q := k1 b u e
    have hlt := Heap.lt_size q
    show (PyProof.Rows.sortedHeap (z.heap.push (seqObj "list" (L2.map (·.1)).toArray 0)) z.heap.objs.size (L2.map (·.1)) out.toArray).get? b = some u
    rw [PyProof.Rows.sortedHeap_old (Nat.ne_of_lt hlt) (by rw [size_push']; exact Nat.lt_succ_of_lt hlt)]
    exact Heap.get?_push_of_some _ q
end
/-- the flag of a list of keys -/
def setB (ds : List PyData) : Bool := ds.all keyOk
theorem setOk_of {ds : List PyData} (h : setOk ds = true) : ds.length < 64 ∧ sortOk ds = true ∧ (∀ d ∈ ds, keyB d = true ∧ (nk d).depth ≤ 8) ∧ ((setB ds = true → ∀ d ∈ ds, ∃ xs, d = .tuple xs) ∧ (setB ds = false → ∀ d ∈ ds, ∃ x, d = .str x)) := by
  unfold setOk at h
  simp only [Bool.and_eq_true, decide_eq_true_eq, Bool.or_eq_true] at h
  obtain ⟨⟨h1, h2⟩, h3⟩ := h
  refine ⟨h1, h3, fun d hd => ?_, fun e d hd => ?_, fun e d hd => ?_⟩
  · rcases h2 with h2 | h2
    · have kk := keyOk_of (List.all_eq_true.mp h2 d hd)
      exact ⟨kk.2.1, Nat.le_trans (nk_depth d) kk.2.2.1⟩
    · have := List.all_eq_true.mp h2 d hd
      cases d <;> first | (cases this; done) | exact ⟨rfl, by show 0 ≤ 8; omega⟩
  · exact (keyOk_of (List.all_eq_true.mp e d hd)).1
  · rcases h2 with h2 | h2
    · rw [setB, h2] at e; cases e
    · have := List.all_eq_true.mp h2 d hd
      cases d <;> first | (cases this; done) | exact ⟨_, rfl⟩
section
variable {X : Cx} {a : Expr}
def tSSet (K : KW) (ta : TE) : TE := fun σ H Q => ta σ H fun x H1 => ∃ F l vs ds, x = V.ref l ∧ Rd H1 l (.lst vs) ∧ RpAll K F H1 vs ds ∧ setOk ds = true ∧ ∀ p us, H1 p = none → RpAll K F H1 us (sortD (setD ds)) → Q (.ref p) (upd H1 p (.lst us))
theorem pe_sset {ta : TE} {p p2 q pos : Pos} (hc : X.calm = true) (hu : X.A.units + 66 < cLine) (hg : Gl X "sorted") (hm : X.mg "sorted" = none) (hg2 : Gl X "set") (hm2 : X.mg "set" = none) (ha : PE X a ta)
    (na : starEach [a] X.env = (false, eval a X.env) :: starEach [] X.env := by rfl) : PE X (.Call (.Name "sorted" p) [.Call (.Name "set" p2) [a] [] q] [] pos) (tSSet (kw X) ta) := by
  refine ⟨fun pins s σ H Q I h => ?_⟩
  refine Call_ (ld_blt I hg hm PyProof.Rows.boot_sorted ?_)
  refine PyProof.Rows.callWith_builtin1 (PyProof.Rows.args_cons ?_ rfl) rfl rfl
  refine Call_ (ld_blt I hg2 hm2 PyProof.Rows.boot_set ?_)
  refine PyProof.Rows.callWith_type1 (PyProof.Rows.args_cons (thn (ha.run pins s σ H _ I h) fun v s1 ⟨x, H1, I1, r1, F, l, vs, ds, ex, h1, h2, hok, q1⟩ => PyProof.Rows.args_nil ?_) na) na rfl
  subst ex
  cases r1
  obtain ⟨hz, its, n, hv, hl, ho⟩ := rd_lst I1 h1
  obtain ⟨k1, k2, k3, k4, k5⟩ := setOk_of hok
  have e1 := stands_all h2 hv
  obtain ⟨ks, m1, m2, m3⟩ := each_zip e1
  have nodict : ∀ d ∈ ds, d.hasDict = false := fun d hd => ((sortOk_of k2).2.2 d hd).2
  have inds : ∀ q ∈ ks, q.2 ∈ ds := fun q hq => by rw [← m2]; exact List.mem_map.mpr ⟨q, hq, rfl⟩
  have reads : ∀ q ∈ ks, ∃ as, Reads s1.heap q.1 q.2 as := fun q hq => by
    obtain ⟨x, r, hr⟩ := m3 q hq
    exact Dp.reads I1 q.2 x _ (Rp.dp q.2 _ (nodict _ (inds q hq)) hr) r
  have keys : ∀ q ∈ ks, KeyV (setB ds) s1.heap q.2 q.1 := fun q hq => by
    obtain ⟨as, r⟩ := reads q hq
    have kd := k3 q.2 (inds q hq)
    refine ⟨nis_reads _ _ _ kd.1 r, kd.2, ?_⟩
    cases hb : setB ds with
    | true =>
      obtain ⟨xs, e⟩ := k4 hb q.2 (inds q hq)
      rw [e] at r
      show ∃ c, q.1 = Value.ref c
      revert r
      generalize q.1 = v
      intro r
      cases r
      exact ⟨_, rfl⟩
    | false =>
      obtain ⟨x, e⟩ := k5 hb q.2 (inds q hq)
      rw [e] at r
      show ∃ x u, q.1 = Value.str x u ∧ nk q.2 = .text x
      rw [e]
      revert r
      generalize q.1 = v
      intro r
      cases r
      exact ⟨_, _, rfl, rfl⟩
  have hkl : ks.length < 64 := by
    have := congrArg List.length m2
    rw [List.length_map] at this
    omega
  refine set_of_keys (b := setB ds) ks (I1.ok.hd hc) ⟨_, ho, rfl, n, rfl⟩ (show its.toArray.toList = ks.map fun p => p.1 by rw [← m1]) keys hkl (by omega) fun h' tk L es ep t hS pm hk => ?_
  refine PyProof.Rows.args_nil ?_
  have I2 : Inv X pins σ H1 { s1 with heap := h', toks := tk } := I1.kept hk
  refine sort_of_set (s := { s1 with heap := h', toks := tk }) hS (I2.ok.hd hc) pm (StandsV (kw X) F H1) (fun q hq => m3 q hq) (fun q hq => ?_) (fun q hq => (k3 _ (inds q hq)).1) (by rw [m2]; exact k2) (by omega) fun s' p out c k g o hp hget oe => ?_
  · obtain ⟨as, r⟩ := reads q hq
    exact ⟨as, Reads.keeps hk r⟩
  · rw [m2] at oe
    obtain ⟨us, q2, q3⟩ := stands_back oe
    have hn : H1 p = none := I2.hok.fresh hp
    have hlen : us.length ≤ sizeLine := by
      rw [q2.length, sortD_mem, sizeLine_eq]
      have z := ddV_len ks
      have z2 := congrArg List.length (ddV_map ks)
      rw [List.length_map, m2] at z2
      omega
    have J : Inv X pins σ (upd H1 p (.lst us)) s' := I2.call' (ch := []) o (Un.laid k hp hn) (I2.hok.laid k hp ⟨hlen, out, c, q3, hget⟩) (by rw [g]; exact I2.bare) (fun _ z => nomatch z)
    exact ⟨.ref p, _, J, rfl, q1 p us hn q2⟩
end
section
variable {X : Cx} {Φ : Phi} {T : Tb} {wx : WX} {a : Expr} {ea : E} {p p2 q pos : Pos}
theorem e_sset {n m : Str} (S : Side X Φ T wx) (hn : n = "sorted") (ht : n ∈ T.ab) (hg : Gl X n) (hm : m = "set") (hmt : m ∈ T.ab) (hgm : Gl X m) (ha : PE X a (tEs X Φ wx ea)) (hst : noStar a = true) : PE X (.Call (.Name n p) [.Call (.Name m p2) [a] [] q] [] pos) (tEs X Φ wx (.sset ea)) := by
  have hmn := S.ab n ht
  have hmm := S.ab m hmt
  subst hn hm
  refine PE.imp (pe_sset S.calm S.un hg hmn hgm hmm ha (star_of hst)) fun σ H Q ⟨F, β, B, ρ, st, R, h⟩ => ?_
  unfold sem at h
  refine step_e R back_RR h fun w st1 F1 v H1 e1 R1 rv h => ?_
  obtain ⟨d, z, h1, h2, h⟩ := rd1_of h
  unfold ssetW at h2
  split at h2
  · split at h2
    · rename_i hk
      cases h2
      obtain ⟨l, vs, rfl, g1, g2⟩ := (rv.1.rdp R1.st h1).list
      exact ⟨F1, l, vs, _, rfl, g1, g2, hk, fun p us hp hr => fin_new R1.st h hr hp⟩
    · cases h2
  · cases h2
end
end Gm

/-! The deep layer, part E: what is walked, comprehensions. -/
namespace Gm
open PySem PySem.Spec PyProof.Rows L2
section
variable {X : Cx} {Φ : Phi} {T : Tb} {wx : WX} {K : KW} {mg : Str → Option Value}
variable {a b c x tg l : Expr} {xs : List Expr} {ea eb ec : E} {es : Es} {pos : Pos}
/-! ### what is walked -/
def iSeq (K : KW) (tl : TE) : TI := fun σ H R => tl σ H fun x H1 => (∃ a, x = .ref a ∧ (∃ xs, SqL K H1 a xs) ∧ R (Itl K a) H1) ∨ (∃ a, x = .ref a ∧ (∃ xs, SqT K H1 a xs) ∧ R (Itt K a) H1) ∨ ∃ y, x = .str y ∧ R (Its y) H1
theorem pi_seq {tl : TE} (hl : PE X l tl) : PI X tg l (iSeq (kw X) tl) := by
  refine ⟨fun pins s σ H R I h => ?_⟩
  refine thn (hl.run pins s σ H _ I h) fun v s1 ⟨x, H1, I1, r1, q1⟩ => ?_
  rcases q1 with ⟨a, e, ⟨xs, hq⟩, q⟩ | ⟨a, e, ⟨xs, hq⟩, q⟩ | ⟨y, e, q⟩
  · subst e
    cases r1
    obtain ⟨its, rv, p, hz⟩ := I1.list hq
    refine wpAny_pyIter_list p.isList ?_
    refine ⟨s1.heap.objs.size, [s1.heap.objs.size], _, _, H1, rfl, I1.kept (t' := s1.toks) fun b o e => Heap.get?_push_of_some _ e, turn_list a _, ⟨_, Heap.get?_push_size _ rfl, rfl, rfl⟩, fun b hb => ?_, q⟩
    have e : b = s1.heap.objs.size := by simpa using hb
    subst e
    exact I1.fpOk (Nat.le_refl _) (I1.hok.fresh (Nat.le_refl _))
  · subst e
    cases r1
    obtain ⟨its, rv, p, hz⟩ := I1.tuple hq
    refine wpAny_pyIter_tuple (show s1.heap.IsTuple a its.toArray from p) ?_
    refine ⟨s1.heap.objs.size, [s1.heap.objs.size], _, _, H1, rfl, I1.kept (t' := s1.toks) fun b o e => Heap.get?_push_of_some _ e, turn_tuple a _, ⟨_, Heap.get?_push_size _ rfl, rfl, rfl⟩, fun b hb => ?_, q⟩
    have e : b = s1.heap.objs.size := by simpa using hb
    subst e
    exact I1.fpOk (Nat.le_refl _) (I1.hok.fresh (Nat.le_refl _))
  · subst e
    obtain ⟨t, rfl⟩ := r1
    have one : ∀ ty, (ty = "str_ascii_iterator" ∨ ty = "str_iterator") → _ := fun ty h => turn_str (P := X.prog) (w := X.w) (K := (kw X)) (tg := tg) s1.heap.objs.size y t ty h
    cases ha : y.cps.all (· < 128) with
    | false => exact wpAny_pyIter_wide ha (pi_one (tk := s1.toks) I1 _ (one _ (.inr rfl)) ⟨_, Heap.get?_push_size _ rfl, rfl, rfl⟩ q)
    | true => exact wpAny_pyIter_ascii ha (pi_one (tk := s1.toks) I1 _ (one _ (.inl rfl)) ⟨_, Heap.get?_push_size _ rfl, rfl, rfl⟩ q)
theorem PI.imp {t t' : TI} (h : PI X tg l t) (i : ∀ σ H Q, t' σ H Q → t σ H Q) : PI X tg l t' := ⟨fun pins s σ H Q I q => h.run pins s σ H Q I (i σ H Q q)⟩
def WalkAt (J : L2.It) (vs : List V) (H : Hp) : Prop := ∀ i, (i < vs.length → J.go i H ∧ ∀ x H', J.yld i H x H' → H' = H ∧ vs[i]? = some x) ∧ (vs.length ≤ i → J.stop i H)
theorem walk_l {a : Addr} {vs : List V} {H : Hp} (h : SqL K H a vs) : WalkAt (Itl K a) vs H := fun i =>
  ⟨fun hi => ⟨⟨vs, vs[i], h, List.getElem?_eq_getElem hi⟩, fun x H' ⟨e1, e2⟩ => ⟨e1, e2 vs h⟩⟩, fun hi => ⟨vs, h, hi⟩⟩
theorem walk_t {a : Addr} {vs : List V} {H : Hp} (h : SqT K H a vs) : WalkAt (Itt K a) vs H := fun i =>
  ⟨fun hi => ⟨⟨vs, vs[i], h, List.getElem?_eq_getElem hi⟩, fun x H' ⟨e1, e2⟩ => ⟨e1, e2 vs h⟩⟩, fun hi => ⟨vs, h, hi⟩⟩
theorem walk_s {y : Str} {H : Hp} : WalkAt (Its y) (y.cps.toList.map fun c => V.str ⟨#[c]⟩) H := fun i =>
  ⟨fun hi => ⟨(show i < y.cps.size by simpa using hi), fun x H' ⟨e1, c, e2, e3⟩ => ⟨e1, by subst e3; rw [List.getElem?_map, Array.getElem?_toList, e2]; rfl⟩⟩, fun hi => (show y.cps.size ≤ i by simpa using hi)⟩
theorem rp_strs {F : Addr → Prop} {H : Hp} : ∀ l : List Nat, RpAll K F H (l.map fun c => V.str ⟨#[c]⟩) (l.map fun c => PyData.str ⟨#[c]⟩)
  | [] => .nil
  | c :: l => .cons (.str _) (rp_strs l)
theorem walk_r {lo : Int} {n : Nat} {H : Hp} : WalkAt (Itr lo n) ((List.range n).map fun i => V.int (lo + (i : Nat))) H := fun i =>
  ⟨fun hi => ⟨(show i < n by simpa using hi), fun x H' ⟨e1, e2⟩ => ⟨e1, by subst e2; simp at hi; simp [hi]⟩⟩, fun hi => (show n ≤ i by simpa using hi)⟩
/-- what is walked: values that are there; new pairs -/
inductive Itm where
  | v (x : V) | p (us : List V)
def Itm.isV : Itm → Bool
  | .v _ => true
  | .p _ => false
def RpM (K : KW) (F : Addr → Prop) (H : Hp) : Itm → PyData → Prop
  | .v x, d => Rp K F H x d
  | .p us, d => ∃ ds, d = .tuple ds ∧ RpAll K F H us ds
inductive RpMs (K : KW) (F : Addr → Prop) (H : Hp) : List Itm → List PyData → Prop
  | nil : RpMs K F H [] []
  | cons {m : Itm} {ms : List Itm} {d : PyData} {ds : List PyData} : RpM K F H m d → RpMs K F H ms ds → RpMs K F H (m :: ms) (d :: ds)
theorem RpMs.length {F : Addr → Prop} {H : Hp} : ∀ {ms : List Itm} {ds : List PyData}, RpMs K F H ms ds → ms.length = ds.length
  | _, _, .nil => rfl
  | _, _, .cons _ r => by rw [List.length_cons, List.length_cons, r.length]
theorem RpMs.get {F : Addr → Prop} {H : Hp} : ∀ {ms : List Itm} {ds : List PyData} {i : Nat} {m : Itm}, RpMs K F H ms ds → ms[i]? = some m → ∃ d, ds[i]? = some d ∧ RpM K F H m d
  | _, _, _, _, .nil, e => by simp at e
  | _, _, 0, _, .cons r _, e => by
    rw [List.getElem?_cons_zero] at e
    cases e
    exact ⟨_, List.getElem?_cons_zero, r⟩
  | _, _, i + 1, _, .cons _ r, e => by
    rw [List.getElem?_cons_succ] at e
    obtain ⟨d, h1, h2⟩ := r.get e
    exact ⟨d, by rw [List.getElem?_cons_succ]; exact h1, h2⟩
theorem RpMs.of {F : Addr → Prop} {H : Hp} : ∀ {ds : List PyData} {vs : List V}, RpAll K F H vs ds → RpMs K F H (vs.map Itm.v) ds
  | [], _, h => by cases h; exact .nil
  | d :: ds, _, h => by
    cases h with
    | cons h1 h2 => exact .cons h1 (RpMs.of h2)
theorem RpMs.zip {F : Addr → Prop} {H : Hp} : ∀ {ds es : List PyData} {vs us : List V}, RpAll K F H vs ds → RpAll K F H us es → RpMs K F H ((vs.zip us).map fun p => Itm.p [p.1, p.2]) ((ds.zip es).map fun p => PyData.tuple [p.1, p.2])
  | [], es, _, _, h, g => by
    cases h
    rw [List.zip_nil_left, List.zip_nil_left]
    exact .nil
  | d :: ds, [], _, _, h, g => by
    cases g
    rw [List.zip_nil_right, List.zip_nil_right]
    exact .nil
  | d :: ds, e :: es, _, _, h, g => by
    cases h with
    | cons h1 h2 =>
      cases g with
      | cons g1 g2 => exact .cons ⟨_, rfl, .cons h1 (.cons g1 .nil)⟩ (RpMs.zip h2 g2)
def ItY : Option Itm → Hp → V → Hp → Prop
  | some (.v y), H, x, H' => H' = H ∧ x = y
  | some (.p us), H, x, H' => ∃ T, x = .ref T ∧ H T = none ∧ H' = upd H T (.tup us)
  | none, _, _, _ => False
def WalkG (J : L2.It) (ms : List Itm) (H : Hp) : Prop := ∀ i, (i < ms.length → J.go i H ∧ ∀ x H', J.yld i H x H' → ItY ms[i]? H x H') ∧ (ms.length ≤ i → J.stop i H)
theorem WalkAt.g {J : L2.It} {vs : List V} {H : Hp} (h : WalkAt J vs H) : WalkG J (vs.map Itm.v) H := fun i => by
  rw [List.length_map]
  refine ⟨fun hi => ⟨((h i).1 hi).1, fun x H' hy => ?_⟩, (h i).2⟩
  obtain ⟨e1, e2⟩ := ((h i).1 hi).2 x H' hy
  rw [List.getElem?_map, e2]
  exact ⟨e1, rfl⟩
theorem zip_at {α : Type} {vs us : List V} {f : V × V → α} {i : Nat} {x y : V} (h1 : vs[i]? = some x) (h2 : us[i]? = some y) : ((vs.zip us).map f)[i]? = some (f (x, y)) := by
  have e : (vs.zip us)[i]? = some (x, y) := List.getElem?_zip_eq_some.mpr ⟨h1, h2⟩
  rw [List.getElem?_map, e]
  rfl
theorem walk_zl {a b : Addr} {vs us : List V} {H : Hp} (h1 : SqL K H a vs) (h2 : SqL K H b us) : WalkG (Itz K a b) ((vs.zip us).map fun p => Itm.p [p.1, p.2]) H := fun i => by
  have hl : ((vs.zip us).map fun p => Itm.p [p.1, p.2]).length = min vs.length us.length := by rw [List.length_map, List.length_zip]
  rw [hl]
  refine ⟨fun hi => ?_, fun hi => ⟨vs, us, h1, h2, by omega⟩⟩
  have e1 : vs[i]? = some (vs[i]'(by omega)) := List.getElem?_eq_getElem _
  have e2 : us[i]? = some (us[i]'(by omega)) := List.getElem?_eq_getElem _
  refine ⟨⟨vs, us, _, _, h1, h2, e1, e2⟩, fun x H' ⟨T, u, v, g1, g2, g3, g4, g5⟩ => ?_⟩
  rw [zip_at (g4 vs h1) (g5 us h2)]
  exact ⟨T, g1, g2, g3⟩
theorem walk_zt {a b : Addr} {vs us : List V} {H : Hp} (h1 : SqT K H a vs) (h2 : SqT K H b us) : WalkG (RZ.ItzT K a b) ((vs.zip us).map fun p => Itm.p [p.1, p.2]) H := fun i => by
  have hl : ((vs.zip us).map fun p => Itm.p [p.1, p.2]).length = min vs.length us.length := by rw [List.length_map, List.length_zip]
  rw [hl]
  refine ⟨fun hi => ?_, fun hi => ⟨vs, us, h1, h2, by omega⟩⟩
  have e1 : vs[i]? = some (vs[i]'(by omega)) := List.getElem?_eq_getElem _
  have e2 : us[i]? = some (us[i]'(by omega)) := List.getElem?_eq_getElem _
  refine ⟨⟨vs, us, _, _, h1, h2, e1, e2⟩, fun x H' ⟨T, u, v, g1, g2, g3, g4, g5⟩ => ?_⟩
  rw [zip_at (g4 vs h1) (g5 us h2)]
  exact ⟨T, g1, g2, g3⟩
/-- .. in a comprehension: as long as what is there, the cells apart, is kept -/
def RI (z : Bool) (K : KW) (β : List Addr) (_ : Hp) (F' : Addr → Prop) (H' : Hp) (J : L2.It) (xs : List PyData) : Prop := ∃ ms, RpMs K F' H' ms xs ∧ (z = false → ∀ m ∈ ms, m.isV = true) ∧ ∀ H2 : Hp, (∀ a, a ∉ β → H' a ≠ none → H2 a = H' a) → WalkG J ms H2
theorem RI.of {z : Bool} {β : List Addr} {H F' H' J xs} {vs : List V} (ra : RpAll K F' H' vs xs) (wk : ∀ H2 : Hp, (∀ a, a ∉ β → H' a ≠ none → H2 a = H' a) → WalkAt J vs H2) : RI z K β H F' H' J xs :=
  ⟨vs.map Itm.v, RpMs.of ra, fun _ m hm => by
    obtain ⟨v, _, rfl⟩ := List.mem_map.mp hm
    rfl, fun H2 k => (wk H2 k).g⟩
theorem back_RI {z : Bool} {β : List Addr} : Back β (RI z K β) := fun _ _ _ _ _ _ _ _ _ h => h
abbrev RepI := List Addr → Bs → Hp → (Addr → Prop) → Hp → L2.It → List PyData → Prop
def tIr (rep : RepI) (K : KW) (mg : Str → Option Value) (wx : WX) (f : Rho → Stt → Res (List PyData)) : TI := fun σ H Q => ∃ F β B ρ st, RelE K F β B ρ st σ H ∧ Post K mg β B (rep β B) F H (fun c d H' => wx c d σ H') (f ρ st) Q
abbrev tI (z : Bool) (K : KW) (mg : Str → Option Value) (wx : WX) (f : Rho → Stt → Res (List PyData)) : TI := tIr (fun β _ => RI z K β) K mg wx f
theorem rpv_list {F : Addr → Prop} {β : List Addr} {B : Bs} {H : Hp} {st : Stt} {v : V} {w : W} {ds : List PyData} (s : StOk K F β B H st) (h : RepV K F β B H v w) (hl : ∀ n, w ≠ .loc n) (e : w.rd st = some (.list ds)) : ∃ a vs, v = .ref a ∧ Rd H a (.lst vs) ∧ RpAll K F H vs ds ∧ a ∉ β := by
  have key : ∀ {c : C} {a : Addr}, RepC K F H a c → c.dat = .list ds → ∃ vs, Rd H a (.lst vs) ∧ RpAll K F H vs ds := fun {c a} h e => by
    cases c with
    | lst xs => cases e; obtain ⟨vs, h1, h2⟩ := h; exact ⟨vs, .inl h1, h2⟩
    | dct kvs => cases e
  cases w with
  | d y =>
    cases e
    cases h with
    | lst h1 h2 ha => exact ⟨_, _, rfl, h1, ha, fun hm => s.nf _ hm h2⟩
  | new c => obtain ⟨a, rfl, h2, h3, _⟩ := h; obtain ⟨vs, g1, g2⟩ := key h2 (Option.some.inj e); exact ⟨a, vs, rfl, g1, g2, h3⟩
  | bor c => obtain ⟨a, rfl, h2, h3⟩ := h; obtain ⟨vs, g1, g2⟩ := key h2 (Option.some.inj e); exact ⟨a, vs, rfl, g1, g2, (s.ob a (.inl h3)).1⟩
  | lent c => obtain ⟨a, rfl, h2, h3⟩ := h; obtain ⟨vs, g1, g2⟩ := key h2 (Option.some.inj e); exact ⟨a, vs, rfl, g1, g2, (s.ob a (.inr h3)).1⟩
  | own c => cases e
  | loc n => exact absurd rfl (hl n)
  | fn n => cases e
theorem sqt_keep {F : Addr → Prop} {β : List Addr} {B : Bs} {H H2 : Hp} {st : Stt} {a : Addr} {vs : List V} (s : StOk K F β B H st) (h : SqT K H a vs) (k : ∀ a, a ∉ β → H a ≠ none → H2 a = H a) : SqT K H2 a vs := by
  rcases h with h | h
  · exact .inl (rd_eq h (k a (fun hm => let ⟨c, hc⟩ := s.mem hm; hc.noTup _ h) (rd_there h)))
  · exact .inr h
theorem i_of {z : Bool} (ha : PE X a (tEs X Φ wx ea)) : PI X tg a (tI z (kw X) X.mg wx (semI Φ (.of ea))) := by
  refine PI.imp (pi_seq ha) fun σ H Q ⟨F, β, B, ρ, st, R, h⟩ => ?_
  unfold semI at h
  refine step_e R back_RI h fun w st1 F1 v H1 e1 R1 rv h => ?_
  have h : (∀ n, w ≠ .loc n) ∧ Post (kw X) X.mg β B (RI z (kw X) β) F1 H1 (fun c d H' => wx c d σ H') (Res.ofO st1 ((w.rd st1).bind itemsD)) Q := by
    refine ⟨fun n e => ?_, ?_⟩
    · subst e; exact h.elim
    · cases w <;> first | exact h.elim | exact h
  obtain ⟨hl, h⟩ := h
  obtain ⟨ds, e, h⟩ := Post.ofO h
  obtain ⟨d, h1, h2⟩ := Option.bind_eq_some_iff.mp e
  cases d with
  | list xs =>
    cases h2
    obtain ⟨a, vs, rfl, g1, g2, g3⟩ := rpv_list R1.st rv.1 hl h1
    refine .inl ⟨a, rfl, ⟨vs, .inl g1⟩, Post.done h R1.st (RI.of g2 fun H2 k => ?_)⟩
    have g1' := rd_eq g1 (k a g3 (rd_there g1))
    exact fun i => ⟨fun hi => ⟨⟨vs, vs[i], .inl g1', List.getElem?_eq_getElem hi⟩, fun x H' ⟨e1, e2⟩ => ⟨e1, e2 vs (.inl g1')⟩⟩, fun hi => ⟨vs, .inl g1', hi⟩⟩
  | tuple xs =>
    cases h2
    obtain ⟨a, vs, rfl, g1, g2⟩ := (rv.1.rdp R1.st h1).tuple
    exact .inr (.inl ⟨a, rfl, ⟨vs, g1.sq⟩, Post.done h R1.st (RI.of g2 fun H2 k => walk_t (sqt_keep R1.st g1.sq k))⟩)
  | str y =>
    cases h2
    exact .inr (.inr ⟨y, (rv.1.rdp R1.st h1).str, Post.done h R1.st (RI.of (rp_strs _) fun H2 _ => walk_s)⟩)
  | _ => cases h2
theorem post_one {β : List Addr} {B : Bs} {F : Addr → Prop} {H : Hp} {wx' : Value → Option Addr → Hp → Prop} {r : Res W} {Q : VK} {P : List V → Hp → Prop} (h : Post K mg β B (RR K β B) F H wx' r Q) (g : ∀ v H1, Q v H1 → P [v] H1) : Post K mg β B (RL K β B) F H wx' (r.bind fun w s => .ok [w] s) P := by
  cases r with
  | bad => exact h
  | ex x s => exact h
  | ok w s =>
    intro vs F' H' e st q
    cases q with
    | cons q1 q2 =>
      cases q2
      exact g _ _ (h _ F' H' e st q1)
theorem sems_one {ρ : Rho} {st : Stt} : sems Φ (.cons ea .nil) ρ st = (sem Φ ea ρ st).bind fun w s => .ok [w] s := by
  rw [sems]
  congr 1
theorem rngOk_of {i : Int} (h : rngOk i = true) : -(2 ^ 62) ≤ i ∧ i < 2 ^ 62 := by
  unfold rngOk at h
  simp only [Bool.and_eq_true, decide_eq_true_eq] at h
  omega
theorem int_of {F : Addr → Prop} {β : List Addr} {B : Bs} {H : Hp} {st : Stt} {v : V} {w : W} {d : PyData} {i : Int} (s : StOk K F β B H st) (h : RepV K F β B H v w) (e : w.rd st = some d) (e2 : intOf d = some i) : v = .int i := by
  unfold intOf at e2
  split at e2
  · cases e2; exact (h.rdp s e).int
  · cases e2
theorem rp_range {F : Addr → Prop} {H : Hp} {lo : Int} : ∀ l : List Nat, RpAll K F H (l.map fun i => V.int (lo + (i : Nat))) (l.map fun i => PyData.int (lo + (i : Nat)))
  | [] => .nil
  | i :: l => .cons (.int _) (rp_range l)
theorem i_rng {rep : RepI} (hb' : ∀ β B, Back β (rep β B)) (hr : ∀ β B F' H0 H' J vs xs, RpAll (kw X) F' H' vs xs → (∀ H2, WalkAt J vs H2) → rep β B H0 F' H' J xs) {p : Pos} {n : Str} (hn : n = "range") (S : Side X Φ T wx) (ht : n ∈ T.ab) (hg : Gl X n) (ha : PE X a (tEs X Φ wx ea)) (hs : noStar a = true) : PI X tg (.Call (.Name n p) [a] [] pos) (tIr rep (kw X) X.mg wx (semI Φ (.rng ea))) := by
  have hm := S.ab n ht
  subst hn
  refine PI.imp (pi_range1 hg hm (a_cons ha a_nil hs) (by rw [star_of hs]; rfl)) fun σ H Q ⟨F, β, B, ρ, st, R, h⟩ => ?_
  unfold semI at h
  refine ⟨F, β, B, ρ, st, R, ?_⟩
  rw [sems_one]
  refine post_one (gen_step R (hb' β B) h fun w st1 F1 v H1 e1 R1 rv h => ?_) fun v H1 (q : ∃ j : Int, v = .int j ∧ -(2 ^ 62) ≤ j ∧ j < 2 ^ 62 ∧ Q (Itr 0 j.toNat) H1) => let ⟨j, e, q⟩ := q; ⟨j, by rw [e], q⟩
  obtain ⟨ds, e, h⟩ := Post.ofO h
  obtain ⟨d, h1, h2⟩ := Option.bind_eq_some_iff.mp e
  obtain ⟨i, h3, h4⟩ := Option.bind_eq_some_iff.mp h2
  split at h4
  · rename_i hz
    cases h4
    obtain ⟨z1, z2⟩ := rngOk_of hz
    refine ⟨i, int_of R1.st rv.1 h1 h3, z1, z2, Post.done h R1.st (hr _ _ _ _ _ _ _ _ ?_ fun H2 => walk_r)⟩
    have := rp_range (K := (kw X)) (F := F1) (H := H1) (lo := 0) (List.range i.toNat)
    unfold rngL
    rw [Int.sub_zero]
    exact this
  · cases h4
theorem i_rng2 {rep : RepI} (hb' : ∀ β B, Back β (rep β B)) (hr : ∀ β B F' H0 H' J vs xs, RpAll (kw X) F' H' vs xs → (∀ H2, WalkAt J vs H2) → rep β B H0 F' H' J xs) {p : Pos} {n : Str} (hn : n = "range") (S : Side X Φ T wx) (ht : n ∈ T.ab) (hg : Gl X n) (ha : PE X a (tEs X Φ wx ea)) (hs : noStar a = true) (hb : PE X b (tEs X Φ wx eb)) (hs2 : noStar b = true) : PI X tg (.Call (.Name n p) [a, b] [] pos) (tIr rep (kw X) X.mg wx (semI Φ (.rng2 ea eb))) := by
  have hm := S.ab n ht
  subst hn
  refine PI.imp (pi_range2 hg hm (a_cons ha (a_cons hb a_nil hs2) hs) (by rw [star_of hs, star_of hs2]; rfl) (by rw [star_of hs2]; rfl)) fun σ H Q ⟨F, β, B, ρ, st, R, h⟩ => ?_
  unfold semI at h
  refine ⟨F, β, B, ρ, st, R, ?_⟩
  rw [sems]
  simp only [sems_one, Res.bind_assoc, Res.bind_ok]
  cases q1 : sem Φ ea ρ st with
  | bad => rw [q1] at h; exact h
  | ex x s => rw [q1] at h; exact h
  | ok w s1 =>
    rw [q1] at h
    simp only [Res.bind_ok] at h ⊢
    cases q2 : sem Φ eb ρ s1 with
    | bad => rw [q2] at h; exact h
    | ex x s => rw [q2] at h; exact h
    | ok u s2 =>
      rw [q2] at h
      simp only [Res.bind_ok] at h ⊢
      intro vs F1 H1 e1 st1 q
      cases q with
      | cons r1 q => cases q with
        | cons r2 q =>
          cases q
          obtain ⟨ds, e, h⟩ := Post.ofO h
          obtain ⟨d, h1, h2⟩ := Option.bind_eq_some_iff.mp e
          obtain ⟨d', h1', h2⟩ := Option.bind_eq_some_iff.mp h2
          obtain ⟨i, h3, h4⟩ := Option.bind_eq_some_iff.mp h2
          obtain ⟨j, h3', h4⟩ := Option.bind_eq_some_iff.mp h4
          split at h4
          · rename_i hz
            cases h4
            obtain ⟨y1, y2⟩ := Bool.and_eq_true_iff.mp hz
            obtain ⟨z1, z2⟩ := rngOk_of y1
            obtain ⟨z3, z4⟩ := rngOk_of y2
            refine ⟨i, j, by rw [int_of st1 r1.1 h1 h3, int_of st1 r2.1 h1' h3'], ⟨z1, z2, z3, z4⟩, Post.doneX h e1 st1 (hr _ _ _ _ _ _ _ _ ?_ fun H2 => walk_r)⟩
            exact rp_range (K := (kw X)) (F := F1) (H := H1) (lo := i) (List.range (j - i).toNat)
          · cases h4
theorem rdN_nl {w : W} {st : Stt} {d : PyData} (h : w.rdN st = some d) : (∀ n, w ≠ .loc n) ∧ w.rd st = some d := by
  cases w with
  | loc n => cases h
  | _ => exact ⟨fun n e => (nomatch e), h⟩
theorem zipD_cases {x y : PyData} {ds : List PyData} (h : zipD x y = some ds) : (∃ xs ys, x = .list xs ∧ y = .list ys ∧ ds = (xs.zip ys).map fun p => .tuple [p.1, p.2]) ∨ (∃ xs ys, x = .tuple xs ∧ y = .tuple ys ∧ ds = (xs.zip ys).map fun p => .tuple [p.1, p.2]) := by
  unfold zipD at h
  split at h
  · cases h; exact .inl ⟨_, _, rfl, rfl, rfl⟩
  · cases h; exact .inr ⟨_, _, rfl, rfl, rfl⟩
  · cases h
theorem zip_noV (vs us : List V) : (true : Bool) = false → ∀ m ∈ (vs.zip us).map (fun p => Itm.p [p.1, p.2]), m.isV = true := fun h => (nomatch h)
theorem i_zip {p : Pos} {n : Str} (hn : n = "zip") (S : Side X Φ T wx) (ht : n ∈ T.ab) (hg : Gl X n) (ha : PE X a (tEs X Φ wx ea)) (hs : noStar a = true) (hb : PE X b (tEs X Φ wx eb)) (hs2 : noStar b = true) {elts : List Expr} {kk : Nat} {tpos : Pos} : PI X (.Tuple elts kk tpos) (.Call (.Name n p) [a, b] [] pos) (tI true (kw X) X.mg wx (semI Φ (.zip ea eb))) := by
  have hm := S.ab n ht
  subst hn
  refine PI.imp (RZ.pi_zipA hg hm (a_cons ha (a_cons hb a_nil hs2) hs) (by rw [star_of hs]) (by rw [star_of hs2]; rfl)) fun σ H Q ⟨F, β, B, ρ, st, R, h⟩ => ?_
  unfold semI at h
  refine ⟨F, β, B, ρ, st, R, ?_⟩
  rw [sems]
  simp only [sems_one, Res.bind_assoc, Res.bind_ok]
  cases q1 : sem Φ ea ρ st with
  | bad => rw [q1] at h; exact h
  | ex x s => rw [q1] at h; exact h
  | ok w s1 =>
    rw [q1] at h
    simp only [Res.bind_ok] at h ⊢
    cases q2 : sem Φ eb ρ s1 with
    | bad => rw [q2] at h; exact h
    | ex x s => rw [q2] at h; exact h
    | ok u s2 =>
      rw [q2] at h
      simp only [Res.bind_ok] at h ⊢
      intro vs F1 H1 e1 st1 q
      cases q with
      | cons r1 q => cases q with
        | cons r2 q =>
          cases q
          obtain ⟨ds, e, h⟩ := Post.ofO h
          obtain ⟨dx, h1, h2⟩ := Option.bind_eq_some_iff.mp e
          obtain ⟨dy, h3, h4⟩ := Option.bind_eq_some_iff.mp h2
          obtain ⟨n1, h1⟩ := rdN_nl h1
          obtain ⟨n2, h3⟩ := rdN_nl h3
          rcases zipD_cases h4 with ⟨xs, ys, rfl, rfl, rfl⟩ | ⟨xs, ys, rfl, rfl, rfl⟩
          · obtain ⟨a1, vs1, rfl, g1, g2, g3⟩ := rpv_list st1 r1.1 n1 h1
            obtain ⟨a2, vs2, rfl, k1, k2, k3⟩ := rpv_list st1 r2.1 n2 h3
            exact ⟨a1, a2, vs1, vs2, rfl, .inl ⟨.inl g1, .inl k1, Post.doneX h e1 st1 ⟨_, RpMs.zip g2 k2, zip_noV _ _, fun H2 k => walk_zl (K := kw X) (.inl (rd_eq g1 (k a1 g3 (rd_there g1)))) (.inl (rd_eq k1 (k a2 k3 (rd_there k1))))⟩⟩⟩
          · obtain ⟨a1, vs1, rfl, g1, g2⟩ := (r1.1.rdp st1 h1).tuple
            obtain ⟨a2, vs2, rfl, k1, k2⟩ := (r2.1.rdp st1 h3).tuple
            exact ⟨a1, a2, vs1, vs2, rfl, .inr ⟨g1.sq, k1.sq, Post.doneX h e1 st1 ⟨_, RpMs.zip g2 k2, zip_noV _ _, fun H2 k => walk_zt (K := kw X) (sqt_keep st1 g1.sq k) (sqt_keep st1 k1.sq k)⟩⟩⟩
end
end Gm

/-! The deep layer, part E2: list comprehensions. -/
namespace Gm
open PySem PySem.Spec PyProof.Rows L2
section
variable {X : Cx} {Φ : Phi} {T : Tb} {wx : WX} {K : KW} {mg : Str → Option Value}
variable {a b c x tg l : Expr} {xs : List Expr} {ea eb ec : E} {es : Es} {pos : Pos}
variable {F F' : Addr → Prop} {β : List Addr} {B : Bs} {H H' : Hp} {st : Stt} {ρ : Rho} {σ : L2.St}
/-! ### slots -/
theorem wipe_in {i : Nat} : ∀ {vs : List Nat}, i ∈ vs → i < σ.length → (wipe σ vs)[i]? = some none
  | v :: vs, h, hl => by
    unfold wipe
    by_cases e : v = i
    · subst e
      rw [List.getElem?_set_self (by rw [wipe_length]; exact hl)]
    · rw [List.getElem?_set_ne e]
      exact wipe_in ((List.mem_cons.mp h).elim (fun z => absurd z.symm e) id) hl
theorem wipe_eq {σ σ' : L2.St} {vs : List Nat} (hl : σ.length = σ'.length) (h : ∀ i, i ∉ vs → σ[i]? = σ'[i]?) : wipe σ vs = wipe σ' vs := by
  apply List.ext_getElem?
  intro i
  by_cases hi : i ∈ vs
  · by_cases hlt : i < σ.length
    · rw [wipe_in hi hlt, wipe_in hi (by omega)]
    · rw [List.getElem?_eq_none (by rw [wipe_length]; omega), List.getElem?_eq_none (by rw [wipe_length]; omega)]
  · rw [wipe_out hi, wipe_out hi, h i hi]
theorem wipeR_len : ∀ vs : List Nat, (wipeR ρ vs).length = ρ.length
  | [] => rfl
  | v :: vs => by unfold wipeR; rw [List.length_set, wipeR_len vs]
theorem wipeR_some {i : Nat} {x : W} : ∀ {vs : List Nat}, (wipeR ρ vs)[i]? = some (some x) → ρ[i]? = some (some x) ∧ i ∉ vs
  | [], h => ⟨h, by simp⟩
  | v :: vs, h => by
    unfold wipeR at h
    by_cases hi : v = i
    · subst hi
      by_cases hv : v < (wipeR ρ vs).length
      · rw [List.getElem?_set_self hv] at h; cases h
      · rw [List.getElem?_eq_none (by simpa using hv)] at h; cases h
    · rw [List.getElem?_set_ne hi] at h
      obtain ⟨h1, h2⟩ := wipeR_some h
      exact ⟨h1, by simp only [List.mem_cons, not_or]; exact ⟨fun e => hi e.symm, h2⟩⟩
theorem RelE.wipe (R : RelE K F β B ρ st σ H) (vs : List Nat) : RelE K F β B (wipeR ρ vs) st (wipe σ vs) H where
  len := by rw [wipeR_len, wipe_length]; exact R.len
  slot := fun i w h => by
    obtain ⟨h1, h2⟩ := wipeR_some h
    rw [wipe_out h2]
    exact R.slot i w h1
  rest := fun i w h => R.rest i w (wipeR_some h).1
  apart := fun i j c c' a h1 h2 h3 h4 => by
    obtain ⟨g1, g2⟩ := wipeR_some h1
    obtain ⟨g3, g4⟩ := wipeR_some h3
    rw [wipe_out g2] at h2
    rw [wipe_out g4] at h4
    exact R.apart i j c c' a g1 h2 g3 h4
  st := R.st
/-- a slot is set, not to an own object -/
theorem RelE.set (R : RelE K F β B ρ st σ H) {i : Nat} {w : W} {v : V} (hv : RepV K F β B H v w) (h1 : ∀ c, w ≠ .new c) (h2 : ∀ c, w ≠ .lent c) (h3 : ∀ c, w ≠ .own c) : RelE K F β B (ρ.set i (some w)) st (σ.set i (some v)) H where
  len := by rw [List.length_set, List.length_set]; exact R.len
  slot := fun j u h => by
    by_cases e : i = j
    · subst e
      have hl : i < ρ.length := by
        by_cases hl : i < ρ.length
        · exact hl
        · rw [List.getElem?_eq_none (by rw [List.length_set]; omega)] at h; cases h
      rw [List.getElem?_set_self hl] at h
      cases h
      exact ⟨v, by rw [List.getElem?_set_self (by rw [← R.len]; exact hl)], hv⟩
    · rw [List.getElem?_set_ne e] at h ⊢
      exact R.slot j u h
  rest := fun j u h => by
    by_cases e : i = j
    · subst e
      have hl : i < ρ.length := by
        by_cases hl : i < ρ.length
        · exact hl
        · rw [List.getElem?_eq_none (by rw [List.length_set]; omega)] at h; cases h
      rw [List.getElem?_set_self hl] at h
      cases h
      exact ⟨h1, h2⟩
    · rw [List.getElem?_set_ne e] at h
      exact R.rest j u h
  apart := fun j k c c' a g1 g2 g3 g4 => by
    have nj : i ≠ j := fun e => by
      subst e
      have hl : i < ρ.length := by
        by_cases hl : i < ρ.length
        · exact hl
        · rw [List.getElem?_eq_none (by rw [List.length_set]; omega)] at g1; cases g1
      rw [List.getElem?_set_self hl] at g1
      cases g1
      exact h3 c rfl
    have nk : i ≠ k := fun e => by
      subst e
      have hl : i < ρ.length := by
        by_cases hl : i < ρ.length
        · exact hl
        · rw [List.getElem?_eq_none (by rw [List.length_set]; omega)] at g3; cases g3
      rw [List.getElem?_set_self hl] at g3
      cases g3
      exact h3 c' rfl
    rw [List.getElem?_set_ne nj] at g1 g2
    rw [List.getElem?_set_ne nk] at g3 g4
    exact R.apart j k c c' a g1 g2 g3 g4
  st := R.st
theorem RelE.setD (R : RelE K F β B ρ st σ H) {i : Nat} {x : PyData} {v : V} (hv : Rp K F H v x) : RelE K F β B (ρ.set i (some (.d x))) st (σ.set i (some v)) H := R.set (w := .d x) hv (fun _ e => nomatch e) (fun _ e => nomatch e) fun _ e => nomatch e
/-! ### targets -/
def gNames : List Nat → TGs
  | [] => gNil
  | i :: r => gCons (gName i) (gNames r)
def gT (K : KW) : Gm.T → TG
  | .nm i => gName i
  | .tp is => gTup K is.length (gNames is)
def tgs : Gm.T → List Nat
  | .nm i => [i]
  | .tp is => is
theorem gNames_ok {P : L2.St → Hp → Prop} : ∀ {is : List Nat} {vs : List V} {ds : List PyData} {ρ : Rho} {σ : L2.St}, RelE K F β B ρ st σ H → RpAll K F H vs ds → ds.length = is.length →
    (∀ σ2, RelE K F β B ((is.zip ds).foldl (fun r p => r.set p.1 (some (.d p.2))) ρ) st σ2 H → σ2.length = σ.length → (∀ i, i ∉ is → σ2[i]? = σ[i]?) → P σ2 H) → gNames is vs σ H P
  | [], vs, ds, ρ, σ, R, ra, hl, k => by
    cases ra with
    | nil => exact ⟨rfl, k σ R rfl fun _ _ => rfl⟩
    | cons _ _ => cases hl
  | i :: is, vs, ds, ρ, σ, R, ra, hl, k => by
    cases ra with
    | nil => cases hl
    | cons r1 r2 =>
      refine ⟨_, _, rfl, gNames_ok (R.setD (i := i) r1) r2 (by simpa using hl) fun σ2 R2 h1 h2 => k σ2 R2 (by rw [h1, List.length_set]) fun j hj => ?_⟩
      rw [h2 j fun z => hj (List.mem_cons_of_mem _ z), List.getElem?_set_ne fun e => hj (by rw [e]; exact List.mem_cons_self)]
theorem gT_ok {P : L2.St → Hp → Prop} {t : Gm.T} {v : V} {d : PyData} {ρ2 : Rho} (R : RelE K F β B ρ st σ H) (rv : Rp K F H v d) (e : setT t d ρ = some ρ2)
    (k : ∀ σ2, RelE K F β B ρ2 st σ2 H → σ2.length = σ.length → (∀ i, i ∉ tgs t → σ2[i]? = σ[i]?) → P σ2 H) : gT K t v σ H P := by
  cases t with
  | nm i =>
    cases (show some (ρ.set i (some (.d d))) = some ρ2 from e)
    refine k _ (R.setD rv) (by rw [List.length_set]) fun j hj => ?_
    rw [List.getElem?_set_ne fun e => hj (by rw [e]; exact List.mem_cons_self)]
  | tp is =>
    cases d with
    | tuple xs =>
      have e' : (if xs.length = is.length then some ((is.zip xs).foldl (fun r p => r.set p.1 (some (.d p.2))) ρ) else none) = some ρ2 := e
      split at e'
      · rename_i hl
        cases e'
        cases rv with
        | tup h1 h2 => exact ⟨_, _, rfl, h1.sq, by rw [h2.length]; exact hl, gNames_ok R h2 hl k⟩
      · cases e'
    | _ => cases e
/-! ### the new list stands apart -/
theorem kp_out {D : Addr} {xs : List V} {o : HO} (hD : H D = some (.lst xs)) (hF : ¬ F D) : Kp F H F (upd H D o) where
  sub := fun _ h => h
  tup := fun a ys h => rd_eq h (upd_ne fun e => by subst e; rcases h with h | ⟨o, h⟩ <;> (rw [hD] at h; cases h))
  tupz := fun a o' ys h => (upd_ne fun e => by subst e; rw [hD] at h; cases h).trans h
  lst := fun a ys hf h => rd_eq h (upd_ne fun e => hF (e ▸ hf))
  fz := fun a hf _ => upd_ne fun e => hF (e ▸ hf)
theorem StOk.out (s : StOk K F β B H st) {D : Addr} {xs : List V} {o : HO} (hD : H D = some (.lst xs)) (hF : ¬ F D) (hb : D ∉ β) (hu : ¬ B.u D) : StOk K F β B (upd H D o) st where
  len := s.len
  nd := s.nd
  nf := s.nf
  ob := fun a h => by
    have hne : a ≠ D := fun e => hu (e ▸ h)
    rw [upd_ne hne]
    exact s.ob a h
  ft := fun a h => by
    have hne : a ≠ D := fun e => hF (e ▸ h)
    rw [upd_ne hne]
    exact s.ft a h
  at_ := fun n a c e1 e2 => (s.at_ n a c e1 e2).keep (kp_out hD hF) (upd_ne fun e => hb (e ▸ List.mem_of_getElem? e1))
/-- no exception -/
abbrev wxF : WX := fun _ _ _ _ => False
theorem compL_cons {f : PyData → Stt → Res (Option PyData)} {d : PyData} {r : List PyData} {st s2 : Stt} {ys : List PyData} (h : compL f (d :: r) st = .ok ys s2) : ∃ o s1 zs, f d st = .ok o s1 ∧ compL f r s1 = .ok zs s2 ∧ ys = (match o with | some y => y :: zs | none => zs) := by
  unfold compL at h
  cases q : f d st with
  | bad => rw [q] at h; cases h
  | ex x s => rw [q] at h; cases h
  | ok o s1 =>
    rw [q] at h
    simp only [Res.bind_ok] at h
    cases q2 : compL f r s1 with
    | bad => rw [q2] at h; cases h
    | ex x s => rw [q2] at h; cases h
    | ok zs s3 =>
      rw [q2] at h
      simp only [Res.bind_ok] at h
      cases h
      exact ⟨o, s1, zs, rfl, q2, rfl⟩
theorem bind_ok_inv {α β' : Type} {r : Res α} {k : α → Stt → Res β'} {y : β'} {s : Stt} (h : r.bind k = .ok y s) : ∃ x s1, r = .ok x s1 ∧ k x s1 = .ok y s := by
  cases r with
  | bad => cases h
  | ex x s => cases h
  | ok x s1 => exact ⟨x, s1, rfl, h⟩
theorem ofO_ok_inv {α : Type} {o : Option α} {st s : Stt} {y : α} (h : Res.ofO st o = .ok y s) : o = some y ∧ s = st := by
  cases o with
  | none => cases h
  | some z => cases h; exact ⟨rfl, rfl⟩
theorem RpM.keep (k : Kp F H F' H') {m : Itm} {d : PyData} (h : RpM K F H m d) : RpM K F' H' m d := by
  cases m with
  | v x => exact Rp.keep k _ _ h
  | p us =>
    obtain ⟨ds, rfl, h⟩ := h
    exact ⟨ds, rfl, RpAll.keep k _ _ h⟩
/-- an item that has come -/
def ItR (K : KW) (F : Addr → Prop) (H : Hp) (x : V) (d : PyData) : Itm → Prop
  | .v _ => Rp K F H x d
  | .p us => ∃ T ds, x = .ref T ∧ SqT K H T us ∧ d = .tuple ds ∧ RpAll K F H us ds
theorem item_ok {m : Itm} {d : PyData} {x : V} {Hx : Hp} (s : StOk K F β B H st) (hy : ItY (some m) H x Hx) (r : RpM K F H m d) : Ext F β H F Hx ∧ StOk K F β B Hx st ∧ (∀ a, H a ≠ none → Hx a = H a) ∧ ItR K F Hx x d m := by
  cases m with
  | v y =>
    obtain ⟨rfl, rfl⟩ := hy
    exact ⟨Ext.refl, s, fun _ _ => rfl, r⟩
  | p us =>
    obtain ⟨T, rfl, hT, rfl⟩ := hy
    obtain ⟨ds, rfl, r⟩ := r
    have e : Ext F β H F (upd H T (.tup us)) := Ext.laid hT
    exact ⟨e, s.laid hT, fun a ha => upd_ne fun z => ha (z ▸ hT), T, ds, rfl, .inl (.inl upd_same), rfl, RpAll.keep (e.kp s) _ _ r⟩
theorem gT_ok2 {P : L2.St → Hp → Prop} {t : Gm.T} {v : V} {d : PyData} {ρ2 : Rho} {m : Itm} (R : RelE K F β B ρ st σ H) (rv : ItR K F H v d m) (hm : m.isV = true ∨ isTp t = true) (e : setT t d ρ = some ρ2)
    (k : ∀ σ2, RelE K F β B ρ2 st σ2 H → σ2.length = σ.length → (∀ i, i ∉ tgs t → σ2[i]? = σ[i]?) → P σ2 H) : gT K t v σ H P := by
  cases m with
  | v y => exact gT_ok R rv e k
  | p us =>
    obtain ⟨T, ds, rfl, hT, rfl, ra⟩ := rv
    cases t with
    | nm i => rcases hm with h | h <;> cases h
    | tp is =>
      have e' : (if ds.length = is.length then some ((is.zip ds).foldl (fun r p => r.set p.1 (some (.d p.2))) ρ) else none) = some ρ2 := e
      split at e'
      · rename_i hl
        cases e'
        exact ⟨_, _, rfl, hT, by rw [ra.length]; exact hl, gNames_ok R ra hl k⟩
      · cases e'
theorem lc_ok {it : It} {t : Gm.T} {cs : Es} {own : List Nat} {elt : E} {tt : TT} (hown : ∀ i ∈ tgs t, i ∈ own) (hpt : isP it = true → isTp t = true) (ht : ∀ σ H Q, tT K mg wxF (semCs Φ cs) σ H Q → tt σ H Q) {Q : VK} (h : tE K mg wx (sem Φ (.lc elt t it cs own)) σ H Q) : tLc (tI (isP it) K mg wx (semI Φ it)) (gT K t) tt (tE K mg wxF (sem Φ elt)) own σ H Q := by
  obtain ⟨F, β, B, ρ, st, R, h⟩ := h
  unfold sem at h
  refine ⟨F, β, B, ρ, st, R, (Post.step back_RR h).imp fun J H1 ⟨xs, st1, F1, e1, s1, ⟨ms, ra, hV, wk⟩, h⟩ D hD => ?_⟩
  have R1 := R.ext e1 s1
  generalize hf : (fun (x : PyData) (s : Stt) => (Res.ofO s (setT t x (wipeR ρ own))).bind fun ρ1 s => (semCs Φ cs ρ1 s).bind fun b s => if b = true then (sem Φ elt ρ1 s).bind fun w s => (Res.ofO s w.py).bind fun y s => .ok (some y) s else .ok none s) = f at h
  cases hc : compL f xs st1 with
  | bad => rw [hc] at h; exact h.elim
  | ex x s => rw [hc] at h; exact h.elim
  | ok ys s2 =>
    rw [hc] at h
    simp only [Res.nox_ok, Res.bind_ok] at h
    split at h
    · rename_i hz
      have hDb : D ∉ β := s1.noB hD
      have hDu : ¬ B.u D := fun hu => (s1.ob D hu).2.2 hD
      have hlen := ra.length
      refine ⟨fun i m H' => m = xs.length - i ∧ i ≤ xs.length ∧ ∃ F' st' acc ds zs, Ext F1 β H1 F' H' ∧ StOk K F' β B H' st' ∧ H' D = some (.lst acc) ∧ RpAll K F' H' acc ds ∧ ¬ F' D ∧ compL f (xs.drop i) st' = .ok zs s2 ∧ ds ++ zs = ys,
        ⟨_, rfl, Nat.zero_le _, F1, st1, [], [], ys, Ext.laid hD, s1.laid hD, upd_same, .nil, fun hF => s1.ft D hF hD, by rw [List.drop_zero]; exact hc, rfl⟩, ?_⟩
      rintro i m H' ⟨rfl, hi, F', st', acc, ds, zs, e', s', hD', rd, hFD, hcc, hys⟩
      have wk' := wk H' e'.un i
      by_cases hlt : i < xs.length
      · obtain ⟨go, yl⟩ := wk'.1 (by omega)
        refine .inr ⟨go, fun H'' => i + 1 ≤ xs.length ∧ ∃ F' st' acc ds zs, Ext F1 β H1 F' H'' ∧ StOk K F' β B H'' st' ∧ H'' D = some (.lst acc) ∧ RpAll K F' H'' acc ds ∧ ¬ F' D ∧ compL f (xs.drop (i + 1)) st' = .ok zs s2 ∧ ds ++ zs = ys,
          fun H'' q => ⟨xs.length - (i + 1), by omega, rfl, q⟩, fun x Hx hx => ?_⟩
        have hm : ms[i]? = some (ms[i]'(by omega)) := List.getElem?_eq_getElem _
        have hmm : (ms[i]'(by omega)) ∈ ms := List.getElem_mem _
        generalize (ms[i]'(by omega)) = m at hm hmm
        have hy := yl x Hx hx
        rw [hm] at hy
        obtain ⟨d, hd, rx⟩ := ra.get hm
        obtain ⟨ex, s', keepx, rx'⟩ := item_ok s' hy (RpM.keep (e'.kp s1) rx)
        have hD' : Hx D = some (.lst acc) := (keepx D (by rw [hD']; exact fun z => nomatch z)).trans hD'
        have rd : RpAll K F' Hx acc ds := RpAll.keep (ex.kp ‹StOk K F' β B H' st'›) _ _ rd
        have e' := e'.trans ex
        have hmt : m.isV = true ∨ isTp t = true := by
          cases hq : isP it with
          | true => exact .inr (hpt hq)
          | false => exact .inl (hV hq m hmm)
        have hdrop : xs.drop i = d :: xs.drop (i + 1) := by
          obtain ⟨hl', hd'⟩ := List.getElem?_eq_some_iff.mp hd
          rw [← hd']
          exact (List.drop_eq_getElem_cons hl')
        rw [hdrop] at hcc
        obtain ⟨o, st3, zs', hfd, hcc2, hzs⟩ := compL_cons hcc
        rw [← hf] at hfd
        simp only at hfd
        obtain ⟨ρ1, sa, q1, hfd2⟩ := bind_ok_inv hfd
        obtain ⟨q1x, q1y⟩ := ofO_ok_inv q1
        subst q1y
        obtain ⟨bb, sb, q2, hfd3⟩ := bind_ok_inv hfd2
        have RX : RelE K F' β B ρ sa σ Hx := R1.ext e' s'
        refine gT_ok2 (RX.wipe own) rx' hmt q1x fun σ2 R2 hl2 h2 => ⟨?_, ?_⟩
        · rw [wipe_eq (σ := σ2) (σ' := wipe σ own) hl2 fun j hj => h2 j fun z => hj (hown j z)]
          exact wipe_eq (wipe_length _ _) fun j hj => wipe_out hj
        · refine ht _ _ _ ⟨F', β, B, ρ1, sa, R2, ?_⟩
          rw [q2]
          intro b' F3 H3 e3 s3 hb
          cases hb
          have R3 := R2.ext e3 s3
          have hx : Hx D ≠ none := by rw [hD']; exact fun z => nomatch z
          have hFD3 : ¬ F3 D := fun hF => (e3.new D hF).elim hFD fun z => hx z.2
          have hD3 : H3 D = some (.lst acc) := by rw [e3.un D hDb hx]; exact hD'
          cases bb with
          | false =>
            simp only [Bool.false_eq_true, if_false] at hfd3 ⊢
            cases hfd3
            subst hzs
            exact ⟨hlt, F3, _, acc, ds, _, e'.trans e3, s3, hD3, RpAll.keep (e3.kp s') _ _ rd, hFD3, hcc2, hys⟩
          | true =>
            simp only [if_true] at hfd3 ⊢
            obtain ⟨w, sc, q3, hfd4⟩ := bind_ok_inv hfd3
            obtain ⟨y, sd, q4, hfd5⟩ := bind_ok_inv hfd4
            obtain ⟨q4x, q4y⟩ := ofO_ok_inv q4
            subst q4y
            cases hfd5
            subst hzs
            refine ⟨F3, β, B, ρ1, sb, R3, ?_⟩
            rw [q3]
            intro yv F4 H4 e4 s4 ry
            have hx3 : H3 D ≠ none := by rw [hD3]; exact fun z => nomatch z
            have hD4 : H4 D = some (.lst acc) := by rw [e4.un D hDb hx3]; exact hD3
            have ez := frz_ext e4
            have sz := frz_st (hB_of R3) s4
            have hFD5 : ¬ frzF F4 β H3 H4 D := fun hF => (ez.new D hF).elim hFD3 fun z => hx3 z.2
            have rp := ry.py q4x
            have kd := kp_out (o := .lst (acc ++ [yv])) hD4 hFD5
            have rd3 : RpAll K F3 H3 acc ds := RpAll.keep (e3.kp s') _ _ rd
            have ra4 : RpAll K (frzF F4 β H3 H4) H4 acc ds := RpAll.keep (ez.kp s3) _ _ rd3
            have hle : ds.length < lineN := by
              have : (ds ++ y :: zs').length ≤ lineN := by rw [hys]; exact hz
              simp at this
              omega
            refine ⟨acc, hD4, by rw [ra4.length]; exact hle, hlt, frzF F4 β H3 H4, _, acc ++ [yv], ds ++ [y], zs', ?_, sz.out hD4 hFD5 hDb hDu, upd_same, RpAll.keep kd _ _ (ra4.append (.cons rp .nil)), hFD5, hcc2, by rw [List.append_assoc]; exact hys⟩
            have ee := (e'.trans e3).trans ez
            refine ⟨ee.sub, ee.new, fun a h1 h2 => ?_⟩
            have hne : a ≠ D := fun e => by rw [e] at h2; exact h2 hD
            rw [upd_ne hne]
            exact ee.un a h1 h2
      · have hie : i = xs.length := by omega
        subst hie
        refine .inl ⟨wk'.2 (by omega), ?_⟩
        rw [List.drop_length] at hcc
        unfold compL at hcc
        cases hcc
        rw [List.append_nil] at hys
        subst hys
        refine Post.doneX h (e1.trans e') s' ⟨⟨D, rfl, ⟨acc, hD', rd⟩, hDb, hFD⟩, fun a ea => ?_⟩
        cases ea
        exact e1.none_back hDb hD
    · exact h.elim
end
end Gm

/-! The deep layer, part Q: enumerate over a list or a tuple, in a for statement. -/
namespace PySem
namespace GmQ
open Sem (wp)
theorem meets_enum1 {v : Value} {o : Obj} {H : Heap → Prop} (B : Begins v o H) :
    Meets (Builtin.«enumerate.__new__» ⟨[.type "enumerate", v], []⟩) (fun _ R s => H s.heap ∧
      R (.ok (.ret (.ref (s.heap.push o).objs.size))) { s with heap := (s.heap.push o).push { cls := .type "enumerate", data := .fields #[.none, .bool false, .ref s.heap.objs.size, rawInt 0, .none, .none] } }) :=
  .of_wp fun prog w A R s h => by
    obtain ⟨hp, g, d, tk, os⟩ := s; obtain ⟨h1, h⟩ := h
    have hsub := sub_enumerate
    have q1 : ∀ {A' : Around} {E : Value → Shared → Prop} {Q : Value → Shared → Prop}, Q (.ref hp.objs.size) ⟨hp.push o, g, d, tk, os⟩ → wpAny (model prog w) A' (pyIter v) Q E ⟨hp, g, d, tk, os⟩ :=
      fun q => B.iter prog w _ _ ⟨hp, g, d, tk, os⟩ _ h1 q
    wp_walk using q1
    refine wpAny_stack_any fun st => wpAny_pure ?_
    split
    · rename_i c _ _ _ _ _
      cases (c == Value.type "enumerate")
      · wp_walk using q1
        exact ⟨_, rfl, h⟩
      · wp_walk using q1
        exact ⟨_, rfl, h⟩
    · wp_walk using q1
      exact ⟨_, rfl, h⟩
section
variable {prog : Program} {w : World} {A : Around} {E : Value → Shared → Prop} {s : Shared}
theorem enum_begins1 {v : Value} {o : Obj} {H : Heap → Prop} {Q : Value → Shared → Prop} (B : Begins v o H) (h1 : H s.heap)
    (h : ∀ h', IsEnum h' (s.heap.objs.size + 1) s.heap.objs.size 0 .none → h'.get? s.heap.objs.size = some o → h'.objs.size = s.heap.objs.size + 2 →
      (∀ b o, s.heap.get? b = some o → h'.get? b = some o) → Q (.ref (s.heap.objs.size + 1)) { s with heap := h' }) :
    wpAny (model prog w) A (call (.type "enumerate") [v]) Q E s := by
  refine callType_new F.called_enumerate (by decide) (F.typeCall_enumerate_1 _) (F.newCall_enumerate_1 _) (fun obj => F.args_object_init_2 obj _) F.entry_enumerate_new
    (meets_enum1 B) ⟨h1, ?_⟩
  have hz : (s.heap.push o).objs.size = s.heap.objs.size + 1 := Heap.size_push ..
  show _ ∧ _
  rw [hz]
  have he : IsEnum ((s.heap.push o).push { cls := .type "enumerate", data := .fields #[.none, .bool false, .ref s.heap.objs.size, rawInt 0, .none, .none] }) (s.heap.objs.size + 1) s.heap.objs.size 0 .none := by
    have := Heap.get?_push_size (s.heap.push o) (o := { cls := .type "enumerate", data := .fields #[.none, .bool false, .ref s.heap.objs.size, rawInt 0, .none, .none] }) rfl
    rw [hz] at this; exact this
  refine ⟨⟨_, he, rfl⟩, h _ he (Heap.get?_push_of_some _ (Heap.get?_push_size _ B.free)) (by rw [Heap.size_push, hz]) fun b o x => Heap.get?_push_of_some _ (Heap.get?_push_of_some _ x)⟩
end
end GmQ
end PySem
namespace Gm
open PySem PySem.Spec PyProof.Rows L2
/-- the tuple at a, each item in a new pair -/
def IteT (K : PySem.W.Frag) (a : Addr) : L2.It :=
  ⟨fun i H => ∃ (xs : List V) (x : V), SqT K H a xs ∧ xs[i]? = some x, fun i H v H' => ∃ T x, v = .ref T ∧ H T = none ∧ H' = upd H T (.tup [.int (i : Nat), x]) ∧ ∀ xs, SqT K H a xs → xs[i]? = some x, fun i H => ∃ xs : List V, SqT K H a xs ∧ xs.length = i⟩
theorem turn_enumT {P : Program} {w : World} {K : PySem.W.Frag} {elts : List Expr} {kk : Nat} {tpos : Pos} (a e it : Addr) :
    Turn P w K (.Tuple elts kk tpos) (IteT K a) [e, it] e (fun i h => (∃ old, IsEnum h e it ((i : Nat) : Int) old) ∧ h.IsTupleIter it a i ∧ e ≠ it) where
  mem := by simp
  obj := fun i h st b hb => by
    obtain ⟨⟨old, he⟩, ⟨o, ho, hc, hd⟩, _⟩ := st
    have e' : b = e ∨ b = it := by simpa using hb
    rcases e' with z | z
    · rw [z]; exact ⟨_, he, fun v q => nomatch q⟩
    · rw [z]; exact ⟨o, ho, fun v q => by rw [hd] at q; cases q⟩
  keep := fun i h h' st k => let ⟨⟨old, he⟩, hi, hne⟩ := st; ⟨⟨old, k e (by simp) _ he⟩, hi.at fun o q => k it (by simp) o q, hne⟩
  item := by
    intro X hP hw hK hc i pins s σ H E I hf st hg
    subst hP hw hK
    obtain ⟨⟨old, he⟩, hit, hne⟩ := st
    obtain ⟨xs, x, hq, hx⟩ := hg
    obtain ⟨its, rv, p, hz⟩ := I.tuple hq
    obtain ⟨u, hu, ru⟩ := rv.get hx
    have hel : e < s.heap.objs.size := Heap.lt_size he
    have hil : it < s.heap.objs.size := by obtain ⟨_, q, _⟩ := hit; exact Heap.lt_size q
    have p' : s.heap.IsTuple a its.toArray := p
    have ha_it : a ≠ it := fun z => by
      obtain ⟨o1, h1, c1, _⟩ := hit
      obtain ⟨o2, h2, c2, _⟩ := p'
      rw [z, h1] at h2
      cases h2
      rw [c1] at c2
      exact absurd c2 (by decide)
    have ha_e : e ≠ a := fun z => by
      obtain ⟨o2, h2, c2, _⟩ := p'
      rw [← z] at h2
      have h3 := h2.symm.trans he
      cases h3
      exact absurd (show Value.type "enumerate" = Value.type "tuple" from c2) (by decide)
    have D := Draws.tuple (prog := X.prog) (w := X.w) (A := X.A.in1) (I.ok.hd hc) it a ha_it its.toArray
    have hu' : its[i]? = some u := hu
    refine wpAny_pyNext_enum_itemD D he ⟨hit, p'⟩ (by have := (List.getElem?_eq_some_iff.mp hu').1; simpa using this) hne (by simp [hne, ha_e]) fun x' h' tk hxx ho hst' hT hsz hk => ?_
    have hxe : x' = u := by
      have h1 : its.toArray[i]? = some x' := hxx
      have h2 : its.toArray[i]? = some u := by simpa using hu'
      rw [h1] at h2
      exact Option.some.inj h2
    subst hxe
    refine ⟨_, rfl, wpAny_letOwnedTupleGo_enum (s := { s with heap := h', toks := tk + 1 }) ho fun h'' he' sb => ?_⟩
    have hT2 : h''.get? s.heap.objs.size = some { cls := .type "tuple", data := .seq #[.int i tk, x'] } := (sb.2 _ (Nat.ne_of_gt hel)).trans hT
    have new : ObjOk X.prog X.w (upd H s.heap.objs.size (.tup [.int (i : Nat), x])) h'' s.heap.objs.size (.tup [.int (i : Nat), x]) :=
      ⟨by show 2 ≤ sizeLine; decide, [.int i tk, x'], .cons ⟨_, rfl⟩ (.cons ru .nil), ⟨_, hT2, rfl, _, rfl⟩⟩
    have I1 : Inv X pins σ (upd H s.heap.objs.size (.tup [.int (i : Nat), x])) { s with heap := h'', toks := tk + 1 } :=
      I.turnedNew (ch := [e, it]) (fun b ob hb q => (sb.2 b (fun z => hb (by simp [z]))).trans (hk b ob (fun z => hb (by simp [z])) (fun z => hb (by simp [z])) q)) hf (Nat.le_refl _) new
    refine ⟨.ref s.heap.objs.size, _, I1, rfl, ⟨_, x, rfl, I.hok.fresh (Nat.le_refl _), rfl, fun ys hy => by rw [I.tuple_inj hy hq]; exact hx⟩, ⟨⟨x', ?_⟩, hst'.1.at fun o q => (sb.2 it (Ne.symm hne)).trans q, hne⟩, fun b hb => ?_⟩
    · have e1 : ((i + 1 : Nat) : Int) = (i : Int) + 1 := by omega
      rw [e1]; exact he'
    · have hb' : b < s.heap.objs.size := by
        have e' : b = e ∨ b = it := by simpa using hb
        rcases e' with z | z
        · rw [z]; exact hel
        · rw [z]; exact hil
      rw [upd_ne (Nat.ne_of_lt hb')]
      exact (hf b hb).1
  done := by
    intro X hP hw hK hc i pins s σ H E I hf st hg
    subst hP hw hK
    obtain ⟨⟨old, he⟩, hit, hne⟩ := st
    obtain ⟨xs, hq, hx⟩ := hg
    obtain ⟨its, rv, p, hz⟩ := I.tuple hq
    have hl := rv.length
    have p' : s.heap.IsTuple a its.toArray := p
    have ha_it : a ≠ it := fun z => by
      obtain ⟨o1, h1, c1, _⟩ := hit
      obtain ⟨o2, h2, c2, _⟩ := p'
      rw [z, h1] at h2
      cases h2
      rw [c1] at c2
      exact absurd c2 (by decide)
    obtain ⟨f0, f1, f2, f3, f4, f5⟩ := hf it (by simp)
    have D := Draws.tuple (prog := X.prog) (w := X.w) (A := X.A.in1) (I.ok.hd hc) it a ha_it its.toArray
    have hn : i = its.toArray.size := by simp; omega
    refine wpAny_pyNext_enum_endD D he (by rw [← hn]; exact ⟨hit, p'⟩) fun h' eb => ⟨rfl, I.turned (t' := s.toks) (fun b o hb q => eb b o hb q) f0 f1 f3 f4 f5⟩
  self := fun A i s Q E st h => let ⟨⟨_, he⟩, _⟩ := st; wpAny_pyIter_enum he h
def iEnumA (K : PySem.W.Frag) (ta : TA) : TI := fun σ H R => ta σ H fun vs H1 => ∃ a, vs = [.ref a] ∧ (((∃ xs, SqL K H1 a xs) ∧ R (Ite K a) H1) ∨ ((∃ xs, SqT K H1 a xs) ∧ R (IteT K a) H1))
theorem pi_enumA {X : Cx} {e : Expr} {ta : TA} {p pos tpos : Pos} {elts : List Expr} {kk : Nat} (hg : Gl X "enumerate") (hm : X.mg "enumerate" = none) (ha : PA X [e] ta) (hs : starEach [e] X.env = [(false, eval e X.env)]) :
    PI X (.Tuple elts kk tpos) (.Call (.Name "enumerate" p) [e] [] pos) (iEnumA X.K ta) := by
  refine ⟨fun pins s σ H R I h => ?_⟩
  refine Call_ (ld_blt I hg hm boot_enumerate (PyProof.Rows.callWith_type1 (thn (ha.run pos pins s σ H _ I h) fun us s1 ⟨vs, H1, I1, r1, q1⟩ => ?_) hs rfl))
  obtain ⟨a, ex, q⟩ := q1
  subst ex
  cases r1 with
  | cons r rr =>
    cases rr
    cases r
    have ff : ∀ b ∈ [s1.heap.objs.size + 1, s1.heap.objs.size], FpOk X pins H1 b := fun b hb => by
      have e' : b = s1.heap.objs.size + 1 ∨ b = s1.heap.objs.size := by simpa using hb
      have hle : s1.heap.objs.size ≤ b := by
        rcases e' with z | z
        · rw [z]; exact Nat.le_add_right _ _
        · rw [z]; exact Nat.le_refl _
      exact I1.fpOk hle (I1.hok.fresh hle)
    rcases q with ⟨⟨xs, hq⟩, q⟩ | ⟨⟨xs, hq⟩, q⟩
    · obtain ⟨its, rv, p', hz⟩ := I1.list hq
      refine call_enumerate_list p'.isList fun h' he hit hsz hk => wpAny_pyIter_enum he ?_
      have I2 : Inv X pins σ H1 { s1 with heap := h' } := I1.kept (t' := s1.toks) hk
      exact ⟨s1.heap.objs.size + 1, [s1.heap.objs.size + 1, s1.heap.objs.size], _, _, H1, rfl, I2, turn_enum a (s1.heap.objs.size + 1) s1.heap.objs.size, ⟨⟨.none, he⟩, hit, Nat.succ_ne_self _⟩, ff, q⟩
    · obtain ⟨its, rv, p', hz⟩ := I1.tuple hq
      refine PySem.GmQ.enum_begins1 (begins_tuple a its.toArray) p' fun h' he hit hsz hk => wpAny_pyIter_enum he ?_
      have I2 : Inv X pins σ H1 { s1 with heap := h' } := I1.kept (t' := s1.toks) hk
      exact ⟨s1.heap.objs.size + 1, [s1.heap.objs.size + 1, s1.heap.objs.size], _, _, H1, rfl, I2, turn_enumT a (s1.heap.objs.size + 1) s1.heap.objs.size, ⟨⟨.none, he⟩, ⟨_, hit, rfl, rfl⟩, Nat.succ_ne_self _⟩, ff, q⟩
end Gm

/-! The deep layer, part F: the checker of expressions; it is right. -/
namespace Gm
open PySem PySem.Spec PyProof.Rows L2
mutual
def eqP : PyData → PyData → Bool
  | .none, y => match y with | .none => true | _ => false
  | .bool a, y => match y with | .bool b => a == b | _ => false
  | .int a, y => match y with | .int b => a == b | _ => false
  | .str a, y => match y with | .str b => a == b | _ => false
  | .list xs, y => match y with | .list ys => eqPs xs ys | _ => false
  | .tuple xs, y => match y with | .tuple ys => eqPs xs ys | _ => false
  | .dict _, _ => false
def eqPs : List PyData → List PyData → Bool
  | [], ys => match ys with | [] => true | _ => false
  | x :: xs, ys => match ys with | y :: ys => eqP x y && eqPs xs ys | _ => false
end
mutual
theorem eqP_eq : ∀ (x y : PyData), eqP x y = true → x = y
  | .none, y, h => by unfold eqP at h; split at h <;> first | rfl | cases h
  | .bool a, y, h => by unfold eqP at h; split at h <;> first | (rw [eq_of_beq h]) | cases h
  | .int a, y, h => by unfold eqP at h; split at h <;> first | (rw [eq_of_beq h]) | cases h
  | .str a, y, h => by unfold eqP at h; split at h <;> first | (rw [eq_of_beq h]) | cases h
  | .list xs, y, h => by unfold eqP at h; split at h <;> first | (rw [eqPs_eq xs _ h]) | cases h
  | .tuple xs, y, h => by unfold eqP at h; split at h <;> first | (rw [eqPs_eq xs _ h]) | cases h
  | .dict _, y, h => by unfold eqP at h; cases h
theorem eqPs_eq : ∀ (x y : List PyData), eqPs x y = true → x = y
  | [], y, h => by unfold eqPs at h; split at h <;> first | rfl | cases h
  | x :: xs, y, h => by
    unfold eqPs at h
    split at h
    · obtain ⟨h1, h2⟩ := Bool.and_eq_true_iff.mp h
      rw [eqP_eq x _ h1, eqPs_eq xs _ h2]
    · cases h
end
def inCo (n : Str) (x : PyData) : List (Str × PyData) → Bool
  | [] => false
  | (m, y) :: r => (decide (n = m) && eqP x y) || inCo n x r
theorem inCo_mem {n : Str} {x : PyData} : ∀ {l : List (Str × PyData)}, inCo n x l = true → (n, x) ∈ l
  | (m, y) :: r, h => by
    unfold inCo at h
    rcases Bool.or_eq_true_iff.mp h with h | h
    · obtain ⟨h1, h2⟩ := Bool.and_eq_true_iff.mp h
      rw [of_decide_eq_true h1, eqP_eq _ _ h2]
      exact List.mem_cons_self
    · exact List.mem_cons_of_mem _ (inCo_mem h)
def visB (sc : Scope) (n : Str) : Bool := match sc.names.lookup n with
  | some .local => true | some .cell => true | some .free => true | _ => false
def locB (sc : Scope) (n : Str) : Bool := match sc.names.lookup n with
  | some .local => true | some .cell => true | _ => false
def glB (sc : Scope) (n : Str) : Bool := match sc.names.lookup n with
  | some .globalImplicit => true | _ => false
theorem visB_ok {sc : Scope} {n : Str} (h : visB sc n = true) : Vis sc n := by
  unfold visB at h
  split at h <;> first | exact .inl (by assumption) | exact .inr (.inl (by assumption)) | exact .inr (.inr (by assumption)) | cases h
theorem locB_ok {sc : Scope} {n : Str} (h : locB sc n = true) : L2.Loc sc n := by
  unfold locB at h
  split at h <;> first | exact .inl (by assumption) | exact .inr (by assumption) | cases h
theorem glB_ok {X : Cx} {sc : Scope} {n : Str} (hs : X.env.scope = sc) (h : glB sc n = true) : Gl X n := by
  unfold glB at h
  split at h
  · show X.env.scope.names.lookup n = _
    rw [hs]; assumption
  · cases h
def nmB (n : Str) : Bool := !(n == ("__debug__" : Str)) && !(n == ("__classdict__" : Str))
theorem nmB_ok {n : Str} (h : nmB n = true) : (n == ("__debug__" : Str)) = false ∧ (n == ("__classdict__" : Str)) = false := by
  unfold nmB at h
  simp only [Bool.and_eq_true, Bool.not_eq_true'] at h
  exact h
def ownOf (N : List Str) (own : List Nat) : List (Str × Nat) := own.filterMap fun i => (N[i]?).map fun n => (n, i)
def chkNames (N : List Str) (sc : Scope) : List Nat → List Expr → Bool
  | [], xs => match xs with | [] => true | _ => false
  | i :: is, xs => match xs with
    | .Name n _ :: xs => decide (N[i]? = some n) && locB sc n && chkNames N sc is xs
    | _ => false
def chkT (N : List Str) (sc : Scope) : T → Expr → Bool
  | .nm i, x => match x with
    | .Name n _ => decide (N[i]? = some n) && locB sc n
    | _ => false
  | .tp is, x => match x with
    | .Tuple xs _ _ => chkNames N sc is xs
    | _ => false
mutual
def chkE (N : List Str) (T : Tb) (sc : Scope) : E → Expr → Bool
  | .var i, x => match x with
    | .Name n _ => decide (N[i]? = some n) && visB sc n && nmB n
    | _ => false
  | .con d, x => match x with
    | .Constant c _ _ => match d, c with
      | .int i, .int j => decide (i = j)
      | .bool i, .bool j => decide (i = j)
      | .str i, .str j => decide (i = j)
      | .none, .none => true
      | _, _ => false
    | _ => false
  | .glo n d, x => match x with
    | .Name m _ => decide (n = m) && inCo n d T.co && glB sc n && nmB n
    | _ => false
  | .bin o a b, x => match x with
    | .BinOp y op z _ => decide (op = bop o) && chkE N T sc a y && chkE N T sc b z
    | _ => false
  | .neg a, x => match x with
    | .UnaryOp .USub y _ => chkE N T sc a y
    | _ => false
  | .nt a, x => match x with
    | .UnaryOp .Not y _ => chkE N T sc a y
    | _ => false
  | .an a b, x => match x with
    | .BoolOp .And (y :: z :: r) p => chkE N T sc a y && (match r with | [] => chkE N T sc b z | _ :: _ => chkE N T sc b (.BoolOp .And (z :: r) p))
    | _ => false
  | .oo a b, x => match x with
    | .BoolOp .Or (y :: z :: r) p => chkE N T sc a y && (match r with | [] => chkE N T sc b z | _ :: _ => chkE N T sc b (.BoolOp .Or (z :: r) p))
    | _ => false
  | .cmp o a b, x => match x with
    | .Compare y [op] [z] _ => decide (op = cop o) && !behindInMarks op z && chkE N T sc a y && chkE N T sc b z
    | _ => false
  | .chn o p a b c, x => match x with
    | .Compare y [op, pp] [z, w] _ => decide (op = cop o) && decide (pp = cop p) && !lastMarks [op, pp] [z, w] && chkE N T sc a y && chkE N T sc b z && chkE N T sc c w
    | _ => false
  | .ite c a b, x => match x with
    | .IfExp y z w _ => chkE N T sc c y && chkE N T sc a z && chkE N T sc b w
    | _ => false
  | .tup es, x => match x with
    | .Tuple xs _ _ => chkEs N T sc es xs
    | _ => false
  | .lst es, x => match x with
    | .List xs _ => chkEs N T sc es xs
    | _ => false
  | .idx a b, x => match x with
    | .Subscript y z _ => plainB z && chkE N T sc a y && chkE N T sc b z
    | _ => false
  | .slc a lo hi, x => match x with
    | .Subscript y (.Slice l u none _) _ => chkE N T sc a y && chkO N T sc lo l && chkO N T sc hi u
    | _ => false
  | .rev a, x => match x with
    | .Subscript y (.Slice none none (some (.UnaryOp .USub (.Constant (.int 1) _ _) _)) _) _ => chkE N T sc a y
    | _ => false
  | .cal n f es, x => match x with
    | .Call (.Name m _) xs [] _ => decide (n = m) && decide ((n, f) ∈ T.fn) && glB sc n && nmB n && noStars xs && chkEs N T sc es xs
    | _ => false
  | .fnv n, x => match x with
    | .Name m _ => decide (n = m) && T.fn.any (fun q => decide (q.1 = n)) && glB sc n && nmB n
    | _ => false
  | .cav i tb es, x => match x with
    | .Call (.Name n _) (y :: ys) [] _ => decide (N[i]? = some n) && visB sc n && nmB n && tb.all (fun q => decide (q ∈ T.fn)) && noStars (y :: ys) && chkEs N T sc es (y :: ys)
    | _ => false
  | .bif b es, x => match x with
    | .Call (.Name m _) (y :: ys) [] _ => decide (m = bname b) && decide (m ∈ T.ab) && glB sc m && noStars (y :: ys) && chkEs N T sc es (y :: ys)
    | _ => false
  | .isi a t, x => match x with
    | .Call (.Name n _) [y, .Name m _] [] _ => decide (n = "isinstance") && decide (n ∈ T.ab) && glB sc n && decide (m = tyn t) && decide (m ∈ T.ab) && glB sc m && noStar y && chkE N T sc a y
    | _ => false
  | .mth m a es, x => match x with
    | .Call (.Attribute y nm apos) [z] [] pos => match m, es with
      | .join, .cons b .nil => decide (nm = "join") && noStar z && plainO y && (apos.endLine == pos.line) && chkE N T sc a y && chkE N T sc b z
      | .split, .cons b .nil => decide (nm = "split") && noStar z && plainO y && (apos.endLine == pos.line) && chkE N T sc a y && chkE N T sc b z
      | _, _ => false
    | _ => false
  | .dnew, x => match x with
    | .Dict [] [] _ => true
    | _ => false
  | .sset a, x => match x with
    | .Call (.Name n _) [.Call (.Name m _) [y] [] _] [] _ => decide (n = "sorted") && decide (n ∈ T.ab) && glB sc n && decide (m = "set") && decide (m ∈ T.ab) && glB sc m && noStar y && chkE N T sc a y
    | _ => false
  | .get1 a b, x => match x with
    | .Call (.Attribute y nm apos) [z] [] pos => decide (nm = "get") && noStar z && plainO y && (apos.endLine == pos.line) && chkE N T sc a y && chkE N T sc b z
    | _ => false
  | .get2 a b c, x => match x with
    | .Call (.Attribute y nm apos) [z, w] [] pos => decide (nm = "get") && noStar z && noStar w && plainO y && (apos.endLine == pos.line) && chkE N T sc a y && chkE N T sc b z && chkE N T sc c w
    | _ => false
  | .lc elt t it cs own, x => match x with
    | .ListComp y [⟨tg, iter, ifs, 0⟩] scope _ => decide ((ownOf N own).map (·.2) = own) && blkC N sc scope (ownOf N own) && (tgs t).all (fun i => decide (i ∈ own)) && noSet iter && chkT N scope t tg &&
        chkI N T sc it tg iter && chkCs N T (relS scope sc) cs ifs && chkE N T (relS scope sc) elt y && (!isP it || isTp t)
    | _ => false
def chkEs (N : List Str) (T : Tb) (sc : Scope) : Es → List Expr → Bool
  | .nil, xs => match xs with | [] => true | _ => false
  | .cons e r, xs => match xs with | x :: xs => noStar x && chkE N T sc e x && chkEs N T sc r xs | _ => false
def chkO (N : List Str) (T : Tb) (sc : Scope) : Es → Option Expr → Bool
  | .nil, x => match x with | none => true | _ => false
  | .cons e r, x => match x with | some x => chkE N T sc e x && chkEs N T sc r [] | _ => false
def chkCs (N : List Str) (T : Tb) (sc : Scope) : Es → List Expr → Bool
  | .nil, xs => match xs with | [] => true | _ => false
  | .cons e r, xs => match xs with | [x] => chkE N T sc e x && chkEs N T sc r [] | _ => false
def chkI (N : List Str) (T : Tb) (sc : Scope) : It → Expr → Expr → Bool
  | .of a, _, x => chkE N T sc a x
  | .rng a, _, x => match x with
    | .Call (.Name n _) [y] [] _ => decide (n = "range") && decide (n ∈ T.ab) && glB sc n && noStar y && chkE N T sc a y
    | _ => false
  | .rng2 a b, _, x => match x with
    | .Call (.Name n _) [y, z] [] _ => decide (n = "range") && decide (n ∈ T.ab) && glB sc n && noStar y && noStar z && chkE N T sc a y && chkE N T sc b z
    | _ => false
  | .enum a, tg, x => match tg with
    | .Tuple _ _ _ => match x with
      | .Call (.Name n _) [y] [] _ => decide (n = "enumerate") && decide (n ∈ T.ab) && glB sc n && noStar y && chkE N T sc a y
      | _ => false
    | _ => false
  | .zip a b, tg, x => match tg with
    | .Tuple _ _ _ => match x with
      | .Call (.Name n _) [y, z] [] _ => decide (n = "zip") && decide (n ∈ T.ab) && glB sc n && noStar y && noStar z && chkE N T sc a y && chkE N T sc b z
      | _ => false
    | _ => false
end
/-- what the checker's answer means, in every context -/
structure Fits (X : Cx) (Φ : Phi) (T : Tb) (wx : WX) (N : List Str) (sc : Scope) : Prop where
  side : Side X Φ T wx
  n : X.N = N
  scp : X.env.scope = sc
section
variable {X : Cx} {Φ : Phi} {T : Tb} {wx : WX} {N : List Str} {sc : Scope}
theorem names_ok {X : Cx} {N : List Str} {sc' : Scope} (hN : X.N = N) (hnd : X.N.Nodup) (hsc : ∀ n, L2.Loc sc' n → L2.Loc X.env.scope n ∧ (X.fn n = true ∨ X.env.scope.names.lookup n = some .local)) : ∀ {is : List Nat} {xs : List Expr}, chkNames N sc' is xs = true →
    PGs X xs (gNames is) ∧ (assignEach xs X.env).length = is.length ∧ (assignEach xs X.env).findIdx? (·.1) = none
  | [], xs, h => by
    unfold chkNames at h
    split at h
    · exact ⟨pgs_nil, rfl, rfl⟩
    · cases h
  | i :: is, xs, h => by
    unfold chkNames at h
    split at h
    · rename_i n p xs
      simp only [Bool.and_eq_true, decide_eq_true_eq] at h
      obtain ⟨⟨h1, h2⟩, h3⟩ := h
      obtain ⟨g1, g2, g3⟩ := names_ok hN hnd hsc h3
      obtain ⟨l1, l2⟩ := hsc n (locB_ok h2)
      refine ⟨pgs_cons (pg_name hnd (by rw [hN]; exact h1) l1 l2) g1, ?_, ?_⟩
      · show (assignEach xs X.env).length + 1 = is.length + 1
        rw [g2]
      · show ((false, _) :: assignEach xs X.env).findIdx? (·.1) = none
        rw [List.findIdx?_cons, g3]
        rfl
    · cases h
theorem tg_ok {X : Cx} {N : List Str} {sc' : Scope} {t : Gm.T} {tg : Expr} (hc : X.calm = true) (hN : X.N = N) (hnd : X.N.Nodup) (hsc : ∀ n, L2.Loc sc' n → L2.Loc X.env.scope n ∧ (X.fn n = true ∨ X.env.scope.names.lookup n = some .local)) (h : chkT N sc' t tg = true) : PG X tg (gT (kw X) t) := by
  cases t with
  | nm i =>
    simp only [chkT] at h
    split at h
    · rename_i n p
      simp only [Bool.and_eq_true, decide_eq_true_eq] at h
      obtain ⟨l1, l2⟩ := hsc n (locB_ok h.2)
      exact pg_name hnd (by rw [hN]; exact h.1) l1 l2
    · cases h
  | tp is =>
    simp only [chkT] at h
    split at h
    · obtain ⟨g1, g2, g3⟩ := names_ok hN hnd hsc h
      exact pg_tup hc g1 g2 g3
    · cases h
theorem blk_fits (f : Fits X Φ T wx N sc) {scope : Scope} (s : Shared) (H : Hp) (C : Addr) (cl : List (Str × Addr)) (fp : List Addr) :
    Side (X.blk s H scope (compEnvC scope cl C X.env) fp) Φ T wxF :=
  ⟨f.side.nd, f.side.calm, f.side.un, f.side.gu, fun u s' ⟨_, _, _, _, _, _, _, _, _, _, _, _, _, _, _, _, w⟩ => w.elim, f.side.pl, f.side.co, f.side.ab, f.side.fn, f.side.xc, f.side.xr, f.side.rm⟩
theorem loc_relS {scope sc : Scope} {n : Str} (h : L2.Loc scope n) : L2.Loc (relS scope sc) n ∧ ((scope.names.lookup n == some .cell) = true ∨ (relS scope sc).names.lookup n = some .local) := by
  rcases h with h | h
  · have := lookup_relS_keep (sc := sc) (by decide) h
    exact ⟨.inl this, .inr this⟩
  · have := lookup_relS_keep (sc := sc) (by decide) h
    exact ⟨.inr this, .inl (by rw [h]; rfl)⟩
theorem blk_fits' (f : Fits X Φ T wx N sc) {scope : Scope} (s : Shared) (H : Hp) (C : Addr) (cl : List (Str × Addr)) (fp : List Addr) :
    Fits (X.blk s H scope (compEnvC scope cl C X.env) fp) Φ T wxF N (relS scope sc) := ⟨blk_fits f s H C cl fp, f.n, by rw [← f.scp]; rfl⟩
end
end Gm

/-! The deep layer, part F2: the checker of expressions is right. -/
namespace Gm
open PySem PySem.Spec PyProof.Rows L2
theorem chkEs_nil {N : List Str} {T : Tb} {sc : Scope} {r : Es} (h : chkEs N T sc r [] = true) : r = .nil := by
  cases r with
  | nil => rfl
  | cons e r => unfold chkEs at h; cases h
section
variable {Φ : Phi} {T : Tb} {N : List Str}
theorem val_both {X : Cx} {wx : WX} {x : Expr} {e : E} (h : PE X x (tEs X Φ wx e)) (hp : plainT x = true) : PE X x (tEs X Φ wx e) ∧ PT X x (tTs X Φ wx e) := ⟨h, t_val h hp⟩
/-- a comprehension's parts -/
theorem lc_parts {X : Cx} {wx : WX} {sc scope : Scope} {elt : E} {t : Gm.T} {it : It} {cs : Es} {own : List Nat} {y tg : Expr} {ifs : List Expr} (f : Fits X Φ T wx N sc)
    (h1 : (ownOf N own).map (·.2) = own) (h2 : blkC N sc scope (ownOf N own) = true) (h3 : (tgs t).all (fun i => decide (i ∈ own)) = true) (h9 : (!isP it || isTp t) = true) (h5 : chkT N scope t tg = true)
    (hcs : ∀ {X : Cx} {sc : Scope} (ifs : List Expr), Fits X Φ T wxF N sc → chkCs N T sc cs ifs = true → ∃ tt : TT, PTs X ifs tt ∧ tt = match cs with | .nil => tYes | .cons e _ => tTs X Φ wxF e)
    (h7 : chkCs N T (relS scope sc) cs ifs = true)
    (helt : ∀ {X : Cx} {sc : Scope} (x : Expr), Fits X Φ T wxF N sc → chkE N T sc elt x = true → PE X x (tEs X Φ wxF elt)) (h8 : chkE N T (relS scope sc) elt y = true) :
    ∃ tt : TT, BlkOk X.N X.env.scope scope (ownOf N own) ∧
      (∀ (s : Shared) (H : Hp) (C : Addr) (cl : List (Str × Addr)) (fp : List Addr), PG (X.blk s H scope (compEnvC scope cl C X.env) fp) tg (gT (kw X) t)) ∧
      (∀ (s : Shared) (H : Hp) (C : Addr) (cl : List (Str × Addr)) (fp : List Addr), PTs (X.blk s H scope (compEnvC scope cl C X.env) fp) ifs tt) ∧
      (∀ (s : Shared) (H : Hp) (C : Addr) (cl : List (Str × Addr)) (fp : List Addr), PE (X.blk s H scope (compEnvC scope cl C X.env) fp) y (tEs X Φ wxF elt)) ∧
      ∀ (σ : L2.St) (H : Hp) (Q : VK), tEs X Φ wx (.lc elt t it cs own) σ H Q → tLc (tI (isP it) (kw X) X.mg wx (semI Φ it)) (gT (kw X) t) tt (tEs X Φ wxF elt) ((ownOf N own).map (·.2)) σ H Q := by
  refine ⟨match cs with | .nil => tYes | .cons e _ => tTs X Φ wxF e, ?_, ?_, ?_, ?_, ?_⟩
  · rw [f.n, f.scp]; exact blkOk_by h2
  · intro s H C cl fp
    refine tg_ok (X := X.blk s H scope (compEnvC scope cl C X.env) fp) f.side.calm f.n f.side.nd (fun n hn => ?_) h5
    have := loc_relS (sc := X.env.scope) hn
    exact this
  · intro s H C cl fp
    obtain ⟨tt, g1, g2⟩ := hcs ifs (blk_fits' f s H C cl fp) h7
    rw [g2] at g1
    cases cs <;> exact g1
  · intro s H C cl fp
    exact helt y (blk_fits' f s H C cl fp) h8
  · intro σ H Q h
    rw [h1]
    refine lc_ok (fun i hi => of_decide_eq_true (List.all_eq_true.mp h3 i hi)) (fun q => by rw [q] at h9; exact h9) (fun σ H Q h => ?_) h
    cases cs with
    | nil =>
      obtain ⟨F, β, B, ρ, st, R, h⟩ := h
      unfold semCs at h
      exact Post.done h R.st rfl
    | cons e r =>
      have hr : r = .nil := by
        unfold chkCs at h7
        split at h7
        · exact chkEs_nil (Bool.and_eq_true_iff.mp h7).2
        · cases h7
      subst hr
      obtain ⟨F, β, B, ρ, st, R, h⟩ := h
      refine ⟨F, β, B, ρ, st, R, ?_⟩
      have e1 : semCs Φ (.cons e .nil) ρ st = ((sem Φ e ρ st).bind truth) := by
        unfold semCs
        rw [show (fun x s1 => (truth x s1).bind fun b s2 => if b = true then semCs Φ .nil ρ s2 else Res.ok false s2) = truth from ?_]
        funext x s1
        cases q : truth x s1 with
        | bad => rfl
        | ex x s => rfl
        | ok b s2 => cases b <;> first | rfl | (simp only [Res.bind_ok, if_true]; rw [semCs])
      rw [e1] at h
      exact h
mutual
theorem chkE_ok : ∀ (e : E) {X : Cx} {wx : WX} {sc : Scope} (x : Expr), Fits X Φ T wx N sc → chkE N T sc e x = true → PE X x (tEs X Φ wx e) ∧ PT X x (tTs X Φ wx e)
  | .var i, X, wx, sc, x, f, h => by
    unfold chkE at h
    split at h
    · simp only [Bool.and_eq_true, decide_eq_true_eq] at h
      obtain ⟨n1, n2⟩ := nmB_ok h.2
      exact val_both (e_var (by rw [f.n]; exact h.1.1) (by rw [f.scp]; exact visB_ok h.1.2) n1 n2) rfl
    · cases h
  | .con d, X, wx, sc, x, f, h => by
    unfold chkE at h
    split at h
    · split at h
      · cases of_decide_eq_true h
        exact val_both (e_d pe_int (fun _ _ => .int _) fun _ _ => by rw [sem]) rfl
      · cases of_decide_eq_true h
        exact val_both (e_d pe_bl (fun _ _ => .bl _) fun _ _ => by rw [sem]) rfl
      · cases of_decide_eq_true h
        exact val_both (e_d pe_str (fun _ _ => .str _) fun _ _ => by rw [sem]) rfl
      · exact val_both (e_d pe_non (fun _ _ => .non) fun _ _ => by rw [sem]) rfl
      · cases h
    · cases h
  | .glo n d, X, wx, sc, x, f, h => by
    unfold chkE at h
    split at h
    · simp only [Bool.and_eq_true, decide_eq_true_eq] at h
      obtain ⟨⟨⟨h1, h2⟩, h3⟩, h4⟩ := h
      subst h1
      exact val_both (e_glo f.side (inCo_mem h2) (glB_ok f.scp h3) (nmB_ok h4).1) rfl
    · cases h
  | .bin o a b, X, wx, sc, x, f, h => by
    unfold chkE at h
    split at h
    · simp only [Bool.and_eq_true, decide_eq_true_eq] at h
      obtain ⟨⟨h1, h2⟩, h3⟩ := h
      subst h1
      exact val_both (e_bin (chkE_ok a _ f h2).1 (chkE_ok b _ f h3).1) rfl
    · cases h
  | .neg a, X, wx, sc, x, f, h => by
    unfold chkE at h
    split at h
    · exact val_both (e_neg (chkE_ok a _ f h).1) rfl
    · cases h
  | .nt a, X, wx, sc, x, f, h => by
    unfold chkE at h
    split at h
    · have := chkE_ok a _ f h
      exact ⟨e_not this.1, t_not this.2⟩
    · cases h
  | .an a b, X, wx, sc, x, f, h => by
    unfold chkE at h
    split at h
    · obtain ⟨h1, h2⟩ := Bool.and_eq_true_iff.mp h
      have ha := chkE_ok a _ f h1
      split at h2
      · have hb := chkE_ok b _ f h2
        exact ⟨e_and ha.1 (pe_one hb.1), t_and ha.2 (t_one hb.2)⟩
      · have hb := chkE_ok b _ f h2
        exact ⟨e_and ha.1 hb.1, t_and ha.2 hb.2⟩
    · cases h
  | .oo a b, X, wx, sc, x, f, h => by
    unfold chkE at h
    split at h
    · obtain ⟨h1, h2⟩ := Bool.and_eq_true_iff.mp h
      have ha := chkE_ok a _ f h1
      split at h2
      · have hb := chkE_ok b _ f h2
        exact ⟨e_or ha.1 (pe_one hb.1), t_or ha.2 (t_one hb.2)⟩
      · have hb := chkE_ok b _ f h2
        exact ⟨e_or ha.1 hb.1, t_or ha.2 hb.2⟩
    · cases h
  | .cmp o a b, X, wx, sc, x, f, h => by
    unfold chkE at h
    split at h
    · simp only [Bool.and_eq_true, decide_eq_true_eq, Bool.not_eq_true'] at h
      obtain ⟨⟨⟨h1, h2⟩, h3⟩, h4⟩ := h
      subst h1
      have ha := chkE_ok a _ f h3
      have hb := chkE_ok b _ f h4
      exact ⟨e_cmp f.side ha.1 hb.1 h2, t_cmp f.side ha.1 hb.1 h2⟩
    · cases h
  | .chn o p a b c, X, wx, sc, x, f, h => by
    unfold chkE at h
    split at h
    · simp only [Bool.and_eq_true, decide_eq_true_eq, Bool.not_eq_true'] at h
      obtain ⟨⟨⟨⟨⟨h1, h1'⟩, h2⟩, h3⟩, h4⟩, h5⟩ := h
      subst h1 h1'
      have ha := chkE_ok a _ f h3
      have hb := chkE_ok b _ f h4
      have hc := chkE_ok c _ f h5
      exact ⟨e_chn f.side ha.1 hb.1 hc.1 h2, t_chn f.side ha.1 hb.1 hc.1 h2⟩
    · cases h
  | .ite c a b, X, wx, sc, x, f, h => by
    unfold chkE at h
    split at h
    · simp only [Bool.and_eq_true] at h
      obtain ⟨⟨h1, h2⟩, h3⟩ := h
      have hc := chkE_ok c _ f h1
      have ha := chkE_ok a _ f h2
      have hb := chkE_ok b _ f h3
      exact ⟨e_ite hc.2 ha.1 hb.1, t_ite hc.2 ha.2 hb.2⟩
    · cases h
  | .tup es, X, wx, sc, x, f, h => by
    unfold chkE at h
    split at h
    · exact val_both (e_tup (chkEs_ok es _ f h).1) rfl
    · cases h
  | .lst es, X, wx, sc, x, f, h => by
    unfold chkE at h
    split at h
    · exact val_both (e_lst (chkEs_ok es _ f h).1) rfl
    · cases h
  | .idx a b, X, wx, sc, x, f, h => by
    unfold chkE at h
    split at h
    · simp only [Bool.and_eq_true] at h
      exact val_both (e_idx f.side (chkE_ok a _ f h.1.2).1 (chkE_ok b _ f h.2).1 h.1.1) rfl
    · cases h
  | .slc a lo hi, X, wx, sc, x, f, h => by
    unfold chkE at h
    split at h
    · simp only [Bool.and_eq_true] at h
      exact val_both (e_slc (chkE_ok a _ f h.1.1).1 (chkO_ok lo _ f h.1.2) (chkO_ok hi _ f h.2)) rfl
    · cases h
  | .rev a, X, wx, sc, x, f, h => by
    unfold chkE at h
    split at h
    · exact val_both (e_rev (chkE_ok a _ f h).1) rfl
    · cases h
  | .cal n g es, X, wx, sc, x, f, h => by
    unfold chkE at h
    split at h
    · rename_i m p xs pos
      simp only [Bool.and_eq_true, decide_eq_true_eq] at h
      obtain ⟨⟨⟨⟨⟨h1, h2⟩, h3⟩, h4⟩, h5⟩, h6⟩ := h
      subst h1
      have ha := chkEs_ok es _ f h6
      cases xs with
      | nil =>
        have : es = .nil := chkEs_nil h6
        subst this
        exact val_both (e_cal0 f.side h2 (glB_ok f.scp h3) (nmB_ok h4).1) rfl
      | cons y ys => exact val_both (e_cal f.side h2 (glB_ok f.scp h3) (nmB_ok h4).1 ha.1 h5 rfl) rfl
    · cases h
  | .fnv n, X, wx, sc, x, f, h => by
    unfold chkE at h
    split at h
    · simp only [Bool.and_eq_true, decide_eq_true_eq, List.any_eq_true] at h
      obtain ⟨⟨⟨h1, ⟨m, g⟩, h2, h3⟩, h4⟩, h5⟩ := h
      subst h1
      subst h3
      exact val_both (e_fnv f.side h2 (glB_ok f.scp h4) (nmB_ok h5).1) rfl
    · cases h
  | .cav i tb es, X, wx, sc, x, f, h => by
    unfold chkE at h
    split at h
    · simp only [Bool.and_eq_true, decide_eq_true_eq, List.all_eq_true] at h
      obtain ⟨⟨⟨⟨⟨h1, h2⟩, h3⟩, h4⟩, h5⟩, h6⟩ := h
      obtain ⟨n1, n2⟩ := nmB_ok h3
      exact val_both (e_cav f.side h4 (by rw [f.n]; exact h1) (by rw [f.scp]; exact visB_ok h2) n1 n2 (chkEs_ok es _ f h6).1 h5) rfl
    · cases h
  | .bif b es, X, wx, sc, x, f, h => by
    unfold chkE at h
    split at h
    · simp only [Bool.and_eq_true, decide_eq_true_eq] at h
      obtain ⟨⟨⟨⟨h1, h2⟩, h3⟩, h5⟩, h6⟩ := h
      exact val_both (e_bif f.side h1 h2 (glB_ok f.scp h3) (chkEs_ok es _ f h6).1 h5) rfl
    · cases h
  | .isi a t, X, wx, sc, x, f, h => by
    unfold chkE at h
    split at h
    · simp only [Bool.and_eq_true, decide_eq_true_eq] at h
      obtain ⟨⟨⟨⟨⟨⟨⟨h1, h2⟩, h3⟩, h4⟩, h5⟩, h6⟩, h7⟩, h8⟩ := h
      exact val_both (e_isi f.side h1 h2 (glB_ok f.scp h3) h4 h5 (glB_ok f.scp h6) (chkE_ok a _ f h8).1 h7) rfl
    · cases h
  | .mth m a es, X, wx, sc, x, f, h => by
    unfold chkE at h
    split at h
    · split at h
      · simp only [Bool.and_eq_true, decide_eq_true_eq] at h
        obtain ⟨⟨⟨⟨⟨h1, h2⟩, h3⟩, h4⟩, h5⟩, h6⟩ := h
        exact val_both (e_join h1 (chkE_ok a _ f h5).1 (chkE_ok _ _ f h6).1 h2 h3 h4) rfl
      · simp only [Bool.and_eq_true, decide_eq_true_eq] at h
        obtain ⟨⟨⟨⟨⟨h1, h2⟩, h3⟩, h4⟩, h5⟩, h6⟩ := h
        exact val_both (e_split h1 (chkE_ok a _ f h5).1 (chkE_ok _ _ f h6).1 h2 h3 h4) rfl
      · cases h
    · cases h
  | .dnew, X, wx, sc, x, f, h => by
    unfold chkE at h
    split at h
    · exact val_both e_dnew rfl
    · cases h
  | .sset a, X, wx, sc, x, f, h => by
    unfold chkE at h
    split at h
    · simp only [Bool.and_eq_true, decide_eq_true_eq] at h
      obtain ⟨⟨⟨⟨⟨⟨⟨h1, h2⟩, h3⟩, h4⟩, h5⟩, h6⟩, h7⟩, h8⟩ := h
      exact val_both (e_sset f.side h1 h2 (glB_ok f.scp h3) h4 h5 (glB_ok f.scp h6) (chkE_ok a _ f h8).1 h7) rfl
    · cases h
  | .get1 a b, X, wx, sc, x, f, h => by
    unfold chkE at h
    split at h
    · simp only [Bool.and_eq_true, decide_eq_true_eq] at h
      obtain ⟨⟨⟨⟨⟨h1, h2⟩, h3⟩, h4⟩, h5⟩, h6⟩ := h
      exact val_both (e_get1 f.side h1 (chkE_ok a _ f h5).1 (chkE_ok b _ f h6).1 h2 h3 h4) rfl
    · cases h
  | .get2 a b c, X, wx, sc, x, f, h => by
    unfold chkE at h
    split at h
    · simp only [Bool.and_eq_true, decide_eq_true_eq] at h
      obtain ⟨⟨⟨⟨⟨⟨⟨h1, h2⟩, h2b⟩, h3⟩, h4⟩, h5⟩, h6⟩, h7⟩ := h
      exact val_both (e_get2 f.side h1 (chkE_ok a _ f h5).1 (chkE_ok b _ f h6).1 (chkE_ok c _ f h7).1 h2 h2b h3 h4) rfl
    · cases h
  | .lc elt t it cs own, X, wx, sc, x, f, h => by
    unfold chkE at h
    split at h
    · simp only [Bool.and_eq_true, decide_eq_true_eq] at h
      obtain ⟨⟨⟨⟨⟨⟨⟨⟨h1, h2⟩, h3⟩, h4⟩, h5⟩, h6⟩, h7⟩, h8⟩, h9⟩ := h
      obtain ⟨tt, g1, g2, g3, g4, g5⟩ := lc_parts (wx := wx) (it := it) f h1 h2 h3 h9 h5 (fun ifs f h => chkCs_ok cs ifs f h) h7 (fun x f h => (chkE_ok elt x f h).1) h8
      exact val_both (PE.imp (pe_lc f.side.calm f.side.nd (chkI_ok it _ _ f h6) g1 g2 g3 g4 (folded_of h4)) g5) rfl
    · cases h
theorem chkEs_ok : ∀ (es : Es) {X : Cx} {wx : WX} {sc : Scope} (xs : List Expr), Fits X Φ T wx N sc → chkEs N T sc es xs = true → PA X xs (tEss X Φ wx es) ∧ noStars xs = true
  | .nil, X, wx, sc, xs, f, h => by
    unfold chkEs at h
    split at h
    · exact ⟨a_nil, rfl⟩
    · cases h
  | .cons e r, X, wx, sc, xs, f, h => by
    unfold chkEs at h
    split at h
    · simp only [Bool.and_eq_true] at h
      obtain ⟨g1, g2⟩ := chkEs_ok r _ f h.2
      exact ⟨a_cons (chkE_ok e _ f h.1.2).1 g1 h.1.1, by unfold noStars; rw [h.1.1, g2]; rfl⟩
    · cases h
theorem chkO_ok : ∀ (es : Es) {X : Cx} {wx : WX} {sc : Scope} (x : Option Expr), Fits X Φ T wx N sc → chkO N T sc es x = true → PO X x (tOs X Φ wx es)
  | .nil, X, wx, sc, xs, f, h => by
    unfold chkO at h
    split at h
    · exact o_none
    · cases h
  | .cons e r, X, wx, sc, xs, f, h => by
    unfold chkO at h
    split at h
    · obtain ⟨h1, h2⟩ := Bool.and_eq_true_iff.mp h
      cases chkEs_nil h2
      exact o_some (chkE_ok e _ f h1).1
    · cases h
theorem chkCs_ok : ∀ (cs : Es) {X : Cx} {sc : Scope} (ifs : List Expr), Fits X Φ T wxF N sc → chkCs N T sc cs ifs = true → ∃ tt : TT, PTs X ifs tt ∧ tt = match cs with | .nil => tYes | .cons e _ => tTs X Φ wxF e
  | .nil, X, sc, xs, f, h => by
    unfold chkCs at h
    split at h
    · exact ⟨_, pts_nil, rfl⟩
    · cases h
  | .cons e r, X, sc, xs, f, h => by
    unfold chkCs at h
    split at h
    · obtain ⟨h1, h2⟩ := Bool.and_eq_true_iff.mp h
      exact ⟨_, pts_one (chkE_ok e _ f h1).2, rfl⟩
    · cases h
theorem chkI_ok : ∀ (it : It) {X : Cx} {wx : WX} {sc : Scope} (tg x : Expr), Fits X Φ T wx N sc → chkI N T sc it tg x = true → PI X tg x (tI (isP it) (kw X) X.mg wx (semI Φ it))
  | .of a, X, wx, sc, tg, x, f, h => by
    unfold chkI at h
    exact i_of (chkE_ok a _ f h).1
  | .rng a, X, wx, sc, tg, x, f, h => by
    unfold chkI at h
    split at h
    · simp only [Bool.and_eq_true, decide_eq_true_eq] at h
      obtain ⟨⟨⟨⟨h1, h2⟩, h3⟩, h4⟩, h5⟩ := h
      exact i_rng (rep := fun β _ => RI false (kw X) β) (fun _ _ => back_RI) (fun _ _ _ _ _ _ _ _ ra w => RI.of ra fun H2 _ => w H2) h1 f.side h2 (glB_ok f.scp h3) (chkE_ok a _ f h5).1 h4
    · cases h
  | .rng2 a b, X, wx, sc, tg, x, f, h => by
    unfold chkI at h
    split at h
    · simp only [Bool.and_eq_true, decide_eq_true_eq] at h
      obtain ⟨⟨⟨⟨⟨⟨h1, h2⟩, h3⟩, h4⟩, h4'⟩, h5⟩, h6⟩ := h
      exact i_rng2 (rep := fun β _ => RI false (kw X) β) (fun _ _ => back_RI) (fun _ _ _ _ _ _ _ _ ra w => RI.of ra fun H2 _ => w H2) h1 f.side h2 (glB_ok f.scp h3) (chkE_ok a _ f h5).1 h4 (chkE_ok b _ f h6).1 h4'
    · cases h
  | .enum a, X, wx, sc, tg, x, f, h => by
    unfold chkI at h
    split at h
    · split at h
      · simp only [Bool.and_eq_true, decide_eq_true_eq] at h
        obtain ⟨⟨⟨⟨h1, h2⟩, h3⟩, h4⟩, h5⟩ := h
        have hm := f.side.ab _ h2
        subst h1
        exact PI.imp (pi_enumA (glB_ok f.scp h3) hm (a_cons (chkE_ok a _ f h5).1 a_nil h4) (by rw [star_of h4]; rfl)) fun σ H Q ⟨F, β, B, ρ, st, R, h⟩ => by
          unfold semI at h
          exact h.elim
      · cases h
    · cases h
  | .zip a b, X, wx, sc, tg, x, f, h => by
    unfold chkI at h
    split at h
    · split at h
      · simp only [Bool.and_eq_true, decide_eq_true_eq] at h
        obtain ⟨⟨⟨⟨⟨⟨h1, h2⟩, h3⟩, h4⟩, h4'⟩, h5⟩, h6⟩ := h
        exact i_zip h1 f.side h2 (glB_ok f.scp h3) (chkE_ok a _ f h5).1 h4 (chkE_ok b _ f h6).1 h4'
      · cases h
    · cases h
end
end
end Gm

/-! The deep layer, part G: frames over statements. -/
namespace Gm
open PySem PySem.Spec PyProof.Rows L2
/-- a function's entry: what was frozen, the cells, the borrowed objects, the heap; marks: what is to stay as it was at a loop's start -/
structure Ent where
  F : Addr → Prop
  β : List Addr
  P : Addr → Prop
  H : Hp
  M : List ((Addr → Prop) × Hp)
structure Since (E : Ent) (F : Addr → Prop) (β : List Addr) (B : Bs) (H : Hp) : Prop where
  ext : Ext E.F E.β E.H F H
  pre : ∃ β1, β = E.β ++ β1 ∧ ∀ a ∈ β1, E.H a = none
  bb : B.b = E.P
  bp : ∀ a, E.P a → a ∉ E.β ∧ E.H a ≠ none
  oo : ∀ a, B.o a → E.H a = none
  mks : ∀ m ∈ E.M, Kp m.1 m.2 F H
structure RelS (K : KW) (E : Ent) (F : Addr → Prop) (β : List Addr) (B : Bs) (ρ : Rho) (st : Stt) (σ : L2.St) (H : Hp) : Prop where
  rel : RelE K F β B ρ st σ H
  since : Since E F β B H
theorem nodup_ix' {N : List Addr} (hN : N.Nodup) {i j : Nat} {x : Addr} (a : N[i]? = some x) (b : N[j]? = some x) : i = j := by
  obtain ⟨h1, e1⟩ := List.getElem?_eq_some_iff.mp a
  obtain ⟨h2, e2⟩ := List.getElem?_eq_some_iff.mp b
  exact (List.getElem_inj hN).mp (e1.trans e2.symm)
theorem Kp.trans {F F1 F2 : Addr → Prop} {H H1 H2 : Hp} (a : Kp F H F1 H1) (b : Kp F1 H1 F2 H2) : Kp F H F2 H2 := ⟨fun x h => b.sub x (a.sub x h), fun x xs h => b.tup x xs (a.tup x xs h), fun x o xs h => b.tupz x o xs (a.tupz x o xs h), fun x xs hf h => b.lst x xs (a.sub x hf) (a.lst x xs hf h), fun x hf h => by have e := a.fz x hf h; rw [b.fz x (a.sub x hf) (by rw [e]; exact h), e]⟩
section
variable {K : KW} {E : Ent} {F F' F1 : Addr → Prop} {β : List Addr} {B B' : Bs} {ρ : Rho} {st st' st1 : Stt} {σ : L2.St} {H H' H1 : Hp}
theorem Since.sub (S : Since E F β B H) {a : Addr} (h : a ∈ E.β) : a ∈ β := by
  obtain ⟨β1, e, _⟩ := S.pre
  rw [e]
  exact List.mem_append_left _ h
theorem Since.nonB (S : Since E F β B H) {a : Addr} (h : a ∈ β) (n : a ∉ E.β) : E.H a = none := by
  obtain ⟨β1, e, g⟩ := S.pre
  rw [e] at h
  exact (List.mem_append.mp h).elim (fun z => absurd z n) (g a)
/-- not there now, not there at the entry -/
theorem Since.noneH (S : Since E F β B H) {a : Addr} (h : a ∉ β) (n : H a = none) : E.H a = none := S.ext.none_back (fun z => h (S.sub z)) n
theorem Since.step (S : Since E F β B H) (s : StOk K F β B H st) (e : Ext F β H F1 H1) : Since E F1 β B H1 where
  ext := ⟨fun a h => e.sub a (S.ext.sub a h), fun a h => by
    rcases e.new a h with h | ⟨h1, h2⟩
    · exact S.ext.new a h
    · exact .inr ⟨fun z => h1 (S.sub z), S.noneH h1 h2⟩, fun a h1 h2 => by
    have e1 := S.ext.un a h1 h2
    rw [e.un a (fun z => h2 (S.nonB z h1)) (by rw [e1]; exact h2), e1]⟩
  pre := S.pre
  bb := S.bb
  bp := S.bp
  oo := S.oo
  mks := fun m h => (S.mks m h).trans (e.kp s)
theorem RelS.ext (R : RelS K E F β B ρ st σ H) (e : Ext F β H F1 H1) (s : StOk K F1 β B H1 st1) : RelS K E F1 β B ρ st1 σ H1 := ⟨R.rel.ext e s, R.since.step R.rel.st e⟩
theorem RelS.setW (R : RelS K E F β B ρ st σ H) {i : Nat} {w : W} {v : V} (hv : RepV K F β B H v w) (h1 : ∀ c, w ≠ .new c) (h2 : ∀ c, w ≠ .lent c) (h3 : ∀ c, w ≠ .own c) : RelS K E F β B (ρ.set i (some w)) st (σ.set i (some v)) H := ⟨R.rel.set hv h1 h2 h3, R.since⟩
theorem get_set_some {α : Type} {l : List (Option α)} {i j : Nat} {w u : α} (h : (l.set i (some w))[j]? = some (some u)) : (i = j ∧ u = w ∧ i < l.length) ∨ (i ≠ j ∧ l[j]? = some (some u)) := by
  by_cases e : i = j
  · subst e
    by_cases hl : i < l.length
    · rw [List.getElem?_set_self hl] at h
      cases h
      exact .inl ⟨rfl, rfl, hl⟩
    · rw [List.getElem?_eq_none (by rw [List.length_set]; omega)] at h; cases h
  · rw [List.getElem?_set_ne e] at h
    exact .inr ⟨e, h⟩
/-- a new object, owned by the frame -/
theorem RelS.setOwn (R : RelS K E F β B ρ st σ H) {i : Nat} {a : Addr} {c : C} (hc : RepC K F H a c) (hb : a ∉ β) (hF : ¬ F a) (hu : ¬ B.u a) (hE : E.H a = none) : RelS K E F β ⟨B.b, fun x => B.o x ∨ x = a⟩ (ρ.set i (some (.own c))) st (σ.set i (some (.ref a))) H where
  rel := {
    len := by rw [List.length_set, List.length_set]; exact R.rel.len
    slot := fun j u h => by
      rcases get_set_some h with ⟨rfl, rfl, hl⟩ | ⟨e, h⟩
      · exact ⟨.ref a, by rw [List.getElem?_set_self (by rw [← R.rel.len]; exact hl)], a, rfl, hc, .inr rfl⟩
      · obtain ⟨v, h1, h2⟩ := R.rel.slot j u h
        refine ⟨v, by rw [List.getElem?_set_ne e]; exact h1, ?_⟩
        cases u with
        | own c' => obtain ⟨b, e1, e2, e3⟩ := h2; exact ⟨b, e1, e2, .inl e3⟩
        | lent c' => obtain ⟨b, e1, e2, e3⟩ := h2; exact ⟨b, e1, e2, .inl e3⟩
        | _ => exact h2
    rest := fun j u h => by
      rcases get_set_some h with ⟨rfl, rfl, hl⟩ | ⟨e, h⟩
      · exact ⟨fun _ e => (nomatch e), fun _ e => nomatch e⟩
      · exact R.rel.rest j u h
    apart := fun j k d d' x g1 g2 g3 g4 => by
      have other : ∀ (m : Nat) (d : C), ρ[m]? = some (some (.own d)) → σ[m]? = some (some (V.ref a)) → False := fun m d q1 q2 => by
        obtain ⟨v, h1, b, rfl, _, h4⟩ := R.rel.slot m _ q1
        rw [q2] at h1
        cases h1
        exact hu (.inr h4)
      have slf : ∀ {y : Addr}, (σ.set i (some (V.ref a)))[i]? = some (some (V.ref y)) → y = a := fun {y} q => by
        rcases get_set_some q with ⟨_, e, _⟩ | ⟨e, _⟩
        · cases e; rfl
        · exact absurd rfl e
      rcases get_set_some g1 with ⟨rfl, _, _⟩ | ⟨nj, g1⟩
      · rcases get_set_some g3 with ⟨rfl, _, _⟩ | ⟨nk, g3⟩
        · rfl
        · cases slf g2
          rw [List.getElem?_set_ne nk] at g4
          exact (other k d' g3 g4).elim
      · rw [List.getElem?_set_ne nj] at g2
        rcases get_set_some g3 with ⟨rfl, _, _⟩ | ⟨nk, g3⟩
        · cases slf g4
          exact (other j d g1 g2).elim
        · rw [List.getElem?_set_ne nk] at g4
          exact R.rel.apart j k d d' x g1 g2 g3 g4
    st := ⟨R.rel.st.len, R.rel.st.nd, R.rel.st.nf, fun x hx => by
      rcases hx with h | h | rfl
      · exact R.rel.st.ob x (.inl h)
      · exact R.rel.st.ob x (.inr h)
      · exact ⟨hb, hF, hc.there⟩, R.rel.st.ft, R.rel.st.at_⟩ }
  since := ⟨R.since.ext, R.since.pre, R.since.bb, R.since.bp, fun x hx => by
      rcases hx with h | rfl
      · exact R.since.oo x h
      · exact hE, R.since.mks⟩
/-- a new object, a cell of the store -/
theorem RelS.setCell (R : RelS K E F β B ρ st σ H) {i : Nat} {a : Addr} {c : C} (hc : RepC K F H a c) (hb : a ∉ β) (hF : ¬ F a) (hu : ¬ B.u a) (hE : E.H a = none) : RelS K E F (β ++ [a]) B (ρ.set i (some (.loc st.length))) (st ++ [c]) (σ.set i (some (.ref a))) H where
  rel := {
    len := by rw [List.length_set, List.length_set]; exact R.rel.len
    slot := fun j u h => by
      rcases get_set_some h with ⟨rfl, rfl, hl⟩ | ⟨e, h⟩
      · exact ⟨.ref a, by rw [List.getElem?_set_self (by rw [← R.rel.len]; exact hl)], a, rfl, by rw [← R.rel.st.len, List.getElem?_append_right (Nat.le_refl _)]; simp⟩
      · obtain ⟨v, h1, h2⟩ := R.rel.slot j u h
        refine ⟨v, by rw [List.getElem?_set_ne e]; exact h1, ?_⟩
        cases u with
        | loc n =>
          obtain ⟨b, e1, e2⟩ := h2
          exact ⟨b, e1, by rw [List.getElem?_append_left (List.getElem?_eq_some_iff.mp e2).1]; exact e2⟩
        | new c' => exact absurd rfl ((R.rel.rest j _ h).1 c')
        | _ => exact h2
    rest := fun j u h => by
      rcases get_set_some h with ⟨rfl, rfl, hl⟩ | ⟨e, h⟩
      · exact ⟨fun _ e => (nomatch e), fun _ e => nomatch e⟩
      · exact R.rel.rest j u h
    apart := fun j k d d' x g1 g2 g3 g4 => by
      rcases get_set_some g1 with ⟨_, e, _⟩ | ⟨nj, g1⟩
      · cases e
      · rcases get_set_some g3 with ⟨_, e, _⟩ | ⟨nk, g3⟩
        · cases e
        · rw [List.getElem?_set_ne nj] at g2
          rw [List.getElem?_set_ne nk] at g4
          exact R.rel.apart j k d d' x g1 g2 g3 g4
    st := ⟨by rw [List.length_append, List.length_append, R.rel.st.len]; rfl, by
        rw [List.nodup_append]
        exact ⟨R.rel.st.nd, by simp, fun x hx y hy => by
          have : y = a := by simpa using hy
          subst this
          exact fun e => hb (e ▸ hx)⟩, fun x hx => by
        rcases List.mem_append.mp hx with h | h
        · exact R.rel.st.nf x h
        · have : x = a := by simpa using h
          subst this
          exact hF, fun x hx => by
        obtain ⟨h1, h2, h3⟩ := R.rel.st.ob x hx
        refine ⟨fun z => ?_, h2, h3⟩
        rcases List.mem_append.mp z with h | h
        · exact h1 h
        · have : x = a := by simpa using h
          subst this
          exact hu hx, R.rel.st.ft, fun n x d e1 e2 => by
        by_cases hn : n < β.length
        · rw [List.getElem?_append_left hn] at e1
          rw [List.getElem?_append_left (by rw [← R.rel.st.len]; exact hn)] at e2
          exact R.rel.st.at_ n x d e1 e2
        · have hn' : n = β.length := by
            have := (List.getElem?_eq_some_iff.mp e1).1
            rw [List.length_append] at this
            simp at this
            omega
          subst hn'
          rw [List.getElem?_append_right (Nat.le_refl _)] at e1
          rw [R.rel.st.len, List.getElem?_append_right (Nat.le_refl _)] at e2
          simp at e1 e2
          subst e1 e2
          exact hc⟩ }
  since := ⟨R.since.ext, by
      obtain ⟨β1, e, g⟩ := R.since.pre
      refine ⟨β1 ++ [a], by rw [e, List.append_assoc], fun x hx => ?_⟩
      rcases List.mem_append.mp hx with h | h
      · exact g x h
      · have : x = a := by simpa using h
        subst this
        exact hE, R.since.bb, R.since.bp, R.since.oo, R.since.mks⟩
theorem kp_outC {a : Addr} {c : C} {o : HO} (hD : RepC K F H a c) (hF : ¬ F a) : Kp F H F (upd H a o) where
  sub := fun _ h => h
  tup := fun x ys h => rd_eq h (upd_ne fun e => hD.noTup ys (e ▸ h))
  tupz := fun x o' ys h => (upd_ne (fun e => by subst e; exact hD.noTup ys (.inr ⟨o', h⟩))).trans h
  lst := fun x ys hf h => rd_eq h (upd_ne fun e => hF (e ▸ hf))
  fz := fun x hf _ => upd_ne fun e => hF (e ▸ hf)
theorem Since.put (S : Since E F β B H) {a : Addr} {c : C} {o : HO} (hD : RepC K F H a c) (hF : ¬ F a) (hE : a ∈ E.β ∨ E.H a = none) : Since E F β B (upd H a o) :=
  ⟨⟨S.ext.sub, S.ext.new, fun x h1 h2 => by
      have hne : x ≠ a := fun e => by
        subst e
        exact hE.elim h1 h2
      rw [upd_ne hne]
      exact S.ext.un x h1 h2⟩, S.pre, S.bb, S.bp, S.oo, fun m hm => (S.mks m hm).trans (kp_outC hD hF)⟩
/-- an object that the frame may change -/
theorem RelS.mut (R : RelS K E F β B ρ st σ H) {i : Nat} (h : mutB ρ i = true) : ∃ a c, σ[i]? = some (some (.ref a)) ∧ RepC K F H a c ∧ ((ρ[i]? = some (some (.own c)) ∧ B.o a) ∨ ∃ n, ρ[i]? = some (some (.loc n)) ∧ β[n]? = some a ∧ st[n]? = some c) := by
  unfold mutB at h
  split at h
  · rename_i c e
    obtain ⟨v, h1, a, rfl, h2, h3⟩ := R.rel.slot i _ e
    exact ⟨a, c, h1, h2, .inl ⟨e, h3⟩⟩
  · rename_i n e
    obtain ⟨v, h1, a, rfl, h2⟩ := R.rel.slot i _ e
    have hl : n < st.length := by rw [← R.rel.st.len]; exact (List.getElem?_eq_some_iff.mp h2).1
    have hs : st[n]? = some (st[n]) := List.getElem?_eq_getElem hl
    exact ⟨a, _, h1, R.rel.st.at_ n a _ h2 hs, .inr ⟨n, e, h2, hs⟩⟩
  · cases h
theorem RelS.putOwn (R : RelS K E F β B ρ st σ H) {i : Nat} {a : Addr} {c0 c1 : C} {o : HO} (hi : ρ[i]? = some (some (.own c0))) (hs : σ[i]? = some (some (.ref a))) (ho : B.o a) (hD : RepC K F H a c0) (ra : RepC K F (upd H a o) a c1) :
    RelS K E F β B (ρ.set i (some (.own c1))) st σ (upd H a o) := by
  obtain ⟨o1, o2, o3⟩ := R.rel.st.ob a (.inr ho)
  have kp : Kp F H F (upd H a o) := kp_outC hD o2
  have hσ : σ.set i (some (V.ref a)) = σ := by
    apply List.ext_getElem?
    intro j
    by_cases e : i = j
    · subst e
      rw [List.getElem?_set_self (List.getElem?_eq_some_iff.mp hs).1, hs]
    · rw [List.getElem?_set_ne e]
  refine ⟨⟨by rw [List.length_set]; exact R.rel.len, fun j u h => ?_, fun j u h => ?_, fun j k d d' x g1 g2 g3 g4 => ?_, ⟨R.rel.st.len, R.rel.st.nd, R.rel.st.nf, fun x hx => ?_, fun x hx => ?_, fun n x c e1 e2 => ?_⟩⟩, R.since.put hD o2 (.inr (R.since.oo a ho))⟩
  · rcases get_set_some h with ⟨rfl, rfl, hl⟩ | ⟨e, h⟩
    · exact ⟨.ref a, hs, a, rfl, ra, ho⟩
    · obtain ⟨v, h1, h2⟩ := R.rel.slot j u h
      refine ⟨v, h1, ?_⟩
      cases u with
      | d x => exact Rp.keep kp _ _ h2
      | new c => exact absurd rfl ((R.rel.rest j _ h).1 c)
      | lent c => exact absurd rfl ((R.rel.rest j _ h).2 c)
      | bor c =>
        obtain ⟨b, rfl, e2, e3⟩ := h2
        have hne : b ≠ a := fun e => by
          subst e
          rw [R.since.bb] at e3
          exact (R.since.bp b e3).2 (R.since.oo b ho)
        exact ⟨b, rfl, e2.keep kp (upd_ne hne), e3⟩
      | own c =>
        obtain ⟨b, rfl, e2, e3⟩ := h2
        have hne : b ≠ a := fun e' => by
          subst e'
          exact e (R.rel.apart i j _ _ b hi hs h h1)
        exact ⟨b, rfl, e2.keep kp (upd_ne hne), e3⟩
      | loc n => exact h2
      | fn n => exact h2
  · rcases get_set_some h with ⟨rfl, rfl, hl⟩ | ⟨e, h⟩
    · exact ⟨fun _ e => (nomatch e), fun _ e => nomatch e⟩
    · exact R.rel.rest j u h
  · have back : ∀ {m : Nat} {d : C}, (ρ.set i (some (.own c1)))[m]? = some (some (.own d)) → ∃ d0, ρ[m]? = some (some (.own d0)) := fun {m d} q => by
      rcases get_set_some q with ⟨rfl, _, _⟩ | ⟨_, q⟩
      · exact ⟨_, hi⟩
      · exact ⟨d, q⟩
    obtain ⟨d0, q1⟩ := back g1
    obtain ⟨d1, q2⟩ := back g3
    exact R.rel.apart j k d0 d1 x q1 g2 q2 g4
  · obtain ⟨p1, p2, p3⟩ := R.rel.st.ob x hx
    refine ⟨p1, p2, ?_⟩
    by_cases e : x = a
    · subst e; rw [upd_same]; exact fun z => nomatch z
    · rw [upd_ne e]; exact p3
  · have hne : x ≠ a := fun e => by rw [e] at hx; exact o2 hx
    rw [upd_ne hne]
    exact R.rel.st.ft x hx
  · exact (R.rel.st.at_ n x c e1 e2).keep kp (upd_ne fun e => o1 (e ▸ List.mem_of_getElem? e1))
theorem RelS.putCell (R : RelS K E F β B ρ st σ H) {n : Nat} {a : Addr} {c0 c1 : C} {o : HO} (hn : β[n]? = some a) (hD : RepC K F H a c0) (ra : RepC K F (upd H a o) a c1) :
    RelS K E F β B ρ (st.set n c1) σ (upd H a o) := by
  have hm : a ∈ β := List.mem_of_getElem? hn
  have hF := R.rel.st.nf a hm
  have kp : Kp F H F (upd H a o) := kp_outC hD hF
  have hu : ∀ x, B.u x → x ≠ a := fun x hx e => (R.rel.st.ob x hx).1 (e ▸ hm)
  refine ⟨⟨R.rel.len, fun j u h => ?_, R.rel.rest, R.rel.apart, ⟨by rw [List.length_set]; exact R.rel.st.len, R.rel.st.nd, R.rel.st.nf, fun x hx => ?_, fun x hx => ?_, fun m x c e1 e2 => ?_⟩⟩, R.since.put hD hF ?_⟩
  · obtain ⟨v, h1, h2⟩ := R.rel.slot j u h
    refine ⟨v, h1, ?_⟩
    cases u with
    | d x => exact Rp.keep kp _ _ h2
    | new c => exact absurd rfl ((R.rel.rest j _ h).1 c)
    | lent c => exact absurd rfl ((R.rel.rest j _ h).2 c)
    | bor c =>
      obtain ⟨b, rfl, e2, e3⟩ := h2
      exact ⟨b, rfl, e2.keep kp (upd_ne (hu b (.inl e3))), e3⟩
    | own c =>
      obtain ⟨b, rfl, e2, e3⟩ := h2
      exact ⟨b, rfl, e2.keep kp (upd_ne (hu b (.inr e3))), e3⟩
    | loc n => exact h2
    | fn n => exact h2
  · obtain ⟨p1, p2, p3⟩ := R.rel.st.ob x hx
    exact ⟨p1, p2, by rw [upd_ne (hu x hx)]; exact p3⟩
  · have hne : x ≠ a := fun e => by rw [e] at hx; exact hF hx
    rw [upd_ne hne]
    exact R.rel.st.ft x hx
  · by_cases e : n = m
    · subst e
      rw [hn] at e1
      cases e1
      have hl : n < st.length := by rw [← R.rel.st.len]; exact (List.getElem?_eq_some_iff.mp hn).1
      rw [List.getElem?_set_self hl] at e2
      cases e2
      exact ra
    · rw [List.getElem?_set_ne e] at e2
      refine (R.rel.st.at_ m x c e1 e2).keep kp (upd_ne fun ex => ?_)
      subst ex
      exact e (nodup_ix' R.rel.st.nd hn e1)
  · by_cases h : a ∈ E.β
    · exact .inl h
    · exact .inr (R.since.nonB hm h)
/-- an own object is frozen -/
theorem RelS.frz1 (R : RelS K E F β B ρ st σ H) {i : Nat} {c : C} (hi : ρ[i]? = some (some (.own c))) : ∃ F' B', RelS K E F' β B' (ρ.set i (some (.d c.dat))) st σ H := by
  obtain ⟨v, hs, a, rfl, hc, ho⟩ := R.rel.slot i _ hi
  obtain ⟨o1, o2, o3⟩ := R.rel.st.ob a (.inr ho)
  have kp : Kp F H (fun x => F x ∨ x = a) H := ⟨fun _ h => .inl h, fun _ _ h => h, fun _ _ _ h => h, fun _ _ _ h => h, fun _ _ _ => rfl⟩
  have hb : ∀ b, B.b b → b ≠ a := fun b h e => by
    subst e
    rw [R.since.bb] at h
    exact (R.since.bp b h).2 (R.since.oo b ho)
  refine ⟨fun x => F x ∨ x = a, ⟨B.b, fun x => B.o x ∧ x ≠ a⟩, ⟨⟨by rw [List.length_set]; exact R.rel.len, fun j u h => ?_, fun j u h => ?_, fun j k d d' x g1 g2 g3 g4 => ?_, ⟨R.rel.st.len, R.rel.st.nd, fun x hx hF => ?_, fun x hx => ?_, fun x hx => ?_, fun n x c e1 e2 => ?_⟩⟩, ⟨⟨fun x h => .inl (R.since.ext.sub x h), fun x h => ?_, R.since.ext.un⟩, R.since.pre, R.since.bb, R.since.bp, fun x h => R.since.oo x h.1, fun m h => (R.since.mks m h).trans kp⟩⟩⟩
  · rcases get_set_some h with ⟨rfl, rfl, hl⟩ | ⟨e, h⟩
    · exact ⟨.ref a, hs, (hc.keep kp rfl).frz (.inr rfl)⟩
    · obtain ⟨v, h1, h2⟩ := R.rel.slot j u h
      refine ⟨v, h1, ?_⟩
      cases u with
      | d x => exact Rp.keep kp _ _ h2
      | new c => exact absurd rfl ((R.rel.rest j _ h).1 c)
      | lent c => exact absurd rfl ((R.rel.rest j _ h).2 c)
      | bor c =>
        obtain ⟨b, rfl, e2, e3⟩ := h2
        exact ⟨b, rfl, e2.keep kp rfl, e3⟩
      | own c =>
        obtain ⟨b, rfl, e2, e3⟩ := h2
        refine ⟨b, rfl, e2.keep kp rfl, e3, fun e' => ?_⟩
        subst e'
        exact e (R.rel.apart i j _ _ b hi hs h h1)
      | loc n => exact h2
      | fn n => exact h2
  · rcases get_set_some h with ⟨rfl, rfl, hl⟩ | ⟨e, h⟩
    · exact ⟨fun _ e => (nomatch e), fun _ e => nomatch e⟩
    · exact R.rel.rest j u h
  · rcases get_set_some g1 with ⟨_, e, _⟩ | ⟨_, g1⟩
    · cases e
    · rcases get_set_some g3 with ⟨_, e, _⟩ | ⟨_, g3⟩
      · cases e
      · exact R.rel.apart j k d d' x g1 g2 g3 g4
  · rcases hF with h | rfl
    · exact R.rel.st.nf x hx h
    · exact o1 hx
  · rcases hx with h | ⟨h, hne⟩
    · obtain ⟨p1, p2, p3⟩ := R.rel.st.ob x (.inl h)
      exact ⟨p1, fun z => z.elim p2 (hb x h), p3⟩
    · obtain ⟨p1, p2, p3⟩ := R.rel.st.ob x (.inr h)
      exact ⟨p1, fun z => z.elim p2 hne, p3⟩
  · rcases hx with h | rfl
    · exact R.rel.st.ft x h
    · exact o3
  · exact (R.rel.st.at_ n x c e1 e2).keep kp rfl
  · rcases h with h | rfl
    · exact R.since.ext.new x h
    · exact .inr ⟨fun z => o1 (R.since.sub z), R.since.oo x ho⟩
theorem RelS.frz (R : RelS K E F β B ρ st σ H) : ∀ is : List Nat, ∃ F' B', RelS K E F' β B' (frzR ρ is) st σ H
  | [] => ⟨F, B, R⟩
  | i :: is => by
    obtain ⟨F', B', R'⟩ := RelS.frz R is
    unfold frzR
    split
    · rename_i c e
      exact R'.frz1 e
    · exact ⟨F', B', R'⟩
end
end Gm

/-! The deep layer, part G2: statements. -/
namespace Gm
open PySem PySem.Spec PyProof.Rows L2
def RtOk (K : KW) (E : Ent) (F : Addr → Prop) (β : List Addr) (H : Hp) (v : V) : W → Prop
  | .d x => Rp K F H v x
  | .new c => ∃ a, v = .ref a ∧ RepC K F H a c ∧ E.H a = none ∧ a ∉ β ∧ ¬ F a
  | .loc n => ∃ a, v = .ref a ∧ β[n]? = some a
  | _ => False
def PostS (K : KW) (mg : Str → Option Value) (wx : WX) (E : Ent) (r : Res Fl) (D : Ends) : Prop :=
  match r with
  | .ok (.nx ρ) st => ∀ σ H F β B, RelS K E F β B ρ st σ H → D.nx σ H
  | .ok (.rt w) st => ∀ v H F β B, StOk K F β B H st → Since E F β B H → RtOk K E F β H v w → D.rt v H
  | .ex x st => ∀ c d σ H F β B, StOk K F β B H st → Since E F β B H → ExRep K mg F H x c d → wx c d σ H
  | .bad => False
def tS (K : KW) (mg : Str → Option Value) (wx : WX) (f : Rho → Stt → Res Fl) : TS := fun D σ H => ∃ E F β B ρ st, RelS K E F β B ρ st σ H ∧ PostS K mg wx E (f ρ st) D
theorem PS.imp {X : Cx} {s : Stmt} {t t' : TS} (h : PS X s t) (i : ∀ D σ H, t' D σ H → t D σ H) : PS X s t' := ⟨fun pins s σ H D I q => h.run pins s σ H D I (i D σ H q)⟩
theorem PSs.imp {X : Cx} {s : List Stmt} {t t' : TS} (h : PSs X s t) (i : ∀ D σ H, t' D σ H → t D σ H) : PSs X s t' := ⟨fun pins s σ H D I q => h.run pins s σ H D I (i D σ H q)⟩
section
variable {X : Cx} {Φ : Phi} {T : Tb} {wx : WX} {N : List Str} {sc : Scope} {K : KW} {mg : Str → Option Value} {E : Ent} {F F1 : Addr → Prop} {β : List Addr} {B : Bs} {ρ : Rho} {st st1 : Stt} {σ : L2.St} {H H1 : Hp} {D : Ends} {pos : Pos} {x e : Expr} {ee : Gm.E}
abbrev tSt (X : Cx) (Φ : Phi) (wx : WX) (s : S) : TS := tS (kw X) X.mg wx (semS Φ s)
abbrev tSs (X : Cx) (Φ : Phi) (wx : WX) (s : Ss) : TS := tS (kw X) X.mg wx (semSs Φ s)
theorem step_s {α τ : Type} {rep : Hp → (Addr → Prop) → Hp → τ → α → Prop} {P : τ → Hp → Prop} {r : Res α} {k : α → Stt → Res Fl} (R : RelS K E F β B ρ st σ H) (h : PostS K mg wx E (r.bind k) D)
    (g : ∀ w st1 F1 v H1, Ext F β H F1 H1 → RelS K E F1 β B ρ st1 σ H1 → rep H F1 H1 v w → PostS K mg wx E (k w st1) D → P v H1) : Post K mg β B rep F H (fun c d H' => wx c d σ H') r P := by
  cases r with
  | bad => exact h
  | ok w s => exact fun v F' H' e s' q => g w s F' v H' e (R.ext e s') q h
  | ex x s => exact fun c d F' H' e s' q => h c d σ H' F' β B s' (R.since.step R.rel.st e) q
theorem step_se {P : VK} {f : Rho → Stt → Res W} {k : W → Stt → Res Fl} (R : RelS K E F β B ρ st σ H) (h : PostS K mg wx E ((f ρ st).bind k) D)
    (g : ∀ w st1 F1 v H1, Ext F β H F1 H1 → RelS K E F1 β B ρ st1 σ H1 → RR K β B H F1 H1 v w → PostS K mg wx E (k w st1) D → P v H1) : tE K mg wx f σ H P := ⟨F, β, B, ρ, st, R.rel, step_s R h g⟩
theorem step_st {P : Bool → Hp → Prop} {f : Rho → Stt → Res Bool} {k : Bool → Stt → Res Fl} (R : RelS K E F β B ρ st σ H) (h : PostS K mg wx E ((f ρ st).bind k) D)
    (g : ∀ b st1 F1 H1, Ext F β H F1 H1 → RelS K E F1 β B ρ st1 σ H1 → PostS K mg wx E (k b st1) D → P b H1) : tT K mg wx f σ H P := ⟨F, β, B, ρ, st, R.rel, step_s R h fun w st1 F1 v H1 e R1 q h => by cases q; exact g _ st1 F1 H1 e R1 h⟩

/-! ### blocks -/
theorem b_nil : PSs X [] (tSs X Φ wx .nil) := PSs.imp pss_nil fun D σ H ⟨E, F, β, B, ρ, st, R, h⟩ => by
  unfold semSs at h
  exact h σ H F β B R
theorem b_cons {s : S} {r : Ss} {ps : Stmt} {pr : List Stmt} (h1 : PS X ps (tSt X Φ wx s)) (h2 : PSs X pr (tSs X Φ wx r)) : PSs X (ps :: pr) (tSs X Φ wx (.cons s r)) := by
  refine PSs.imp (pss_cons h1 h2) fun D σ H ⟨E, F, β, B, ρ, st, R, h⟩ => ?_
  unfold semSs at h
  refine ⟨E, F, β, B, ρ, st, R, ?_⟩
  cases q : semS Φ s ρ st with
  | bad => rw [q] at h; exact h
  | ex x s => rw [q] at h; exact h
  | ok fl s1 =>
    rw [q] at h
    cases fl with
    | nx ρ' => exact fun σ' H' F' β' B' R' => ⟨E, F', β', B', ρ', s1, R', h⟩
    | rt w => exact h
theorem b_frz {is : List Nat} {r : Ss} {pr : List Stmt} (h2 : PSs X pr (tSs X Φ wx r)) : PSs X pr (tSs X Φ wx (.frz is r)) := by
  refine PSs.imp h2 fun D σ H ⟨E, F, β, B, ρ, st, R, h⟩ => ?_
  unfold semSs at h
  obtain ⟨F', B', R'⟩ := R.frz is
  exact ⟨E, F', β, B', _, st, R', h⟩

/-! ### small statements -/
theorem s_exp (he : PE X e (tEs X Φ wx ee)) (hc : noComp e = true) : PS X (.Expr e pos) (tSt X Φ wx (.exp ee)) := by
  refine PS.imp (ps_expr he (swaps_of hc)) fun D σ H ⟨E, F, β, B, ρ, st, R, h⟩ => ?_
  unfold semS at h
  exact step_se R h fun w st1 F1 v H1 e1 R1 rv h => h σ H1 F1 β B R1
theorem rt_ok {w : W} {v : V} (R : RelS K E F β B ρ st σ H) (R1 : RelS K E F1 β B ρ st1 σ H1) (rv : RR K β B H F1 H1 v w) (h : PostS K mg wx E (rtW w st1) D) : D.rt v H1 := by
  cases w with
  | d x => exact h v H1 F1 β B R1.rel.st R1.since rv.1
  | new c =>
    obtain ⟨⟨a, rfl, h2, h3, h4⟩, hf⟩ := rv
    exact h _ H1 F1 β B R1.rel.st R1.since ⟨a, rfl, h2, R.since.noneH h3 (hf a rfl), h3, h4⟩
  | loc n => exact h v H1 F1 β B R1.rel.st R1.since rv.1
  | bor c => exact h.elim
  | own c => exact h.elim
  | lent c => exact h.elim
  | fn n => exact h.elim
theorem s_ret (he : PE X e (tEs X Φ wx ee)) : PS X (.Return (some e) pos) (tSt X Φ wx (.ret ee)) := by
  refine PS.imp (ps_ret he) fun D σ H ⟨E, F, β, B, ρ, st, R, h⟩ => ?_
  unfold semS at h
  exact step_se R h fun w st1 F1 v H1 e1 R1 rv h => rt_ok R R1 rv h
theorem s_rtv {i : Nat} {n : Str} {p : Pos} (hN : X.N[i]? = some n) (hv : Vis X.env.scope n) (hd : (n == ("__debug__" : Str)) = false) (hcd : (n == ("__classdict__" : Str)) = false) : PS X (.Return (some (.Name n p)) pos) (tSt X Φ wx (.rtv i)) := by
  refine PS.imp (ps_ret (pe_var hN hv hd hcd)) fun D σ H ⟨E, F, β, B, ρ, st, R, h⟩ => ?_
  unfold semS at h
  split at h
  · rename_i c q
    obtain ⟨v, h1, a, rfl, h2, h3⟩ := R.rel.slot i _ q
    obtain ⟨o1, o2, o3⟩ := R.rel.st.ob a (.inr h3)
    exact ⟨_, h1, h _ H F β B R.rel.st R.since ⟨a, rfl, h2, R.since.oo a h3, o1, o2⟩⟩
  · exact h.elim
theorem s_ite {c : Expr} {ec : Gm.E} {a b : List Stmt} {sa sb : Ss} (hc : PT X c (tTs X Φ wx ec)) (ha : PSs X a (tSs X Φ wx sa)) (hb : PSs X b (tSs X Φ wx sb)) : PS X (.If c a b pos) (tSt X Φ wx (.ite ec sa sb)) := by
  refine PS.imp (ps_if hc ha hb) fun D σ H ⟨E, F, β, B, ρ, st, R, h⟩ => ?_
  unfold semS at h
  rw [← Res.bind_assoc] at h
  refine step_st R h fun b st1 F1 H1 e1 R1 h => ?_
  cases b with
  | true => exact ⟨E, F1, β, B, ρ, st1, R1, h⟩
  | false => exact ⟨E, F1, β, B, ρ, st1, R1, h⟩
/-- a value is stored -/
theorem store_ok' {i : Nat} {m : Md} {w : W} {v : V} (R : RelS K E F β B ρ st σ H) (e1 : Ext F β H F1 H1) (s1 : StOk K F1 β B H1 st1) (rv : RR K β B H F1 H1 v w) (h : PostS K mg wx E (store ρ i m w st1) D) : D.nx (σ.set i (some v)) H1 := by
  have R1 := R.ext e1 s1
  cases m with
  | pure =>
    cases w with
    | d x => exact h _ H1 F1 β B (R1.setW (w := .d x) rv.1 (fun _ e => nomatch e) (fun _ e => nomatch e) fun _ e => nomatch e)
    | new c => exact h _ H1 _ β B ((R.ext (frz_ext e1) (frz_st (hB_of R.rel) s1)).setW (w := .d c.dat) (rv.py rfl) (fun _ e => nomatch e) (fun _ e => nomatch e) fun _ e => nomatch e)
    | loc n => exact h _ H1 F1 β B (R1.setW (w := .loc n) rv.1 (fun _ e => nomatch e) (fun _ e => nomatch e) fun _ e => nomatch e)
    | bor c => exact h _ H1 F1 β B (R1.setW (w := .bor c) rv.1 (fun _ e => nomatch e) (fun _ e => nomatch e) fun _ e => nomatch e)
    | own c => exact h.elim
    | lent c => exact h.elim
    | fn n => exact h.elim
  | own =>
    cases w with
    | new c =>
      obtain ⟨⟨a, rfl, h2, h3, h4⟩, hf⟩ := rv
      have hn := hf a rfl
      exact h _ H1 F1 β _ (R1.setOwn h2 h3 h4 (fun hu => hB_of R.rel a hu hn) (R.since.noneH h3 hn))
    | _ => exact h.elim
  | cell =>
    cases w with
    | new c =>
      obtain ⟨⟨a, rfl, h2, h3, h4⟩, hf⟩ := rv
      have hn := hf a rfl
      exact h _ H1 F1 _ B (R1.setCell h2 h3 h4 (fun hu => hB_of R.rel a hu hn) (R.since.noneH h3 hn))
    | _ => exact h.elim
theorem s_set {i : Nat} {m : Md} {n : Str} {p : Pos} (hN : X.N[i]? = some n) (hnd : X.N.Nodup) (hl : L2.Loc X.env.scope n) (hf : X.fn n = true) (he : PE X e (tEs X Φ wx ee)) (hs : swapsWith e (some (.Name n p)) pos.line X.env = pure false) : PS X (.Assign [.Name n p] e pos) (tSt X Φ wx (.set i m ee)) := by
  refine PS.imp (ps_set hnd hN hl he hs (.inl hf)) fun D σ H ⟨E, F, β, B, ρ, st, R, h⟩ => ?_
  unfold semS at h
  exact step_se R h fun w st1 F1 v H1 e1 R1 rv h => store_ok' R e1 R1.rel.st rv h
def noTup : Expr → Bool
  | .Tuple _ _ _ => false
  | _ => true
theorem solo_of {e : Expr} {ts : List Expr} {k : Nat} {p : Pos} {l : Nat} {env : Env} : swapsWithSole [.Tuple ts k p] e l env = pure false := by
  cases e <;> rfl
theorem swst_of {e : Expr} {ts : List Expr} {k : Nat} {p : Pos} {env : Env} (h : noTup e = true) : swappedStores [.Tuple ts k p] e env = pure none := by
  cases e <;> first | rfl | cases h
theorem s_unp {is : List Nat} {xs : List Expr} {k : Nat} {p : Pos} (hg : PG X (.Tuple xs k p) (gT (kw X) (.tp is))) (he : PE X e (tEs X Φ wx ee)) (ht : noTup e = true) : PS X (.Assign [.Tuple xs k p] e pos) (tSt X Φ wx (.unp is ee)) := by
  refine PS.imp (ps_asg he hg solo_of (swst_of ht)) fun D σ H ⟨E, F, β, B, ρ, st, R, h⟩ => ?_
  unfold semS at h
  refine step_se R h fun w st1 F1 v H1 e1 R1 rv h => ?_
  cases q : w.rd st1 with
  | none => rw [q] at h; exact h.elim
  | some d =>
    rw [q, Option.bind_some] at h
    cases q2 : setT (.tp is) d ρ with
    | none => rw [q2] at h; exact h.elim
    | some ρ2 =>
      rw [q2] at h
      have rd := rv.1.rdp R1.rel.st q
      cases d with
      | tuple ds =>
        have rp : Rp (kw X) F1 H1 v (.tuple ds) := by
          rcases rd with rd | ⟨a, vs, ys, rfl, e, _⟩ | ⟨a, es, kvs, rfl, e, _⟩
          · exact rd
          · cases e
          · cases e
        exact gT_ok R1.rel rp q2 fun σ2 R2 _ _ => h σ2 H1 F1 β B ⟨R2, R1.since⟩
      | _ => cases q2
def noStr2 (a b : Expr) : Bool := !([a, b].any fun | .Starred .. => true | _ => false)
theorem swst_par {x y : Str} {px py pt pt2 : Pos} {kt k2 : Nat} {a b : Expr} {env : Env} (hk : env.scope.kind = .function) (hx : env.scope.names.lookup x = some .local) (hy : env.scope.names.lookup y = some .local) (hl : (py.line == px.line) = true) (hne : (x == y) = false) (h1 : noStr2 a b = true)
    (h2 : [a, b].all (foldedForSure 8) = false) (h3 : [a, b].all (constantsAlone 8) = false) : swappedStores [.Tuple [.Name x px, .Name y py] kt pt] (.Tuple [a, b] k2 pt2) env = pure (some [x, y]) := by
  have hb : env.blockKind = .function := by unfold Env.blockKind; rw [hk]; rfl
  have kx : env.kindOf x = some .local := hx
  have ky : env.kindOf y = some .local := hy
  have h1' : ([a, b].any fun | .Starred .. => true | _ => false) = false := by
    unfold noStr2 at h1
    rw [Bool.not_eq_true'] at h1
    exact h1
  have hll : (px.line == px.line) = true := beq_self_eq_true _
  have hyx : (y == x) = false := by
    rw [Bool.eq_false_iff] at hne ⊢
    intro h
    exact hne (by rw [beq_iff_eq] at h ⊢; exact h.symm)
  have hs : (((some NameKind.local : Option NameKind)) == some .local) = true := rfl
  have hdup : ([x, y] : List Str).eraseDups = [x, y] := by
    simp [List.eraseDups, List.eraseDupsBy, List.eraseDupsBy.loop, hyx]
  unfold swappedStores
  simp only [hb, h1', h2, h3]
  simp [List.filterMap, Expr.pos, kx, ky, hl, hdup]
  intro h
  exfalso
  simp only [List.any_cons, List.any_nil, Bool.or_false, Bool.or_eq_false_iff] at h1'
  rcases h with h | h
  · have g := h1'.1
    cases a <;> first | (cases g; done) | (cases h; done)
  · have g := h1'.2
    cases b <;> first | (cases g; done) | (cases h; done)
theorem RelS.setD (R : RelS K E F β B ρ st σ H) {i : Nat} {x : PyData} {v : V} (hv : Rp K F H v x) : RelS K E F β B (ρ.set i (some (.d x))) st (σ.set i (some v)) H := R.setW (w := .d x) hv (fun _ e => nomatch e) (fun _ e => nomatch e) fun _ e => nomatch e
theorem s_par {i j : Nat} {x y : Str} {px py pt pt2 : Pos} {kt k2 : Nat} {a b : Expr} {ea eb : Gm.E} (hc : X.calm = true) (hN : X.N.Nodup) (hi : X.N[i]? = some x) (hj : X.N[j]? = some y) (hij : i ≠ j) (hx : X.env.scope.names.lookup x = some .local) (hy : X.env.scope.names.lookup y = some .local) (ha : PA X [a, b] (tEss X Φ wx (.cons ea (.cons eb .nil))))
    (hw : swappedStores [.Tuple [.Name x px, .Name y py] kt pt] (.Tuple [a, b] k2 pt2) X.env = pure (some [x, y])) : PS X (.Assign [.Tuple [.Name x px, .Name y py] kt pt] (.Tuple [a, b] k2 pt2) pos) (tSt X Φ wx (.par i j ea eb)) := by
  refine PS.imp (ps_par hc hN hi hj hij hx hy ha hw solo_of) fun D σ H ⟨E, F, β, B, ρ, st, R, h⟩ => ?_
  unfold semS at h
  refine ⟨F, β, B, ρ, st, R.rel, step_s R h fun ws st1 F1 vs H1 e1 R1 rv h => ?_⟩
  unfold parW at h
  split at h
  · rename_i w1 w2
    split at h
    · rename_i d1 d2 q1 q2
      have hp : pyAll [w1, w2] = some [d1, d2] := by
        show w1.py.bind (fun x => (w2.py.bind fun y => (some []).map (y :: ·)).map (x :: ·)) = _
        rw [q1, q2]
        rfl
      have ra := RL.py rv hp
      cases ra with
      | cons r1 ra =>
        cases ra with
        | cons r2 ra =>
          cases ra
          have R2 := R.ext (frz_ext e1) (frz_st (hB_of R.rel) R1.rel.st)
          exact ⟨_, _, rfl, h _ H1 _ β B ((R2.setD r1).setD r2)⟩
    · exact h.elim
  · exact h.elim
/-- the object in a slot is changed -/
theorem chg_ok {i : Nat} {f : C → Option C} (R : RelS K E F β B ρ st σ H) (h : PostS K mg wx E (chg ρ i st f) D) : ∃ a c0 c1, σ[i]? = some (some (.ref a)) ∧ RepC K F H a c0 ∧ f c0 = some c1 ∧ ∀ o, RepC K F (upd H a o) a c1 → D.nx σ (upd H a o) := by
  have hm : mutB ρ i = true := by
    unfold chg at h
    unfold mutB
    cases q : ρ[i]? with
    | none => rw [q] at h; exact h.elim
    | some o =>
      rw [q] at h
      cases o with
      | none => exact h.elim
      | some w => cases w <;> first | rfl | exact h.elim
  obtain ⟨a, c, h1, h2, hk⟩ := R.mut hm
  rcases hk with ⟨q1, ho⟩ | ⟨n, q1, q2, q3⟩
  · unfold chg at h
    simp only [q1] at h
    cases q : f c with
    | none => rw [q] at h; exact h.elim
    | some c1 =>
      rw [q] at h
      exact ⟨a, c, c1, h1, h2, q, fun o ra => h _ _ _ _ _ (R.putOwn q1 h1 ho h2 ra)⟩
  · unfold chg at h
    simp only [q1, q3, Option.bind_some] at h
    cases q : f c with
    | none => rw [q] at h; exact h.elim
    | some c1 =>
      rw [q] at h
      exact ⟨a, c, c1, h1, h2, q, fun o ra => h _ _ _ _ _ (R.putCell q2 h2 ra)⟩
/-- a list is changed -/
theorem chg_lst {K : KW} {F : Addr → Prop} {H : Hp} {a : Addr} {c0 : C} {vs us : List V} {ys : List PyData} (h : RepC K F H a c0) (hF : ¬ F a) (ra : RpAll K F H us ys) : RepC K F (upd H a (.lst us)) a (.lst ys) := ⟨us, upd_same, RpAll.keep (kp_outC h hF) _ _ ra⟩
theorem RelS.offF (R : RelS K E F β B ρ st σ H) {i : Nat} {a : Addr} {c : C} (hm : (ρ[i]? = some (some (.own c)) ∧ B.o a) ∨ ∃ n, ρ[i]? = some (some (.loc n)) ∧ β[n]? = some a ∧ st[n]? = some c) : ¬ F a := by
  rcases hm with ⟨_, ho⟩ | ⟨n, _, h2, _⟩
  · exact (R.rel.st.ob a (.inr ho)).2.1
  · exact R.rel.st.nf a (List.mem_of_getElem? h2)
theorem chg_off {i : Nat} {f : C → Option C} (R : RelS K E F β B ρ st σ H) (h : PostS K mg wx E (chg ρ i st f) D) : ∃ a c0 c1, σ[i]? = some (some (.ref a)) ∧ RepC K F H a c0 ∧ ¬ F a ∧ f c0 = some c1 ∧ ∀ o, RepC K F (upd H a o) a c1 → D.nx σ (upd H a o) := by
  obtain ⟨a, c0, c1, h1, h2, h3, h4⟩ := chg_ok R h
  have hm : mutB ρ i = true := by
    unfold chg at h
    unfold mutB
    cases q : ρ[i]? with
    | none => rw [q] at h; exact h.elim
    | some o =>
      rw [q] at h
      cases o with
      | none => exact h.elim
      | some w => cases w <;> first | rfl | exact h.elim
  obtain ⟨b, c, g1, g2, hk⟩ := R.mut hm
  rw [h1] at g1
  cases g1
  exact ⟨a, c0, c1, h1, h2, R.offF hk, h3, h4⟩
theorem pset_or {X : Cx} {t t' : TSet} (h : PSet X t) (h' : PSet X t') : PSet X (fun o i v H Q => t o i v H Q ∨ t' o i v H Q) := by
  intro pins s σ H o i v ov iv u Q I ro ri rv q
  rcases q with q | q
  · exact h pins s σ H o i v ov iv u Q I ro ri rv q
  · exact h' pins s σ H o i v ov iv u Q I ro ri rv q
theorem s_sub {i : Nat} {n : Str} {p p2 : Pos} {k : Expr} {ek : Gm.E} (S : Side X Φ T wx) (hN : X.N[i]? = some n) (hv : Vis X.env.scope n) (hd : (n == ("__debug__" : Str)) = false) (hcd : (n == ("__classdict__" : Str)) = false) (he : PE X e (tEs X Φ wx ee)) (hk : PE X k (tEs X Φ wx ek)) (hpk : plainB k = true) :
    PS X (.Assign [.Subscript (.Name n p) k p2] e pos) (tSt X Φ wx (.sub i ek ee)) := by
  refine PS.imp (ps_asg he (pg_sub (pe_var hN hv hd hcd) hk (pset_or set_list (set_dict (by have := S.un; omega))) (by intro v; cases k <;> first | rfl | cases hpk)) (by cases e <;> rfl) (by cases e <;> rfl)) fun D σ H ⟨E, F, β, B, ρ, st, R, h⟩ => ?_
  unfold semS at h
  refine step_se R h fun w st1 F1 v H1 e1 R1 rv h => ?_
  split at h
  · rename_i hm
    obtain ⟨a, c, h1, h2, _⟩ := R1.mut hm
    refine ⟨_, h1, step_se R1 h fun u st2 F2 y H2 e2 R2 ry h => ?_⟩
    split at h
    · rename_i dy dk q1 q2
      have rp := (rv.keep e2 R1.rel.st).py q1
      have R3 := R.ext (frz_ext (e1.trans e2)) (frz_st (hB_of R.rel) R2.rel.st)
      obtain ⟨a', c0, c1, g1, g2, g3, g4, g5⟩ := chg_off R3 h
      rw [h1] at g1
      cases g1
      cases c0 with
      | lst xs =>
        obtain ⟨l, g6, g7⟩ := Option.map_eq_some_iff.mp (show (setL xs dk dy).map C.lst = some c1 from g4)
        obtain ⟨ix, g8, g9⟩ := Option.bind_eq_some_iff.mp g6
        obtain ⟨j, g10, g11⟩ := Option.map_eq_some_iff.mp g9
        subst g7 g11
        obtain ⟨vs', f1, f2⟩ := id g2
        exact .inl ⟨a, vs', ix, j, rfl, int_of R2.rel.st ry.1 q2 g8, f1, by rw [f2.length]; exact g10, g5 _ ⟨_, upd_same, RpAll.keep (kp_outC g2 g3) _ _ (f2.set rp j)⟩⟩
      | dct kvs =>
        have g4 : (if keyOk dk && decide (kvs.length < lineN) then some (C.dct (putP kvs dk dy)) else none) = some c1 := g4
        split at g4
        · rename_i hc
          simp only [Bool.and_eq_true, decide_eq_true_eq] at hc
          cases g4
          obtain ⟨es, f1, f2⟩ := id g2
          obtain ⟨b, rfl, f3⟩ := RdP.key hc.1 (ry.1.rdp R2.rel.st q2)
          exact .inr ⟨_, a, b, kvs, dk, dy, rfl, rfl, ⟨es, f1, f2, hc.1, Rp.keep frz_kp _ _ f3⟩, rp, hc.2, fun es' r' => g5 _ ⟨es', upd_same, RpKV.keep (kp_outC g2 g3) _ _ r'⟩⟩
        · cases g4
    · exact h.elim
  · exact h.elim
theorem s_nev {x : Stmt} : PS X x (tSt X Φ wx .nev) := ⟨fun pins s σ H D I ⟨E, F, β, B, ρ, st, R, h⟩ => by
  unfold semS at h
  exact h.elim⟩
theorem RelS.lst (R : RelS K E F β B ρ st σ H) {i : Nat} (h : lstB ρ i st = true) : ∃ a vs, σ[i]? = some (some (.ref a)) ∧ H a = some (.lst vs) := by
  unfold lstB at h
  split at h
  · rename_i xs e
    obtain ⟨v, h1, a, rfl, ⟨vs, h2, _⟩, h3⟩ := R.rel.slot i _ e
    exact ⟨a, vs, h1, h2⟩
  · rename_i n e
    split at h
    · rename_i xs q
      obtain ⟨v, h1, a, rfl, h2⟩ := R.rel.slot i _ e
      obtain ⟨vs, h3, _⟩ := R.rel.st.at_ n a _ h2 q
      exact ⟨a, vs, h1, h3⟩
    · cases h
  · cases h
/-! ### append, extend -/
def rExtendR : V → List V → Hp → VK → Prop := fun x vs H Q => ∃ l b xs zs, x = .ref l ∧ vs = [.ref b] ∧ H l = some (.lst xs) ∧ Rd H b (.lst zs) ∧ xs.length + zs.length ≤ sizeLine ∧ Q .non (upd H l (.lst (xs ++ zs)))
theorem mt_extendR : MtM X "list.extend" rExtendR := by
  intro pins s σ H x vs v us Q I rx rv h
  obtain ⟨l, b, xs, zs, rfl, rfl, hH, hB, hz, q⟩ := h
  cases rx
  obtain ⟨u, rfl, ru⟩ := rv.one
  cases ru
  obtain ⟨z, its, n, r, hl, e⟩ := I.lstM hH
  obtain ⟨z2, its2, n2, r2, hl2, e2⟩ := rd_lst I hB
  have hsz : its.toArray.size + its2.toArray.size ≤ sizeLine := by rw [List.size_toArray, List.size_toArray]; omega
  have hlong : ¬ (!its.toArray.isEmpty && Builtin.List.listTooLong (its.toArray.size + its2.toArray.size)) = true := by
    rw [notLongL hsz, Bool.and_false]
    exact Bool.false_ne_true
  refine call_meets F.slot_list_extend ⟨_, e, rfl⟩ F.entry_list_extend (F.args_list_extend_2 _ _)
    (AutoSeq1.list_extend_list_list_0 l its.toArray n b its2.toArray n2 hlong (by rw [List.size_toArray]; omega) (by omega)) ⟨e, e2, ?_⟩
  refine ⟨.non, _, I.lset (its' := its ++ its2) hH e (by simp) (r.append r2) ?_, rfl, q⟩
  rw [List.length_append]
  omega
theorem tyl {a : Addr} {vs : List V} (h : H a = some (.lst vs)) : tyV K "list" (.ref a) H := .inl ⟨rfl, vs, .inl (.inl h)⟩
theorem s_app {i : Nat} {n nm : Str} {p apos cpos : Pos} (hN : X.N[i]? = some n) (hv : Vis X.env.scope n) (hd : (n == ("__debug__" : Str)) = false) (hcd : (n == ("__classdict__" : Str)) = false) (hnm : nm = "append") (he : PE X e (tEs X Φ wx ee)) (hst : noStar e = true) (hline : (apos.endLine == cpos.line) = true) :
    PS X (.Expr (.Call (.Attribute (.Name n p) nm apos) [e] [] cpos) pos) (tSt X Φ wx (.app i ee)) := by
  subst hnm
  refine PS.imp (ps_expr (pe_bm PySem.F.plainAttrs_list PySem.F.slot_list_append PySem.F.type_list_append mt_append (pe_var hN hv hd hcd) (pa_cons he pa_nil (star_of hst)) (attr_plain rfl) (by rw [star_of hst]; rfl) hline (star_of hst) rfl)) fun D σ H ⟨E, F, β, B, ρ, st, R, h⟩ => ?_
  unfold semS at h
  split at h
  · rename_i hm
    obtain ⟨a, vs, h1, h2⟩ := R.lst hm
    refine ⟨_, h1, tyl (K := kw X) h2, ?_⟩
    refine step_se R h fun w st1 F1 v H1 e1 R1 rv h => ?_
    split at h
    · rename_i y q1
      have rp := rv.py q1
      obtain ⟨a', c0, c1, g1, g2, g3, g4, g5⟩ := chg_off (R.ext (frz_ext e1) (frz_st (hB_of R.rel) R1.rel.st)) h
      rw [h1] at g1
      cases g1
      cases c0 with
      | lst xs' =>
        have g4 : (if xs'.length < lineN then some (C.lst (xs' ++ [y])) else none) = some c1 := g4
        split at g4
        · rename_i hz
          cases g4
          obtain ⟨vs', f1, f2⟩ := id g2
          exact ⟨a, vs', v, rfl, rfl, f1, by rw [f2.length]; exact hz, g5 _ ⟨_, upd_same, RpAll.keep (kp_outC g2 g3) _ _ (f2.append (.cons rp .nil))⟩⟩
        · cases g4
      | dct kvs => cases g4
    · exact h.elim
  · exact h.elim
theorem s_ext {i : Nat} {n nm : Str} {p apos cpos : Pos} (hN : X.N[i]? = some n) (hv : Vis X.env.scope n) (hd : (n == ("__debug__" : Str)) = false) (hcd : (n == ("__classdict__" : Str)) = false) (hnm : nm = "extend") (he : PE X e (tEs X Φ wx ee)) (hst : noStar e = true) (hline : (apos.endLine == cpos.line) = true) :
    PS X (.Expr (.Call (.Attribute (.Name n p) nm apos) [e] [] cpos) pos) (tSt X Φ wx (.ext i ee)) := by
  subst hnm
  refine PS.imp (ps_expr (pe_bm PySem.F.plainAttrs_list PySem.F.slot_list_extend PySem.F.type_list_extend mt_extendR (pe_var hN hv hd hcd) (pa_cons he pa_nil (star_of hst)) (attr_plain rfl) (by rw [star_of hst]; rfl) hline (star_of hst) rfl)) fun D σ H ⟨E, F, β, B, ρ, st, R, h⟩ => ?_
  unfold semS at h
  split at h
  · rename_i hm
    obtain ⟨a, vs, h1, h2⟩ := R.lst hm
    refine ⟨_, h1, tyl (K := kw X) h2, ?_⟩
    refine step_se R h fun w st1 F1 v H1 e1 R1 rv h => ?_
    split at h
    · rename_i ys q1
      obtain ⟨b, zs, rfl, k1, k2⟩ := (rv.1.rdp R1.rel.st q1).list
      obtain ⟨a', c0, c1, g1, g2, g3, g4, g5⟩ := chg_off R1 h
      rw [h1] at g1
      cases g1
      cases c0 with
      | lst xs' =>
        have g4 : (if xs'.length + ys.length ≤ lineN then some (C.lst (xs' ++ ys)) else none) = some c1 := g4
        split at g4
        · rename_i hz
          cases g4
          obtain ⟨vs', f1, f2⟩ := id g2
          exact ⟨a, b, vs', zs, rfl, rfl, f1, k1, by rw [f2.length, k2.length]; exact hz, g5 _ ⟨_, upd_same, RpAll.keep (kp_outC g2 g3) _ _ (f2.append k2)⟩⟩
        · cases g4
      | dct kvs => cases g4
    · exact h.elim
  · exact h.elim
end
end Gm

/-! The deep layer, part G3: loops; the checker of statements. -/
namespace Gm
open PySem PySem.Spec PyProof.Rows L2
section
variable {X : Cx} {Φ : Phi} {T : Tb} {wx : WX} {N : List Str} {sc : Scope} {K : KW} {mg : Str → Option Value} {E : Ent} {F F1 : Addr → Prop} {β : List Addr} {B : Bs} {ρ : Rho} {st st1 : Stt} {σ : L2.St} {H H1 : Hp} {D : Ends} {pos : Pos} {a x e tg : Expr} {ea ee : Gm.E}
/-! ### what a for statement walks -/
def Stab (F : Addr → Prop) (H : Hp) (B : Bs) (H2 : Hp) : Prop := (∀ a vs, F a → Rd H a (.lst vs) → Rd H2 a (.lst vs)) ∧ (∀ a vs, Rd H a (.tup vs) → Rd H2 a (.tup vs)) ∧ ∀ a, B.b a → H2 a = H a
def RIF (K : KW) : RepI := fun _ B _ F' H' J xs => ∃ vs, RpAll K F' H' vs xs ∧ ∀ H2 : Hp, Stab F' H' B H2 → WalkAt J vs H2
theorem back_RIF {β : List Addr} {B : Bs} : Back β (RIF K β B) := fun _ _ _ _ _ _ _ _ _ h => h
theorem walk_l' {a : Addr} {vs : List V} {H : Hp} (h : Rd H a (.lst vs)) : WalkAt (Itl K a) vs H := fun i => ⟨fun hi => ⟨⟨vs, vs[i], .inl h, List.getElem?_eq_getElem hi⟩, fun x H' ⟨e1, e2⟩ => ⟨e1, e2 vs (.inl h)⟩⟩, fun hi => ⟨vs, .inl h, hi⟩⟩
theorem i_ofF (ha : PE X a (tEs X Φ wx ea)) : PI X tg a (tIr (RIF (kw X)) (kw X) X.mg wx (semF Φ (.of ea))) := by
  refine PI.imp (pi_seq ha) fun σ H Q ⟨F, β, B, ρ, st, R, h⟩ => ?_
  unfold semF at h
  refine ⟨F, β, B, ρ, st, R, (Post.step back_RIF h).imp fun v H1 ⟨w, st1, F1, e1, s1, rv, h⟩ => ?_⟩
  have R1 := R.ext e1 s1
  have h : (∀ n, w ≠ .loc n) ∧ (∀ c, w ≠ .lent c) ∧ Post (kw X) X.mg β B (RIF (kw X) β B) F H (fun c d H' => wx c d σ H') (Res.ofO st1 ((w.rd st1).bind itemsD)) Q := by
    refine ⟨fun n e => ?_, fun c e => ?_, ?_⟩
    · subst e; exact h.elim
    · subst e; exact h.elim
    · cases w <;> first | exact h.elim | exact h
  obtain ⟨hl, hlt, h⟩ := h
  obtain ⟨ds, e, h⟩ := Post.ofO h
  obtain ⟨d, h1, h2⟩ := Option.bind_eq_some_iff.mp e
  have ez := frz_ext e1
  have sz := frz_st (hB_of R) s1
  have fin : ∀ {J : L2.It}, RIF (kw X) β B H (frzF F1 β H H1) H1 J ds → Q J H1 := fun {J} q => Post.doneX h ez sz q
  cases d with
  | list xs =>
    cases h2
    have key : ∃ a vs, v = .ref a ∧ Rd H1 a (.lst vs) ∧ RpAll (kw X) (frzF F1 β H H1) H1 vs ds ∧ (frzF F1 β H H1 a ∨ B.b a) := by
      cases w with
      | d y =>
        cases h1
        cases rv.1 with
        | lst g1 g2 ga => exact ⟨_, _, rfl, g1, RpAll.keep frz_kp _ _ ga, .inl (.inl g2)⟩
      | new c =>
        have h1 : c.dat = .list ds := Option.some.inj h1
        have rp := rv.py (x := c.dat) rfl
        rw [h1] at rp
        cases rp with
        | lst g1 g2 ga => exact ⟨_, _, rfl, g1, ga, .inl g2⟩
      | bor c =>
        obtain ⟨a, rfl, g2, g3⟩ := rv.1
        cases c with
        | lst ys =>
          cases (show some (PyData.list ys) = some (PyData.list ds) from h1)
          obtain ⟨vs, g4, g5⟩ := g2
          exact ⟨a, vs, rfl, .inl g4, RpAll.keep frz_kp _ _ g5, .inr g3⟩
        | dct kvs => cases h1
      | loc n => exact absurd rfl (hl n)
      | lent c => exact absurd rfl (hlt c)
      | own c => cases h1
      | fn n => cases h1
    obtain ⟨a, vs, rfl, g1, g2, g3⟩ := key
    refine .inl ⟨a, rfl, ⟨vs, .inl g1⟩, fin ⟨vs, g2, fun H2 k => walk_l' ?_⟩⟩
    rcases g3 with g3 | g3
    · exact k.1 a vs g3 g1
    · exact rd_eq g1 (k.2.2 a g3)
  | tuple xs =>
    cases h2
    obtain ⟨a, vs, rfl, g0, g2⟩ := (rv.1.rdp s1 h1).tuple
    have g1 := g0.sq
    refine .inr (.inl ⟨a, rfl, ⟨vs, g1⟩, fin ⟨vs, RpAll.keep frz_kp _ _ g2, fun H2 k => walk_t ?_⟩⟩)
    rcases g1 with g1 | g1
    · exact .inl (k.2.1 a vs g1)
    · exact .inr g1
  | str y =>
    cases h2
    exact .inr (.inr ⟨y, (rv.1.rdp s1 h1).str, fin ⟨_, rp_strs _, fun H2 _ => walk_s⟩⟩)
  | _ => cases h2
def Ent.mark (E : Ent) (F : Addr → Prop) (H : Hp) : Ent := { E with M := (F, H) :: E.M }
theorem Since.mark (S : Since E F β B H) : Since (E.mark F H) F β B H := ⟨S.ext, S.pre, S.bb, S.bp, S.oo, fun m hm => by
  rcases List.mem_cons.mp hm with rfl | hm
  · exact ⟨fun _ h => h, fun _ _ h => h, fun _ _ _ h => h, fun _ _ _ h => h, fun _ _ _ => rfl⟩
  · exact S.mks m hm⟩
theorem Since.unmark {F' : Addr → Prop} {H' : Hp} (S : Since (E.mark F' H') F β B H) : Since E F β B H := ⟨S.ext, S.pre, S.bb, S.bp, S.oo, fun m hm => S.mks m (List.mem_cons_of_mem _ hm)⟩
theorem PostS.mark {F' : Addr → Prop} {H' : Hp} {r : Res Fl} {D' : Ends} (hrt : D'.rt = D.rt) (h : PostS K mg wx E r D) (hn : ∀ ρ st, r = .ok (.nx ρ) st → ∀ σ H F β B, RelS K (E.mark F' H') F β B ρ st σ H → D'.nx σ H) : PostS K mg wx (E.mark F' H') r D' := by
  cases r with
  | bad => exact h
  | ex x s => exact fun c d σ H F β B s S q => h c d σ H F β B s S.unmark q
  | ok fl s =>
    cases fl with
    | nx ρ => exact hn ρ s rfl
    | rt w =>
      intro v H F β B s' S q
      rw [hrt]
      refine h v H F β B s' S.unmark ?_
      cases w <;> exact q
theorem s_for {t : Gm.T} {it : It} {b : Ss} {iter : Expr} {body : List Stmt} (hp : PassesOwn (model X.prog X.w) X.A X.env X.xe) (hc : X.calm = true) (hi : PI X tg iter (tIr (RIF (kw X)) (kw X) X.mg wx (semF Φ it))) (hg : PG X tg (gT (kw X) t)) (hb : PSs X body (tSs X Φ wx b)) (hs : noSet iter = true) :
    PS X (.For tg iter body [] pos) (tSt X Φ wx (.for_ t it b)) := by
  refine PS.imp (ps_for hp hc hi hg hb (folded_of hs)) fun D σ H ⟨E, F, β, B, ρ, st, R, h⟩ => ?_
  unfold semS at h
  generalize hf : (fun (x : PyData) (ρ : Rho) (s : Stt) => (Res.ofO s (setT t x ρ)).bind fun ρ s => semSs Φ b ρ s) = f at h
  refine ⟨F, β, B, ρ, st, R.rel, step_s R h fun xs st1 F1 J H1 e1 R1 ⟨vs, ra, wk⟩ h => ?_⟩
  have hlen := ra.length
  refine ⟨fun i m σ' H' => m = xs.length - i ∧ i ≤ xs.length ∧ ∃ F' β' B' ρ' st', RelS (kw X) (E.mark F1 H1) F' β' B' ρ' st' σ' H' ∧ PostS (kw X) X.mg wx E (forL f (xs.drop i) ρ' st') D,
    ⟨_, rfl, Nat.zero_le _, F1, β, B, ρ, st1, ⟨R1.rel, R1.since.mark⟩, by rw [List.drop_zero]; exact h⟩, ?_⟩
  rintro i m σ' H' ⟨rfl, hi, F', β', B', ρ', st', R', h'⟩
  have kp : Kp F1 H1 F' H' := R'.since.mks _ List.mem_cons_self
  have sb : Stab F1 H1 B H' := ⟨fun a vs hF hr => kp.lst a vs hF hr, fun a vs hr => kp.tup a vs hr, fun a hb => by
    rw [R1.since.bb] at hb
    obtain ⟨p1, p2⟩ := R1.since.bp a hb
    rw [R1.since.ext.un a p1 p2]
    exact R'.since.ext.un a p1 p2⟩
  have wk' := wk H' sb i
  by_cases hlt : i < xs.length
  · obtain ⟨go, yl⟩ := wk'.1 (by omega)
    refine .inr ⟨go, fun σ'' H'' => i + 1 ≤ xs.length ∧ ∃ F' β' B' ρ' st', RelS (kw X) (E.mark F1 H1) F' β' B' ρ' st' σ'' H'' ∧ PostS (kw X) X.mg wx E (forL f (xs.drop (i + 1)) ρ' st') D,
      fun σ'' H'' q => ⟨xs.length - (i + 1), by omega, rfl, q⟩, fun x Hx hx => ?_⟩
    obtain ⟨rfl, hvx⟩ := yl x Hx hx
    obtain ⟨d, hd, rx⟩ := ra.get' hvx
    have hdrop : xs.drop i = d :: xs.drop (i + 1) := by
      obtain ⟨hl', hd'⟩ := List.getElem?_eq_some_iff.mp hd
      rw [← hd']
      exact (List.drop_eq_getElem_cons hl')
    rw [hdrop] at h'
    unfold forL at h'
    rw [← hf] at h'
    simp only at h'
    cases q1 : setT t d ρ' with
    | none => rw [q1] at h'; exact h'.elim
    | some ρ2 =>
      rw [q1] at h'
      simp only [Res.ofO_some, Res.bind_ok] at h'
      refine gT_ok R'.rel (Rp.keep kp _ _ rx) q1 fun σ2 R2 _ _ => ⟨E.mark F1 H1, F', β', B', ρ2, st', ⟨R2, R'.since⟩, ?_⟩
      cases q2 : semSs Φ b ρ2 st' with
      | bad => rw [q2] at h'; exact h'
      | ex x s => rw [q2] at h'; exact fun c d σ H F β B s S q => h' c d σ H F β B s S.unmark q
      | ok fl s =>
        rw [q2] at h'
        cases fl with
        | nx ρ3 => exact fun σ3 H3 F3 β3 B3 R3 => ⟨hlt, F3, β3, B3, ρ3, s, R3, by rw [hf] at h'; exact h'⟩
        | rt w =>
          intro v H F β B s' S q
          refine h' v H F β B s' S.unmark ?_
          cases w <;> exact q
  · have hie : i = xs.length := by omega
    subst hie
    rw [List.drop_length] at h'
    unfold forL at h'
    exact .inl ⟨wk'.2 (by omega), h' σ' H' F' β' B' ⟨R'.rel, R'.since.unmark⟩⟩
/-! ### enumerate -/
def enumM : Nat → List V → List Itm
  | _, [] => []
  | k, v :: vs => .p [.int (k : Nat), v] :: enumM (k + 1) vs
theorem enumM_len : ∀ (k : Nat) (vs : List V), (enumM k vs).length = vs.length
  | _, [] => rfl
  | k, v :: vs => by unfold enumM; rw [List.length_cons, List.length_cons, enumM_len]
theorem enumM_get : ∀ (k : Nat) (vs : List V) (i : Nat), (enumM k vs)[i]? = (vs[i]?).map fun v => Itm.p [.int ((k + i : Nat) : Int), v]
  | _, [], i => by unfold enumM; simp
  | k, v :: vs, 0 => rfl
  | k, v :: vs, i + 1 => by
    unfold enumM
    rw [List.getElem?_cons_succ, List.getElem?_cons_succ, enumM_get (k + 1) vs i, show k + 1 + i = k + (i + 1) by omega]
theorem enumM_rp {F : Addr → Prop} {H : Hp} : ∀ {xs : List PyData} {vs : List V} (k : Nat), RpAll K F H vs xs → RpMs K F H (enumM k vs) (enumD k xs)
  | [], _, k, h => by cases h; exact .nil
  | x :: xs, _, k, h => by
    cases h with
    | cons h1 h2 => exact .cons ⟨_, rfl, .cons (.int _) (.cons h1 .nil)⟩ (enumM_rp (k + 1) h2)
def WalkE (J : L2.It) (ms : List Itm) (H : Hp) : Prop := ∀ i, (i < ms.length → J.go i H ∧ ∀ x H', J.yld i H x H' → ItY ms[i]? H x H') ∧ (i = ms.length → J.stop i H)
theorem walk_el {a : Addr} {vs : List V} {H : Hp} (h : SqL K H a vs) : WalkE (Ite K a) (enumM 0 vs) H := fun i => by
  rw [enumM_len]
  refine ⟨fun hi => ?_, fun hi => ⟨vs, h, by omega⟩⟩
  have e1 : vs[i]? = some (vs[i]'hi) := List.getElem?_eq_getElem _
  refine ⟨⟨vs, _, h, e1⟩, fun x H' ⟨T, u, g1, g2, g3, g4⟩ => ?_⟩
  rw [enumM_get, g4 vs h, Nat.zero_add]
  exact ⟨T, g1, g2, g3⟩
theorem walk_et {a : Addr} {vs : List V} {H : Hp} (h : SqT K H a vs) : WalkE (IteT K a) (enumM 0 vs) H := fun i => by
  rw [enumM_len]
  refine ⟨fun hi => ?_, fun hi => ⟨vs, h, by omega⟩⟩
  have e1 : vs[i]? = some (vs[i]'hi) := List.getElem?_eq_getElem _
  refine ⟨⟨vs, _, h, e1⟩, fun x H' ⟨T, u, g1, g2, g3, g4⟩ => ?_⟩
  rw [enumM_get, g4 vs h, Nat.zero_add]
  exact ⟨T, g1, g2, g3⟩
def RIE (K : KW) : RepI := fun _ B _ F' H' J xs => ∃ ms, RpMs K F' H' ms xs ∧ ∀ H2 : Hp, Stab F' H' B H2 → WalkE J ms H2
theorem back_RIE {β : List Addr} {B : Bs} : Back β (RIE K β B) := fun _ _ _ _ _ _ _ _ _ h => h
theorem i_enumF {p : Pos} {n : Str} (hn : n = "enumerate") (S : Side X Φ T wx) (ht : n ∈ T.ab) (hg : Gl X n) (ha : PE X a (tEs X Φ wx ea)) (hs : noStar a = true) {elts : List Expr} {kk : Nat} {tpos : Pos} : PI X (.Tuple elts kk tpos) (.Call (.Name n p) [a] [] pos) (tIr (RIE (kw X)) (kw X) X.mg wx (semF Φ (.enum ea))) := by
  have hm := S.ab n ht
  subst hn
  refine PI.imp (pi_enumA hg hm (a_cons ha a_nil hs) (by rw [star_of hs]; rfl)) fun σ H Q ⟨F, β, B, ρ, st, R, h⟩ => ?_
  unfold semF at h
  refine ⟨F, β, B, ρ, st, R, ?_⟩
  have hq := Post.step (rep := RR (kw X) β B) back_RIE h
  rw [sems_one]
  cases q1 : sem Φ ea ρ st with
  | bad => rw [q1] at hq; exact hq
  | ex x s => rw [q1] at hq; exact hq
  | ok w0 s0 =>
    rw [q1] at hq
    simp only [Res.bind_ok]
    intro vs F1 H1 e1 s1 q
    cases q with
    | @cons v0 _ _ _ rv q => cases q with
      | nil =>
        obtain ⟨w, st1, F1', e1', s1', rv', h⟩ := hq _ F1 H1 e1 s1 rv
        have h : (∀ n, w ≠ .loc n) ∧ (∀ c, w ≠ .lent c) ∧ Post (kw X) X.mg β B (RIE (kw X) β B) F H (fun c d H' => wx c d σ H') (Res.ofO st1 ((w.rd st1).bind enumW)) Q := by
          refine ⟨fun n e => ?_, fun c e => ?_, ?_⟩
          · subst e; exact h.elim
          · subst e; exact h.elim
          · cases w <;> first | exact h.elim | exact h
        obtain ⟨hl, hlt, h⟩ := h
        obtain ⟨ds, e, h⟩ := Post.ofO h
        obtain ⟨d, h1, h2⟩ := Option.bind_eq_some_iff.mp e
        have ez := frz_ext e1'
        have sz := frz_st (hB_of R) s1'
        have fin : ∀ {J : L2.It}, RIE (kw X) β B H (frzF F1' β H H1) H1 J ds → Q J H1 := fun {J} q => Post.doneX h ez sz q
        cases d with
        | list xs =>
          cases h2
          have key : ∃ a vs, v0 = V.ref a ∧ Rd H1 a (.lst vs) ∧ RpAll (kw X) (frzF F1' β H H1) H1 vs xs ∧ (frzF F1' β H H1 a ∨ B.b a) := by
            cases w with
            | d y =>
              cases h1
              cases rv'.1 with
              | lst g1 g2 ga => exact ⟨_, _, rfl, g1, RpAll.keep frz_kp _ _ ga, .inl (.inl g2)⟩
            | new c =>
              have h1 : c.dat = .list xs := Option.some.inj h1
              have rp := rv'.py (x := c.dat) rfl
              rw [h1] at rp
              cases rp with
              | lst g1 g2 ga => exact ⟨_, _, rfl, g1, ga, .inl g2⟩
            | bor c =>
              obtain ⟨a, rfl, g2, g3⟩ := rv'.1
              cases c with
              | lst ys =>
                cases (show some (PyData.list ys) = some (PyData.list xs) from h1)
                obtain ⟨vs, g4, g5⟩ := g2
                exact ⟨a, vs, rfl, .inl g4, RpAll.keep frz_kp _ _ g5, .inr g3⟩
              | dct kvs => cases h1
            | loc n => exact absurd rfl (hl n)
            | lent c => exact absurd rfl (hlt c)
            | own c => cases h1
            | fn n => cases h1
          obtain ⟨a, vs, rfl, g1, g2, g3⟩ := key
          refine ⟨a, rfl, .inl ⟨⟨vs, .inl g1⟩, fin ⟨_, enumM_rp 0 g2, fun H2 k => walk_el (K := kw X) (.inl ?_)⟩⟩⟩
          rcases g3 with g3 | g3
          · exact k.1 a vs g3 g1
          · exact rd_eq g1 (k.2.2 a g3)
        | tuple xs =>
          cases h2
          obtain ⟨a, vs, rfl, g0, g2⟩ := (rv'.1.rdp s1' h1).tuple
          have g1 := g0.sq
          refine ⟨a, rfl, .inr ⟨⟨vs, g1⟩, fin ⟨_, enumM_rp 0 (RpAll.keep frz_kp _ _ g2), fun H2 k => walk_et (K := kw X) ?_⟩⟩⟩
          rcases g1 with g1 | g1
          · exact .inl (k.2.1 a vs g1)
          · exact .inr g1
        | _ => cases h2
theorem s_forE {t : Gm.T} {it : It} {b : Ss} {iter : Expr} {body : List Stmt} (ht : isTp t = true) (hp : PassesOwn (model X.prog X.w) X.A X.env X.xe) (hc : X.calm = true) (hi : PI X tg iter (tIr (RIE (kw X)) (kw X) X.mg wx (semF Φ it))) (hg : PG X tg (gT (kw X) t)) (hb : PSs X body (tSs X Φ wx b)) (hs : noSet iter = true) :
    PS X (.For tg iter body [] pos) (tSt X Φ wx (.for_ t it b)) := by
  refine PS.imp (ps_for hp hc hi hg hb (folded_of hs)) fun D σ H ⟨E, F, β, B, ρ, st, R, h⟩ => ?_
  unfold semS at h
  generalize hf : (fun (x : PyData) (ρ : Rho) (s : Stt) => (Res.ofO s (setT t x ρ)).bind fun ρ s => semSs Φ b ρ s) = f at h
  refine ⟨F, β, B, ρ, st, R.rel, step_s R h fun xs st1 F1 J H1 e1 R1 ⟨ms, ra, wk⟩ h => ?_⟩
  have hlen := ra.length
  refine ⟨fun i m σ' H' => m = xs.length - i ∧ i ≤ xs.length ∧ ∃ F' β' B' ρ' st', RelS (kw X) (E.mark F1 H1) F' β' B' ρ' st' σ' H' ∧ PostS (kw X) X.mg wx E (forL f (xs.drop i) ρ' st') D,
    ⟨_, rfl, Nat.zero_le _, F1, β, B, ρ, st1, ⟨R1.rel, R1.since.mark⟩, by rw [List.drop_zero]; exact h⟩, ?_⟩
  rintro i m σ' H' ⟨rfl, hi, F', β', B', ρ', st', R', h'⟩
  have kp : Kp F1 H1 F' H' := R'.since.mks _ List.mem_cons_self
  have sb : Stab F1 H1 B H' := ⟨fun a vs hF hr => kp.lst a vs hF hr, fun a vs hr => kp.tup a vs hr, fun a hb => by
    rw [R1.since.bb] at hb
    obtain ⟨p1, p2⟩ := R1.since.bp a hb
    rw [R1.since.ext.un a p1 p2]
    exact R'.since.ext.un a p1 p2⟩
  have wk' := wk H' sb i
  by_cases hlt : i < xs.length
  · obtain ⟨go, yl⟩ := wk'.1 (by omega)
    refine .inr ⟨go, fun σ'' H'' => i + 1 ≤ xs.length ∧ ∃ F' β' B' ρ' st', RelS (kw X) (E.mark F1 H1) F' β' B' ρ' st' σ'' H'' ∧ PostS (kw X) X.mg wx E (forL f (xs.drop (i + 1)) ρ' st') D,
      fun σ'' H'' q => ⟨xs.length - (i + 1), by omega, rfl, q⟩, fun x Hx hx => ?_⟩
    have hy := yl x Hx hx
    obtain ⟨mi, hmi⟩ : ∃ mi, ms[i]? = some mi := ⟨ms[i]'(by omega), List.getElem?_eq_getElem _⟩
    rw [hmi] at hy
    obtain ⟨d, hd, rm⟩ := ra.get hmi
    have hdrop : xs.drop i = d :: xs.drop (i + 1) := by
      obtain ⟨hl', hd'⟩ := List.getElem?_eq_some_iff.mp hd
      rw [← hd']
      exact (List.drop_eq_getElem_cons hl')
    rw [hdrop] at h'
    unfold forL at h'
    rw [← hf] at h'
    simp only at h'
    obtain ⟨ex, sx, _, itr⟩ := item_ok R'.rel.st hy (rm.keep kp)
    have R2 := R'.ext ex sx
    cases q1 : setT t d ρ' with
    | none => rw [q1] at h'; exact h'.elim
    | some ρ2 =>
      rw [q1] at h'
      simp only [Res.ofO_some, Res.bind_ok] at h'
      refine gT_ok2 R2.rel itr (.inr ht) q1 fun σ2 R3 _ _ => ⟨E.mark F1 H1, F', β', B', ρ2, st', ⟨R3, R2.since⟩, ?_⟩
      cases q2 : semSs Φ b ρ2 st' with
      | bad => rw [q2] at h'; exact h'
      | ex x s => rw [q2] at h'; exact fun c d σ H F β B s S q => h' c d σ H F β B s S.unmark q
      | ok fl s =>
        rw [q2] at h'
        cases fl with
        | nx ρ3 => exact fun σ3 H3 F3 β3 B3 R3 => ⟨hlt, F3, β3, B3, ρ3, s, R3, by rw [hf] at h'; exact h'⟩
        | rt w =>
          intro v H F β B s' S q
          refine h' v H F β B s' S.unmark ?_
          cases w <;> exact q
  · have hie : i = xs.length := by omega
    subst hie
    rw [List.drop_length] at h'
    unfold forL at h'
    exact .inl ⟨wk'.2 (by omega), h' σ' H' F' β' B' ⟨R'.rel, R'.since.unmark⟩⟩
theorem s_whl {n : Nat} {c : Expr} {ec : Gm.E} {b : Ss} {body : List Stmt} (hp : PassesOwn (model X.prog X.w) X.A X.env X.xe) (hc : PT X c (tTs X Φ wx ec)) (hb : PSs X body (tSs X Φ wx b)) :
    PS X (.While c body [] pos) (tSt X Φ wx (.whl n ec b)) := by
  refine PS.imp (ps_while hp hc hb) fun D σ H ⟨E, F, β, B, ρ, st, R, h⟩ => ?_
  unfold semS at h
  generalize hg : (fun (ρ : Rho) (s : Stt) => (sem Φ ec ρ s).bind fun x s => truth x s) = g at h
  generalize hf : (fun (ρ : Rho) (s : Stt) => semSs Φ b ρ s) = f at h
  refine ⟨fun m σ' H' => ∃ F' β' B' ρ' st', RelS (kw X) E F' β' B' ρ' st' σ' H' ∧ PostS (kw X) X.mg wx E (whlL g f m ρ' st') D, ⟨n, F, β, B, ρ, st, R, h⟩, ?_⟩
  rintro m σ' H' ⟨F', β', B', ρ', st', R', h'⟩
  cases m with
  | zero => exact h'.elim
  | succ m =>
    unfold whlL at h'
    rw [← hg] at h'
    refine step_st (f := fun ρ s => (sem Φ ec ρ s).bind truth) R' h' fun bb st1 F1 H1 e1 R1 h1 => ?_
    cases bb with
    | false => exact h1 σ' H1 F1 β' B' R1
    | true =>
      simp only [if_true] at h1 ⊢
      refine ⟨fun σ'' H'' => ∃ F' β' B' ρ' st', RelS (kw X) E F' β' B' ρ' st' σ'' H'' ∧ PostS (kw X) X.mg wx E (whlL g f m ρ' st') D, fun σ'' H'' q => ⟨m, Nat.lt_succ_self m, q⟩, E, F1, β', B', ρ', st1, R1, ?_⟩
      rw [← hf] at h1
      cases q2 : semSs Φ b ρ' st1 with
      | bad => simp only [q2] at h1; exact h1
      | ex x s => simp only [q2] at h1; exact h1
      | ok fl s =>
        simp only [q2, Res.bind_ok] at h1
        cases fl with
        | nx ρ3 => exact fun σ3 H3 F3 β3 B3 R3 => ⟨F3, β3, B3, ρ3, s, R3, by rw [hg, hf] at h1; exact h1⟩
        | rt w => exact h1
/-! ### try, the body running through -/
theorem s_tri {b : Ss} {body : List Stmt} {h₀ : ExceptHandler} {hs : List ExceptHandler} (hb : PSs X.nox body (tSs X.nox Φ (fun _ _ _ _ => False) b)) : PS X (.Try body (h₀ :: hs) [] [] pos) (tSt X Φ wx (.tri b)) := by
  refine PS.imp (ps_try_thru0 hb) fun D σ H ⟨E, F, β, B, ρ, st, R, h⟩ => ?_
  unfold semS at h
  refine ⟨E, F, β, B, ρ, st, R, ?_⟩
  cases q : semSs Φ b ρ st with
  | bad => rw [q] at h; exact h
  | ex x s => rw [q] at h; exact h.elim
  | ok fl s => rw [q] at h; cases fl <;> exact h
end
end Gm

/-! The deep layer, part T: an own exception's __init__ (over a base class of the program that has none of its own). -/
namespace Gm
open PySem PySem.Spec PyProof.Rows L2
section
variable {X : Cx} {e : Expr} {es : List Expr} {ta : TA}
/-- a method's call on one line -/
theorem ev_meth {o : Expr} {m : Str} {apos pos : Pos} {args : List Expr} {env : Env} (hb : attributeBase o m env (eval o env) = eval o env) (hf : methodCallForm args.length (backTo pos (starEach args env)) (backToKw pos (keywordEach [] env)) = true) (hl : (apos.endLine == pos.line) = true) :
    eval (.Call (.Attribute o m apos) args [] pos) env = (do
      let u ← eval o env
      standAt apos.atName
      let (h, fst) ← holding [u] (getMethod u m (plainOf o env))
      callWith pos h fst (backTo pos (starEach args env)) (backToKw pos (keywordEach [] env))) := by
  rw [arm_eval_Call, hb]
  refine congrArg _ (funext fun u => ?_)
  rw [mcall_line (n := args.length + ([] : List Keyword).length) hf hl]
/-- what is told of the base class G -/
structure BaseC (K : PySem.W.Frag) (G : Addr) : Prop where
  ga : PySem.W.specialIn K (.ref G) "__getattribute__" = some (some (.builtin "type.__getattribute__"))
  rd : PySem.W.readsIn K G (.type "type") = true
  it : PySem.W.findCls K (.ref G) (.type "type") "__init__" = some (.val (.builtin "ValueError.__init__"))
theorem pe_geinit {g : Str} {G : Addr} {p1 p2 pos : Pos} {pl : Sem Bool} (hg : Gl X g) (hd : (g == ("__debug__" : Str)) = false) (hm : X.mg g = some (.ref G)) (BC : BaseC X.K G) (ha : PA X (e :: es) ta)
    (hev : eval (.Call (.Attribute (.Name g p1) "__init__" p2) (e :: es) [] pos) X.env = (do
      let o ← eval (.Name g p1) X.env
      standAt p2.atName
      let (h, fst) ← holding [o] (getMethod o "__init__" pl)
      callWith pos h fst (backTo pos (starEach (e :: es) X.env)) (backToKw pos (keywordEach [] X.env))) := by rfl)
    (hst : starEach (e :: es) X.env = (false, eval e X.env) :: starEach es X.env := by rfl) (hbk : (backTo pos (starEach es X.env)).any (·.1) = false := by rfl) : PE X (.Call (.Attribute (.Name g p1) "__init__" p2) (e :: es) [] pos) (tVeI X.K ta) := by
  refine ⟨fun pins s σ H Q I h => ?_⟩
  refine PySem.W.methodCall_KW (ld_glob I hg hm ?_ hd) hev
  refine PySem.W.method_cls I.kIn BC.ga (PySem.W.cls_value I.kIn BC.rd BC.it rfl ?_)
  have J := I.tok (s.toks + 1)
  show wpAny _ _ (callWith pos (Value.builtin "ValueError.__init__") [] (backTo pos (starEach (e :: es) X.env)) []) _ _ _
  refine PyProof.Rows.callWith_method1 (thn (ha.run pos pins _ σ H _ J h) fun us s2 ⟨vs, H2, I2, rv, a, C, ws, ew, lw, OC, at_, fin⟩ => ?_) hst hbk
  subst ew
  cases rv with
  | @cons _ u1 _ ur r1 r2 =>
    obtain rfl : u1 = Value.ref a := r1
    refine oinit_ok OC I2 at_ ?_ fun s3 I3 => ⟨.non, H2, I3, rfl, fin⟩
    have hl := Paired.length r2
    rw [sizeLine_eq]
    omega
/-! ### the message -/
def capM : Expr → Nat
  | .Constant (.str x) _ _ => x.length
  | .BinOp a .Add b _ => capM a + capM b
  | _ => 2000
def msgB (N : List Str) (sc : Scope) : Expr → Bool
  | .Constant (.str _) _ _ => true
  | .Call (.Name f _) [.Name n _] [] _ => decide (f = "str") && decide (sc.names.lookup f = some .globalImplicit) && (N.tail.contains n) && decide (sc.names.lookup n = some .local) && !(n == ("__debug__" : Str)) && !(n == ("__classdict__" : Str))
  | .BinOp a .Add b _ => msgB N sc a && msgB N sc b
  | _ => false
def tMsg (N : List Str) (m : Expr) : TE := fun σ H Q => (∀ (i : Nat) (n : Str), N[i + 1]? = some n → ∃ v, σ[i + 1]? = some (some v) ∧ ArgV v) ∧ ∀ x : Str, x.length ≤ capM m → Q (.str x) H
theorem msg_ok {N : List Str} {sc : Scope} (hN : X.N = N) (hsc : X.env.scope = sc) (hs : X.mg "str" = none) (m : Expr) (h : msgB N sc m = true) (hc : capM m ≤ 1000000) : PE X m (tMsg N m) := by
  unfold msgB at h
  split at h
  · exact PE.imp pe_str fun σ H Q q => q.2 _ (Nat.le_refl _)
  · rename_i f' pf n pn p'
    simp only [Bool.and_eq_true, decide_eq_true_eq, Bool.not_eq_true', List.contains_iff_mem] at h
    obtain ⟨⟨⟨⟨⟨h1, h2⟩, h3⟩, h4⟩, h5⟩, h6⟩ := h
    subst h1
    obtain ⟨i, hi⟩ := List.getElem?_of_mem h3
    have hi : N[i + 1]? = some n := by
      cases N with
      | nil => cases h3
      | cons a N => rw [List.getElem?_cons_succ]; exact hi
    have hg : Gl X "str" := by show X.env.scope.names.lookup _ = _; rw [hsc]; exact h2
    have hv : PE X (.Name n pn) (tVar (i + 1)) := pe_var (by rw [hN]; exact hi) (.inl (by rw [hsc]; exact h4)) h5 h6
    refine PE.imp (pe_callTy (CallR.or call_str_int SkE.call_str_str) hg hs (by first | rfl | kernel_rfl) (pa_cons hv pa_nil (by rfl)) (by decide +kernel) (by decide +kernel) (by rfl) (by rfl)) fun σ H Q q => ?_
    obtain ⟨v, hv, av⟩ := q.1 i n hi
    refine ⟨v, hv, ?_⟩
    rcases av with ⟨x, rfl, hx⟩ | ⟨k, rfl, hk⟩
    · exact .inr ⟨x, rfl, q.2 x (by show x.length ≤ 2000; omega)⟩
    · refine .inl ⟨k, rfl, hk, q.2 _ ?_⟩
      have := int_text_length_le (by decide) hk
      show (Str.ofString (toString k)).length ≤ 2000
      rw [PySem.ofString_length]
      omega
  · rename_i a b p
    obtain ⟨h1, h2⟩ := Bool.and_eq_true_iff.mp h
    have hc' : capM a + capM b ≤ 1000000 := hc
    refine PE.imp (pe_op op_add_str (msg_ok hN hsc hs a h1 (by omega)) (msg_ok hN hsc hs b h2 (by omega))) fun σ H Q q => ?_
    refine ⟨q.1, fun x hx => ⟨q.1, fun y hy => ⟨x, y, rfl, rfl, by rw [sizeLine_eq]; omega, q.2 _ ?_⟩⟩⟩
    show (x ++ y).length ≤ capM a + capM b
    have : (x ++ y).length = x.length + y.length := by
      show (x.cps ++ y.cps).size = _
      rw [Array.size_append]
      rfl
    omega
  · cases h
termination_by sizeOf m
/-! ### the fields -/
def lvB (sc : Scope) (n : Str) : Bool := decide (sc.names.lookup n = some .local) && (!(n == ("__debug__" : Str)) && !(n == ("__classdict__" : Str)))
theorem lvB_ok {sc : Scope} {n : Str} (h : lvB sc n = true) : sc.names.lookup n = some .local ∧ (n == ("__debug__" : Str)) = false ∧ (n == ("__classdict__" : Str)) = false := by
  unfold lvB at h
  simp only [Bool.and_eq_true, decide_eq_true_eq, Bool.not_eq_true'] at h
  exact h
def asgB (N : List Str) (sc : Scope) : List Str → Nat → List Stmt → Bool
  | [], _, xs => match xs with | [] => true | _ => false
  | f :: fl, k, xs => match xs with
    | .Assign [.Attribute (.Name s _) g _] (.Name n _) _ :: r => decide (N[0]? = some s) && lvB sc s && decide (f = g) && decide (N[k]? = some n) && lvB sc n && asgB N sc fl (k + 1) r
    | _ => false
/-- the fields that are still to be stored: fl, from slot k on -/
def tAsX (K : PySem.W.Frag) (fl : List Str) (k : Nat) : TS := fun D σ H => ∃ (a C d : Addr) (fs : List (Str × V)) (vs : List V), σ[0]? = some (some (.ref a)) ∧ OexC K C ∧ (∀ f ∈ fl, PySem.W.findIn K (.ref C) f = some none) ∧ vs.length = fl.length ∧
  (∀ (j : Nat) (v : V), vs[j]? = some v → σ[k + j]? = some (some v)) ∧ H a = some (exo a C (some d)) ∧ H d = some (exd d fs) ∧ d ≠ a ∧ fs.length + fl.length ≤ 900 ∧
  ∀ H2 : Hp, H2 d = some (exd d ((fl.zip vs).reverse ++ fs)) → (∀ b, b ≠ d → H2 b = H b) → D.nx σ H2
theorem asg_ok {N : List Str} {sc : Scope} (hN : X.N = N) (hsc : X.env.scope = sc) : ∀ (fl : List Str) (k : Nat) (xs : List Stmt), asgB N sc fl k xs = true → PSs X xs (tAsX X.K fl k)
  | [], k, xs, h => by
    unfold asgB at h
    split at h
    · exact PSs.imp pss_nil fun D σ H ⟨a, C, d, fs, vs, _, _, _, hl, _, _, hd, _, _, q⟩ => by
        refine q H ?_ fun _ _ => rfl
        rw [hd, List.zip_nil_left]
        rfl
    · cases h
  | f :: fl, k, xs, h => by
    unfold asgB at h
    split at h
    · rename_i s ps g pg n pn pa r
      simp only [Bool.and_eq_true, decide_eq_true_eq] at h
      obtain ⟨⟨⟨⟨⟨h1, h2⟩, h3⟩, h4⟩, h5⟩, h6⟩ := h
      subst h3
      obtain ⟨a1, a2, a3⟩ := lvB_ok h2
      obtain ⟨b1, b2, b3⟩ := lvB_ok h5
      have e1 : PE X (.Name s ps) (tVar 0) := pe_var (by rw [hN]; exact h1) (.inl (by rw [hsc]; exact a1)) a2 a3
      have e2 : PE X (.Name n pn) (tVar k) := pe_var (by rw [hN]; exact h4) (.inl (by rw [hsc]; exact b1)) b2 b3
      refine PSs.imp (pss_cons (ps_ost e1 e2 (by rfl)) (asg_ok hN hsc fl (k + 1) r h6)) fun D σ H ⟨a, C, d, fs, vs, g1, g2, g3, g4, g5, g6, g7, g8, g9, q⟩ => ?_
      cases vs with
      | nil => cases g4
      | cons v vs =>
        rw [List.length_cons, List.length_cons] at g4
        rw [List.length_cons] at g9
        refine ⟨v, g5 0 v rfl, .ref a, g1, a, C, rfl, g2, g3 f List.mem_cons_self, .inr ⟨d, fs, g6, g7, by omega, ?_⟩⟩
        refine ⟨a, C, d, (f, v) :: fs, vs, g1, g2, fun f' hf => g3 f' (List.mem_cons_of_mem _ hf), by omega, fun j w hj => ?_, by rw [upd_ne (Ne.symm g8)]; exact g6, upd_same, g8, by rw [List.length_cons]; omega, fun H2 k1 k2 => q H2 ?_ fun b hb => by rw [k2 b hb, upd_ne hb]⟩
        · have := g5 (j + 1) w (by rw [List.getElem?_cons_succ]; exact hj)
          rw [show k + 1 + j = k + (j + 1) by omega]
          exact this
        · rw [k1, List.zip_cons_cons, List.reverse_cons, List.append_assoc]
          rfl
    · cases h
/-- .. none stored yet -/
def tA0 (K : PySem.W.Frag) (fl : List Str) (k : Nat) : TS := fun D σ H => ∃ (a C : Addr) (vs : List V), σ[0]? = some (some (.ref a)) ∧ OexC K C ∧ (∀ f ∈ fl, PySem.W.findIn K (.ref C) f = some none) ∧ vs.length = fl.length ∧
  (∀ (j : Nat) (v : V), vs[j]? = some v → σ[k + j]? = some (some v)) ∧ H a = some (exo a C none) ∧ fl.length ≤ 900 ∧
  ∀ (d : Addr) (H2 : Hp), H d = none → d ≠ a → H2 a = some (exo a C (some d)) → H2 d = some (exd d (fl.zip vs).reverse) → (∀ b, b ≠ a → b ≠ d → H2 b = H b) → D.nx σ H2
theorem asg0_ok {N : List Str} {sc : Scope} (hN : X.N = N) (hsc : X.env.scope = sc) {f : Str} {fl : List Str} {k : Nat} {xs : List Stmt} (h : asgB N sc (f :: fl) k xs = true) : PSs X xs (tA0 X.K (f :: fl) k) := by
  unfold asgB at h
  split at h
  · rename_i s ps g pg n pn pa r
    simp only [Bool.and_eq_true, decide_eq_true_eq] at h
    obtain ⟨⟨⟨⟨⟨h1, h2⟩, h3⟩, h4⟩, h5⟩, h6⟩ := h
    subst h3
    obtain ⟨a1, a2, a3⟩ := lvB_ok h2
    obtain ⟨b1, b2, b3⟩ := lvB_ok h5
    have e1 : PE X (.Name s ps) (tVar 0) := pe_var (by rw [hN]; exact h1) (.inl (by rw [hsc]; exact a1)) a2 a3
    have e2 : PE X (.Name n pn) (tVar k) := pe_var (by rw [hN]; exact h4) (.inl (by rw [hsc]; exact b1)) b2 b3
    refine PSs.imp (pss_cons (ps_ost e1 e2 (by rfl)) (asg_ok hN hsc fl (k + 1) r h6)) fun D σ H ⟨a, C, vs, g1, g2, g3, g4, g5, g6, g9, q⟩ => ?_
    cases vs with
    | nil => cases g4
    | cons v vs =>
      rw [List.length_cons, List.length_cons] at g4
      rw [List.length_cons] at g9
      refine ⟨v, g5 0 v rfl, .ref a, g1, a, C, rfl, g2, g3 f List.mem_cons_self, .inl ⟨g6, fun d hd hda => ?_⟩⟩
      refine ⟨a, C, d, [(f, v)], vs, g1, g2, fun f' hf => g3 f' (List.mem_cons_of_mem _ hf), by omega, fun j w hj => ?_, upd_same, by rw [upd_ne hda, upd_same], hda, by show 1 + _ ≤ _; omega, fun H2 k1 k2 => q d H2 hd hda ?_ ?_ fun b hb hbd => ?_⟩
      · have := g5 (j + 1) w (by rw [List.getElem?_cons_succ]; exact hj)
        rw [show k + 1 + j = k + (j + 1) by omega]
        exact this
      · rw [k2 a (Ne.symm hda), upd_same]
      · rw [k1, List.zip_cons_cons, List.reverse_cons]
      · rw [k2 b hbd, upd_ne hb, upd_ne hbd]
  · cases h
def initB (N : List Str) (sc : Scope) (fl : List Str) (g : Str) : List Stmt → Bool
  | .Expr (.Call (.Attribute (.Name h _) nm pa) [.Name s _, m] [] pc) _ :: r => decide (h = g) && (decide (nm = "__init__") && (decide (sc.names.lookup h = some .globalImplicit) && (!(h == ("__debug__" : Str)) && ((pa.endLine == pc.line) && (decide (N[0]? = some s) && (lvB sc s && (noStar m && (msgB N sc m && (decide (capM m ≤ 1000000) && (asgB N sc fl 1 r && !fl.isEmpty))))))))))
  | _ => false
/-- the whole __init__ -/
def tIni (K : PySem.W.Frag) (N fl : List Str) : TS := fun D σ H => tA0 K fl 1 D σ H ∧ ∀ (i : Nat) (n : Str), N[i + 1]? = some n → ∃ v, σ[i + 1]? = some (some v) ∧ ArgV v
theorem init_ok {N : List Str} {sc : Scope} {fl : List Str} {g : Str} {G : Addr} (hN : X.N = N) (hsc : X.env.scope = sc) (hs : X.mg "str" = none) (hm : X.mg g = some (.ref G)) (BC : BaseC X.K G) {xs : List Stmt} (h : initB N sc fl g xs = true) : PSs X xs (tIni X.K N fl) := by
  unfold initB at h
  split at h
  · rename_i hh ph nm pn s ps m pc pe r
    simp only [Bool.and_eq_true, decide_eq_true_eq, Bool.not_eq_true'] at h
    obtain ⟨h1, h2, h3, h4, hl, h5, h6, h7, h8, h9, h10, h11⟩ := h
    subst h1 h2
    obtain ⟨a1, a2, a3⟩ := lvB_ok h6
    have e1 : PE X (.Name s ps) (tVar 0) := pe_var (by rw [hN]; exact h5) (.inl (by rw [hsc]; exact a1)) a2 a3
    have e2 := msg_ok hN hsc hs m h8 h9
    have hg : Gl X hh := by show X.env.scope.names.lookup _ = _; rw [hsc]; exact h3
    have pa : PA X [.Name s ps, m] (tCons (tVar 0) (tCons (tMsg N m) tNil)) := pa_cons e1 (pa_cons e2 pa_nil (star_of h7)) (by rfl)
    have bk : (backTo pc (starEach [m] X.env)).any (·.1) = false := by rw [star_of h7]; rfl
    have fm : methodCallForm ([Expr.Name s ps, m] : List Expr).length (backTo pc (starEach [Expr.Name s ps, m] X.env)) (backToKw pc (keywordEach [] X.env)) = true := by
      rw [show starEach [Expr.Name s ps, m] X.env = (false, eval (Expr.Name s ps) X.env) :: starEach [m] X.env from rfl, star_of h7]
      rfl
    have ex := ps_expr (pos := pe) (pe_geinit (p1 := ph) (p2 := pn) (pos := pc) hg h4 hm BC pa (ev_meth (attr_plain rfl) fm hl) (by rfl) bk) (by rfl)
    cases fl with
    | nil => cases h11
    | cons f fl =>
      refine PSs.imp (pss_cons ex (asg0_ok hN hsc h10)) fun D σ H ⟨⟨a, C, vs, g1, g2, g3, g4, g5, g6, g9, q⟩, ha⟩ => ?_
      exact ⟨.ref a, g1, ha, fun x _ => ⟨a, C, [.str x], rfl, (by show 1 ≤ 1000; omega), g2, g6, a, C, vs, g1, g2, g3, g4, g5, g6, g9, q⟩⟩
  · cases h
end
section
variable {P : Program} {w : World} {K : PySem.W.Frag} {mg : Str → Option Value} {base : Heap}
theorem fn_init {x qual g : Str} {params : Arguments} {body : List Stmt} {scope : Scope} {f G : Addr} {fd : FuncData} {N ps fl : List Str} (D : FunD K x qual params body scope [] [] f fd) (S : FnScope N ps scope) (hl : ps.length = fl.length + 1) (hps : N.length = ps.length) (hlen : fl.length ≤ 900)
    (hs : mg "str" = none) (hm : mg g = some (.ref G)) (BC : BaseC K G) (hb : initB N scope fl g body = true) : FnOk P w K mg base (CX P w) 1 f fd ps (spX K fl) := by
  refine FunD.ok (k := 0) D S (fun vs H Q E ⟨a, C, xs, e, h, _⟩ => by rw [e, List.length_cons, h, hl]) fun cdv A outer s H vs Q E hr ⟨a, C, xs, e, g1, g2, g3, g4, g5, q⟩ => ?_
  subst e
  refine ⟨_, init_ok (X := cxOf (CX P w) P w K mg base N qual scope f cdv A outer s H E) rfl rfl hs hm BC hb, ?_⟩
  have st : ∀ (j : Nat) (v : V), xs[j]? = some v → (L2.start N (.ref a :: xs))[1 + j]? = some (some v) := fun j v hj => by
    unfold L2.start
    rw [List.getElem?_append_left (by rw [List.length_map, List.length_cons]; have := (List.getElem?_eq_some_iff.mp hj).1; omega), List.getElem?_map, Nat.add_comm 1 j, List.getElem?_cons_succ, hj]
    rfl
  refine ⟨⟨a, C, xs, ?_, g3, g4, g1, st, g5, hlen, q⟩, fun i n hi => ?_⟩
  · unfold L2.start
    rfl
  · have hlt : i < xs.length := by
      have h1 : i + 1 < N.length := (List.getElem?_eq_some_iff.mp hi).1
      have h2 : N.length = xs.length + 1 := by rw [hps, hl, g1]
      omega
    exact ⟨_, by rw [Nat.add_comm]; exact st i _ (List.getElem?_eq_getElem hlt), g2 _ (List.getElem_mem hlt)⟩
end
end Gm

/-! The deep layer, part T2: raise, try: one assignment, except ..: a small suite. -/
namespace Gm
open PySem PySem.Spec PyProof.Rows L2
section
variable {X : Cx} {Φ : Phi} {T : Tb} {wx : WX} {N : List Str} {sc : Scope} {K : KW} {mg : Str → Option Value} {E : Ent} {F F1 F' : Addr → Prop} {β : List Addr} {B : Bs} {ρ : Rho} {st st1 : Stt} {σ : L2.St} {H H1 H' : Hp} {D : Ends} {pos : Pos}
/-! ### raise -/
theorem passX (S : Side X Φ T wx) : Passes (CX X.prog X.w) X (fun _ _ _ => False) := passes_call S.tk fun _ _ _ _ h => h.elim
theorem argv_of : ∀ {xs : List PyData} {vs : List V}, RpAll K F H vs xs → xs.all excV = true → ∀ v ∈ vs, ArgV v
  | _, _, .nil, _, v, hv => nomatch hv
  | _, _, .cons (d := d) r rs, h, v, hv => by
    rw [List.all_cons, Bool.and_eq_true] at h
    rcases List.mem_cons.mp hv with e | hv
    · subst e
      have h1 := h.1
      cases r with
      | str x => exact .inl ⟨_, rfl, of_decide_eq_true h1⟩
      | int i => exact .inr ⟨_, rfl, of_decide_eq_true h1⟩
      | _ => cases h1
    · exact argv_of rs h.2 v hv
theorem zip_fst {α β : Type} : ∀ (l : List α) (r : List β), r.length = l.length → (l.zip r).map (·.1) = l
  | [], _, _ => by simp
  | _ :: _, [], h => by cases h
  | a :: l, b :: r, h => by rw [List.zip_cons_cons, List.map_cons, zip_fst l r (by simpa using h)]
theorem zip_snd {α β : Type} : ∀ (l : List α) (r : List β), r.length = l.length → (l.zip r).map (·.2) = r
  | _, [], _ => by simp
  | [], _ :: _, h => by cases h
  | a :: l, b :: r, h => by rw [List.zip_cons_cons, List.map_cons, zip_snd l r (by simpa using h)]
theorem s_rse {c : Str} {fl : List Str} {es : Es} {p pos' : Pos} {x : Expr} {xs : List Expr} (S : Side X Φ T wx) (hx : (c, fl) ∈ T.xc) (hg : Gl X c) (hd : (c == ("__debug__" : Str)) = false) (ha : PA X (x :: xs) (tEss X Φ wx es)) (hst : noStars (x :: xs) = true) : PS X (.Raise (some (.Call (.Name c p) (x :: xs) [] pos)) none pos') (tSt X Φ wx (.rse c fl es)) := by
  obtain ⟨C, K1⟩ := S.xc c fl hx
  obtain ⟨fI, fd, ps, i1, i2, i3, i4⟩ := K1.ini
  have hne : T.xc ≠ [] := fun e => by rw [e] at hx; cases hx
  obtain ⟨hs1, hs2⟩ := Bool.and_eq_true_iff.mp (show (noStar x && noStars xs) = true from hst)
  refine PS.imp (ps_raise S.calm S.tk (pmk_oex (dvs := []) (ds := []) K1.ox i1 i2 (i4 X.prog X.w X.base) (S.rm hne) i3 .nil (passX S) hg K1.at_ ha hd (star_of hs1) (back_of hs2))) fun D σ H ⟨E, F, β, B, ρ, st, R, h⟩ => ?_
  unfold semS at h
  refine ⟨F, β, B, ρ, st, R.rel, step_s R h fun ws st1 F1 vs H1 e1 R1 rv h => ?_⟩
  unfold rseK at h
  split at h
  · rename_i ds e
    split at h
    · rename_i hc
      have ra := RL.py rv e
      have hl : vs.length = fl.length := by rw [ra.length]; exact hc.2
      have hln := K1.ln
      refine ⟨by omega, fun a hna => ⟨a, C, vs, by rw [List.append_nil], hl, argv_of ra hc.1, K1.ox, fun f hf => K1.kx.nf f (K1.fs f hf), upd_same, fun d H2 h1 h2 g1 g2 g3 => ?_⟩⟩
      have hn : H1 d = none := by rw [upd_ne h2] at h1; exact h1
      refine ⟨rfl, d, _, g1, g2, hn, ?_⟩
      have eH : upd (del H2 a) d (.xd (fl.zip vs).reverse) = upd H1 d (.xd (fl.zip vs).reverse) := funext fun b => by
        by_cases hb : b = d
        · subst hb; rw [upd_same, upd_same]
        · rw [upd_ne hb, upd_ne hb]
          by_cases ha : b = a
          · subst ha; rw [del_same, hna]
          · rw [del_ne ha, g3 b ha hb, upd_ne ha]
      rw [eH]
      have s2 := frz_st (hB_of R.rel) R1.rel.st
      have e2 : Ext F β H _ H1 := frz_ext e1
      have e3 := e2.trans (Ext.laid (o := .xd (fl.zip vs).reverse) hn)
      refine h _ _ σ _ _ β B (s2.laid hn) (R.since.step R.rel.st e3) ⟨C, K1.at_, rfl, d, _, rfl, upd_same, ?_, ?_⟩
      · show _ = (fl.zip ds).reverse.map (·.1)
        rw [List.map_reverse, List.map_reverse, zip_fst _ _ hl, zip_fst _ _ hc.2]
      · show RpAll _ _ _ ((fl.zip vs).reverse.map (·.2)) ((fl.zip ds).reverse.map (·.2))
        rw [List.map_reverse, List.map_reverse, zip_snd _ _ hl, zip_snd _ _ hc.2]
        exact (RpAll.keep ((Ext.laid (o := .xd (fl.zip vs).reverse) hn).kp s2) _ _ ra).reverse
    · exact h.elim
  · exact h.elim
/-! ### names of classes -/
def xrL (T : Tb) (c D : Str) : Option Bool := (T.xr.find? fun q => decide (q.1 = c) && decide (q.2.1 = D)).map (·.2.2)
theorem xrL_mem {c D : Str} {b : Bool} (h : xrL T c D = some b) : (c, D, b) ∈ T.xr := by
  unfold xrL at h
  obtain ⟨⟨c', D', b'⟩, h1, h2⟩ := Option.map_eq_some_iff.mp h
  have h3 := List.find?_some h1
  have h4 := List.mem_of_find?_eq_some h1
  simp only [Bool.and_eq_true, decide_eq_true_eq] at h3
  obtain ⟨rfl, rfl⟩ := h3
  cases h2
  exact h4
def xrAny (T : Tb) (c : Str) : List Str → Option Bool
  | [] => some false
  | D :: r => match xrL T c D with
    | some true => some true
    | some false => xrAny T c r
    | none => none
def knD (T : Tb) (D : Str) : Bool := T.xr.any fun q => decide (q.2.1 = D)
theorem kn_ok (S : Side X Φ T wx) {D : Str} (h : knD T D = true) : ∃ v u, ClsV X.mg D v u := by
  obtain ⟨⟨c, D', b⟩, h1, h2⟩ := List.any_eq_true.mp h
  have h2 : D' = D := of_decide_eq_true h2
  subst h2
  obtain ⟨C, v, u, _, h3, _⟩ := S.xr _ _ _ h1
  exact ⟨v, u, h3⟩
theorem ClsV.inj {mg : Str → Option Value} {D : Str} {v v' : V} {u u' : Value} (a : ClsV mg D v u) (b : ClsV mg D v' u') : u' = u := by
  obtain ⟨_, _, _, a⟩ := a
  obtain ⟨_, _, _, b⟩ := b
  rcases a with a | ⟨a, a', _⟩ <;> rcases b with b | ⟨b, b', _⟩
  · rw [a] at b; cases b; rfl
  · rw [a] at b; cases b
  · rw [a] at b; cases b
  · rw [a'] at b'; cases b'; rfl
theorem xr_ok (S : Side X Φ T wx) {c D : Str} {b : Bool} {C : Addr} {v : V} {u : Value} (h : xrL T c D = some b) (hc : X.mg c = some (.ref C)) (hv : ClsV X.mg D v u) : PySem.W.exmOne X.K (.ref C) u = some b ∧ PySem.W.kitOne X.K (.ref C) u = some b := by
  obtain ⟨C', v', u', h1, h2, h3, h4⟩ := S.xr _ _ _ (xrL_mem h)
  rw [hc] at h1
  cases h1
  rw [← hv.inj h2]
  exact ⟨h3, h4⟩
theorem pe_cls {Y : Cx} {D : Str} {v : V} {u : Value} {p : Pos} (hg : Gl Y D) (h : ClsV Y.mg D v u) : PE Y (.Name D p) (tC v) := by
  obtain ⟨h1, _, h3, h4⟩ := h
  rcases h4 with h4 | ⟨h4, h5, h6⟩
  · exact pe_glob hg h4 h1 h3
  · exact pe_bltn hg h4 h5 h1 h6 h3
def dsOf (sc : Scope) : List Expr → Option (List Str)
  | [] => some []
  | x :: r => match x with
    | .Name D _ => if glB sc D then (dsOf sc r).map (D :: ·) else none
    | _ => none
theorem ds_ok (S : Side X Φ T wx) {Y : Cx} (hm : Y.mg = X.mg) (hs : Y.env.scope = sc) : ∀ (es : List Expr) (Ds : List Str), dsOf sc es = some Ds → Ds.all (knD T) = true → noStars es = true ∧ ∃ (vs : List V) (us : List Value), PA Y es (fun _ H Q => Q vs H) ∧ (∀ us', Vals vs us' → us' = us) ∧ vs.length = es.length ∧
    ∀ (c : Str) (C : Addr) (b : Bool), X.mg c = some (.ref C) → xrAny T c Ds = some b → PySem.W.kitAny X.K (.ref C) us = some b
  | [], Ds, h, _ => by
    cases h
    refine ⟨rfl, [], [], PA.imp pa_nil fun σ H Q h => h, fun us' h => by cases h; rfl, rfl, fun c C b _ e => ?_⟩
    cases e
    rfl
  | x :: es, Ds, h, ha => by
    unfold dsOf at h
    split at h
    · rename_i D p
      split at h
      · rename_i hg
        obtain ⟨Dr, h1, rfl⟩ := Option.map_eq_some_iff.mp h
        rw [List.all_cons, Bool.and_eq_true] at ha
        obtain ⟨v, u, hv⟩ := kn_ok S ha.1
        obtain ⟨g0, vs, us, g1, g2, g2', g3⟩ := ds_ok S hm hs es Dr h1 ha.2
        have e1 : PE Y (.Name D p) (tC v) := pe_cls (glB_ok hs hg) (by rw [hm]; exact hv)
        refine ⟨by show (true && noStars es) = true; rw [g0]; rfl, v :: vs, u :: us, PA.imp (pa_cons e1 g1 (by rfl)) fun σ H Q h => h, fun us' r => ?_, by rw [List.length_cons, List.length_cons, g2'], fun c C b hc e => ?_⟩
        · cases r with
          | cons r1 r2 => rw [hv.2.1 _ r1, g2 _ r2]
        · unfold xrAny at e
          unfold PySem.W.kitAny
          split at e
          · rename_i q
            rw [(xr_ok S q hc hv).2]
            exact e
          · rename_i q
            rw [(xr_ok S q hc hv).2]
            exact g3 c C b hc e
          · cases e
      · cases h
    · cases h
/-! ### what the suite holds -/
theorem ExRep.keep {x : XV} {c : Value} {d : Option Addr} (h : ExRep K mg F H x c d) (e : Ext F β H F' H') (s : StOk K F β B H st) : ExRep K mg F' H' x c d := by
  obtain ⟨C, h1, h2, dx, fvs, h3, h4, h5, h6⟩ := h
  refine ⟨C, h1, h2, dx, fvs, h3, ?_, h5, RpAll.keep (e.kp s) _ _ h6⟩
  rw [e.un dx (fun hm => ?_) (by rw [h4]; exact fun z => nomatch z)]
  · exact h4
  · obtain ⟨c, hc⟩ := s.mem hm
    cases c with
    | lst xs =>
      obtain ⟨vs, g, _⟩ := hc
      rw [h4] at g
      cases g
    | dct xs =>
      obtain ⟨vs, g, _⟩ := hc
      rw [h4] at g
      unfold dctO at g
      cases g
theorem lookup_rp {f : Str} : ∀ {fvs : List (Str × V)} {fs : List (Str × PyData)} {y : PyData}, fvs.map (·.1) = fs.map (·.1) → RpAll K F H (fvs.map (·.2)) (fs.map (·.2)) → fs.lookup f = some y → ∃ v, fvs.lookup f = some v ∧ Rp K F H v y
  | [], [], y, _, _, h => by cases h
  | [], _ :: _, y, e, _, h => by cases e
  | _ :: _, [], y, e, _, h => by cases e
  | (g, v) :: fvs, (g', z) :: fs, y, e, r, h => by
    rw [List.map_cons, List.map_cons, List.cons.injEq] at e
    obtain ⟨e1, e2⟩ := e
    have e1 : g = g' := e1
    subst e1
    rw [List.map_cons, List.map_cons] at r
    cases r with
    | cons r1 r2 =>
      rw [List.lookup_cons] at h ⊢
      split at h
      · cases h
        exact ⟨v, rfl, r1⟩
      · exact lookup_rp e2 r2 h
/-- slot n holds the exception -/
def Holds (σ : L2.St) (a : Addr) : Option Nat → Prop
  | none => True
  | some i => σ[i]? = some (some (.ref a))
def XcOf (T : Tb) (c : Str) : Prop := ∃ fl, (c, fl) ∈ T.xc
def tHE (K : KW) (T : Tb) (a : Addr) (n : Option Nat) (cls : Value) (d : Option Addr) (e : HE) : TE := fun σ H Q => ∃ F β B ρ st x y, RelE K F β B ρ st σ H ∧ Holds σ a n ∧ ExRep K K.mg F H x cls d ∧ XcOf T x.cls ∧ semHE x ρ e = some y ∧
  ∀ v F' H', Ext F β H F' H' → StOk K F' β B H' st → Rp K F' H' v y → Q v H'
def tHT (K : KW) (T : Tb) (a : Addr) (n : Option Nat) (cls : Value) (d : Option Addr) (e : HE) : TT := fun σ H Q => ∃ F β B ρ st x b, RelE K F β B ρ st σ H ∧ Holds σ a n ∧ ExRep K K.mg F H x cls d ∧ XcOf T x.cls ∧ semHE x ρ e = some (.bool b) ∧
  ∀ F' H', Ext F β H F' H' → StOk K F' β B H' st → Q b H'
def conH (d : PyData) (x : Expr) : Bool := match x with
  | .Constant c _ _ => match d, c with
    | .int i, .int j => decide (i = j)
    | .bool i, .bool j => decide (i = j)
    | .str i, .str j => decide (i = j)
    | .none, .none => true
    | _, _ => false
  | _ => false
theorem conH_ok {Y : Cx} {d : PyData} {x : Expr} (h : conH d x = true) : ∃ v, PE Y x (tC v) ∧ ∀ K F H, Rp K F H v d := by
  unfold conH at h
  split at h
  · split at h
    · cases of_decide_eq_true h; exact ⟨_, pe_int, fun _ _ _ => .int _⟩
    · cases of_decide_eq_true h; exact ⟨_, pe_bl, fun _ _ _ => .bl _⟩
    · cases of_decide_eq_true h; exact ⟨_, pe_str, fun _ _ _ => .str _⟩
    · exact ⟨_, pe_non, fun _ _ _ => .non⟩
    · cases h
  · cases h
def evB (N : List Str) (sc : Scope) (n : Option Nat) (m : Str) : Bool := match n with
  | some i => decide (N[i]? = some m) && visB sc m && nmB m
  | none => false
theorem evB_ok {Y : Cx} {m : Str} {p : Pos} {n : Option Nat} (hN : Y.N = N) (hs : Y.env.scope = sc) (h : evB N sc n m = true) : ∃ i, n = some i ∧ PE Y (.Name m p) (tVar i) := by
  unfold evB at h
  split at h
  · rename_i i
    simp only [Bool.and_eq_true, decide_eq_true_eq] at h
    obtain ⟨⟨h1, h2⟩, h3⟩ := h
    exact ⟨i, rfl, pe_var (by rw [hN]; exact h1) (by rw [hs]; exact visB_ok h2) (nmB_ok h3).1 (nmB_ok h3).2⟩
  · cases h
/-! ### isinstance(e, ..) -/
def rIsX (K : PySem.W.Frag) (a : Addr) (cls : Value) (d : Option Addr) : List V → Hp → VK → Prop := fun xs H Q => ∃ (C dd : Addr) (fs : List (Str × V)) (b : Bool), cls = .ref C ∧ KxC K C ∧ d = some dd ∧ H dd = some (.xd fs) ∧ Q (.bl b) H ∧
  ((∃ (c : V) (u : Value), xs = [.ref a, c] ∧ (∀ u', RelV c u' → u' = u) ∧ PySem.W.kitOne K (.ref C) u = some b) ∨
    ∃ (p : Addr) (vs : List V) (us : List Value), xs = [.ref a, .ref p] ∧ SqT K H p vs ∧ (∀ us', Vals vs us' → us' = us) ∧ PySem.W.kitAny K (.ref C) us = some b)
theorem call_isX {a : Addr} {oe : Obj} {cls : Value} {d : Option Addr} {pn : List (Addr × Obj)} (hz : Zc cls d oe) (hf : ∃ vs, oe.data = .fields vs) : CallR (X.suite a ((a, oe) :: pn)) (.builtin "isinstance") (rIsX X.K a cls d) := by
  intro pins s σ H xs us Q I r h
  obtain ⟨C, dd, fs, b, rfl, kx, rfl, hd, q, h⟩ := h
  obtain ⟨hget, _⟩ := I.pin (a, oe) (List.mem_append_left _ List.mem_cons_self)
  obtain ⟨vs, hv⟩ := hf
  have hx : ObjOk X.prog X.w H s.heap dd (.xd fs) := I.hok dd _ hd
  obtain ⟨mA, hns, hr⟩ := hx
  obtain ⟨od, ho, hl⟩ := lookIn_ns hns
  have J : PySem.W.InstAt s.heap a oe C (some od) := ⟨hget, hz.1, by unfold PySem.W.notCls; rw [hv] <;> rfl, by rw [hz.2]; exact ho⟩
  have Z : PySem.W.KitX X.K (.ref a) (.ref C) (fun h => PySem.W.InstAt h a oe C (some od)) := PySem.W.kitx_exc kx.cl kx.ga kx.gg kx.exC kx.ca kx.gn kx.tk kx.mo
  rcases h with ⟨c, u, rfl, hu, hk⟩ | ⟨p, ws, us', rfl, hp, hu, hk⟩
  · cases r with
    | cons rx rr =>
      cases rr with
      | cons rt rr =>
        cases rr
        cases rx
        have e := hu _ rt
        subst e
        exact PySem.W.kia_one Z I.kIn J hk (fun z => nomatch z) fun tk => ⟨.bl b, H, I.kept (t' := tk) fun _ _ z => z, rfl, q⟩
  · cases r with
    | cons rx rr =>
      cases rr with
      | cons rt rr =>
        cases rr
        cases rx
        cases rt
        obtain ⟨its, rv, ⟨o, ho1, ho2, n, ho3⟩, hz⟩ := I.tuple hp
        have e := hu _ rv
        subst e
        obtain ⟨oc, od', odt, osl⟩ := o
        dsimp only at ho2 ho3
        subst ho2 ho3
        exact PySem.W.kia_tup Z I.kIn J ho1 hk (fun z => nomatch z) fun tk => ⟨.bl b, H, I.kept (t' := tk) fun _ _ z => z, rfl, q⟩
/-! ### the suite's expressions -/
def chkHE (N : List Str) (T : Tb) (sc : Scope) (n : Option Nat) : HE → Expr → Bool
  | .con d, y => conH d y
  | .var i, y => match y with
    | .Name m _ => decide (N[i]? = some m) && visB sc m && nmB m
    | _ => false
  | .isx ms, y => match y with
    | .Call (.Name f _) [.Name ev _, cl] [] _ => decide (f = "isinstance") && T.ab.contains f && glB sc f && evB N sc n ev && (match cl with
      | .Name D _ => glB sc D && knD T D && T.xc.all fun c => match ms.lookup c.1 with
        | some b => decide (xrL T c.1 D = some b)
        | none => true
      | .Tuple ds _ _ => (match dsOf sc ds with
        | some Ds => decide (ds.length ≤ 1000) && (Ds.all (knD T) && T.xc.all fun c => match ms.lookup c.1 with
          | some b => decide (xrAny T c.1 Ds = some b)
          | none => true)
        | none => false)
      | _ => false)
    | _ => false
  | .fld f, y => match y with
    | .Attribute (.Name ev _) g _ => decide (f = g) && fieldsX.contains f && evB N sc n ev
    | _ => false
  | .tup a b, y => match y with
    | .Tuple [u, v] _ _ => noStar u && noStar v && (chkHE N T sc n a u && chkHE N T sc n b v)
    | _ => false
  | .nt _, _ => false
  | .an _ _, _ => false
theorem lk_all {T : Tb} {c : Str} {ms : List (Str × Bool)} {b : Bool} {f : Str → Option Bool} (h : (T.xc.all fun c => match ms.lookup c.1 with
    | some b => decide (f c.1 = some b)
    | none => true) = true) (hc : XcOf T c) (e : ms.lookup c = some b) : f c = some b := by
  obtain ⟨fl, hc⟩ := hc
  have := List.all_eq_true.mp h _ hc
  dsimp only at this
  rw [e] at this
  exact of_decide_eq_true this
variable {a : Addr} {oe : Obj} {cls : Value} {d : Option Addr} {pn : List (Addr × Obj)} {n : Option Nat}
/-- the class of what is held -/
theorem xcls (S : Side X Φ T wx) {x : XV} (h : ExRep (kw X) X.mg F H x cls d) (hc : XcOf T x.cls) : ∃ C dd fvs, X.mg x.cls = some (.ref C) ∧ cls = .ref C ∧ KxC X.K C ∧ d = some dd ∧ H dd = some (.xd fvs) ∧ fvs.map (·.1) = x.fs.map (·.1) ∧ RpAll (kw X) F H (fvs.map (·.2)) (x.fs.map (·.2)) := by
  obtain ⟨C, h1, h2, dx, fvs, h3, h4, h5, h6⟩ := h
  obtain ⟨fl, hc⟩ := hc
  obtain ⟨C', k⟩ := S.xc _ _ hc
  have e := k.at_
  rw [h1] at e
  cases e
  exact ⟨C, dx, fvs, h1, h2, k.kx, h3, h4, h5, h6⟩
theorem he_ok (S : Side X Φ T wx) (hN : X.N = N) (hs : X.env.scope = sc) (hz : Zc cls d oe) (hf : ∃ vs, oe.data = .fields vs) : ∀ (e : HE) (y : Expr), chkHE N T sc n e y = true → PE (X.suite a ((a, oe) :: pn)) y (tHE (kw X) T a n cls d e)
  | .con z, y, h => by
    obtain ⟨v, h1, h2⟩ := conH_ok (show conH z y = true from h)
    refine PE.imp h1 fun σ H Q ⟨F, β, B, ρ, st, x, y', R, hh, hx, hc, e, q⟩ => ?_
    cases e
    exact q v F H Ext.refl R.st (h2 _ _ _)
  | .var i, y, h => by
    unfold chkHE at h
    split at h
    · simp only [Bool.and_eq_true, decide_eq_true_eq] at h
      obtain ⟨⟨h1, h2⟩, h3⟩ := h
      refine PE.imp (pe_var (by show X.N[i]? = _; rw [hN]; exact h1) (by show Vis X.env.scope _; rw [hs]; exact visB_ok h2) (nmB_ok h3).1 (nmB_ok h3).2) fun σ H Q ⟨F, β, B, ρ, st, x, y', R, hh, hx, hc, e, q⟩ => ?_
      unfold semHE at e
      split at e
      · rename_i z ez
        cases e
        obtain ⟨v, h1, h2⟩ := R.slot i _ ez
        exact ⟨v, h1, q v F H Ext.refl R.st h2⟩
      · cases e
    · cases h
  | .isx ms, y, h => by
    unfold chkHE at h
    split at h
    · rename_i f pf ev pe cl pos
      simp only [Bool.and_eq_true, decide_eq_true_eq] at h
      obtain ⟨⟨⟨⟨h1, h2⟩, h3⟩, h4⟩, h5⟩ := h
      subst h1
      have hg : Gl (X.suite a ((a, oe) :: pn)) "isinstance" := glB_ok (X := X) hs h3
      have hm : X.mg "isinstance" = none := S.ab _ (List.contains_iff_mem.mp h2)
      obtain ⟨i, rfl, he⟩ := evB_ok (Y := X.suite a ((a, oe) :: pn)) (p := pe) hN hs h4
      split at h5
      · rename_i D pD
        simp only [Bool.and_eq_true] at h5
        obtain ⟨⟨k1, k2⟩, k3⟩ := h5
        obtain ⟨v, u, hv⟩ := kn_ok S k2
        have e1 : PE (X.suite a ((a, oe) :: pn)) (.Name D pD) (tC v) := pe_cls (Y := X.suite a ((a, oe) :: pn)) (glB_ok (X := X) hs k1) hv
        refine PE.imp (pe_callB (call_isX hz hf) hg hm (by first | rfl | kernel_rfl) (pa_cons he (pa_cons e1 pa_nil (by rfl)) (by rfl)) (by decide +kernel) (by decide +kernel) (by rfl) (by rfl)) fun σ H Q ⟨F, β, B, ρ, st, x, y', R, hh, hx, hc, e, q⟩ => ?_
        obtain ⟨b, hb, rfl⟩ := Option.map_eq_some_iff.mp (show (ms.lookup x.cls).map PyData.bool = some y' from e)
        obtain ⟨C, dd, fvs, g1, g2, g3, g4, g5, _⟩ := xcls S hx hc
        have lk : xrL T x.cls D = some b := lk_all (f := fun c => xrL T c D) k3 hc hb
        exact ⟨_, hh, C, dd, fvs, b, g2, g3, g4, g5, q _ F H Ext.refl R.st (.bl b), .inl ⟨v, u, rfl, hv.2.1, (xr_ok S lk g1 hv).2⟩⟩
      · rename_i ds kd pd
        split at h5
        · rename_i Ds eD
          simp only [Bool.and_eq_true, decide_eq_true_eq] at h5
          obtain ⟨k0, k1, k2⟩ := h5
          obtain ⟨g0, vs, us, g1, g2, g2', g3⟩ := ds_ok (Y := X.suite a ((a, oe) :: pn)) S rfl hs ds Ds eD k1
          have e1 := pe_tupD (k := kd) (pos := pd) g1
          refine PE.imp (pe_callB (call_isX hz hf) hg hm (by first | rfl | kernel_rfl) (pa_cons he (pa_cons e1 pa_nil (by rfl)) (by rfl)) (by decide +kernel) (by decide +kernel) (by rfl) (by rfl)) fun σ H Q ⟨F, β, B, ρ, st, x, y', R, hh, hx, hc, e, q⟩ => ?_
          obtain ⟨b, hb, rfl⟩ := Option.map_eq_some_iff.mp (show (ms.lookup x.cls).map PyData.bool = some y' from e)
          have lk : xrAny T x.cls Ds = some b := lk_all (f := fun c => xrAny T c Ds) k2 hc hb
          refine ⟨_, hh, ?_, fun p o hp ho => ?_⟩
          · rw [g2', sizeLine_eq]; omega
          · have e2 : Ext F β H F (upd H p (.frz o (.tup vs))) := Ext.laid hp
            obtain ⟨C, dd, fvs, g1', g2'', g3', g4, g5, _⟩ := xcls S (hx.keep e2 R.st) hc
            exact ⟨C, dd, fvs, b, g2'', g3', g4, g5, q _ F _ e2 (R.st.laid hp) (.bl b), .inr ⟨p, vs, us, rfl, SqD.sq (.inl ⟨o, upd_same, ho⟩), g2, g3 _ _ _ g1' lk⟩⟩
        · cases h5
      · cases h5
    · cases h
  | .fld f, y, h => by
    unfold chkHE at h
    split at h
    · rename_i ev pe g pg
      simp only [Bool.and_eq_true, decide_eq_true_eq] at h
      obtain ⟨⟨h1, h2⟩, h3⟩ := h
      subst h1
      obtain ⟨i, rfl, he⟩ := evB_ok (Y := X.suite a ((a, oe) :: pn)) (p := pe) hN hs h3
      refine ⟨fun pins s σ H Q I ⟨F, β, B, ρ, st, x, y', R, hh, hx, hc, e, q⟩ => ?_⟩
      obtain ⟨C, dd, fvs, g1, g2, g3, g4, g5, g6, g7⟩ := xcls S hx hc
      obtain ⟨v, l1, l2⟩ := lookup_rp g6 g7 e
      refine (pe_xf (cls := cls) (d := d) g3.toXfC (g3.nf f (List.contains_iff_mem.mp h2)) hz hf he (by rfl)).run pins s σ H Q I ?_
      exact ⟨_, hh, rfl, g2, dd, fvs, v, g4, g5, l1, q v F H Ext.refl R.st l2⟩
    · cases h
  | .tup u v, y, h => by
    unfold chkHE at h
    split at h
    · rename_i u' v' ky py
      simp only [Bool.and_eq_true] at h
      obtain ⟨⟨h1, h2⟩, h3, h4⟩ := h
      refine PE.imp (pe_tupD (pa_cons (he_ok S hN hs hz hf u u' h3) (pa_cons (he_ok S hN hs hz hf v v' h4) pa_nil (star_of h2)) (star_of h1))) fun σ H Q ⟨F, β, B, ρ, st, x, y', R, hh, hx, hc, e, q⟩ => ?_
      obtain ⟨y1, e1, e⟩ := Option.bind_eq_some_iff.mp (show (semHE x ρ u).bind (fun y => (semHE x ρ v).map fun z => PyData.tuple [y, z]) = some y' from e)
      obtain ⟨y2, e2, rfl⟩ := Option.map_eq_some_iff.mp e
      refine ⟨F, β, B, ρ, st, x, y1, R, hh, hx, hc, e1, fun v1 F1 H1 x1 s1 r1 => ?_⟩
      refine ⟨F1, β, B, ρ, st, x, y2, R.ext x1 s1, hh, hx.keep x1 R.st, hc, e2, fun v2 F2 H2 x2 s2 r2 => ?_⟩
      refine ⟨by rw [sizeLine_eq]; show 2 ≤ _; omega, fun p o hp ho => q _ F2 _ ((x1.trans x2).trans (Ext.laid hp)) (s2.laid hp) (.tup (.inl ⟨o, upd_same, ho⟩) (RpAll.keep ((Ext.laid hp).kp s2) _ _ (.cons (Rp.keep (x2.kp s1) _ _ r1) (.cons r2 .nil))))⟩
    · cases h
  | .nt _, _, h => by cases h
  | .an _ _, _, h => by cases h
/-! ### the suite's tests -/
def chkHT (N : List Str) (T : Tb) (sc : Scope) (n : Option Nat) : HE → Expr → Bool
  | .nt a, y => match y with
    | .UnaryOp .Not z _ => chkHT N T sc n a z
    | _ => false
  | .an a b, y => match y with
    | .BoolOp .And [u, v] _ => chkHT N T sc n a u && chkHT N T sc n b v
    | .BoolOp .And (u :: v :: w :: r) p => chkHT N T sc n a u && chkHT N T sc n b (.BoolOp .And (v :: w :: r) p)
    | _ => false
  | .isx ms, y => plainT y && chkHE N T sc n (.isx ms) y
  | .var i, y => plainT y && chkHE N T sc n (.var i) y
  | _, _ => false
theorem he_tru (S : Side X Φ T wx) {e : HE} {y : Expr} (he : PE (X.suite a ((a, oe) :: pn)) y (tHE (kw X) T a n cls d e)) (hp : plainT y = true) : PT (X.suite a ((a, oe) :: pn)) y (tHT (kw X) T a n cls d e) := by
  refine PT.imp (pt_truth he (isTrue_of hp)) fun σ H Q ⟨F, β, B, ρ, st, x, b, R, hh, hx, hc, e, q⟩ => ?_
  refine ⟨F, β, B, ρ, st, x, _, R, hh, hx, hc, e, fun v F1 H1 x1 s1 r => ?_⟩
  cases r
  exact ⟨b, ok_truth (X := X) (F := F1) (x := .bool b) (.inl (.bl b)) rfl, q F1 H1 x1 s1⟩
theorem ht_ok (S : Side X Φ T wx) (hN : X.N = N) (hs : X.env.scope = sc) (hz : Zc cls d oe) (hf : ∃ vs, oe.data = .fields vs) : ∀ (e : HE) (y : Expr), chkHT N T sc n e y = true → PT (X.suite a ((a, oe) :: pn)) y (tHT (kw X) T a n cls d e)
  | .nt u, y, h => by
    unfold chkHT at h
    split at h
    · refine PT.imp (pt_not (ht_ok S hN hs hz hf u _ h)) fun σ H Q ⟨F, β, B, ρ, st, x, b, R, hh, hx, hc, e, q⟩ => ?_
      unfold semHE at e
      split at e
      · rename_i b' e1
        cases e
        exact ⟨F, β, B, ρ, st, x, b', R, hh, hx, hc, e1, q⟩
      · cases e
    · cases h
  | .an u v, y, h => by
    have key : ∀ {σ : L2.St} {H : Hp} {Q : Bool → Hp → Prop}, tHT (kw X) T a n cls d (.an u v) σ H Q → tAnd (tHT (kw X) T a n cls d u) (tHT (kw X) T a n cls d v) σ H Q := fun {σ H Q} ⟨F, β, B, ρ, st, x, b, R, hh, hx, hc, e, q⟩ => by
      unfold semHE at e
      split at e
      · rename_i e1
        split at e
        · rename_i b2 e2
          cases e
          exact ⟨F, β, B, ρ, st, x, true, R, hh, hx, hc, e1, fun F1 H1 x1 s1 => ⟨F1, β, B, ρ, st, x, b, R.ext x1 s1, hh, hx.keep x1 R.st, hc, e2, fun F2 H2 x2 s2 => q F2 H2 (x1.trans x2) s2⟩⟩
        · cases e
      · rename_i e1
        cases e
        exact ⟨F, β, B, ρ, st, x, false, R, hh, hx, hc, e1, fun F1 H1 x1 s1 => q F1 H1 x1 s1⟩
      · cases e
    unfold chkHT at h
    split at h
    · obtain ⟨h1, h2⟩ := Bool.and_eq_true_iff.mp h
      exact PT.imp (pw_and (ht_ok S hN hs hz hf u _ h1) (pw_and1 (ht_ok S hN hs hz hf v _ h2))).pt fun σ H Q => key
    · obtain ⟨h1, h2⟩ := Bool.and_eq_true_iff.mp h
      exact PT.imp (pw_and (ht_ok S hN hs hz hf u _ h1) (t_pw (ht_ok S hN hs hz hf v _ h2))).pt fun σ H Q => key
    · cases h
  | .isx ms, y, h => by
    obtain ⟨h1, h2⟩ := Bool.and_eq_true_iff.mp (show (plainT y && chkHE N T sc n (.isx ms) y) = true from h)
    exact he_tru S (he_ok S hN hs hz hf _ _ h2) h1
  | .var i, y, h => by
    obtain ⟨h1, h2⟩ := Bool.and_eq_true_iff.mp (show (plainT y && chkHE N T sc n (.var i) y) = true from h)
    exact he_tru S (he_ok S hN hs hz hf _ _ h2) h1
  | .con _, _, h => by cases h
  | .fld _, _, h => by cases h
  | .tup _ _, _, h => by cases h
/-! ### the suite -/
def tgH (N : List Str) (sc : Scope) (n : Option Nat) (i : Nat) (m : Str) : Bool := decide (N[i]? = some m) && locB sc m && !decide (n = some i)
def chkHs (N : List Str) (T : Tb) (sc : Scope) (n : Option Nat) : Hs → List Stmt → Bool
  | .nil, ys => match ys with | [] => true | _ => false
  | .set i e r, ys => match ys with
    | .Assign [.Name m _] y _ :: ys => tgH N sc n i m && noComp y && (chkHE N T sc n e y && chkHs N T sc n r ys)
    | _ => false
  | .ite c i e r, ys => match ys with
    | .If z [.Assign [.Name m _] y _] [] _ :: ys => tgH N sc n i m && noComp y && (chkHT N T sc n c z && chkHE N T sc n e y && chkHs N T sc n r ys)
    | _ => false
def tHs (K : KW) (T : Tb) (a : Addr) (n : Option Nat) (cls : Value) (d : Option Addr) (h : Hs) : TS := fun D σ H => ∃ E F β B ρ st x ρ', RelS K E F β B ρ st σ H ∧ Holds σ a n ∧ ExRep K K.mg F H x cls d ∧ XcOf T x.cls ∧ nsB ρ n = true ∧ semHs x h ρ = some ρ' ∧
  ∀ σ' H' F', RelS K E F' β B ρ' st σ' H' → nsB ρ' n = true → D.nx σ' H'
theorem holds_set {v : V} {i : Nat} (hh : Holds σ a n) (hi : n ≠ some i) : Holds (σ.set i (some v)) a n := by
  cases n with
  | none => trivial
  | some j =>
    show (σ.set i (some v))[j]? = _
    rw [List.getElem?_set_ne (fun e => hi (by rw [e]))]
    exact hh
theorem nsB_set {w : W} {i : Nat} (h : nsB ρ n = true) (hi : n ≠ some i) : nsB (ρ.set i (some w)) n = true := by
  cases n with
  | none => rfl
  | some j =>
    show (match (ρ.set i (some w))[j]? with
      | some none => true
      | _ => false) = true
    rw [List.getElem?_set_ne (fun e => hi (by rw [e]))]
    exact h
theorem ps_setH (hN : X.N = N) (hs : X.env.scope = sc) (hnd : X.N.Nodup) (hfn : ∀ n, X.fn n = true) {i : Nat} {m : Str} {pm p : Pos} {y : Expr} {te : TE} (ht : tgH N sc n i m = true) (hc : noComp y = true) (he : PE (X.suite a ((a, oe) :: pn)) y te) : PS (X.suite a ((a, oe) :: pn)) (.Assign [.Name m pm] y p) (tAsg te (gName i)) ∧ n ≠ some i := by
  unfold tgH at ht
  simp only [Bool.and_eq_true, decide_eq_true_eq, Bool.not_eq_true', decide_eq_false_iff_not] at ht
  obtain ⟨⟨h1, h2⟩, h3⟩ := ht
  exact ⟨ps_set hnd (by show X.N[i]? = _; rw [hN]; exact h1) (by show L2.Loc X.env.scope m; rw [hs]; exact locB_ok h2) he (swaps_of hc) (.inl (hfn m)), h3⟩
theorem hs_ok (S : Side X Φ T wx) (hN : X.N = N) (hs : X.env.scope = sc) (hfn : ∀ n, X.fn n = true) (hz : Zc cls d oe) (hf : ∃ vs, oe.data = .fields vs) : ∀ (h : Hs) (ys : List Stmt), chkHs N T sc n h ys = true → PSs (X.suite a ((a, oe) :: pn)) ys (tHs (kw X) T a n cls d h)
  | .nil, ys, h => by
    unfold chkHs at h
    split at h
    · refine PSs.imp pss_nil fun D σ H ⟨E, F, β, B, ρ, st, x, ρ', R, hh, hx, hc, hn, e, q⟩ => ?_
      cases e
      exact q σ H F R hn
    · cases h
  | .set i e r, ys, h => by
    unfold chkHs at h
    split at h
    · simp only [Bool.and_eq_true] at h
      obtain ⟨⟨h1, h2⟩, h3, h4⟩ := h
      obtain ⟨p1, p2⟩ := ps_setH (a := a) (oe := oe) (pn := pn) hN hs S.nd hfn h1 h2 (he_ok S hN hs hz hf e _ h3)
      refine PSs.imp (pss_cons p1 (hs_ok S hN hs hfn hz hf r _ h4)) fun D σ H ⟨E, F, β, B, ρ, st, x, ρ', R, hh, hx, hc, hn, e', q⟩ => ?_
      obtain ⟨z, e1, e2⟩ := Option.bind_eq_some_iff.mp (show ((semHE x ρ e).bind fun y => semHs x r (ρ.set i (some (.d y)))) = some ρ' from e')
      refine ⟨F, β, B, ρ, st, x, z, R.rel, hh, hx, hc, e1, fun v F1 H1 x1 s1 r1 => ?_⟩
      exact ⟨E, F1, β, B, _, st, x, ρ', (R.ext x1 s1).setW (w := .d z) r1 (fun _ e => nomatch e) (fun _ e => nomatch e) (fun _ e => nomatch e), holds_set hh p2, hx.keep x1 R.rel.st, hc, nsB_set hn p2, e2, q⟩
    · cases h
  | .ite c i e r, ys, h => by
    unfold chkHs at h
    split at h
    · simp only [Bool.and_eq_true] at h
      obtain ⟨⟨h1, h2⟩, ⟨h3, h5⟩, h4⟩ := h
      obtain ⟨p1, p2⟩ := ps_setH (a := a) (oe := oe) (pn := pn) hN hs S.nd hfn h1 h2 (he_ok S hN hs hz hf e _ h5)
      refine PSs.imp (pss_cons (ps_if (ht_ok S hN hs hz hf c _ h3) (pss_cons p1 pss_nil) pss_nil) (hs_ok S hN hs hfn hz hf r _ h4)) fun D σ H ⟨E, F, β, B, ρ, st, x, ρ', R, hh, hx, hc, hn, e', q⟩ => ?_
      unfold semHs at e'
      split at e'
      · rename_i ec
        obtain ⟨z, e1, e2⟩ := Option.bind_eq_some_iff.mp e'
        refine ⟨F, β, B, ρ, st, x, true, R.rel, hh, hx, hc, ec, fun F0 H0 x0 s0 => ?_⟩
        have R0 := R.ext x0 s0
        refine ⟨F0, β, B, ρ, st, x, z, R0.rel, hh, hx.keep x0 R.rel.st, hc, e1, fun v F1 H1 x1 s1 r1 => ?_⟩
        exact ⟨E, F1, β, B, _, st, x, ρ', (R0.ext x1 s1).setW (w := .d z) r1 (fun _ e => nomatch e) (fun _ e => nomatch e) (fun _ e => nomatch e), holds_set hh p2, (hx.keep x0 R.rel.st).keep x1 s0, hc, nsB_set hn p2, e2, q⟩
      · rename_i ec
        refine ⟨F, β, B, ρ, st, x, false, R.rel, hh, hx, hc, ec, fun F0 H0 x0 s0 => ?_⟩
        exact ⟨E, F0, β, B, ρ, st, x, ρ', R.ext x0 s0, hh, hx.keep x0 R.rel.st, hc, hn, e', q⟩
      · cases e'
    · cases h
/-! ### try -/
theorem RelS.pad (R : RelS K E F β B ρ st σ H) {i : Nat} (hi : ρ[i]? = some none) (o : Option V) : RelS K E F β B ρ st (σ.set i o) H := by
  have ne : ∀ {j : Nat} {w : W}, ρ[j]? = some (some w) → i ≠ j := fun {j w} e z => by subst z; rw [hi] at e; cases e
  refine ⟨⟨by rw [List.length_set]; exact R.rel.len, fun j w e => ?_, R.rel.rest, fun j k c c' b h1 h2 h3 h4 => ?_, R.rel.st⟩, R.since⟩
  · obtain ⟨v, h1, h2⟩ := R.rel.slot j w e
    exact ⟨v, by rw [List.getElem?_set_ne (ne e)]; exact h1, h2⟩
  · rw [List.getElem?_set_ne (ne h1)] at h2
    rw [List.getElem?_set_ne (ne h3)] at h4
    exact R.rel.apart j k c c' b h1 h2 h3 h4
theorem store_nox {i : Nat} {m : Md} {w : W} {x : XV} {s : Stt} : store ρ i m w st ≠ .ex x s := fun h => by
  unfold store at h
  split at h <;> cases h
theorem treK_id {ms : List (Str × Bool)} {hh : Hs} {r : Res Fl} (h : ∀ x s, r ≠ .ex x s) : treK ms n hh ρ r = r := by
  cases r with
  | ex x s => exact absurd rfl (h x s)
  | ok w s => rfl
  | bad => rfl
def xcHas (T : Tb) (c : Str) : Bool := T.xc.any fun q => decide (q.1 = c)
theorem xcHas_ok {c : Str} (h : xcHas T c = true) : XcOf T c := by
  obtain ⟨⟨c', fl⟩, h1, h2⟩ := List.any_eq_true.mp h
  have h2 : c' = c := of_decide_eq_true h2
  subst h2
  exact ⟨fl, h1⟩
theorem lookup_mem {c : Str} {b : Bool} : ∀ {ms : List (Str × Bool)}, ms.lookup c = some b → (c, b) ∈ ms
  | (d, b') :: ms, h => by
    rw [List.lookup_cons] at h
    split at h
    · rename_i q
      cases h
      rw [eq_of_beq q]
      exact List.mem_cons_self
    · exact List.mem_cons_of_mem _ (lookup_mem h)
def exB (T : Tb) (D : Str) (ms : List (Str × Bool)) : Bool := knD T D && ms.all fun q => xcHas T q.1 && decide (xrL T q.1 D = some q.2)
def nmX (N : List Str) (sc : Scope) (n : Option Nat) (nm : Option Str) : Bool := match n with
  | none => (match nm with | none => true | _ => false)
  | some k => (match nm with | some z => decide (N[k]? = some z) && decide (sc.names.lookup z = some .local) | _ => false)
/-- the body's end, and what the clause wishes of an exception -/
theorem tre_body {W : WX} {e : Gm.E} {i : Nat} {m : Md} {ms : List (Str × Bool)} {hh : Hs} (R : RelS (kw X) E F β B ρ st σ H) (h : PostS (kw X) X.mg wx E (treK ms n hh ρ (semS Φ (.set i m e) ρ st)) D)
    (hW : ∀ x s c d F' H', RelS (kw X) E F' β B ρ s σ H' → ExRep (kw X) X.mg F' H' x c d → PostS (kw X) X.mg wx E (treK ms n hh ρ (.ex x s)) D → W c d σ H') : tAsg (tEs X Φ W e) (gName i) D σ H := by
  refine ⟨F, β, B, ρ, st, R.rel, ?_⟩
  unfold semS at h
  cases q : sem Φ e ρ st with
  | bad => rw [q] at h; exact h
  | ok w s =>
    rw [q] at h
    have h : PostS (kw X) X.mg wx E (treK ms n hh ρ (store ρ i m w s)) D := h
    rw [treK_id fun x s => store_nox] at h
    exact fun v F' H' x1 s1 rv => store_ok' R x1 s1 rv h
  | ex x s =>
    rw [q] at h
    exact fun c d F' H' x1 s1 xr => hW x s c d F' H' (R.ext x1 s1) xr h
theorem tre_exm (S : Side X Φ T wx) {Dn : Str} {ms : List (Str × Bool)} {hh : Hs} {v : V} {u : Value} {x : XV} {s : Stt} {c : Value} {d : Option Addr} (hk : exB T Dn ms = true) (hv : ClsV X.mg Dn v u) (xr : ExRep (kw X) X.mg F H x c d) (h : PostS (kw X) X.mg wx E (treK ms n hh ρ (.ex x s)) D) :
    XcOf T x.cls ∧ ∃ b, ms.lookup x.cls = some b ∧ PySem.W.exmOne X.K c u = some b := by
  cases q : ms.lookup x.cls with
  | none =>
    have h : PostS (kw X) X.mg wx E (match ms.lookup x.cls with
      | some true => treH x hh ρ n s
      | some false => .ex x s
      | none => .bad) D := h
    rw [q] at h
    exact h.elim
  | some b =>
    obtain ⟨_, h2⟩ := Bool.and_eq_true_iff.mp hk
    have h3 := List.all_eq_true.mp h2 _ (lookup_mem q)
    simp only [Bool.and_eq_true, decide_eq_true_eq] at h3
    obtain ⟨C, g1, g2, _⟩ := xr
    subst g2
    exact ⟨xcHas_ok h3.1, b, rfl, (xr_ok S h3.2 g1 hv).1⟩
theorem tre_hit {ms : List (Str × Bool)} {hh : Hs} {x : XV} {s : Stt} (e : ms.lookup x.cls = some true) (h : PostS (kw X) X.mg wx E (treK ms n hh ρ (.ex x s)) D) : nsB ρ n = true ∧ ∃ ρ', semHs x hh ρ = some ρ' ∧ PostS (kw X) X.mg wx E (.ok (.nx ρ') s) D := by
  have h : PostS (kw X) X.mg wx E (match ms.lookup x.cls with
    | some true => treH x hh ρ n s
    | some false => .ex x s
    | none => .bad) D := h
  rw [e] at h
  have h : PostS (kw X) X.mg wx E (treH x hh ρ n s) D := h
  unfold treH at h
  split at h
  · rename_i q
    cases z : semHs x hh ρ with
    | none => rw [z] at h; exact h.elim
    | some ρ' => rw [z] at h; exact ⟨q, ρ', rfl, h⟩
  · exact h.elim
theorem tre_pass {ms : List (Str × Bool)} {hh : Hs} {x : XV} {s : Stt} (e : ms.lookup x.cls = some false) (h : PostS (kw X) X.mg wx E (treK ms n hh ρ (.ex x s)) D) : PostS (kw X) X.mg wx E (.ex x s) D := by
  have h : PostS (kw X) X.mg wx E (match ms.lookup x.cls with
    | some true => treH x hh ρ n s
    | some false => .ex x s
    | none => .bad) D := h
  rw [e] at h
  exact h
theorem s_tre (S : Side X Φ T wx) (hN : X.N = N) (hs : X.env.scope = sc) (hfn : ∀ n, X.fn n = true) (stk : X.stack = X.env :: X.outer) (frm : X.env.frame = some X.env.locals) {i : Nat} {m : Md} {e : Gm.E} {ms : List (Str × Bool)} {hh : Hs} {u Dn : Str} {pu pa pd ph : Pos} {y : Expr} {nm : Option Str} {s₀ : Stmt} {ss : List Stmt}
    (h1 : N[i]? = some u) (h2 : locB sc u = true) (h3 : noComp y = true) (he : ∀ (W : WX) (pn : List (Addr × Obj)) (xe : Value → Shared → Prop), Takes (X.tr pn xe) W → PassesOwn (model X.prog X.w) X.A X.env xe → PE (X.tr pn xe) y (tEs (X.tr pn xe) Φ W e))
    (h4 : glB sc Dn = true) (h5 : exB T Dn ms = true) (h6 : nmX N sc n nm = true) (h7 : chkHs N T sc n hh (s₀ :: ss) = true) :
    PS X (.Try [.Assign [.Name u pu] y pa] [.ExceptHandler (some (.Name Dn pd)) nm (s₀ :: ss) ph] [] [] pos) (tSt X Φ wx (.tre (.set i m e) ms n hh)) := by
  obtain ⟨v, c, hv⟩ := kn_ok S (Bool.and_eq_true_iff.mp h5).1
  have hnames : Names X Dn c := ⟨glB_ok hs h4, hv.2.2.1, hv.2.2.2⟩
  have hb : ∀ (W : WX) (pn : List (Addr × Obj)) (xe : Value → Shared → Prop), Takes (X.tr pn xe) W → PassesOwn (model X.prog X.w) X.A X.env xe → PSs (X.tr pn xe) [.Assign [.Name u pu] y pa] (fun D σ H => tAsg (tEs X Φ W e) (gName i) D σ H) := fun W pn xe tk ow =>
    PSs.imp (pss_cons (ps_set S.nd (by show X.N[i]? = _; rw [hN]; exact h1) (by show L2.Loc X.env.scope u; rw [hs]; exact locB_ok h2) (he W pn xe tk ow) (swaps_of h3) (.inl (hfn u))) pss_nil) fun D σ H q => q
  have hsu : ∀ (a : Addr) (oe : Obj) (cls : Value) (d : Option Addr) (pn : List (Addr × Obj)), Zc cls d oe → (∃ vs, oe.data = .fields vs) → PSs (X.suite a ((a, oe) :: pn)) (s₀ :: ss) (tHs (kw X) T a n cls d hh) := fun a oe cls d pn hz hf => hs_ok S hN hs hfn hz hf hh _ h7
  cases n with
  | none =>
    cases nm with
    | some z => cases h6
    | none =>
      refine PS.imp (ps_try_only stk frm hnames S.tk hb hsu) fun D σ H ⟨E, F, β, B, ρ, st, R, h⟩ => ?_
      have h : PostS (kw X) X.mg wx E (treK ms none hh ρ (semS Φ (.set i m e) ρ st)) D := by rw [semS] at h; exact h
      refine tre_body R h fun x s c' d F' H' R1 xr hp => ?_
      obtain ⟨hc, b, hb1, hb2⟩ := tre_exm S h5 hv xr hp
      refine ⟨b, hb2, fun eb a na => ?_, fun eb => ?_⟩
      · subst eb
        obtain ⟨hn, ρ', g1, g2⟩ := tre_hit hb1 hp
        exact ⟨E, F', β, B, ρ, s, x, ρ', R1, trivial, xr, hc, hn, g1, fun σ' H2 F2 R2 _ => g2 σ' H2 F2 β B R2⟩
      · subst eb
        exact tre_pass hb1 hp _ _ σ H' F' β B R1.rel.st R1.since xr
  | some k =>
    cases nm with
    | none => cases h6
    | some z =>
      obtain ⟨g1, g2⟩ := Bool.and_eq_true_iff.mp (show (decide (N[k]? = some z) && decide (sc.names.lookup z = some .local)) = true from h6)
      have g1 := of_decide_eq_true g1
      have g2 := of_decide_eq_true g2
      refine PS.imp (ps_try_as (i := k) stk frm S.nd (by rw [hN]; exact g1) (by show X.env.scope.names.lookup z = _; rw [hs]; exact g2) hnames S.tk hb hsu) fun D σ H ⟨E, F, β, B, ρ, st, R, h⟩ => ?_
      have h : PostS (kw X) X.mg wx E (treK ms (some k) hh ρ (semS Φ (.set i m e) ρ st)) D := by rw [semS] at h; exact h
      refine tre_body R h fun x s c' d F' H' R1 xr hp => ?_
      obtain ⟨hc, b, hb1, hb2⟩ := tre_exm S h5 hv xr hp
      refine ⟨b, hb2, fun eb a na => ?_, fun eb => ?_⟩
      · subst eb
        obtain ⟨hn, ρ', g1, g2⟩ := tre_hit hb1 hp
        have nsi : ∀ {ρ : Rho}, nsB ρ (some k) = true → ρ[k]? = some none := fun {ρ} h => by
          unfold nsB at h
          split at h
          · rename_i q; cases q
          · rename_i q
            cases q
            split at h
            · assumption
            · cases h
        have hk : k < σ.length := by rw [← R1.rel.len]; exact (List.getElem?_eq_some_iff.mp (nsi hn)).1
        refine ⟨E, F', β, B, ρ, s, x, ρ', R1.pad (nsi hn) _, List.getElem?_set_self hk, xr, hc, hn, g1, fun σ' H2 F2 R2 hn' => ?_⟩
        exact g2 _ H2 F2 β B (R2.pad (nsi hn') none)
      · subst eb
        exact tre_pass hb1 hp _ _ σ H' F' β B R1.rel.st R1.since xr
end
end Gm

/-! The deep layer, part G4: the checker of statements; it is right. -/
namespace Gm
open PySem PySem.Spec PyProof.Rows L2
def isLcB : Expr → Bool
  | .ListComp _ _ _ _ => true
  | _ => false
mutual
def chkS (N : List Str) (T : Tb) (sc : Scope) : S → Stmt → Bool
  | .set i m e, x => match x with
    | .Assign [.Name n p] y _ => decide (N[i]? = some n) && locB sc n && (noComp y || isLcB y) && chkE N T sc e y
    | _ => false
  | .par i j a b, x => match x with
    | .Assign [.Tuple [.Name u pu, .Name v pv] _ _] (.Tuple [y, z] _ _) _ => decide (N[i]? = some u) && decide (N[j]? = some v) && decide (i ≠ j) && decide (sc.names.lookup u = some .local) && decide (sc.names.lookup v = some .local) && (pv.line == pu.line) && !(u == v) && noStr2 y z && !([y, z].all (foldedForSure 8)) && !([y, z].all (constantsAlone 8)) && chkEs N T sc (.cons a (.cons b .nil)) [y, z]
    | _ => false
  | .unp is e, x => match x with
    | .Assign [.Tuple xs k p] y _ => chkT N sc (.tp is) (.Tuple xs k p) && noTup y && chkE N T sc e y
    | _ => false
  | .sub i k e, x => match x with
    | .Assign [.Subscript (.Name n _) z _] y _ => decide (N[i]? = some n) && visB sc n && nmB n && plainB z && chkE N T sc k z && chkE N T sc e y
    | _ => false
  | .app i e, x => match x with
    | .Expr (.Call (.Attribute (.Name n _) nm apos) [y] [] cpos) _ => decide (N[i]? = some n) && visB sc n && nmB n && decide (nm = "append") && noStar y && (apos.endLine == cpos.line) && chkE N T sc e y
    | _ => false
  | .ext i e, x => match x with
    | .Expr (.Call (.Attribute (.Name n _) nm apos) [y] [] cpos) _ => decide (N[i]? = some n) && visB sc n && nmB n && decide (nm = "extend") && noStar y && (apos.endLine == cpos.line) && chkE N T sc e y
    | _ => false
  | .nev, _ => true
  | .exp e, x => match x with
    | .Expr y _ => noComp y && chkE N T sc e y
    | _ => false
  | .ret e, x => match x with
    | .Return (some y) _ => chkE N T sc e y
    | _ => false
  | .rtv i, x => match x with
    | .Return (some (.Name n _)) _ => decide (N[i]? = some n) && visB sc n && nmB n
    | _ => false
  | .ite c a b, x => match x with
    | .If y ys zs _ => chkE N T sc c y && chkSs N T sc a ys && chkSs N T sc b zs
    | _ => false
  | .for_ t it b, x => match x with
    | .For tg iter body [] _ => chkT N sc t tg && noSet iter && chkI N T sc it tg iter && chkSs N T sc b body && (!isP it || (isE it && isTp t))
    | _ => false
  | .whl _ c b, x => match x with
    | .While y body [] _ => chkE N T sc c y && chkSs N T sc b body
    | _ => false
  | .tri b, x => match x with
    | .Try body (_ :: _) [] [] _ => chkSs N T sc b body
    | _ => false
  | .rse c fl es, x => match x with
    | .Raise (some (.Call (.Name m _) (y :: ys) [] _)) none _ => decide (m = c) && decide ((c, fl) ∈ T.xc) && glB sc c && nmB c && chkEs N T sc es (y :: ys)
    | _ => false
  | .tre b ms n h, x => match b with
    | .set i _ e => match x with
      | .Try [.Assign [.Name u _] y _] [.ExceptHandler (some (.Name D _)) nm (s₀ :: ss) _] [] [] _ => decide (N[i]? = some u) && locB sc u && noComp y && chkE N T sc e y && glB sc D && exB T D ms && nmX N sc n nm && chkHs N T sc n h (s₀ :: ss)
      | _ => false
    | _ => false
def chkSs (N : List Str) (T : Tb) (sc : Scope) : Ss → List Stmt → Bool
  | .nil, xs => match xs with | [] => true | _ => false
  | .cons s r, xs => match xs with | x :: xs => chkS N T sc s x && chkSs N T sc r xs | _ => false
  | .frz _ r, xs => chkSs N T sc r xs
end
/-- a def's body runs -/
structure FitS (X : Cx) (Φ : Phi) (T : Tb) (wx : WX) (N : List Str) (sc : Scope) : Prop extends Fits X Φ T wx N sc where
  all : ∀ n, X.fn n = true
  own : PassesOwn (model X.prog X.w) X.A X.env X.xe
  kind : X.env.scope.kind = .function
  stk : X.stack = X.env :: X.outer
  frm : X.env.frame = some X.env.locals
section
variable {X : Cx} {Φ : Phi} {T : Tb} {wx : WX} {N : List Str} {sc : Scope} {pos : Pos}
theorem FitS.nox (f : FitS X Φ T wx N sc) : FitS X.nox Φ T (fun _ _ _ _ => False) N sc where
  side := ⟨f.side.nd, f.side.calm, f.side.un, f.side.gu, fun u s' ⟨_, _, _, _, _, _, _, _, _, _, _, _, _, _, _, _, w⟩ => w.elim, f.side.pl, f.side.co, f.side.ab, f.side.fn, f.side.xc, f.side.xr, f.side.rm⟩
  n := f.n
  scp := f.scp
  all := f.all
  own := PassesOwn.never
  kind := f.kind
  stk := f.stk
  frm := f.frm
theorem FitS.tr (f : FitS X Φ T wx N sc) {W : WX} {pn : List (Addr × Obj)} {xe : Value → Shared → Prop} (tk : Takes (X.tr pn xe) W) : Fits (X.tr pn xe) Φ T W N sc :=
  ⟨⟨f.side.nd, f.side.calm, f.side.un, f.side.gu, tk, f.side.pl, f.side.co, f.side.ab, f.side.fn, f.side.xc, f.side.xr, f.side.rm⟩, f.n, f.scp⟩
theorem sw_false {elt : Expr} {gs : List Comprehension} {scope : Scope} {p py : Pos} {y : Str} {l : Nat} {env : Env} (hk : env.scope.kind = .function)
    (h : ¬ (env.scope.names.lookup y = some .local ∧ (py.line == p.line) = true ∧ (scope.names.any fun (n, k) => n == y && (k == .local || k == .cell)) = false)) : swapsWith (.ListComp elt gs scope p) (some (.Name y py)) l env = pure false := by
  have hb : env.blockKind = .function := by unfold Env.blockKind; rw [hk]; rfl
  have ky : env.kindOf y = env.scope.names.lookup y := rfl
  unfold swapsWith
  simp only [hb, ky, Expr.pos]
  have key : (ScopeKind.function == ScopeKind.function && env.scope.names.lookup y == some NameKind.local && py.line == p.line && !(scope.names.any fun (n, k) => n == y && (k == .local || k == .cell))) = false := by
    rw [Bool.eq_false_iff]
    intro q
    simp only [Bool.and_eq_true, Bool.not_eq_true'] at q
    exact h ⟨by simpa using q.1.1.2, q.1.2, q.2⟩
  exact congrArg pure key
theorem lc_inv {elt : Gm.E} {e : Gm.E} {y : Expr} (hl : isLcB y = true) (h : chkE N T sc e y = true) : ∃ elt t it cs own y' tg iter ifs scope p, e = .lc elt t it cs own ∧ y = .ListComp y' [⟨tg, iter, ifs, 0⟩] scope p ∧
    (ownOf N own).map (·.2) = own ∧ blkC N sc scope (ownOf N own) = true ∧ (tgs t).all (fun i => decide (i ∈ own)) = true ∧ noSet iter = true ∧ chkT N scope t tg = true ∧ chkI N T sc it tg iter = true ∧ chkCs N T (relS scope sc) cs ifs = true ∧ chkE N T (relS scope sc) elt y' = true ∧ (!isP it || isTp t) = true := by
  cases y with
  | ListComp y' gs scope p =>
    cases e with
    | lc elt t it cs own =>
      unfold chkE at h
      split at h
      · rename_i e1
        cases e1
        simp only [Bool.and_eq_true, decide_eq_true_eq] at h
        obtain ⟨⟨⟨⟨⟨⟨⟨⟨h1, h2⟩, h3⟩, h4⟩, h5⟩, h6⟩, h7⟩, h8⟩, h9⟩ := h
        exact ⟨elt, t, it, cs, own, _, _, _, _, _, _, rfl, rfl, h1, h2, h3, h4, h5, h6, h7, h8, h9⟩
      · cases h
    | _ => unfold chkE at h; cases h
  | _ => cases hl
theorem s_setLc {i : Nat} {m : Md} {n : Str} {p : Pos} {e : Gm.E} {y : Expr} (f : FitS X Φ T wx N sc) (hN : X.N[i]? = some n) (hl : L2.Loc X.env.scope n) (hy : isLcB y = true) (h : chkE N T sc e y = true) : PS X (.Assign [.Name n p] y pos) (tSt X Φ wx (.set i m e)) := by
  have he := (chkE_ok e y f.toFits h).1
  obtain ⟨elt, t, it, cs, own, y', tg, iter, ifs, scope, p', rfl, rfl, h1, h2, h3, h4, h5, h6, h7, h8, h9⟩ := lc_inv (elt := e) hy h
  by_cases hc : X.env.scope.names.lookup n = some .local ∧ (p.line == p'.line) = true ∧ (scope.names.any fun (m, k) => m == n && (k == .local || k == .cell)) = false
  · obtain ⟨c1, c2, c3⟩ := hc
    obtain ⟨tt, g1, g2, g3, g4, g5⟩ := lc_parts (wx := wx) (it := it) f.toFits h1 h2 h3 h9 h5 (fun ifs f h => chkCs_ok cs ifs f h) h7 (fun x f h => (chkE_ok elt x f h).1) h8
    refine PS.imp (ps_setLc f.side.calm f.side.nd hN c1 (sw_true f.kind c1 c2 c3) (chkI_ok it _ _ f.toFits h6) g1 g2 g3 g4 (folded_of h4)) fun D σ H ⟨E, F, β, B, ρ, st, R, h⟩ => ?_
    unfold semS at h
    exact g5 σ H _ (step_se R h fun w st1 F1 v H1 e1 R1 rv h => store_ok' R e1 R1.rel.st rv h)
  · exact s_set hN f.side.nd hl (f.all n) he (sw_false f.kind hc)
mutual
theorem chkS_ok {X : Cx} {wx : WX} (f : FitS X Φ T wx N sc) : ∀ (s : S) (x : Stmt), chkS N T sc s x = true → PS X x (tSt X Φ wx s)
  | .set i m e, x, h => by
    unfold chkS at h
    split at h
    · rename_i n p y pos
      simp only [Bool.and_eq_true, decide_eq_true_eq, Bool.or_eq_true] at h
      obtain ⟨⟨⟨h1, h2⟩, h3⟩, h4⟩ := h
      have hl : L2.Loc X.env.scope n := by rw [f.scp]; exact locB_ok h2
      rcases h3 with h3 | h3
      · exact s_set (by rw [f.n]; exact h1) f.side.nd hl (f.all _) (chkE_ok e _ f.toFits h4).1 (swaps_of h3)
      · exact s_setLc f (by rw [f.n]; exact h1) hl h3 h4
    · cases h
  | .par i j a b, x, h => by
    unfold chkS at h
    split at h
    · simp only [Bool.and_eq_true, decide_eq_true_eq, Bool.not_eq_true'] at h
      obtain ⟨⟨⟨⟨⟨⟨⟨⟨⟨⟨h1, h2⟩, h3⟩, h4⟩, h5⟩, h6⟩, h7⟩, h8⟩, h9⟩, h10⟩, h11⟩ := h
      have e4 := h4
      have e5 := h5
      rw [← f.scp] at e4 e5
      exact s_par f.side.calm f.side.nd (by rw [f.n]; exact h1) (by rw [f.n]; exact h2) h3 e4 e5 (chkEs_ok _ _ f.toFits h11).1 (swst_par f.kind e4 e5 h6 h7 h8 h9 h10)
    · cases h
  | .unp is e, x, h => by
    unfold chkS at h
    split at h
    · simp only [Bool.and_eq_true] at h
      obtain ⟨⟨h1, h2⟩, h3⟩ := h
      exact s_unp (tg_ok (t := .tp is) f.side.calm f.n f.side.nd (fun n hn => ⟨by rw [f.scp]; exact hn, .inl (f.all n)⟩) h1) (chkE_ok e _ f.toFits h3).1 h2
    · cases h
  | .sub i k e, x, h => by
    unfold chkS at h
    split at h
    · simp only [Bool.and_eq_true, decide_eq_true_eq] at h
      obtain ⟨⟨⟨⟨⟨h1, h2⟩, h3⟩, h4⟩, h5⟩, h6⟩ := h
      exact s_sub f.side (by rw [f.n]; exact h1) (by rw [f.scp]; exact visB_ok h2) (nmB_ok h3).1 (nmB_ok h3).2 (chkE_ok e _ f.toFits h6).1 (chkE_ok k _ f.toFits h5).1 h4
    · cases h
  | .app i e, x, h => by
    unfold chkS at h
    split at h
    · simp only [Bool.and_eq_true, decide_eq_true_eq] at h
      obtain ⟨⟨⟨⟨⟨⟨h1, h2⟩, h3⟩, h4⟩, h5⟩, h6⟩, h7⟩ := h
      exact s_app (by rw [f.n]; exact h1) (by rw [f.scp]; exact visB_ok h2) (nmB_ok h3).1 (nmB_ok h3).2 h4 (chkE_ok e _ f.toFits h7).1 h5 h6
    · cases h
  | .ext i e, x, h => by
    unfold chkS at h
    split at h
    · simp only [Bool.and_eq_true, decide_eq_true_eq] at h
      obtain ⟨⟨⟨⟨⟨⟨h1, h2⟩, h3⟩, h4⟩, h5⟩, h6⟩, h7⟩ := h
      exact s_ext (by rw [f.n]; exact h1) (by rw [f.scp]; exact visB_ok h2) (nmB_ok h3).1 (nmB_ok h3).2 h4 (chkE_ok e _ f.toFits h7).1 h5 h6
    · cases h
  | .nev, x, h => s_nev
  | .exp e, x, h => by
    unfold chkS at h
    split at h
    · obtain ⟨h1, h2⟩ := Bool.and_eq_true_iff.mp h
      exact s_exp (chkE_ok e _ f.toFits h2).1 h1
    · cases h
  | .ret e, x, h => by
    unfold chkS at h
    split at h
    · exact s_ret (chkE_ok e _ f.toFits h).1
    · cases h
  | .rtv i, x, h => by
    unfold chkS at h
    split at h
    · simp only [Bool.and_eq_true, decide_eq_true_eq] at h
      obtain ⟨⟨h1, h2⟩, h3⟩ := h
      exact s_rtv (by rw [f.n]; exact h1) (by rw [f.scp]; exact visB_ok h2) (nmB_ok h3).1 (nmB_ok h3).2
    · cases h
  | .ite c a b, x, h => by
    unfold chkS at h
    split at h
    · simp only [Bool.and_eq_true] at h
      obtain ⟨⟨h1, h2⟩, h3⟩ := h
      exact s_ite (chkE_ok c _ f.toFits h1).2 (chkSs_ok f a _ h2) (chkSs_ok f b _ h3)
    · cases h
  | .for_ t it b, x, h => by
    unfold chkS at h
    split at h
    · simp only [Bool.and_eq_true] at h
      obtain ⟨⟨⟨⟨h1, h2⟩, h3⟩, h4⟩, h5⟩ := h
      have hgT := tg_ok f.side.calm f.n f.side.nd (fun n hn => ⟨by rw [f.scp]; exact hn, .inl (f.all n)⟩) h1
      have hbody := chkSs_ok f b _ h4
      cases it with
      | of a => unfold chkI at h3; exact s_for f.own f.side.calm (i_ofF (chkE_ok a _ f.toFits h3).1) hgT hbody h2
      | rng a =>
        unfold chkI at h3
        split at h3
        · simp only [Bool.and_eq_true, decide_eq_true_eq] at h3
          obtain ⟨⟨⟨⟨k1, k2⟩, k3⟩, k4⟩, k5⟩ := h3
          refine s_for f.own f.side.calm ?_ hgT hbody h2
          unfold semF
          exact i_rng (rep := RIF (kw X)) (fun _ _ => back_RIF) (fun _ _ _ _ _ _ _ _ ra w => ⟨_, ra, fun H2 _ => w H2⟩) k1 f.side k2 (glB_ok f.scp k3) (chkE_ok a _ f.toFits k5).1 k4
        · cases h3
      | rng2 a b =>
        unfold chkI at h3
        split at h3
        · simp only [Bool.and_eq_true, decide_eq_true_eq] at h3
          obtain ⟨⟨⟨⟨⟨⟨k1, k2⟩, k3⟩, k4⟩, k4'⟩, k5⟩, k6⟩ := h3
          refine s_for f.own f.side.calm ?_ hgT hbody h2
          unfold semF
          exact i_rng2 (rep := RIF (kw X)) (fun _ _ => back_RIF) (fun _ _ _ _ _ _ _ _ ra w => ⟨_, ra, fun H2 _ => w H2⟩) k1 f.side k2 (glB_ok f.scp k3) (chkE_ok a _ f.toFits k5).1 k4 (chkE_ok b _ f.toFits k6).1 k4'
        · cases h3
      | zip a b => cases h5
      | enum a =>
        unfold chkI at h3
        split at h3
        · split at h3
          · simp only [Bool.and_eq_true, decide_eq_true_eq] at h3
            obtain ⟨⟨⟨⟨k1, k2⟩, k3⟩, k4⟩, k5⟩ := h3
            exact s_forE (by simpa [isP, isE] using h5) f.own f.side.calm (i_enumF k1 f.side k2 (glB_ok f.scp k3) (chkE_ok a _ f.toFits k5).1 k4) hgT hbody h2
          · cases h3
        · cases h3
    · cases h
  | .whl n c b, x, h => by
    unfold chkS at h
    split at h
    · obtain ⟨h1, h2⟩ := Bool.and_eq_true_iff.mp h
      exact s_whl f.own (chkE_ok c _ f.toFits h1).2 (chkSs_ok f b _ h2)
    · cases h
  | .tri b, x, h => by
    unfold chkS at h
    split at h
    · exact s_tri (chkSs_ok (X := X.nox) f.nox b _ h)
    · cases h
  | .rse c fl es, x, h => by
    unfold chkS at h
    split at h
    · simp only [Bool.and_eq_true, decide_eq_true_eq] at h
      obtain ⟨⟨⟨⟨h1, h2⟩, h3⟩, h4⟩, h5⟩ := h
      subst h1
      obtain ⟨k1, k2⟩ := chkEs_ok _ _ f.toFits h5
      exact s_rse f.side h2 (glB_ok f.scp h3) (nmB_ok h4).1 k1 k2
    · cases h
  | .tre b ms n hh, x, h => by
    unfold chkS at h
    split at h
    · split at h
      · simp only [Bool.and_eq_true, decide_eq_true_eq] at h
        obtain ⟨⟨⟨⟨⟨⟨⟨h1, h2⟩, h3⟩, h4⟩, h5⟩, h6⟩, h7⟩, h8⟩ := h
        exact s_tre f.side f.n f.scp f.all f.stk f.frm h1 h2 h3 (fun W pn xe tk _ => (chkE_ok _ _ (f.tr tk) h4).1) h5 h6 h7 h8
      · cases h
    · cases h
theorem chkSs_ok {X : Cx} {wx : WX} (f : FitS X Φ T wx N sc) : ∀ (s : Ss) (xs : List Stmt), chkSs N T sc s xs = true → PSs X xs (tSs X Φ wx s)
  | .nil, xs, h => by
    unfold chkSs at h
    split at h
    · exact b_nil
    · cases h
  | .cons s r, xs, h => by
    unfold chkSs at h
    split at h
    · obtain ⟨h1, h2⟩ := Bool.and_eq_true_iff.mp h
      exact b_cons (chkS_ok f s _ h1) (chkSs_ok f r _ h2)
    · cases h
  | .frz is r, xs, h => by
    unfold chkSs at h
    exact b_frz (chkSs_ok f r xs h)
end
end
end Gm

/-! The deep layer, part H: functions, the program. -/
namespace Gm
open PySem PySem.Spec PyProof.Rows L2
section
variable {P : Program} {w : World} {K : PySem.W.Frag} {mg : Str → Option Value} {base : Heap}
theorem leave_plain {k : Nat} {r : Res Fl} {w : W} {s : Stt} (h : leaveW k r = .ok w s) : (∃ x, w = .d x) ∨ (∃ c, w = .new c) ∨ ∃ n, w = .loc n := by
  unfold leaveW at h
  split at h
  · cases h; exact .inl ⟨_, rfl⟩
  · cases h; exact .inl ⟨_, rfl⟩
  · cases h; exact .inr (.inl ⟨_, rfl⟩)
  · split at h
    · cases h; exact .inr (.inr ⟨_, rfl⟩)
    · split at h
      · cases h; exact .inr (.inl ⟨_, rfl⟩)
      · cases h
  · cases h
  · cases h
theorem plain_phi (fs : List Fn) : ∀ k, Plain (phi fs k)
  | 0 => fun f as st w s h => nomatch h
  | k + 1 => fun f as st w s h => by
    unfold phi at h
    split at h
    · unfold callF at h
      split at h
      · exact leave_plain h
      · cases h
    · cases h
/-- the frame at the entry -/
theorem start_rel {K : KW} {F : Addr → Prop} {β : List Addr} {Pb : Addr → Prop} {H : Hp} {vs : List V} {as : List W} {st : Stt} {N : List Str} (s : StOk K F β ⟨Pb, fun _ => False⟩ H st) (ra : RA K F β ⟨Pb, fun _ => False⟩ H vs as) :
    RelE K F β ⟨Pb, fun _ => False⟩ (as.map some ++ List.replicate (N.length - as.length) none) st (start N vs) H := by
  have hl : ∀ {vs : List V} {as : List W}, RA K F β ⟨Pb, fun _ => False⟩ H vs as → vs.length = as.length := by
    intro vs as h
    induction h with
    | nil => rfl
    | cons _ _ _ ih => rw [List.length_cons, List.length_cons, ih]
  have get : ∀ {vs : List V} {as : List W}, RA K F β ⟨Pb, fun _ => False⟩ H vs as → ∀ (i : Nat) (w : W), as[i]? = some w → ∃ v, vs[i]? = some v ∧ RepV K F β ⟨Pb, fun _ => False⟩ H v w ∧ ((∃ x, w = .d x) ∨ (∃ c, w = .bor c) ∨ (∃ n, w = .loc n) ∨ ∃ n, w = .fn n) := by
    intro vs as h
    induction h with
    | nil => intro i w e; simp at e
    | cons r1 r2 _ ih =>
      intro i w e
      cases i with
      | zero => simp at e; subst e; exact ⟨_, rfl, r1, r2⟩
      | succ i => simpa using ih i w (by simpa using e)
  have key : ∀ (i : Nat) (w : W), (as.map some ++ List.replicate (N.length - as.length) none)[i]? = some (some w) → as[i]? = some w := by
    intro i w e
    by_cases hi : i < as.length
    · rw [List.getElem?_append_left (by simpa using hi), List.getElem?_map] at e
      cases q : as[i]? with
      | none => rw [q] at e; cases e
      | some x => rw [q] at e; cases e; rfl
    · rw [List.getElem?_append_right (by simpa using hi), List.getElem?_replicate] at e
      split at e <;> cases e
  refine ⟨?_, fun i w h => ?_, fun i w h => ?_, fun i j c c' a h1 => ?_, s⟩
  · unfold L2.start
    simp only [List.length_append, List.length_map, List.length_replicate, hl ra]
  · have e := key i w h
    obtain ⟨v, h1, h2, _⟩ := get ra i w e
    refine ⟨v, ?_, h2⟩
    unfold L2.start
    rw [List.getElem?_append_left (by rw [List.length_map]; exact (List.getElem?_eq_some_iff.mp h1).1), List.getElem?_map, h1]
    rfl
  · obtain ⟨_, _, _, h3⟩ := get ra i w (key i w h)
    rcases h3 with ⟨x, rfl⟩ | ⟨c, rfl⟩ | ⟨n, rfl⟩ | ⟨n, rfl⟩ <;> exact ⟨fun _ e => (nomatch e), fun _ e => nomatch e⟩
  · obtain ⟨_, _, _, h3⟩ := get ra i _ (key i _ h1)
    rcases h3 with ⟨x, e⟩ | ⟨c, e⟩ | ⟨n, e⟩ | ⟨n, e⟩ <;> cases e
theorem stok_back {K : KW} {E : Ent} {F : Addr → Prop} {β : List Addr} {B : Bs} {H : Hp} {st : Stt} {n : Nat} (s : StOk K F β B H st) (S : Since E F β B H) (hn : E.β.length = n) : StOk K F E.β ⟨E.P, fun _ => False⟩ H (st.take n) where
  len := by
    obtain ⟨β1, e, _⟩ := S.pre
    have := s.len
    rw [e, List.length_append] at this
    rw [List.length_take]
    omega
  nd := by
    obtain ⟨β1, e, _⟩ := S.pre
    have := s.nd
    rw [e] at this
    exact (List.nodup_append.mp this).1
  nf := fun a h => s.nf a (S.sub h)
  ob := fun a h => by
    have h : E.P a := h.elim id False.elim
    obtain ⟨h1, h2, h3⟩ := s.ob a (.inl (by rw [S.bb]; exact h))
    exact ⟨fun z => h1 (S.sub z), h2, h3⟩
  ft := s.ft
  at_ := fun m a c e1 e2 => by
    obtain ⟨β1, e, _⟩ := S.pre
    have hm : m < E.β.length := (List.getElem?_eq_some_iff.mp e1).1
    have e1' : β[m]? = some a := by rw [e, List.getElem?_append_left hm]; exact e1
    rw [List.getElem?_take_of_lt (by omega)] at e2
    exact s.at_ m a c e1' e2 |>.keep ⟨fun _ h => h, fun _ _ h => h, fun _ _ _ h => h, fun _ _ _ h => h, fun _ _ _ => rfl⟩ rfl
/-- a def of the text, by its body, where no guard stands -/
theorem fn_ofG {k : Nat} {f : Addr} {name qual : Str} {params : Arguments} {body : List Stmt} {scope : Scope} {dV kV doc pm cdv ct oc : Value} {an od : Option Addr}
    {osl : Array (Option Value)} {N ps : List Str} {sp : Sp} (lk : K.lookup f = some ⟨oc, od, .func (PySem.W.fnOf name qual params body scope dV kV doc pm an cdv ct), osl⟩) (hcd : PySem.W.codeIn K cdv qual = true) (S : FnScope N ps scope)
    (len : ∀ vs H Q E, sp vs H Q E → vs.length = ps.length)
    (hbody : ∀ (A : Around) (outer : List Env) (s : Shared) (H : Hp) (vs : List V) (Q : VK) (E : XK), Room k (A.deeper (envOfC qual scope s.heap.objs.size f cdv)) → (A.deeper (envOfC qual scope s.heap.objs.size f cdv)).guards = some [] → sp vs H Q E →
      ∃ t, PSs (cxOf (CX P w) P w K mg base N qual scope f cdv A outer s H E) body t ∧ t { nx := fun _ H' => Q .non H', rt := Q } (start N vs) H) :
    FnG P w ⟨K, w, mg⟩ mg base (k + 1) f (PySem.W.fnOf name qual params body scope dV kV doc pm an cdv ct) ps sp := by
  refine ⟨len, fun A outer s H args us vs Q E hr hgu e0 hb r hsp => ?_⟩
  have hl := len _ _ _ _ hsp
  have KX : K.In s.heap := e0.mod.kin.keeps fun b o e => (e0.bs b o e).1
  refine codeAny_call_function hr.depth (KX _ _ lk) rfl S.co S.gen rfl (PySem.W.codeRec_of KX hcd) (hb _ _ _ _ ?_)
  refine wpAny_newFunctionEnv_cells S.kind (fun ⟨n, v⟩ hy => ?_) fun env he s1 x => ?_
  · rcases S.par n (List.of_mem_zip hy).1 with q | q
    · exact .inl q
    · exact .inr ⟨q, PySem.W.cellsFrom_some _ _ _ (.inl q)⟩
  subst he
  have lim : s.heap.NoLimit := e0.mod.nolimit.keeps fun b o e => (e0.bs b o e).1
  refine ⟨lim.keeps x.toInCall.keep, codeAny_func ?_⟩
  obtain ⟨t, ht, hq⟩ := hbody A outer s H vs Q E (hr.deeper _) hgu hsp
  have I : Inv (cxOf (CX P w) P w K mg base N qual scope f cdv A outer s H E) [] (start N vs) H s1 := inv_start S hr.hd e0 hl r x
  refine wpAny_mono (ht.run [] s1 (start N vs) H _ I hq) (fun fl s' hs => ?_) fun e s' hs => hs
  match fl, hs with
  | .ret u, ⟨v, σ', H', J, rv, q⟩ => exact ⟨v, H', J.os, J.bare, J.base, J.hok, rv, q⟩
  | .next, ⟨σ', H', J, q⟩ => exact ⟨.non, H', J.os, J.bare, J.base, J.hok, rfl, q⟩
  | .brk, ⟨_, _, _, q⟩ => exact False.elim q
  | .cont, ⟨_, _, _, q⟩ => exact False.elim q
/-- what is told of a def, no run in sight -/
structure DefOk (K : PySem.W.Frag) (mg : Str → Option Value) (T : Tb) (n : Str) (fn : Fn) : Prop where
  ex : ∃ (a : Addr) (name qual : Str) (params : Arguments) (body : List Stmt) (scope : Scope) (dV kV doc pm cdv ct oc : Value) (an od : Option Addr) (osl : Array (Option Value)) (ps : List Str),
    K.lookup a = some ⟨oc, od, .func (PySem.W.fnOf name qual params body scope dV kV doc pm an cdv ct), osl⟩ ∧ PySem.W.codeIn K cdv qual = true ∧ FnScope fn.N ps scope ∧ ps.length = fn.np ∧ chkSs fn.N T scope fn.body body = true ∧
    mg n = some (.ref a) ∧ PySem.W.keepIn K (.ref a) = true ∧ Binds K (PySem.W.fnOf name qual params body scope dV kV doc pm an cdv ct) ps []
structure ModOk (K : PySem.W.Frag) (mg : Str → Option Value) (T : Tb) (fs : List Fn) : Prop where
  co : ∀ n x, (n, x) ∈ T.co → ∃ (u : Value) (v : V), mg n = some u ∧ RelV v u ∧ ∀ w F H, Rp ⟨K, w, mg⟩ F H v x
  ab : ∀ n ∈ T.ab, mg n = none
  fn : ∀ n g, (n, g) ∈ T.fn → ∃ fn, fs[g]? = some fn ∧ DefOk K mg T n fn
  xc : ∀ c fl, (c, fl) ∈ T.xc → ∃ C, XcK K mg c fl C
  xr : ∀ c D b, (c, D, b) ∈ T.xr → XrK K mg c D b
theorem len_RA {K : KW} {F : Addr → Prop} {β : List Addr} {B : Bs} {H : Hp} : ∀ {vs : List V} {as : List W}, RA K F β B H vs as → vs.length = as.length := by
  intro vs as h
  induction h with
  | nil => rfl
  | cons _ _ _ ih => rw [List.length_cons, List.length_cons, ih]
theorem fns_ok {T : Tb} {fs : List Fn} (M : ModOk K mg T fs) : ∀ (k : Nat) (n : Str) (g : Nat), (n, g) ∈ T.fn → ∃ (a : Addr) (fd : FuncData) (ps : List Str), FnG P w ⟨K, w, mg⟩ mg base (k + 2) a fd ps (spOf ⟨K, w, mg⟩ mg (phi fs k g)) ∧ mg n = some (.ref a) ∧ PySem.W.keepIn K (.ref a) = true ∧ Binds K fd ps []
  | 0, n, g, hm => by
    obtain ⟨fn, e, ⟨a, name, qual, params, body, scope, dV, kV, doc, pm, cdv, ct, oc, an, od, osl, ps, h1, h2, h3, h4, h5, h6, h7, h8⟩⟩ := M.fn n g hm
    have no : ∀ vs H Q E, spOf ⟨K, w, mg⟩ mg (phi fs 0 g) vs H Q E → False := fun vs H Q E ⟨F, β, Pb, as, st, s, ra, h⟩ => h
    exact ⟨a, _, ps, ⟨fun vs H Q E h => (no _ _ _ _ h).elim, fun A outer s H args us vs Q E _ _ _ _ _ h => (no _ _ _ _ h).elim⟩, h6, h7, h8⟩
  | k + 1, n, g, hm => by
    obtain ⟨fn, e, ⟨a, name, qual, params, body, scope, dV, kV, doc, pm, cdv, ct, oc, an, od, osl, ps, h1, h2, h3, h4, h5, h6, h7, h8⟩⟩ := M.fn n g hm
    refine ⟨a, _, ps, fn_ofG h1 h2 h3 (fun vs H Q E h => ?_) (fun A outer s H vs Q E hr hgu h => ?_), h6, h7, h8⟩
    · obtain ⟨F, β, Pb, as, st, s, ra, h⟩ := h
      unfold phi at h
      simp only [e] at h
      unfold callF at h
      split at h
      · rename_i hc
        rw [len_RA ra, h4, hc.1]
      · exact h.elim
    · obtain ⟨F, β, Pb, as, st, so, ra, h⟩ := h
      unfold phi at h
      simp only [e] at h
      unfold callF at h
      split at h
      · rename_i hc
        have fit : FitS (cxOf (CX P w) P w K mg base fn.N qual scope a cdv A outer s H E) (phi fs k) T (fun c d _ H => E c d H) fn.N scope := {
          side := ⟨h3.nd, rfl, by have := hr.un; show (A.deeper _).units + 66 < _; omega, hgu, takes_of rfl rfl rfl rfl, plain_phi fs k, fun n x hx => (let ⟨u, v, q1, q2, q3⟩ := M.co n x hx; ⟨u, v, q1, q2, fun F H => q3 w F H⟩), fun n hn => M.ab n hn, fun n g hg => by
            obtain ⟨a', fd', ps', q1, q2, q3, q4⟩ := fns_ok M k n g hg
            exact ⟨a', fd', ps', k + 2, q1, hr, q2, q3, q4⟩, M.xc, M.xr, fun _ => hr.mono (by omega)⟩
          n := rfl
          scp := rfl
          all := fun _ => rfl
          own := passes_of rfl
          kind := h3.kind
          stk := rfl
          frm := rfl }
        refine ⟨_, chkSs_ok fit fn.body body h5, ?_⟩
        have hE : ∀ b, Pb b → b ∉ β ∧ H b ≠ none := fun b hb => ⟨(so.ob b (.inl hb)).1, (so.ob b (.inl hb)).2.2⟩
        refine ⟨⟨F, β, Pb, H, []⟩, F, β, ⟨Pb, fun _ => False⟩, _, st, ⟨start_rel so ra, ⟨Ext.refl, ⟨[], (List.append_nil _).symm, fun _ h => nomatch h⟩, rfl, hE, fun _ h => h.elim, fun _ h => nomatch h⟩⟩, ?_⟩
        cases q : semSs (phi fs k) fn.body (as.map some ++ List.replicate (fn.N.length - as.length) none) st with
        | bad => rw [q] at h; exact h
        | ex x s' =>
          rw [q] at h
          exact fun c d σ' H' F' β' B' s1 S1 q1 => h c d F' H' S1.ext (stok_back s1 S1 so.len) q1
        | ok fl s' =>
          rw [q] at h
          cases fl with
          | nx ρ =>
            exact fun σ' H' F' β' B' R' => h .non F' H' R'.since.ext (stok_back R'.rel.st R'.since so.len) ⟨.non, trivial⟩
          | rt w1 =>
            intro v H' F' β' B' s1 S1 q1
            have sb := stok_back s1 S1 so.len
            cases w1 with
            | d x => exact h v F' H' S1.ext sb ⟨q1, trivial⟩
            | new c =>
              obtain ⟨b, rfl, g1, g2, g3, g4⟩ := q1
              exact h _ F' H' S1.ext sb ⟨⟨b, rfl, g1, fun z => g3 (S1.sub z), g4⟩, fun y ey => by cases ey; exact g2⟩
            | loc m =>
              obtain ⟨b, rfl, g1⟩ := q1
              have h : Post ⟨K, w, mg⟩ mg β ⟨Pb, fun _ => False⟩ (RR ⟨K, w, mg⟩ β ⟨Pb, fun _ => False⟩) F H E (if m < st.length then .ok (.loc m) (s'.take st.length) else match s'[m]? with | some c => .ok (.new c) (s'.take st.length) | none => .bad) Q := h
              obtain ⟨β1, eb, eb2⟩ := S1.pre
              split at h
              · rename_i hm
                refine h _ F' H' S1.ext sb ⟨⟨b, rfl, ?_⟩, trivial⟩
                rw [eb, List.getElem?_append_left (by rw [so.len]; exact hm)] at g1
                exact g1
              · rename_i hm
                cases qc : s'[m]? with
                | none => rw [qc] at h; exact h.elim
                | some c =>
                  rw [qc] at h
                  have hb1 : b ∈ β1 := by
                    rw [eb, List.getElem?_append_right (by rw [so.len]; omega)] at g1
                    exact List.mem_of_getElem? g1
                  have hbn : b ∉ β := fun z => by
                    have nd := s1.nd
                    rw [eb] at nd
                    exact (List.nodup_append.mp nd).2.2 b z b hb1 rfl
                  have hm1 : b ∈ β' := by rw [eb]; exact List.mem_append_right _ hb1
                  refine h _ F' H' S1.ext sb ⟨⟨b, rfl, s1.at_ m b c g1 qc, hbn, s1.nf b hm1⟩, fun y ey => ?_⟩
                  cases ey
                  exact eb2 b hb1
            | bor c => exact q1.elim
            | own c => exact q1.elim
            | lent c => exact q1.elim
            | fn n => exact q1.elim
      · exact h.elim
end
end Gm

/-! The deep layer, part I: what the head tells; the law's call. -/
namespace Gm
open PySem PySem.Spec PyProof.Rows L2
section
variable {P : Program} {w : World} {K : PySem.W.Frag} {mg : Str → Option Value} {base : Heap}
/-! ### constants -/
mutual
def coB (K : PySem.W.Frag) : PyData → Value → Bool
  | .none, u => match u with | .none => true | _ => false
  | .bool b, u => match u with | .bool c => b == c | _ => false
  | .int i, u => match u with | .int j _ => decide (i = j) | _ => false
  | .str x, u => match u with | .str y _ => decide (x = y) | _ => false
  | .tuple ds, u => match u with
    | .ref a => match K.lookup a with
      | some ⟨.type c, none, .seq its _, _⟩ => decide (c = "tuple") && decide (its.size ≤ sizeLine) && coBs K ds its.toList
      | _ => false
    | _ => false
  | .list _, _ => false
  | .dict _, _ => false
def coBs (K : PySem.W.Frag) : List PyData → List Value → Bool
  | [], us => match us with | [] => true | _ => false
  | d :: ds, us => match us with | u :: us => coB K d u && coBs K ds us | _ => false
end
mutual
theorem coB_ok : ∀ (d : PyData) (u : Value), coB K d u = true → ∃ v, RelV v u ∧ ∀ w m F H, Rp ⟨K, w, m⟩ F H v d
  | .none, u, h => by
    unfold coB at h
    split at h
    · exact ⟨.non, rfl, fun _ _ _ _ => .non⟩
    · cases h
  | .bool b, u, h => by
    unfold coB at h
    split at h
    · rw [eq_of_beq h]; exact ⟨.bl _, rfl, fun _ _ _ _ => .bl _⟩
    · cases h
  | .int i, u, h => by
    unfold coB at h
    split at h
    · rw [of_decide_eq_true h]; exact ⟨.int _, ⟨_, rfl⟩, fun _ _ _ _ => .int _⟩
    · cases h
  | .str i, u, h => by
    unfold coB at h
    split at h
    · rw [of_decide_eq_true h]; exact ⟨.str _, ⟨_, rfl⟩, fun _ _ _ _ => .str _⟩
    · cases h
  | .tuple ds, u, h => by
    unfold coB at h
    split at h
    · rename_i a
      split at h
      · rename_i c its n sl e
        simp only [Bool.and_eq_true, decide_eq_true_eq] at h
        obtain ⟨⟨h1, h2⟩, h3⟩ := h
        subst h1
        obtain ⟨vs, g1, g2⟩ := coBs_ok ds its.toList h3
        exact ⟨.ref a, rfl, fun w m F H => .tup (.inr ⟨_, its, n, e, rfl, rfl, rfl, h2, g1⟩) (g2 w m F H)⟩
      · cases h
    · cases h
  | .list _, u, h => by unfold coB at h; cases h
  | .dict _, u, h => by unfold coB at h; cases h
theorem coBs_ok : ∀ (ds : List PyData) (us : List Value), coBs K ds us = true → ∃ vs, Vals vs us ∧ ∀ w m F H, RpAll ⟨K, w, m⟩ F H vs ds
  | [], us, h => by
    unfold coBs at h
    split at h
    · exact ⟨[], .nil, fun _ _ _ _ => .nil⟩
    · cases h
  | d :: ds, us, h => by
    unfold coBs at h
    split at h
    · obtain ⟨h1, h2⟩ := Bool.and_eq_true_iff.mp h
      obtain ⟨v, g1, g2⟩ := coB_ok d _ h1
      obtain ⟨vs, g3, g4⟩ := coBs_ok ds _ h2
      exact ⟨v :: vs, .cons g1 g3, fun w m F H => .cons (g2 w m F H) (g4 w m F H)⟩
    · cases h
end
def conB (K : PySem.W.Frag) (p : Str × PyData) : Bool := match PySem.W.nsIn K mainGlobals p.1 with
  | some (some u) => coB K p.2 u
  | _ => false
theorem conB_ok {h : Heap} (X : K.In h) (G : h.Ns mainGlobals mg) {p : Str × PyData} (c : conB K p = true) : ∃ (u : Value) (v : V), mg p.1 = some u ∧ RelV v u ∧ ∀ w F H, Rp ⟨K, w, mg⟩ F H v p.2 := by
  unfold conB at c
  split at c
  · rename_i u e
    obtain ⟨v, h1, h2⟩ := coB_ok _ _ c
    exact ⟨u, v, PySem.W.mg_of X G e, h1, fun w => h2 w mg⟩
  · cases c
theorem mem_lkp {a : Addr} {o : Obj} : ∀ {K : PySem.W.Frag}, K.lookup a = some o → (a, o) ∈ K
  | (b, u) :: K, h => by
    rw [List.lookup_cons] at h
    split at h
    · rename_i q
      cases h
      rw [eq_of_beq q]
      exact List.mem_cons_self
    · exact List.mem_cons_of_mem _ (mem_lkp h)
def noLst (K : PySem.W.Frag) : Bool := K.all fun p => match p.2.cls with | .type c => !decide (c = "list") | _ => true
theorem noLst_ok (c : noLst K = true) {a : Addr} {o : Obj} (e : K.lookup a = some o) : o.cls ≠ .type "list" := fun q => by
  have := List.all_eq_true.mp c (a, o) (mem_lkp e)
  rw [q] at this
  exact absurd this (by decide)
/-! ### the hook -/
abbrev FrB : Type := PySem.W.Frag → Bool
def noB : FrB := fun _ => true
def allM (fa : List He.Fa) (fn : List He.DefD) (co : List (Str × PyData)) (bx : FrB) (K : PySem.W.Frag) : Bool := (fa.all fun f => f.ok K) && (fn.all fun d => d.ok K) && (co.all fun p => conB K p) && noLst K && bx K
def obsM (n : Nat) (xa : List Addr) (fa : List He.Fa) (fn : List He.DefD) (co : List (Str × PyData)) (bx : FrB) (g : Addr → Option Obj) : He.AlD :=
  let K := He.frG g (He.asD g n ++ xa)
  (allM fa fn co bx K, fn.map fun d => He.fnW K d.at_)
def SaysM (fa : List He.Fa) (fn : List He.DefD) (co : List (Str × PyData)) (bx : FrB) (K : PySem.W.Frag) : Prop :=
  (allM fa fn co bx K, fn.map fun d => He.fnW K d.at_) = He.valD fn
def hookM (n : Nat) (xa : List Addr) (fa : List He.Fa) (fn : List He.DefD) (co : List (Str × PyData)) (bx : FrB) : PySem.W.Hook where
  α := He.AlD
  obs := fun s => obsM n xa fa fn co bx s.heap.get?
  val := fun _ => He.valD fn
  says := fun _ h => ∃ K : PySem.W.Frag, K.In h ∧ SaysM fa fn co bx K
  of := fun _ _ e => ⟨_, He.frG_in, e⟩
  keeps := fun _ _ _ ⟨K, hK, c⟩ k => ⟨K, PySem.W.Frag.In.keeps hK k, c⟩
theorem obsM_eq {n : Nat} {xa : List Addr} {fa : List He.Fa} {fn : List He.DefD} {co : List (Str × PyData)} {bx : FrB} {g : Addr → Option Obj} {s : Shared} (h : ∀ a, g a = s.heap.get? a) : obsM n xa fa fn co bx g = (hookM n xa fa fn co bx).obs s := by
  have e : g = s.heap.get? := funext h
  rw [e] <;> rfl
variable {fa : List He.Fa} {fn : List He.DefD} {co : List (Str × PyData)} {bx : FrB}
theorem SaysM.parts (c : SaysM fa fn co bx K) : He.SaysD fa fn K ∧ (∀ p ∈ co, conB K p = true) ∧ noLst K = true ∧ bx K = true := by
  have c1 : allM fa fn co bx K = true := congrArg (fun z : He.AlD => z.1) c
  unfold allM at c1
  have c2 : fn.map (fun d => He.fnW K d.at_) = fn.map He.DefD.val := congrArg (fun z : He.AlD => z.2) c
  simp only [Bool.and_eq_true] at c1
  obtain ⟨⟨⟨⟨h1, h2⟩, h3⟩, h4⟩, h5⟩ := c1
  refine ⟨?_, List.all_eq_true.mp h3, h4, h5⟩
  show ((fa.all fun f => f.ok K) && fn.all fun d => d.ok K, fn.map fun d => He.fnW K d.at_) = (true, fn.map He.DefD.val)
  rw [h1, h2, c2]
  rfl
/-- a def that the head told, its body checked -/
theorem defOk_of {T : Tb} {n x qual : Str} {params : Arguments} {body : List Stmt} {scope : Scope} {f : Addr} {fd : FuncData} {fn : Fn} {ps : List Str} (D : FunD K x qual params body scope [] [] f fd) (S : FnScope fn.N ps scope) (h4 : ps.length = fn.np) (h5 : chkSs fn.N T scope fn.body body = true) (h6 : mg n = some (.ref f))
    (hb : ∀ (kV doc pm : Value) (an : Option Addr) (cdv ct : Value) (us : List Value), us.length = ps.length → bindArgs (PySem.W.fnOf x qual params body scope .none kV doc pm an cdv ct) ⟨us, []⟩ = pure (ps.zip us)) : DefOk K mg T n fn := by
  obtain ⟨oc, od, dV, kV, doc, pm, an, cdv, ct, osl, rfl, lk, hcd, hD, hK⟩ := D.ex
  rcases hD with ⟨_, rfl⟩ | ⟨e, _⟩
  · exact ⟨f, x, qual, params, body, scope, .none, kV, doc, pm, cdv, ct, oc, an, od, osl, ps, lk, hcd, S, h4, h5, h6, D.kp, .all (hb kV doc pm an cdv ct)⟩
  · exact absurd rfl e
/-! ### classes -/
def oexB (K : PySem.W.Frag) (C : Addr) : Bool := (match K.lookup C with
  | some ⟨.type ty, _, .cls cd, sl⟩ => decide (ty = "type") && ((match cd.mro with
    | .ref C' :: bm => decide (C' = C) && PySem.HandSPX.refsVE bm
    | _ => false) && ((match sl.toList with
    | [_, _, _, _, some (.builtin nw), _] => decide (nw = "ValueError.__new__")
    | _ => false) && (!cd.hasDel && cd.hasDict)))
  | _ => false) && (He.eqO (PySem.W.findIn K (.ref C) "__setattr__") (some (some (.builtin "object.__setattr__"))) && (decide (PySem.W.subIn K (.ref C) (.type "BaseException") = some true) && (decide (PySem.W.typeIn K (.ref C) = some (.type "type")) && PySem.W.keepIn K (.ref C))))
theorem oexB_ok {C : Addr} (h : oexB K C = true) : OexC K C := by
  unfold oexB at h
  simp only [Bool.and_eq_true, decide_eq_true_eq] at h
  obtain ⟨h1, h2, h3, h4, h5⟩ := h
  refine ⟨?_, He.eqO_ok h2, h3, h4, h5⟩
  split at h1
  · rename_i ty dd cd sl e
    simp only [Bool.and_eq_true, decide_eq_true_eq, Bool.not_eq_true'] at h1
    obtain ⟨k1, k2, k3, k4, k5⟩ := h1
    split at k2
    · rename_i C' bm e2
      split at k3
      · rename_i a0 a1 a2 a3 nw a5 e3
        simp only [Bool.and_eq_true, decide_eq_true_eq] at k2
        obtain ⟨k6, k7⟩ := k2
        have k3 := of_decide_eq_true k3
        obtain ⟨nm, bs, mro, ns, qn, hd, sn, sub, ab, col, del⟩ := cd
        obtain ⟨sl⟩ := sl
        dsimp only at e2 e3 k4 k5
        subst k1 e2 k6 e3 k3 k4 k5
        exact ⟨nm, qn, ns, bs, bm, sn, sub, ab, col, dd, a0, a1, a2, a3, a5, e, k7⟩
      · cases k3
    · cases k2
  · cases h1
def kxB (K : PySem.W.Frag) (C : Addr) : Bool := xfB K C && ((PySem.W.clsIn K C).isSome && (He.eqO (PySem.W.findIn K (.ref C) "__class__") (some (some (.builtin "object.__class__"))) && (decide (PySem.W.specialIn K (.builtin "object.__class__") "__get__" = some (some (.builtin "getset_descriptor.__get__"))) &&
  (decide (PySem.W.takesIn K (.builtin "object.__class__") = some true) && (decide (PySem.W.mroIn K C (.type "object") = some true) && fieldsX.all fun f => He.eqO (PySem.W.findIn K (.ref C) f) (some none))))))
theorem kxB_ok {C : Addr} (h : kxB K C = true) : KxC K C := by
  unfold kxB at h
  simp only [Bool.and_eq_true, decide_eq_true_eq] at h
  obtain ⟨h1, h2, h3, h4, h5, h6, h7⟩ := h
  exact ⟨xfB_ok h1, h2, He.eqO_ok h3, h4, h5, h6, fun f hf => He.eqO_ok (List.all_eq_true.mp h7 f hf)⟩
def bseB (K : PySem.W.Frag) (G : Addr) : Bool := decide (PySem.W.specialIn K (.ref G) "__getattribute__" = some (some (.builtin "type.__getattribute__"))) && (PySem.W.readsIn K G (.type "type") && match PySem.W.findCls K (.ref G) (.type "type") "__init__" with
  | some (.val (.builtin x)) => decide (x = "ValueError.__init__")
  | _ => false)
theorem bseB_ok {G : Addr} (h : bseB K G = true) : BaseC K G := by
  unfold bseB at h
  simp only [Bool.and_eq_true, decide_eq_true_eq] at h
  obtain ⟨h1, h2, h3⟩ := h
  refine ⟨h1, h2, ?_⟩
  split at h3
  · rename_i x e
    rw [e, of_decide_eq_true h3]
  · cases h3
/-- class c, its base g -/
def clB (c g : Str) : FrB := fun K => He.eqO (PySem.W.nsIn K mainGlobals c) (some (some (.ref (He.ga K c)))) && (He.eqO (PySem.W.nsIn K mainGlobals g) (some (some (.ref (He.ga K g)))) && (oexB K (He.ga K c) && (kxB K (He.ga K c) && (bseB K (He.ga K g) &&
  (He.eqO (PySem.W.findIn K (.ref (He.ga K c)) "__init__") (some (some (.ref (He.ma K (He.ga K c) "__init__")))) && decide (PySem.W.typeIn K (.ref (He.ma K (He.ga K c) "__init__")) = some (.type "function")))))))
theorem xcK_of {h : Heap} (X : K.In h) (G : h.Ns mainGlobals mg) {c g x qual : Str} {fl : List Str} (cb : clB c g K = true) {params : Arguments} {body : List Stmt} {scope : Scope} {fd : FuncData} {N ps : List Str} (D : FunD K x qual params body scope [] [] (He.ma K (He.ga K c) "__init__") fd) (S : FnScope N ps scope)
    (hl : ps.length = fl.length + 1) (hps : N.length = ps.length) (hs : mg "str" = none) (hi : initB N scope fl g body = true) (hfl : (decide (fl.length ≤ 900) && fl.all fun f => fieldsX.contains f) = true)
    (hb : ∀ (kV doc pm : Value) (an : Option Addr) (cdv ct : Value) (us : List Value), us.length = ps.length → bindArgs (PySem.W.fnOf x qual params body scope .none kV doc pm an cdv ct) ⟨us, []⟩ = pure (ps.zip us)) : ∃ C, XcK K mg c fl C := by
  unfold clB at cb
  simp only [Bool.and_eq_true, decide_eq_true_eq] at cb
  obtain ⟨h1, h2, h3, h4, h5, h6, h7⟩ := cb
  obtain ⟨hf1, hf2⟩ := Bool.and_eq_true_iff.mp hfl
  have hf1 := of_decide_eq_true hf1
  have mc : mg c = some (.ref (He.ga K c)) := PySem.W.mg_of X G (He.eqO_ok h1)
  have mgg : mg g = some (.ref (He.ga K g)) := PySem.W.mg_of X G (He.eqO_ok h2)
  have hB : Binds K fd ps [] := by
    obtain ⟨oc, od, dV, kV, doc, pm, an, cdv, ct, osl, rfl, lk, hcd, hD, hK⟩ := D.ex
    rcases hD with ⟨_, rfl⟩ | ⟨e, _⟩
    · exact .all (hb kV doc pm an cdv ct)
    · exact absurd rfl e
  exact ⟨_, mc, oexB_ok h3, kxB_ok h4, hf1, fun f hf => List.contains_iff_mem.mp (List.all_eq_true.mp hf2 f hf), _, fd, ps, He.eqO_ok h6, h7, hB, fun P w base => fn_init D S hl hps hf1 hs mgg (bseB_ok h5) hi⟩
/-- class c against D: a class of the program, a class that is built in -/
def xrB (c D : Str) (b : Bool) : FrB := fun K => He.eqO (PySem.W.nsIn K mainGlobals c) (some (some (.ref (He.ga K c)))) && ((He.eqO (PySem.W.nsIn K mainGlobals D) (some (some (.ref (He.ga K D)))) && (decide (PySem.W.exmOne K (.ref (He.ga K c)) (.ref (He.ga K D)) = some b) && (decide (PySem.W.kitOne K (.ref (He.ga K c)) (.ref (He.ga K D)) = some b) && !(D == ("__debug__" : Str))))) ||
  (decide (D = "ValueError") && (He.eqO (PySem.W.nsIn K mainGlobals D) (some none) && (decide (PySem.W.exmOne K (.ref (He.ga K c)) (.type "ValueError") = some b) && decide (PySem.W.kitOne K (.ref (He.ga K c)) (.type "ValueError") = some b)))))
theorem xrK_of {h : Heap} (X : K.In h) (G : h.Ns mainGlobals mg) {c D : Str} {b : Bool} (cb : xrB c D b K = true) : XrK K mg c D b := by
  unfold xrB at cb
  simp only [Bool.and_eq_true, Bool.or_eq_true, decide_eq_true_eq, Bool.not_eq_true'] at cb
  obtain ⟨h1, ⟨h2, h3, h4, h5⟩ | ⟨h2, h3, h4, h5⟩⟩ := cb
  · exact ⟨_, .ref (He.ga K D), .ref (He.ga K D), PySem.W.mg_of X G (He.eqO_ok h1), ⟨rfl, fun u' h => h, h5, .inl (PySem.W.mg_of X G (He.eqO_ok h2))⟩, h3, h4⟩
  · subst h2
    exact ⟨_, .ty "ValueError", .type "ValueError", PySem.W.mg_of X G (He.eqO_ok h1), ⟨rfl, fun u' h => h, by decide +kernel, .inr ⟨PySem.W.mg_none_of X G (He.eqO_ok h3), by first | rfl | kernel_rfl, by decide +kernel⟩⟩, h4, h5⟩
/-! ### the law's call -/
theorem rp_ints {K : KW} {F : Addr → Prop} {H : Hp} : ∀ ns : List Int, RpAll K F H (ns.map V.int) (ns.map PyData.int)
  | [] => .nil
  | n :: ns => .cons (.int n) (rp_ints ns)
theorem law_callG {mb : Str → Option Value} {k : Nat} {fa a : Addr} {φ : List W → Stt → Res W} {s₁ : Shared} {vs : List Value} {ns : List Int}
    (KX : K.In s₁.heap) (hns : s₁.heap.Ns mainGlobals mg) (hb : s₁.heap.Ns builtinsNs mb) (hbb : ∀ x : Str, x ≠ "__name__" → mb x = bootBuiltins x) (hlim : s₁.heap.NoLimit) (hg : s₁.gens = #[])
    (ha : s₁.heap.get? a = some { cls := .type "list", data := .seq vs.toArray }) (hi : IntsAre vs ns) (hl : ns.length ≤ sizeLine) (hr : Room k callerA)
    (F : ∀ base : Heap, ∃ (fd : FuncData) (ps : List Str), FnG P w ⟨K, w, mg⟩ mg base k fa fd ps (spOf ⟨K, w, mg⟩ mg φ) ∧ Binds K fd ps []) (hk : K.lookup a = none)
    (hφ : ∃ st, φ [.d (.list (ns.map PyData.int))] [] = .ok (.d (.bool true)) st) :
    codeAny (model P w) callerA (.call (.ref fa) ⟨[.ref a], []⟩) (fun r s' => r = .ok (.ret (.bool true)) ∧ OldK s₁.heap s'.heap ∧ s'.os = s₁.os ∧ AllBare s'.gens) s₁ := by
  have rv := vals_ints hi
  let ob : Obj := { cls := .type "list", data := .seq vs.toArray }
  let H : Hp := fun b => if b = a then some (.frz ob (.lst (ns.map V.int))) else none
  have Ha : H a = some (.frz ob (.lst (ns.map V.int))) := if_pos rfl
  have Hn : ∀ {b}, b ≠ a → H b = none := fun h => if_neg h
  have hA : ∀ b u, H b = some u → b = a := fun b u z => by
    by_cases e : b = a
    · exact e
    · rw [Hn e] at z; cases z
  have hok : HOk P w H s₁.heap := fun b u z => by
    cases hA b u z
    rw [Ha] at z
    cases z
    exact ⟨ha, by rw [List.length_map]; exact hl, vs, _, rv, ha⟩
  have keepB : ∀ {b : Addr} {o : Obj}, s₁.heap.get? b = some o → b ≠ a → (hidT s₁.heap H).get? b = some o := fun e n => hidT_get e (Hn n)
  have nsK : ∀ {b : Addr} {m : Str → Option Value}, s₁.heap.Ns b m → (hidT s₁.heap H).Ns b m := fun {b m} ⟨o, es, ep, e, d, r⟩ => by
    refine ⟨o, es, ep, keepB e fun eq => ?_, d, r⟩
    subst eq
    rw [ha] at e
    cases e
    cases d
  have hKb : K.In (hidT s₁.heap H) := fun b o e => keepB (KX b o e) fun eq => by
    subst eq
    rw [hk] at e
    cases e
  have hM : Mod K mg (hidT s₁.heap H) := ⟨hKb, nsK hns, ⟨mb, nsK hb, hbb⟩, let ⟨mc, h1, h2⟩ := hlim; ⟨mc, nsK h1, h2⟩⟩
  have e0 : Env0 P w K mg (hidT s₁.heap H) callerA [] s₁ H := ⟨rfl, hM, fun b o e => of_hidT e, Nat.le_of_eq (hidT_size _ _), trivial, fun b hb => absurd (show b ∈ ([] : List Addr) from hb) (by simp), hok, .of_eq hg⟩
  obtain ⟨st, hst⟩ := hφ
  have hsp : spOf ⟨K, w, mg⟩ mg φ [.ref a] H (fun v _ => v = .bl true) fun _ _ _ => False := by
    refine ⟨fun b => b = a, [], fun _ => False, [.d (.list (ns.map PyData.int))], [], ⟨rfl, List.nodup_nil, (fun _ h => nomatch h), (fun _ h => h.elim False.elim False.elim), (fun b hb => ?_), (fun n b c e1 _ => by rw [List.getElem?_nil] at e1; cases e1)⟩, .cons (.lst (.inr ⟨ob, Ha⟩) rfl (rp_ints ns)) (.inl ⟨_, rfl⟩) .nil, ?_⟩
    · cases hb; rw [Ha]; exact fun z => nomatch z
    · rw [hst]
      intro v F' H' _ _ r
      have := r.1
      cases this
      rfl
  obtain ⟨fd, ps, G, hbind⟩ := F (hidT s₁.heap H)
  have hlen : ([.ref a] : List Value).length = ps.length := G.len _ _ _ _ hsp
  have hbd : BindsTo s₁ fd ⟨[.ref a], []⟩ (ps.zip [.ref a]) := by
    have := hbind s₁ [.ref a] KX (by simpa using hlen)
    simpa using this
  refine codeAny_mono (G.run callerA [] s₁ H ⟨[.ref a], []⟩ [.ref a] [.ref a] _ _ hr rfl e0 hbd (.cons rfl .nil) hsp) fun r s' h => ?_
  match r, h with
  | .error e, ⟨_, _, _, _, _, _, _, _, _, _, _, _, z⟩ => exact z.elim
  | .ok (.ret u), ⟨v, H', os, bare, un, hok', r', q⟩ =>
    have q' : v = .bl true := q
    subst q'
    obtain rfl : u = Value.bool true := r'
    refine ⟨rfl, OldK.of_keep fun b o e => ?_, os, bare⟩
    by_cases eb : b = a
    · subst eb
      have z2 := un.frzs b ob _ Ha
      obtain ⟨e2, _⟩ := hok' b _ z2
      rw [ha] at e
      cases e
      exact e2
    · exact un.keep b o e (Hn eb) (by intro z; exact absurd (show b ∈ ([] : List Addr) from z) (by simp)) (by simp)
  | .ok .next, h => exact False.elim h
  | .ok .brk, h => exact False.elim h
  | .ok .cont, h => exact False.elim h
theorem walk_ofG {l : PySem.W.OpenLaw} {n k : Nat} {xa : List Addr} {q : Program} {loose : List Str} {XP : (Str → Option Value) → Heap → Prop} {d : DefRec} {N : Nat} {T : Tb} {fs : List Fn} {g : Nat}
    (hn : l.most = some n) (hn2 : n ≤ sizeLine) (hdf : d.params.defaults = []) (hr : Room (k + 2) callerA) (hm : (d.name, g) ∈ T.fn)
    (M : ∀ (K : PySem.W.Frag) (mg : Str → Option Value) (h : Heap), K.In h → h.Ns mainGlobals mg → SaysM fa fn co bx K → ModOk K mg T fs)
    (hφ : ∀ ns : List Int, ns.length ≤ n → (∀ z ∈ ns, Builtin.Int.intBits z ≤ 1048576) → ∃ st, phi fs k g [.d (.list (ns.map PyData.int))] [] = .ok (.d (.bool true)) st) :
    PySem.W.WalkO q loose XP (hookM N xa fa fn co bx).says l.row.toRowW d [] (fun f vs => PySem.call f vs) := by
  refine Att.attach_callB hn hdf fun w s₀ s₁ mg mb fa' o pm cd doc a vs ns G Y ho hd hcd hmg hobj hints hlen hbits hg => ?_
  obtain ⟨K, KX, c⟩ := Y
  have MO := M K mg _ KX G.T.g c
  have hk : K.lookup a = none := by
    cases e : K.lookup a with
    | none => rfl
    | some o =>
      have := KX a o e
      rw [hobj] at this
      cases this
      exact absurd rfl (noLst_ok c.parts.2.2.1 e)
  refine law_callG KX G.T.g G.T.b G.T.builtins G.T.nolimit hg hobj hints (Nat.le_trans hlen hn2) hr (fun base => ?_) hk (hφ ns hlen hbits)
  obtain ⟨a', fd', ps', q1, q2, q3, q4⟩ := fns_ok (P := l.prog) (w := w) (base := base) MO k d.name g hm
  rw [hmg] at q2
  cases q2
  exact ⟨fd', ps', q1, q4⟩
end
end Gm

/-! Plain facts of the semantics: evaluation by rewriting, from the left, no work under a binder. -/
namespace Gm
open PySem PySem.Spec PyProof.Rows L2
section
variable {Φ : Phi} {ρ : Rho} {st s s1 : Stt}
def varR : Option (Option W) → Stt → Res W
  | some (some (.own c)), st => .ok (.lent c) st
  | some (some w), st => .ok w st
  | _, _ => .bad
theorem sem_var (i : Nat) : sem Φ (.var i) ρ st = varR ρ[i]? st := by
  rw [sem]
  unfold varR
  split <;> simp_all
theorem varR_d (x : PyData) : varR (some (some (.d x))) st = .ok (.d x) st := rfl
theorem varR_own (c : C) : varR (some (some (.own c))) st = .ok (.lent c) st := rfl
theorem varR_bor (c : C) : varR (some (some (.bor c))) st = .ok (.bor c) st := rfl
theorem varR_loc (n : Nat) : varR (some (some (.loc n))) st = .ok (.loc n) st := rfl
theorem varR_fn (n : Str) : varR (some (some (.fn n))) st = .ok (.fn n) st := rfl
theorem sem_con (x : PyData) : sem Φ (.con x) ρ st = .ok (.d x) st := by rw [sem]
theorem sem_glo (n : Str) (x : PyData) : sem Φ (.glo n x) ρ st = .ok (.d x) st := by rw [sem]
-- readings
def rdk1 (st : Stt) (k : PyData → Option W) : Option PyData → Res W
  | some x => Res.ofO st (k x)
  | none => .bad
def rdk2 (st : Stt) (k : PyData → PyData → Option W) : Option PyData → Option PyData → Res W
  | some x, some y => Res.ofO st (k x y)
  | _, _ => .bad
theorem rd1_k (w : W) (k : PyData → Option W) : rd1 w st k = rdk1 st k (w.rd st) := by
  unfold rd1
  cases w.rd st <;> rfl
theorem rd2_k (w u : W) (k : PyData → PyData → Option W) : rd2 w u st k = rdk2 st k (w.rd st) (u.rd st) := by
  unfold rd2
  cases w.rd st <;> cases u.rd st <;> rfl
theorem rdk1_s (k : PyData → Option W) (x : PyData) : rdk1 st k (some x) = Res.ofO st (k x) := rfl
theorem rdk2_s (k : PyData → PyData → Option W) (x y : PyData) : rdk2 st k (some x) (some y) = Res.ofO st (k x y) := rfl
theorem rd_d (x : PyData) : W.rd st (.d x) = some x := rfl
theorem rd_new (xs : List PyData) : W.rd st (.new (.lst xs)) = some (.list xs) := rfl
theorem rd_bor (xs : List PyData) : W.rd st (.bor (.lst xs)) = some (.list xs) := rfl
theorem rd_lent (xs : List PyData) : W.rd st (.lent (.lst xs)) = some (.list xs) := rfl
theorem rd_loc (n : Nat) : W.rd st (.loc n) = (st[n]?).map C.dat := rfl
theorem dat_lst (xs : List PyData) : C.dat (.lst xs) = .list xs := rfl
theorem py_d (x : PyData) : W.py (.d x) = some x := rfl
theorem py_new (xs : List PyData) : W.py (.new (.lst xs)) = some (.list xs) := rfl
theorem arg_d (x : PyData) : W.arg (.d x) = some (.d x) := rfl
theorem arg_new (xs : List PyData) : W.arg (.new (.lst xs)) = some (.d (.list xs)) := rfl
theorem arg_bor (c : C) : W.arg (.bor c) = some (.bor c) := rfl
theorem arg_lent (c : C) : W.arg (.lent c) = some (.bor c) := rfl
theorem arg_loc (n : Nat) : W.arg (.loc n) = some (.loc n) := rfl
theorem arg_fn (n : Str) : W.arg (.fn n) = some (.fn n) := rfl
theorem argAll_nil : argAll [] = some [] := rfl
theorem argAll_cons (w : W) (r : List W) (a : W) (as : List W) (h : w.arg = some a) (h2 : argAll r = some as) : argAll (w :: r) = some (a :: as) := by
  unfold argAll
  rw [h, h2]
  rfl
-- argument lists, by their continuation
def kEs (Φ : Phi) (r : Es) (ρ : Rho) : W → Stt → Res (List W) := fun x s => (sems Φ r ρ s).bind fun xs s2 => .ok (x :: xs) s2
def kPut (x : W) : List W → Stt → Res (List W) := fun xs s => .ok (x :: xs) s
theorem sems_nil : sems Φ .nil ρ st = .ok [] st := by rw [sems]
theorem sems_cons (e : E) (r : Es) : sems Φ (.cons e r) ρ st = (sem Φ e ρ st).bind (kEs Φ r ρ) := by rw [sems]; rfl
theorem kEs_a (r : Es) (x : W) : kEs Φ r ρ x s = (sems Φ r ρ s).bind (kPut x) := rfl
theorem kPut_a (x : W) (xs : List W) : kPut x xs s = .ok (x :: xs) s := rfl
-- operators
def kBin (Φ : Phi) (o : BO) (b : E) (ρ : Rho) : W → Stt → Res W := fun x s => (sem Φ b ρ s).bind fun y s2 => rd2 x y s2 (binD o)
def kBin2 (o : BO) (x : W) : W → Stt → Res W := fun y s => rd2 x y s (binD o)
theorem sem_bin (o : BO) (a b : E) : sem Φ (.bin o a b) ρ st = (sem Φ a ρ st).bind (kBin Φ o b ρ) := by rw [sem]; rfl
theorem kBin_a (o : BO) (b : E) (x : W) : kBin Φ o b ρ x s = (sem Φ b ρ s).bind (kBin2 o x) := rfl
theorem kBin2_a (o : BO) (x y : W) : kBin2 o x y s = rdk2 s (binD o) (x.rd s) (y.rd s) := rd2_k _ _ _
def negK : PyData → Option W := fun x => (intOf x).map fun i => .d (.int (-i))
def kNeg : W → Stt → Res W := fun x s => rd1 x s negK
theorem sem_neg (a : E) : sem Φ (.neg a) ρ st = (sem Φ a ρ st).bind kNeg := by rw [sem]; rfl
theorem kNeg_a (x : W) : kNeg x s = rdk1 s negK (x.rd s) := rd1_k _ _
theorem negK_i (i : Int) : negK (.int i) = some (.d (.int (-i))) := rfl
def truR (st : Stt) : Option PyData → Res Bool
  | some x => Res.ofO st (truthD x)
  | none => .bad
theorem truth_k (w : W) : truth w st = truR st (w.rd st) := by
  unfold truth truR
  cases w.rd st <;> rfl
theorem truR_b (b : Bool) : truR st (some (.bool b)) = .ok b st := rfl
theorem truR_i (i : Int) : truR st (some (.int i)) = .ok (i != 0) st := rfl
theorem truR_l (xs : List PyData) : truR st (some (.list xs)) = .ok (!xs.isEmpty) st := rfl
theorem truR_t (xs : List PyData) : truR st (some (.tuple xs)) = .ok (!xs.isEmpty) st := rfl
theorem truR_n : truR st (some .none) = .ok false st := rfl
def kNot : W → Stt → Res W := fun x s => (truth x s).bind fun b s2 => .ok (.d (.bool (!b))) s2
def kNot2 : Bool → Stt → Res W := fun b s => .ok (.d (.bool (!b))) s
theorem sem_nt (a : E) : sem Φ (.nt a) ρ st = (sem Φ a ρ st).bind kNot := by rw [sem]; rfl
theorem kNot_a (x : W) : kNot x s = (truR s (x.rd s)).bind kNot2 := by show (truth x s).bind _ = _; rw [truth_k]; rfl
theorem kNot2_a (b : Bool) : kNot2 b s = .ok (.d (.bool (!b))) s := rfl
def kAn (Φ : Phi) (b : E) (ρ : Rho) : W → Stt → Res W := fun x s => bsel x (sem Φ b ρ s) (.ok (.d (.bool false)) s)
def kOo (Φ : Phi) (b : E) (ρ : Rho) : W → Stt → Res W := fun x s => bsel x (.ok (.d (.bool true)) s) (sem Φ b ρ s)
/-- and: the second part where the first is true; kept whole while the first is not known -/
def anS (Φ : Phi) (b : E) (ρ : Rho) (s : Stt) : Bool → Res W
  | true => sem Φ b ρ s
  | false => .ok (.d (.bool false)) s
def ooS (Φ : Phi) (b : E) (ρ : Rho) (s : Stt) : Bool → Res W
  | false => sem Φ b ρ s
  | true => .ok (.d (.bool true)) s
theorem sem_an (a b : E) : sem Φ (.an a b) ρ st = (sem Φ a ρ st).bind (kAn Φ b ρ) := by rw [sem]; rfl
theorem sem_oo (a b : E) : sem Φ (.oo a b) ρ st = (sem Φ a ρ st).bind (kOo Φ b ρ) := by rw [sem]; rfl
theorem kAn_a (b : E) (t : Bool) : kAn Φ b ρ (.d (.bool t)) s = anS Φ b ρ s t := by cases t <;> rfl
theorem kOo_a (b : E) (t : Bool) : kOo Φ b ρ (.d (.bool t)) s = ooS Φ b ρ s t := by cases t <;> rfl
theorem anS_t (b : E) : anS Φ b ρ s true = sem Φ b ρ s := rfl
theorem anS_f (b : E) : anS Φ b ρ s false = .ok (.d (.bool false)) s := rfl
theorem ooS_t (b : E) : ooS Φ b ρ s true = .ok (.d (.bool true)) s := rfl
theorem ooS_f (b : E) : ooS Φ b ρ s false = sem Φ b ρ s := rfl
def cmpK (o : CO) : PyData → PyData → Option W := fun x y => toB (cmpD o x y)
def kCmp (Φ : Phi) (o : CO) (b : E) (ρ : Rho) : W → Stt → Res W := fun x s => (sem Φ b ρ s).bind fun y s2 => rd2 x y s2 (cmpK o)
def kCmp2 (o : CO) (x : W) : W → Stt → Res W := fun y s => rd2 x y s (cmpK o)
theorem sem_cmp (o : CO) (a b : E) : sem Φ (.cmp o a b) ρ st = (sem Φ a ρ st).bind (kCmp Φ o b ρ) := by rw [sem]; rfl
theorem kCmp_a (o : CO) (b : E) (x : W) : kCmp Φ o b ρ x s = (sem Φ b ρ s).bind (kCmp2 o x) := rfl
theorem kCmp2_a (o : CO) (x y : W) : kCmp2 o x y s = rdk2 s (cmpK o) (x.rd s) (y.rd s) := rd2_k _ _ _
theorem cmpK_lt (i j : Int) : cmpK .lt (.int i) (.int j) = some (.d (.bool (decide (i < j)))) := rfl
theorem cmpK_le (i j : Int) : cmpK .le (.int i) (.int j) = some (.d (.bool (decide (i ≤ j)))) := rfl
theorem cmpK_gt (i j : Int) : cmpK .gt (.int i) (.int j) = some (.d (.bool (decide (j < i)))) := rfl
theorem cmpK_ge (i j : Int) : cmpK .ge (.int i) (.int j) = some (.d (.bool (decide (j ≤ i)))) := rfl
def chS (Φ : Phi) (p : CO) (c : E) (ρ : Rho) (y : W) (s : Stt) : Bool → Res W
  | true => (sem Φ c ρ s).bind (kCmp2 p y)
  | false => .ok (.d (.bool false)) s
def kChn (Φ : Phi) (o p : CO) (b c : E) (ρ : Rho) : W → Stt → Res W := fun x s1 => (sem Φ b ρ s1).bind fun y s2 => (rd2 x y s2 fun x y => toB (cmpD o x y)).bind fun r s3 => bsel r ((sem Φ c ρ s3).bind fun z s4 => rd2 y z s4 fun x y => toB (cmpD p x y)) (.ok (.d (.bool false)) s3)
def kChn2 (Φ : Phi) (o p : CO) (c : E) (ρ : Rho) (x : W) : W → Stt → Res W := fun y s2 => (rd2 x y s2 (cmpK o)).bind fun r s3 => bsel r ((sem Φ c ρ s3).bind fun z s4 => rd2 y z s4 (cmpK p)) (.ok (.d (.bool false)) s3)
def kChn3 (Φ : Phi) (p : CO) (c : E) (ρ : Rho) (y : W) : W → Stt → Res W := fun r s3 => bsel r ((sem Φ c ρ s3).bind fun z s4 => rd2 y z s4 (cmpK p)) (.ok (.d (.bool false)) s3)
theorem sem_chn (o p : CO) (a b c : E) : sem Φ (.chn o p a b c) ρ st = (sem Φ a ρ st).bind (kChn Φ o p b c ρ) := by rw [sem]; rfl
theorem kChn_a (o p : CO) (b c : E) (x : W) : kChn Φ o p b c ρ x s = (sem Φ b ρ s).bind (kChn2 Φ o p c ρ x) := rfl
theorem kChn2_a (o p : CO) (c : E) (x y : W) : kChn2 Φ o p c ρ x y s = (rdk2 s (cmpK o) (x.rd s) (y.rd s)).bind (kChn3 Φ p c ρ y) := by show (rd2 x y s _).bind _ = _; rw [rd2_k]; rfl
theorem kChn3_a (p : CO) (c : E) (y : W) (t : Bool) : kChn3 Φ p c ρ y (.d (.bool t)) s = chS Φ p c ρ y s t := by cases t <;> rfl
theorem chS_t (p : CO) (c : E) (y : W) : chS Φ p c ρ y s true = (sem Φ c ρ s).bind (kCmp2 p y) := rfl
theorem chS_f (p : CO) (c : E) (y : W) : chS Φ p c ρ y s false = .ok (.d (.bool false)) s := rfl
def selE (Φ : Phi) (a b : E) (ρ : Rho) (s : Stt) : Bool → Res W
  | true => sem Φ a ρ s
  | false => sem Φ b ρ s
def kIte (Φ : Phi) (a b : E) (ρ : Rho) : W → Stt → Res W := fun x s => (truth x s).bind fun t s2 => if t then sem Φ a ρ s2 else sem Φ b ρ s2
def kIte2 (Φ : Phi) (a b : E) (ρ : Rho) : Bool → Stt → Res W := fun t s2 => if t then sem Φ a ρ s2 else sem Φ b ρ s2
theorem sem_ite (c a b : E) : sem Φ (.ite c a b) ρ st = (sem Φ c ρ st).bind (kIte Φ a b ρ) := by rw [sem]; rfl
theorem kIte_a (a b : E) (x : W) : kIte Φ a b ρ x s = (truR s (x.rd s)).bind (kIte2 Φ a b ρ) := by show (truth x s).bind _ = _; rw [truth_k]; rfl
theorem kIte2_a (a b : E) (t : Bool) : kIte2 Φ a b ρ t s = selE Φ a b ρ s t := by cases t <;> rfl
theorem selE_t (a b : E) : selE Φ a b ρ s true = sem Φ a ρ s := rfl
theorem selE_f (a b : E) : selE Φ a b ρ s false = sem Φ b ρ s := rfl
-- displays, items
def tupK (ws : List W) : Option W := (pyAll ws).bind fun xs => if xs.length ≤ lineN then some (.d (.tuple xs)) else none
def lstK (ws : List W) : Option W := (pyAll ws).bind fun xs => if xs.length ≤ lineN then some (.new (.lst xs)) else none
def kTup : List W → Stt → Res W := fun ws s => Res.ofO s (tupK ws)
def kLst : List W → Stt → Res W := fun ws s => Res.ofO s (lstK ws)
theorem sem_tup (es : Es) : sem Φ (.tup es) ρ st = (sems Φ es ρ st).bind kTup := by rw [sem]; rfl
theorem sem_lst (es : Es) : sem Φ (.lst es) ρ st = (sems Φ es ρ st).bind kLst := by rw [sem]; rfl
theorem kTup_a (ws : List W) : kTup ws s = Res.ofO s (tupK ws) := rfl
theorem kLst_a (ws : List W) : kLst ws s = Res.ofO s (lstK ws) := rfl
theorem pyAll_nil : pyAll [] = some [] := rfl
theorem pyAll_cons (w : W) (r : List W) : pyAll (w :: r) = w.py.bind fun x => (pyAll r).map (x :: ·) := rfl
def idxK : PyData → PyData → Option W := fun x y => (idxD x y).map .d
def kIdx (Φ : Phi) (b : E) (ρ : Rho) : W → Stt → Res W := fun x s => (sem Φ b ρ s).bind fun y s2 => rd2 x y s2 idxK
def kIdx2 (x : W) : W → Stt → Res W := fun y s => rd2 x y s idxK
theorem sem_idx (a b : E) : sem Φ (.idx a b) ρ st = (sem Φ a ρ st).bind (kIdx Φ b ρ) := by rw [sem]; rfl
theorem kIdx_a (b : E) (x : W) : kIdx Φ b ρ x s = (sem Φ b ρ s).bind (kIdx2 x) := rfl
theorem kIdx2_a (x y : W) : kIdx2 x y s = rdk2 s idxK (x.rd s) (y.rd s) := rd2_k _ _ _
theorem idxK_l (xs : List PyData) (i : Int) : idxK (.list xs) (.int i) = (atI xs i).map .d := rfl
theorem idxK_t (xs : List PyData) (i : Int) : idxK (.tuple xs) (.int i) = (atI xs i).map .d := rfl
-- slices
def slK (st : Stt) (lo hi : Option Int) : Option PyData → Res W
  | some x => Res.ofO st (slcD x lo hi)
  | none => .bad
def kPart : List W → Stt → Res (Option Int) := fun l s => Res.ofO s (partD s l)
def kSlc (Φ : Phi) (lo hi : Es) (ρ : Rho) : W → Stt → Res W := fun x s1 => ((sems Φ lo ρ s1).bind fun l s => Res.ofO s (partD s l)).bind fun lo s2 => ((sems Φ hi ρ s2).bind fun l s => Res.ofO s (partD s l)).bind fun hi s3 => Res.ofO s3 ((x.rd s3).bind fun x => slcD x lo hi)
def kSlc2 (Φ : Phi) (hi : Es) (ρ : Rho) (x : W) : Option Int → Stt → Res W := fun lo s2 => ((sems Φ hi ρ s2).bind fun l s => Res.ofO s (partD s l)).bind fun hi s3 => Res.ofO s3 ((x.rd s3).bind fun x => slcD x lo hi)
def kSlc3 (x : W) (lo : Option Int) : Option Int → Stt → Res W := fun hi s3 => Res.ofO s3 ((x.rd s3).bind fun x => slcD x lo hi)
theorem sem_slc (a : E) (lo hi : Es) : sem Φ (.slc a lo hi) ρ st = (sem Φ a ρ st).bind (kSlc Φ lo hi ρ) := by rw [sem]; rfl
theorem kSlc_a (lo hi : Es) (x : W) : kSlc Φ lo hi ρ x s = ((sems Φ lo ρ s).bind kPart).bind (kSlc2 Φ hi ρ x) := rfl
theorem kSlc2_a (hi : Es) (x : W) (lo : Option Int) : kSlc2 Φ hi ρ x lo s = ((sems Φ hi ρ s).bind kPart).bind (kSlc3 x lo) := rfl
theorem kSlc3_a (x : W) (lo hi : Option Int) : kSlc3 x lo hi s = slK s lo hi (x.rd s) := by
  show Res.ofO s _ = _
  cases x.rd s <;> rfl
theorem slK_l (xs : List PyData) (lo hi : Option Int) : slK st lo hi (some (.list xs)) = .ok (.new (.lst (cutD xs lo hi))) st := rfl
theorem slK_t (xs : List PyData) (lo hi : Option Int) : slK st lo hi (some (.tuple xs)) = .ok (.d (.tuple (cutD xs lo hi))) st := rfl
theorem slK_s (x : Str) (lo hi : Option Int) : slK st lo hi (some (.str x)) = Res.ofO st (if x.length ≤ lineN then some (.d (.str (cutS x lo hi))) else none) := rfl
theorem kPart_n : kPart [] s = .ok none s := rfl
theorem kPart_i (i : Int) : kPart [.d (.int i)] s = .ok (some i) s := rfl
def kSset : W → Stt → Res W := fun x s => rd1 x s ssetW
theorem sem_sset (a : E) : sem Φ (.sset a) ρ st = (sem Φ a ρ st).bind kSset := by rw [sem]; rfl
theorem kSset_a (x : W) : kSset x s = rdk1 s ssetW (x.rd s) := rd1_k _ _
theorem ssetW_l (xs : List PyData) : ssetW (.list xs) = if setOk xs = true then some (.new (.lst (sortD (setD xs)))) else none := rfl
def kRev : W → Stt → Res W := fun x s => rd1 x s revD
theorem sem_rev (a : E) : sem Φ (.rev a) ρ st = (sem Φ a ρ st).bind kRev := by rw [sem]; rfl
theorem kRev_a (x : W) : kRev x s = rdk1 s revD (x.rd s) := rd1_k _ _
theorem revD_l (xs : List PyData) : revD (.list xs) = some (.new (.lst xs.reverse)) := rfl
theorem revD_t (xs : List PyData) : revD (.tuple xs) = some (.d (.tuple xs.reverse)) := rfl
-- calls
def kCal (Φ : Phi) (f : Nat) : List W → Stt → Res W := fun ws s1 => (Res.ofO s1 (argAll ws)).bind fun as s2 => Φ f as s2
def calR (Φ : Phi) (f : Nat) (s : Stt) : Option (List W) → Res W
  | some as => Φ f as s
  | none => .bad
theorem sem_cal (n : Str) (f : Nat) (es : Es) : sem Φ (.cal n f es) ρ st = (sems Φ es ρ st).bind (kCal Φ f) := by rw [sem]; rfl
theorem kCal_a (f : Nat) (ws : List W) : kCal Φ f ws s = calR Φ f s (argAll ws) := by
  show (Res.ofO s (argAll ws)).bind _ = _
  cases argAll ws <;> rfl
theorem calR_s (f : Nat) (as : List W) : calR Φ f s (some as) = Φ f as s := rfl
theorem sem_fnv (n : Str) : sem Φ (.fnv n) ρ st = .ok (.fn n) st := by rw [sem]
def cavQ (Φ : Phi) (es : Es) (ρ : Rho) (st : Stt) : Option Nat → Res W
  | some f => (sems Φ es ρ st).bind (kCal Φ f)
  | none => .bad
def cavR (Φ : Phi) (tb : List (Str × Nat)) (es : Es) (ρ : Rho) (st : Stt) : Option (Option W) → Res W
  | some (some (.fn n)) => cavQ Φ es ρ st (tblF tb n)
  | _ => .bad
theorem sem_cav (i : Nat) (tb : List (Str × Nat)) (es : Es) : sem Φ (.cav i tb es) ρ st = cavR Φ tb es ρ st ρ[i]? := by
  rw [sem]
  unfold cavR cavQ
  rfl
theorem cavR_fn (tb : List (Str × Nat)) (es : Es) (n : Str) : cavR Φ tb es ρ st (some (some (.fn n))) = cavQ Φ es ρ st (tblF tb n) := rfl
theorem cavQ_s (es : Es) (f : Nat) : cavQ Φ es ρ st (some f) = (sems Φ es ρ st).bind (kCal Φ f) := rfl
theorem argAll_c (w : W) (r : List W) : argAll (w :: r) = w.arg.bind fun x => (argAll r).map (x :: ·) := rfl
def kBif (b : BF) : List W → Stt → Res W := fun ws s1 => Res.ofO s1 ((rdAll s1 ws).bind (bifD b))
def bifR (b : BF) (s : Stt) : Option (List PyData) → Res W
  | some xs => Res.ofO s (bifD b xs)
  | none => .bad
theorem sem_bif (b : BF) (es : Es) : sem Φ (.bif b es) ρ st = (sems Φ es ρ st).bind (kBif b) := by rw [sem]; rfl
theorem kBif_a (b : BF) (ws : List W) : kBif b ws s = bifR b s (rdAll s ws) := by
  show Res.ofO s _ = _
  cases rdAll s ws <;> rfl
theorem bifR_s (b : BF) (xs : List PyData) : bifR b s (some xs) = Res.ofO s (bifD b xs) := rfl
def kMth (Φ : Phi) (m : MN) (es : Es) (ρ : Rho) : W → Stt → Res W := fun x s1 => ssel x fun sep => (sems Φ es ρ s1).bind fun ws s2 => Res.ofO s2 ((rdAll s2 ws).bind (mthD m (.str sep)))
def kMth2 (m : MN) (sep : Str) : List W → Stt → Res W := fun ws s2 => Res.ofO s2 ((rdAll s2 ws).bind (mthD m (.str sep)))
def mthR (m : MN) (sep : Str) (s : Stt) : Option (List PyData) → Res W
  | some xs => Res.ofO s (mthD m (.str sep) xs)
  | none => .bad
theorem sem_mth (m : MN) (a : E) (es : Es) : sem Φ (.mth m a es) ρ st = (sem Φ a ρ st).bind (kMth Φ m es ρ) := by rw [sem]; rfl
theorem kMth_a (m : MN) (es : Es) (x : Str) : kMth Φ m es ρ (.d (.str x)) s = (sems Φ es ρ s).bind (kMth2 m x) := rfl
theorem kMth2_a (m : MN) (x : Str) (ws : List W) : kMth2 m x ws s = mthR m x s (rdAll s ws) := by
  show Res.ofO s _ = _
  cases rdAll s ws <;> rfl
theorem mthR_s (m : MN) (x : Str) (xs : List PyData) : mthR m x s (some xs) = Res.ofO s (mthD m (.str x) xs) := rfl
theorem mth_split (x y : Str) : mthD .split (.str x) [.str y] = if (y.length == 0) = false ∧ x.length + 2 ≤ lineN then some (.new (.lst ((Txt.split x y).map PyData.str))) else none := rfl
theorem idxK_s (x : Str) (i : Int) : idxK (.str x) (.int i) = (if x.length ≤ lineN then (atI x.cps.toList i).map fun c => .str ⟨#[c]⟩ else none : Option PyData).map .d := rfl
theorem rdAll_nil : rdAll st [] = some [] := rfl
theorem rdAll_c (w : W) (r : List W) : rdAll st (w :: r) = (w.rd st).bind fun x => (rdAll st r).map (x :: ·) := rfl
theorem bif_len_l (xs : List PyData) : bifD .len [.list xs] = some (.d (.int xs.length)) := rfl
theorem bif_len_t (xs : List PyData) : bifD .len [.tuple xs] = some (.d (.int xs.length)) := rfl
theorem bif_tup_l (xs : List PyData) : bifD .tuple [.list xs] = some (.d (.tuple xs)) := rfl
theorem bif_tup_t (xs : List PyData) : bifD .tuple [.tuple xs] = some (.d (.tuple xs)) := rfl
theorem bif_lst_l (xs : List PyData) : bifD .list [.list xs] = some (.new (.lst xs)) := rfl
theorem bif_lst_t (xs : List PyData) : bifD .list [.tuple xs] = some (.new (.lst xs)) := rfl
theorem bif_len_s (x : Str) : bifD .len [.str x] = (if x.length ≤ lineN then some (.int x.length) else none : Option PyData).map .d := rfl
theorem bif_str_s (x : Str) : bifD .str [.str x] = some (.d (.str x)) := rfl
theorem bif_repr (x : PyData) : bifD .repr [x] = (reprD x).map .d := rfl
def isiK (t : Ty) : PyData → Option W := fun x => toB (isT x t)
def kIsi (t : Ty) : W → Stt → Res W := fun x s => rd1 x s (isiK t)
theorem sem_isi (a : E) (t : Ty) : sem Φ (.isi a t) ρ st = (sem Φ a ρ st).bind (kIsi t) := by rw [sem]; rfl
theorem kIsi_a (t : Ty) (x : W) : kIsi t x s = rdk1 s (isiK t) (x.rd s) := rd1_k _ _
-- operations on data
theorem add_ii (i j : Int) : binD .add (.int i) (.int j) = some (.d (.int (i + j))) := rfl
theorem sub_ii (i j : Int) : binD .sub (.int i) (.int j) = some (.d (.int (i - j))) := rfl
theorem mul_ii (i j : Int) : binD .mul (.int i) (.int j) = if (within64 i || within64 j) = true then some (.d (.int (i * j))) else none := rfl
theorem mul_si (x : Str) (k : Int) : binD .mul (.str x) (.int k) = if 0 ≤ k ∧ k ≤ 1000 ∧ x.length ≤ 1000 then some (.d (.str (repS x k))) else none := rfl
theorem mul_ti (xs : List PyData) (k : Int) : binD .mul (.tuple xs) (.int k) = if 0 ≤ k ∧ k ≤ 1000 ∧ xs.length ≤ 1000 then some (.d (.tuple (List.replicate k.toNat xs).flatten)) else none := rfl
theorem fdiv_ii (i j : Int) : binD .fdiv (.int i) (.int j) = if 0 < j ∧ j < 1073741824 then some (.d (.int (i / j))) else none := rfl
theorem mod_ii (i j : Int) : binD .mod (.int i) (.int j) = if 0 < j then some (.d (.int (i % j))) else none := rfl
theorem pow_ii (i j : Int) : binD .pow (.int i) (.int j) = if 0 ≤ j ∧ j ≤ 1000000 ∧ within64 i = true then some (.d (.int (i ^ j.toNat))) else none := rfl
theorem add_tt (xs ys : List PyData) : binD .add (.tuple xs) (.tuple ys) = if xs.length + ys.length ≤ lineN then some (.d (.tuple (xs ++ ys))) else none := rfl
theorem add_ll (xs ys : List PyData) : binD .add (.list xs) (.list ys) = if xs.length + ys.length ≤ lineN then some (.new (.lst (xs ++ ys))) else none := rfl
-- statements
def sF : S → S := id
theorem Ss_nil : semSs Φ .nil ρ st = .ok (.nx ρ) st := by rw [semSs]
def kSs (Φ : Phi) (r : Ss) : Fl → Stt → Res Fl := fun fl s1 => match fl with
  | .nx ρ' => semSs Φ r ρ' s1
  | .rt w => .ok (.rt w) s1
theorem Ss_cons (x : S) (r : Ss) : semSs Φ (.cons x r) ρ st = (semS Φ x ρ st).bind (kSs Φ r) := by rw [semSs]; rfl
theorem kSs_n (r : Ss) (ρ' : Rho) : kSs Φ r (.nx ρ') s = semSs Φ r ρ' s := rfl
theorem kSs_r (r : Ss) (w : W) : kSs Φ r (.rt w) s = .ok (.rt w) s := rfl
theorem Ss_frz (is : List Nat) (r : Ss) : semSs Φ (.frz is r) ρ st = semSs Φ r (frzR ρ is) st := by rw [semSs]
theorem frzR_nil : frzR ρ [] = ρ := rfl
def frz1 (ρ : Rho) (i : Nat) : Option (Option W) → Rho
  | some (some (.own c)) => ρ.set i (some (.d c.dat))
  | _ => ρ
theorem frzR_cons (i : Nat) (is : List Nat) : frzR ρ (i :: is) = frz1 (frzR ρ is) i (frzR ρ is)[i]? := by
  rw [frzR]
  unfold frz1
  split <;> simp_all
theorem frz1_own (i : Nat) (c : C) : frz1 ρ i (some (some (.own c))) = ρ.set i (some (.d c.dat)) := rfl
theorem frz1_d (i : Nat) (x : PyData) : frz1 ρ i (some (some (.d x))) = ρ := rfl
def kSet (ρ : Rho) (i : Nat) (m : Md) : W → Stt → Res Fl := fun w s1 => store ρ i m w s1
theorem S_set (i : Nat) (m : Md) (e : E) : semS Φ (.set i m e) ρ st = (sem Φ e ρ st).bind (kSet ρ i m) := by rw [semS]; rfl
theorem kSet_pd (i : Nat) (x : PyData) : kSet ρ i .pure (.d x) s = .ok (.nx (ρ.set i (some (.d x)))) s := rfl
theorem kSet_pn (i : Nat) (xs : List PyData) : kSet ρ i .pure (.new (.lst xs)) s = .ok (.nx (ρ.set i (some (.d (.list xs))))) s := rfl
theorem kSet_pl (i n : Nat) : kSet ρ i .pure (.loc n) s = .ok (.nx (ρ.set i (some (.loc n)))) s := rfl
theorem kSet_pb (i : Nat) (c : C) : kSet ρ i .pure (.bor c) s = .ok (.nx (ρ.set i (some (.bor c)))) s := rfl
theorem kSet_o (i : Nat) (c : C) : kSet ρ i .own (.new c) s = .ok (.nx (ρ.set i (some (.own c)))) s := rfl
theorem kSet_c (i : Nat) (c : C) : kSet ρ i .cell (.new c) s = .ok (.nx (ρ.set i (some (.loc s.length)))) (s ++ [c]) := rfl
def kUnp (ρ : Rho) (is : List Nat) : W → Stt → Res Fl := fun w s1 => Res.ofO s1 ((w.rd s1).bind fun x => (setT (.tp is) x ρ).map .nx)
def unpR (s : Stt) : Option Rho → Res Fl
  | some ρ => .ok (.nx ρ) s
  | none => .bad
def kPar (ρ : Rho) (i j : Nat) : List W → Stt → Res Fl := fun ws s => parW ρ i j ws s
def parR (ρ : Rho) (i j : Nat) (s : Stt) : Option PyData → Option PyData → Res Fl
  | some x, some y => .ok (.nx ((ρ.set i (some (.d x))).set j (some (.d y)))) s
  | _, _ => .bad
theorem S_par (i j : Nat) (a b : E) : semS Φ (.par i j a b) ρ st = (sems Φ (.cons a (.cons b .nil)) ρ st).bind (kPar ρ i j) := by rw [semS]; rfl
theorem kPar_a (i j : Nat) (v w : W) : kPar ρ i j [v, w] s = parR ρ i j s v.py w.py := by
  show (match v.py, w.py with
    | some x, some y => Res.ok (Fl.nx ((ρ.set i (some (.d x))).set j (some (.d y)))) s
    | _, _ => .bad) = _
  cases v.py <;> cases w.py <;> rfl
theorem parR_s (i j : Nat) (x y : PyData) : parR ρ i j s (some x) (some y) = .ok (.nx ((ρ.set i (some (.d x))).set j (some (.d y)))) s := rfl
theorem S_unp (is : List Nat) (e : E) : semS Φ (.unp is e) ρ st = (sem Φ e ρ st).bind (kUnp ρ is) := by rw [semS]; rfl
theorem kUnp_a (is : List Nat) (x : PyData) : kUnp ρ is (.d x) s = unpR s (setT (.tp is) x ρ) := by
  show Res.ofO s ((setT (.tp is) x ρ).map Fl.nx) = _
  cases setT (.tp is) x ρ <;> rfl
theorem unpR_s (ρ : Rho) : unpR s (some ρ) = .ok (.nx ρ) s := rfl
theorem setT_2 (i j : Nat) (a b : PyData) : setT (.tp [i, j]) (.tuple [a, b]) ρ = some ((ρ.set i (some (.d a))).set j (some (.d b))) := rfl
theorem setT_3 (i j k : Nat) (a b c : PyData) : setT (.tp [i, j, k]) (.tuple [a, b, c]) ρ = some (((ρ.set i (some (.d a))).set j (some (.d b))).set k (some (.d c))) := rfl
def kExp (ρ : Rho) : W → Stt → Res Fl := fun _ s1 => .ok (.nx ρ) s1
theorem S_exp (e : E) : semS Φ (.exp e) ρ st = (sem Φ e ρ st).bind (kExp ρ) := by rw [semS]; rfl
theorem kExp_a (w : W) : kExp ρ w s = .ok (.nx ρ) s := rfl
def kRet : W → Stt → Res Fl := fun w s1 => rtW w s1
theorem S_ret (e : E) : semS Φ (.ret e) ρ st = (sem Φ e ρ st).bind kRet := by rw [semS]; rfl
theorem kRet_d (x : PyData) : kRet (.d x) s = .ok (.rt (.d x)) s := rfl
theorem kRet_n (c : C) : kRet (.new c) s = .ok (.rt (.new c)) s := rfl
theorem kRet_l (n : Nat) : kRet (.loc n) s = .ok (.rt (.loc n)) s := rfl
def rtvR (st : Stt) : Option (Option W) → Res Fl
  | some (some (.own c)) => .ok (.rt (.new c)) st
  | _ => .bad
theorem S_rtv (i : Nat) : semS Φ (.rtv i) ρ st = rtvR st ρ[i]? := by
  rw [semS]
  unfold rtvR
  split <;> simp_all
theorem rtvR_o (c : C) : rtvR st (some (some (.own c))) = .ok (.rt (.new c)) st := rfl
def selS (Φ : Phi) (a b : Ss) (ρ : Rho) (s : Stt) : Bool → Res Fl
  | true => semSs Φ a ρ s
  | false => semSs Φ b ρ s
def kIf (Φ : Phi) (a b : Ss) (ρ : Rho) : W → Stt → Res Fl := fun x s => (truth x s).bind fun t s2 => if t then semSs Φ a ρ s2 else semSs Φ b ρ s2
def kIf2 (Φ : Phi) (a b : Ss) (ρ : Rho) : Bool → Stt → Res Fl := fun t s2 => if t then semSs Φ a ρ s2 else semSs Φ b ρ s2
theorem rbind_x {α β : Type} {f : α → Stt → Res β} (x : XV) : (Res.ex x s).bind f = .ex x s := rfl
def kRse (c : Str) (fl : List Str) : List W → Stt → Res Fl := fun ws s1 => rseK c fl ws s1
theorem S_rse (c : Str) (fl : List Str) (es : Es) : semS Φ (.rse c fl es) ρ st = (sems Φ es ρ st).bind (kRse c fl) := by rw [semS]; rfl
def rseR (x : XV) (s : Stt) : Bool → Res Fl
  | true => .ex x s
  | false => .bad
theorem kRse_1 (c f : Str) (x : PyData) : kRse c [f] [.d x] s = rseR ⟨c, [(f, x)]⟩ s (excV x) := by
  show (if [x].all excV = true ∧ [x].length = [f].length then _ else _) = _
  rw [show [x].all excV = excV x by simp]
  cases excV x <;> simp <;> rfl
theorem kRse_2 (c f g : Str) (x y : PyData) : kRse c [f, g] [.d x, .d y] s = rseR ⟨c, [(g, y), (f, x)]⟩ s (excV x && excV y) := by
  show (if [x, y].all excV = true ∧ [x, y].length = [f, g].length then _ else _) = _
  rw [show [x, y].all excV = (excV x && excV y) by simp]
  cases excV x <;> cases excV y <;> simp <;> rfl
theorem rseR_t (x : XV) : rseR x s true = .ex x s := rfl
theorem S_tre (b : S) (ms : List (Str × Bool)) (n : Option Nat) (h : Hs) : semS Φ (.tre b ms n h) ρ st = treK ms n h ρ (semS Φ b ρ st) := by rw [semS]
theorem S_tri (b : Ss) : semS Φ (.tri b) ρ st = (semSs Φ b ρ st).nox := by rw [semS]
theorem S_ite (c : E) (a b : Ss) : semS Φ (.ite c a b) ρ st = (sem Φ c ρ st).bind (kIf Φ a b ρ) := by rw [semS]; rfl
theorem kIf_a (a b : Ss) (x : W) : kIf Φ a b ρ x s = (truR s (x.rd s)).bind (kIf2 Φ a b ρ) := by show (truth x s).bind _ = _; rw [truth_k]; rfl
theorem kIf2_a (a b : Ss) (t : Bool) : kIf2 Φ a b ρ t s = selS Φ a b ρ s t := by cases t <;> rfl
theorem selS_t (a b : Ss) : selS Φ a b ρ s true = semSs Φ a ρ s := rfl
theorem selS_f (a b : Ss) : selS Φ a b ρ s false = semSs Φ b ρ s := rfl
-- changes
def chgR (ρ : Rho) (i : Nat) (st : Stt) (f : C → Option C) : Option (Option W) → Res Fl
  | some (some (.own c)) => Res.ofO st ((f c).map fun c => .nx (ρ.set i (some (.own c))))
  | some (some (.loc n)) => match (st[n]?).bind f with
    | some c => .ok (.nx ρ) (st.set n c)
    | none => .bad
  | _ => .bad
theorem chg_k (i : Nat) (f : C → Option C) : chg ρ i st f = chgR ρ i st f ρ[i]? := by
  unfold chg
  cases ρ[i]? with
  | none => rfl
  | some o => cases o with
    | none => rfl
    | some w => cases w <;> rfl
def ownR (ρ : Rho) (i : Nat) (st : Stt) : Option C → Res Fl
  | some c => .ok (.nx (ρ.set i (some (.own c)))) st
  | none => .bad
def locR (ρ : Rho) (n : Nat) (st : Stt) : Option C → Res Fl
  | some c => .ok (.nx ρ) (st.set n c)
  | none => .bad
theorem chgR_o (i : Nat) (f : C → Option C) (c : C) : chgR ρ i st f (some (some (.own c))) = ownR ρ i st (f c) := by
  show Res.ofO st _ = _
  cases f c <;> rfl
theorem chgR_l (i n : Nat) (f : C → Option C) : chgR ρ i st f (some (some (.loc n))) = locR ρ n st ((st[n]?).bind f) := by
  show (match (st[n]?).bind f with | some c => Res.ok (Fl.nx ρ) (st.set n c) | none => .bad) = _
  cases (st[n]?).bind f <;> rfl
theorem ownR_s (i : Nat) (c : C) : ownR ρ i st (some c) = .ok (.nx (ρ.set i (some (.own c)))) st := rfl
theorem locR_s (n : Nat) (c : C) : locR ρ n st (some c) = .ok (.nx ρ) (st.set n c) := rfl
theorem appC_l (y : PyData) (xs : List PyData) : appC y (.lst xs) = if xs.length < lineN then some (.lst (xs ++ [y])) else none := rfl
theorem extC_l (ys xs : List PyData) : extC ys (.lst xs) = if xs.length + ys.length ≤ lineN then some (.lst (xs ++ ys)) else none := rfl
theorem subC_d (k y : PyData) (kvs : List (PyData × PyData)) : subC k y (.dct kvs) = if (keyOk k && decide (kvs.length < lineN)) = true then some (.dct (putP kvs k y)) else none := rfl
theorem subC_l (k : Int) (y : PyData) (xs : List PyData) : subC (.int k) y (.lst xs) = ((ixN xs.length k).map fun j => xs.set j y).map .lst := rfl
def mutR : Option (Option W) → Bool
  | some (some (.own _)) => true
  | some (some (.loc _)) => true
  | _ => false
theorem mutB_k (i : Nat) : mutB ρ i = mutR ρ[i]? := by
  unfold mutB mutR
  split <;> simp_all
def lstR (st : Stt) : Option (Option W) → Bool
  | some (some (.own (.lst _))) => true
  | some (some (.loc n)) => match st[n]? with
    | some (.lst _) => true
    | _ => false
  | _ => false
theorem lstB_k (i : Nat) : lstB ρ i st = lstR st ρ[i]? := by
  unfold lstB lstR
  cases ρ[i]? with
  | none => rfl
  | some o => cases o with
    | none => rfl
    | some w => cases w with
      | own c => cases c <;> rfl
      | _ => rfl
theorem lstR_o (xs : List PyData) : lstR st (some (some (.own (.lst xs)))) = true := rfl
def lstQ : Option C → Bool
  | some (.lst _) => true
  | _ => false
theorem lstR_l (n : Nat) : lstR st (some (some (.loc n))) = lstQ st[n]? := by
  unfold lstR lstQ
  rfl
theorem lstQ_l (xs : List PyData) : lstQ (some (.lst xs)) = true := rfl
theorem mutR_o (c : C) : mutR (some (some (.own c))) = true := rfl
theorem mutR_l (n : Nat) : mutR (some (some (.loc n))) = true := rfl
def kSub (Φ : Phi) (i : Nat) (k : E) (ρ : Rho) : W → Stt → Res Fl := fun w s1 => if mutB ρ i then (sem Φ k ρ s1).bind fun k s2 => match w.py, k.rd s2 with
    | some y, some k => chg ρ i s2 (subC k y)
    | _, _ => .bad
    else .bad
def subM (Φ : Phi) (i : Nat) (k : E) (ρ : Rho) (w : W) (s : Stt) : Bool → Res Fl
  | true => (sem Φ k ρ s).bind fun k s2 => match w.py, k.rd s2 with
    | some y, some k => chg ρ i s2 (subC k y)
    | _, _ => .bad
  | false => .bad
def kSub2 (i : Nat) (ρ : Rho) (w : W) : W → Stt → Res Fl := fun k s2 => match w.py, k.rd s2 with
    | some y, some k => chg ρ i s2 (subC k y)
    | _, _ => .bad
def subR (i : Nat) (ρ : Rho) (s : Stt) : Option PyData → Option PyData → Res Fl
  | some y, some k => chg ρ i s (subC k y)
  | _, _ => .bad
theorem S_sub (i : Nat) (k e : E) : semS Φ (.sub i k e) ρ st = (sem Φ e ρ st).bind (kSub Φ i k ρ) := by rw [semS]; rfl
theorem kSub_a (i : Nat) (k : E) (w : W) : kSub Φ i k ρ w s = subM Φ i k ρ w s (mutR ρ[i]?) := by
  rw [← mutB_k]
  unfold kSub
  cases mutB ρ i <;> rfl
theorem subM_t (i : Nat) (k : E) (w : W) : subM Φ i k ρ w s true = (sem Φ k ρ s).bind (kSub2 i ρ w) := rfl
theorem kSub2_a (i : Nat) (w u : W) : kSub2 i ρ w u s = subR i ρ s w.py (u.rd s) := by
  unfold kSub2 subR
  split <;> simp_all
theorem subR_s (i : Nat) (y k : PyData) : subR i ρ s (some y) (some k) = chgR ρ i s (subC k y) ρ[i]? := chg_k _ _
def appM (Φ : Phi) (i : Nat) (e : E) (ρ : Rho) (s : Stt) : Bool → Res Fl
  | true => (sem Φ e ρ s).bind fun w s1 => match w.py with
    | some y => chg ρ i s1 (appC y)
    | none => .bad
  | false => .bad
def kApp (i : Nat) (ρ : Rho) : W → Stt → Res Fl := fun w s1 => match w.py with
    | some y => chg ρ i s1 (appC y)
    | none => .bad
def appR (i : Nat) (ρ : Rho) (s : Stt) : Option PyData → Res Fl
  | some y => chg ρ i s (appC y)
  | none => .bad
theorem S_app (i : Nat) (e : E) : semS Φ (.app i e) ρ st = appM Φ i e ρ st (lstR st ρ[i]?) := by
  rw [semS, ← lstB_k]
  cases lstB ρ i st <;> rfl
theorem appM_t (i : Nat) (e : E) : appM Φ i e ρ s true = (sem Φ e ρ s).bind (kApp i ρ) := rfl
theorem kApp_a (i : Nat) (w : W) : kApp i ρ w s = appR i ρ s w.py := by
  unfold kApp appR
  split <;> simp_all
theorem appR_s (i : Nat) (y : PyData) : appR i ρ s (some y) = chgR ρ i s (appC y) ρ[i]? := chg_k _ _
def extM (Φ : Phi) (i : Nat) (e : E) (ρ : Rho) (s : Stt) : Bool → Res Fl
  | true => (sem Φ e ρ s).bind fun w s1 => match w.rd s1 with
    | some (.list ys) => chg ρ i s1 (extC ys)
    | _ => .bad
  | false => .bad
def kExt (i : Nat) (ρ : Rho) : W → Stt → Res Fl := fun w s1 => match w.rd s1 with
    | some (.list ys) => chg ρ i s1 (extC ys)
    | _ => .bad
def extR (i : Nat) (ρ : Rho) (s : Stt) : Option PyData → Res Fl
  | some (.list ys) => chg ρ i s (extC ys)
  | _ => .bad
theorem S_ext (i : Nat) (e : E) : semS Φ (.ext i e) ρ st = extM Φ i e ρ st (lstR st ρ[i]?) := by
  rw [semS, ← lstB_k]
  cases lstB ρ i st <;> rfl
theorem extM_t (i : Nat) (e : E) : extM Φ i e ρ s true = (sem Φ e ρ s).bind (kExt i ρ) := rfl
theorem kExt_a (i : Nat) (w : W) : kExt i ρ w s = extR i ρ s (w.rd s) := by
  unfold kExt extR
  split <;> simp_all
theorem extR_s (i : Nat) (ys : List PyData) : extR i ρ s (some (.list ys)) = chgR ρ i s (extC ys) ρ[i]? := chg_k _ _
-- dicts
theorem sem_dnew : sem Φ .dnew ρ st = .ok (.new (.dct [])) st := by rw [sem]
theorem rd_newD (kvs : List (PyData × PyData)) : W.rd st (.new (.dct kvs)) = some (.dict kvs) := rfl
theorem rd_borD (kvs : List (PyData × PyData)) : W.rd st (.bor (.dct kvs)) = some (.dict kvs) := rfl
theorem rd_lentD (kvs : List (PyData × PyData)) : W.rd st (.lent (.dct kvs)) = some (.dict kvs) := rfl
theorem dat_dct (kvs : List (PyData × PyData)) : C.dat (.dct kvs) = .dict kvs := rfl
theorem py_newD (kvs : List (PyData × PyData)) : W.py (.new (.dct kvs)) = some (.dict kvs) := rfl
theorem arg_newD (kvs : List (PyData × PyData)) : W.arg (.new (.dct kvs)) = some (.d (.dict kvs)) := rfl
theorem kSet_pD (i : Nat) (kvs : List (PyData × PyData)) : kSet ρ i .pure (.new (.dct kvs)) s = .ok (.nx (ρ.set i (some (.d (.dict kvs))))) s := rfl
def dinR {α : Type} (r : Res α) : Option PyData → Res α
  | some (.dict _) => r
  | _ => .bad
theorem dctIn_k {α : Type} (x : W) (r : Res α) : dctIn x s r = dinR r (x.rd s) := by
  unfold dctIn dinR
  rfl
theorem dinR_s {α : Type} (r : Res α) (kvs : List (PyData × PyData)) : dinR r (some (.dict kvs)) = r := rfl
def gwR : Option PyData → Option PyData → Option PyData → Option W
  | some (.dict kvs), some k, some z => if keyOk k then some (.d ((getP kvs k).getD z)) else none
  | _, _, _ => none
theorem getW_k (x y : W) (z : Option PyData) : getW x y s z = gwR (x.rd s) (y.rd s) z := by
  unfold getW gwR
  rfl
theorem gwR_s (kvs : List (PyData × PyData)) (k z : PyData) : gwR (some (.dict kvs)) (some k) (some z) = if keyOk k = true then some (.d ((getP kvs k).getD z)) else none := rfl
def kGet1 (Φ : Phi) (k : E) (ρ : Rho) : W → Stt → Res W := fun x s1 => dctIn x s1 ((sem Φ k ρ s1).bind fun y s2 => Res.ofO s2 (getW x y s2 (some .none)))
def kGet1b (x : W) : W → Stt → Res W := fun y s2 => Res.ofO s2 (getW x y s2 (some .none))
theorem sem_get1 (a k : E) : sem Φ (.get1 a k) ρ st = (sem Φ a ρ st).bind (kGet1 Φ k ρ) := by rw [sem]; rfl
theorem kGet1_a (k : E) (x : W) : kGet1 Φ k ρ x s = dinR ((sem Φ k ρ s).bind (kGet1b x)) (x.rd s) := dctIn_k _ _
theorem kGet1b_a (x y : W) : kGet1b x y s = Res.ofO s (gwR (x.rd s) (y.rd s) (some .none)) := by rw [← getW_k]; rfl
def kGet2 (Φ : Phi) (k z : E) (ρ : Rho) : W → Stt → Res W := fun x s1 => dctIn x s1 ((sem Φ k ρ s1).bind fun y s2 => (sem Φ z ρ s2).bind fun z s3 => Res.ofO s3 (getW x y s3 z.py))
def kGet2b (Φ : Phi) (z : E) (ρ : Rho) (x : W) : W → Stt → Res W := fun y s2 => (sem Φ z ρ s2).bind fun z s3 => Res.ofO s3 (getW x y s3 z.py)
def kGet2c (x y : W) : W → Stt → Res W := fun z s3 => Res.ofO s3 (getW x y s3 z.py)
theorem sem_get2 (a k z : E) : sem Φ (.get2 a k z) ρ st = (sem Φ a ρ st).bind (kGet2 Φ k z ρ) := by rw [sem]; rfl
theorem kGet2_a (k z : E) (x : W) : kGet2 Φ k z ρ x s = dinR ((sem Φ k ρ s).bind (kGet2b Φ z ρ x)) (x.rd s) := dctIn_k _ _
theorem kGet2b_a (z : E) (x y : W) : kGet2b Φ z ρ x y s = (sem Φ z ρ s).bind (kGet2c x y) := rfl
theorem kGet2c_a (x y z : W) : kGet2c x y z s = Res.ofO s (gwR (x.rd s) (y.rd s) z.py) := by rw [← getW_k]; rfl
theorem idxK_d (kvs : List (PyData × PyData)) (k : PyData) : idxK (.dict kvs) k = (if keyOk k = true then getP kvs k else none : Option PyData).map .d := by
  cases k <;> rfl
theorem bif_len_d (kvs : List (PyData × PyData)) : bifD .len [.dict kvs] = some (.d (.int kvs.length)) := rfl
theorem bif_int (x : PyData) : bifD .int [x] = (intD x).map .d := rfl
theorem intD_i (i : Int) : intD (.int i) = some (.int i) := rfl
theorem intD_b (b : Bool) : intD (.bool b) = some (.int (if b = true then 1 else 0)) := rfl
theorem intD_s (x : Str) : intD (.str x) = if x.length ≤ 640 then (PySem.intText? x).map .int else none := rfl
theorem bif_abs (i : Int) : bifD .abs [.int i] = some (.d (.int (if i < 0 then -i else i))) := rfl
theorem bif_max2 (i j : Int) : bifD .max [.int i, .int j] = some (.d (.int (if j > i then j else i))) := rfl
theorem bif_min2 (i j : Int) : bifD .min [.int i, .int j] = some (.d (.int (if j < i then j else i))) := rfl
theorem bif_max1 (xs : List PyData) : bifD .max [.list xs] = ((allI xs).bind maxI).map fun i => .d (.int i) := rfl
theorem bif_min1 (xs : List PyData) : bifD .min [.list xs] = ((allI xs).bind minI).map fun i => .d (.int i) := rfl
theorem bif_sum (xs : List PyData) : bifD .sum [.list xs] = (allI xs).map fun is => .d (.int is.sum) := rfl
theorem bif_srt_l (xs : List PyData) : bifD .sorted [.list xs] = if sortOk xs = true then some (.new (.lst (sortD xs))) else none := rfl
theorem bif_srt_d (kvs : List (PyData × PyData)) : bifD .sorted [.dict kvs] = if sortOk (kvs.map (·.1)) = true then some (.new (.lst (sortD (kvs.map (·.1))))) else none := rfl
theorem bif_dct_t (xs : List PyData) : bifD .dict [.tuple xs] = (pairsD xs).map fun ps => .new (.dct (mergeP [] ps)) := rfl
theorem bif_dct_l (xs : List PyData) : bifD .dict [.list xs] = (pairsD xs).map fun ps => .new (.dct (mergeP [] ps)) := rfl
-- loops
def stepF (Φ : Phi) (t : T) (b : Ss) : PyData → Rho → Stt → Res Fl := fun x ρ s => (Res.ofO s (setT t x ρ)).bind fun ρ s => semSs Φ b ρ s
def setR (Φ : Phi) (b : Ss) (s : Stt) : Option Rho → Res Fl
  | some ρ => semSs Φ b ρ s
  | none => .bad
theorem stepF_a (t : T) (b : Ss) (x : PyData) : stepF Φ t b x ρ s = setR Φ b s (setT t x ρ) := by
  show (Res.ofO s (setT t x ρ)).bind _ = _
  cases setT t x ρ <;> rfl
theorem setR_s (b : Ss) : setR Φ b s (some ρ) = semSs Φ b ρ s := rfl
theorem setT_nm (i : Nat) (x : PyData) : setT (.nm i) x ρ = some (ρ.set i (some (.d x))) := rfl
def kFor (Φ : Phi) (t : T) (b : Ss) (ρ : Rho) : List PyData → Stt → Res Fl := fun xs s1 => forL (stepF Φ t b) xs ρ s1
theorem S_for (t : T) (it : It) (b : Ss) : semS Φ (.for_ t it b) ρ st = (semF Φ it ρ st).bind (kFor Φ t b ρ) := by rw [semS]; rfl
theorem kFor_a (t : T) (b : Ss) (xs : List PyData) : kFor Φ t b ρ xs s = forL (stepF Φ t b) xs ρ s := rfl
def kItF : W → Stt → Res (List PyData) := fun x s1 => match x with
    | .loc _ => .bad
    | .lent _ => .bad
    | _ => Res.ofO s1 ((x.rd s1).bind itemsD)
theorem F_of (a : E) : semF Φ (.of a) ρ st = (sem Φ a ρ st).bind kItF := by rw [semF]; rfl
theorem kItF_dl (xs : List PyData) : kItF (.d (.list xs)) s = .ok xs s := rfl
theorem kItF_dt (xs : List PyData) : kItF (.d (.tuple xs)) s = .ok xs s := rfl
theorem kItF_ds (x : Str) : kItF (.d (.str x)) s = .ok (x.cps.toList.map fun c => .str ⟨#[c]⟩) s := rfl
theorem kItF_n (xs : List PyData) : kItF (.new (.lst xs)) s = .ok xs s := rfl
theorem kItF_b (xs : List PyData) : kItF (.bor (.lst xs)) s = .ok xs s := rfl
def kItE : W → Stt → Res (List PyData) := fun x s1 => match x with
    | .loc _ => .bad
    | .lent _ => .bad
    | _ => Res.ofO s1 ((x.rd s1).bind enumW)
theorem F_enum (a : E) : semF Φ (.enum a) ρ st = (sem Φ a ρ st).bind kItE := by rw [semF]; rfl
theorem kItE_dl (xs : List PyData) : kItE (.d (.list xs)) s = .ok (enumD 0 xs) s := rfl
theorem kItE_dt (xs : List PyData) : kItE (.d (.tuple xs)) s = .ok (enumD 0 xs) s := rfl
theorem kItE_n (xs : List PyData) : kItE (.new (.lst xs)) s = .ok (enumD 0 xs) s := rfl
theorem kItE_b (xs : List PyData) : kItE (.bor (.lst xs)) s = .ok (enumD 0 xs) s := rfl
def kItI : W → Stt → Res (List PyData) := fun x s1 => match x with
    | .loc _ => .bad
    | _ => Res.ofO s1 ((x.rd s1).bind itemsD)
theorem I_of (a : E) : semI Φ (.of a) ρ st = (sem Φ a ρ st).bind kItI := by rw [semI]; rfl
theorem kItI_dl (xs : List PyData) : kItI (.d (.list xs)) s = .ok xs s := rfl
theorem kItI_dt (xs : List PyData) : kItI (.d (.tuple xs)) s = .ok xs s := rfl
theorem kItI_ds (x : Str) : kItI (.d (.str x)) s = .ok (x.cps.toList.map fun c => .str ⟨#[c]⟩) s := rfl
theorem kItI_n (xs : List PyData) : kItI (.new (.lst xs)) s = .ok xs s := rfl
theorem kItI_b (xs : List PyData) : kItI (.bor (.lst xs)) s = .ok xs s := rfl
theorem kItI_l (xs : List PyData) : kItI (.lent (.lst xs)) s = .ok xs s := rfl
def kRng : W → Stt → Res (List PyData) := fun x s1 => Res.ofO s1 ((x.rd s1).bind fun x => (intOf x).bind fun i => if rngOk i then some (rngL 0 i) else none)
theorem I_rng (a : E) : semI Φ (.rng a) ρ st = (sem Φ a ρ st).bind kRng := by rw [semI]; rfl
theorem F_rng (a : E) : semF Φ (.rng a) ρ st = (sem Φ a ρ st).bind kRng := by rw [semF, semI]; rfl
theorem kRng_a (i : Int) : kRng (.d (.int i)) s = Res.ofO s (if rngOk i = true then some (rngL 0 i) else none) := rfl
def kRg2 (Φ : Phi) (b : E) (ρ : Rho) : W → Stt → Res (List PyData) := fun x s1 => (sem Φ b ρ s1).bind fun y s2 => Res.ofO s2 ((x.rd s2).bind fun x => (y.rd s2).bind fun y => (intOf x).bind fun i => (intOf y).bind fun j => if rngOk i && rngOk j then some (rngL i j) else none)
def kRg3 (x : W) : W → Stt → Res (List PyData) := fun y s2 => Res.ofO s2 ((x.rd s2).bind fun x => (y.rd s2).bind fun y => (intOf x).bind fun i => (intOf y).bind fun j => if rngOk i && rngOk j then some (rngL i j) else none)
theorem I_rng2 (a b : E) : semI Φ (.rng2 a b) ρ st = (sem Φ a ρ st).bind (kRg2 Φ b ρ) := by rw [semI]; rfl
theorem F_rng2 (a b : E) : semF Φ (.rng2 a b) ρ st = (sem Φ a ρ st).bind (kRg2 Φ b ρ) := by rw [semF, semI]; rfl
theorem kRg2_a (b : E) (x : W) : kRg2 Φ b ρ x s = (sem Φ b ρ s).bind (kRg3 x) := rfl
def kZp (Φ : Phi) (b : E) (ρ : Rho) : W → Stt → Res (List PyData) := fun x s1 => (sem Φ b ρ s1).bind fun y s2 => Res.ofO s2 ((x.rdN s2).bind fun dx => (y.rdN s2).bind fun dy => zipD dx dy)
def kZp2 (x : W) : W → Stt → Res (List PyData) := fun y s2 => Res.ofO s2 ((x.rdN s2).bind fun dx => (y.rdN s2).bind fun dy => zipD dx dy)
theorem I_zip (a b : E) : semI Φ (.zip a b) ρ st = (sem Φ a ρ st).bind (kZp Φ b ρ) := by rw [semI]; rfl
theorem kZp_a (b : E) (x : W) : kZp Φ b ρ x s = (sem Φ b ρ s).bind (kZp2 x) := rfl
theorem kZp2_a (x y : W) : kZp2 x y s = Res.ofO s ((x.rdN s).bind fun dx => (y.rdN s).bind fun dy => zipD dx dy) := rfl
theorem rdN_d (x : PyData) : W.rdN st (.d x) = some x := rfl
theorem rdN_n (xs : List PyData) : W.rdN st (.new (.lst xs)) = some (.list xs) := rfl
theorem rdN_b (xs : List PyData) : W.rdN st (.bor (.lst xs)) = some (.list xs) := rfl
theorem rdN_l (xs : List PyData) : W.rdN st (.lent (.lst xs)) = some (.list xs) := rfl
theorem zipD_l (xs ys : List PyData) : zipD (.list xs) (.list ys) = some ((xs.zip ys).map fun p => .tuple [p.1, p.2]) := rfl
theorem zipD_t (xs ys : List PyData) : zipD (.tuple xs) (.tuple ys) = some ((xs.zip ys).map fun p => .tuple [p.1, p.2]) := rfl
theorem kRg3_a (i j : Int) : kRg3 (.d (.int i)) (.d (.int j)) s = Res.ofO s (if (rngOk i && rngOk j) = true then some (rngL i j) else none) := rfl
-- comprehensions
def stepC (Φ : Phi) (elt : E) (t : T) (c : Es) (own : List Nat) (ρ : Rho) : PyData → Stt → Res (Option PyData) := fun x s => (Res.ofO s (setT t x (wipeR ρ own))).bind fun ρ1 s => (semCs Φ c ρ1 s).bind fun b s => if b then (sem Φ elt ρ1 s).bind fun w s => (Res.ofO s w.py).bind fun y s => .ok (some y) s else .ok none s
def kLc (Φ : Phi) (elt : E) (t : T) (c : Es) (own : List Nat) (ρ : Rho) : List PyData → Stt → Res W := fun xs s1 => ((compL (stepC Φ elt t c own ρ) xs s1).nox).bind fun ys s2 => if ys.length ≤ lineN then .ok (.new (.lst ys)) s2 else .bad
def kLc2 : List PyData → Stt → Res W := fun ys s2 => if ys.length ≤ lineN then .ok (.new (.lst ys)) s2 else .bad
theorem sem_lc (elt : E) (t : T) (it : It) (c : Es) (own : List Nat) : sem Φ (.lc elt t it c own) ρ st = (semI Φ it ρ st).bind (kLc Φ elt t c own ρ) := by rw [sem]; rfl
theorem kLc_a (elt : E) (t : T) (c : Es) (own : List Nat) (xs : List PyData) : kLc Φ elt t c own ρ xs s = ((compL (stepC Φ elt t c own ρ) xs s).nox).bind kLc2 := rfl
theorem kLc2_a (ys : List PyData) : kLc2 ys s = if ys.length ≤ lineN then .ok (.new (.lst ys)) s else .bad := rfl
def selC (Φ : Phi) (elt : E) (ρ : Rho) (s : Stt) : Bool → Res (Option PyData)
  | true => (sem Φ elt ρ s).bind fun w s => (Res.ofO s w.py).bind fun y s => .ok (some y) s
  | false => .ok none s
def kElt : W → Stt → Res (Option PyData) := fun w s => (Res.ofO s w.py).bind fun y s => .ok (some y) s
def kCs (Φ : Phi) (elt : E) (ρ : Rho) : Bool → Stt → Res (Option PyData) := fun b s => if b then (sem Φ elt ρ s).bind fun w s => (Res.ofO s w.py).bind fun y s => .ok (some y) s else .ok none s
theorem stepC_nm (elt : E) (i : Nat) (c : Es) (own : List Nat) (x : PyData) : stepC Φ elt (.nm i) c own ρ x s = (semCs Φ c ((wipeR ρ own).set i (some (.d x))) s).bind (kCs Φ elt ((wipeR ρ own).set i (some (.d x)))) := rfl
def setC (Φ : Phi) (elt : E) (c : Es) (s : Stt) : Option Rho → Res (Option PyData)
  | some ρ1 => (semCs Φ c ρ1 s).bind (kCs Φ elt ρ1)
  | none => .bad
theorem stepC_tp (elt : E) (is : List Nat) (c : Es) (own : List Nat) (x : PyData) : stepC Φ elt (.tp is) c own ρ x s = setC Φ elt c s (setT (.tp is) x (wipeR ρ own)) := by
  show (Res.ofO s (setT (.tp is) x (wipeR ρ own))).bind _ = _
  cases setT (.tp is) x (wipeR ρ own) <;> rfl
theorem setC_s (elt : E) (c : Es) (ρ1 : Rho) : setC Φ elt c s (some ρ1) = (semCs Φ c ρ1 s).bind (kCs Φ elt ρ1) := rfl
theorem wipeR_n : wipeR ρ [] = ρ := rfl
theorem wipeR_c (v : Nat) (vs : List Nat) : wipeR ρ (v :: vs) = (wipeR ρ vs).set v none := rfl
theorem kCs_a (elt : E) (b : Bool) : kCs Φ elt ρ b s = selC Φ elt ρ s b := by cases b <;> rfl
theorem selC_t (elt : E) : selC Φ elt ρ s true = (sem Φ elt ρ s).bind kElt := rfl
theorem selC_f (elt : E) : selC Φ elt ρ s false = .ok none s := rfl
theorem kElt_d (x : PyData) : kElt (.d x) s = .ok (some x) s := rfl
theorem kElt_n (xs : List PyData) : kElt (.new (.lst xs)) s = .ok (some (.list xs)) s := rfl
theorem Cs_nil : semCs Φ .nil ρ st = .ok true st := by rw [semCs]
def kC1 (Φ : Phi) (r : Es) (ρ : Rho) : W → Stt → Res Bool := fun x s1 => (truth x s1).bind fun b s2 => if b then semCs Φ r ρ s2 else .ok false s2
def csS (Φ : Phi) (r : Es) (ρ : Rho) (s : Stt) : Bool → Res Bool
  | true => semCs Φ r ρ s
  | false => .ok false s
def kC2 (Φ : Phi) (r : Es) (ρ : Rho) : Bool → Stt → Res Bool := fun b s2 => if b then semCs Φ r ρ s2 else .ok false s2
theorem Cs_cons (e : E) (r : Es) : semCs Φ (.cons e r) ρ st = (sem Φ e ρ st).bind (kC1 Φ r ρ) := by rw [semCs]; rfl
theorem kC1_a (r : Es) (x : W) : kC1 Φ r ρ x s = (truR s (x.rd s)).bind (kC2 Φ r ρ) := by show (truth x s).bind _ = _; rw [truth_k]; rfl
theorem kC2_a (r : Es) (b : Bool) : kC2 Φ r ρ b s = csS Φ r ρ s b := by cases b <;> rfl
theorem csS_t (r : Es) : csS Φ r ρ s true = semCs Φ r ρ s := rfl
theorem csS_f (r : Es) : csS Φ r ρ s false = .ok false s := rfl
theorem csS_n : ∀ b, csS Φ .nil ρ s b = .ok b s := fun b => by cases b <;> first | rfl | exact Cs_nil
theorem compL_fm {f : PyData → Stt → Res (Option PyData)} {g : PyData → Option PyData} {st : Stt} : ∀ {xs : List PyData}, (∀ x ∈ xs, f x st = .ok (g x) st) → compL f xs st = .ok (xs.filterMap g) st
  | [], _ => rfl
  | x :: xs, h => by
    unfold compL
    rw [h x List.mem_cons_self, Res.bind_ok, compL_fm fun y hy => h y (List.mem_cons_of_mem _ hy), Res.bind_ok, List.filterMap_cons]
    cases g x <;> rfl
theorem forL_inv {f : PyData → Rho → Stt → Res Fl} (I : Rho → Stt → Prop) : ∀ {xs : List PyData} {ρ : Rho} {st : Stt}, (∀ x ∈ xs, ∀ ρ st, I ρ st → ∃ ρ' st', f x ρ st = .ok (.nx ρ') st' ∧ I ρ' st') → I ρ st → ∃ ρ' st', forL f xs ρ st = .ok (.nx ρ') st' ∧ I ρ' st'
  | [], ρ, st, _, h => ⟨ρ, st, rfl, h⟩
  | x :: xs, ρ, st, hf, h => by
    obtain ⟨ρ1, st1, e1, h1⟩ := hf x List.mem_cons_self ρ st h
    obtain ⟨ρ2, st2, e2, h2⟩ := forL_inv I (fun y hy => hf y (List.mem_cons_of_mem _ hy)) h1
    refine ⟨ρ2, st2, ?_, h2⟩
    unfold forL
    rw [e1, Res.bind_ok]
    exact e2
-- functions
theorem phi_at {fs : List Fn} {g k : Nat} {f : Fn} {as : List W} (hg : fs[g]? = some f) (h : as.length = f.np ∧ f.np ≤ f.N.length) : phi fs (k + 1) g as st = leaveW st.length (semSs (phi fs k) f.body (as.map some ++ List.replicate (f.N.length - as.length) none) st) := by
  show (match fs[g]? with | some f => callF (phi fs k) f as st | none => .bad) = _
  rw [hg]
  show callF (phi fs k) f as st = _
  unfold callF
  rw [if_pos h]
theorem lv_d (n : Nat) (x : PyData) : leaveW n (.ok (.rt (.d x)) s) = .ok (.d x) (s.take n) := rfl
theorem lv_n (n : Nat) (c : C) : leaveW n (.ok (.rt (.new c)) s) = .ok (.new c) (s.take n) := rfl
theorem lv_ex (n : Nat) (x : XV) : leaveW n (.ex x s) = .ex x (s.take n) := rfl
theorem lv_x (n : Nat) : leaveW n (.ok (.nx ρ) s) = .ok (.d .none) (s.take n) := rfl
end
end Gm

/-! Plain facts: the law's feed. -/
namespace Gm
open PySem PySem.Spec PyProof.Rows L2
local macro_rules
  | `(tactic| simp_arith only [$ls,*]) => `(tactic| simp -implicitDefEqProofs only [sem_var, varR_d, varR_own, varR_bor, varR_loc, varR_fn, sem_con, sem_glo, rdk1_s, rdk2_s, rd_d, rd_new, rd_bor, rd_lent, rd_loc, dat_lst, py_d, py_new, arg_d, arg_new, arg_bor, arg_lent, arg_loc, arg_fn, argAll_nil, sems_nil, sems_cons, kEs_a, kPut_a, sem_bin, kBin_a, kBin2_a, sem_neg, kNeg_a, negK_i, truR_b, truR_i, truR_l, truR_t, truR_n, sem_nt, kNot_a, kNot2_a, sem_an, sem_oo, kAn_a, kOo_a, anS_t, anS_f, ooS_t, ooS_f, sem_cmp, kCmp_a, kCmp2_a, cmpK_lt, cmpK_le, cmpK_gt, cmpK_ge, sem_chn, kChn_a, kChn2_a, kChn3_a, chS_t, chS_f, sem_ite, kIte_a, kIte2_a, selE_t, selE_f, sem_tup, sem_lst, kTup_a, kLst_a, pyAll_nil, pyAll_cons, sem_idx, kIdx_a, kIdx2_a, idxK_l, idxK_t, sem_slc, kSlc_a, kSlc2_a, kSlc3_a, slK_l, slK_t, slK_s, kPart_n, kPart_i, sem_sset, kSset_a, ssetW_l, sem_rev, kRev_a, revD_l, revD_t, sem_cal, kCal_a, calR_s, sem_fnv, sem_cav, cavR_fn, cavQ_s, argAll_c, sem_bif, kBif_a, bifR_s, sem_mth, kMth_a, kMth2_a, mthR_s, mth_split, idxK_s, rdAll_nil, rdAll_c, bif_len_l, bif_len_t, bif_tup_l, bif_tup_t, bif_lst_l, bif_lst_t, bif_len_s, bif_str_s, bif_repr, sem_isi, kIsi_a, add_ii, sub_ii, mul_ii, mul_si, mul_ti, fdiv_ii, mod_ii, pow_ii, add_tt, add_ll, Ss_nil, Ss_cons, kSs_n, kSs_r, Ss_frz, frzR_nil, frzR_cons, frz1_own, frz1_d, S_set, kSet_pd, kSet_pn, kSet_pl, kSet_pb, kSet_o, kSet_c, S_par, kPar_a, parR_s, S_unp, kUnp_a, unpR_s, setT_2, setT_3, S_exp, kExp_a, S_ret, kRet_d, kRet_n, kRet_l, S_rtv, rtvR_o, rbind_x, S_rse, kRse_1, kRse_2, rseR_t, S_tre, S_tri, S_ite, kIf_a, kIf2_a, selS_t, selS_f, chgR_o, chgR_l, ownR_s, locR_s, appC_l, extC_l, subC_d, subC_l, lstB_k, lstR_o, lstR_l, lstQ_l, mutR_o, mutR_l, S_sub, kSub_a, subM_t, kSub2_a, subR_s, S_app, appM_t, kApp_a, appR_s, S_ext, extM_t, kExt_a, extR_s, sem_dnew, rd_newD, rd_borD, rd_lentD, dat_dct, py_newD, arg_newD, kSet_pD, dctIn_k, dinR_s, getW_k, gwR_s, sem_get1, kGet1_a, kGet1b_a, sem_get2, kGet2_a, kGet2b_a, kGet2c_a, idxK_d, bif_len_d, bif_int, intD_i, intD_b, intD_s, bif_abs, bif_max2, bif_min2, bif_max1, bif_min1, bif_sum, bif_srt_l, bif_srt_d, bif_dct_t, bif_dct_l, stepF_a, setR_s, setT_nm, S_for, kFor_a, F_of, kItF_dl, kItF_dt, kItF_ds, kItF_n, kItF_b, F_enum, kItE_dl, kItE_dt, kItE_n, kItE_b, I_of, kItI_dl, kItI_dt, kItI_ds, kItI_n, kItI_b, kItI_l, I_rng, F_rng, kRng_a, I_rng2, F_rng2, kRg2_a, I_zip, kZp_a, kZp2_a, rdN_d, rdN_n, rdN_b, rdN_l, zipD_l, zipD_t, kRg3_a, sem_lc, kLc_a, kLc2_a, stepC_nm, stepC_tp, setC_s, wipeR_n, wipeR_c, kCs_a, selC_t, selC_f, kElt_d, kElt_n, Cs_nil, Cs_cons, kC1_a, kC2_a, csS_t, csS_f, csS_n, lv_d, lv_n, lv_ex, lv_x, Res.bind_ok, Res.ofO_some, Res.nox_ok, Option.bind_some, Option.map_some, List.getElem?_cons_zero, List.getElem?_cons_succ, List.set_cons_zero, List.set_cons_succ, $ls,*])
def fFeed : Fn := ⟨"_law_feed", 2, ["_law_script", "_law_at"],
  (.cons (.ret (.lst (.cons (.var 0) (.cons (.var 1) (.cons (.con (.int 0)) (.cons (.con (.int 0)) .nil))))))
  .nil)⟩
def fTake : Fn := ⟨"_law_take", 2, ["_law_feed_here", "_law_many", "_law_found", "_law_cell", "_law_mixed"],
  (.cons (.sub 0 (.con (.int 3)) (.bin .add (.idx (.var 0) (.con (.int 3))) (.con (.int 1))))
  (.cons (.ite (.cmp .ge (.idx (.var 0) (.con (.int 2))) (.var 1))
    (.cons (.set 2 .pure (.bin .mod (.idx (.var 0) (.con (.int 2))) (.var 1)))
    (.cons (.sub 0 (.con (.int 2)) (.bin .fdiv (.idx (.var 0) (.con (.int 2))) (.var 1)))
    (.cons (.ret (.var 2))
    .nil)))
    .nil)
  (.cons (.set 3 .pure (.con (.int 0)))
  (.cons (.ite (.cmp .gt (.bif .len (.cons (.idx (.var 0) (.con (.int 0))) .nil)) (.con (.int 0)))
    (.cons (.set 3 .pure (.idx (.idx (.var 0) (.con (.int 0))) (.bin .mod (.idx (.var 0) (.con (.int 1))) (.bif .len (.cons (.idx (.var 0) (.con (.int 0))) .nil)))))
    .nil)
    .nil)
  (.cons (.sub 0 (.con (.int 1)) (.bin .add (.idx (.var 0) (.con (.int 1))) (.con (.int 1))))
  (.cons (.ite (.cmp .ge (.var 3) (.bin .pow (.con (.int 10)) (.con (.int 18))))
    (.cons (.sub 0 (.con (.int 2)) (.bin .fdiv (.var 3) (.var 1)))
    (.cons (.ret (.bin .mod (.var 3) (.var 1)))
    .nil))
    .nil)
  (.cons (.set 4 .pure (.bin .mod (.bin .mul (.bin .add (.bin .add (.bin .mod (.var 3) (.con (.int 2147483629))) (.bin .mul (.con (.int 7919)) (.idx (.var 0) (.con (.int 3))))) (.bin .mul (.con (.int 31)) (.idx (.var 0) (.con (.int 1))))) (.con (.int 48271))) (.con (.int 2147483647))))
  (.cons (.set 4 .pure (.bin .mod (.bin .mul (.bin .add (.bin .fdiv (.var 4) (.con (.int 13))) (.bin .mul (.con (.int 6151)) (.idx (.var 0) (.con (.int 3))))) (.con (.int 69621))) (.con (.int 2147483587))))
  (.cons (.ret (.bin .mod (.bin .fdiv (.var 4) (.con (.int 11))) (.var 1)))
  .nil)))))))))⟩
/-- the feed: the script, where it stands, what is left, a count -/
def FeedOk (c : C) : Prop := ∃ (ns : List Int) (a b d : Int), c = .lst [.list (ns.map PyData.int), .int a, .int b, .int d]
theorem atI_nat {α : Type} (xs : List α) (i : Nat) (h : i < xs.length) : atI xs (i : Int) = some xs[i] := by
  have h0 : (0 : Int) ≤ (i : Int) := Int.natCast_nonneg i
  have h1 : (i : Int) < (xs.length : Int) := by omega
  unfold atI ixN
  rw [if_pos h0, if_pos h1]
  simp [h]
theorem atI_mod {α : Type} (xs : List α) (a : Int) (h : 0 < xs.length) : ∃ x, atI xs (a % (xs.length : Int)) = some x ∧ x ∈ xs := by
  have h1 : (0 : Int) < (xs.length : Int) := by omega
  have h2 := Int.emod_nonneg a (by omega : (xs.length : Int) ≠ 0)
  have h3 := Int.emod_lt_of_pos a h1
  obtain ⟨i, e⟩ : ∃ i : Nat, a % (xs.length : Int) = (i : Int) := ⟨(a % (xs.length : Int)).toNat, by omega⟩
  have hl : i < xs.length := by omega
  exact ⟨xs[i], by rw [e]; exact atI_nat xs i hl, List.getElem_mem _⟩
theorem atI_0 {α : Type} (x : α) (xs : List α) : atI (x :: xs) 0 = some x := by
  exact atI_nat (x :: xs) 0 (by simp)
theorem atI_1 {α : Type} (x y : α) (xs : List α) : atI (x :: y :: xs) 1 = some y := by
  exact atI_nat (x :: y :: xs) 1 (by simp)
theorem atI_2 {α : Type} (x y z : α) (xs : List α) : atI (x :: y :: z :: xs) 2 = some z := by
  exact atI_nat (x :: y :: z :: xs) 2 (by simp)
theorem atI_3 {α : Type} (x y z w : α) (xs : List α) : atI (x :: y :: z :: w :: xs) 3 = some w := by
  exact atI_nat (x :: y :: z :: w :: xs) 3 (by simp)
theorem ix4_1 : ixN 4 1 = some 1 := by decide
theorem ix4_2 : ixN 4 2 = some 2 := by decide
theorem ix4_3 : ixN 4 3 = some 3 := by decide
theorem len4 {α : Type} (x y z w : α) : [x, y, z, w].length = 4 := rfl
theorem p18 : ((0 : Int) ≤ 18 ∧ (18 : Int) ≤ 1000000 ∧ True) = True := by decide
theorem m1 : ((0 : Int) < 2147483629) = True := by decide
theorem m2 : ((0 : Int) < 2147483647) = True := by decide
theorem m3 : ((0 : Int) < 2147483587) = True := by decide
theorem m4 : ((0 : Int) < 13 ∧ (13 : Int) < 1073741824) = True := by decide
theorem m5 : ((0 : Int) < 11 ∧ (11 : Int) < 1073741824) = True := by decide
theorem w64_a : within64 7919 = true := by decide
theorem w64_b : within64 31 = true := by decide
theorem w64_c : within64 48271 = true := by decide
theorem w64_d : within64 6151 = true := by decide
theorem w64_e : within64 69621 = true := by decide
theorem w64_f : within64 10 = true := by decide
section
variable {Φ : Phi} {rest : Stt} {n : Int}
theorem take_body {c : C} (hc : FeedOk c) (h0 : 0 < n) (h1 : n < 1073741824) :
    ∃ r c', 0 ≤ r ∧ r < n ∧ FeedOk c' ∧ leaveW (rest.length + 1) (semSs Φ fTake.body [some (.loc 0), some (.d (.int n)), none, none, none] (c :: rest)) = .ok (.d (.int r)) (c' :: rest) := by
  have hr : ∀ z : Int, 0 ≤ z % n ∧ z % n < n := fun z => ⟨Int.emod_nonneg z (by omega), Int.emod_lt_of_pos z h0⟩
  suffices h : ∃ z c', FeedOk c' ∧ leaveW (rest.length + 1) (semSs Φ fTake.body [some (.loc 0), some (.d (.int n)), none, none, none] (c :: rest)) = .ok (.d (.int (z % n))) (c' :: rest) by
    obtain ⟨z, c', h1, h2⟩ := h
    exact ⟨z % n, c', (hr z).1, (hr z).2, h1, h2⟩
  obtain ⟨ns, a, b, d, rfl⟩ := hc
  have hn1 : (n < 1073741824) = True := eq_true h1
  have hn0 : (0 < n) = True := eq_true h0
  have hlen : (ns.map PyData.int).length = ns.length := List.length_map ..
  by_cases hb : n ≤ b
  · simp_arith only [fTake, atI_0, atI_1, atI_2, atI_3, len4, ix4_1, ix4_2, ix4_3, hn0, hn1, and_self, if_true, hb, decide_true, List.take_succ_cons, List.take_length]
    exact ⟨_, _, ⟨ns, a, b / n, d + 1, rfl⟩, rfl⟩
  · by_cases hl : 0 < ns.length
    · obtain ⟨x, hx, hm⟩ := atI_mod (ns.map PyData.int) a (by rw [hlen]; exact hl)
      obtain ⟨z, _, rfl⟩ := List.mem_map.mp hm
      have hli : (0 < (((ns.map PyData.int).length : Nat) : Int)) = True := eq_true (by rw [hlen]; omega)
      by_cases hz : (10 : Int) ^ 18 ≤ z
      · have hz' : ((10 : Int) ^ (18 : Int).toNat ≤ z) = True := eq_true hz
        simp_arith only [fTake, atI_0, atI_1, atI_2, atI_3, len4, ix4_1, ix4_2, ix4_3, hn0, hn1, and_self, if_true, hb, decide_false, hli, decide_true, hx, w64_f, p18, hz', List.take_succ_cons, List.take_length]
        exact ⟨_, _, ⟨ns, a + 1, z / n, d + 1, rfl⟩, rfl⟩
      · have hz' : ((10 : Int) ^ (18 : Int).toNat ≤ z) = False := eq_false hz
        simp_arith only [fTake, atI_0, atI_1, atI_2, atI_3, len4, ix4_1, ix4_2, ix4_3, hn0, hn1, and_self, if_true, hb, decide_false, hli, decide_true, hx, w64_f, w64_a, w64_b, w64_c, w64_d, w64_e, Bool.or_true, Bool.true_or, p18, hz', m1, m2, m3, m4, m5, List.take_succ_cons, List.take_length]
        exact ⟨_, _, ⟨ns, a + 1, b, d + 1, rfl⟩, rfl⟩
    · have hli : (0 < (((ns.map PyData.int).length : Nat) : Int)) = False := eq_false (by rw [hlen]; omega)
      have hz' : ((10 : Int) ^ (18 : Int).toNat ≤ 0) = False := eq_false (by decide)
      simp_arith only [fTake, atI_0, atI_1, atI_2, atI_3, len4, ix4_1, ix4_2, ix4_3, hn0, hn1, and_self, if_true, hb, decide_false, hli, decide_true, w64_f, w64_a, w64_b, w64_c, w64_d, w64_e, Bool.or_true, Bool.true_or, p18, hz', m1, m2, m3, m4, m5, List.take_succ_cons, List.take_length]
      exact ⟨_, _, ⟨ns, a + 1, b, d + 1, rfl⟩, rfl⟩
end
/-- the feed is made; a draw from it: whatever is drawn lies below n -/
theorem feed_ok {fs : List Fn} {g k : Nat} {ns : List Int} {i : Int} (hg : fs[g]? = some fFeed) : ∃ c, FeedOk c ∧ phi fs (k + 1) g [.d (.list (ns.map PyData.int)), .d (.int i)] [] = .ok (.new c) [] := by
  refine ⟨_, ⟨ns, i, 0, 0, rfl⟩, ?_⟩
  rw [phi_at hg ⟨rfl, by decide⟩]
  simp only [fFeed, List.map_cons, List.map_nil, List.cons_append, List.nil_append, sem_var, varR_d, varR_own, varR_bor, varR_loc, varR_fn, sem_con, sem_glo, rdk1_s, rdk2_s, rd_d, rd_new, rd_bor, rd_lent, rd_loc, dat_lst, py_d, py_new, arg_d, arg_new, arg_bor, arg_lent, arg_loc, arg_fn, argAll_nil, sems_nil, sems_cons, kEs_a, kPut_a, sem_bin, kBin_a, kBin2_a, sem_neg, kNeg_a, negK_i, truR_b, truR_i, truR_l, truR_t, truR_n, sem_nt, kNot_a, kNot2_a, sem_an, sem_oo, kAn_a, kOo_a, anS_t, anS_f, ooS_t, ooS_f, sem_cmp, kCmp_a, kCmp2_a, cmpK_lt, cmpK_le, cmpK_gt, cmpK_ge, sem_chn, kChn_a, kChn2_a, kChn3_a, chS_t, chS_f, sem_ite, kIte_a, kIte2_a, selE_t, selE_f, sem_tup, sem_lst, kTup_a, kLst_a, pyAll_nil, pyAll_cons, sem_idx, kIdx_a, kIdx2_a, idxK_l, idxK_t, sem_slc, kSlc_a, kSlc2_a, kSlc3_a, slK_l, slK_t, slK_s, kPart_n, kPart_i, sem_sset, kSset_a, ssetW_l, sem_rev, kRev_a, revD_l, revD_t, sem_cal, kCal_a, calR_s, sem_fnv, sem_cav, cavR_fn, cavQ_s, argAll_c, sem_bif, kBif_a, bifR_s, sem_mth, kMth_a, kMth2_a, mthR_s, mth_split, idxK_s, rdAll_nil, rdAll_c, bif_len_l, bif_len_t, bif_tup_l, bif_tup_t, bif_lst_l, bif_lst_t, bif_len_s, bif_str_s, bif_repr, sem_isi, kIsi_a, add_ii, sub_ii, mul_ii, mul_si, mul_ti, fdiv_ii, mod_ii, pow_ii, add_tt, add_ll, Ss_nil, Ss_cons, kSs_n, kSs_r, Ss_frz, frzR_nil, frzR_cons, frz1_own, frz1_d, S_set, kSet_pd, kSet_pn, kSet_pl, kSet_pb, kSet_o, kSet_c, S_par, kPar_a, parR_s, S_unp, kUnp_a, unpR_s, setT_2, setT_3, S_exp, kExp_a, S_ret, kRet_d, kRet_n, kRet_l, S_rtv, rtvR_o, rbind_x, S_rse, kRse_1, kRse_2, rseR_t, S_tre, S_tri, S_ite, kIf_a, kIf2_a, selS_t, selS_f, chgR_o, chgR_l, ownR_s, locR_s, appC_l, extC_l, subC_d, subC_l, lstB_k, lstR_o, lstR_l, lstQ_l, mutR_o, mutR_l, S_sub, kSub_a, subM_t, kSub2_a, subR_s, S_app, appM_t, kApp_a, appR_s, S_ext, extM_t, kExt_a, extR_s, sem_dnew, rd_newD, rd_borD, rd_lentD, dat_dct, py_newD, arg_newD, kSet_pD, dctIn_k, dinR_s, getW_k, gwR_s, sem_get1, kGet1_a, kGet1b_a, sem_get2, kGet2_a, kGet2b_a, kGet2c_a, idxK_d, bif_len_d, bif_int, intD_i, intD_b, intD_s, bif_abs, bif_max2, bif_min2, bif_max1, bif_min1, bif_sum, bif_srt_l, bif_srt_d, bif_dct_t, bif_dct_l, stepF_a, setR_s, setT_nm, S_for, kFor_a, F_of, kItF_dl, kItF_dt, kItF_ds, kItF_n, kItF_b, F_enum, kItE_dl, kItE_dt, kItE_n, kItE_b, I_of, kItI_dl, kItI_dt, kItI_ds, kItI_n, kItI_b, kItI_l, I_rng, F_rng, kRng_a, I_rng2, F_rng2, kRg2_a, I_zip, kZp_a, kZp2_a, rdN_d, rdN_n, rdN_b, rdN_l, zipD_l, zipD_t, kRg3_a, sem_lc, kLc_a, kLc2_a, stepC_nm, stepC_tp, setC_s, wipeR_n, wipeR_c, kCs_a, selC_t, selC_f, kElt_d, kElt_n, Cs_nil, Cs_cons, kC1_a, kC2_a, csS_t, csS_f, csS_n, lv_d, lv_n, lv_ex, lv_x, Res.bind_ok, Res.ofO_some, Res.nox_ok, Option.bind_some, Option.map_some, List.getElem?_cons_zero, List.getElem?_cons_succ, List.set_cons_zero, List.set_cons_succ, pyAll_nil]
  rfl
theorem take_ok {fs : List Fn} {g k : Nat} {c : C} {rest : Stt} {n : Int} (hg : fs[g]? = some fTake) (hc : FeedOk c) (h0 : 0 < n) (h1 : n < 1073741824) :
    ∃ r c', 0 ≤ r ∧ r < n ∧ FeedOk c' ∧ phi fs (k + 1) g [.loc 0, .d (.int n)] (c :: rest) = .ok (.d (.int r)) (c' :: rest) := by
  rw [phi_at hg ⟨rfl, by decide⟩]
  exact take_body hc h0 h1
end Gm

/-! Plain facts: data. -/
namespace Gm
open PySem PySem.Spec PyProof.Rows L2
/-! ### how long a text of data is -/
mutual
def szR : PyData → Nat
  | .none => 4
  | .bool _ => 5
  | .int _ => 1922
  | .str x => (reprText x).length
  | .list xs => szRs xs + 2
  | .tuple xs => szRs xs + 4
  | .dict _ => 0
def szRs : List PyData → Nat
  | [] => 0
  | x :: xs => szR x + 2 + szRs xs
end
theorem join_le : ∀ ts : List Str, (Str.join ", " ts).length ≤ piled ts
  | [] => Nat.le_refl _
  | t :: r => by
    have := join_length_add (t :: r) (by simp)
    omega
theorem listText_le (ts : List Str) : (listText ts).length ≤ piled ts + 2 := by
  cases ts with
  | nil => decide
  | cons t r =>
    have h := textFrom_length_pos r 1 (("[" : Str) ++ (if (0 : Nat) > 0 then ", " else "" : String) ++ t) (Nat.succ_pos 0)
    have e : ((("[" : Str) ++ (if (0 : Nat) > 0 then ", " else "" : String) ++ t)).length = 1 + t.length := by
      rw [strLen_append, strLen_append]
      have e1 : (("[" : String) : Str).length = 1 := rfl
      have e2 : (((if (0 : Nat) > 0 then ", " else "" : String) : Str)).length = 0 := rfl
      omega
    have e3 : listText (t :: r) = textFrom 1 (("[" : Str) ++ (if (0 : Nat) > 0 then ", " else "" : String) ++ t) r ++ "]" := rfl
    have e4 : ((("]" : String) : Str)).length = 1 := rfl
    rw [e3, strLen_append, h, e, piled_cons, e4]
    omega
theorem tupleText_le (ts : List Str) : (tupleText ts).length ≤ piled ts + 4 := by
  unfold tupleText
  rw [strLen_append, strLen_append]
  have e1 : ((("(" : String) : Str)).length = 1 := rfl
  have e3 : (((if ts.length == 1 then ",)" else ")" : String) : Str)).length ≤ 2 := by split <;> decide
  have := join_le ts
  omega
mutual
/-- data that repr shows -/
def shw : PyData → Bool
  | .none => true
  | .bool _ => true
  | .int i => decide (i.natAbs.log2 < 1920)
  | .str _ => true
  | .list xs => shws xs
  | .tuple xs => shws xs
  | .dict _ => false
def shws : List PyData → Bool
  | [] => true
  | x :: xs => shw x && shws xs
end
mutual
theorem shw_ok : ∀ d : PyData, shw d = true → d.showable = true ∧ d.shown.length ≤ szR d
  | .none, _ => by simp only [PyData.shown, szR, PyData.showable]; decide
  | .bool b, _ => by cases b <;> (simp only [PyData.shown, szR, PyData.showable]; decide)
  | .int i, h => by
    simp only [shw] at h
    simp only [PyData.shown, szR, PyData.showable]
    have := int_text_length_le (a := i) (k := 1920) (by decide) (of_decide_eq_true h)
    exact ⟨h, by rw [PySem.ofString_length]; omega⟩
  | .str x, _ => by simp only [PyData.shown, szR, PyData.showable]; exact ⟨trivial, Nat.le_refl _⟩
  | .list xs, h => by
    simp only [shw] at h
    simp only [PyData.shown, szR, PyData.showable]
    have := listText_le (PyData.shownAll xs)
    have := shws_ok xs h
    exact ⟨this.1, by omega⟩
  | .tuple xs, h => by
    simp only [shw] at h
    simp only [PyData.shown, szR, PyData.showable]
    have := tupleText_le (PyData.shownAll xs)
    have := shws_ok xs h
    exact ⟨this.1, by omega⟩
  | .dict kvs, h => by simp only [shw] at h; cases h
theorem shws_ok : ∀ ds : List PyData, shws ds = true → PyData.showableAll ds = true ∧ piled (PyData.shownAll ds) ≤ szRs ds
  | [], _ => ⟨rfl, Nat.le_refl _⟩
  | d :: ds, h => by
    simp only [shws, Bool.and_eq_true] at h
    simp only [PyData.shownAll, szRs, piled_cons, PyData.showableAll, Bool.and_eq_true]
    have h1 := shw_ok d h.1
    have h2 := shws_ok ds h.2
    exact ⟨⟨h1.1, h2.1⟩, by omega⟩
end
mutual
theorem shw_nd : ∀ d : PyData, shw d = true → d.hasDict = false
  | .none, _ => by simp only [PyData.hasDict]
  | .bool _, _ => by simp only [PyData.hasDict]
  | .int _, _ => by simp only [PyData.hasDict]
  | .str _, _ => by simp only [PyData.hasDict]
  | .list xs, h => by simp only [shw] at h; simp only [PyData.hasDict]; exact shws_nd xs h
  | .tuple xs, h => by simp only [shw] at h; simp only [PyData.hasDict]; exact shws_nd xs h
  | .dict _, h => by simp only [shw] at h; cases h
theorem shws_nd : ∀ ds : List PyData, shws ds = true → PyData.hasDictAll ds = false
  | [], _ => by simp only [PyData.hasDictAll]
  | d :: ds, h => by
    simp only [shws, Bool.and_eq_true] at h
    simp only [PyData.hasDictAll, shw_nd d h.1, shws_nd ds h.2, Bool.or_self]
end
theorem reprD_ok {d : PyData} (h1 : shw d = true) (h2 : d.depth ≤ 64) (h3 : szR d ≤ lineN) : reprD d = some (.str d.shown) := by
  unfold reprD
  have := shw_ok d h1
  have h4 : d.shown.length ≤ lineN := Nat.le_trans this.2 h3
  rw [this.1, decide_eq_true h2, decide_eq_true h4, shw_nd d h1]
  rfl
theorem reprD_b (b : Bool) : reprD (.bool b) = some (.str (PyData.bool b).shown) := reprD_ok rfl (by simp only [PyData.depth]; omega) (by simp only [szR]; decide)
/-! ### cuts -/
theorem cut_to {xs : List PyData} (n : Nat) : cutD xs none (some (n : Int)) = xs.take n := by
  unfold cutD
  rw [HT.sIx_none, HT.sIx_nat, List.drop_zero, Nat.sub_zero]
  by_cases h : n ≤ xs.length
  · rw [Nat.min_eq_left h]
  · rw [Nat.min_eq_right (by omega), List.take_of_length_le (Nat.le_refl _), List.take_of_length_le (by omega)]
theorem cut_from {xs : List PyData} (n : Nat) : cutD xs (some (n : Int)) none = xs.drop n := by
  unfold cutD
  rw [HT.sIx_none, HT.sIx_nat]
  by_cases h : n ≤ xs.length
  · rw [Nat.min_eq_left h, List.take_of_length_le (by rw [List.length_drop]; omega)]
  · rw [Nat.min_eq_right (by omega), List.drop_of_length_le (Nat.le_refl _), List.drop_of_length_le (by omega), List.take_nil]
theorem cut_last {xs : List PyData} : cutD xs none (some (-1)) = xs.dropLast := by
  unfold cutD
  have e : HT.sIx xs.length xs.length (some (-1)) = xs.length - 1 := by
    show (if (-1 : Int) < 0 then ((-1 : Int) + (xs.length : Int)).toNat else min (-1 : Int).toNat xs.length) = _
    rw [if_pos (by decide)]
    omega
  rw [HT.sIx_none, e, List.drop_zero, Nat.sub_zero, List.dropLast_eq_take]
/-! ### tuples of ints -/
abbrev tuI (is : List Int) : PyData := .tuple (is.map PyData.int)
theorem eqv_ints : ∀ is js : List Int, PyData.eqvAll (is.map PyData.int) (js.map PyData.int) = decide (is = js)
  | [], [] => by simp [PyData.eqvAll]
  | [], _ :: _ => by simp [PyData.eqvAll]
  | _ :: _, [] => by simp [PyData.eqvAll]
  | i :: is, j :: js => by
    simp only [List.map_cons, PyData.eqvAll, PyData.eqv, eqv_ints is js]
    by_cases h : i = j <;> by_cases h2 : is = js <;> simp [h, h2]
theorem lay_ints : ∀ is : List Int, PyData.canLayAll0 (is.map PyData.int) = true
  | [] => by simp [PyData.canLayAll0]
  | i :: is => by simp [PyData.canLayAll0, PyData.canLay0, lay_ints is]
theorem dep_ints : ∀ is : List Int, PyData.depthAll (is.map PyData.int) = 0
  | [] => by simp [PyData.depthAll]
  | i :: is => by simp [PyData.depthAll, PyData.depth, dep_ints is]
theorem shp_tI (is : List Int) : SeqAt.shaped (tuI is) = true := by
  unfold SeqAt.shaped
  simp [PyData.canLay0, PyData.depth, lay_ints, dep_ints]
theorem shp_lI (is : List Int) : SeqAt.shaped (.list (is.map PyData.int)) = true := by
  unfold SeqAt.shaped
  simp [PyData.canLay0, PyData.depth, lay_ints, dep_ints]
theorem eqD_tI (is js : List Int) : eqD (tuI is) (tuI js) = some (decide (is = js)) := by
  show eqS _ _ = _
  unfold eqS
  rw [shp_tI, shp_tI, Bool.and_true, if_pos rfl, PyData.eqv, eqv_ints]
theorem eqD_lI (is js : List Int) : eqD (.list (is.map PyData.int)) (.list (js.map PyData.int)) = some (decide (is = js)) := by
  show eqS _ _ = _
  unfold eqS
  rw [shp_lI, shp_lI, Bool.and_true, if_pos rfl, PyData.eqv, eqv_ints]
theorem eqD_ii (i j : Int) : eqD (.int i) (.int j) = some (decide (i = j)) := by
  show eqS _ _ = _
  unfold eqS
  rw [show SeqAt.shaped (.int i) = true from rfl, show SeqAt.shaped (.int j) = true from rfl, Bool.and_true, if_pos rfl, PyData.eqv]
  congr 1
theorem eqD_ss (i j : Str) : eqD (.str i) (.str j) = some (decide (i = j)) := rfl
theorem cmp_eq (x y : PyData) : cmpK .eq x y = toB (eqD x y) := rfl
theorem cmp_ne (x y : PyData) : cmpK .ne x y = toB ((eqD x y).map (!·)) := rfl
theorem toB_s (b : Bool) : toB (some b) = some (.d (.bool b)) := rfl
theorem atI_map {is : List Int} {i : Int} (h0 : 0 ≤ i) (h1 : i < (is.length : Int)) : ∃ z, atI (is.map PyData.int) i = some (.int z) ∧ z ∈ is ∧ is[i.toNat]? = some z := by
  obtain ⟨n, rfl⟩ : ∃ n : Nat, i = (n : Int) := ⟨i.toNat, by omega⟩
  have hn : n < is.length := by omega
  refine ⟨is[n], ?_, List.getElem_mem _, by simp [hn]⟩
  rw [atI_nat _ _ (by simpa using hn)]
  simp
theorem forL_ix {f : PyData → Rho → Stt → Res Fl} (I : Nat → Rho → Stt → Prop) (xs : List PyData) {ρ : Rho} {st : Stt} (hf : ∀ i x, xs[i]? = some x → ∀ ρ st, I i ρ st → ∃ ρ' st', f x ρ st = .ok (.nx ρ') st' ∧ I (i + 1) ρ' st') (h : I 0 ρ st) : ∃ ρ' st', forL f xs ρ st = .ok (.nx ρ') st' ∧ I xs.length ρ' st' := by
  have key : ∀ (ys : List PyData) (i : Nat) (ρ : Rho) (st : Stt), xs.drop i = ys → I i ρ st → ∃ ρ' st', forL f ys ρ st = .ok (.nx ρ') st' ∧ I (i + ys.length) ρ' st' := by
    intro ys
    induction ys with
    | nil => intro i ρ st _ h; exact ⟨ρ, st, rfl, h⟩
    | cons x ys ih =>
      intro i ρ st e h
      have hx : xs[i]? = some x := by
        have : (xs.drop i)[0]? = some x := by rw [e]; rfl
        simpa using this
      obtain ⟨ρ1, st1, e1, h1⟩ := hf i x hx ρ st h
      have e2 : xs.drop (i + 1) = ys := by
        have : (xs.drop i).drop 1 = ys := by rw [e]; rfl
        rwa [List.drop_drop] at this
      obtain ⟨ρ2, st2, e3, h2⟩ := ih (i + 1) ρ1 st1 e2 h1
      refine ⟨ρ2, st2, ?_, by rw [List.length_cons]; have e4 : i + (ys.length + 1) = i + 1 + ys.length := by omega
                              rw [e4]; exact h2⟩
      unfold forL
      rw [e1, Res.bind_ok]
      exact e3
  obtain ⟨ρ', st', e, h'⟩ := key xs 0 ρ st (List.drop_zero) h
  exact ⟨ρ', st', e, by rw [Nat.zero_add] at h'; exact h'⟩
/-- what is asked of the draws -/
structure FeedH (Φ : Phi) (gf gt : Nat) : Prop where
  feed : ∀ (ns : List Int) (i : Int), ∃ c, FeedOk c ∧ Φ gf [.d (.list (ns.map PyData.int)), .d (.int i)] [] = .ok (.new c) []
  take : ∀ (c : C) (rest : Stt) (n : Int), FeedOk c → 0 < n → n < 1073741824 → ∃ r c', 0 ≤ r ∧ r < n ∧ FeedOk c' ∧ Φ gt [.loc 0, .d (.int n)] (c :: rest) = .ok (.d (.int r)) (c' :: rest)
theorem feedH {fs : List Fn} {gf gt k : Nat} (h1 : fs[gf]? = some fFeed) (h2 : fs[gt]? = some fTake) : FeedH (phi fs (k + 1)) gf gt := ⟨fun _ _ => feed_ok h1, fun _ _ _ hc h0 h1 => take_ok h2 hc h0 h1⟩
end Gm

/-! Plain facts: what holds behind a piece that ends well. -/
namespace Gm
open PySem PySem.Spec PyProof.Rows L2
def Wp {α : Type} (r : Res α) (Q : α → Stt → Prop) : Prop := ∃ a s, r = .ok a s ∧ Q a s
section
variable {α β : Type} {r : Res α} {Q Q' : α → Stt → Prop} {R : β → Stt → Prop} {K : α → Stt → Res β} {st s : Stt}
theorem Wp_ok (a : α) : Wp (.ok a s) Q = Q a s := by
  apply propext
  constructor
  · rintro ⟨_, _, e, h⟩
    cases e
    exact h
  · exact fun h => ⟨a, s, rfl, h⟩
theorem Wp_bind : Wp (r.bind K) R = Wp r fun a s => Wp (K a s) R := by
  apply propext
  cases r with
  | ok a s => rw [Wp_ok]; rfl
  | ex x s => exact ⟨fun ⟨_, _, e, _⟩ => (nomatch e), fun ⟨_, _, e, _⟩ => (nomatch e)⟩
  | bad => exact ⟨fun ⟨_, _, e, _⟩ => (nomatch e), fun ⟨_, _, e, _⟩ => (nomatch e)⟩
theorem Wp.imp (h : Wp r Q) (i : ∀ a s, Q a s → Q' a s) : Wp r Q' := let ⟨a, s, e, q⟩ := h; ⟨a, s, e, i a s q⟩
theorem Wp.of {a : α} (e : r = .ok a s) (h : Q a s) : Wp r Q := ⟨a, s, e, h⟩
theorem Wp_nox : Wp r.nox Q = Wp r Q := by
  apply propext
  cases r with
  | ok a s => rfl
  | ex x s => exact ⟨fun ⟨_, _, e, _⟩ => (nomatch e), fun ⟨_, _, e, _⟩ => (nomatch e)⟩
  | bad => rfl
/-! ### an end with an exception -/
def Wr {α : Type} (r : Res α) (Q : α → Stt → Prop) (Y : XV → Stt → Prop) : Prop := match r with
  | .ok a s => Q a s
  | .ex x s => Y x s
  | .bad => False
section
variable {Y Y' : XV → Stt → Prop}
theorem Wr_ok (a : α) : Wr (.ok a s) Q Y = Q a s := rfl
theorem Wr_ex (x : XV) : Wr (α := α) (.ex x s) Q Y = Y x s := rfl
theorem Wr_bind : Wr (r.bind K) R Y = Wr r (fun a s => Wr (K a s) R Y) Y := by cases r <;> rfl
theorem Wr.imp (h : Wr r Q Y) (i : ∀ a s, Q a s → Q' a s) (j : ∀ x s, Y x s → Y' x s) : Wr r Q' Y' := by
  cases r with
  | ok a s => exact i a s h
  | ex x s => exact j x s h
  | bad => exact h
theorem Wr.ofWp (h : Wp r Q) : Wr r Q Y := by
  obtain ⟨a, s, rfl, q⟩ := h
  exact q
theorem Wr.of (h : Wp r Q) (i : ∀ a s, Q a s → Q' a s) : Wr r Q' Y := Wr.ofWp (h.imp i)
theorem Wr_nox : Wr r.nox Q Y = Wp r Q := by
  apply propext
  cases r with
  | ok a s => exact ⟨fun h => ⟨a, s, rfl, h⟩, fun ⟨_, _, e, h⟩ => by cases e; exact h⟩
  | ex x s => exact ⟨fun h => h.elim, fun ⟨_, _, e, _⟩ => (nomatch e)⟩
  | bad => exact ⟨fun h => h.elim, fun ⟨_, _, e, _⟩ => (nomatch e)⟩
theorem wr_leave {k : Nat} {r : Res Fl} {Q : W → Stt → Prop} (h : Wr r (fun fl s => Wr (leaveW k (.ok fl s)) Q Y) fun x s => Y x (s.take k)) : Wr (leaveW k r) Q Y := by
  cases r with
  | ok fl s => exact h
  | ex x s => exact h
  | bad => exact h
/-- try -/
theorem Wp_tre {ms : List (Str × Bool)} {n : Option Nat} {h : Hs} {ρ : Rho} {r : Res Fl} {Q : Fl → Stt → Prop} : Wp (treK ms n h ρ r) Q = Wr r Q fun x s => Wp (treK ms n h ρ (.ex x s)) Q := by
  apply propext
  cases r with
  | ok a s => exact ⟨fun ⟨_, _, e, h⟩ => by cases e; exact h, fun h => ⟨a, s, rfl, h⟩⟩
  | ex x s => exact Iff.rfl
  | bad => exact ⟨fun ⟨_, _, e, _⟩ => (nomatch e), fun h => h.elim⟩
theorem tre_x {ms : List (Str × Bool)} {n : Option Nat} {h : Hs} {ρ ρ' : Rho} {x : XV} (h1 : ms.lookup x.cls = some true) (h2 : nsB ρ n = true) (h3 : semHs x h ρ = some ρ') : treK ms n h ρ (.ex x s) = .ok (.nx ρ') s := by
  show (match ms.lookup x.cls with
    | some true => treH x h ρ n s
    | some false => .ex x s
    | none => .bad) = _
  rw [h1]
  show treH x h ρ n s = _
  unfold treH
  rw [h2, h3]
  rfl
theorem wr_forL {f : PyData → Rho → Stt → Res Fl} (I : Nat → Rho → Stt → Prop) : ∀ {xs : List PyData} {ρ : Rho} {st : Stt} {Q : Fl → Stt → Prop}, I 0 ρ st → (∀ i x, xs[i]? = some x → ∀ ρ st, I i ρ st → Wr (f x ρ st) (fun fl st' => ∃ ρ', fl = .nx ρ' ∧ I (i + 1) ρ' st') Y) → (∀ ρ' st', I xs.length ρ' st' → Q (.nx ρ') st') → Wr (forL f xs ρ st) Q Y
  | [], ρ, st, Q, h, _, q => q ρ st h
  | x :: xs, ρ, st, Q, h, hf, q => by
    unfold forL
    rw [Wr_bind]
    refine (hf 0 x rfl ρ st h).imp (fun fl s ⟨ρ', e, h'⟩ => ?_) fun _ _ h => h
    subst e
    exact wr_forL (fun i => I (i + 1)) h' (fun i y hy => hf (i + 1) y (by rw [List.getElem?_cons_succ]; exact hy)) fun ρ' st' hh => q ρ' st' (by rw [List.length_cons]; exact hh)
end
/-- an item at a place within -/
theorem wp_at {β : Type} {f : β → α} {xs : List β} {i : Int} (h0 : 0 ≤ i) (h1 : i < ((xs.length : Nat) : Int)) (h : ∀ x ∈ xs, Q (f x) st) : Wp (Res.ofO st ((atI xs i).map f)) Q := by
  obtain ⟨n, rfl⟩ : ∃ n : Nat, i = (n : Int) := ⟨i.toNat, by omega⟩
  rw [atI_nat xs n (by omega)]
  exact ⟨_, _, rfl, h _ (List.getElem_mem _)⟩
theorem wp_atP {β : Type} {f : β → α} {xs : List β} {i : Int} (P : β → Prop) (h0 : 0 ≤ i) (h1 : i < ((xs.length : Nat) : Int)) (hP : ∀ x ∈ xs, P x) (h : ∀ x, P x → Q (f x) st) : Wp (Res.ofO st ((atI xs i).map f)) Q := wp_at h0 h1 fun x hx => h x (hP x hx)
theorem wp_leave {k : Nat} {r : Res Fl} {Q : W → Stt → Prop} (h : Wp r fun fl s => Wp (leaveW k (.ok fl s)) Q) : Wp (leaveW k r) Q := by
  obtain ⟨fl, s, rfl, h⟩ := h
  exact h
theorem wp_compL {f : PyData → Stt → Res (Option PyData)} (I : Stt → Prop) (P : PyData → Prop) : ∀ {xs : List PyData} {st : Stt} {Q : List PyData → Stt → Prop}, I st → (∀ x ∈ xs, ∀ st, I st → Wp (f x st) fun o st' => I st' ∧ ∃ y, o = some y ∧ P y) → (∀ ys st', I st' → ys.length = xs.length → (∀ y ∈ ys, P y) → Q ys st') → Wp (compL f xs st) Q
  | [], st, Q, h, _, q => ⟨[], st, rfl, q [] st h rfl fun _ h => (nomatch h)⟩
  | x :: xs, st, Q, h, hf, q => by
    obtain ⟨o, s1, e1, h1, y, rfl, hy⟩ := hf x List.mem_cons_self st h
    unfold compL
    rw [e1, Res.bind_ok, Wp_bind]
    refine wp_compL I P h1 (fun z hz => hf z (List.mem_cons_of_mem _ hz)) fun ys s2 h2 hl hys => ?_
    rw [Wp_ok]
    refine q (y :: ys) s2 h2 (by rw [List.length_cons, List.length_cons, hl]) fun z hz => ?_
    rcases List.mem_cons.mp hz with rfl | hz
    · exact hy
    · exact hys z hz
/-- a loop that runs through -/
theorem wp_forL {f : PyData → Rho → Stt → Res Fl} (I : Nat → Rho → Stt → Prop) {xs : List PyData} {ρ : Rho} {st : Stt} {Q : Fl → Stt → Prop} (h : I 0 ρ st) (hf : ∀ i x, xs[i]? = some x → ∀ ρ st, I i ρ st → Wp (f x ρ st) fun fl st' => ∃ ρ', fl = .nx ρ' ∧ I (i + 1) ρ' st') (q : ∀ ρ' st', I xs.length ρ' st' → Q (.nx ρ') st') : Wp (forL f xs ρ st) Q := by
  obtain ⟨ρ', st', e, h'⟩ := forL_ix I xs (fun i x hx ρ st hi => by
    obtain ⟨fl, s, e, ρ', rfl, h⟩ := hf i x hx ρ st hi
    exact ⟨ρ', s, e, h⟩) h
  exact ⟨_, _, e, q _ _ h'⟩
theorem wp_forI {f : PyData → Rho → Stt → Res Fl} (I : Rho → Stt → Prop) {xs : List PyData} {ρ : Rho} {st : Stt} {Q : Fl → Stt → Prop} (h : I ρ st) (hf : ∀ x ∈ xs, ∀ ρ st, I ρ st → Wp (f x ρ st) fun fl st' => ∃ ρ', fl = .nx ρ' ∧ I ρ' st') (q : ∀ ρ' st', I ρ' st' → Q (.nx ρ') st') : Wp (forL f xs ρ st) Q :=
  wp_forL (fun _ => I) h (fun i x hx ρ st hi => hf x (List.mem_of_getElem? hx) ρ st hi) q
end
theorem FeedH.wp {Φ : Phi} {gf gt : Nat} (H : FeedH Φ gf gt) {c : C} {rest : Stt} {n : Int} {Q : W → Stt → Prop} (hc : FeedOk c) (h0 : 0 < n) (h1 : n < 1073741824) (h : ∀ r c', 0 ≤ r → r < n → FeedOk c' → Q (.d (.int r)) (c' :: rest)) : Wp (Φ gt [.loc 0, .d (.int n)] (c :: rest)) Q := by
  obtain ⟨r, c', g0, g1, g2, e⟩ := H.take c rest n hc h0 h1
  exact ⟨_, _, e, h r c' g0 g1 g2⟩
end Gm

/-! Plain facts: the other feed (_law_next). -/
namespace Gm
open PySem PySem.Spec PyProof.Rows L2
local macro_rules
  | `(tactic| simp_arith only [$ls,*]) => `(tactic| simp -implicitDefEqProofs only [sem_var, varR_d, varR_own, varR_bor, varR_loc, varR_fn, sem_con, sem_glo, rdk1_s, rdk2_s, rd_d, rd_new, rd_bor, rd_lent, rd_loc, dat_lst, py_d, py_new, arg_d, arg_new, arg_bor, arg_lent, arg_loc, arg_fn, argAll_nil, sems_nil, sems_cons, kEs_a, kPut_a, sem_bin, kBin_a, kBin2_a, sem_neg, kNeg_a, negK_i, truR_b, truR_i, truR_l, truR_t, truR_n, sem_nt, kNot_a, kNot2_a, sem_an, sem_oo, kAn_a, kOo_a, anS_t, anS_f, ooS_t, ooS_f, sem_cmp, kCmp_a, kCmp2_a, cmpK_lt, cmpK_le, cmpK_gt, cmpK_ge, sem_chn, kChn_a, kChn2_a, kChn3_a, chS_t, chS_f, sem_ite, kIte_a, kIte2_a, selE_t, selE_f, sem_tup, sem_lst, kTup_a, kLst_a, pyAll_nil, pyAll_cons, sem_idx, kIdx_a, kIdx2_a, idxK_l, idxK_t, sem_slc, kSlc_a, kSlc2_a, kSlc3_a, slK_l, slK_t, slK_s, kPart_n, kPart_i, sem_sset, kSset_a, ssetW_l, sem_rev, kRev_a, revD_l, revD_t, sem_cal, kCal_a, calR_s, sem_fnv, sem_cav, cavR_fn, cavQ_s, argAll_c, sem_bif, kBif_a, bifR_s, sem_mth, kMth_a, kMth2_a, mthR_s, mth_split, idxK_s, rdAll_nil, rdAll_c, bif_len_l, bif_len_t, bif_tup_l, bif_tup_t, bif_lst_l, bif_lst_t, bif_len_s, bif_str_s, bif_repr, sem_isi, kIsi_a, add_ii, sub_ii, mul_ii, mul_si, mul_ti, fdiv_ii, mod_ii, pow_ii, add_tt, add_ll, Ss_nil, Ss_cons, kSs_n, kSs_r, Ss_frz, frzR_nil, frzR_cons, frz1_own, frz1_d, S_set, kSet_pd, kSet_pn, kSet_pl, kSet_pb, kSet_o, kSet_c, S_par, kPar_a, parR_s, S_unp, kUnp_a, unpR_s, setT_2, setT_3, S_exp, kExp_a, S_ret, kRet_d, kRet_n, kRet_l, S_rtv, rtvR_o, rbind_x, S_rse, kRse_1, kRse_2, rseR_t, S_tre, S_tri, S_ite, kIf_a, kIf2_a, selS_t, selS_f, chgR_o, chgR_l, ownR_s, locR_s, appC_l, extC_l, subC_d, subC_l, lstB_k, lstR_o, lstR_l, lstQ_l, mutR_o, mutR_l, S_sub, kSub_a, subM_t, kSub2_a, subR_s, S_app, appM_t, kApp_a, appR_s, S_ext, extM_t, kExt_a, extR_s, sem_dnew, rd_newD, rd_borD, rd_lentD, dat_dct, py_newD, arg_newD, kSet_pD, dctIn_k, dinR_s, getW_k, gwR_s, sem_get1, kGet1_a, kGet1b_a, sem_get2, kGet2_a, kGet2b_a, kGet2c_a, idxK_d, bif_len_d, bif_int, intD_i, intD_b, intD_s, bif_abs, bif_max2, bif_min2, bif_max1, bif_min1, bif_sum, bif_srt_l, bif_srt_d, bif_dct_t, bif_dct_l, stepF_a, setR_s, setT_nm, S_for, kFor_a, F_of, kItF_dl, kItF_dt, kItF_ds, kItF_n, kItF_b, F_enum, kItE_dl, kItE_dt, kItE_n, kItE_b, I_of, kItI_dl, kItI_dt, kItI_ds, kItI_n, kItI_b, kItI_l, I_rng, F_rng, kRng_a, I_rng2, F_rng2, kRg2_a, I_zip, kZp_a, kZp2_a, rdN_d, rdN_n, rdN_b, rdN_l, zipD_l, zipD_t, kRg3_a, sem_lc, kLc_a, kLc2_a, stepC_nm, stepC_tp, setC_s, wipeR_n, wipeR_c, kCs_a, selC_t, selC_f, kElt_d, kElt_n, Cs_nil, Cs_cons, kC1_a, kC2_a, csS_t, csS_f, csS_n, lv_d, lv_n, lv_ex, lv_x, Res.bind_ok, Res.ofO_some, Res.nox_ok, Option.bind_some, Option.map_some, List.getElem?_cons_zero, List.getElem?_cons_succ, List.set_cons_zero, List.set_cons_succ, $ls,*])
def fFeedN : Fn := ⟨"_law_feed", 1, ["_law_script"],
  (.cons (.ret (.lst (.cons (.bin .add (.slc (.var 0) .nil (.cons (.con (.int 63)) .nil)) (.bin .mul (.lst (.cons (.con (.int 0)) .nil)) (.bif .int (.cons (.cmp .eq (.var 0) (.lst .nil)) .nil)))) (.cons (.con (.int 0)) (.cons (.con (.int 0)) .nil)))))
  .nil)⟩
def fNext : Fn := ⟨"_law_next", 2, ["_law_feed_here", "_law_many", "_law_found", "_law_at", "_law_cell", "_law_first"],
  (.cons (.ite (.cmp .gt (.idx (.var 0) (.con (.int 2))) (.con (.int 0)))
    (.cons (.set 2 .pure (.bin .mod (.idx (.var 0) (.con (.int 2))) (.var 1)))
    (.cons (.sub 0 (.con (.int 2)) (.bin .fdiv (.idx (.var 0) (.con (.int 2))) (.var 1)))
    (.cons (.ret (.var 2))
    .nil)))
    .nil)
  (.cons (.set 3 .pure (.idx (.var 0) (.con (.int 1))))
  (.cons (.sub 0 (.con (.int 1)) (.bin .add (.var 3) (.con (.int 1))))
  (.cons (.set 4 .pure (.idx (.idx (.var 0) (.con (.int 0))) (.bin .mod (.var 3) (.bif .len (.cons (.idx (.var 0) (.con (.int 0))) .nil)))))
  (.cons (.ite (.an (.cmp .ge (.var 4) (.bin .pow (.con (.int 10)) (.con (.int 18)))) (.cmp .lt (.var 3) (.bif .len (.cons (.idx (.var 0) (.con (.int 0))) .nil))))
    (.cons (.sub 0 (.con (.int 2)) (.bin .fdiv (.var 4) (.var 1)))
    (.cons (.ret (.bin .mod (.var 4) (.var 1)))
    .nil))
    .nil)
  (.cons (.set 5 .pure (.bin .mod (.bin .mul (.bin .add (.bin .add (.bin .add (.bin .mod (.var 4) (.con (.int 1000003))) (.bin .mul (.bin .mul (.con (.int 43)) (.var 3)) (.var 3))) (.bin .mul (.con (.int 29)) (.var 3))) (.con (.int 1013))) (.con (.int 51859))) (.con (.int 999907))))
  (.cons (.set 5 .pure (.bin .mod (.bin .add (.bin .add (.bin .mul (.var 5) (.var 5)) (.bin .mul (.con (.int 40763)) (.var 3))) (.con (.int 131))) (.con (.int 2097143))))
  (.cons (.ret (.bin .mod (.bin .fdiv (.bin .mod (.bin .mul (.var 5) (.con (.int 48271))) (.con (.int 2147483629))) (.con (.int 5))) (.var 1)))
  .nil))))))))⟩
/-- the feed: the script or one nought, where it stands (at most m), what is left -/
def FeedN (m : Nat) (c : C) : Prop := ∃ (ns : List Int) (a b : Int), c = .lst [.list (ns.map PyData.int), .int a, .int b] ∧ 0 < ns.length ∧ 0 ≤ a ∧ a ≤ (m : Int)
theorem FeedN.up {m m' : Nat} {c : C} (h : FeedN m c) (hm : m ≤ m') : FeedN m' c := let ⟨ns, a, b, e, h1, h2, h3⟩ := h; ⟨ns, a, b, e, h1, h2, by omega⟩
theorem ix3_1 : ixN 3 1 = some 1 := by decide
theorem ix3_2 : ixN 3 2 = some 2 := by decide
theorem len3' {α : Type} (x y z : α) : [x, y, z].length = 3 := rfl
theorem m1003 : ((0 : Int) < 1000003) = True := by decide
theorem m9999 : ((0 : Int) < 999907) = True := by decide
theorem m2097 : ((0 : Int) < 2097143) = True := by decide
theorem m5' : ((0 : Int) < 5 ∧ (5 : Int) < 1073741824) = True := by decide
theorem w43 : within64 43 = true := by decide
theorem w29 : within64 29 = true := by decide
theorem w518 : within64 51859 = true := by decide
theorem w407 : within64 40763 = true := by decide
theorem w64_lt {i : Int} (h0 : 0 ≤ i) (h1 : i < 18446744073709551616) : within64 i = true := by
  unfold within64
  rw [decide_eq_true (by omega), decide_eq_true (by omega)]
  rfl
section
variable {Φ : Phi} {rest : Stt} {n : Int}
theorem next_body {m : Nat} {c : C} (hc : FeedN m c) (hm : m < 1125899906842624) (h0 : 0 < n) (h1 : n < 1073741824) :
    ∃ r c', 0 ≤ r ∧ r < n ∧ FeedN (m + 1) c' ∧ leaveW (rest.length + 1) (semSs Φ fNext.body [some (.loc 0), some (.d (.int n)), none, none, none, none] (c :: rest)) = .ok (.d (.int r)) (c' :: rest) := by
  have hr : ∀ z : Int, 0 ≤ z % n ∧ z % n < n := fun z => ⟨Int.emod_nonneg z (by omega), Int.emod_lt_of_pos z h0⟩
  suffices h : ∃ z c', FeedN (m + 1) c' ∧ leaveW (rest.length + 1) (semSs Φ fNext.body [some (.loc 0), some (.d (.int n)), none, none, none, none] (c :: rest)) = .ok (.d (.int (z % n))) (c' :: rest) by
    obtain ⟨z, c', h1, h2⟩ := h
    exact ⟨z % n, c', (hr z).1, (hr z).2, h1, h2⟩
  obtain ⟨ns, a, b, rfl, hl, ha0, ha1⟩ := hc
  have hn1 : (n < 1073741824) = True := eq_true h1
  have hn0 : (0 < n) = True := eq_true h0
  have hlen : (ns.map PyData.int).length = ns.length := List.length_map ..
  by_cases hb : 0 < b
  · have db : decide (0 < b) = true := decide_eq_true hb
    simp_arith only [fNext, atI_0, atI_1, atI_2, len3', ix3_1, ix3_2, hn0, hn1, and_self, if_true, db, List.take_succ_cons, List.take_length]
    exact ⟨_, _, ⟨ns, a, b / n, rfl, hl, ha0, by omega⟩, rfl⟩
  · have db : decide (0 < b) = false := decide_eq_false hb
    obtain ⟨x, hx, hmm⟩ := atI_mod (ns.map PyData.int) a (by rw [hlen]; exact hl)
    obtain ⟨z, _, rfl⟩ := List.mem_map.mp hmm
    have hli : (0 < (((ns.map PyData.int).length : Nat) : Int)) = True := eq_true (by rw [hlen]; omega)
    have wa : within64 (43 * a) = true := w64_lt (by omega) (by omega)
    have hf : ∀ y : Int, within64 (y % 999907) = true := fun y => by
      have h2 := Int.emod_nonneg y (show (999907 : Int) ≠ 0 by decide)
      have h3 := Int.emod_lt_of_pos y (show (0 : Int) < 999907 by decide)
      exact w64_lt h2 (by omega)
    have last : ∀ (P : Bool), (decide (10 ^ (18 : Int).toNat ≤ z) && decide (a < (((ns.map PyData.int).length : Nat) : Int))) = P → ∃ z c', FeedN (m + 1) c' ∧ leaveW (rest.length + 1) (semSs Φ fNext.body [some (.loc 0), some (.d (.int n)), none, none, none, none] ((C.lst [.list (ns.map PyData.int), .int a, .int b]) :: rest)) = .ok (.d (.int (z % n))) (c' :: rest) := by
      intro P hP
      by_cases hz : (10 : Int) ^ (18 : Int).toNat ≤ z
      · have dz : decide ((10 : Int) ^ (18 : Int).toNat ≤ z) = true := decide_eq_true hz
        by_cases hal : a < (((ns.map PyData.int).length : Nat) : Int)
        · have da : decide (a < (((ns.map PyData.int).length : Nat) : Int)) = true := decide_eq_true hal
          simp_arith only [fNext, atI_0, atI_1, atI_2, len3', ix3_1, ix3_2, hn0, hn1, and_self, if_true, db, hli, hx, w64_f, p18, dz, da, List.take_succ_cons, List.take_length]
          exact ⟨_, _, ⟨ns, a + 1, z / n, rfl, hl, by omega, by omega⟩, rfl⟩
        · have da : decide (a < (((ns.map PyData.int).length : Nat) : Int)) = false := decide_eq_false hal
          simp_arith only [fNext, atI_0, atI_1, atI_2, len3', ix3_1, ix3_2, hn0, hn1, and_self, if_true, db, hli, hx, w64_f, p18, dz, da, w43, w29, w518, w407, w64_c, wa, hf, Bool.or_true, Bool.true_or, m1, m5', m1003, m9999, m2097, List.take_succ_cons, List.take_length]
          exact ⟨_, _, ⟨ns, a + 1, b, rfl, hl, by omega, by omega⟩, rfl⟩
      · have dz : decide ((10 : Int) ^ (18 : Int).toNat ≤ z) = false := decide_eq_false hz
        simp_arith only [fNext, atI_0, atI_1, atI_2, len3', ix3_1, ix3_2, hn0, hn1, and_self, if_true, db, hli, hx, w64_f, p18, dz, w43, w29, w518, w407, w64_c, wa, hf, Bool.or_true, Bool.true_or, m1, m5', m1003, m9999, m2097, List.take_succ_cons, List.take_length]
        exact ⟨_, _, ⟨ns, a + 1, b, rfl, hl, by omega, by omega⟩, rfl⟩
    exact last _ rfl
end
theorem feedN_ok {fs : List Fn} {g k : Nat} {ns : List Int} (hg : fs[g]? = some fFeedN) (hl : ns.length ≤ 63) : ∃ c, FeedN 0 c ∧ phi fs (k + 1) g [.d (.list (ns.map PyData.int))] [] = .ok (.new c) [] := by
  rw [phi_at hg ⟨rfl, by decide⟩]
  have e0 := eqD_lI ns []
  have e63 : cutD (ns.map PyData.int) none (some 63) = ns.map PyData.int := by
    have := cut_to (xs := ns.map PyData.int) 63
    rw [show ((63 : Nat) : Int) = 63 from rfl] at this
    rw [this, List.take_of_length_le (by rw [List.length_map]; exact hl)]
  have le : ∀ j : Nat, j ≤ 1 → ((ns.map PyData.int).length + j ≤ lineN) = True := fun j hj => eq_true (by rw [List.length_map]; exact Nat.le_trans (show ns.length + j ≤ 64 by omega) (Nat.le_of_ble_eq_true rfl))
  have k0 : (([] : List PyData).length ≤ lineN) = True := eq_true (Nat.zero_le _)
  have k1 : ∀ {a : PyData}, ([a].length ≤ lineN) = True := eq_true (Nat.le_of_ble_eq_true rfl)
  have k3 : ∀ {a b c : PyData}, ([a, b, c].length ≤ lineN) = True := eq_true (Nat.le_of_ble_eq_true rfl)
  have emul : ∀ j : Int, binD .mul (.list [.int 0]) (.int j) = if -1000000 ≤ j ∧ j ≤ 1000000 ∧ [PyData.int 0].length * j.toNat ≤ lineN then some (.new (.lst (List.replicate j.toNat [PyData.int 0]).flatten)) else none := fun j => rfl
  cases ns with
  | nil =>
    have e0' : eqD (.list []) (.list []) = some true := e0
    have c63 : cutD [] none (some 63) = [] := e63
    have mm : ((-1000000 : Int) ≤ 1 ∧ (1 : Int) ≤ 1000000 ∧ [PyData.int 0].length * (1 : Int).toNat ≤ lineN) = True := eq_true ⟨by decide, by decide, Nat.le_of_ble_eq_true rfl⟩
    have l1 : (([] : List PyData).length + (List.replicate (1 : Int).toNat [PyData.int 0]).flatten.length ≤ lineN) = True := eq_true (Nat.le_of_ble_eq_true rfl)
    refine ⟨_, ⟨[0], 0, 0, rfl, by decide, by decide, by decide⟩, ?_⟩
    simp only [fFeedN, List.map_cons, List.map_nil, List.cons_append, List.nil_append, sem_var, varR_d, varR_own, varR_bor, varR_loc, varR_fn, sem_con, sem_glo, rdk1_s, rdk2_s, rd_d, rd_new, rd_bor, rd_lent, rd_loc, dat_lst, py_d, py_new, arg_d, arg_new, arg_bor, arg_lent, arg_loc, arg_fn, argAll_nil, sems_nil, sems_cons, kEs_a, kPut_a, sem_bin, kBin_a, kBin2_a, sem_neg, kNeg_a, negK_i, truR_b, truR_i, truR_l, truR_t, truR_n, sem_nt, kNot_a, kNot2_a, sem_an, sem_oo, kAn_a, kOo_a, anS_t, anS_f, ooS_t, ooS_f, sem_cmp, kCmp_a, kCmp2_a, cmpK_lt, cmpK_le, cmpK_gt, cmpK_ge, sem_chn, kChn_a, kChn2_a, kChn3_a, chS_t, chS_f, sem_ite, kIte_a, kIte2_a, selE_t, selE_f, sem_tup, sem_lst, kTup_a, kLst_a, pyAll_nil, pyAll_cons, sem_idx, kIdx_a, kIdx2_a, idxK_l, idxK_t, sem_slc, kSlc_a, kSlc2_a, kSlc3_a, slK_l, slK_t, slK_s, kPart_n, kPart_i, sem_sset, kSset_a, ssetW_l, sem_rev, kRev_a, revD_l, revD_t, sem_cal, kCal_a, calR_s, sem_fnv, sem_cav, cavR_fn, cavQ_s, argAll_c, sem_bif, kBif_a, bifR_s, sem_mth, kMth_a, kMth2_a, mthR_s, mth_split, idxK_s, rdAll_nil, rdAll_c, bif_len_l, bif_len_t, bif_tup_l, bif_tup_t, bif_lst_l, bif_lst_t, bif_len_s, bif_str_s, bif_repr, sem_isi, kIsi_a, add_ii, sub_ii, mul_ii, mul_si, mul_ti, fdiv_ii, mod_ii, pow_ii, add_tt, add_ll, Ss_nil, Ss_cons, kSs_n, kSs_r, Ss_frz, frzR_nil, frzR_cons, frz1_own, frz1_d, S_set, kSet_pd, kSet_pn, kSet_pl, kSet_pb, kSet_o, kSet_c, S_par, kPar_a, parR_s, S_unp, kUnp_a, unpR_s, setT_2, setT_3, S_exp, kExp_a, S_ret, kRet_d, kRet_n, kRet_l, S_rtv, rtvR_o, rbind_x, S_rse, kRse_1, kRse_2, rseR_t, S_tre, S_tri, S_ite, kIf_a, kIf2_a, selS_t, selS_f, chgR_o, chgR_l, ownR_s, locR_s, appC_l, extC_l, subC_d, subC_l, lstB_k, lstR_o, lstR_l, lstQ_l, mutR_o, mutR_l, S_sub, kSub_a, subM_t, kSub2_a, subR_s, S_app, appM_t, kApp_a, appR_s, S_ext, extM_t, kExt_a, extR_s, sem_dnew, rd_newD, rd_borD, rd_lentD, dat_dct, py_newD, arg_newD, kSet_pD, dctIn_k, dinR_s, getW_k, gwR_s, sem_get1, kGet1_a, kGet1b_a, sem_get2, kGet2_a, kGet2b_a, kGet2c_a, idxK_d, bif_len_d, bif_int, intD_i, intD_b, intD_s, bif_abs, bif_max2, bif_min2, bif_max1, bif_min1, bif_sum, bif_srt_l, bif_srt_d, bif_dct_t, bif_dct_l, stepF_a, setR_s, setT_nm, S_for, kFor_a, F_of, kItF_dl, kItF_dt, kItF_ds, kItF_n, kItF_b, F_enum, kItE_dl, kItE_dt, kItE_n, kItE_b, I_of, kItI_dl, kItI_dt, kItI_ds, kItI_n, kItI_b, kItI_l, I_rng, F_rng, kRng_a, I_rng2, F_rng2, kRg2_a, I_zip, kZp_a, kZp2_a, rdN_d, rdN_n, rdN_b, rdN_l, zipD_l, zipD_t, kRg3_a, sem_lc, kLc_a, kLc2_a, stepC_nm, stepC_tp, setC_s, wipeR_n, wipeR_c, kCs_a, selC_t, selC_f, kElt_d, kElt_n, Cs_nil, Cs_cons, kC1_a, kC2_a, csS_t, csS_f, csS_n, lv_d, lv_n, lv_ex, lv_x, Res.bind_ok, Res.ofO_some, Res.nox_ok, Option.bind_some, Option.map_some, List.getElem?_cons_zero, List.getElem?_cons_succ, List.set_cons_zero, List.set_cons_succ, pyAll_nil, cmp_eq, e0', toB_s, if_true, emul, mm, c63, l1, lstK, pyAll_cons, k0, k1, k3]
    rfl
  | cons i ns =>
    have e0' : eqD (.list ((i :: ns).map PyData.int)) (.list []) = some false := by rw [show (PyData.list []) = .list (([] : List Int).map PyData.int) from rfl, e0]; simp
    have mm : ((-1000000 : Int) ≤ 0 ∧ (0 : Int) ≤ 1000000 ∧ [PyData.int 0].length * (0 : Int).toNat ≤ lineN) = True := eq_true ⟨by decide, by decide, Nat.le_of_ble_eq_true rfl⟩
    have rz : (List.replicate (0 : Int).toNat [PyData.int 0]).flatten = [] := rfl
    have l1 : (((i :: ns).map PyData.int).length + ([] : List PyData).length ≤ lineN) = True := le 0 (by decide)
    refine ⟨_, ⟨i :: ns, 0, 0, rfl, Nat.succ_pos _, by decide, by decide⟩, ?_⟩
    generalize hL : (i :: ns).map PyData.int = L at *
    simp only [fFeedN, List.map_cons, List.map_nil, List.cons_append, List.nil_append, sem_var, varR_d, varR_own, varR_bor, varR_loc, varR_fn, sem_con, sem_glo, rdk1_s, rdk2_s, rd_d, rd_new, rd_bor, rd_lent, rd_loc, dat_lst, py_d, py_new, arg_d, arg_new, arg_bor, arg_lent, arg_loc, arg_fn, argAll_nil, sems_nil, sems_cons, kEs_a, kPut_a, sem_bin, kBin_a, kBin2_a, sem_neg, kNeg_a, negK_i, truR_b, truR_i, truR_l, truR_t, truR_n, sem_nt, kNot_a, kNot2_a, sem_an, sem_oo, kAn_a, kOo_a, anS_t, anS_f, ooS_t, ooS_f, sem_cmp, kCmp_a, kCmp2_a, cmpK_lt, cmpK_le, cmpK_gt, cmpK_ge, sem_chn, kChn_a, kChn2_a, kChn3_a, chS_t, chS_f, sem_ite, kIte_a, kIte2_a, selE_t, selE_f, sem_tup, sem_lst, kTup_a, kLst_a, pyAll_nil, pyAll_cons, sem_idx, kIdx_a, kIdx2_a, idxK_l, idxK_t, sem_slc, kSlc_a, kSlc2_a, kSlc3_a, slK_l, slK_t, slK_s, kPart_n, kPart_i, sem_sset, kSset_a, ssetW_l, sem_rev, kRev_a, revD_l, revD_t, sem_cal, kCal_a, calR_s, sem_fnv, sem_cav, cavR_fn, cavQ_s, argAll_c, sem_bif, kBif_a, bifR_s, sem_mth, kMth_a, kMth2_a, mthR_s, mth_split, idxK_s, rdAll_nil, rdAll_c, bif_len_l, bif_len_t, bif_tup_l, bif_tup_t, bif_lst_l, bif_lst_t, bif_len_s, bif_str_s, bif_repr, sem_isi, kIsi_a, add_ii, sub_ii, mul_ii, mul_si, mul_ti, fdiv_ii, mod_ii, pow_ii, add_tt, add_ll, Ss_nil, Ss_cons, kSs_n, kSs_r, Ss_frz, frzR_nil, frzR_cons, frz1_own, frz1_d, S_set, kSet_pd, kSet_pn, kSet_pl, kSet_pb, kSet_o, kSet_c, S_par, kPar_a, parR_s, S_unp, kUnp_a, unpR_s, setT_2, setT_3, S_exp, kExp_a, S_ret, kRet_d, kRet_n, kRet_l, S_rtv, rtvR_o, rbind_x, S_rse, kRse_1, kRse_2, rseR_t, S_tre, S_tri, S_ite, kIf_a, kIf2_a, selS_t, selS_f, chgR_o, chgR_l, ownR_s, locR_s, appC_l, extC_l, subC_d, subC_l, lstB_k, lstR_o, lstR_l, lstQ_l, mutR_o, mutR_l, S_sub, kSub_a, subM_t, kSub2_a, subR_s, S_app, appM_t, kApp_a, appR_s, S_ext, extM_t, kExt_a, extR_s, sem_dnew, rd_newD, rd_borD, rd_lentD, dat_dct, py_newD, arg_newD, kSet_pD, dctIn_k, dinR_s, getW_k, gwR_s, sem_get1, kGet1_a, kGet1b_a, sem_get2, kGet2_a, kGet2b_a, kGet2c_a, idxK_d, bif_len_d, bif_int, intD_i, intD_b, intD_s, bif_abs, bif_max2, bif_min2, bif_max1, bif_min1, bif_sum, bif_srt_l, bif_srt_d, bif_dct_t, bif_dct_l, stepF_a, setR_s, setT_nm, S_for, kFor_a, F_of, kItF_dl, kItF_dt, kItF_ds, kItF_n, kItF_b, F_enum, kItE_dl, kItE_dt, kItE_n, kItE_b, I_of, kItI_dl, kItI_dt, kItI_ds, kItI_n, kItI_b, kItI_l, I_rng, F_rng, kRng_a, I_rng2, F_rng2, kRg2_a, I_zip, kZp_a, kZp2_a, rdN_d, rdN_n, rdN_b, rdN_l, zipD_l, zipD_t, kRg3_a, sem_lc, kLc_a, kLc2_a, stepC_nm, stepC_tp, setC_s, wipeR_n, wipeR_c, kCs_a, selC_t, selC_f, kElt_d, kElt_n, Cs_nil, Cs_cons, kC1_a, kC2_a, csS_t, csS_f, csS_n, lv_d, lv_n, lv_ex, lv_x, Res.bind_ok, Res.ofO_some, Res.nox_ok, Option.bind_some, Option.map_some, List.getElem?_cons_zero, List.getElem?_cons_succ, List.set_cons_zero, List.set_cons_succ, pyAll_nil, cmp_eq, e0', toB_s, if_true, Bool.false_eq_true, if_false, emul, mm, e63, rz, l1, List.append_nil, lstK, pyAll_cons, k0, k1, k3]
    rfl
theorem next_ok {fs : List Fn} {g k m : Nat} {c : C} {rest : Stt} {n : Int} (hg : fs[g]? = some fNext) (hc : FeedN m c) (hm : m < 1125899906842624) (h0 : 0 < n) (h1 : n < 1073741824) :
    ∃ r c', 0 ≤ r ∧ r < n ∧ FeedN (m + 1) c' ∧ phi fs (k + 1) g [.loc 0, .d (.int n)] (c :: rest) = .ok (.d (.int r)) (c' :: rest) := by
  rw [phi_at hg ⟨rfl, by decide⟩]
  exact next_body hc hm h0 h1
/-- what is asked of these draws -/
structure NextH (Φ : Phi) (gf gt : Nat) : Prop where
  feed : ∀ (ns : List Int), ns.length ≤ 63 → ∃ c, FeedN 0 c ∧ Φ gf [.d (.list (ns.map PyData.int))] [] = .ok (.new c) []
  next : ∀ (m : Nat) (c : C) (rest : Stt) (n : Int), FeedN m c → m < 1125899906842624 → 0 < n → n < 1073741824 → ∃ r c', 0 ≤ r ∧ r < n ∧ FeedN (m + 1) c' ∧ Φ gt [.loc 0, .d (.int n)] (c :: rest) = .ok (.d (.int r)) (c' :: rest)
theorem nextH {fs : List Fn} {gf gt k : Nat} (h1 : fs[gf]? = some fFeedN) (h2 : fs[gt]? = some fNext) : NextH (phi fs (k + 1)) gf gt := ⟨fun _ hl => feedN_ok h1 hl, fun _ _ _ _ hc hm h0 h1 => next_ok h2 hc hm h0 h1⟩
theorem NextH.wp {Φ : Phi} {gf gt : Nat} (H : NextH Φ gf gt) {m : Nat} {c : C} {rest : Stt} {n : Int} {Q : W → Stt → Prop} (hc : FeedN m c) (hm : m < 1125899906842624) (h0 : 0 < n) (h1 : n < 1073741824) (h : ∀ r c', 0 ≤ r → r < n → FeedN (m + 1) c' → Q (.d (.int r)) (c' :: rest)) : Wp (Φ gt [.loc 0, .d (.int n)] (c :: rest)) Q := by
  obtain ⟨r, c', g0, g1, g2, e⟩ := H.next m c rest n hc hm h0 h1
  exact ⟨_, _, e, h r c' g0 g1 g2⟩
end Gm

/-! Plain facts: things of bounded size, looks at kinds, dicts. -/
namespace Gm
open PySem PySem.Spec PyProof.Rows L2
theorem le_line {a b : Nat} (h : a ≤ b) (hb : b ≤ 16777216) : a ≤ lineN := Nat.le_trans h (Nat.le_trans hb (Nat.le_of_ble_eq_true rfl))
theorem n_le {n : Nat} (h : n ≤ 16777216) : (n ≤ lineN) = True := eq_true (le_line h (by decide))
def whB (x : PyData) (lo : Int) : Bool := match x with
  | .int i => decide (lo ≤ i)
  | _ => false
def upB (x : PyData) (lo hi : Int) : Bool := match x with
  | .int i => decide (lo ≤ i) && decide (i ≤ hi)
  | _ => false
def noD : PyData → Bool
  | .dict _ => false
  | _ => true
def tupB : PyData → Bool
  | .tuple _ => true
  | _ => false
def strB : PyData → Bool
  | .str _ => true
  | _ => false
theorem isi_of (x : PyData) (t : Ty) (b : Bool) (h : isT x t = some b) : isiK t x = some (.d (.bool b)) := by
  show toB (isT x t) = _
  rw [h]
  rfl
theorem isi_tt (xs : List PyData) : isiK .tuple (.tuple xs) = some (.d (.bool true)) := rfl
theorem isi_ti (i : Int) : isiK .tuple (.int i) = some (.d (.bool false)) := rfl
theorem isi_tb (i : Bool) : isiK .tuple (.bool i) = some (.d (.bool false)) := rfl
theorem isi_tn : isiK .tuple .none = some (.d (.bool false)) := rfl
theorem isi_ts (i : Str) : isiK .tuple (.str i) = some (.d (.bool false)) := rfl
theorem isi_tl (i : List PyData) : isiK .tuple (.list i) = some (.d (.bool false)) := rfl
theorem isi_it (xs : List PyData) : isiK .int (.tuple xs) = some (.d (.bool false)) := rfl
theorem isi_ii (i : Int) : isiK .int (.int i) = some (.d (.bool true)) := rfl
theorem isi_ib (i : Bool) : isiK .int (.bool i) = some (.d (.bool true)) := rfl
theorem isi_in : isiK .int .none = some (.d (.bool false)) := rfl
theorem isi_is (i : Str) : isiK .int (.str i) = some (.d (.bool false)) := rfl
theorem isi_il (i : List PyData) : isiK .int (.list i) = some (.d (.bool false)) := rfl
theorem isi_bt (xs : List PyData) : isiK .bool (.tuple xs) = some (.d (.bool false)) := rfl
theorem isi_bi (i : Int) : isiK .bool (.int i) = some (.d (.bool false)) := rfl
theorem isi_bb (i : Bool) : isiK .bool (.bool i) = some (.d (.bool true)) := rfl
theorem isi_bn : isiK .bool .none = some (.d (.bool false)) := rfl
theorem isi_bs (i : Str) : isiK .bool (.str i) = some (.d (.bool false)) := rfl
theorem isi_bl (i : List PyData) : isiK .bool (.list i) = some (.d (.bool false)) := rfl
theorem isi_st (xs : List PyData) : isiK .str (.tuple xs) = some (.d (.bool false)) := rfl
theorem isi_si (i : Int) : isiK .str (.int i) = some (.d (.bool false)) := rfl
theorem isi_sb (i : Bool) : isiK .str (.bool i) = some (.d (.bool false)) := rfl
theorem isi_sn : isiK .str .none = some (.d (.bool false)) := rfl
theorem isi_ss (i : Str) : isiK .str (.str i) = some (.d (.bool true)) := rfl
theorem isi_sl (i : List PyData) : isiK .str (.list i) = some (.d (.bool false)) := rfl
theorem cmp_in (x y : PyData) : cmpK .isin x y = toB (inD x y) := rfl
theorem cmp_notin (x y : PyData) : cmpK .notin x y = toB ((inD x y).map (!·)) := rfl
theorem cmp_is (x y : PyData) : cmpK .iss x y = toB (isD x y) := rfl
theorem k0 : (([] : List PyData).length ≤ lineN) = True := n_le (Nat.le_of_ble_eq_true rfl)
theorem k1 {a : PyData} : ([a].length ≤ lineN) = True := n_le (Nat.le_of_ble_eq_true rfl)
theorem k2 {a b : PyData} : ([a, b].length ≤ lineN) = True := n_le (Nat.le_of_ble_eq_true rfl)
theorem k3 {a b c : PyData} : ([a, b, c].length ≤ lineN) = True := n_le (Nat.le_of_ble_eq_true rfl)
theorem k4 {a b c d : PyData} : ([a, b, c, d].length ≤ lineN) = True := n_le (Nat.le_of_ble_eq_true rfl)
theorem k5 {a b c d e : PyData} : ([a, b, c, d, e].length ≤ lineN) = True := n_le (Nat.le_of_ble_eq_true rfl)
theorem k6 {a b c d e f : PyData} : ([a, b, c, d, e, f].length ≤ lineN) = True := n_le (Nat.le_of_ble_eq_true rfl)
theorem k7 {a b c d e f g : PyData} : ([a, b, c, d, e, f, g].length ≤ lineN) = True := n_le (Nat.le_of_ble_eq_true rfl)
theorem k8 {a b c d e f g h : PyData} : ([a, b, c, d, e, f, g, h].length ≤ lineN) = True := n_le (Nat.le_of_ble_eq_true rfl)
theorem k9 {a b c d e f g h i : PyData} : ([a, b, c, d, e, f, g, h, i].length ≤ lineN) = True := n_le (Nat.le_of_ble_eq_true rfl)
theorem k10 {a b c d e f g h i j : PyData} : ([a, b, c, d, e, f, g, h, i, j].length ≤ lineN) = True := n_le (Nat.le_of_ble_eq_true rfl)
theorem k11 {a b c d e f g h i j k : PyData} : ([a, b, c, d, e, f, g, h, i, j, k].length ≤ lineN) = True := n_le (Nat.le_of_ble_eq_true rfl)
/-! things that may be asked of: no dict within, not too deep -/
def Th (x : PyData) : Prop := x.canLay0 = true ∧ x.depth ≤ 20
theorem Th.noD {x : PyData} (h : Th x) : noD x = true := by
  cases x with
  | dict _ => have := h.1; simp [PyData.canLay0] at this
  | _ => rfl
theorem lay_all : ∀ xs : List PyData, PyData.canLayAll0 xs = true ↔ ∀ x ∈ xs, x.canLay0 = true
  | [] => by simp [PyData.canLayAll0]
  | x :: xs => by simp [PyData.canLayAll0, lay_all xs]
theorem dep_all (d : Nat) : ∀ xs : List PyData, PyData.depthAll xs ≤ d ↔ ∀ x ∈ xs, x.depth ≤ d
  | [] => by simp [PyData.depthAll]
  | x :: xs => by
    simp only [PyData.depthAll, List.mem_cons, forall_eq_or_imp, ← dep_all d xs]
    omega
theorem Th.items {xs : List PyData} (h : Th (.tuple xs)) : ∀ x ∈ xs, Th x := by
  obtain ⟨h1, h2⟩ := h
  simp only [PyData.canLay0, lay_all] at h1
  simp only [PyData.depth] at h2
  have h3 := (dep_all 19 xs).mp (by omega)
  exact fun x hx => ⟨h1 x hx, by have := h3 x hx; omega⟩
theorem shp_th {x : PyData} (h : Th x) : SeqAt.shaped x = true := by
  unfold SeqAt.shaped
  rw [h.1, Bool.true_and]
  exact decide_eq_true (Nat.le_trans h.2 (by decide))
theorem th_nil : Th (.list []) := ⟨by simp [PyData.canLay0, PyData.canLayAll0], by simp [PyData.depth, PyData.depthAll]⟩
theorem th_nilt : Th (.tuple []) := ⟨by simp [PyData.canLay0, PyData.canLayAll0], by simp [PyData.depth, PyData.depthAll]⟩
theorem shp_l {L : List PyData} (h : ∀ x ∈ L, Th x) : SeqAt.shaped (.list L) = true := by
  have h1 : PyData.canLayAll0 L = true := (lay_all L).mpr fun x hx => (h x hx).1
  have h2 : PyData.depthAll L ≤ 20 := (dep_all 20 L).mpr fun x hx => (h x hx).2
  unfold SeqAt.shaped
  simp only [PyData.canLay0, PyData.depth, h1, Bool.true_and]
  exact decide_eq_true (by omega)
theorem eqD_l0 {L : List PyData} (h : ∀ x ∈ L, Th x) : eqD (.list L) (.list []) = some L.isEmpty := by
  show eqS _ _ = _
  unfold eqS
  rw [shp_l h, shp_th th_nil, Bool.and_true, if_pos rfl, PyData.eqv]
  cases L <;> rfl
theorem eqD_t0 {L : List PyData} (h : Th (.tuple L)) : eqD (.tuple L) (.tuple []) = some L.isEmpty := by
  show eqS _ _ = _
  unfold eqS
  rw [shp_th h, shp_th th_nilt, Bool.and_true, if_pos rfl, PyData.eqv]
  cases L <;> rfl
theorem cut1 {x : PyData} {xs : List PyData} : cutD (x :: xs) (some 1) none = xs := cut_from 1
theorem allB_map {α : Type} (f : α → Bool) : ∀ ys : List α, Gm.allB (ys.map fun y => PyData.bool (f y)) = some (ys.map f)
  | [] => rfl
  | y :: ys => by
    rw [List.map_cons, List.map_cons, Gm.allB, allB_map f ys]
    rfl
theorem all_map {α : Type} (f : α → Bool) (ys : List α) : bifD .all [.list (ys.map fun y => PyData.bool (f y))] = some (.d (.bool (ys.all f))) := by
  show (Gm.allB _).map _ = _
  rw [allB_map, Option.map_some, List.all_map]
  rfl
theorem fm_some {g : PyData → PyData} (ys : List PyData) : ys.filterMap (fun y => some (g y)) = ys.map g := by
  induction ys with
  | nil => rfl
  | cons y ys ih => rw [List.filterMap_cons, ih]; rfl
def seatB : PyData → Bool
  | .tuple (y :: ys) => decide (ys.length < 5) && (upB y 0 3 && ys.all fun z => upB z 1 99)
  | _ => false
/-- those that a look lets fall -/
def gN (p : PyData → Bool) (y : PyData) : Option PyData := if p y = true then none else some y
theorem gN_all (p : PyData → Bool) (ys : List PyData) : (ys.filterMap (gN p)).isEmpty = ys.all p := by
  induction ys with
  | nil => rfl
  | cons y ys ih =>
    rw [List.filterMap_cons, List.all_cons, ← ih]
    unfold gN
    cases p y <;> rfl
theorem gN_mem {p : PyData → Bool} {ys : List PyData} {z : PyData} (h : z ∈ ys.filterMap (gN p)) : z ∈ ys := by
  obtain ⟨w, hw, hg⟩ := List.mem_filterMap.mp h
  unfold gN at hg
  split at hg
  · cases hg
  · cases hg; exact hw
theorem strOk_of (s : String) : PyData.strOk (Str.ofString s) = true := by
  unfold PyData.strOk
  rw [Array.all_eq_true']
  intro x hx
  have hx : x ∈ (Str.ofString s).cps.toList := by simpa using hx
  rw [signs_ofString] at hx
  obtain ⟨c, _, rfl⟩ := List.mem_map.mp hx
  refine decide_eq_true ?_
  have := c.valid
  rcases this with h | ⟨_, h⟩
  · exact Nat.lt_of_lt_of_le h (by decide)
  · exact h
theorem cut_sub {xs : List PyData} {lo hi : Option Int} {x : PyData} (h : x ∈ Gm.cutD xs lo hi) : x ∈ xs := List.drop_subset _ _ (List.take_subset _ _ h)
theorem cut_len {xs : List PyData} {lo hi : Option Int} : (Gm.cutD xs lo hi).length ≤ xs.length := by
  unfold Gm.cutD
  rw [List.length_take, List.length_drop]
  omega
theorem t1 (c c' : C) : ([c'] : Stt).take ([c] : Stt).length = [c'] := rfl
theorem small_b {i : Int} (h : i.natAbs ≤ 10 ^ 60) : smallI i = true := by
  refine decide_eq_true ?_
  by_cases h0 : i.natAbs = 0
  · rw [h0]; decide
  · have h2 : i.natAbs < 2 ^ 200 := Nat.lt_of_le_of_lt h (by decide)
    have := (Nat.log2_lt h0).mpr h2
    omega
theorem bif_str_i {i : Int} (h : smallI i = true) : bifD .str [.int i] = some (.d (.str (Str.ofString (toString i)))) := by
  show (strD (.int i)).map W.d = _
  have e : strD (.int i) = some (.str (Str.ofString (toString i))) := by
    show (if smallI i then some (PyData.str (Str.ofString (toString i))) else none) = _
    rw [if_pos h]
  rw [e]
  rfl
theorem atI_mem {α : Type} {xs : List α} {i : Int} (h0 : 0 ≤ i) (h1 : i < (xs.length : Int)) : ∃ x, atI xs i = some x ∧ x ∈ xs := by
  obtain ⟨n, rfl⟩ : ∃ n : Nat, i = (n : Int) := ⟨i.toNat, by omega⟩
  exact ⟨xs[n], atI_nat xs n (by omega), List.getElem_mem _⟩
theorem rng_len (a b : Int) : (rngL a b).length = (b - a).toNat := by
  unfold rngL
  rw [List.length_map, List.length_range]
theorem rng_mem {a b : Int} {y : PyData} (h : y ∈ rngL a b) : ∃ i : Int, y = .int i ∧ a ≤ i ∧ i < b := by
  unfold rngL at h
  obtain ⟨n, hn, rfl⟩ := List.mem_map.mp h
  have := List.mem_range.mp hn
  exact ⟨_, rfl, by omega, by omega⟩
theorem rngOk_s {i : Int} (h0 : 0 ≤ i) (h1 : i < 1000000000) : rngOk i = true := by
  unfold rngOk
  rw [decide_eq_true (by omega), decide_eq_true (by omega)]
  rfl
theorem rep1 (x : PyData) (k : Nat) : (List.replicate k [x]).flatten = List.replicate k x := by
  induction k with
  | zero => rfl
  | succ k ih => rw [List.replicate_succ, List.replicate_succ, List.flatten_cons, ih]; rfl
/-! ### sizes -/
theorem szRs_app : ∀ xs ys : List PyData, szRs (xs ++ ys) = szRs xs + szRs ys
  | [], ys => by rw [List.nil_append, szRs, Nat.zero_add]
  | x :: xs, ys => by rw [List.cons_append, szRs, szRs, szRs_app xs ys]; omega
theorem szRs_take (xs : List PyData) (n : Nat) : szRs (xs.take n) ≤ szRs xs := by
  have := szRs_app (xs.take n) (xs.drop n)
  rw [List.take_append_drop] at this
  omega
theorem szRs_drop (xs : List PyData) (n : Nat) : szRs (xs.drop n) ≤ szRs xs := by
  have := szRs_app (xs.take n) (xs.drop n)
  rw [List.take_append_drop] at this
  omega
theorem szRs_cut (xs : List PyData) (lo hi : Option Int) : szRs (cutD xs lo hi) ≤ szRs xs := Nat.le_trans (szRs_take _ _) (szRs_drop _ _)
theorem szRs_rev : ∀ xs : List PyData, szRs xs.reverse = szRs xs
  | [] => rfl
  | x :: xs => by rw [List.reverse_cons, szRs_app, szRs_rev xs, szRs, szRs, szRs]; omega
theorem szRs_mem {x : PyData} : ∀ {xs : List PyData}, x ∈ xs → szR x + 2 ≤ szRs xs
  | y :: ys, h => by
    rw [szRs]
    rcases List.mem_cons.mp h with rfl | h
    · omega
    · have := szRs_mem h
      omega
theorem szRs_len : ∀ xs : List PyData, 2 * xs.length ≤ szRs xs
  | [] => by rw [szRs]; exact Nat.le_refl _
  | x :: xs => by have := szRs_len xs; rw [szRs, List.length_cons]; omega
theorem szRs_le {S : Nat} : ∀ {xs : List PyData}, (∀ x ∈ xs, szR x ≤ S) → szRs xs ≤ xs.length * (S + 2)
  | [], _ => by rw [szRs]; exact Nat.zero_le _
  | x :: xs, h => by
    have h1 := h x List.mem_cons_self
    have h2 := szRs_le (xs := xs) fun y hy => h y (List.mem_cons_of_mem _ hy)
    rw [szRs, List.length_cons, Nat.add_mul, Nat.one_mul]
    omega
/-! ### bounded things -/
mutual
def bdZ (B : Nat) : PyData → Bool
  | .none => true
  | .bool _ => true
  | .int i => decide (i.natAbs ≤ B)
  | .str x => PyData.strOk x && decide (x.length ≤ 100000)
  | .list xs => bdZs B xs
  | .tuple xs => bdZs B xs
  | .dict _ => false
def bdZs (B : Nat) : List PyData → Bool
  | [] => true
  | x :: xs => bdZ B x && bdZs B xs
end
theorem bdZs_iff (B : Nat) : ∀ xs : List PyData, bdZs B xs = true ↔ ∀ x ∈ xs, bdZ B x = true
  | [] => by simp [bdZs]
  | x :: xs => by simp [bdZs, bdZs_iff B xs]
mutual
theorem bdz_up {B B' : Nat} (h1 : B ≤ B') : ∀ x : PyData, bdZ B x = true → bdZ B' x = true
  | .none, _ => by simp [bdZ]
  | .bool _, _ => by simp [bdZ]
  | .int i, h => by simp only [bdZ, decide_eq_true_eq] at h ⊢; omega
  | .str x, h => by simpa [bdZ] using h
  | .list xs, h => by simp only [bdZ] at h ⊢; exact bdzs_up h1 xs h
  | .tuple xs, h => by simp only [bdZ] at h ⊢; exact bdzs_up h1 xs h
  | .dict _, h => by simp [bdZ] at h
theorem bdzs_up {B B' : Nat} (h1 : B ≤ B') : ∀ xs : List PyData, bdZs B xs = true → bdZs B' xs = true
  | [], _ => by simp [bdZs]
  | x :: xs, h => by
    simp only [bdZs, Bool.and_eq_true] at h ⊢
    exact ⟨bdz_up h1 x h.1, bdzs_up h1 xs h.2⟩
end
mutual
theorem bdz_lay {B : Nat} : ∀ x : PyData, bdZ B x = true → x.canLay0 = true
  | .none, _ => by simp [PyData.canLay0]
  | .bool _, _ => by simp [PyData.canLay0]
  | .int i, _ => by simp [PyData.canLay0]
  | .str x, h => by simp only [bdZ, Bool.and_eq_true] at h; simp only [PyData.canLay0]; exact h.1
  | .list xs, h => by simp only [bdZ] at h; simp only [PyData.canLay0]; exact bdzs_lay xs h
  | .tuple xs, h => by simp only [bdZ] at h; simp only [PyData.canLay0]; exact bdzs_lay xs h
  | .dict _, h => by simp [bdZ] at h
theorem bdzs_lay {B : Nat} : ∀ xs : List PyData, bdZs B xs = true → PyData.canLayAll0 xs = true
  | [], _ => by simp [PyData.canLayAll0]
  | x :: xs, h => by
    simp only [bdZs, Bool.and_eq_true] at h
    simp only [PyData.canLayAll0, Bool.and_eq_true]
    exact ⟨bdz_lay x h.1, bdzs_lay xs h.2⟩
end
mutual
theorem bdz_shw {B : Nat} (hB : B ≤ 10 ^ 60) : ∀ x : PyData, bdZ B x = true → shw x = true
  | .none, _ => by simp [shw]
  | .bool _, _ => by simp [shw]
  | .int i, h => by
    simp only [bdZ, decide_eq_true_eq] at h
    simp only [shw]
    exact small_b (Nat.le_trans h hB)
  | .str x, h => by simp only [shw]
  | .list xs, h => by simp only [bdZ] at h; simp only [shw]; exact bdzs_shw hB xs h
  | .tuple xs, h => by simp only [bdZ] at h; simp only [shw]; exact bdzs_shw hB xs h
  | .dict _, h => by simp [bdZ] at h
theorem bdzs_shw {B : Nat} (hB : B ≤ 10 ^ 60) : ∀ xs : List PyData, bdZs B xs = true → shws xs = true
  | [], _ => by simp [shws]
  | x :: xs, h => by
    simp only [bdZs, Bool.and_eq_true] at h
    simp only [shws, Bool.and_eq_true]
    exact ⟨bdz_shw hB x h.1, bdzs_shw hB xs h.2⟩
end
/-- a thing of bounded ints, size, depth -/
def Bd (B S D : Nat) (x : PyData) : Prop := bdZ B x = true ∧ szR x ≤ S ∧ x.depth ≤ D
def Bds (B S D : Nat) (xs : List PyData) : Prop := (∀ x ∈ xs, bdZ B x = true ∧ x.depth ≤ D) ∧ szRs xs ≤ S
section
variable {B S D : Nat} {x : PyData} {xs ys : List PyData}
theorem Bd.up {B' S' D' : Nat} (h : Bd B S D x) (h1 : B ≤ B') (h2 : S ≤ S') (h3 : D ≤ D') : Bd B' S' D' x := ⟨bdz_up h1 x h.1, Nat.le_trans h.2.1 h2, Nat.le_trans h.2.2 h3⟩
theorem Bds.up {B' S' D' : Nat} (h : Bds B S D xs) (h1 : B ≤ B') (h2 : S ≤ S') (h3 : D ≤ D') : Bds B' S' D' xs := ⟨fun x hx => ⟨bdz_up h1 x (h.1 x hx).1, Nat.le_trans (h.1 x hx).2 h3⟩, Nat.le_trans h.2 h2⟩
theorem Bd.slen {s : Str} (h : Bd B S D (.str s)) : PyData.strOk s = true ∧ s.length ≤ 100000 := by
  have := h.1
  simpa only [bdZ, Bool.and_eq_true, decide_eq_true_eq] using this
theorem Bd.th (h : Bd B S D x) (hD : D ≤ 20) : Th x := ⟨bdz_lay x h.1, Nat.le_trans h.2.2 hD⟩
theorem Bd.noD (h : Bd B S D x) : noD x = true := by
  cases x with
  | dict _ => have := h.1; simp [bdZ] at this
  | _ => rfl
theorem Bd.repr (h : Bd B S D x) (hB : B ≤ 10 ^ 60) (hS : S ≤ 16777216) (hD : D ≤ 64) : reprD x = some (.str x.shown) := reprD_ok (bdz_shw hB x h.1) (Nat.le_trans h.2.2 hD) (le_line h.2.1 hS)
theorem bd_tup (h : Bds B S D xs) : Bd B (S + 4) (D + 1) (.tuple xs) := ⟨by simp only [bdZ]; exact (bdZs_iff B xs).mpr fun x hx => (h.1 x hx).1, by simp only [szR]; have := h.2; omega, by
  simp only [PyData.depth]
  have := (dep_all D xs).mpr fun x hx => (h.1 x hx).2
  omega⟩
theorem bd_lst (h : Bds B S D xs) : Bd B (S + 2) (D + 1) (.list xs) := ⟨by simp only [bdZ]; exact (bdZs_iff B xs).mpr fun x hx => (h.1 x hx).1, by simp only [szR]; have := h.2; omega, by
  simp only [PyData.depth]
  have := (dep_all D xs).mpr fun x hx => (h.1 x hx).2
  omega⟩
theorem bd_pos (h : Bd B S D (.tuple xs)) : ∃ D' S', D = D' + 1 ∧ S = S' + 4 := by
  have h1 := h.2.2
  have h2 := h.2.1
  simp only [PyData.depth] at h1
  simp only [szR] at h2
  exact ⟨D - 1, S - 4, by omega, by omega⟩
theorem bd_items (h : Bd B (S + 4) (D + 1) (.tuple xs)) : Bds B S D xs := by
  obtain ⟨h1, h3, h2⟩ := h
  simp only [bdZ] at h1
  simp only [PyData.depth] at h2
  simp only [szR] at h3
  have h4 := (dep_all D xs).mp (by omega)
  exact ⟨fun x hx => ⟨(bdZs_iff B xs).mp h1 x hx, h4 x hx⟩, by omega⟩
theorem Bds.mem (h : Bds B S D xs) : ∀ x ∈ xs, Bd B S D x := fun x hx => ⟨(h.1 x hx).1, by have := szRs_mem hx; have := h.2; omega, (h.1 x hx).2⟩
theorem Bds.len (h : Bds B S D xs) : 2 * xs.length ≤ S := Nat.le_trans (szRs_len xs) h.2
theorem Bds.cut (h : Bds B S D xs) (lo hi : Option Int) : Bds B S D (cutD xs lo hi) := ⟨fun x hx => h.1 x (cut_sub hx), Nat.le_trans (szRs_cut xs lo hi) h.2⟩
theorem Bds.rev (h : Bds B S D xs) : Bds B S D xs.reverse := ⟨fun x hx => h.1 x (List.mem_reverse.mp hx), by rw [szRs_rev]; exact h.2⟩
theorem Bds.app {S' : Nat} (h : Bds B S D xs) (h' : Bds B S' D ys) : Bds B (S + S') D (xs ++ ys) := ⟨fun x hx => (List.mem_append.mp hx).elim (h.1 x) (h'.1 x), by rw [szRs_app]; have := h.2; have := h'.2; omega⟩
theorem bds_nil : Bds B 0 D [] := ⟨fun x hx => (nomatch hx), Nat.le_refl _⟩
theorem bds_cons {S' : Nat} (h : Bd B S D x) (h' : Bds B S' D xs) : Bds B (S + 2 + S') D (x :: xs) := ⟨fun y hy => by
  rcases List.mem_cons.mp hy with rfl | hy
  · exact ⟨h.1, h.2.2⟩
  · exact h'.1 y hy, by rw [szRs]; have := h.2.1; have := h'.2; omega⟩
theorem bds_of {n : Nat} (h : ∀ x ∈ xs, Bd B S D x) (hn : xs.length ≤ n) : Bds B (n * (S + 2)) D xs := ⟨fun x hx => ⟨(h x hx).1, (h x hx).2.2⟩, Nat.le_trans (szRs_le fun x hx => (h x hx).2.1) (Nat.mul_le_mul_right _ hn)⟩
theorem bd_int {i : Int} (h : i.natAbs ≤ B) : Bd B 1922 0 (.int i) := ⟨by simp only [bdZ]; exact decide_eq_true h, by simp [szR], by simp [PyData.depth]⟩
theorem bd_bool {b : Bool} : Bd B 5 0 (.bool b) := ⟨by simp [bdZ], by simp [szR], by simp [PyData.depth]⟩
theorem bd_none : Bd B 4 0 .none := ⟨by simp [bdZ], by simp [szR], by simp [PyData.depth]⟩
theorem bd_strs {s : Str} (h : PyData.strOk s = true) (hl : s.length ≤ 100000) : Bd B (10 * s.length + 2) 0 (.str s) := ⟨by simp only [bdZ]; rw [h, decide_eq_true hl]; rfl, by
  simp only [szR]
  refine PySem.StrLaws.reprText_len s fun c hc => ?_
  unfold PyData.strOk at h
  rw [Array.all_eq_true'] at h
  exact Nat.lt_of_lt_of_le (of_decide_eq_true (h c (by simpa using hc))) (by decide), by simp [PyData.depth]⟩
theorem bd_str {s : String} {n : Nat} (h : s.length ≤ n) (hn : n ≤ 100000 := by decide) : Bd B (10 * n + 2) 0 (.str (Str.ofString s)) := (bd_strs (strOk_of s) (by rw [PySem.ofString_length]; omega)).up (Nat.le_refl _) (by rw [PySem.ofString_length]; omega) (Nat.le_refl _)
theorem bd_txt {i : Int} (h : i.natAbs ≤ 10 ^ 60) : Bd B 19222 0 (.str (Str.ofString (toString i))) := bd_str (n := 1922) (by
  have := int_text_length_le (a := i) (k := 1920) (by decide) (of_decide_eq_true (small_b h))
  omega)
theorem bd_mono {S' D' : Nat} (h : Bd B S D x) (h2 : S ≤ S') (h3 : D ≤ D') : Bd B S' D' x := h.up (Nat.le_refl _) h2 h3
end
/-! ### an indexed invariant under a list that is built -/
section
variable {α β : Type} {r : Res α} {Q : α → Stt → Prop} {st s : Stt}
theorem wp_compN {f : PyData → Stt → Res (Option PyData)} (I : Nat → Stt → Prop) (P : PyData → Prop) (N : Nat) : ∀ {xs : List PyData} {st : Stt} {Q : List PyData → Stt → Prop} (i : Nat), i + xs.length ≤ N → I i st → (∀ x ∈ xs, ∀ j st, j < N → I j st → Wp (f x st) fun o st' => I (j + 1) st' ∧ ∃ y, o = some y ∧ P y) → (∀ ys st', I (i + xs.length) st' → ys.length = xs.length → (∀ y ∈ ys, P y) → Q ys st') → Wp (compL f xs st) Q
  | [], st, Q, i, hN, h, _, q => ⟨[], st, rfl, q [] st h rfl fun _ h => (nomatch h)⟩
  | x :: xs, st, Q, i, hN, h, hf, q => by
    rw [List.length_cons] at hN
    obtain ⟨o, s1, e1, h1, y, rfl, hy⟩ := hf x List.mem_cons_self i st (by omega) h
    unfold compL
    rw [e1, Res.bind_ok, Wp_bind]
    refine wp_compN I P N (i + 1) (by omega) h1 (fun z hz => hf z (List.mem_cons_of_mem _ hz)) fun ys s2 h2 hl hys => ?_
    rw [Wp_ok]
    refine q (y :: ys) s2 (by rw [List.length_cons]; rw [show i + (xs.length + 1) = i + 1 + xs.length by omega]; exact h2) (by rw [List.length_cons, List.length_cons, hl]) fun z hz => ?_
    rcases List.mem_cons.mp hz with rfl | hz
    · exact hy
    · exact hys z hz
/-- a list built by a look at each, nothing changed -/
theorem comp_map {f : PyData → Stt → Res (Option PyData)} {xs : List PyData} {st : Stt} (g : PyData → PyData) (h : ∀ x ∈ xs, f x st = .ok (some (g x)) st) : compL f xs st = .ok (xs.map g) st := by
  rw [← fm_some]
  exact compL_fm h
end
/-! ### dicts -/
theorem getP_mem {kvs : List (PyData × PyData)} {k v : PyData} (h : getP kvs k = some v) : ∃ p ∈ kvs, p.2 = v ∧ nk p.1 = nk k := by
  unfold getP at h
  cases e : kvs.find? (fun p => decide (nk p.1 = nk k)) with
  | none => rw [e] at h; cases h
  | some p =>
    rw [e] at h
    cases h
    exact ⟨p, List.mem_of_find?_eq_some e, rfl, by simpa using List.find?_some e⟩
theorem getP_has {kvs : List (PyData × PyData)} {p : PyData × PyData} (h : p ∈ kvs) : ∃ v, getP kvs p.1 = some v := by
  unfold getP
  cases e : kvs.find? (fun q => decide (nk q.1 = nk p.1)) with
  | none => have := List.find?_eq_none.mp e p h; simp at this
  | some q => exact ⟨q.2, rfl⟩
theorem putP_mem {P : PyData → PyData → Prop} {kvs : List (PyData × PyData)} {k v : PyData} (h : ∀ p ∈ kvs, P p.1 p.2) (hk : P k v) (hP : ∀ k' w, P k' w → nk k' = nk k → P k' v) : ∀ p ∈ putP kvs k v, P p.1 p.2 := by
  unfold putP
  split
  · intro p hp
    obtain ⟨q, hq, rfl⟩ := List.mem_map.mp hp
    split
    · exact hP q.1 q.2 (h q hq) (by assumption)
    · exact h q hq
  · intro p hp
    rcases List.mem_append.mp hp with hp | hp
    · exact h p hp
    · rw [List.mem_singleton.mp hp]; exact hk
theorem mergeP_mem {P : PyData → PyData → Prop} : ∀ {more kvs : List (PyData × PyData)}, (∀ p ∈ kvs, P p.1 p.2) → (∀ p ∈ more, P p.1 p.2) → (∀ k v k' w, P k v → P k' w → nk k' = nk k → P k' v) → ∀ p ∈ mergeP kvs more, P p.1 p.2
  | [], kvs, h, _, _ => h
  | q :: more, kvs, h, h2, hP => by
    show ∀ p ∈ mergeP (putP kvs q.1 q.2) more, P p.1 p.2
    exact mergeP_mem (putP_mem h (h2 q List.mem_cons_self) fun k' w hw e => hP _ _ _ _ (h2 q List.mem_cons_self) hw e) (fun p hp => h2 p (List.mem_cons_of_mem _ hp)) hP
theorem pairsD_map {α : Type} (k v : α → PyData) : ∀ xs : List α, (∀ x ∈ xs, keyOk (k x) = true) → pairsD (xs.map fun x => .tuple [k x, v x]) = some (xs.map fun x => (k x, v x))
  | [], _ => rfl
  | x :: xs, h => by
    rw [List.map_cons, List.map_cons, pairsD, h x List.mem_cons_self, if_pos rfl, pairsD_map k v xs fun y hy => h y (List.mem_cons_of_mem _ hy)]
    rfl
theorem keyBs_ints : ∀ is : List Int, keyBs (is.map PyData.int) = true
  | [] => by simp [keyBs]
  | i :: is => by simp [keyBs, keyB, keyBs_ints is]
theorem keyOk_ints (is : List Int) : keyOk (tuI is) = true := by
  unfold keyOk
  simp [isTup, keyB, keyBs_ints, PyData.depth, dep_ints]
theorem nks_ints : ∀ is js : List Int, nks (is.map PyData.int) = nks (js.map PyData.int) → is = js
  | [], [], _ => rfl
  | [], _ :: _, h => by simp [nks] at h
  | _ :: _, [], h => by simp [nks] at h
  | i :: is, j :: js, h => by
    simp only [List.map_cons, nks, nk, List.cons.injEq, NestedKey.num.injEq] at h
    rw [h.1, nks_ints is js h.2]
theorem nk_ints {is js : List Int} (h : nk (tuI is) = nk (tuI js)) : is = js := by
  simp only [tuI, nk, NestedKey.tup.injEq] at h
  exact nks_ints is js h
theorem hd_ints : ∀ is : List Int, PyData.hasDictAll (is.map PyData.int) = false
  | [] => by simp only [List.map_nil, PyData.hasDictAll]
  | i :: is => by simp only [List.map_cons, PyData.hasDictAll, PyData.hasDict, hd_ints is, Bool.or_self]
theorem alike_tI (is js : List Int) : PySem.W.alike (tuI is) (tuI js) = true := by
  simp only [tuI, PySem.W.alike, PySem.W.alike_ints]
theorem sortOk_ints (xs : List PyData) (h : ∀ x ∈ xs, ∃ is, x = tuI is ∧ 0 < is.length) : sortOk xs = true := by
  unfold sortOk
  rw [Bool.and_eq_true, Bool.and_eq_true, Bool.or_eq_true, List.all_eq_true, List.all_eq_true, List.all_eq_true]
  refine ⟨?_, Or.inl fun x hx => ?_, fun x hx => ?_⟩
  · unfold alikes
    rw [List.all_eq_true]
    intro x hx
    rw [List.all_eq_true]
    intro y hy
    obtain ⟨is, rfl, _⟩ := h x hx
    obtain ⟨js, rfl, _⟩ := h y hy
    exact alike_tI is js
  · obtain ⟨is, rfl, hl⟩ := h x hx
    cases is with
    | nil => cases hl
    | cons i is => rfl
  · obtain ⟨is, rfl, _⟩ := h x hx
    simp only [tuI, PyData.depth, dep_ints, PyData.hasDict, hd_ints]
    decide
theorem sortD_in {xs : List PyData} {x : PyData} : x ∈ sortD xs ↔ x ∈ xs := by
  unfold sortD
  exact List.mem_mergeSort
theorem sortD_len (xs : List PyData) : (sortD xs).length = xs.length := by
  unfold sortD
  exact List.length_mergeSort _
theorem lt_ints (is js : List Int) : ltI (tuI is) (tuI js) = some (PySem.W.dataLt (tuI is) (tuI js)) := by
  show (if _ then _ else _) = _
  rw [if_pos]
  simp only [cmpOk, alike_tI, PyData.depth, dep_ints, PyData.hasDict, hd_ints]
  decide
theorem le_ints (is js : List Int) : leI (tuI is) (tuI js) = some (!PySem.W.dataLt (tuI js) (tuI is)) := by
  show (if _ then _ else _) = _
  rw [if_pos]
  simp only [cmpOk, alike_tI, PyData.depth, dep_ints, PyData.hasDict, hd_ints]
  decide
theorem cmp_lt (x y : PyData) : cmpK .lt x y = toB (ltI x y) := by cases x <;> cases y <;> rfl
theorem cmp_le (x y : PyData) : cmpK .le x y = toB (leI x y) := by cases x <;> cases y <;> rfl
theorem cmp_gt (x y : PyData) : cmpK .gt x y = toB (ltI y x) := by cases x <;> cases y <;> rfl
theorem cmp_ge (x y : PyData) : cmpK .ge x y = toB (leI y x) := by cases x <;> cases y <;> rfl
end Gm

/-! Plain facts: texts, numbers as texts. -/
namespace Gm
open PySem PySem.Spec PyProof.Rows L2
open NumText (AllDigits digitsVal)
abbrev cps (x : Str) : List Nat := x.cps.toList
theorem cps_len (x : Str) : (cps x).length = x.length := Array.length_toList
theorem dig_cps : cps ("0123456789" : Str) = [48, 49, 50, 51, 52, 53, 54, 55, 56, 57] := by decide
theorem in_digits (c : Nat) : inD (.str ⟨#[c]⟩) (.str "0123456789") = some (decide (48 ≤ c ∧ c ≤ 57)) := by
  show some (!(Builtin.Str.occurrences ("0123456789" : Str) ⟨#[c]⟩ 0 ("0123456789" : Str).length 1).isEmpty) = _
  rw [PySem.StrLaws.found_one]
  congr 1
  have e : ("0123456789" : Str).cps.toList = [48, 49, 50, 51, 52, 53, 54, 55, 56, 57] := dig_cps
  rw [e]
  have : (c ∈ [48, 49, 50, 51, 52, 53, 54, 55, 56, 57]) ↔ (48 ≤ c ∧ c ≤ 57) := by
    simp only [List.mem_cons, List.not_mem_nil, or_false]
    omega
  exact decide_eq_decide.mpr this
def digB : PyData → Bool
  | .str s => (cps s).all fun c => decide (48 ≤ c ∧ c ≤ 57)
  | _ => false
/-- a text cut to its signs -/
def sgs (s : Str) : List PyData := s.cps.toList.map fun c => .str ⟨#[c]⟩
theorem digB_one (c : Nat) : digB (.str ⟨#[c]⟩) = decide (48 ≤ c ∧ c ≤ 57) := by
  show ([c].all fun c => decide (48 ≤ c ∧ c ≤ 57)) = _
  rw [List.all_cons, List.all_nil, Bool.and_true]
theorem sgs_dig {s : Str} {z : PyData} (h : z ∈ sgs s) : inD z (.str "0123456789") = some (digB z) := by
  obtain ⟨c, _, rfl⟩ := List.mem_map.mp h
  rw [in_digits, digB_one]
theorem all_dig (s : Str) : (sgs s).all digB = digB (.str s) := by
  show ((cps s).map _).all digB = (cps s).all _
  rw [List.all_map]
  congr 1
  funext c
  exact digB_one c
theorem digB_iff {s : Str} : digB (.str s) = true ↔ AllDigits (cps s) := by
  show (cps s).all _ = true ↔ _
  rw [List.all_eq_true]
  exact ⟨fun h c hc => of_decide_eq_true (h c hc), fun h c hc => decide_eq_true (h c hc)⟩
/-! figures and numbers -/
theorem head_app {α : Type} : ∀ (a b : List α), a ≠ [] → (a ++ b).head? = a.head?
  | [], _, h => absurd rfl h
  | _ :: _, _, _ => rfl
theorem numL_pos {n : Nat} : 0 < n → (TL.numL n).head? ≠ some 48 := by
  induction n using Nat.strongRecOn with
  | _ n ih =>
    intro h
    by_cases h10 : n < 10
    · rw [TL.numL_lt h10, List.head?_cons]
      intro e
      injection e with e
      omega
    · rw [TL.numL_step (by omega), head_app _ _ (TL.numL_ne _)]
      exact ih (n / 10) (by omega) (by omega)
theorem numL_zero : TL.numL 0 = [48] := TL.numL_lt (by decide)
theorem numL_back (r : List Nat) : AllDigits r.reverse → r ≠ [] → r.reverse.head? ≠ some 48 → TL.numL (digitsVal r.reverse) = r.reverse ∧ 0 < digitsVal r.reverse := by
  induction r with
  | nil => intro _ h; exact absurd rfl h
  | cons d r ih =>
    intro h _ hh
    rw [List.reverse_cons] at h hh ⊢
    have hd := h d (by simp)
    have hr : AllDigits r.reverse := fun c hc => h c (List.mem_append_left _ hc)
    rw [NumText.digitsVal_snoc]
    cases r with
    | nil =>
      simp only [List.reverse_nil, List.nil_append, List.head?_cons] at hh ⊢
      have hv : digitsVal [] = 0 := rfl
      rw [hv]
      have h1 : d ≠ 48 := fun e => hh (by rw [e])
      rw [show 0 * 10 + (d - 48) = d - 48 by omega, TL.numL_lt (by omega)]
      exact ⟨by rw [show 48 + (d - 48) = d by omega], by omega⟩
    | cons e r =>
      have hne : (e :: r).reverse ≠ [] := by simp
      rw [head_app _ _ hne] at hh
      obtain ⟨h1, h2⟩ := ih hr (by simp) hh
      refine ⟨?_, by omega⟩
      rw [TL.numL_step (by omega), show (digitsVal (e :: r).reverse * 10 + (d - 48)) / 10 = digitsVal (e :: r).reverse by omega, h1, show 48 + (digitsVal (e :: r).reverse * 10 + (d - 48)) % 10 = d by omega]
theorem numL_eq {a : List Nat} (h : AllDigits a) (h0 : a ≠ []) : TL.numL (digitsVal a) = a ↔ (a.head? ≠ some 48 ∨ a = [48]) := by
  constructor
  · intro e
    by_cases hz : digitsVal a = 0
    · rw [hz, numL_zero] at e
      exact .inr e.symm
    · refine .inl ?_
      rw [← e]
      exact numL_pos (by omega)
  · rintro (e | e)
    · have := numL_back a.reverse
      rw [List.reverse_reverse] at this
      exact (this h (by simpa using h0) e).1
    · subst e
      rfl
theorem val_zero {a : List Nat} (h : AllDigits a) (h0 : a ≠ []) (hv : digitsVal a = 0) : a.head? = some 48 := by
  by_cases e : a.head? = some 48
  · exact e
  · have := numL_back a.reverse
    rw [List.reverse_reverse] at this
    have := (this h (by simpa using h0) e).2
    omega
theorem text_nat (n : Nat) : cps (Str.ofString (toString (n : Int))) = TL.numL n := TL.tl_num n
theorem text_neg {n : Nat} (h : 0 < n) : cps (Str.ofString (toString (-(n : Int)))) = 45 :: TL.numL n := by
  rw [PyProof.Rows.toString_neg (by omega : -(n : Int) < 0), show (0 : Int) - -(n : Int) = (n : Int) by omega]
  rw [← text_nat]
  simp only [cps, signs_ofString, String.toList_append, List.map_append]
  rfl
theorem str_ext {x y : Str} : x = y ↔ cps x = cps y := ⟨fun h => by rw [h], TL.ext_tl⟩
/-- a text is the text of the number that int reads -/
theorem text_is {x : Str} (h : AllDigits (cps x)) (h0 : cps x ≠ []) : (Str.ofString (toString ((digitsVal (cps x) : Nat) : Int)) = x) ↔ ((cps x).head? ≠ some 48 ∨ cps x = [48]) := by
  rw [str_ext, text_nat, numL_eq h h0]
theorem text_isn {x : Str} {a : List Nat} (hx : cps x = 45 :: a) (h : AllDigits a) (h0 : a ≠ []) : (Str.ofString (toString (-((digitsVal a : Nat) : Int))) = x) ↔ a.head? ≠ some 48 := by
  rw [str_ext, hx]
  by_cases hv : digitsVal a = 0
  · rw [hv]
    have hd := val_zero h h0 hv
    constructor
    · intro e
      have e1 : cps (Str.ofString (toString (-((0 : Nat) : Int)))) = [48] := by decide
      rw [e1] at e
      injection e with e _
      omega
    · exact fun e => absurd hd e
  · rw [text_neg (by omega)]
    constructor
    · intro e
      injection e with _ e
      rw [← e]
      exact numL_pos (by omega)
    · intro e
      rw [(numL_eq h h0).mpr (.inl e)]
theorem cps_cut_to (x : Str) (n : Nat) : cps (cutS x none (some (n : Int))) = (cps x).take n := by
  show (((cps x).drop (HT.sIx x.length 0 none)).take (HT.sIx x.length x.length (some (n : Int)) - HT.sIx x.length 0 none)) = _
  rw [HT.sIx_none, HT.sIx_nat, List.drop_zero, Nat.sub_zero]
  by_cases h : n ≤ x.length
  · rw [Nat.min_eq_left h]
  · rw [Nat.min_eq_right (by omega), List.take_of_length_le (by rw [cps_len]; exact Nat.le_refl _), List.take_of_length_le (by rw [cps_len]; omega)]
theorem cps_cut_from (x : Str) (n : Nat) : cps (cutS x (some (n : Int)) none) = (cps x).drop n := by
  show (((cps x).drop (HT.sIx x.length 0 (some (n : Int)))).take (HT.sIx x.length x.length none - HT.sIx x.length 0 (some (n : Int)))) = _
  rw [HT.sIx_none, HT.sIx_nat]
  by_cases h : n ≤ x.length
  · rw [Nat.min_eq_left h, List.take_of_length_le (by rw [List.length_drop, cps_len]; exact Nat.le_refl _)]
  · rw [Nat.min_eq_right (by omega), List.drop_of_length_le (by rw [cps_len]; exact Nat.le_refl _), List.drop_of_length_le (by rw [cps_len]; omega), List.take_nil]
theorem cutS_len (x : Str) (lo hi : Option Int) : (cutS x lo hi).length ≤ x.length := by
  rw [← cps_len, ← cps_len]
  show (List.take _ (List.drop _ (cps x))).length ≤ _
  rw [List.length_take, List.length_drop]
  omega
theorem cutS_ok {x : Str} (h : PyData.strOk x = true) (lo hi : Option Int) : PyData.strOk (cutS x lo hi) = true := by
  unfold PyData.strOk at h ⊢
  rw [Array.all_eq_true'] at h ⊢
  intro c hc
  have hc : c ∈ cps (cutS x lo hi) := by simpa using hc
  exact h c (by have := List.drop_subset _ _ (List.take_subset _ _ hc); simpa using this)
theorem app_len (x y : Str) : (x ++ y).length = x.length + y.length := by
  show (x.cps ++ y.cps).size = _
  rw [Array.size_append]
  rfl
theorem app_ok {x y : Str} (hx : PyData.strOk x = true) (hy : PyData.strOk y = true) : PyData.strOk (x ++ y) = true := by
  unfold PyData.strOk at hx hy ⊢
  show (x.cps ++ y.cps).all _ = true
  rw [Array.all_append, hx, hy]
  rfl
theorem app_inv {x y : Str} (h : PyData.strOk (x ++ y) = true) : PyData.strOk x = true ∧ PyData.strOk y = true := by
  unfold PyData.strOk at h ⊢
  have h : (x.cps ++ y.cps).all _ = true := h
  rw [Array.all_append, Bool.and_eq_true] at h
  exact h
theorem join_inv (sep : Str) : ∀ (ts : List Str), PyData.strOk (Str.join sep ts) = true → ∀ p ∈ ts, PyData.strOk p = true
  | [], _, _, h => (nomatch h)
  | [x], h, p, hp => by
    rw [List.mem_singleton.mp hp]
    exact h
  | x :: y :: r, h, p, hp => by
    rw [PyProof.Rows.join_cons_cons] at h
    rcases List.mem_cons.mp hp with rfl | hp
    · exact (app_inv (app_inv h).1).1
    · exact join_inv sep (y :: r) (app_inv h).2 p hp
theorem split_len {x y p : Str} (h : p ∈ Txt.split x y) : p.length ≤ x.length := by
  have := PySem.join_mem_le y (Txt.split x y) p h
  rw [PySem.StrLaws.join_split] at this
  exact this
theorem split_ok {x y p : Str} (hx : PyData.strOk x = true) (h : p ∈ Txt.split x y) : PyData.strOk p = true := by
  refine join_inv y (Txt.split x y) ?_ p h
  rw [PySem.StrLaws.join_split]
  exact hx
theorem split_cnt {x : Str} (y : Str) (h : x.length + 2 ≤ lineN) : (Txt.split x y).length ≤ lineN := Nat.le_trans (PyProof.Rows.split_le x y) h
theorem txt_join (sep : Str) (ts : List Str) : Txt.join sep ts = Str.join sep ts := by
  unfold Txt.join
  rw [PySem.StrLaws.glued_eq_join]
theorem join_oks {sep : Str} {n : Nat} (hs : PyData.strOk sep = true) (hl : sep.length ≤ 1) : ∀ (ts : List Str), (∀ p ∈ ts, PyData.strOk p = true ∧ p.length ≤ n) → PyData.strOk (Str.join sep ts) = true ∧ (Str.join sep ts).length ≤ ts.length * (n + 1)
  | [], _ => ⟨show PyData.strOk (⟨#[]⟩ : Str) = true by decide +kernel, Nat.zero_le _⟩
  | [x], h => by
    rw [PyProof.Rows.join_one]
    refine ⟨(h x (List.mem_singleton.mpr rfl)).1, ?_⟩
    have := (h x (List.mem_singleton.mpr rfl)).2
    show _ ≤ 1 * (n + 1)
    omega
  | x :: y :: r, h => by
    have hx := h x List.mem_cons_self
    have ih := join_oks hs hl (y :: r) fun p hp => h p (List.mem_cons_of_mem _ hp)
    rw [PyProof.Rows.join_cons_cons]
    refine ⟨app_ok (app_ok hx.1 hs) ih.1, ?_⟩
    have e : (x :: y :: r).length * (n + 1) = (y :: r).length * (n + 1) + (n + 1) := by rw [List.length_cons (a := x), Nat.add_mul, Nat.one_mul]
    rw [app_len, app_len, e]
    omega
theorem join_ok {sep : Str} {n : Nat} (hs : PyData.strOk sep = true) (hl : sep.length ≤ 1) (ts : List Str) (h : ∀ p ∈ ts, PyData.strOk p = true ∧ p.length ≤ n) : PyData.strOk (Txt.join sep ts) = true ∧ (Txt.join sep ts).length ≤ ts.length * (n + 1) := by
  rw [txt_join]
  exact join_oks hs hl ts h
theorem allS_str : ∀ ts : List Str, allS (ts.map PyData.str) = some ts
  | [] => rfl
  | t :: ts => by
    rw [List.map_cons]
    show (allS (ts.map PyData.str)).map (t :: ·) = _
    rw [allS_str ts]
    rfl
theorem sum_le {n : Nat} : ∀ (ts : List Str), (∀ p ∈ ts, p.length ≤ n) → (ts.map (·.length)).sum ≤ ts.length * n
  | [], _ => Nat.zero_le _
  | t :: ts, h => by
    have h1 := h t List.mem_cons_self
    have h2 := sum_le ts fun p hp => h p (List.mem_cons_of_mem _ hp)
    rw [List.map_cons, List.sum_cons, List.length_cons, Nat.add_mul, Nat.one_mul]
    omega
theorem mth_join {sep : Str} {ts : List Str} {n : Nat} (hl : sep.length ≤ 1) (h : ∀ p ∈ ts, p.length ≤ n) (hn : ts.length * (n + 1) ≤ lineN) : mthD .join (.str sep) [.list (ts.map PyData.str)] = some (.d (.str (Txt.join sep ts))) := by
  show (allS _).bind _ = _
  rw [allS_str, Option.bind_some, if_pos]
  have := sum_le ts h
  have h2 : ts.length * sep.length ≤ ts.length * 1 := Nat.mul_le_mul_left _ hl
  rw [Nat.mul_add] at hn
  omega
theorem add_ss (x y : Str) : binD .add (.str x) (.str y) = if x.length + y.length ≤ lineN then some (.d (.str (x ++ y))) else none := rfl
theorem val_lt : ∀ r : List Nat, AllDigits r.reverse → digitsVal r.reverse < 10 ^ r.length
  | [], _ => by decide
  | d :: r, h => by
    rw [List.reverse_cons] at h ⊢
    have hd := h d (by simp)
    have ih := val_lt r fun c hc => h c (List.mem_append_left _ hc)
    rw [NumText.digitsVal_snoc, List.length_cons, Nat.pow_succ]
    omega
theorem digits_lt {a : List Nat} {k : Nat} (h : AllDigits a) (hl : a.length ≤ k) : digitsVal a < 10 ^ k := by
  have := val_lt a.reverse
  rw [List.reverse_reverse, List.length_reverse] at this
  exact Nat.lt_of_lt_of_le (this h) (Nat.pow_le_pow_right (by decide) hl)
theorem txt_len {i : Int} (h : i.natAbs ≤ 10 ^ 60) : (Str.ofString (toString i)).length ≤ 1922 := by
  have := int_text_length_le (a := i) (k := 1920) (by decide) (of_decide_eq_true (small_b h))
  rw [PySem.ofString_length]
  omega
end Gm

/-! Plain facts: dots, places, things; lists of pairs as dicts; sorted lists. -/
namespace Gm
open PySem PySem.Spec PyProof.Rows L2
abbrev Dot := List Int × Int
def eD (d : Dot) : PyData := .tuple [tuI d.1, .int d.2]
def eP : Option Dot → PyData
  | none => .tuple []
  | some d => eD d
structure Tg where
  w : Option Dot
  n : Str
  v : Int
def eT (t : Tg) : PyData := .tuple [eP t.w, .str t.n, .int t.v]
def eH (p : Dot × Tg) : PyData := .tuple [eD p.1, eT p.2]
theorem lay_tI (is : List Int) : (tuI is).canLay0 = true := by simp only [tuI, PyData.canLay0, lay_ints]
theorem dep_tI (is : List Int) : (tuI is).depth = 1 := by simp only [tuI, PyData.depth, dep_ints]
theorem th_eD (d : Dot) : Th (eD d) := ⟨by simp only [eD, PyData.canLay0, PyData.canLayAll0, lay_ints, Bool.and_self], by simp only [eD, PyData.depth, PyData.depthAll, dep_ints]; omega⟩
theorem th_eP (p : Option Dot) : Th (eP p) := by
  cases p with
  | none => exact th_nilt
  | some d => exact th_eD d
theorem eqv_PP (a b : Option Dot) : PyData.eqv (eP a) (eP b) = decide (a = b) := by
  cases a with
  | none =>
    cases b with
    | none => rfl
    | some b => simp [eP, eD, PyData.eqv, PyData.eqvAll]
  | some a =>
    cases b with
    | none => simp [eP, eD, PyData.eqv, PyData.eqvAll]
    | some b =>
      obtain ⟨a1, a2⟩ := a
      obtain ⟨b1, b2⟩ := b
      simp only [eP, eD, tuI, PyData.eqv, PyData.eqvAll, eqv_ints, Bool.and_true, Option.some.injEq, Prod.mk.injEq]
      by_cases h1 : a1 = b1 <;> by_cases h2 : a2 = b2 <;> simp [h1, h2]
theorem eqD_PP (a b : Option Dot) : eqD (eP a) (eP b) = some (decide (a = b)) := by
  have e : eqD (eP a) (eP b) = eqS (eP a) (eP b) := by cases a <;> rfl
  rw [e]
  unfold eqS
  rw [shp_th (th_eP a), shp_th (th_eP b), Bool.and_true, if_pos rfl, eqv_PP]
theorem eqD_P0 (a : Option Dot) : eqD (eP a) (.tuple []) = some (decide (a = none)) := eqD_PP a none
theorem keyOk_eP (p : Option Dot) : keyOk (eP p) = true := by
  cases p with
  | none => rfl
  | some d =>
    unfold keyOk
    simp [eP, eD, tuI, isTup, keyB, keyBs, keyBs_ints, PyData.depth, PyData.depthAll, dep_ints]
theorem keyOk_eD (d : Dot) : keyOk (eD d) = true := keyOk_eP (some d)
theorem nk_eD {a b : Dot} : nk (eD a) = nk (eD b) ↔ a = b := by
  constructor
  · intro h
    obtain ⟨a1, a2⟩ := a
    obtain ⟨b1, b2⟩ := b
    simp only [eD, nk, nks, NestedKey.tup.injEq, List.cons.injEq, NestedKey.num.injEq, and_true] at h
    have e1 : a1 = b1 := nks_ints _ _ h.1
    rw [e1, h.2]
  · intro h; rw [h]
theorem nk_eD0 (a : Dot) : nk (eD a) ≠ nk (.tuple []) := by simp [eD, nk, nks]
theorem eD_inj {a b : Dot} (h : eD a = eD b) : a = b := nk_eD.mp (congrArg nk h)
/-! ### dicts by dots -/
section
variable {β : Type}
def gl (l : List (Dot × β)) (d : Dot) : Option β := (l.find? fun p => decide (p.1 = d)).map (·.2)
def pl (l : List (Dot × β)) (d : Dot) (b : β) : List (Dot × β) := if (gl l d).isSome then l.map (fun p => if p.1 = d then (p.1, b) else p) else l ++ [(d, b)]
abbrev en (f : β → PyData) (l : List (Dot × β)) : List (PyData × PyData) := l.map fun p => (eD p.1, f p.2)
theorem getP_en (f : β → PyData) (l : List (Dot × β)) (d : Dot) : getP (en f l) (eD d) = (gl l d).map f := by
  unfold getP gl
  induction l with
  | nil => rfl
  | cons p l ih =>
    rw [show en f (p :: l) = (eD p.1, f p.2) :: en f l from rfl, List.find?_cons, List.find?_cons]
    by_cases h : p.1 = d
    · simp [h]
    · have h' : ¬ nk (eD p.1) = nk (eD d) := fun z => h (nk_eD.mp z)
      simp only [h, h', decide_false]
      exact ih
theorem getP_enP (f : β → PyData) (l : List (Dot × β)) (q : Option Dot) : getP (en f l) (eP q) = q.bind fun d => (gl l d).map f := by
  cases q with
  | some d => exact getP_en f l d
  | none =>
    show getP (en f l) (.tuple []) = none
    unfold getP
    rw [List.find?_eq_none.mpr]
    · rfl
    · intro x hx
      obtain ⟨p, _, rfl⟩ := List.mem_map.mp hx
      simp [nk_eD0]
theorem putP_en (f : β → PyData) (l : List (Dot × β)) (d : Dot) (b : β) : putP (en f l) (eD d) (f b) = en f (pl l d b) := by
  unfold putP pl
  rw [getP_en]
  cases h : gl l d with
  | none =>
    simp only [Option.map_none, Option.isSome_none, Bool.false_eq_true, if_false]
    exact (List.map_append (l₁ := l) (l₂ := [(d, b)]) (f := fun p => (eD p.1, f p.2))).symm
  | some c =>
    simp only [Option.map_some, Option.isSome_some, if_true, List.map_map]
    refine List.map_congr_left fun p _ => ?_
    simp only [Function.comp]
    by_cases e : p.1 = d
    · simp [e]
    · have e' : ¬ nk (eD p.1) = nk (eD d) := fun z => e (nk_eD.mp z)
      simp [e, e']
theorem gl_some {l : List (Dot × β)} {d : Dot} {b : β} (h : gl l d = some b) : (d, b) ∈ l := by
  unfold gl at h
  cases e : l.find? (fun p => decide (p.1 = d)) with
  | none => rw [e] at h; cases h
  | some p =>
    rw [e] at h
    cases h
    have := List.find?_some e
    have e2 : p.1 = d := of_decide_eq_true this
    rw [← e2]
    exact List.mem_of_find?_eq_some e
theorem gl_none {l : List (Dot × β)} {d : Dot} : gl l d = none ↔ d ∉ l.map (·.1) := by
  unfold gl
  rw [Option.map_eq_none_iff, List.find?_eq_none]
  constructor
  · rintro h m
    obtain ⟨p, hp, e⟩ := List.mem_map.mp m
    exact h p hp (decide_eq_true e)
  · intro h p hp e
    exact h (List.mem_map.mpr ⟨p, hp, of_decide_eq_true e⟩)
theorem gl_isSome {l : List (Dot × β)} {d : Dot} : (gl l d).isSome = decide (d ∈ l.map (·.1)) := by
  cases h : gl l d with
  | none => rw [decide_eq_false (gl_none.mp h)]; rfl
  | some b => rw [decide_eq_true (List.mem_map.mpr ⟨_, gl_some h, rfl⟩)]; rfl
theorem gl_mem {l : List (Dot × β)} (hn : (l.map (·.1)).Nodup) {d : Dot} {b : β} (h : (d, b) ∈ l) : gl l d = some b := by
  induction l with
  | nil => cases h
  | cons p l ih =>
    rw [List.map_cons] at hn
    obtain ⟨n1, n2⟩ := List.nodup_cons.mp hn
    unfold gl
    rw [List.find?_cons]
    rcases List.mem_cons.mp h with e | h
    · subst e
      simp
    · have e : ¬ p.1 = d := fun e => n1 (by rw [e]; exact List.mem_map.mpr ⟨_, h, rfl⟩)
      simp only [e, decide_false]
      exact ih n2 h
theorem pl_keys (l : List (Dot × β)) (d : Dot) (b : β) : (pl l d b).map (·.1) = if d ∈ l.map (·.1) then l.map (·.1) else l.map (·.1) ++ [d] := by
  unfold pl
  rw [gl_isSome]
  by_cases h : d ∈ l.map (·.1)
  · rw [decide_eq_true h, if_pos rfl, if_pos h, List.map_map]
    refine List.map_congr_left fun p _ => ?_
    simp only [Function.comp]
    split <;> rfl
  · rw [decide_eq_false h, if_neg (by decide), if_neg h, List.map_append]
    rfl
theorem pl_nodup {l : List (Dot × β)} {d : Dot} {b : β} (hn : (l.map (·.1)).Nodup) : ((pl l d b).map (·.1)).Nodup := by
  rw [pl_keys]
  split
  · exact hn
  · rename_i h
    rw [List.nodup_append]
    exact ⟨hn, by simp, fun x hx y hy => by rw [List.mem_singleton.mp hy]; exact fun e => h (e ▸ hx)⟩
theorem pl_new {l : List (Dot × β)} {d : Dot} {b : β} (h : d ∉ l.map (·.1)) : pl l d b = l ++ [(d, b)] := by
  unfold pl
  rw [gl_isSome, decide_eq_false h]
  rfl
theorem pl_mem {l : List (Dot × β)} {d : Dot} {b : β} {P : Dot → β → Prop} (h : ∀ p ∈ l, P p.1 p.2) (hd : P d b) : ∀ p ∈ pl l d b, P p.1 p.2 := by
  unfold pl
  split
  · intro p hp
    obtain ⟨q, hq, rfl⟩ := List.mem_map.mp hp
    split
    · rename_i e
      rw [e]
      exact hd
    · exact h q hq
  · intro p hp
    rcases List.mem_append.mp hp with hp | hp
    · exact h p hp
    · rw [List.mem_singleton.mp hp]; exact hd
theorem merge_en (f : β → PyData) : ∀ (more l : List (Dot × β)), ((l ++ more).map (·.1)).Nodup → mergeP (en f l) (en f more) = en f (l ++ more)
  | [], l, _ => by rw [List.append_nil]; rfl
  | p :: more, l, h => by
    show mergeP (putP (en f l) (eD p.1) (f p.2)) (en f more) = _
    have hp : p.1 ∉ l.map (·.1) := by
      rw [List.map_append, List.nodup_append] at h
      exact fun z => h.2.2 p.1 z p.1 (List.mem_map.mpr ⟨p, List.mem_cons_self, rfl⟩) rfl
    rw [putP_en, pl_new hp, merge_en f more (l ++ [(p.1, p.2)]) (by simpa using h)]
    simp
theorem pairs_en (f : β → PyData) : ∀ l : List (Dot × β), pairsD (l.map fun p => .tuple [eD p.1, f p.2]) = some (en f l)
  | [] => rfl
  | p :: l => by
    show (if keyOk (eD p.1) then (pairsD (l.map fun p => .tuple [eD p.1, f p.2])).map ((eD p.1, f p.2) :: ·) else none) = _
    rw [keyOk_eD, if_pos rfl, pairs_en f l]
    rfl
/-- dict(tuple of pairs) of distinct dots -/
theorem dict_en (f : β → PyData) {l : List (Dot × β)} (hn : (l.map (·.1)).Nodup) : (pairsD (l.map fun p => .tuple [eD p.1, f p.2])).map (fun ps => mergeP [] ps) = some (en f l) := by
  rw [pairs_en, Option.map_some, show mergeP [] (en f l) = mergeP (en f ([] : List (Dot × β))) (en f l) from rfl, merge_en f l [] (by simpa using hn)]
  rfl
theorem bif_dict_en (f : β → PyData) {l : List (Dot × β)} (hn : (l.map (·.1)).Nodup) : bifD .dict [.tuple (l.map fun p => .tuple [eD p.1, f p.2])] = some (.new (.dct (en f l))) := by
  rw [bif_dct_t, pairs_en, Option.map_some, show mergeP [] (en f l) = mergeP (en f ([] : List (Dot × β))) (en f l) from rfl, merge_en f l [] (by simpa using hn)]
  rfl
end
/-! ### sorted lists -/
abbrev leD (x y : PyData) : Bool := PySem.W.dataLe false id x y
theorem leD_lt (x y : PyData) : leD x y = !PySem.W.dataLt y x := rfl
theorem sortD_of {xs : List PyData} (h : xs.Pairwise fun a b => leD a b = true) : sortD xs = xs := List.mergeSort_of_pairwise h
theorem sortD_pw (xs : List PyData) : (sortD xs).Pairwise fun a b => leD a b = true := PySem.W.sort_pairwise le_tot xs
theorem sortD_pm (xs : List PyData) : (sortD xs).Perm xs := List.mergeSort_perm _ _
theorem alike_DD (a b : Dot) : PySem.W.alike (eD a) (eD b) = true := by simp only [eD, PySem.W.alike, PySem.W.alikeAll, PySem.W.alike_ints, Bool.and_self]
theorem dep_eD (d : Dot) : (eD d).depth = 2 := by simp only [eD, PyData.depth, PyData.depthAll, dep_ints]; omega
theorem hdt_eD (d : Dot) : (eD d).hasDict = false := by simp only [eD, tuI, PyData.hasDict, PyData.hasDictAll, hd_ints, Bool.or_self]
theorem sortOk_all {xs : List PyData} (h1 : ∀ x ∈ xs, ∀ y ∈ xs, PySem.W.alike x y = true) (h2 : ∀ x ∈ xs, headed x = true ∧ x.depth ≤ 20 ∧ x.hasDict = false) : sortOk xs = true := by
  unfold sortOk
  rw [Bool.and_eq_true, Bool.and_eq_true, Bool.or_eq_true]
  refine ⟨?_, Or.inl (List.all_eq_true.mpr fun x hx => (h2 x hx).1), List.all_eq_true.mpr fun x hx => ?_⟩
  · unfold alikes
    rw [List.all_eq_true]
    intro x hx
    rw [List.all_eq_true]
    exact fun y hy => h1 x hx y hy
  · obtain ⟨_, a, b⟩ := h2 x hx
    rw [b, decide_eq_true a]
    rfl
theorem sortOk_ds (l : List Dot) : sortOk (l.map eD) = true := by
  refine sortOk_all (fun x hx y hy => ?_) fun x hx => ?_
  · obtain ⟨a, _, rfl⟩ := List.mem_map.mp hx
    obtain ⟨b, _, rfl⟩ := List.mem_map.mp hy
    exact alike_DD a b
  · obtain ⟨a, _, rfl⟩ := List.mem_map.mp hx
    exact ⟨rfl, by rw [dep_eD]; omega, hdt_eD a⟩
theorem keyB_eD (d : Dot) : keyB (eD d) = true := (keyOk_of (keyOk_eD d)).2.1
theorem nk_map_nodup {l : List Dot} (h : l.Nodup) : ((l.map eD).map nk).Nodup := by
  rw [List.map_map]
  exact List.Pairwise.map _ (fun a b hne e => hne (nk_eD.mp e)) h
/-- distinct dots: the sorted list is the same however they stand -/
theorem sortDs_perm {l m : List Dot} (p : l.Perm m) (hn : l.Nodup) : sortD (l.map eD) = sortD (m.map eD) := by
  have h := sortOk_ds l
  unfold sortOk at h
  rw [Bool.and_eq_true] at h
  refine sortD_perm (p.map _) h.1 (fun x hx => ?_) (nk_map_nodup hn)
  obtain ⟨a, _, rfl⟩ := List.mem_map.mp hx
  exact keyB_eD a
/-- the list of a mapped list, sorted -/
theorem sortD_map {α : Type} (f : α → PyData) (l : List α) : sortD (l.map f) = (l.mergeSort fun a b => leD (f a) (f b)).map f := (List.map_mergeSort (r := fun a b => leD (f a) (f b)) (s := PySem.W.dataLe false id) (f := f) (l := l) fun a _ b _ => rfl).symm
/-- sorted dots, as dots -/
def srtD (l : List Dot) : List Dot := l.mergeSort fun a b => leD (eD a) (eD b)
theorem srtD_eq (l : List Dot) : sortD (l.map eD) = (srtD l).map eD := sortD_map eD l
theorem srtD_perm (l : List Dot) : (srtD l).Perm l := List.mergeSort_perm _ _
def AscD (l : List Dot) : Prop := l.Pairwise fun a b => leD (eD a) (eD b) = true
theorem srtD_asc (l : List Dot) : AscD (srtD l) := by
  have h := sortD_pw (l.map eD)
  rw [srtD_eq] at h
  exact List.pairwise_map.mp h
theorem asc_srt {l : List Dot} (h : AscD l) : sortD (l.map eD) = l.map eD := sortD_of (List.pairwise_map.mpr h)
/-- of distinct sorted dots those of another order -/
theorem asc_perm {l m : List Dot} (h : AscD l) (p : m.Perm l) (hn : l.Nodup) : sortD (m.map eD) = l.map eD := by
  rw [← sortDs_perm p.symm hn]
  exact asc_srt h
/-! ### while -/
theorem S_whl {Φ : Phi} {ρ : Rho} {st : Stt} (n : Nat) (c : E) (b : Ss) : semS Φ (.whl n c b) ρ st = whlL (fun ρ s => (sem Φ c ρ s).bind fun x s => truth x s) (fun ρ s => semSs Φ b ρ s) n ρ st := by rw [semS]
/-- a loop of at most j more turns -/
theorem wp_whl {c : Rho → Stt → Res Bool} {f : Rho → Stt → Res Fl} {Q : Fl → Stt → Prop} (I : Nat → Rho → Stt → Prop)
    (hI : ∀ j ρ st, I j ρ st → Wp (c ρ st) fun b s1 => (b = true → ∃ j', j = j' + 1 ∧ Wp (f ρ s1) fun fl s2 => ∃ ρ', fl = .nx ρ' ∧ I j' ρ' s2) ∧ (b = false → Q (.nx ρ) s1)) :
    ∀ (j n : Nat) (ρ : Rho) (st : Stt), j < n → I j ρ st → Wp (whlL c f n ρ st) Q
  | j, 0, ρ, st, h, _ => absurd h (Nat.not_lt_zero _)
  | j, n + 1, ρ, st, h, hi => by
    obtain ⟨b, s1, e, h1, h2⟩ := hI j ρ st hi
    unfold whlL
    rw [e, Res.bind_ok]
    cases b with
    | false => exact ⟨_, _, rfl, h2 rfl⟩
    | true =>
      obtain ⟨j', rfl, fl, s2, e2, ρ', rfl, h3⟩ := h1 rfl
      rw [if_pos rfl, e2, Res.bind_ok]
      exact wp_whl I hI j' n ρ' s2 (by omega) h3
theorem wp_eq {α : Type} {r : Res α} {a : α} {s : Stt} (h : Wp r fun b t => b = a ∧ t = s) : r = .ok a s := by
  obtain ⟨_, _, e, rfl, rfl⟩ := h
  exact e
theorem in_dct (x : PyData) (kvs : List (PyData × PyData)) : inD x (.dict kvs) = if keyOk x = true then some (getP kvs x).isSome else none := by cases x <;> rfl
theorem cmp_notin' (x y : PyData) : cmpK .notin x y = toB ((inD x y).map (!·)) := rfl
/-- distinct things of a list are no more than the list -/
theorem nodup_len {α : Type} [DecidableEq α] : ∀ (l m : List α), l.Nodup → (∀ x ∈ l, x ∈ m) → l.length ≤ m.length
  | [], _, _, _ => Nat.zero_le _
  | x :: l, m, hn, hs => by
    obtain ⟨h1, h2⟩ := List.nodup_cons.mp hn
    have hx : x ∈ m := hs x List.mem_cons_self
    have ih := nodup_len l (m.erase x) h2 fun y hy => by
      have hne : y ≠ x := fun e => h1 (e ▸ hy)
      exact (List.mem_erase_of_ne hne).mpr (hs y (List.mem_cons_of_mem _ hy))
    have e := List.length_erase_of_mem hx
    have hp : 0 < m.length := List.length_pos_of_mem hx
    rw [List.length_cons]
    omega
/-- a comprehension over a mapped list -/
theorem comp_fmap {α : Type} {f : PyData → Stt → Res (Option PyData)} {st : Stt} (h k : α → PyData) (c : α → Bool) : ∀ {xs : List α}, (∀ a ∈ xs, f (h a) st = .ok (if c a = true then some (k a) else none) st) → compL f (xs.map h) st = .ok ((xs.filter c).map k) st
  | [], _ => rfl
  | x :: xs, hf => by
    rw [List.map_cons, List.filter_cons]
    unfold compL
    rw [hf x List.mem_cons_self, Res.bind_ok, comp_fmap h k c fun a ha => hf a (List.mem_cons_of_mem _ ha), Res.bind_ok]
    cases c x <;> rfl
theorem comp_mapm {α : Type} {f : PyData → Stt → Res (Option PyData)} {st : Stt} (h k : α → PyData) {xs : List α} (hf : ∀ a ∈ xs, f (h a) st = .ok (some (k a)) st) : compL f (xs.map h) st = .ok (xs.map k) st := by
  have := comp_fmap (st := st) h k (fun _ => true) (xs := xs) (f := f) fun a ha => by rw [if_pos rfl]; exact hf a ha
  rwa [List.filter_eq_self.mpr fun _ _ => rfl] at this
theorem allI_map {α : Type} (f : α → Int) : ∀ l : List α, allI (l.map fun a => .int (f a)) = some (l.map f)
  | [] => rfl
  | a :: l => by rw [List.map_cons, allI, allI_map f l]; rfl
theorem sortOk_strs {α : Type} (f : α → Str) (l : List α) : sortOk (l.map fun a => .str (f a)) = true := by
  unfold sortOk
  rw [Bool.and_eq_true, Bool.and_eq_true, Bool.or_eq_true]
  refine ⟨?_, Or.inr (List.all_eq_true.mpr fun x hx => ?_), List.all_eq_true.mpr fun x hx => ?_⟩
  · unfold alikes
    rw [List.all_eq_true]
    intro x hx
    rw [List.all_eq_true]
    intro y hy
    obtain ⟨a, _, rfl⟩ := List.mem_map.mp hx
    obtain ⟨b, _, rfl⟩ := List.mem_map.mp hy
    rfl
  · obtain ⟨a, _, rfl⟩ := List.mem_map.mp hx
    rfl
  · obtain ⟨a, _, rfl⟩ := List.mem_map.mp hx
    simp [PyData.depth, PyData.hasDict]
theorem setOk_strs {α : Type} (f : α → Str) {l : List α} (h : l.length < 64) : setOk (l.map fun a => .str (f a)) = true := by
  unfold setOk
  rw [sortOk_strs, List.length_map, decide_eq_true h]
  have : ((l.map fun a => PyData.str (f a)).all isStr) = true := List.all_eq_true.mpr fun x hx => by
    obtain ⟨a, _, rfl⟩ := List.mem_map.mp hx
    rfl
  rw [this, Bool.or_true]
  rfl
/-! ### lists that are built while something changes -/
section
variable {α γ : Type}
/-- each item kept or left out, with a thing of its own -/
theorem wp_compG {f : PyData → Stt → Res (Option PyData)} (I : Stt → Prop) (h : α → PyData) (k : α → γ → PyData) (P : α → γ → Prop) : ∀ {xs : List α} {st : Stt} {Q : List PyData → Stt → Prop}, I st →
    (∀ a ∈ xs, ∀ st, I st → Wp (f (h a) st) fun o st' => I st' ∧ (o = none ∨ ∃ g, o = some (k a g) ∧ P a g)) → (∀ (zs : List (α × γ)) st', I st' → (zs.map (·.1)).Sublist xs → (∀ z ∈ zs, P z.1 z.2) → Q (zs.map fun z => k z.1 z.2) st') → Wp (compL f (xs.map h) st) Q
  | [], st, Q, hi, _, q => ⟨[], st, rfl, q [] st hi (List.Sublist.refl _) fun _ h => nomatch h⟩
  | a :: xs, st, Q, hi, hf, q => by
    obtain ⟨o, s1, e1, h1, ho⟩ := hf a List.mem_cons_self st hi
    rw [List.map_cons]
    unfold compL
    rw [e1, Res.bind_ok, Wp_bind]
    refine wp_compG I h k P h1 (fun b hb => hf b (List.mem_cons_of_mem _ hb)) fun zs s2 h2 hs hp => ?_
    rw [Wp_ok]
    rcases ho with rfl | ⟨g, rfl, hg⟩
    · exact q zs s2 h2 (hs.cons a) hp
    · refine q ((a, g) :: zs) s2 h2 (by rw [List.map_cons]; exact hs.cons₂ a) fun z hz => ?_
      rcases List.mem_cons.mp hz with rfl | hz
      · exact hg
      · exact hp z hz
/-- each item with a thing of its own -/
theorem wp_compA {f : PyData → Stt → Res (Option PyData)} (I : Stt → Prop) (h : α → PyData) (k : α → γ → PyData) (P : α → γ → Prop) : ∀ {xs : List α} {st : Stt} {Q : List PyData → Stt → Prop}, I st →
    (∀ a ∈ xs, ∀ st, I st → Wp (f (h a) st) fun o st' => I st' ∧ ∃ g, o = some (k a g) ∧ P a g) → (∀ (zs : List (α × γ)) st', I st' → zs.map (·.1) = xs → (∀ z ∈ zs, P z.1 z.2) → Q (zs.map fun z => k z.1 z.2) st') → Wp (compL f (xs.map h) st) Q
  | [], st, Q, hi, _, q => ⟨[], st, rfl, q [] st hi rfl fun _ h => nomatch h⟩
  | a :: xs, st, Q, hi, hf, q => by
    obtain ⟨o, s1, e1, h1, g, rfl, hg⟩ := hf a List.mem_cons_self st hi
    rw [List.map_cons]
    unfold compL
    rw [e1, Res.bind_ok, Wp_bind]
    refine wp_compA I h k P h1 (fun b hb => hf b (List.mem_cons_of_mem _ hb)) fun zs s2 h2 hs hp => ?_
    rw [Wp_ok]
    refine q ((a, g) :: zs) s2 h2 (by rw [List.map_cons, hs]) fun z hz => ?_
    rcases List.mem_cons.mp hz with rfl | hz
    · exact hg
    · exact hp z hz
/-- each item kept or left out -/
theorem wp_compS {f : PyData → Stt → Res (Option PyData)} (I : Stt → Prop) (h k : α → PyData) {xs : List α} {st : Stt} {Q : List PyData → Stt → Prop} (hi : I st)
    (hf : ∀ a ∈ xs, ∀ st, I st → Wp (f (h a) st) fun o st' => I st' ∧ (o = none ∨ o = some (k a))) (q : ∀ (zs : List α) st', I st' → zs.Sublist xs → Q (zs.map k) st') : Wp (compL f (xs.map h) st) Q := by
  refine wp_compG (γ := Unit) I h (fun a _ => k a) (fun _ _ => True) hi (fun a ha st hs => (hf a ha st hs).imp fun o s' ⟨h1, h2⟩ => ⟨h1, h2.imp id fun e => ⟨(), e, trivial⟩⟩) fun zs st' h1 h2 _ => ?_
  have := q (zs.map (·.1)) st' h1 h2
  rwa [List.map_map] at this
end
theorem in_tI (s : List Int) (P : List (List Int)) : inD (tuI s) (.list (P.map tuI)) = some (decide (s ∈ P)) := by
  show (if SeqAt.shaped (tuI s) && SeqAt.shaped (.list (P.map tuI)) then some ((P.map tuI).any fun z => PyData.eqv z (tuI s)) else none) = _
  have th : ∀ s : List Int, Th (tuI s) := fun s => ⟨lay_tI s, by rw [dep_tI]; omega⟩
  rw [shp_th (th s), shp_l (fun x hx => by
    obtain ⟨a, _, rfl⟩ := List.mem_map.mp hx
    exact th a), Bool.and_true, if_pos rfl]
  congr 1
  rw [Bool.eq_iff_iff, List.any_eq_true, decide_eq_true_eq]
  constructor
  · rintro ⟨x, hx, e⟩
    obtain ⟨a, ha, rfl⟩ := List.mem_map.mp hx
    simp only [tuI, PyData.eqv, eqv_ints, decide_eq_true_eq] at e
    exact e ▸ ha
  · intro hs
    refine ⟨_, List.mem_map.mpr ⟨s, hs, rfl⟩, ?_⟩
    simp only [tuI, PyData.eqv, eqv_ints, decide_true]
theorem maxI_mem {is : List Int} (h : is ≠ []) : ∃ m, maxI is = some m ∧ m ∈ is ∧ ∀ j ∈ is, j ≤ m := by
  cases is with
  | nil => exact absurd rfl h
  | cons i is => exact ⟨_, rfl, (maxI_is is i).1, (maxI_is is i).2⟩
/-! ### a block in parts -/
def hdS : Nat → Ss → Ss
  | 0, _ => .nil
  | _ + 1, .nil => .nil
  | n + 1, .cons s r => .cons s (hdS n r)
  | n + 1, .frz is r => .frz is (hdS n r)
def tlS : Nat → Ss → Ss
  | 0, b => b
  | _ + 1, .nil => .nil
  | n + 1, .cons _ r => tlS n r
  | n + 1, .frz _ r => tlS n r
theorem semSs_split {Φ : Phi} : ∀ (n : Nat) (b : Ss) (ρ : Rho) (st : Stt), semSs Φ b ρ st = (semSs Φ (hdS n b) ρ st).bind (kSs Φ (tlS n b))
  | 0, b, ρ, st => by rw [hdS, tlS, Ss_nil, Res.bind_ok, kSs_n]
  | n + 1, .nil, ρ, st => by rw [hdS, tlS, Ss_nil, Res.bind_ok, kSs_n, Ss_nil]
  | n + 1, .cons s r, ρ, st => by
    rw [hdS, tlS, Ss_cons, Ss_cons]
    cases semS Φ s ρ st with
    | ok fl st1 =>
      rw [Res.bind_ok, Res.bind_ok]
      cases fl with
      | nx ρ' => rw [kSs_n, kSs_n]; exact semSs_split n r ρ' st1
      | rt w => rw [kSs_r, kSs_r, Res.bind_ok, kSs_r]
    | ex x st1 => rfl
    | bad => rfl
  | n + 1, .frz is r, ρ, st => by
    rw [hdS, tlS, Ss_frz, Ss_frz]
    exact semSs_split n r (frzR ρ is) st
theorem wp_split {Φ : Phi} (n : Nat) {b : Ss} {ρ : Rho} {st : Stt} {Q : Fl → Stt → Prop} (h : Wp (semSs Φ (hdS n b) ρ st) fun fl s => Wp (kSs Φ (tlS n b) fl s) Q) : Wp (semSs Φ b ρ st) Q := by
  rw [semSs_split n, Wp_bind]
  exact h
end Gm

/-! The program's looks at kinds, at any place in a law's list of functions. -/
namespace Gm
open PySem PySem.Spec PyProof.Rows L2
local macro_rules
  | `(tactic| simp_arith only [$ls,*]) => `(tactic| simp -implicitDefEqProofs only [sem_var, varR_d, varR_own, varR_bor, varR_loc, varR_fn, sem_con, sem_glo, rdk1_s, rdk2_s, rd_d, rd_new, rd_bor, rd_lent, rd_loc, dat_lst, py_d, py_new, arg_d, arg_new, arg_bor, arg_lent, arg_loc, arg_fn, argAll_nil, sems_nil, sems_cons, kEs_a, kPut_a, sem_bin, kBin_a, kBin2_a, sem_neg, kNeg_a, negK_i, truR_b, truR_i, truR_l, truR_t, truR_n, sem_nt, kNot_a, kNot2_a, sem_an, sem_oo, kAn_a, kOo_a, anS_t, anS_f, ooS_t, ooS_f, sem_cmp, kCmp_a, kCmp2_a, cmpK_lt, cmpK_le, cmpK_gt, cmpK_ge, sem_chn, kChn_a, kChn2_a, kChn3_a, chS_t, chS_f, sem_ite, kIte_a, kIte2_a, selE_t, selE_f, sem_tup, sem_lst, kTup_a, kLst_a, pyAll_nil, pyAll_cons, sem_idx, kIdx_a, kIdx2_a, idxK_l, idxK_t, sem_slc, kSlc_a, kSlc2_a, kSlc3_a, slK_l, slK_t, slK_s, kPart_n, kPart_i, sem_sset, kSset_a, ssetW_l, sem_rev, kRev_a, revD_l, revD_t, sem_cal, kCal_a, calR_s, sem_fnv, sem_cav, cavR_fn, cavQ_s, argAll_c, sem_bif, kBif_a, bifR_s, sem_mth, kMth_a, kMth2_a, mthR_s, mth_split, idxK_s, rdAll_nil, rdAll_c, bif_len_l, bif_len_t, bif_tup_l, bif_tup_t, bif_lst_l, bif_lst_t, bif_len_s, bif_str_s, bif_repr, sem_isi, kIsi_a, add_ii, sub_ii, mul_ii, mul_si, mul_ti, fdiv_ii, mod_ii, pow_ii, add_tt, add_ll, Ss_nil, Ss_cons, kSs_n, kSs_r, Ss_frz, frzR_nil, frzR_cons, frz1_own, frz1_d, S_set, kSet_pd, kSet_pn, kSet_pl, kSet_pb, kSet_o, kSet_c, S_par, kPar_a, parR_s, S_unp, kUnp_a, unpR_s, setT_2, setT_3, S_exp, kExp_a, S_ret, kRet_d, kRet_n, kRet_l, S_rtv, rtvR_o, rbind_x, S_rse, kRse_1, kRse_2, rseR_t, S_tre, S_tri, S_ite, kIf_a, kIf2_a, selS_t, selS_f, chgR_o, chgR_l, ownR_s, locR_s, appC_l, extC_l, subC_d, subC_l, lstB_k, lstR_o, lstR_l, lstQ_l, mutR_o, mutR_l, S_sub, kSub_a, subM_t, kSub2_a, subR_s, S_app, appM_t, kApp_a, appR_s, S_ext, extM_t, kExt_a, extR_s, sem_dnew, rd_newD, rd_borD, rd_lentD, dat_dct, py_newD, arg_newD, kSet_pD, dctIn_k, dinR_s, getW_k, gwR_s, sem_get1, kGet1_a, kGet1b_a, sem_get2, kGet2_a, kGet2b_a, kGet2c_a, idxK_d, bif_len_d, bif_int, intD_i, intD_b, intD_s, bif_abs, bif_max2, bif_min2, bif_max1, bif_min1, bif_sum, bif_srt_l, bif_srt_d, bif_dct_t, bif_dct_l, stepF_a, setR_s, setT_nm, S_for, kFor_a, F_of, kItF_dl, kItF_dt, kItF_ds, kItF_n, kItF_b, F_enum, kItE_dl, kItE_dt, kItE_n, kItE_b, I_of, kItI_dl, kItI_dt, kItI_ds, kItI_n, kItI_b, kItI_l, I_rng, F_rng, kRng_a, I_rng2, F_rng2, kRg2_a, I_zip, kZp_a, kZp2_a, rdN_d, rdN_n, rdN_b, rdN_l, zipD_l, zipD_t, kRg3_a, sem_lc, kLc_a, kLc2_a, stepC_nm, stepC_tp, setC_s, wipeR_n, wipeR_c, kCs_a, selC_t, selC_f, kElt_d, kElt_n, Cs_nil, Cs_cons, kC1_a, kC2_a, csS_t, csS_f, csS_n, lv_d, lv_n, lv_ex, lv_x, Res.bind_ok, Res.ofO_some, Res.nox_ok, Option.bind_some, Option.map_some, List.getElem?_cons_zero, List.getElem?_cons_succ, List.set_cons_zero, List.set_cons_succ, $ls,*])
local macro_rules
  | `(tactic| simp_arith! only [$ls,*]) => `(tactic| simp -implicitDefEqProofs only [sem_var, varR_d, varR_own, varR_bor, varR_loc, varR_fn, sem_con, sem_glo, rdk1_s, rdk2_s, rd_d, rd_new, rd_bor, rd_lent, rd_loc, dat_lst, py_d, py_new, arg_d, arg_new, arg_bor, arg_lent, arg_loc, arg_fn, argAll_nil, sems_nil, sems_cons, kEs_a, kPut_a, sem_bin, kBin_a, kBin2_a, sem_neg, kNeg_a, negK_i, truR_b, truR_i, truR_l, truR_t, truR_n, sem_nt, kNot_a, kNot2_a, sem_an, sem_oo, kAn_a, kOo_a, anS_t, anS_f, ooS_t, ooS_f, sem_cmp, kCmp_a, kCmp2_a, cmpK_lt, cmpK_le, cmpK_gt, cmpK_ge, sem_chn, kChn_a, kChn2_a, kChn3_a, chS_t, chS_f, sem_ite, kIte_a, kIte2_a, selE_t, selE_f, sem_tup, sem_lst, kTup_a, kLst_a, pyAll_nil, pyAll_cons, sem_idx, kIdx_a, kIdx2_a, idxK_l, idxK_t, sem_slc, kSlc_a, kSlc2_a, kSlc3_a, slK_l, slK_t, slK_s, kPart_n, kPart_i, sem_sset, kSset_a, ssetW_l, sem_rev, kRev_a, revD_l, revD_t, sem_cal, kCal_a, calR_s, sem_fnv, sem_cav, cavR_fn, cavQ_s, argAll_c, sem_bif, kBif_a, bifR_s, sem_mth, kMth_a, kMth2_a, mthR_s, mth_split, idxK_s, rdAll_nil, rdAll_c, bif_len_l, bif_len_t, bif_tup_l, bif_tup_t, bif_lst_l, bif_lst_t, bif_len_s, bif_str_s, bif_repr, sem_isi, kIsi_a, add_ii, sub_ii, mul_ii, mul_si, mul_ti, fdiv_ii, mod_ii, pow_ii, add_tt, add_ll, Ss_nil, Ss_cons, kSs_n, kSs_r, Ss_frz, frzR_nil, frzR_cons, frz1_own, frz1_d, S_set, kSet_pd, kSet_pn, kSet_pl, kSet_pb, kSet_o, kSet_c, S_par, kPar_a, parR_s, S_unp, kUnp_a, unpR_s, setT_2, setT_3, S_exp, kExp_a, S_ret, kRet_d, kRet_n, kRet_l, S_rtv, rtvR_o, rbind_x, S_rse, kRse_1, kRse_2, rseR_t, S_tre, S_tri, S_ite, kIf_a, kIf2_a, selS_t, selS_f, chgR_o, chgR_l, ownR_s, locR_s, appC_l, extC_l, subC_d, subC_l, lstB_k, lstR_o, lstR_l, lstQ_l, mutR_o, mutR_l, S_sub, kSub_a, subM_t, kSub2_a, subR_s, S_app, appM_t, kApp_a, appR_s, S_ext, extM_t, kExt_a, extR_s, sem_dnew, rd_newD, rd_borD, rd_lentD, dat_dct, py_newD, arg_newD, kSet_pD, dctIn_k, dinR_s, getW_k, gwR_s, sem_get1, kGet1_a, kGet1b_a, sem_get2, kGet2_a, kGet2b_a, kGet2c_a, idxK_d, bif_len_d, bif_int, intD_i, intD_b, intD_s, bif_abs, bif_max2, bif_min2, bif_max1, bif_min1, bif_sum, bif_srt_l, bif_srt_d, bif_dct_t, bif_dct_l, stepF_a, setR_s, setT_nm, S_for, kFor_a, F_of, kItF_dl, kItF_dt, kItF_ds, kItF_n, kItF_b, F_enum, kItE_dl, kItE_dt, kItE_n, kItE_b, I_of, kItI_dl, kItI_dt, kItI_ds, kItI_n, kItI_b, kItI_l, I_rng, F_rng, kRng_a, I_rng2, F_rng2, kRg2_a, I_zip, kZp_a, kZp2_a, rdN_d, rdN_n, rdN_b, rdN_l, zipD_l, zipD_t, kRg3_a, sem_lc, kLc_a, kLc2_a, stepC_nm, stepC_tp, setC_s, wipeR_n, wipeR_c, kCs_a, selC_t, selC_f, kElt_d, kElt_n, Cs_nil, Cs_cons, kC1_a, kC2_a, csS_t, csS_f, csS_n, lv_d, lv_n, lv_ex, lv_x, Res.bind_ok, Res.ofO_some, Res.nox_ok, Option.bind_some, Option.map_some, List.getElem?_cons_zero, List.getElem?_cons_succ, List.set_cons_zero, List.set_cons_succ, isi_tt, isi_ti, isi_tb, isi_tn, isi_ts, isi_tl, isi_it, isi_ii, isi_ib, isi_in, isi_is, isi_il, isi_bt, isi_bi, isi_bb, isi_bn, isi_bs, isi_bl, isi_st, isi_si, isi_sb, isi_sn, isi_ss, isi_sl, decide_true, decide_false, Bool.false_eq_true, if_false, Bool.not_true, Bool.not_false, Bool.true_and, Bool.false_and, Bool.and_true, Bool.and_false, Bool.true_or, Bool.false_or, Bool.or_true, Bool.or_false, cmp_eq, cmp_ne, cmp_in, cmp_notin, cmp_is, eqD_ii, eqD_ss, toB_s, Option.map_some, tupK, lstK, pyAll_nil, k0, k1, k2, k3, k4, k5, k6, k7, k8, k9, k10, k11, if_true, List.take_length, atI_0, atI_1, atI_2, atI_3, List.nil_append, List.cons_append, $ls,*])
def sWhole : Fn :=
  ⟨"is_whole", 2, ["thing", "least"],
  (.cons (.ret (.an (.isi (.var 0) .int) (.an (.nt (.isi (.var 0) .bool)) (.cmp .ge (.var 0) (.var 1)))))
  .nil)⟩
def sUp (gw : Nat) : Fn :=
  ⟨"is_up_to", 3, ["thing", "least", "most"],
  (.cons (.ret (.an (.cal "is_whole" gw (.cons (.var 0) (.cons (.var 1) .nil))) (.cmp .le (.var 0) (.var 2))))
  .nil)⟩
def sSeat (gu : Nat) : Fn :=
  ⟨"is_seat", 1, ["thing", "one"],
  (.cons (.ite (.oo (.nt (.isi (.var 0) .tuple)) (.nt (.chn .le .le (.con (.int 1)) (.bif .len (.cons (.var 0) .nil)) (.glo "MOST_DEEP" (.int 5)))))
    (.cons (.ret (.con (.bool false)))
    .nil)
    .nil)
  (.cons (.ret (.an (.cal "is_up_to" gu (.cons (.idx (.var 0) (.con (.int 0))) (.cons (.con (.int 0)) (.cons (.glo "MOST_ROOT" (.int 3)) .nil)))) (.bif .all (.cons (.lc (.cal "is_up_to" gu (.cons (.var 1) (.cons (.con (.int 1)) (.cons (.glo "MOST_CHILD" (.int 99)) .nil)))) (.nm 1) (.of (.slc (.var 0) (.cons (.con (.int 1)) .nil) .nil)) .nil [1]) .nil))))
  .nil))⟩
def sDot (gs gw : Nat) : Fn :=
  ⟨"is_dot", 1, ["thing"],
  (.cons (.ret (.an (.isi (.var 0) .tuple) (.an (.cmp .eq (.bif .len (.cons (.var 0) .nil)) (.con (.int 2))) (.an (.cal "is_seat" gs (.cons (.idx (.var 0) (.con (.int 0))) .nil)) (.cal "is_whole" gw (.cons (.idx (.var 0) (.con (.int 1))) (.cons (.con (.int 1)) .nil)))))))
  .nil)⟩
def sName : Fn :=
  ⟨"is_name", 1, ["thing", "letter"],
  (.cons (.ite (.oo (.nt (.isi (.var 0) .str)) (.nt (.chn .le .le (.con (.int 1)) (.bif .len (.cons (.var 0) .nil)) (.glo "MOST_NAME" (.int 8)))))
    (.cons (.ret (.con (.bool false)))
    .nil)
    .nil)
  (.cons (.ret (.bif .all (.cons (.lc (.cmp .isin (.var 1) (.glo "LETTERS" (.str "abcdefghijklmnopqrstuvwxyz"))) (.nm 1) (.of (.var 0)) .nil [1]) .nil)))
  .nil))⟩
def sThing (gd gn gu : Nat) : Fn :=
  ⟨"is_thing", 1, ["thing", "within", "name", "value"],
  (.cons (.ite (.oo (.nt (.isi (.var 0) .tuple)) (.cmp .ne (.bif .len (.cons (.var 0) .nil)) (.con (.int 3))))
    (.cons (.ret (.con (.bool false)))
    .nil)
    .nil)
  (.cons (.unp [1, 2, 3] (.var 0))
  (.cons (.ite (.an (.nt (.cal "is_dot" gd (.cons (.var 1) .nil))) (.nt (.an (.isi (.var 1) .tuple) (.cmp .eq (.bif .len (.cons (.var 1) .nil)) (.con (.int 0))))))
    (.cons (.ret (.con (.bool false)))
    .nil)
    .nil)
  (.cons (.ret (.an (.cal "is_name" gn (.cons (.var 2) .nil)) (.cal "is_up_to" gu (.cons (.var 3) (.cons (.bin .sub (.con (.int 0)) (.glo "MOST_VALUE" (.int 999))) (.cons (.glo "MOST_VALUE" (.int 999)) .nil))))))
  .nil))))⟩
def sCountB (nm : Str) (gu : Nat) : Fn :=
  ⟨nm, 2, ["seat", "thing"],
  (.cons (.ret (.cal "is_up_to" gu (.cons (.var 1) (.cons (.con (.int 0)) (.cons (.ite (.cmp .eq (.bif .len (.cons (.var 0) .nil)) (.glo "MOST_DEEP" (.int 5))) (.con (.int 0)) (.glo "MOST_CHILD" (.int 99))) .nil)))))
  .nil)⟩
def sAck (nc : Str) (gs gw gc : Nat) : Fn :=
  ⟨"is_ack", 1, ["thing"],
  (.cons (.ite (.oo (.nt (.isi (.var 0) .tuple)) (.oo (.cmp .ne (.bif .len (.cons (.var 0) .nil)) (.con (.int 3))) (.nt (.cal "is_seat" gs (.cons (.idx (.var 0) (.con (.int 0))) .nil)))))
    (.cons (.ret (.con (.bool false)))
    .nil)
    .nil)
  (.cons (.ret (.an (.cal "is_whole" gw (.cons (.idx (.var 0) (.con (.int 1))) (.cons (.con (.int 0)) .nil))) (.cal nc gc (.cons (.idx (.var 0) (.con (.int 0))) (.cons (.idx (.var 0) (.con (.int 2))) .nil)))))
  .nil))⟩
def sRisB (nm : Str) : Fn :=
  ⟨nm, 1, ["rows", "one", "other"],
  (.cons (.ret (.bif .all (.cons (.lc (.cmp .lt (.idx (.var 1) (.con (.int 0))) (.idx (.var 2) (.con (.int 0)))) (.tp [1, 2]) (.zip (.var 0) (.slc (.var 0) (.cons (.con (.int 1)) .nil) .nil)) .nil [1, 2]) .nil)))
  .nil)⟩
def sAcks (nr : Str) (ga gr : Nat) : Fn :=
  ⟨"are_acks", 1, ["thing", "one"],
  (.cons (.ret (.an (.isi (.var 0) .tuple) (.an (.bif .all (.cons (.lc (.cal "is_ack" ga (.cons (.var 1) .nil)) (.nm 1) (.of (.var 0)) .nil [1]) .nil)) (.cal nr gr (.cons (.var 0) .nil)))))
  .nil)⟩
def sPair : Fn :=
  ⟨"is_pair", 1, ["thing"],
  (.cons (.ret (.an (.isi (.var 0) .tuple) (.cmp .eq (.bif .len (.cons (.var 0) .nil)) (.con (.int 2)))))
  .nil)⟩
def sThings (nr : Str) (gp gd gt gr : Nat) : Fn :=
  ⟨"are_things", 1, ["thing", "one"],
  (.cons (.ite (.oo (.nt (.isi (.var 0) .tuple)) (.nt (.bif .all (.cons (.lc (.an (.cal "is_pair" gp (.cons (.var 1) .nil)) (.an (.cal "is_dot" gd (.cons (.idx (.var 1) (.con (.int 0))) .nil)) (.cal "is_thing" gt (.cons (.idx (.var 1) (.con (.int 1))) .nil)))) (.nm 1) (.of (.var 0)) .nil [1]) .nil))))
    (.cons (.ret (.con (.bool false)))
    .nil)
    .nil)
  (.cons (.ret (.cal nr gr (.cons (.var 0) .nil)))
  .nil))⟩
def sMarks (nr : Str) (gp gd gaa gr : Nat) : Fn :=
  ⟨"are_marks", 1, ["thing", "one"],
  (.cons (.ite (.oo (.nt (.isi (.var 0) .tuple)) (.nt (.bif .all (.cons (.lc (.an (.cal "is_pair" gp (.cons (.var 1) .nil)) (.an (.cal "is_dot" gd (.cons (.idx (.var 1) (.con (.int 0))) .nil)) (.cal "are_acks" gaa (.cons (.idx (.var 1) (.con (.int 1))) .nil)))) (.nm 1) (.of (.var 0)) .nil [1]) .nil))))
    (.cons (.ret (.con (.bool false)))
    .nil)
    .nil)
  (.cons (.ret (.cal nr gr (.cons (.var 0) .nil)))
  .nil))⟩
def sFences (nr : Str) (gp gs gw gr : Nat) : Fn :=
  ⟨"are_fences", 1, ["thing", "one"],
  (.cons (.ite (.nt (.isi (.var 0) .tuple))
    (.cons (.ret (.con (.bool false)))
    .nil)
    .nil)
  (.cons (.ret (.an (.bif .all (.cons (.lc (.an (.cal "is_pair" gp (.cons (.var 1) .nil)) (.an (.cal "is_seat" gs (.cons (.idx (.var 1) (.con (.int 0))) .nil)) (.cal "is_whole" gw (.cons (.idx (.var 1) (.con (.int 1))) (.cons (.con (.int 1)) .nil))))) (.nm 1) (.of (.var 0)) .nil [1]) .nil)) (.cal nr gr (.cons (.var 0) .nil))))
  .nil))⟩
def sCuts (nc nr : Str) (gp gs gc gr : Nat) : Fn :=
  ⟨"are_cuts", 1, ["thing", "one"],
  (.cons (.ite (.nt (.isi (.var 0) .tuple))
    (.cons (.ret (.con (.bool false)))
    .nil)
    .nil)
  (.cons (.ret (.an (.bif .all (.cons (.lc (.an (.cal "is_pair" gp (.cons (.var 1) .nil)) (.an (.cal "is_seat" gs (.cons (.idx (.var 1) (.con (.int 0))) .nil)) (.cal nc gc (.cons (.idx (.var 1) (.con (.int 0))) (.cons (.idx (.var 1) (.con (.int 1))) .nil))))) (.nm 1) (.of (.var 0)) .nil [1]) .nil)) (.cal nr gr (.cons (.var 0) .nil))))
  .nil))⟩
def sLefts (gaa : Nat) : Fn :=
  ⟨"are_lefts", 1, ["thing"],
  (.cons (.ret (.cal "are_acks" gaa (.cons (.var 0) .nil)))
  .nil)⟩
def sHead (nc : Str) (gs gu gw gc : Nat) : Fn :=
  ⟨"is_head", 1, ["thing"],
  (.cons (.ite (.oo (.nt (.isi (.var 0) .tuple)) (.oo (.cmp .ne (.bif .len (.cons (.var 0) .nil)) (.con (.int 5))) (.nt (.cal "is_seat" gs (.cons (.idx (.var 0) (.con (.int 0))) .nil)))))
    (.cons (.ret (.con (.bool false)))
    .nil)
    .nil)
  (.cons (.ite (.oo (.nt (.cal "is_up_to" gu (.cons (.idx (.var 0) (.con (.int 1))) (.cons (.con (.int 1)) (.cons (.glo "MOST_ROOTS" (.int 4)) .nil))))) (.oo (.nt (.cal "is_whole" gw (.cons (.idx (.var 0) (.con (.int 2))) (.cons (.con (.int 0)) .nil)))) (.nt (.cal "is_whole" gw (.cons (.idx (.var 0) (.con (.int 3))) (.cons (.con (.int 0)) .nil))))))
    (.cons (.ret (.con (.bool false)))
    .nil)
    .nil)
  (.cons (.ret (.cal nc gc (.cons (.idx (.var 0) (.con (.int 0))) (.cons (.idx (.var 0) (.con (.int 4))) .nil))))
  .nil)))⟩
def sBook (gh gth gm gf gcu gl : Nat) : Fn :=
  ⟨"is_book", 1, ["thing"],
  (.cons (.ite (.oo (.nt (.isi (.var 0) .tuple)) (.oo (.cmp .ne (.bif .len (.cons (.var 0) .nil)) (.con (.int 10))) (.nt (.cal "is_head" gh (.cons (.slc (.var 0) .nil (.cons (.con (.int 5)) .nil)) .nil)))))
    (.cons (.ret (.con (.bool false)))
    .nil)
    .nil)
  (.cons (.ite (.oo (.nt (.cal "are_things" gth (.cons (.idx (.var 0) (.con (.int 5))) .nil))) (.nt (.cal "are_marks" gm (.cons (.idx (.var 0) (.con (.int 6))) .nil))))
    (.cons (.ret (.con (.bool false)))
    .nil)
    .nil)
  (.cons (.ret (.an (.cal "are_fences" gf (.cons (.idx (.var 0) (.con (.int 7))) .nil)) (.an (.cal "are_cuts" gcu (.cons (.idx (.var 0) (.con (.int 8))) .nil)) (.cal "are_lefts" gl (.cons (.idx (.var 0) (.con (.int 9))) .nil)))))
  .nil)))⟩
def sNumber : Fn :=
  ⟨"is_number", 1, ["thing"],
  (.cons (.ret (.an (.isi (.var 0) .int) (.an (.nt (.isi (.var 0) .bool)) (.cmp .ge (.var 0) (.con (.int 0))))))
  .nil)⟩
def sOwnAck_b1 : Ss :=
    (.cons (.ite (.cmp .eq (.idx (.var 2) (.con (.int 0))) (.var 0))
    (.cons (.ret (.var 2))
    .nil)
    .nil)
  .nil)
def sOwnAck : Fn :=
  ⟨"own_ack", 2, ["seat", "acks", "ack"],
  (.cons (.for_ (.nm 2) (.of (.var 1)) sOwnAck_b1)
  (.cons (.ret (.con .none))
  .nil))⟩
def sLetter (gs gnu gth gm gl go : Nat) : Fn :=
  ⟨"is_letter", 1, ["thing", "dot", "acks"],
  (.cons (.ite (.oo (.nt (.isi (.var 0) .tuple)) (.oo (.cmp .ne (.bif .len (.cons (.var 0) .nil)) (.con (.int 5))) (.oo (.nt (.cal "is_seat" gs (.cons (.idx (.var 0) (.con (.int 0))) .nil))) (.nt (.cal "is_number" gnu (.cons (.idx (.var 0) (.con (.int 1))) .nil))))))
    (.cons (.ret (.con (.bool false)))
    .nil)
    .nil)
  (.cons (.ite (.oo (.nt (.cal "are_things" gth (.cons (.idx (.var 0) (.con (.int 2))) .nil))) (.oo (.nt (.cal "are_marks" gm (.cons (.idx (.var 0) (.con (.int 3))) .nil))) (.nt (.cal "are_lefts" gl (.cons (.idx (.var 0) (.con (.int 4))) .nil)))))
    (.cons (.ret (.con (.bool false)))
    .nil)
    .nil)
  (.cons (.ret (.bif .all (.cons (.lc (.cmp .isnot (.cal "own_ack" go (.cons (.idx (.var 0) (.con (.int 0))) (.cons (.var 2) .nil))) (.con .none)) (.tp [1, 2]) (.of (.idx (.var 0) (.con (.int 3)))) .nil [1, 2]) .nil)))
  .nil)))⟩
theorem kwhole_ok {Φ : Phi} {x : PyData} {lo : Int} {st : Stt} (h : noD x = true) : leaveW st.length (semSs Φ sWhole.body [some (.d x), some (.d (.int lo))] st) = .ok (.d (.bool (whB x lo))) st := by
  cases x with
  | dict _ => cases h
  | _ => simp_arith! only [sWhole, whB]
theorem knumber_ok {Φ : Phi} {x : PyData} {st : Stt} (h : noD x = true) : leaveW st.length (semSs Φ sNumber.body [some (.d x)] st) = .ok (.d (.bool (whB x 0))) st := by
  cases x with
  | dict _ => cases h
  | _ => simp_arith! only [sNumber, whB]
theorem kupto_ok {Φ : Phi} {gw : Nat} {x : PyData} {lo hi : Int} {st : Stt} (hΦ : Φ gw [.d x, .d (.int lo)] st = .ok (.d (.bool (whB x lo))) st) : leaveW st.length (semSs Φ (sUp gw).body [some (.d x), some (.d (.int lo)), some (.d (.int hi))] st) = .ok (.d (.bool (upB x lo hi))) st := by
  cases x with
  | int i =>
    have e : whB (.int i) lo = decide (lo ≤ i) := rfl
    rw [e] at hΦ
    cases hd : decide (lo ≤ i) <;> rw [hd] at hΦ <;> simp_arith! only [sUp, hΦ, upB, hd]
  | _ => simp_arith! only [sUp, hΦ, upB, whB]
def OkWhole (Φ : Phi) (i : Nat) : Prop := ∀ (x : PyData) (lo : Int) (st : Stt), noD x = true → Φ i [.d x, .d (.int lo)] st = .ok (.d (.bool (whB x lo))) st
def OkUp (Φ : Phi) (i : Nat) : Prop := ∀ (x : PyData) (lo hi : Int) (st : Stt), noD x = true → Φ i [.d x, .d (.int lo), .d (.int hi)] st = .ok (.d (.bool (upB x lo hi))) st
def OkB (Φ : Phi) (i : Nat) (p : PyData → Bool) : Prop := ∀ (x : PyData) (st : Stt), Th x → Φ i [.d x] st = .ok (.d (.bool (p x))) st
theorem okWhole {fs : List Fn} {k i : Nat} (h : fs[i]? = some sWhole) : OkWhole (phi fs (k + 1)) i := fun x lo st hx => by rw [phi_at h ⟨rfl, Nat.le_of_ble_eq_true rfl⟩]; exact kwhole_ok hx
theorem okUp {fs : List Fn} {k i gw : Nat} (h : fs[i]? = some (sUp gw)) (H : OkWhole (phi fs k) gw) : OkUp (phi fs (k + 1)) i := fun x lo hi st hx => by rw [phi_at h ⟨rfl, Nat.le_of_ble_eq_true rfl⟩]; exact kupto_ok (H x lo st hx)
theorem okNumber {fs : List Fn} {k i : Nat} (h : fs[i]? = some sNumber) : OkB (phi fs (k + 1)) i (fun x => whB x 0) := fun x st hx => by rw [phi_at h ⟨rfl, Nat.le_of_ble_eq_true rfl⟩]; exact knumber_ok hx.noD
theorem kseat_ok {Φ : Phi} {gu : Nat} (H : OkUp Φ gu) {x : PyData} {st : Stt} (h : Th x) : leaveW st.length (semSs Φ (sSeat gu).body [some (.d x), none] st) = .ok (.d (.bool (seatB x))) st := by
  cases x with
  | dict _ => have := h.noD; cases this
  | tuple xs =>
    cases xs with
    | nil =>
      have e : decide ((1 : Int) ≤ ((([] : List PyData).length : Nat) : Int)) = false := by decide
      simp_arith! only [sSeat, e, seatB]
    | cons y ys =>
      have hy := h.items y List.mem_cons_self
      have hys : ∀ z ∈ ys, Th z := fun z hz => h.items z (List.mem_cons_of_mem _ hz)
      have e1 : decide ((1 : Int) ≤ (((y :: ys).length : Nat) : Int)) = true := decide_eq_true (by rw [List.length_cons]; omega)
      by_cases h5 : ys.length < 5
      · have e2 : decide ((((y :: ys).length : Nat) : Int) ≤ 5) = true := decide_eq_true (by rw [List.length_cons]; omega)
        have e3 : decide (ys.length < 5) = true := decide_eq_true h5
        have eu := H y 0 3 st hy.noD
        cases hu : upB y 0 3 with
        | false => rw [hu] at eu; simp_arith! only [sSeat, e1, e2, seatB, eu, hu]
        | true =>
          rw [hu] at eu
          have hc : compL (stepC Φ (.cal "is_up_to" gu (.cons (.var 1) (.cons (.con (.int 1)) (.cons (.glo "MOST_CHILD" (.int 99)) .nil)))) (.nm 1) .nil [1] [some (.d (.tuple (y :: ys))), none]) ys st = .ok (ys.map fun z => .bool (upB z 1 99)) st := by
            refine comp_map _ fun z hz => ?_
            have ez := H z 1 99 st (hys z hz).noD
            simp_arith only [ez]
          have hl : ((ys.map fun z => PyData.bool (upB z 1 99)).length ≤ lineN) = True := n_le (by rw [List.length_map]; omega)
          have ha := all_map (fun z => upB z 1 99) ys
          simp_arith! only [sSeat, e1, e2, e3, seatB, eu, hu, cut1, hc, hl, ha]
      · have e2 : decide ((((y :: ys).length : Nat) : Int) ≤ 5) = false := decide_eq_false (by rw [List.length_cons]; omega)
        have e3 : decide (ys.length < 5) = false := decide_eq_false h5
        simp_arith! only [sSeat, e1, e2, e3, seatB]
  | _ => simp_arith! only [sSeat, seatB]
theorem okSeat {fs : List Fn} {k i gu : Nat} (h : fs[i]? = some (sSeat gu)) (H : OkUp (phi fs k) gu) : OkB (phi fs (k + 1)) i seatB := fun x st hx => by rw [phi_at h ⟨rfl, Nat.le_of_ble_eq_true rfl⟩]; exact kseat_ok H hx
def dotB : PyData → Bool
  | .tuple [a, b] => seatB a && whB b 1
  | _ => false
theorem len2 {xs : List PyData} (h : xs.length = 2) : ∃ a b, xs = [a, b] := by
  match xs, h with
  | [a, b], _ => exact ⟨a, b, rfl⟩
theorem len3 {xs : List PyData} (h : xs.length = 3) : ∃ a b c, xs = [a, b, c] := by
  match xs, h with
  | [a, b, c], _ => exact ⟨a, b, c, rfl⟩
theorem dotB_no {xs : List PyData} (h : xs.length ≠ 2) : dotB (.tuple xs) = false := by
  unfold dotB
  split
  · rename_i e; cases e; exact absurd rfl h
  · rfl
theorem kdot_ok {Φ : Phi} {gs gw : Nat} (Hs : OkB Φ gs seatB) (Hw : OkWhole Φ gw) {x : PyData} {st : Stt} (h : Th x) : leaveW st.length (semSs Φ (sDot gs gw).body [some (.d x)] st) = .ok (.d (.bool (dotB x))) st := by
  cases x with
  | dict _ => have := h.noD; cases this
  | tuple xs =>
    by_cases hl : xs.length = 2
    · obtain ⟨a, b, rfl⟩ := len2 hl
      have e2 : decide ((([a, b].length : Nat) : Int) = 2) = true := decide_eq_true rfl
      have ha := h.items a (by simp)
      have hb := h.items b (by simp)
      have es := Hs a st ha
      have ew := Hw b 1 st hb.noD
      cases hs : seatB a <;> rw [hs] at es <;> simp_arith! only [sDot, e2, es, ew, dotB, hs]
    · have e2 : decide (((xs.length : Nat) : Int) = 2) = false := decide_eq_false (by omega)
      simp_arith! only [sDot, e2, dotB_no hl]
  | _ => simp_arith! only [sDot, dotB]
theorem okDot {fs : List Fn} {k i gs gw : Nat} (h : fs[i]? = some (sDot gs gw)) (Hs : OkB (phi fs k) gs seatB) (Hw : OkWhole (phi fs k) gw) : OkB (phi fs (k + 1)) i dotB := fun x st hx => by rw [phi_at h ⟨rfl, Nat.le_of_ble_eq_true rfl⟩]; exact kdot_ok Hs Hw hx
/-- one letter of the small ones -/
def inLet : PyData → Bool
  | .str s => (cps s).all fun c => decide (97 ≤ c ∧ c ≤ 122)
  | _ => false
theorem let_cps : cps ("abcdefghijklmnopqrstuvwxyz" : Str) = [97, 98, 99, 100, 101, 102, 103, 104, 105, 106, 107, 108, 109, 110, 111, 112, 113, 114, 115, 116, 117, 118, 119, 120, 121, 122] := by decide
theorem inLet_one (c : Nat) : inLet (.str ⟨#[c]⟩) = decide (97 ≤ c ∧ c ≤ 122) := by
  show ([c].all fun c => decide (97 ≤ c ∧ c ≤ 122)) = _
  rw [List.all_cons, List.all_nil, Bool.and_true]
theorem sgs_let {s : Str} {z : PyData} (h : z ∈ sgs s) : inD z (.str "abcdefghijklmnopqrstuvwxyz") = some (inLet z) := by
  obtain ⟨c, _, rfl⟩ := List.mem_map.mp h
  rw [inLet_one]
  show some (!(Builtin.Str.occurrences ("abcdefghijklmnopqrstuvwxyz" : Str) ⟨#[c]⟩ 0 ("abcdefghijklmnopqrstuvwxyz" : Str).length 1).isEmpty) = _
  rw [PySem.StrLaws.found_one]
  congr 1
  have e : ("abcdefghijklmnopqrstuvwxyz" : Str).cps.toList = _ := let_cps
  rw [e]
  refine decide_eq_decide.mpr ?_
  simp only [List.mem_cons, List.not_mem_nil, or_false]
  omega
theorem all_let (s : Str) : (sgs s).all inLet = inLet (.str s) := by
  show ((cps s).map _).all inLet = (cps s).all _
  rw [List.all_map]
  congr 1
  funext c
  exact inLet_one c
theorem sgs_len (s : Str) : (sgs s).length = s.length := by
  unfold sgs
  rw [List.length_map]
  rfl
theorem sgs_th {s : Str} (h : PyData.strOk s = true) : ∀ x ∈ sgs s, Th x := by
  intro x hx
  obtain ⟨c, hc, rfl⟩ := List.mem_map.mp hx
  unfold PyData.strOk at h
  rw [Array.all_eq_true'] at h
  have h1 := h c (by simpa using hc)
  refine ⟨?_, by simp [PyData.depth]⟩
  simp only [PyData.canLay0]
  unfold PyData.strOk
  rw [Array.all_eq_true']
  intro y hy
  have hy : y = c := by simpa using hy
  rw [hy]
  exact h1
def nameB : PyData → Bool
  | .str s => decide (1 ≤ s.length) && (decide (s.length ≤ 8) && inLet (.str s))
  | _ => false
/-- .. of all bounded things -/
def OkD (Φ : Phi) (i : Nat) (p : PyData → Bool) : Prop := ∀ (B S D : Nat) (x : PyData) (st : Stt), Bd B S D x → D ≤ 20 → S ≤ 16777216 → Φ i [.d x] st = .ok (.d (.bool (p x))) st
theorem OkB.d {Φ : Phi} {i : Nat} {p : PyData → Bool} (h : OkB Φ i p) : OkD Φ i p := fun B S D x st hx hD hS => h x st (hx.th hD)
theorem kname_ok {Φ : Phi} {B S D : Nat} {x : PyData} {st : Stt} (h : Bd B S D x) : leaveW st.length (semSs Φ sName.body [some (.d x), none] st) = .ok (.d (.bool (nameB x))) st := by
  cases x with
  | dict _ => have := h.noD; cases this
  | str s =>
    have hs := h.slen
    have hl : (s.length ≤ lineN) = True := n_le (by omega)
    have d1 : decide ((1 : Int) ≤ ((s.length : Nat) : Int)) = decide (1 ≤ s.length) := decide_eq_decide.mpr (by omega)
    have d8 : decide (((s.length : Nat) : Int) ≤ 8) = decide (s.length ≤ 8) := decide_eq_decide.mpr (by omega)
    have hc : compL (stepC Φ (.cmp .isin (.var 1) (.glo "LETTERS" (.str "abcdefghijklmnopqrstuvwxyz"))) (.nm 1) .nil [1] [some (.d (.str s)), none]) (s.cps.toList.map fun c => .str ⟨#[c]⟩) st = .ok ((sgs s).map fun z => .bool (inLet z)) st := by
      show compL _ (sgs s) st = _
      refine comp_map _ fun z hz => ?_
      simp_arith only [cmp_in, sgs_let hz, toB_s]
    have hk : (((sgs s).map fun z => PyData.bool (inLet z)).length ≤ lineN) = True := n_le (by rw [List.length_map, sgs_len]; omega)
    have ha := all_map inLet (sgs s)
    rw [all_let] at ha
    cases e1 : decide (1 ≤ s.length) <;> cases e8 : decide (s.length ≤ 8) <;> simp_arith! only [sName, bif_len_s, hl, d1, d8, e1, e8, nameB, hc, hk, ha]
  | _ => simp_arith! only [sName, nameB]
theorem okName {fs : List Fn} {k i : Nat} (h : fs[i]? = some sName) : OkD (phi fs (k + 1)) i nameB := fun B S D x st hx hD hS => by rw [phi_at h ⟨rfl, Nat.le_of_ble_eq_true rfl⟩]; exact kname_ok hx
def emT : PyData → Bool
  | .tuple [] => true
  | _ => false
def thingB : PyData → Bool
  | .tuple [a, b, c] => (dotB a || emT a) && (nameB b && upB c (-999) 999)
  | _ => false
theorem thingB_no {xs : List PyData} (h : xs.length ≠ 3) : thingB (.tuple xs) = false := by
  unfold thingB
  split
  · rename_i e; cases e; exact absurd rfl h
  · rfl
theorem neg0 : (0 : Int) - 999 = -999 := rfl
theorem emT_t (L : List PyData) : emT (.tuple L) = L.isEmpty := by cases L <;> rfl
theorem kthing_ok {Φ : Phi} {gd gn gu : Nat} (Hd : OkD Φ gd dotB) (Hn : OkD Φ gn nameB) (Hu : OkUp Φ gu) {B S D : Nat} {x : PyData} {st : Stt} (hb : Bd B S D x) (hD : D ≤ 20) (hS : S ≤ 16777216) : leaveW st.length (semSs Φ (sThing gd gn gu).body [some (.d x), none, none, none] st) = .ok (.d (.bool (thingB x))) st := by
  cases x with
  | dict _ => have := hb.noD; cases this
  | tuple xs =>
    by_cases hl : xs.length = 3
    · obtain ⟨a, b, c, rfl⟩ := len3 hl
      obtain ⟨D', S', rfl, rfl⟩ := bd_pos hb
      have hi := (bd_items hb).mem
      have e3 : decide ((([a, b, c].length : Nat) : Int) = 3) = true := decide_eq_true rfl
      have ha := hi a (by simp)
      have hbb := hi b (by simp)
      have hc := hi c (by simp)
      have ed := Hd _ _ _ a st ha (by omega) (by omega)
      have en := Hn _ _ _ b st hbb (by omega) (by omega)
      have eu := Hu c (-999) 999 st hc.noD
      cases hd : dotB a with
      | true =>
        rw [hd] at ed
        cases hn : nameB b <;> rw [hn] at en <;> simp_arith! only [sThing, e3, setT_3, ed, en, neg0, eu, thingB, hd, hn]
      | false =>
        rw [hd] at ed
        cases a with
        | dict _ => have := ha.noD; cases this
        | tuple ys =>
          cases ys with
          | nil =>
            have e0 : decide (((([] : List PyData).length : Nat) : Int) = 0) = true := decide_eq_true rfl
            cases hn : nameB b <;> rw [hn] at en <;> simp_arith! only [sThing, e3, setT_3, ed, e0, en, neg0, eu, thingB, emT, hd, hn]
          | cons y ys =>
            have e0 : decide ((((y :: ys).length : Nat) : Int) = 0) = false := decide_eq_false (by rw [List.length_cons]; omega)
            simp_arith! only [sThing, e3, setT_3, ed, e0, thingB, emT, hd]
        | _ => simp_arith! only [sThing, e3, setT_3, ed, thingB, emT, hd]
    · have e3 : decide (((xs.length : Nat) : Int) = 3) = false := decide_eq_false (by omega)
      simp_arith! only [sThing, e3, thingB_no hl]
  | _ => simp_arith! only [sThing, thingB]
theorem okThing {fs : List Fn} {k i gd gn gu : Nat} (h : fs[i]? = some (sThing gd gn gu)) (Hd : OkD (phi fs k) gd dotB) (Hn : OkD (phi fs k) gn nameB) (Hu : OkUp (phi fs k) gu) : OkD (phi fs (k + 1)) i thingB := fun B S D x st hx hD hS => by rw [phi_at h ⟨rfl, Nat.le_of_ble_eq_true rfl⟩]; exact kthing_ok Hd Hn Hu hx hD hS
/-! ### rising rows -/
def hdT : PyData → PyData
  | .tuple (a :: _) => a
  | x => x
def risK : List PyData → Bool
  | a :: b :: r => PySem.W.dataLt a b && risK (b :: r)
  | _ => true
theorem zip_ris : ∀ ks : List PyData, ((ks.zip (ks.drop 1)).all fun p => PySem.W.dataLt p.1 p.2) = risK ks
  | [] => rfl
  | [a] => rfl
  | a :: b :: r => by
    have ih := zip_ris (b :: r)
    rw [List.drop_one, List.tail_cons] at ih ⊢
    rw [List.zip_cons_cons, List.all_cons, ih]
    rfl
/-- heads that may be asked which is the less -/
def Alk (P : PyData → Prop) : Prop := ∀ a b, P a → P b → ltI a b = some (PySem.W.dataLt a b)
def seatP (a : PyData) : Prop := ∃ is : List Int, a = tuI is
def dotP (a : PyData) : Prop := ∃ (is : List Int) (n : Int), a = .tuple [tuI is, .int n]
theorem alk_seat : Alk seatP := by
  rintro _ _ ⟨is, rfl⟩ ⟨js, rfl⟩
  exact lt_ints is js
theorem alk_dot : Alk dotP := by
  rintro _ _ ⟨is, m, rfl⟩ ⟨js, n, rfl⟩
  show (if _ then _ else _) = _
  rw [if_pos]
  simp only [cmpOk, PySem.W.alike, PySem.W.alikeAll, alike_tI, tuI, PySem.W.alike_ints, PyData.depth, PyData.depthAll, dep_ints, PyData.hasDict, PyData.hasDictAll, hd_ints]
  decide
theorem zip_mem {α : Type} {xs ys : List α} {p : α × α} (h : p ∈ xs.zip ys) : p.1 ∈ xs ∧ p.2 ∈ ys := ⟨(List.of_mem_zip h).1, (List.of_mem_zip h).2⟩
theorem zip_map2 {f : PyData → PyData} (xs ys : List PyData) : ((xs.map f).zip (ys.map f)) = (xs.zip ys).map fun p => (f p.1, f p.2) := by
  rw [List.zip_map]
  rfl
def Hds (P : PyData → Prop) (xs : List PyData) : Prop := ∀ x ∈ xs, ∃ a t, x = .tuple (a :: t) ∧ P a
theorem kris_ok {Φ : Phi} {nm : Str} {P : PyData → Prop} (A : Alk P) {xs : List PyData} {st : Stt} (h : Hds P xs) (hl : xs.length ≤ 8388608) : leaveW st.length (semSs Φ (sRisB nm).body [some (.d (.tuple xs)), none, none] st) = .ok (.d (.bool (risK (xs.map hdT)))) st := by
  have hcut : cutD xs (some 1) none = xs.drop 1 := cut_from 1
  have hc : compL (stepC Φ (.cmp .lt (.idx (.var 1) (.con (.int 0))) (.idx (.var 2) (.con (.int 0)))) (.tp [1, 2]) .nil [1, 2] [some (.d (.tuple xs)), none, none]) ((xs.zip (xs.drop 1)).map fun p => PyData.tuple [p.1, p.2]) st = .ok (((xs.zip (xs.drop 1)).map fun p => PyData.tuple [p.1, p.2]).map fun z => match z with | .tuple [x, y] => .bool (PySem.W.dataLt (hdT x) (hdT y)) | _ => .none) st := by
    refine comp_map _ fun z hz => ?_
    obtain ⟨p, hp, rfl⟩ := List.mem_map.mp hz
    obtain ⟨h1, h2⟩ := zip_mem hp
    obtain ⟨a, t, e1, ha⟩ := h p.1 h1
    obtain ⟨b, u, e2, hb⟩ := h p.2 (List.mem_of_mem_drop h2)
    rw [e1, e2]
    simp_arith! only [cmp_lt, A a b ha hb, hdT]
  rw [List.map_map] at hc
  have e1 : ((xs.zip (xs.drop 1)).map ((fun z => match z with | .tuple [x, y] => PyData.bool (PySem.W.dataLt (hdT x) (hdT y)) | _ => .none) ∘ fun p => PyData.tuple [p.1, p.2])) = (xs.zip (xs.drop 1)).map fun p => PyData.bool (PySem.W.dataLt (hdT p.1) (hdT p.2)) := rfl
  rw [e1] at hc
  have ha := all_map (fun p : PyData × PyData => PySem.W.dataLt (hdT p.1) (hdT p.2)) (xs.zip (xs.drop 1))
  have er : ((xs.zip (xs.drop 1)).all fun p => PySem.W.dataLt (hdT p.1) (hdT p.2)) = risK (xs.map hdT) := by
    rw [← zip_ris, ← List.map_drop, zip_map2, List.all_map]
    rfl
  rw [er] at ha
  have hk : (((xs.zip (xs.drop 1)).map fun p => PyData.bool (PySem.W.dataLt (hdT p.1) (hdT p.2))).length ≤ lineN) = True := n_le (by rw [List.length_map, List.length_zip]; omega)
  simp_arith! only [sRisB, hcut, hc, hk, ha]
def OkRis (Φ : Phi) (i : Nat) : Prop := ∀ (P : PyData → Prop) (xs : List PyData) (st : Stt), Alk P → Hds P xs → xs.length ≤ 8388608 → Φ i [.d (.tuple xs)] st = .ok (.d (.bool (risK (xs.map hdT)))) st
theorem okRis {fs : List Fn} {k i : Nat} {nm : Str} (h : fs[i]? = some (sRisB nm)) : OkRis (phi fs (k + 1)) i := fun P xs st A hx hl => by rw [phi_at h ⟨rfl, Nat.le_of_ble_eq_true rfl⟩]; exact kris_ok A hx hl
/-! ### counts, acks, rows -/
def lenT : PyData → Nat
  | .tuple xs => xs.length
  | _ => 0
def mostM (a : PyData) : Int := if lenT a = 5 then 0 else 99
def OkCount (Φ : Phi) (i : Nat) : Prop := ∀ (xs : List PyData) (y : PyData) (st : Stt), noD y = true → Φ i [.d (.tuple xs), .d y] st = .ok (.d (.bool (upB y 0 (mostM (.tuple xs))))) st
theorem kcount_ok {Φ : Phi} {nm : Str} {gu : Nat} (H : OkUp Φ gu) {xs : List PyData} {y : PyData} {st : Stt} (h : noD y = true) : leaveW st.length (semSs Φ (sCountB nm gu).body [some (.d (.tuple xs)), some (.d y)] st) = .ok (.d (.bool (upB y 0 (mostM (.tuple xs))))) st := by
  have e1 := H y 0 0 st h
  have e2 := H y 0 99 st h
  by_cases h5 : xs.length = 5
  · have d5 : decide (((xs.length : Nat) : Int) = 5) = true := decide_eq_true (by omega)
    have em : mostM (.tuple xs) = 0 := if_pos h5
    simp_arith! only [sCountB, d5, e1, em]
  · have d5 : decide (((xs.length : Nat) : Int) = 5) = false := decide_eq_false (by omega)
    have em : mostM (.tuple xs) = 99 := if_neg h5
    simp_arith! only [sCountB, d5, e2, em]
theorem okCount {fs : List Fn} {k i gu : Nat} {nm : Str} (h : fs[i]? = some (sCountB nm gu)) (H : OkUp (phi fs k) gu) : OkCount (phi fs (k + 1)) i := fun xs y st hy => by rw [phi_at h ⟨rfl, Nat.le_of_ble_eq_true rfl⟩]; exact kcount_ok H hy
def ackB : PyData → Bool
  | .tuple [a, b, c] => seatB a && (whB b 0 && upB c 0 (mostM a))
  | _ => false
theorem ackB_no {xs : List PyData} (h : xs.length ≠ 3) : ackB (.tuple xs) = false := by
  unfold ackB
  split
  · rename_i e; cases e; exact absurd rfl h
  · rfl
theorem seat_tup {a : PyData} (h : seatB a = true) : ∃ xs, a = .tuple xs := by
  cases a with
  | tuple xs => exact ⟨xs, rfl⟩
  | _ => cases h
theorem kack_ok {nc : Str} {Φ : Phi} {gs gw gc : Nat} (Hs : OkB Φ gs seatB) (Hw : OkWhole Φ gw) (Hc : OkCount Φ gc) {x : PyData} {st : Stt} (h : Th x) : leaveW st.length (semSs Φ (sAck nc gs gw gc).body [some (.d x)] st) = .ok (.d (.bool (ackB x))) st := by
  cases x with
  | dict _ => have := h.noD; cases this
  | tuple xs =>
    by_cases hl : xs.length = 3
    · obtain ⟨a, b, c, rfl⟩ := len3 hl
      have e3 : decide ((([a, b, c].length : Nat) : Int) = 3) = true := decide_eq_true rfl
      have es := Hs a st (h.items a (by simp))
      have ew := Hw b 0 st (h.items b (by simp)).noD
      cases hs : seatB a with
      | false => rw [hs] at es; simp_arith! only [sAck, e3, es, ackB, hs]
      | true =>
        rw [hs] at es
        obtain ⟨ys, rfl⟩ := seat_tup hs
        have ec := Hc ys c st (h.items c (by simp)).noD
        cases hw : whB b 0 <;> rw [hw] at ew <;> simp_arith! only [sAck, e3, es, ew, ec, ackB, hs, hw]
    · have e3 : decide (((xs.length : Nat) : Int) = 3) = false := decide_eq_false (by omega)
      simp_arith! only [sAck, e3, ackB_no hl]
  | _ => simp_arith! only [sAck, ackB]
theorem okAck {nc : Str} {fs : List Fn} {k i gs gw gc : Nat} (h : fs[i]? = some (sAck nc gs gw gc)) (Hs : OkB (phi fs k) gs seatB) (Hw : OkWhole (phi fs k) gw) (Hc : OkCount (phi fs k) gc) : OkB (phi fs (k + 1)) i ackB := fun x st hx => by rw [phi_at h ⟨rfl, Nat.le_of_ble_eq_true rfl⟩]; exact kack_ok Hs Hw Hc hx
theorem seat_P {a : PyData} (h : seatB a = true) : seatP a := by
  cases a with
  | tuple xs =>
    cases xs with
    | nil => cases h
    | cons y ys =>
      simp only [seatB, Bool.and_eq_true, decide_eq_true_eq, List.all_eq_true] at h
      obtain ⟨h1, h2, h3⟩ := h
      have gi : ∀ z lo hi, upB z lo hi = true → ∃ i, z = PyData.int i := fun z lo hi hz => by
        cases z with
        | int i => exact ⟨i, rfl⟩
        | _ => cases hz
      have gs : ∀ zs : List PyData, (∀ z ∈ zs, ∃ i, z = PyData.int i) → ∃ is : List Int, zs = is.map PyData.int := by
        intro zs
        induction zs with
        | nil => exact fun _ => ⟨[], rfl⟩
        | cons z zs ih =>
          intro hz
          obtain ⟨i, rfl⟩ := hz z List.mem_cons_self
          obtain ⟨is, rfl⟩ := ih fun w hw => hz w (List.mem_cons_of_mem _ hw)
          exact ⟨i :: is, rfl⟩
      obtain ⟨i, rfl⟩ := gi y 0 3 h2
      obtain ⟨is, rfl⟩ := gs ys fun z hz => gi z 1 99 (h3 z hz)
      exact ⟨i :: is, rfl⟩
  | _ => cases h
theorem wh_int {x : PyData} {lo : Int} (h : whB x lo = true) : ∃ i, x = .int i := by
  cases x with
  | int i => exact ⟨i, rfl⟩
  | _ => cases h
theorem dot_P {a : PyData} (h : dotB a = true) : dotP a := by
  unfold dotB at h
  split at h
  · rename_i x y
    rw [Bool.and_eq_true] at h
    obtain ⟨is, rfl⟩ := seat_P h.1
    obtain ⟨n, rfl⟩ := wh_int h.2
    exact ⟨is, n, rfl⟩
  · cases h
theorem ack_hd {x : PyData} (h : ackB x = true) : ∃ a t, x = .tuple (a :: t) ∧ seatP a := by
  unfold ackB at h
  split at h
  · rename_i a b c
    rw [Bool.and_eq_true] at h
    exact ⟨a, [b, c], rfl, seat_P h.1⟩
  · cases h
/-- a tuple of rows of a kind, their heads rising -/
def rowsB (p : PyData → Bool) : PyData → Bool
  | .tuple xs => xs.all p && risK (xs.map hdT)
  | _ => false
abbrev acksB := rowsB ackB
theorem bd_len {B S D : Nat} {xs : List PyData} (h : Bd B S D (.tuple xs)) (hS : S ≤ 16777216) : xs.length ≤ 8388608 := by
  obtain ⟨D', S', rfl, rfl⟩ := bd_pos h
  have := (bd_items h).len
  omega
theorem kacks_ok {nr : Str} {Φ : Phi} {ga gr : Nat} (Ha : OkB Φ ga ackB) (Hr : OkRis Φ gr) {B S D : Nat} {x : PyData} {st : Stt} (hb : Bd B S D x) (hD : D ≤ 20) (hS : S ≤ 16777216) : leaveW st.length (semSs Φ (sAcks nr ga gr).body [some (.d x), none] st) = .ok (.d (.bool (acksB x))) st := by
  have h := hb.th hD
  cases x with
  | dict _ => have := h.noD; cases this
  | tuple xs =>
    have hl1 := bd_len hb hS
    have hc : compL (stepC Φ (.cal "is_ack" ga (.cons (.var 1) .nil)) (.nm 1) .nil [1] [some (.d (.tuple xs)), none]) xs st = .ok (xs.map fun z => .bool (ackB z)) st := by
      refine comp_map _ fun z hz => ?_
      simp_arith only [Ha z st (h.items z hz)]
    have hl : ((xs.map fun z => PyData.bool (ackB z)).length ≤ lineN) = True := n_le (by rw [List.length_map]; omega)
    have ha := all_map ackB xs
    cases hr : xs.all ackB with
    | false => rw [hr] at ha; simp_arith! only [sAcks, hc, hl, ha, rowsB, hr]
    | true =>
      rw [hr] at ha
      have er := Hr seatP xs st alk_seat (fun z hz => ack_hd (List.all_eq_true.mp hr z hz)) hl1
      simp_arith! only [sAcks, hc, hl, ha, er, rowsB, hr]
  | _ => simp_arith! only [sAcks, rowsB]
theorem okAcks {nr : Str} {fs : List Fn} {k i ga gr : Nat} (h : fs[i]? = some (sAcks nr ga gr)) (Ha : OkB (phi fs k) ga ackB) (Hr : OkRis (phi fs k) gr) : OkD (phi fs (k + 1)) i acksB := fun B S D x st hx hD hS => by rw [phi_at h ⟨rfl, Nat.le_of_ble_eq_true rfl⟩]; exact kacks_ok Ha Hr hx hD hS
/-! ### rows of two -/
def pairT : PyData → Bool
  | .tuple [_, _] => true
  | _ => false
def prB (p q : PyData → Bool) : PyData → Bool
  | .tuple [a, b] => p a && q b
  | _ => false
def cutB : PyData → Bool
  | .tuple [a, b] => seatB a && upB b 0 (mostM a)
  | _ => false
theorem pair_cases {x : PyData} : (∃ a b, x = .tuple [a, b]) ∨ (pairT x = false ∧ (∀ p q, prB p q x = false) ∧ cutB x = false) := by
  by_cases h : ∃ a b, x = .tuple [a, b]
  · exact .inl h
  · refine .inr ⟨?_, fun p q => ?_, ?_⟩
    · unfold pairT
      split
      · exact absurd ⟨_, _, rfl⟩ h
      · rfl
    · unfold prB
      split
      · exact absurd ⟨_, _, rfl⟩ h
      · rfl
    · unfold cutB
      split
      · exact absurd ⟨_, _, rfl⟩ h
      · rfl
theorem kpair_ok {Φ : Phi} {x : PyData} {st : Stt} (h : noD x = true) : leaveW st.length (semSs Φ sPair.body [some (.d x)] st) = .ok (.d (.bool (pairT x))) st := by
  cases x with
  | dict _ => cases h
  | tuple xs =>
    by_cases hl : xs.length = 2
    · obtain ⟨a, b, rfl⟩ := len2 hl
      have e2 : decide ((([a, b].length : Nat) : Int) = 2) = true := decide_eq_true rfl
      simp_arith! only [sPair, e2, pairT]
    · have e2 : decide (((xs.length : Nat) : Int) = 2) = false := decide_eq_false (by omega)
      have ep : pairT (.tuple xs) = false := by
        unfold pairT
        split
        · rename_i e; cases e; exact absurd rfl hl
        · rfl
      simp_arith! only [sPair, e2, ep]
  | _ => simp_arith! only [sPair, pairT]
theorem okPair {fs : List Fn} {k i : Nat} (h : fs[i]? = some sPair) : OkB (phi fs (k + 1)) i pairT := fun x st hx => by rw [phi_at h ⟨rfl, Nat.le_of_ble_eq_true rfl⟩]; exact kpair_ok hx.noD
theorem pr_hd {p q : PyData → Bool} {P : PyData → Prop} (hp : ∀ a, p a = true → P a) {x : PyData} (h : prB p q x = true) : ∃ a t, x = .tuple (a :: t) ∧ P a := by
  unfold prB at h
  split at h
  · rename_i a b
    rw [Bool.and_eq_true] at h
    exact ⟨a, [b], rfl, hp a h.1⟩
  · cases h
theorem cut_hd {x : PyData} (h : cutB x = true) : ∃ a t, x = .tuple (a :: t) ∧ seatP a := by
  unfold cutB at h
  split at h
  · rename_i a b
    rw [Bool.and_eq_true] at h
    exact ⟨a, [b], rfl, seat_P h.1⟩
  · cases h
abbrev thingsB := rowsB (prB dotB thingB)
abbrev marksB := rowsB (prB dotB acksB)
abbrev fencesB := rowsB (prB seatB fun z => whB z 1)
abbrev cutsB := rowsB cutB
theorem kthings_ok {nr : Str} {Φ : Phi} {gp gd gt gr : Nat} (Hp : OkB Φ gp pairT) (Hd : OkD Φ gd dotB) (Ht : OkD Φ gt thingB) (Hr : OkRis Φ gr) {B S D : Nat} {x : PyData} {st : Stt} (hb : Bd B S D x) (hD : D ≤ 20) (hS : S ≤ 16777216) : leaveW st.length (semSs Φ (sThings nr gp gd gt gr).body [some (.d x), none] st) = .ok (.d (.bool (rowsB (prB dotB thingB) x))) st := by
  have h := hb.th hD
  cases x with
  | dict _ => have := h.noD; cases this
  | tuple xs =>
    have hl1 := bd_len hb hS
    obtain ⟨D', S', rfl, rfl⟩ := bd_pos hb
    have hi := (bd_items hb).mem
    have hc : compL (stepC Φ (.an (.cal "is_pair" gp (.cons (.var 1) .nil)) (.an (.cal "is_dot" gd (.cons (.idx (.var 1) (.con (.int 0))) .nil)) (.cal "is_thing" gt (.cons (.idx (.var 1) (.con (.int 1))) .nil)))) (.nm 1) .nil [1] [some (.d (.tuple xs)), none]) xs st = .ok (xs.map fun z => .bool ((prB dotB thingB) z)) st := by
      refine comp_map _ fun z hz => ?_
      have hz' := hi z hz
      have ep := Hp z st (hz'.th (by omega))
      rcases pair_cases (x := z) with ⟨a, b, rfl⟩ | ⟨g1, g2, g3⟩
      · obtain ⟨D'', S'', rfl, rfl⟩ := bd_pos hz'
        have hj := (bd_items hz').mem
        have ea := hj a (by simp)
        have eb := hj b (by simp)
        have e1 := Hd _ _ _ a st ea (by omega) (by omega)
        have e2 := Ht _ _ _ b st eb (by omega) (by omega)
        cases hd : dotB a <;> rw [hd] at e1 <;> simp_arith! only [ep, e1, e2, pairT, prB, hd]
      · rw [g1] at ep
        simp_arith! only [ep, g2, g3]
    have hl : ((xs.map fun z => PyData.bool ((prB dotB thingB) z)).length ≤ lineN) = True := n_le (by rw [List.length_map]; omega)
    have ha := all_map (prB dotB thingB) xs
    cases hr : xs.all (prB dotB thingB) with
    | false => rw [hr] at ha; simp_arith! only [sThings, hc, hl, ha, rowsB, hr]
    | true =>
      rw [hr] at ha
      have er := Hr dotP xs st alk_dot (fun z hz => pr_hd (fun a => dot_P) (List.all_eq_true.mp hr z hz)) hl1
      simp_arith! only [sThings, hc, hl, ha, er, rowsB, hr]
  | _ => simp_arith! only [sThings, rowsB]
theorem kmarks_ok {nr : Str} {Φ : Phi} {gp gd gaa gr : Nat} (Hp : OkB Φ gp pairT) (Hd : OkD Φ gd dotB) (Ht : OkD Φ gaa acksB) (Hr : OkRis Φ gr) {B S D : Nat} {x : PyData} {st : Stt} (hb : Bd B S D x) (hD : D ≤ 20) (hS : S ≤ 16777216) : leaveW st.length (semSs Φ (sMarks nr gp gd gaa gr).body [some (.d x), none] st) = .ok (.d (.bool (rowsB (prB dotB acksB) x))) st := by
  have h := hb.th hD
  cases x with
  | dict _ => have := h.noD; cases this
  | tuple xs =>
    have hl1 := bd_len hb hS
    obtain ⟨D', S', rfl, rfl⟩ := bd_pos hb
    have hi := (bd_items hb).mem
    have hc : compL (stepC Φ (.an (.cal "is_pair" gp (.cons (.var 1) .nil)) (.an (.cal "is_dot" gd (.cons (.idx (.var 1) (.con (.int 0))) .nil)) (.cal "are_acks" gaa (.cons (.idx (.var 1) (.con (.int 1))) .nil)))) (.nm 1) .nil [1] [some (.d (.tuple xs)), none]) xs st = .ok (xs.map fun z => .bool ((prB dotB acksB) z)) st := by
      refine comp_map _ fun z hz => ?_
      have hz' := hi z hz
      have ep := Hp z st (hz'.th (by omega))
      rcases pair_cases (x := z) with ⟨a, b, rfl⟩ | ⟨g1, g2, g3⟩
      · obtain ⟨D'', S'', rfl, rfl⟩ := bd_pos hz'
        have hj := (bd_items hz').mem
        have ea := hj a (by simp)
        have eb := hj b (by simp)
        have e1 := Hd _ _ _ a st ea (by omega) (by omega)
        have e2 := Ht _ _ _ b st eb (by omega) (by omega)
        cases hd : dotB a <;> rw [hd] at e1 <;> simp_arith! only [ep, e1, e2, pairT, prB, hd]
      · rw [g1] at ep
        simp_arith! only [ep, g2, g3]
    have hl : ((xs.map fun z => PyData.bool ((prB dotB acksB) z)).length ≤ lineN) = True := n_le (by rw [List.length_map]; omega)
    have ha := all_map (prB dotB acksB) xs
    cases hr : xs.all (prB dotB acksB) with
    | false => rw [hr] at ha; simp_arith! only [sMarks, hc, hl, ha, rowsB, hr]
    | true =>
      rw [hr] at ha
      have er := Hr dotP xs st alk_dot (fun z hz => pr_hd (fun a => dot_P) (List.all_eq_true.mp hr z hz)) hl1
      simp_arith! only [sMarks, hc, hl, ha, er, rowsB, hr]
  | _ => simp_arith! only [sMarks, rowsB]
theorem kfences_ok {nr : Str} {Φ : Phi} {gp gs gw gr : Nat} (Hp : OkB Φ gp pairT) (Hs : OkB Φ gs seatB) (Hw : OkWhole Φ gw) (Hr : OkRis Φ gr) {B S D : Nat} {x : PyData} {st : Stt} (hb : Bd B S D x) (hD : D ≤ 20) (hS : S ≤ 16777216) : leaveW st.length (semSs Φ (sFences nr gp gs gw gr).body [some (.d x), none] st) = .ok (.d (.bool (rowsB (prB seatB fun z => whB z 1) x))) st := by
  have h := hb.th hD
  cases x with
  | dict _ => have := h.noD; cases this
  | tuple xs =>
    have hl1 := bd_len hb hS
    obtain ⟨D', S', rfl, rfl⟩ := bd_pos hb
    have hi := (bd_items hb).mem
    have hc : compL (stepC Φ (.an (.cal "is_pair" gp (.cons (.var 1) .nil)) (.an (.cal "is_seat" gs (.cons (.idx (.var 1) (.con (.int 0))) .nil)) (.cal "is_whole" gw (.cons (.idx (.var 1) (.con (.int 1))) (.cons (.con (.int 1)) .nil))))) (.nm 1) .nil [1] [some (.d (.tuple xs)), none]) xs st = .ok (xs.map fun z => .bool ((prB seatB fun z => whB z 1) z)) st := by
      refine comp_map _ fun z hz => ?_
      have hz' := hi z hz
      have ep := Hp z st (hz'.th (by omega))
      rcases pair_cases (x := z) with ⟨a, b, rfl⟩ | ⟨g1, g2, g3⟩
      · obtain ⟨D'', S'', rfl, rfl⟩ := bd_pos hz'
        have hj := (bd_items hz').mem
        have ea := hj a (by simp)
        have eb := hj b (by simp)
        have e1 := Hs a st (ea.th (by omega))
        have e2 := Hw b 1 st eb.noD
        cases hd : seatB a <;> rw [hd] at e1 <;> simp_arith! only [ep, e1, e2, pairT, prB, hd]
      · rw [g1] at ep
        simp_arith! only [ep, g2, g3]
    have hl : ((xs.map fun z => PyData.bool ((prB seatB fun z => whB z 1) z)).length ≤ lineN) = True := n_le (by rw [List.length_map]; omega)
    have ha := all_map (prB seatB fun z => whB z 1) xs
    cases hr : xs.all (prB seatB fun z => whB z 1) with
    | false => rw [hr] at ha; simp_arith! only [sFences, hc, hl, ha, rowsB, hr]
    | true =>
      rw [hr] at ha
      have er := Hr seatP xs st alk_seat (fun z hz => pr_hd (fun a => seat_P) (List.all_eq_true.mp hr z hz)) hl1
      simp_arith! only [sFences, hc, hl, ha, er, rowsB, hr]
  | _ => simp_arith! only [sFences, rowsB]
theorem kcuts_ok {nc nr : Str} {Φ : Phi} {gp gs gc gr : Nat} (Hp : OkB Φ gp pairT) (Hs : OkB Φ gs seatB) (Hc : OkCount Φ gc) (Hr : OkRis Φ gr) {B S D : Nat} {x : PyData} {st : Stt} (hb : Bd B S D x) (hD : D ≤ 20) (hS : S ≤ 16777216) : leaveW st.length (semSs Φ (sCuts nc nr gp gs gc gr).body [some (.d x), none] st) = .ok (.d (.bool (rowsB cutB x))) st := by
  have h := hb.th hD
  cases x with
  | dict _ => have := h.noD; cases this
  | tuple xs =>
    have hl1 := bd_len hb hS
    obtain ⟨D', S', rfl, rfl⟩ := bd_pos hb
    have hi := (bd_items hb).mem
    have hc : compL (stepC Φ (.an (.cal "is_pair" gp (.cons (.var 1) .nil)) (.an (.cal "is_seat" gs (.cons (.idx (.var 1) (.con (.int 0))) .nil)) (.cal nc gc (.cons (.idx (.var 1) (.con (.int 0))) (.cons (.idx (.var 1) (.con (.int 1))) .nil))))) (.nm 1) .nil [1] [some (.d (.tuple xs)), none]) xs st = .ok (xs.map fun z => .bool (cutB z)) st := by
      refine comp_map _ fun z hz => ?_
      have hz' := hi z hz
      have ep := Hp z st (hz'.th (by omega))
      rcases pair_cases (x := z) with ⟨a, b, rfl⟩ | ⟨g1, g2, g3⟩
      · obtain ⟨D'', S'', rfl, rfl⟩ := bd_pos hz'
        have hj := (bd_items hz').mem
        have ea := hj a (by simp)
        have eb := hj b (by simp)
        have e1 := Hs a st (ea.th (by omega))
        cases hd : seatB a with
        | false => rw [hd] at e1; simp_arith! only [ep, e1, pairT, cutB, hd]
        | true =>
          rw [hd] at e1
          obtain ⟨ys, rfl⟩ := seat_tup hd
          have e2 := Hc ys b st eb.noD
          simp_arith! only [ep, e1, e2, pairT, cutB, hd]
      · rw [g1] at ep
        simp_arith! only [ep, g2, g3]
    have hl : ((xs.map fun z => PyData.bool (cutB z)).length ≤ lineN) = True := n_le (by rw [List.length_map]; omega)
    have ha := all_map cutB xs
    cases hr : xs.all cutB with
    | false => rw [hr] at ha; simp_arith! only [sCuts, hc, hl, ha, rowsB, hr]
    | true =>
      rw [hr] at ha
      have er := Hr seatP xs st alk_seat (fun z hz => cut_hd (List.all_eq_true.mp hr z hz)) hl1
      simp_arith! only [sCuts, hc, hl, ha, er, rowsB, hr]
  | _ => simp_arith! only [sCuts, rowsB]
theorem okThings {nr : Str} {fs : List Fn} {k i gp gd gt gr : Nat} (h : fs[i]? = some (sThings nr gp gd gt gr)) (Hp : OkB (phi fs k) gp pairT) (Hd : OkD (phi fs k) gd dotB) (Ht : OkD (phi fs k) gt thingB) (Hr : OkRis (phi fs k) gr) : OkD (phi fs (k + 1)) i thingsB := fun B S D x st hx hD hS => by rw [phi_at h ⟨rfl, Nat.le_of_ble_eq_true rfl⟩]; exact kthings_ok Hp Hd Ht Hr hx hD hS
theorem okMarks {nr : Str} {fs : List Fn} {k i gp gd gaa gr : Nat} (h : fs[i]? = some (sMarks nr gp gd gaa gr)) (Hp : OkB (phi fs k) gp pairT) (Hd : OkD (phi fs k) gd dotB) (Ht : OkD (phi fs k) gaa acksB) (Hr : OkRis (phi fs k) gr) : OkD (phi fs (k + 1)) i marksB := fun B S D x st hx hD hS => by rw [phi_at h ⟨rfl, Nat.le_of_ble_eq_true rfl⟩]; exact kmarks_ok Hp Hd Ht Hr hx hD hS
theorem okFences {nr : Str} {fs : List Fn} {k i gp gs gw gr : Nat} (h : fs[i]? = some (sFences nr gp gs gw gr)) (Hp : OkB (phi fs k) gp pairT) (Hs : OkB (phi fs k) gs seatB) (Hw : OkWhole (phi fs k) gw) (Hr : OkRis (phi fs k) gr) : OkD (phi fs (k + 1)) i fencesB := fun B S D x st hx hD hS => by rw [phi_at h ⟨rfl, Nat.le_of_ble_eq_true rfl⟩]; exact kfences_ok Hp Hs Hw Hr hx hD hS
theorem okCuts {nc nr : Str} {fs : List Fn} {k i gp gs gc gr : Nat} (h : fs[i]? = some (sCuts nc nr gp gs gc gr)) (Hp : OkB (phi fs k) gp pairT) (Hs : OkB (phi fs k) gs seatB) (Hc : OkCount (phi fs k) gc) (Hr : OkRis (phi fs k) gr) : OkD (phi fs (k + 1)) i cutsB := fun B S D x st hx hD hS => by rw [phi_at h ⟨rfl, Nat.le_of_ble_eq_true rfl⟩]; exact kcuts_ok Hp Hs Hc Hr hx hD hS
/-! ### heads, books, letters -/
theorem klefts_ok {Φ : Phi} {gaa : Nat} {x : PyData} {b : Bool} {st : Stt} (h : Φ gaa [.d x] st = .ok (.d (.bool b)) st) : leaveW st.length (semSs Φ (sLefts gaa).body [some (.d x)] st) = .ok (.d (.bool b)) st := by
  simp_arith only [sLefts, h, List.take_length]
theorem okLefts {fs : List Fn} {k i gaa : Nat} (h : fs[i]? = some (sLefts gaa)) (H : OkD (phi fs k) gaa acksB) : OkD (phi fs (k + 1)) i acksB := fun B S D x st hx hD hS => by rw [phi_at h ⟨rfl, Nat.le_of_ble_eq_true rfl⟩]; exact klefts_ok (H B S D x st hx hD hS)
def headB : PyData → Bool
  | .tuple [a, b, c, d, e] => seatB a && (upB b 1 4 && (whB c 0 && (whB d 0 && upB e 0 (mostM a))))
  | _ => false
theorem headB_no {xs : List PyData} (h : xs.length ≠ 5) : headB (.tuple xs) = false := by
  unfold headB
  split
  · rename_i e; cases e; exact absurd rfl h
  · rfl
theorem len5 {xs : List PyData} (h : xs.length = 5) : ∃ a b c d e, xs = [a, b, c, d, e] := by
  match xs, h with
  | [a, b, c, d, e], _ => exact ⟨a, b, c, d, e, rfl⟩
theorem atI_4 {α : Type} (a b c d e : α) (xs : List α) : atI (a :: b :: c :: d :: e :: xs) 4 = some e := atI_nat (a :: b :: c :: d :: e :: xs) 4 (by simp)
theorem atI_5 {α : Type} (a b c d e f : α) (xs : List α) : atI (a :: b :: c :: d :: e :: f :: xs) 5 = some f := atI_nat (a :: b :: c :: d :: e :: f :: xs) 5 (by simp)
theorem atI_6 {α : Type} (a b c d e f g : α) (xs : List α) : atI (a :: b :: c :: d :: e :: f :: g :: xs) 6 = some g := atI_nat (a :: b :: c :: d :: e :: f :: g :: xs) 6 (by simp)
theorem atI_7 {α : Type} (a b c d e f g h : α) (xs : List α) : atI (a :: b :: c :: d :: e :: f :: g :: h :: xs) 7 = some h := atI_nat (a :: b :: c :: d :: e :: f :: g :: h :: xs) 7 (by simp)
theorem atI_8 {α : Type} (a b c d e f g h i : α) (xs : List α) : atI (a :: b :: c :: d :: e :: f :: g :: h :: i :: xs) 8 = some i := atI_nat (a :: b :: c :: d :: e :: f :: g :: h :: i :: xs) 8 (by simp)
theorem atI_9 {α : Type} (a b c d e f g h i j : α) (xs : List α) : atI (a :: b :: c :: d :: e :: f :: g :: h :: i :: j :: xs) 9 = some j := atI_nat (a :: b :: c :: d :: e :: f :: g :: h :: i :: j :: xs) 9 (by simp)
theorem khead_ok {nc : Str} {Φ : Phi} {gs gu gw gc : Nat} (Hs : OkB Φ gs seatB) (Hu : OkUp Φ gu) (Hw : OkWhole Φ gw) (Hc : OkCount Φ gc) {x : PyData} {st : Stt} (h : Th x) : leaveW st.length (semSs Φ (sHead nc gs gu gw gc).body [some (.d x)] st) = .ok (.d (.bool (headB x))) st := by
  cases x with
  | dict _ => have := h.noD; cases this
  | tuple xs =>
    by_cases hl : xs.length = 5
    · obtain ⟨a, b, c, d, e, rfl⟩ := len5 hl
      have e5 : decide ((([a, b, c, d, e].length : Nat) : Int) = 5) = true := decide_eq_true rfl
      have es := Hs a st (h.items a (by simp))
      have eb := Hu b 1 4 st (h.items b (by simp)).noD
      have ec := Hw c 0 st (h.items c (by simp)).noD
      have ed := Hw d 0 st (h.items d (by simp)).noD
      cases hs : seatB a with
      | false => rw [hs] at es; simp_arith! only [sHead, e5, es, headB, hs]
      | true =>
        rw [hs] at es
        obtain ⟨ys, rfl⟩ := seat_tup hs
        have ee := Hc ys e st (h.items e (by simp)).noD
        cases hb : upB b 1 4 <;> rw [hb] at eb <;> cases hc : whB c 0 <;> rw [hc] at ec <;> cases hd : whB d 0 <;> rw [hd] at ed <;> simp_arith! only [sHead, atI_4, e5, es, eb, ec, ed, ee, headB, hs, hb, hc, hd]
    · have e5 : decide (((xs.length : Nat) : Int) = 5) = false := decide_eq_false (by omega)
      simp_arith! only [sHead, e5, headB_no hl]
  | _ => simp_arith! only [sHead, headB]
theorem okHead {nc : Str} {fs : List Fn} {k i gs gu gw gc : Nat} (h : fs[i]? = some (sHead nc gs gu gw gc)) (Hs : OkB (phi fs k) gs seatB) (Hu : OkUp (phi fs k) gu) (Hw : OkWhole (phi fs k) gw) (Hc : OkCount (phi fs k) gc) : OkB (phi fs (k + 1)) i headB := fun x st hx => by rw [phi_at h ⟨rfl, Nat.le_of_ble_eq_true rfl⟩]; exact khead_ok Hs Hu Hw Hc hx
def bookB : PyData → Bool
  | .tuple [a, b, c, d, e, f, g, h, i, j] => headB (.tuple [a, b, c, d, e]) && (thingsB f && (marksB g && (fencesB h && (cutsB i && acksB j))))
  | _ => false
theorem bookB_no {xs : List PyData} (h : xs.length ≠ 10) : bookB (.tuple xs) = false := by
  unfold bookB
  split
  · rename_i e; cases e; exact absurd rfl h
  · rfl
theorem len10 {xs : List PyData} (h : xs.length = 10) : ∃ a b c d e f g h i j, xs = [a, b, c, d, e, f, g, h, i, j] := by
  match xs, h with
  | [a, b, c, d, e, f, g, h, i, j], _ => exact ⟨a, b, c, d, e, f, g, h, i, j, rfl⟩
theorem kbook_ok {Φ : Phi} {gh gth gm gf gcu gl : Nat} (Hh : OkB Φ gh headB) (Ht : OkD Φ gth thingsB) (Hm : OkD Φ gm marksB) (Hf : OkD Φ gf fencesB) (Hc : OkD Φ gcu cutsB) (Hl : OkD Φ gl acksB) {B S D : Nat} {x : PyData} {st : Stt} (hb : Bd B S D x) (hD : D ≤ 20) (hS : S ≤ 16777216) : leaveW st.length (semSs Φ (sBook gh gth gm gf gcu gl).body [some (.d x)] st) = .ok (.d (.bool (bookB x))) st := by
  cases x with
  | dict _ => have := hb.noD; cases this
  | tuple xs =>
    by_cases hl : xs.length = 10
    · obtain ⟨a, b, c, d, e, f, g, h, i, j, rfl⟩ := len10 hl
      have e10 : decide ((([a, b, c, d, e, f, g, h, i, j].length : Nat) : Int) = 10) = true := decide_eq_true rfl
      obtain ⟨D', S', rfl, rfl⟩ := bd_pos hb
      have hx := bd_items hb
      have hi := hx.mem
      have hcut : cutD [a, b, c, d, e, f, g, h, i, j] none (some 5) = [a, b, c, d, e] := cut_to 5
      have hh : Th (.tuple [a, b, c, d, e]) := by
        have := bd_tup (hx.cut none (some 5))
        rw [hcut] at this
        exact this.th (by omega)
      have eh := Hh _ st hh
      have ef := Ht _ _ _ f st (hi f (by simp)) (by omega) (by omega)
      have eg := Hm _ _ _ g st (hi g (by simp)) (by omega) (by omega)
      have e7 := Hf _ _ _ h st (hi h (by simp)) (by omega) (by omega)
      have e8 := Hc _ _ _ i st (hi i (by simp)) (by omega) (by omega)
      have e9 := Hl _ _ _ j st (hi j (by simp)) (by omega) (by omega)
      cases h0 : headB (.tuple [a, b, c, d, e]) with
      | false => rw [h0] at eh; simp_arith! only [sBook, e10, hcut, eh, bookB, h0]
      | true =>
        rw [h0] at eh
        cases h1 : thingsB f <;> rw [h1] at ef <;> cases h2 : marksB g <;> rw [h2] at eg <;> cases h3 : fencesB h <;> rw [h3] at e7 <;> cases h4 : cutsB i <;> rw [h4] at e8 <;> simp_arith! only [sBook, e10, hcut, eh, atI_5, atI_6, atI_7, atI_8, atI_9, ef, eg, e7, e8, e9, bookB, h0, h1, h2, h3, h4]
    · have e10 : decide (((xs.length : Nat) : Int) = 10) = false := decide_eq_false (by omega)
      simp_arith! only [sBook, e10, bookB_no hl]
  | _ => simp_arith! only [sBook, bookB]
theorem okBook {fs : List Fn} {k i gh gth gm gf gcu gl : Nat} (h : fs[i]? = some (sBook gh gth gm gf gcu gl)) (Hh : OkB (phi fs k) gh headB) (Ht : OkD (phi fs k) gth thingsB) (Hm : OkD (phi fs k) gm marksB) (Hf : OkD (phi fs k) gf fencesB) (Hc : OkD (phi fs k) gcu cutsB) (Hl : OkD (phi fs k) gl acksB) : OkD (phi fs (k + 1)) i bookB := fun B S D x st hx hD hS => by rw [phi_at h ⟨rfl, Nat.le_of_ble_eq_true rfl⟩]; exact kbook_ok Hh Ht Hm Hf Hc Hl hx hD hS
/-- the first row of that seat -/
def ownAk : PyData → List PyData → PyData
  | _, [] => .none
  | a, x :: xs => if PyData.eqv (hdT x) a = true then x else ownAk a xs
theorem eqv_tI (is js : List Int) : PyData.eqv (tuI is) (tuI js) = decide (is = js) := by
  show PyData.eqv (.tuple _) (.tuple _) = _
  rw [PyData.eqv, eqv_ints]
theorem forL_own {Φ : Phi} {is : List Int} {a1 : Option W} {st : Stt} : ∀ (xs : List PyData) (y : Option W), Hds seatP xs → Wp (forL (stepF Φ (.nm 2) sOwnAck_b1) xs [some (.d (tuI is)), a1, y] st) fun fl s => s = st ∧ (fl = .rt (.d (ownAk (tuI is) xs)) ∨ (ownAk (tuI is) xs = .none ∧ ∃ y', fl = .nx [some (.d (tuI is)), a1, y']))
  | [], y, _ => ⟨_, _, rfl, rfl, .inr ⟨rfl, y, rfl⟩⟩
  | x :: xs, y, h => by
    obtain ⟨a, t, rfl, js, rfl⟩ := h x List.mem_cons_self
    have ih := forL_own (Φ := Φ) (is := is) (a1 := a1) (st := st) xs (some (.d (.tuple (tuI js :: t)))) fun z hz => h z (List.mem_cons_of_mem _ hz)
    have ev : PyData.eqv (hdT (.tuple (tuI js :: t))) (tuI is) = decide (js = is) := eqv_tI js is
    unfold forL
    by_cases he : js = is
    · have d1 : decide (js = is) = true := decide_eq_true he
      have e1 : ownAk (tuI is) (.tuple (tuI js :: t) :: xs) = .tuple (tuI js :: t) := by rw [ownAk, ev, d1, if_pos rfl]
      rw [e1]
      simp_arith! only [Wp_ok, Wp_bind, Wp_nox, sOwnAck_b1, eqD_tI, d1]
      exact ⟨trivial, .inl trivial⟩
    · have d1 : decide (js = is) = false := decide_eq_false he
      have e1 : ownAk (tuI is) (.tuple (tuI js :: t) :: xs) = ownAk (tuI is) xs := by rw [ownAk, ev, d1, if_neg Bool.false_ne_true]
      rw [e1]
      simp_arith! only [Wp_ok, Wp_bind, Wp_nox, sOwnAck_b1, eqD_tI, d1]
      exact ih
theorem kown_ok {Φ : Phi} {is : List Int} {xs : List PyData} {st : Stt} (h : Hds seatP xs) : leaveW st.length (semSs Φ sOwnAck.body [some (.d (tuI is)), some (.d (.tuple xs)), none] st) = .ok (.d (ownAk (tuI is) xs)) st := by
  obtain ⟨fl, s, e, rfl, h1⟩ := forL_own (Φ := Φ) (is := is) (a1 := some (.d (.tuple xs))) (st := st) xs none h
  rcases h1 with rfl | ⟨h0, y', rfl⟩
  · simp_arith! only [sOwnAck, e]
  · simp_arith! only [sOwnAck, e, h0]
def OkOwn (Φ : Phi) (i : Nat) : Prop := ∀ (is : List Int) (xs : List PyData) (st : Stt), Hds seatP xs → Φ i [.d (tuI is), .d (.tuple xs)] st = .ok (.d (ownAk (tuI is) xs)) st
theorem okOwn {fs : List Fn} {k i : Nat} (h : fs[i]? = some sOwnAck) : OkOwn (phi fs (k + 1)) i := fun is xs st hx => by rw [phi_at h ⟨rfl, Nat.le_of_ble_eq_true rfl⟩]; exact kown_ok hx
def isNo : PyData → Bool
  | .none => true
  | _ => false
def ownsB (a : PyData) : PyData → Bool
  | .tuple [_, .tuple ks] => !isNo (ownAk a ks)
  | _ => false
def letterB : PyData → Bool
  | .tuple [a, b, c, .tuple ms, e] => seatB a && (whB b 0 && (thingsB c && (marksB (.tuple ms) && (acksB e && ms.all (ownsB a)))))
  | _ => false
theorem letterB_no {xs : List PyData} (h : xs.length ≠ 5) : letterB (.tuple xs) = false := by
  unfold letterB
  split
  · rename_i e; cases e; exact absurd rfl h
  · rfl
theorem rows_tup {p : PyData → Bool} {x : PyData} (h : rowsB p x = true) : ∃ xs, x = .tuple xs ∧ (∀ z ∈ xs, p z = true) ∧ risK (xs.map hdT) = true := by
  cases x with
  | tuple xs =>
    have h : (xs.all p && risK (xs.map hdT)) = true := h
    rw [Bool.and_eq_true] at h
    exact ⟨xs, rfl, List.all_eq_true.mp h.1, h.2⟩
  | _ => cases h
theorem ack_hds {x : PyData} (h : acksB x = true) : ∃ ks, x = .tuple ks ∧ Hds seatP ks := by
  obtain ⟨ks, rfl, h1, _⟩ := rows_tup h
  exact ⟨ks, rfl, fun z hz => ack_hd (h1 z hz)⟩
theorem ownAk_cases (a : PyData) : ∀ ks : List PyData, Hds seatP ks → ownAk a ks = .none ∨ ∃ t, ownAk a ks = .tuple t
  | [], _ => .inl rfl
  | x :: ks, h => by
    unfold ownAk
    split
    · obtain ⟨b, t, rfl, _⟩ := h x List.mem_cons_self
      exact .inr ⟨_, rfl⟩
    · exact ownAk_cases a ks fun z hz => h z (List.mem_cons_of_mem _ hz)
theorem isnot_t (t : List PyData) : cmpK .isnot (.tuple t) .none = some (.d (.bool true)) := rfl
theorem isnot_n : cmpK .isnot .none .none = some (.d (.bool false)) := rfl
theorem kletter_ok {Φ : Phi} {gs gnu gth gm gl go : Nat} (Hs : OkB Φ gs seatB) (Hn : OkB Φ gnu fun x => whB x 0) (Ht : OkD Φ gth thingsB) (Hm : OkD Φ gm marksB) (Hl : OkD Φ gl acksB) (Ho : OkOwn Φ go) {B S D : Nat} {x : PyData} {st : Stt} (hb : Bd B S D x) (hD : D ≤ 20) (hS : S ≤ 16777216) : leaveW st.length (semSs Φ (sLetter gs gnu gth gm gl go).body [some (.d x), none, none] st) = .ok (.d (.bool (letterB x))) st := by
  cases x with
  | dict _ => have := hb.noD; cases this
  | tuple xs =>
    by_cases hl : xs.length = 5
    · obtain ⟨a, b, c, d, e, rfl⟩ := len5 hl
      have e5 : decide ((([a, b, c, d, e].length : Nat) : Int) = 5) = true := decide_eq_true rfl
      obtain ⟨D', S', rfl, rfl⟩ := bd_pos hb
      have hi := (bd_items hb).mem
      have ha := hi a (by simp)
      have es := Hs a st (ha.th (by omega))
      have eb : Φ gnu [.d b] st = .ok (.d (.bool (whB b 0))) st := Hn b st ((hi b (by simp)).th (by omega))
      have ec := Ht _ _ _ c st (hi c (by simp)) (by omega) (by omega)
      have ed := Hm _ _ _ d st (hi d (by simp)) (by omega) (by omega)
      have ee := Hl _ _ _ e st (hi e (by simp)) (by omega) (by omega)
      have off : (seatB a && (whB b 0 && (thingsB c && (marksB d && acksB e)))) = false → letterB (.tuple [a, b, c, d, e]) = false := by
        intro h
        cases d with
        | tuple ms =>
          show (seatB a && (whB b 0 && (thingsB c && (marksB (.tuple ms) && (acksB e && ms.all (ownsB a)))))) = false
          cases h1 : seatB a <;> cases h2 : whB b 0 <;> cases h3 : thingsB c <;> cases h4 : marksB (.tuple ms) <;> cases h5 : acksB e <;> rw [h1, h2, h3, h4, h5] at h <;> first | rfl | cases h
        | _ => rfl
      cases h1 : seatB a with
      | false => rw [h1] at es off; simp_arith! only [sLetter, e5, es, off rfl]
      | true =>
        rw [h1] at es off
        cases h2 : whB b 0 with
        | false => rw [h2] at eb off; simp_arith! only [sLetter, e5, es, eb, off rfl]
        | true =>
          rw [h2] at eb off
          cases h3 : thingsB c with
          | false => rw [h3] at ec off; simp_arith! only [sLetter, e5, es, eb, ec, off rfl]
          | true =>
            rw [h3] at ec off
            cases h4 : marksB d with
            | false => rw [h4] at ed off; simp_arith! only [sLetter, e5, es, eb, ec, ed, off rfl]
            | true =>
              rw [h4] at ed off
              cases h5 : acksB e with
              | false => rw [h5] at ee off; simp_arith! only [sLetter, atI_4, e5, es, eb, ec, ed, ee, off rfl]
              | true =>
                rw [h5] at ee
                obtain ⟨ms, rfl, hm1, _⟩ := rows_tup h4
                obtain ⟨is, rfl⟩ := seat_P h1
                have hlm := bd_len (hi (.tuple ms) (by simp)) (by omega)
                have hc : compL (stepC Φ (.cmp .isnot (.cal "own_ack" go (.cons (.idx (.var 0) (.con (.int 0))) (.cons (.var 2) .nil))) (.con .none)) (.tp [1, 2]) .nil [1, 2] [some (.d (.tuple [tuI is, b, c, .tuple ms, e])), none, none]) ms st = .ok (ms.map fun z => .bool (ownsB (tuI is) z)) st := by
                  refine comp_map _ fun z hz => ?_
                  have hz1 := hm1 z hz
                  rcases pair_cases (x := z) with ⟨p, q, rfl⟩ | ⟨_, g2, _⟩
                  · have hq : (dotB p && acksB q) = true := hz1
                    rw [Bool.and_eq_true] at hq
                    obtain ⟨ks, rfl, hk⟩ := ack_hds hq.2
                    have eo := Ho is ks st hk
                    rcases ownAk_cases (tuI is) ks hk with h0 | ⟨t, h0⟩
                    · rw [h0] at eo
                      simp_arith! only [stepC_tp, eo, isnot_n, ownsB, h0, isNo]
                    · rw [h0] at eo
                      simp_arith! only [stepC_tp, eo, isnot_t, ownsB, h0, isNo]
                  · rw [g2] at hz1; cases hz1
                have hk : ((ms.map fun z => PyData.bool (ownsB (tuI is) z)).length ≤ lineN) = True := n_le (by rw [List.length_map]; omega)
                have hal := all_map (ownsB (tuI is)) ms
                simp_arith! only [sLetter, atI_4, e5, es, eb, ec, ed, ee, hc, hk, hal, letterB, h1, h2, h3, h4, h5]
    · have e5 : decide (((xs.length : Nat) : Int) = 5) = false := decide_eq_false (by omega)
      simp_arith! only [sLetter, e5, letterB_no hl]
  | _ => simp_arith! only [sLetter, letterB]
theorem okLetter {fs : List Fn} {k i gs gnu gth gm gl go : Nat} (h : fs[i]? = some (sLetter gs gnu gth gm gl go)) (Hs : OkB (phi fs k) gs seatB) (Hn : OkB (phi fs k) gnu fun x => whB x 0) (Ht : OkD (phi fs k) gth thingsB) (Hm : OkD (phi fs k) gm marksB) (Hl : OkD (phi fs k) gl acksB) (Ho : OkOwn (phi fs k) go) : OkD (phi fs (k + 1)) i letterB := fun B S D x st hx hD hS => by rw [phi_at h ⟨rfl, Nat.le_of_ble_eq_true rfl⟩]; exact kletter_ok Hs Hn Ht Hm Hl Ho hx hD hS
end Gm

namespace Lk44
open PySem PySem.Spec PyProof.Rows L2 Gm
def f0 : Fn := ⟨"is_whole", 2, ["thing", "least"],
  (.cons (.ret (.an (.isi (.var 0) .int) (.an (.nt (.isi (.var 0) .bool)) (.cmp .ge (.var 0) (.var 1)))))
  .nil)⟩
def f1 : Fn := ⟨"is_up_to", 3, ["thing", "least", "most"],
  (.cons (.ret (.an (.cal "is_whole" 0 (.cons (.var 0) (.cons (.var 1) .nil))) (.cmp .le (.var 0) (.var 2))))
  .nil)⟩
def f2 : Fn := ⟨"is_seat", 1, ["thing", "one"],
  (.cons (.ite (.oo (.nt (.isi (.var 0) .tuple)) (.nt (.chn .le .le (.con (.int 1)) (.bif .len (.cons (.var 0) .nil)) (.glo "MOST_DEEP" (.int 5)))))
    (.cons (.ret (.con (.bool false)))
    .nil)
    .nil)
  (.cons (.ret (.an (.cal "is_up_to" 1 (.cons (.idx (.var 0) (.con (.int 0))) (.cons (.con (.int 0)) (.cons (.glo "MOST_ROOT" (.int 3)) .nil)))) (.bif .all (.cons (.lc (.cal "is_up_to" 1 (.cons (.var 1) (.cons (.con (.int 1)) (.cons (.glo "MOST_CHILD" (.int 99)) .nil)))) (.nm 1) (.of (.slc (.var 0) (.cons (.con (.int 1)) .nil) .nil)) .nil [1]) .nil))))
  .nil))⟩
def f3 : Fn := ⟨"is_count", 1, ["thing"],
  (.cons (.ret (.an (.isi (.var 0) .int) (.an (.nt (.isi (.var 0) .bool)) (.cmp .ge (.var 0) (.con (.int 0))))))
  .nil)⟩
def f4 : Fn := ⟨"is_paper_row", 1, ["thing"],
  (.cons (.ite (.oo (.nt (.isi (.var 0) .tuple)) (.oo (.cmp .ne (.bif .len (.cons (.var 0) .nil)) (.con (.int 4))) (.nt (.cal "is_seat" 2 (.cons (.idx (.var 0) (.con (.int 0))) .nil)))))
    (.cons (.ret (.con (.bool false)))
    .nil)
    .nil)
  (.cons (.ite (.oo (.nt (.isi (.idx (.var 0) (.con (.int 1))) .str)) (.oo (.cmp .notin (.idx (.var 0) (.con (.int 1))) (.glo "WORDS" (.tuple [(.str "has"), (.str "left"), (.str "cut")]))) (.oo (.nt (.cal "is_count" 3 (.cons (.idx (.var 0) (.con (.int 2))) .nil))) (.nt (.cal "is_count" 3 (.cons (.idx (.var 0) (.con (.int 3))) .nil))))))
    (.cons (.ret (.con (.bool false)))
    .nil)
    .nil)
  (.cons (.ite (.an (.cmp .eq (.idx (.var 0) (.con (.int 1))) (.con (.str "cut"))) (.cmp .ne (.idx (.var 0) (.con (.int 2))) (.con (.int 0))))
    (.cons (.ret (.con (.bool false)))
    .nil)
    .nil)
  (.cons (.ret (.cmp .le (.idx (.var 0) (.con (.int 3))) (.ite (.cmp .lt (.bif .len (.cons (.idx (.var 0) (.con (.int 0))) .nil)) (.glo "LONGEST" (.int 5))) (.glo "MOST_BROUGHT" (.int 99)) (.con (.int 0)))))
  .nil))))⟩
def f5 : Fn := ⟨"read_number", 1, ["text", "figures", "sign", "number"],
  (.cons (.set 1 .pure (.ite (.cmp .eq (.slc (.var 0) .nil (.cons (.con (.int 1)) .nil)) (.con (.str "-"))) (.slc (.var 0) (.cons (.con (.int 1)) .nil) .nil) (.var 0)))
  (.cons (.ite (.oo (.nt (.chn .le .le (.con (.int 1)) (.bif .len (.cons (.var 1) .nil)) (.glo "MOST_FIGURES" (.int 40)))) (.nt (.bif .all (.cons (.lc (.cmp .isin (.var 2) (.glo "FIGURES" (.str "0123456789"))) (.nm 2) (.of (.var 1)) .nil [2]) .nil))))
    (.cons (.ret (.con .none))
    .nil)
    .nil)
  (.cons (.set 3 .pure (.bif .int (.cons (.var 0) .nil)))
  (.cons (.ret (.ite (.cmp .eq (.bif .str (.cons (.var 3) .nil)) (.var 0)) (.var 3) (.con .none)))
  .nil))))⟩
def f6 : Fn := ⟨"read_seat", 1, ["text", "seat", "one"],
  (.cons (.set 1 .pure (.bif .tuple (.cons (.lc (.cal "read_number" 5 (.cons (.var 2) .nil)) (.nm 2) (.of (.mth .split (.var 0) (.cons (.con (.str ".")) .nil))) .nil [2]) .nil)))
  (.cons (.ret (.ite (.cal "is_seat" 2 (.cons (.var 1) .nil)) (.var 1) (.con .none)))
  .nil))⟩
def f7 : Fn := ⟨"read_row_line", 1, ["line", "words", "row"],
  (.cons (.set 1 .pure (.mth .split (.var 0) (.cons (.con (.str " ")) .nil)))
  (.cons (.ite (.an (.cmp .eq (.bif .len (.cons (.var 1) .nil)) (.con (.int 3))) (.cmp .eq (.idx (.var 1) (.con (.int 1))) (.con (.str "cut"))))
    (.cons (.set 1 .pure (.bin .add (.bin .add (.slc (.var 1) .nil (.cons (.con (.int 2)) .nil)) (.lst (.cons (.con (.str "0")) .nil))) (.slc (.var 1) (.cons (.con (.int 2)) .nil) .nil)))
    .nil)
    (.cons (.ite (.oo (.cmp .ne (.bif .len (.cons (.var 1) .nil)) (.con (.int 4))) (.cmp .eq (.idx (.var 1) (.con (.int 1))) (.con (.str "cut"))))
      (.cons (.ret (.con .none))
      .nil)
      .nil)
    .nil))
  (.cons (.set 2 .pure (.tup (.cons (.cal "read_seat" 6 (.cons (.idx (.var 1) (.con (.int 0))) .nil)) (.cons (.idx (.var 1) (.con (.int 1))) (.cons (.cal "read_number" 5 (.cons (.idx (.var 1) (.con (.int 2))) .nil)) (.cons (.cal "read_number" 5 (.cons (.idx (.var 1) (.con (.int 3))) .nil)) .nil))))))
  (.cons (.ret (.ite (.cal "is_paper_row" 4 (.cons (.var 2) .nil)) (.var 2) (.con .none)))
  .nil))))⟩
def f8_b1 : Ss :=
  (.cons (.set 4 .pure (.cal "read_row_line" 7 (.cons (.var 3) .nil)))
  (.cons (.ite (.oo (.cmp .iss (.var 4) (.con .none)) (.an (.cmp .ne (.var 1) (.lst .nil)) (.cmp .le (.idx (.var 4) (.con (.int 0))) (.idx (.idx (.var 1) (.neg (.con (.int 1)))) (.con (.int 0))))))
    (.cons (.rse "NoLines" ["row"] (.cons (.var 2) .nil))
    .nil)
    .nil)
  (.cons (.app 1 (.var 4))
  .nil)))
def f8 : Fn := ⟨"read_paper", 1, ["lines", "found", "k", "line", "row"],
  (.cons (.set 1 .own (.lst .nil))
  (.cons (.for_ (.tp [2, 3]) (.enum (.var 0)) f8_b1)
  (.cons (.ret (.bif .tuple (.cons (.var 1) .nil)))
  .nil)))⟩
def f9 : Fn := ⟨"_law_feed", 1, ["_law_script"],
  (.cons (.ret (.lst (.cons (.bin .add (.slc (.var 0) .nil (.cons (.con (.int 63)) .nil)) (.bin .mul (.lst (.cons (.con (.int 0)) .nil)) (.bif .int (.cons (.cmp .eq (.var 0) (.lst .nil)) .nil)))) (.cons (.con (.int 0)) (.cons (.con (.int 0)) .nil)))))
  .nil)⟩
def f10 : Fn := ⟨"_law_next", 2, ["_law_feed_here", "_law_many", "_law_found", "_law_at", "_law_cell", "_law_first"],
  (.cons (.ite (.cmp .gt (.idx (.var 0) (.con (.int 2))) (.con (.int 0)))
    (.cons (.set 2 .pure (.bin .mod (.idx (.var 0) (.con (.int 2))) (.var 1)))
    (.cons (.sub 0 (.con (.int 2)) (.bin .fdiv (.idx (.var 0) (.con (.int 2))) (.var 1)))
    (.cons (.ret (.var 2))
    .nil)))
    .nil)
  (.cons (.set 3 .pure (.idx (.var 0) (.con (.int 1))))
  (.cons (.sub 0 (.con (.int 1)) (.bin .add (.var 3) (.con (.int 1))))
  (.cons (.set 4 .pure (.idx (.idx (.var 0) (.con (.int 0))) (.bin .mod (.var 3) (.bif .len (.cons (.idx (.var 0) (.con (.int 0))) .nil)))))
  (.cons (.ite (.an (.cmp .ge (.var 4) (.bin .pow (.con (.int 10)) (.con (.int 18)))) (.cmp .lt (.var 3) (.bif .len (.cons (.idx (.var 0) (.con (.int 0))) .nil))))
    (.cons (.sub 0 (.con (.int 2)) (.bin .fdiv (.var 4) (.var 1)))
    (.cons (.ret (.bin .mod (.var 4) (.var 1)))
    .nil))
    .nil)
  (.cons (.set 5 .pure (.bin .mod (.bin .mul (.bin .add (.bin .add (.bin .add (.bin .mod (.var 4) (.con (.int 1000003))) (.bin .mul (.bin .mul (.con (.int 43)) (.var 3)) (.var 3))) (.bin .mul (.con (.int 29)) (.var 3))) (.con (.int 1013))) (.con (.int 51859))) (.con (.int 999907))))
  (.cons (.set 5 .pure (.bin .mod (.bin .add (.bin .add (.bin .mul (.var 5) (.var 5)) (.bin .mul (.con (.int 40763)) (.var 3))) (.con (.int 131))) (.con (.int 2097143))))
  (.cons (.ret (.bin .mod (.bin .fdiv (.bin .mod (.bin .mul (.var 5) (.con (.int 48271))) (.con (.int 2147483629))) (.con (.int 5))) (.var 1)))
  .nil))))))))⟩
def f11 : Fn := ⟨"_law_line", 1, ["_law_feed_here", "_law_seat_here", "_law_j", "_law_word", "_law_n"],
  (.cons (.set 1 .pure (.mth .join (.con (.str ".")) (.cons (.bin .add (.lst (.cons (.bif .str (.cons (.cal "_law_next" 10 (.cons (.var 0) (.cons (.con (.int 4)) .nil))) .nil)) .nil)) (.lc (.bif .str (.cons (.bin .add (.con (.int 1)) (.cal "_law_next" 10 (.cons (.var 0) (.cons (.con (.int 12)) .nil)))) .nil)) (.nm 2) (.rng (.cal "_law_next" 10 (.cons (.var 0) (.cons (.con (.int 5)) .nil)))) .nil [2])) .nil)))
  (.cons (.set 3 .pure (.idx (.lst (.cons (.con (.str "has")) (.cons (.con (.str "left")) (.cons (.con (.str "cut")) .nil)))) (.cal "_law_next" 10 (.cons (.var 0) (.cons (.con (.int 3)) .nil)))))
  (.cons (.set 4 .pure (.bin .add (.con (.str " ")) (.bif .str (.cons (.idx (.lst (.cons (.con (.int 0)) (.cons (.cal "_law_next" 10 (.cons (.var 0) (.cons (.con (.int 60)) .nil))) (.cons (.bin .sub (.bin .pow (.con (.int 10)) (.con (.int 40))) (.con (.int 1))) .nil)))) (.cal "_law_next" 10 (.cons (.var 0) (.cons (.con (.int 3)) .nil)))) .nil))))
  (.cons (.ret (.bin .add (.bin .add (.bin .add (.bin .add (.bin .add (.var 1) (.con (.str " "))) (.var 3)) (.bin .mul (.var 4) (.bif .int (.cons (.cmp .ne (.var 3) (.con (.str "cut"))) .nil)))) (.con (.str " "))) (.bif .str (.cons (.idx (.lst (.cons (.con (.int 0)) (.cons (.con (.int 0)) (.cons (.con (.int 1)) (.cons (.con (.int 12)) (.cons (.con (.int 99)) .nil)))))) (.cal "_law_next" 10 (.cons (.var 0) (.cons (.con (.int 5)) .nil)))) .nil))))
  .nil))))⟩
def f12 : Fn := ⟨"_law_bent", 2, ["_law_feed_here", "_law_line_here", "_law_odd", "_law_word", "_law_at", "_law_to", "_law_words", "_law_spot", "_law_some"],
  (.cons (.set 2 .pure (.lst (.cons (.con (.str "")) (.cons (.con (.str " ")) (.cons (.con (.str "0")) (.cons (.con (.str "00")) (.cons (.con (.str "01")) (.cons (.con (.str "100")) (.cons (.con (.str "-1")) (.cons (.con (.str "has")) (.cons (.con (.str "Has")) (.cons (.con (.str "left")) (.cons (.con (.str "cut")) (.cons (.con (.str ".")) (.cons (.con (.str "0.0")) (.cons (.con (.str "4")) (.cons (.con (.str "0.1.1.1.1.1")) (.cons (.con (.str "1_0")) .nil))))))))))))))))))
  (.cons (.set 2 .pure (.bin .add (.var 2) (.lst (.cons (.bin .mul (.con (.str "9")) (.con (.int 41))) (.cons (.bin .mul (.con (.str "9")) (.con (.int 40))) (.cons (.con (.str "x")) (.cons (.con (.str ":")) (.cons (.con (.str "+1")) (.cons (.con (.str "0.100")) (.cons (.con (.str "1.2 has 3 1")) (.cons (.con (.str "3 cut 0")) .nil)))))))))))
  (.cons (.set 3 .pure (.idx (.var 2) (.cal "_law_next" 10 (.cons (.var 0) (.cons (.con (.int 24)) .nil)))))
  (.cons (.set 4 .pure (.cal "_law_next" 10 (.cons (.var 0) (.cons (.bin .add (.bif .len (.cons (.var 1) .nil)) (.con (.int 1))) .nil))))
  (.cons (.set 5 .pure (.bin .add (.var 4) (.cal "_law_next" 10 (.cons (.var 0) (.cons (.con (.int 3)) .nil)))))
  (.cons (.set 6 .pure (.mth .split (.var 1) (.cons (.con (.str " ")) .nil)))
  (.cons (.set 7 .pure (.cal "_law_next" 10 (.cons (.var 0) (.cons (.bif .len (.cons (.var 6) .nil)) .nil))))
  (.cons (.set 8 .own (.lst (.cons (.bin .add (.bin .add (.slc (.var 1) .nil (.cons (.var 4) .nil)) (.var 3)) (.slc (.var 1) (.cons (.var 4) .nil) .nil)) (.cons (.bin .add (.bin .add (.slc (.var 1) .nil (.cons (.var 4) .nil)) (.var 3)) (.slc (.var 1) (.cons (.var 5) .nil) .nil)) (.cons (.bin .add (.slc (.var 1) .nil (.cons (.var 4) .nil)) (.slc (.var 1) (.cons (.var 5) .nil) .nil)) (.cons (.var 3) (.cons (.bin .add (.bin .add (.var 1) (.con (.str " "))) (.var 3)) .nil)))))))
  (.cons (.app 8 (.mth .join (.con (.str " ")) (.cons (.bin .add (.bin .add (.slc (.var 6) .nil (.cons (.var 7) .nil)) (.lst (.cons (.var 3) .nil))) (.slc (.var 6) (.cons (.bin .add (.var 7) (.con (.int 1))) .nil) .nil)) .nil)))
  (.cons (.app 8 (.mth .join (.con (.str " ")) (.cons (.bin .add (.slc (.var 6) .nil (.cons (.var 7) .nil)) (.slc (.var 6) (.cons (.bin .add (.var 7) (.con (.int 1))) .nil) .nil)) .nil)))
  (.cons (.app 8 (.mth .join (.con (.str " ")) (.cons (.bin .add (.slc (.var 6) (.cons (.var 7) .nil) .nil) (.slc (.var 6) .nil (.cons (.var 7) .nil))) .nil)))
  (.cons (.ret (.idx (.var 8) (.cal "_law_next" 10 (.cons (.var 0) (.cons (.con (.int 8)) .nil)))))
  .nil))))))))))))⟩
def f13_b1 : Ss :=
  (.cons (.ite (.cmp .notin (.var 1) (.con (.str "0123456789")))
    (.cons (.ret (.con .none))
    .nil)
    .nil)
  .nil)
def f13 : Fn := ⟨"_law_number", 1, ["_law_word", "_law_sign"],
  (.cons (.ite (.oo (.cmp .eq (.var 0) (.con (.str ""))) (.oo (.cmp .gt (.bif .len (.cons (.var 0) .nil)) (.con (.int 40))) (.an (.cmp .eq (.idx (.var 0) (.con (.int 0))) (.con (.str "0"))) (.cmp .ne (.var 0) (.con (.str "0"))))))
    (.cons (.ret (.con .none))
    .nil)
    .nil)
  (.cons (.for_ (.nm 1) (.of (.var 0)) f13_b1)
  (.cons (.ret (.bif .int (.cons (.var 0) .nil)))
  .nil)))⟩
def f14 : Fn := ⟨"_law_seat", 1, ["_law_word", "_law_numbers", "_law_part", "_law_one"],
  (.cons (.set 1 .pure (.lc (.cal "_law_number" 13 (.cons (.var 2) .nil)) (.nm 2) (.of (.mth .split (.var 0) (.cons (.con (.str ".")) .nil))) .nil [2]))
  (.cons (.ite (.oo (.cmp .isin (.con .none) (.var 1)) (.oo (.cmp .gt (.bif .len (.cons (.var 1) .nil)) (.con (.int 5))) (.cmp .gt (.idx (.var 1) (.con (.int 0))) (.con (.int 3)))))
    (.cons (.ret (.con .none))
    .nil)
    .nil)
  (.cons (.ret (.ite (.cmp .eq (.lc (.var 3) (.nm 3) (.of (.slc (.var 1) (.cons (.con (.int 1)) .nil) .nil)) (.cons (.oo (.cmp .lt (.var 3) (.con (.int 1))) (.cmp .gt (.var 3) (.con (.int 99)))) .nil) [3]) (.lst .nil)) (.bif .tuple (.cons (.var 1) .nil)) (.con .none)))
  .nil)))⟩
def f15 : Fn := ⟨"_law_row", 1, ["_law_line_here", "_law_words", "_law_seat_here", "_law_n", "_law_m"],
  (.cons (.set 1 .pure (.mth .split (.var 0) (.cons (.con (.str " ")) .nil)))
  (.cons (.ite (.oo (.cmp .lt (.bif .len (.cons (.var 1) .nil)) (.con (.int 3))) (.oo (.cmp .notin (.idx (.var 1) (.con (.int 1))) (.tup (.cons (.con (.str "has")) (.cons (.con (.str "left")) (.cons (.con (.str "cut")) .nil))))) (.cmp .ne (.bif .len (.cons (.var 1) .nil)) (.bin .sub (.con (.int 4)) (.bif .int (.cons (.cmp .eq (.idx (.var 1) (.con (.int 1))) (.con (.str "cut"))) .nil))))))
    (.cons (.ret (.con .none))
    .nil)
    .nil)
  (.cons (.set 2 .pure (.cal "_law_seat" 14 (.cons (.idx (.var 1) (.con (.int 0))) .nil)))
  (.cons (.set 3 .pure (.ite (.cmp .ne (.idx (.var 1) (.con (.int 1))) (.con (.str "cut"))) (.cal "_law_number" 13 (.cons (.idx (.var 1) (.con (.int 2))) .nil)) (.con (.int 0))))
  (.cons (.set 4 .pure (.cal "_law_number" 13 (.cons (.idx (.var 1) (.neg (.con (.int 1)))) .nil)))
  (.cons (.ite (.oo (.cmp .iss (.var 2) (.con .none)) (.oo (.cmp .iss (.var 3) (.con .none)) (.oo (.cmp .iss (.var 4) (.con .none)) (.cmp .gt (.var 4) (.bin .mul (.con (.int 99)) (.bif .int (.cons (.cmp .lt (.bif .len (.cons (.var 2) .nil)) (.con (.int 5))) .nil)))))))
    (.cons (.ret (.con .none))
    .nil)
    .nil)
  (.cons (.ret (.tup (.cons (.var 2) (.cons (.idx (.var 1) (.con (.int 1))) (.cons (.var 3) (.cons (.var 4) .nil))))))
  .nil)))))))⟩
def f16_b1 : Ss :=
  (.cons (.set 3 .pure (.cal "_law_row" 15 (.cons (.idx (.var 0) (.var 2)) .nil)))
  (.cons (.ite (.oo (.cmp .iss (.var 3) (.con .none)) (.an (.cmp .ne (.var 1) (.lst .nil)) (.cmp .ge (.idx (.idx (.var 1) (.neg (.con (.int 1)))) (.con (.int 0))) (.idx (.var 3) (.con (.int 0))))))
    (.cons (.ret (.var 2))
    .nil)
    .nil)
  (.cons (.app 1 (.var 3))
  .nil)))
def f16 : Fn := ⟨"_law_read", 1, ["_law_lines", "_law_found", "_law_k", "_law_row_here"],
  (.cons (.set 1 .own (.lst .nil))
  (.cons (.for_ (.nm 2) (.rng (.bif .len (.cons (.var 0) .nil))) f16_b1)
  (.cons (.ret (.bif .tuple (.cons (.var 1) .nil)))
  .nil)))⟩
def f17 : Fn := ⟨"_law_told", 1, ["_law_lines", "_law_told_here", "e", "_law_others"],
  (.cons (.set 1 .pure (.con (.str "other")))
  (.cons (.tre (.set 1 .pure (.cal "read_paper" 8 (.cons (.var 0) .nil))) [("NoLines", true)] (some 2) (.set 3 (.isx [("NoLines", false)]) (.ite (.an (.isx [("NoLines", true)]) (.an (.isx [("NoLines", true)]) (.nt (.var 3)))) 1 (.fld "row") .nil)))
  (.cons (.ret (.var 1))
  .nil)))⟩
def f18_b1 : Ss :=
  (.cons (.set 7 .pure (.bif .list (.cons (.var 5) .nil)))
  (.cons (.ite (.oo (.cmp .ne (.bif .repr (.cons (.cal "_law_told" 17 (.cons (.var 5) .nil)) .nil)) (.bif .repr (.cons (.cal "_law_read" 16 (.cons (.var 5) .nil)) .nil))) (.cmp .ne (.var 5) (.var 7)))
    (.cons (.ret (.con (.bool false)))
    .nil)
    .nil)
  .nil))
def f18_b2 : Ss :=
  (.cons (.set 3 .pure (.lc (.cal "_law_line" 11 (.cons (.var 1) .nil)) (.nm 8) (.rng (.cal "_law_next" 10 (.cons (.var 1) (.cons (.con (.int 5)) .nil)))) .nil [8]))
  (.cons (.ite (.cmp .gt (.cal "_law_next" 10 (.cons (.var 1) (.cons (.con (.int 3)) .nil))) (.con (.int 0)))
    (.cons (.set 3 .pure (.bif .sorted (.cons (.var 3) .nil)))
    .nil)
    .nil)
  (.cons (.set 4 .own (.lst (.cons (.var 3) (.cons (.bin .add (.var 3) (.slc (.var 3) .nil (.cons (.con (.int 1)) .nil))) (.cons (.rev (.var 3)) (.cons (.lst (.cons (.con (.str "")) .nil)) (.cons (.lst .nil) .nil)))))))
  (.cons (.ite (.cmp .ne (.var 3) (.lst .nil))
    (.cons (.set 6 .pure (.cal "_law_next" 10 (.cons (.var 1) (.cons (.bif .len (.cons (.var 3) .nil)) .nil))))
    (.cons (.app 4 (.bin .add (.bin .add (.slc (.var 3) .nil (.cons (.var 6) .nil)) (.lst (.cons (.cal "_law_bent" 12 (.cons (.var 1) (.cons (.idx (.var 3) (.var 6)) .nil))) .nil))) (.slc (.var 3) (.cons (.bin .add (.var 6) (.con (.int 1))) .nil) .nil)))
    (.cons (.app 4 (.bin .add (.bin .add (.slc (.var 3) .nil (.cons (.var 6) .nil)) (.lst (.cons (.cal "_law_bent" 12 (.cons (.var 1) (.cons (.cal "_law_bent" 12 (.cons (.var 1) (.cons (.idx (.var 3) (.var 6)) .nil))) .nil))) .nil))) (.slc (.var 3) (.cons (.var 6) .nil) .nil)))
    .nil)))
    .nil)
  (.cons (.for_ (.nm 5) (.of (.bin .add (.var 4) (.lst (.cons (.lst (.cons (.cal "_law_bent" 12 (.cons (.var 1) (.cons (.cal "_law_line" 11 (.cons (.var 1) .nil)) .nil))) .nil)) .nil)))) f18_b1)
  .nil)))))
def f18 : Fn := ⟨"law", 1, ["_law_script", "_law_feed_here", "_law_k", "_law_lines", "_law_some", "_law_one", "_law_at", "_law_kept", "_law_j"],
  (.cons (.set 1 .cell (.cal "_law_feed" 9 (.cons (.var 0) .nil)))
  (.cons (.for_ (.nm 2) (.rng (.con (.int 8))) f18_b2)
  (.cons (.ret (.con (.bool true)))
  .nil)))⟩
abbrev fs : List Fn := [f0, f1, f2, f3, f4, f5, f6, f7, f8, f9, f10, f11, f12, f13, f14, f15, f16, f17, f18]
def top (i : Nat) : Stmt := PySem.Challenge.pw_gonemarks_k44_lines_that_are_none.main.body.getD i (.Pass ⟨0, 0, 0, 0⟩)
abbrev st0 : Stmt := top 11
def d0 : He.DefD := ⟨("is_whole", none), "is_whole", "is_whole", defArgs st0, defBody st0, defScope st0, [], []⟩
abbrev st1 : Stmt := top 12
def d1 : He.DefD := ⟨("is_up_to", none), "is_up_to", "is_up_to", defArgs st1, defBody st1, defScope st1, [], []⟩
abbrev st2 : Stmt := top 13
def d2 : He.DefD := ⟨("is_seat", none), "is_seat", "is_seat", defArgs st2, defBody st2, defScope st2, [], []⟩
abbrev st3 : Stmt := top 18
def d3 : He.DefD := ⟨("is_count", none), "is_count", "is_count", defArgs st3, defBody st3, defScope st3, [], []⟩
abbrev st4 : Stmt := top 19
def d4 : He.DefD := ⟨("is_paper_row", none), "is_paper_row", "is_paper_row", defArgs st4, defBody st4, defScope st4, [], []⟩
abbrev st5 : Stmt := top 23
def d5 : He.DefD := ⟨("read_number", none), "read_number", "read_number", defArgs st5, defBody st5, defScope st5, [], []⟩
abbrev st6 : Stmt := top 24
def d6 : He.DefD := ⟨("read_seat", none), "read_seat", "read_seat", defArgs st6, defBody st6, defScope st6, [], []⟩
abbrev st7 : Stmt := top 26
def d7 : He.DefD := ⟨("read_row_line", none), "read_row_line", "read_row_line", defArgs st7, defBody st7, defScope st7, [], []⟩
abbrev st8 : Stmt := top 27
def d8 : He.DefD := ⟨("read_paper", none), "read_paper", "read_paper", defArgs st8, defBody st8, defScope st8, [], []⟩
abbrev st9 : Stmt := top 29
def d9 : He.DefD := ⟨("_law_feed", none), "_law_feed", "_law_feed", defArgs st9, defBody st9, defScope st9, [], []⟩
abbrev st10 : Stmt := top 30
def d10 : He.DefD := ⟨("_law_next", none), "_law_next", "_law_next", defArgs st10, defBody st10, defScope st10, [], []⟩
abbrev st11 : Stmt := top 31
def d11 : He.DefD := ⟨("_law_line", none), "_law_line", "_law_line", defArgs st11, defBody st11, defScope st11, [], []⟩
abbrev st12 : Stmt := top 32
def d12 : He.DefD := ⟨("_law_bent", none), "_law_bent", "_law_bent", defArgs st12, defBody st12, defScope st12, [], []⟩
abbrev st13 : Stmt := top 33
def d13 : He.DefD := ⟨("_law_number", none), "_law_number", "_law_number", defArgs st13, defBody st13, defScope st13, [], []⟩
abbrev st14 : Stmt := top 34
def d14 : He.DefD := ⟨("_law_seat", none), "_law_seat", "_law_seat", defArgs st14, defBody st14, defScope st14, [], []⟩
abbrev st15 : Stmt := top 35
def d15 : He.DefD := ⟨("_law_row", none), "_law_row", "_law_row", defArgs st15, defBody st15, defScope st15, [], []⟩
abbrev st16 : Stmt := top 36
def d16 : He.DefD := ⟨("_law_read", none), "_law_read", "_law_read", defArgs st16, defBody st16, defScope st16, [], []⟩
abbrev st17 : Stmt := top 37
def d17 : He.DefD := ⟨("_law_told", none), "_law_told", "_law_told", defArgs st17, defBody st17, defScope st17, [], []⟩
abbrev st18 : Stmt := top 38
def d18 : He.DefD := ⟨("law", none), "law", "law", defArgs st18, defBody st18, defScope st18, [], []⟩
abbrev xt0 : Stmt := inClass (top 4) 0
def x0 : He.DefD := ⟨("NoLines", some "__init__"), "__init__", "NoLines.__init__", defArgs xt0, defBody xt0, defScope xt0, [], []⟩
def fn : List He.DefD := [d0, d1, d2, d3, d4, d5, d6, d7, d8, d9, d10, d11, d12, d13, d14, d15, d16, d17, d18, x0]
def bx : FrB := fun K => clB "NoLines" "GoneError" K && xrB "NoLines" "GoneError" true K && xrB "NoLines" "NoBack" false K && xrB "NoLines" "NoBook" false K && xrB "NoLines" "NoDeed" false K && xrB "NoLines" "NoPaper" false K && xrB "NoLines" "NoLines" true K && xrB "NoLines" "ValueError" true K
def fa : List He.Fa := (.glo "is_whole" :: .glo "is_up_to" :: .glo "is_seat" :: .glo "is_count" :: .glo "is_paper_row" :: .glo "read_number" :: .glo "read_seat" :: .glo "read_row_line" :: .glo "read_paper" :: .glo "_law_feed" :: .glo "_law_next" :: .glo "_law_line" :: .glo "_law_bent" :: .glo "_law_number" :: .glo "_law_seat" :: .glo "_law_row" :: .glo "_law_read" :: .glo "_law_told" :: .glo "law" :: .free "isinstance" :: .free "bool" :: .free "int" :: .free "len" :: .free "tuple" :: .free "all" :: .free "str" :: .free "enumerate" :: .free "range" :: .free "sorted" :: .free "list" :: .free "repr" :: [])
def co : List (Str × PyData) := [("MOST_ROOT", (.int 3)), ("MOST_CHILD", (.int 99)), ("MOST_DEEP", (.int 5)), ("WORDS", (.tuple [(.str "has"), (.str "left"), (.str "cut")])), ("MOST_BROUGHT", (.int 99)), ("LONGEST", (.int 5)), ("MOST_FIGURES", (.int 40)), ("FIGURES", (.str "0123456789"))]
def T : Tb := ⟨[("is_whole", 0), ("is_up_to", 1), ("is_seat", 2), ("is_count", 3), ("is_paper_row", 4), ("read_number", 5), ("read_seat", 6), ("read_row_line", 7), ("read_paper", 8), ("_law_feed", 9), ("_law_next", 10), ("_law_line", 11), ("_law_bent", 12), ("_law_number", 13), ("_law_seat", 14), ("_law_row", 15), ("_law_read", 16), ("_law_told", 17), ("law", 18)], co, ["isinstance", "bool", "int", "len", "tuple", "all", "str", "enumerate", "range", "sorted", "list", "repr"], [("NoLines", ["row"])], [("NoLines", "GoneError", true), ("NoLines", "NoBack", false), ("NoLines", "NoBook", false), ("NoLines", "NoDeed", false), ("NoLines", "NoPaper", false), ("NoLines", "NoLines", true), ("NoLines", "ValueError", true)]⟩
theorem sc0 : FnScope f0.N ["thing", "least"] (defScope st0) := ⟨rfl, rfl, rfl, by decide +kernel, rfl, by decide +kernel, by decide +kernel⟩
theorem ck0 : chkSs f0.N T (defScope st0) f0.body (defBody st0) = true := by kernel_rfl
theorem sc1 : FnScope f1.N ["thing", "least", "most"] (defScope st1) := ⟨rfl, rfl, rfl, by decide +kernel, rfl, by decide +kernel, by decide +kernel⟩
theorem ck1 : chkSs f1.N T (defScope st1) f1.body (defBody st1) = true := by kernel_rfl
theorem sc2 : FnScope f2.N ["thing"] (defScope st2) := ⟨rfl, rfl, rfl, by decide +kernel, rfl, by decide +kernel, by decide +kernel⟩
theorem ck2 : chkSs f2.N T (defScope st2) f2.body (defBody st2) = true := by kernel_rfl
theorem sc3 : FnScope f3.N ["thing"] (defScope st3) := ⟨rfl, rfl, rfl, by decide +kernel, rfl, by decide +kernel, by decide +kernel⟩
theorem ck3 : chkSs f3.N T (defScope st3) f3.body (defBody st3) = true := by kernel_rfl
theorem sc4 : FnScope f4.N ["thing"] (defScope st4) := ⟨rfl, rfl, rfl, by decide +kernel, rfl, by decide +kernel, by decide +kernel⟩
theorem ck4 : chkSs f4.N T (defScope st4) f4.body (defBody st4) = true := by kernel_rfl
theorem sc5 : FnScope f5.N ["text"] (defScope st5) := ⟨rfl, rfl, rfl, by decide +kernel, rfl, by decide +kernel, by decide +kernel⟩
theorem ck5 : chkSs f5.N T (defScope st5) f5.body (defBody st5) = true := by kernel_rfl
theorem sc6 : FnScope f6.N ["text"] (defScope st6) := ⟨rfl, rfl, rfl, by decide +kernel, rfl, by decide +kernel, by decide +kernel⟩
theorem ck6 : chkSs f6.N T (defScope st6) f6.body (defBody st6) = true := by kernel_rfl
theorem sc7 : FnScope f7.N ["line"] (defScope st7) := ⟨rfl, rfl, rfl, by decide +kernel, rfl, by decide +kernel, by decide +kernel⟩
theorem ck7 : chkSs f7.N T (defScope st7) f7.body (defBody st7) = true := by kernel_rfl
theorem sc8 : FnScope f8.N ["lines"] (defScope st8) := ⟨rfl, rfl, rfl, by decide +kernel, rfl, by decide +kernel, by decide +kernel⟩
theorem ck8 : chkSs f8.N T (defScope st8) f8.body (defBody st8) = true := by kernel_rfl
theorem sc9 : FnScope f9.N ["_law_script"] (defScope st9) := ⟨rfl, rfl, rfl, by decide +kernel, rfl, by decide +kernel, by decide +kernel⟩
theorem ck9 : chkSs f9.N T (defScope st9) f9.body (defBody st9) = true := by kernel_rfl
theorem sc10 : FnScope f10.N ["_law_feed_here", "_law_many"] (defScope st10) := ⟨rfl, rfl, rfl, by decide +kernel, rfl, by decide +kernel, by decide +kernel⟩
theorem ck10 : chkSs f10.N T (defScope st10) f10.body (defBody st10) = true := by kernel_rfl
theorem sc11 : FnScope f11.N ["_law_feed_here"] (defScope st11) := ⟨rfl, rfl, rfl, by decide +kernel, rfl, by decide +kernel, by decide +kernel⟩
theorem ck11 : chkSs f11.N T (defScope st11) f11.body (defBody st11) = true := by kernel_rfl
theorem sc12 : FnScope f12.N ["_law_feed_here", "_law_line_here"] (defScope st12) := ⟨rfl, rfl, rfl, by decide +kernel, rfl, by decide +kernel, by decide +kernel⟩
theorem ck12 : chkSs f12.N T (defScope st12) f12.body (defBody st12) = true := by kernel_rfl
theorem sc13 : FnScope f13.N ["_law_word"] (defScope st13) := ⟨rfl, rfl, rfl, by decide +kernel, rfl, by decide +kernel, by decide +kernel⟩
theorem ck13 : chkSs f13.N T (defScope st13) f13.body (defBody st13) = true := by kernel_rfl
theorem sc14 : FnScope f14.N ["_law_word"] (defScope st14) := ⟨rfl, rfl, rfl, by decide +kernel, rfl, by decide +kernel, by decide +kernel⟩
theorem ck14 : chkSs f14.N T (defScope st14) f14.body (defBody st14) = true := by kernel_rfl
theorem sc15 : FnScope f15.N ["_law_line_here"] (defScope st15) := ⟨rfl, rfl, rfl, by decide +kernel, rfl, by decide +kernel, by decide +kernel⟩
theorem ck15 : chkSs f15.N T (defScope st15) f15.body (defBody st15) = true := by kernel_rfl
theorem sc16 : FnScope f16.N ["_law_lines"] (defScope st16) := ⟨rfl, rfl, rfl, by decide +kernel, rfl, by decide +kernel, by decide +kernel⟩
theorem ck16 : chkSs f16.N T (defScope st16) f16.body (defBody st16) = true := by kernel_rfl
theorem sc17 : FnScope f17.N ["_law_lines"] (defScope st17) := ⟨rfl, rfl, rfl, by decide +kernel, rfl, by decide +kernel, by decide +kernel⟩
theorem ck17 : chkSs f17.N T (defScope st17) f17.body (defBody st17) = true := by kernel_rfl
theorem sc18 : FnScope f18.N ["_law_script"] (defScope st18) := ⟨rfl, rfl, rfl, by decide +kernel, rfl, by decide +kernel, by decide +kernel⟩
theorem ck18 : chkSs f18.N T (defScope st18) f18.body (defBody st18) = true := by kernel_rfl
section
variable {K : PySem.W.Frag} {h : Heap} {mg : Str → Option Value}
theorem ok0 (X : K.In h) (G : h.Ns mainGlobals mg) (c : He.SaysD fa fn K) : DefOk K mg T "is_whole" f0 := by
  obtain ⟨fd, F⟩ := c.def_ 0 (d := d0) rfl
  exact defOk_of (ps := ["thing", "least"]) F sc0 rfl ck0 (He.glo_ok X G (c.fact 0 (f := .glo "is_whole") rfl)) (fun _ _ _ _ _ _ us hl => match us, hl with | [_, _], _ => rfl)
theorem ok1 (X : K.In h) (G : h.Ns mainGlobals mg) (c : He.SaysD fa fn K) : DefOk K mg T "is_up_to" f1 := by
  obtain ⟨fd, F⟩ := c.def_ 1 (d := d1) rfl
  exact defOk_of (ps := ["thing", "least", "most"]) F sc1 rfl ck1 (He.glo_ok X G (c.fact 1 (f := .glo "is_up_to") rfl)) (fun _ _ _ _ _ _ us hl => match us, hl with | [_, _, _], _ => rfl)
theorem ok2 (X : K.In h) (G : h.Ns mainGlobals mg) (c : He.SaysD fa fn K) : DefOk K mg T "is_seat" f2 := by
  obtain ⟨fd, F⟩ := c.def_ 2 (d := d2) rfl
  exact defOk_of (ps := ["thing"]) F sc2 rfl ck2 (He.glo_ok X G (c.fact 2 (f := .glo "is_seat") rfl)) (fun _ _ _ _ _ _ us hl => match us, hl with | [_], _ => rfl)
theorem ok3 (X : K.In h) (G : h.Ns mainGlobals mg) (c : He.SaysD fa fn K) : DefOk K mg T "is_count" f3 := by
  obtain ⟨fd, F⟩ := c.def_ 3 (d := d3) rfl
  exact defOk_of (ps := ["thing"]) F sc3 rfl ck3 (He.glo_ok X G (c.fact 3 (f := .glo "is_count") rfl)) (fun _ _ _ _ _ _ us hl => match us, hl with | [_], _ => rfl)
theorem ok4 (X : K.In h) (G : h.Ns mainGlobals mg) (c : He.SaysD fa fn K) : DefOk K mg T "is_paper_row" f4 := by
  obtain ⟨fd, F⟩ := c.def_ 4 (d := d4) rfl
  exact defOk_of (ps := ["thing"]) F sc4 rfl ck4 (He.glo_ok X G (c.fact 4 (f := .glo "is_paper_row") rfl)) (fun _ _ _ _ _ _ us hl => match us, hl with | [_], _ => rfl)
theorem ok5 (X : K.In h) (G : h.Ns mainGlobals mg) (c : He.SaysD fa fn K) : DefOk K mg T "read_number" f5 := by
  obtain ⟨fd, F⟩ := c.def_ 5 (d := d5) rfl
  exact defOk_of (ps := ["text"]) F sc5 rfl ck5 (He.glo_ok X G (c.fact 5 (f := .glo "read_number") rfl)) (fun _ _ _ _ _ _ us hl => match us, hl with | [_], _ => rfl)
theorem ok6 (X : K.In h) (G : h.Ns mainGlobals mg) (c : He.SaysD fa fn K) : DefOk K mg T "read_seat" f6 := by
  obtain ⟨fd, F⟩ := c.def_ 6 (d := d6) rfl
  exact defOk_of (ps := ["text"]) F sc6 rfl ck6 (He.glo_ok X G (c.fact 6 (f := .glo "read_seat") rfl)) (fun _ _ _ _ _ _ us hl => match us, hl with | [_], _ => rfl)
theorem ok7 (X : K.In h) (G : h.Ns mainGlobals mg) (c : He.SaysD fa fn K) : DefOk K mg T "read_row_line" f7 := by
  obtain ⟨fd, F⟩ := c.def_ 7 (d := d7) rfl
  exact defOk_of (ps := ["line"]) F sc7 rfl ck7 (He.glo_ok X G (c.fact 7 (f := .glo "read_row_line") rfl)) (fun _ _ _ _ _ _ us hl => match us, hl with | [_], _ => rfl)
theorem ok8 (X : K.In h) (G : h.Ns mainGlobals mg) (c : He.SaysD fa fn K) : DefOk K mg T "read_paper" f8 := by
  obtain ⟨fd, F⟩ := c.def_ 8 (d := d8) rfl
  exact defOk_of (ps := ["lines"]) F sc8 rfl ck8 (He.glo_ok X G (c.fact 8 (f := .glo "read_paper") rfl)) (fun _ _ _ _ _ _ us hl => match us, hl with | [_], _ => rfl)
theorem ok9 (X : K.In h) (G : h.Ns mainGlobals mg) (c : He.SaysD fa fn K) : DefOk K mg T "_law_feed" f9 := by
  obtain ⟨fd, F⟩ := c.def_ 9 (d := d9) rfl
  exact defOk_of (ps := ["_law_script"]) F sc9 rfl ck9 (He.glo_ok X G (c.fact 9 (f := .glo "_law_feed") rfl)) (fun _ _ _ _ _ _ us hl => match us, hl with | [_], _ => rfl)
theorem ok10 (X : K.In h) (G : h.Ns mainGlobals mg) (c : He.SaysD fa fn K) : DefOk K mg T "_law_next" f10 := by
  obtain ⟨fd, F⟩ := c.def_ 10 (d := d10) rfl
  exact defOk_of (ps := ["_law_feed_here", "_law_many"]) F sc10 rfl ck10 (He.glo_ok X G (c.fact 10 (f := .glo "_law_next") rfl)) (fun _ _ _ _ _ _ us hl => match us, hl with | [_, _], _ => rfl)
theorem ok11 (X : K.In h) (G : h.Ns mainGlobals mg) (c : He.SaysD fa fn K) : DefOk K mg T "_law_line" f11 := by
  obtain ⟨fd, F⟩ := c.def_ 11 (d := d11) rfl
  exact defOk_of (ps := ["_law_feed_here"]) F sc11 rfl ck11 (He.glo_ok X G (c.fact 11 (f := .glo "_law_line") rfl)) (fun _ _ _ _ _ _ us hl => match us, hl with | [_], _ => rfl)
theorem ok12 (X : K.In h) (G : h.Ns mainGlobals mg) (c : He.SaysD fa fn K) : DefOk K mg T "_law_bent" f12 := by
  obtain ⟨fd, F⟩ := c.def_ 12 (d := d12) rfl
  exact defOk_of (ps := ["_law_feed_here", "_law_line_here"]) F sc12 rfl ck12 (He.glo_ok X G (c.fact 12 (f := .glo "_law_bent") rfl)) (fun _ _ _ _ _ _ us hl => match us, hl with | [_, _], _ => rfl)
theorem ok13 (X : K.In h) (G : h.Ns mainGlobals mg) (c : He.SaysD fa fn K) : DefOk K mg T "_law_number" f13 := by
  obtain ⟨fd, F⟩ := c.def_ 13 (d := d13) rfl
  exact defOk_of (ps := ["_law_word"]) F sc13 rfl ck13 (He.glo_ok X G (c.fact 13 (f := .glo "_law_number") rfl)) (fun _ _ _ _ _ _ us hl => match us, hl with | [_], _ => rfl)
theorem ok14 (X : K.In h) (G : h.Ns mainGlobals mg) (c : He.SaysD fa fn K) : DefOk K mg T "_law_seat" f14 := by
  obtain ⟨fd, F⟩ := c.def_ 14 (d := d14) rfl
  exact defOk_of (ps := ["_law_word"]) F sc14 rfl ck14 (He.glo_ok X G (c.fact 14 (f := .glo "_law_seat") rfl)) (fun _ _ _ _ _ _ us hl => match us, hl with | [_], _ => rfl)
theorem ok15 (X : K.In h) (G : h.Ns mainGlobals mg) (c : He.SaysD fa fn K) : DefOk K mg T "_law_row" f15 := by
  obtain ⟨fd, F⟩ := c.def_ 15 (d := d15) rfl
  exact defOk_of (ps := ["_law_line_here"]) F sc15 rfl ck15 (He.glo_ok X G (c.fact 15 (f := .glo "_law_row") rfl)) (fun _ _ _ _ _ _ us hl => match us, hl with | [_], _ => rfl)
theorem ok16 (X : K.In h) (G : h.Ns mainGlobals mg) (c : He.SaysD fa fn K) : DefOk K mg T "_law_read" f16 := by
  obtain ⟨fd, F⟩ := c.def_ 16 (d := d16) rfl
  exact defOk_of (ps := ["_law_lines"]) F sc16 rfl ck16 (He.glo_ok X G (c.fact 16 (f := .glo "_law_read") rfl)) (fun _ _ _ _ _ _ us hl => match us, hl with | [_], _ => rfl)
theorem ok17 (X : K.In h) (G : h.Ns mainGlobals mg) (c : He.SaysD fa fn K) : DefOk K mg T "_law_told" f17 := by
  obtain ⟨fd, F⟩ := c.def_ 17 (d := d17) rfl
  exact defOk_of (ps := ["_law_lines"]) F sc17 rfl ck17 (He.glo_ok X G (c.fact 17 (f := .glo "_law_told") rfl)) (fun _ _ _ _ _ _ us hl => match us, hl with | [_], _ => rfl)
theorem ok18 (X : K.In h) (G : h.Ns mainGlobals mg) (c : He.SaysD fa fn K) : DefOk K mg T "law" f18 := by
  obtain ⟨fd, F⟩ := c.def_ 18 (d := d18) rfl
  exact defOk_of (ps := ["_law_script"]) F sc18 rfl ck18 (He.glo_ok X G (c.fact 18 (f := .glo "law") rfl)) (fun _ _ _ _ _ _ us hl => match us, hl with | [_], _ => rfl)
theorem modOk (X : K.In h) (G : h.Ns mainGlobals mg) (cc : SaysM fa fn co bx K) : ModOk K mg T fs where
  co := fun n x hx => conB_ok X G (cc.parts.2.1 (n, x) hx)
  ab := fun n hn => by
    rw [show T.ab = (["isinstance", "bool", "int", "len", "tuple", "all", "str", "enumerate", "range", "sorted", "list", "repr"] : List Str) from rfl] at hn
    simp only [List.mem_cons, List.not_mem_nil, or_false] at hn
    rcases hn with rfl | rfl | rfl | rfl | rfl | rfl | rfl | rfl | rfl | rfl | rfl | rfl
    · exact He.free_ok X G (cc.parts.1.fact 19 (f := .free "isinstance") rfl)
    · exact He.free_ok X G (cc.parts.1.fact 20 (f := .free "bool") rfl)
    · exact He.free_ok X G (cc.parts.1.fact 21 (f := .free "int") rfl)
    · exact He.free_ok X G (cc.parts.1.fact 22 (f := .free "len") rfl)
    · exact He.free_ok X G (cc.parts.1.fact 23 (f := .free "tuple") rfl)
    · exact He.free_ok X G (cc.parts.1.fact 24 (f := .free "all") rfl)
    · exact He.free_ok X G (cc.parts.1.fact 25 (f := .free "str") rfl)
    · exact He.free_ok X G (cc.parts.1.fact 26 (f := .free "enumerate") rfl)
    · exact He.free_ok X G (cc.parts.1.fact 27 (f := .free "range") rfl)
    · exact He.free_ok X G (cc.parts.1.fact 28 (f := .free "sorted") rfl)
    · exact He.free_ok X G (cc.parts.1.fact 29 (f := .free "list") rfl)
    · exact He.free_ok X G (cc.parts.1.fact 30 (f := .free "repr") rfl)
  fn := fun n g hn => by
    rw [show T.fn = ([("is_whole", 0), ("is_up_to", 1), ("is_seat", 2), ("is_count", 3), ("is_paper_row", 4), ("read_number", 5), ("read_seat", 6), ("read_row_line", 7), ("read_paper", 8), ("_law_feed", 9), ("_law_next", 10), ("_law_line", 11), ("_law_bent", 12), ("_law_number", 13), ("_law_seat", 14), ("_law_row", 15), ("_law_read", 16), ("_law_told", 17), ("law", 18)] : List (Str × Nat)) from rfl] at hn
    simp only [List.mem_cons, List.not_mem_nil, or_false, Prod.mk.injEq] at hn
    rcases hn with ⟨rfl, rfl⟩ | ⟨rfl, rfl⟩ | ⟨rfl, rfl⟩ | ⟨rfl, rfl⟩ | ⟨rfl, rfl⟩ | ⟨rfl, rfl⟩ | ⟨rfl, rfl⟩ | ⟨rfl, rfl⟩ | ⟨rfl, rfl⟩ | ⟨rfl, rfl⟩ | ⟨rfl, rfl⟩ | ⟨rfl, rfl⟩ | ⟨rfl, rfl⟩ | ⟨rfl, rfl⟩ | ⟨rfl, rfl⟩ | ⟨rfl, rfl⟩ | ⟨rfl, rfl⟩ | ⟨rfl, rfl⟩ | ⟨rfl, rfl⟩
    · exact ⟨f0, rfl, ok0 X G cc.parts.1⟩
    · exact ⟨f1, rfl, ok1 X G cc.parts.1⟩
    · exact ⟨f2, rfl, ok2 X G cc.parts.1⟩
    · exact ⟨f3, rfl, ok3 X G cc.parts.1⟩
    · exact ⟨f4, rfl, ok4 X G cc.parts.1⟩
    · exact ⟨f5, rfl, ok5 X G cc.parts.1⟩
    · exact ⟨f6, rfl, ok6 X G cc.parts.1⟩
    · exact ⟨f7, rfl, ok7 X G cc.parts.1⟩
    · exact ⟨f8, rfl, ok8 X G cc.parts.1⟩
    · exact ⟨f9, rfl, ok9 X G cc.parts.1⟩
    · exact ⟨f10, rfl, ok10 X G cc.parts.1⟩
    · exact ⟨f11, rfl, ok11 X G cc.parts.1⟩
    · exact ⟨f12, rfl, ok12 X G cc.parts.1⟩
    · exact ⟨f13, rfl, ok13 X G cc.parts.1⟩
    · exact ⟨f14, rfl, ok14 X G cc.parts.1⟩
    · exact ⟨f15, rfl, ok15 X G cc.parts.1⟩
    · exact ⟨f16, rfl, ok16 X G cc.parts.1⟩
    · exact ⟨f17, rfl, ok17 X G cc.parts.1⟩
    · exact ⟨f18, rfl, ok18 X G cc.parts.1⟩
  xc := fun c fl h => by
    have B := cc.parts.2.2.2
    unfold bx at B
    simp only [Bool.and_eq_true] at B
    rw [show T.xc = ([("NoLines", ["row"])] : List (Str × List Str)) from rfl] at h
    simp only [List.mem_cons, List.not_mem_nil, or_false, Prod.mk.injEq] at h
    rcases h with ⟨rfl, rfl⟩
    · exact (cc.parts.1.def_ 19 (d := x0) rfl).elim fun fd F => xcK_of (N := ["self", "row"]) (ps := ["self", "row"]) X G B.1.1.1.1.1.1.1 F ⟨rfl, rfl, rfl, by decide +kernel, rfl, by decide +kernel, by decide +kernel⟩ rfl rfl (He.free_ok X G (cc.parts.1.fact 25 (f := .free "str") rfl)) (by kernel_rfl) (by decide +kernel) (fun _ _ _ _ _ _ us hl => match us, hl with | [_, _], _ => rfl)
  xr := fun c D b h => by
    have B := cc.parts.2.2.2
    unfold bx at B
    simp only [Bool.and_eq_true] at B
    rw [show T.xr = ([("NoLines", "GoneError", true), ("NoLines", "NoBack", false), ("NoLines", "NoBook", false), ("NoLines", "NoDeed", false), ("NoLines", "NoPaper", false), ("NoLines", "NoLines", true), ("NoLines", "ValueError", true)] : List (Str × Str × Bool)) from rfl] at h
    simp only [List.mem_cons, List.not_mem_nil, or_false, Prod.mk.injEq] at h
    rcases h with ⟨rfl, rfl, rfl⟩ | ⟨rfl, rfl, rfl⟩ | ⟨rfl, rfl, rfl⟩ | ⟨rfl, rfl, rfl⟩ | ⟨rfl, rfl, rfl⟩ | ⟨rfl, rfl, rfl⟩ | ⟨rfl, rfl, rfl⟩
    · exact xrK_of X G B.1.1.1.1.1.1.2
    · exact xrK_of X G B.1.1.1.1.1.2
    · exact xrK_of X G B.1.1.1.1.2
    · exact xrK_of X G B.1.1.1.2
    · exact xrK_of X G B.1.1.2
    · exact xrK_of X G B.1.2
    · exact xrK_of X G B.2
end
local macro_rules
  | `(tactic| simp_arith only [$ls,*]) => `(tactic| simp -implicitDefEqProofs only [sem_var, varR_d, varR_own, varR_bor, varR_loc, varR_fn, sem_con, sem_glo, rdk1_s, rdk2_s, rd_d, rd_new, rd_bor, rd_lent, rd_loc, dat_lst, py_d, py_new, arg_d, arg_new, arg_bor, arg_lent, arg_loc, arg_fn, argAll_nil, sems_nil, sems_cons, kEs_a, kPut_a, sem_bin, kBin_a, kBin2_a, sem_neg, kNeg_a, negK_i, truR_b, truR_i, truR_l, truR_t, truR_n, sem_nt, kNot_a, kNot2_a, sem_an, sem_oo, kAn_a, kOo_a, anS_t, anS_f, ooS_t, ooS_f, sem_cmp, kCmp_a, kCmp2_a, cmpK_lt, cmpK_le, cmpK_gt, cmpK_ge, sem_chn, kChn_a, kChn2_a, kChn3_a, chS_t, chS_f, sem_ite, kIte_a, kIte2_a, selE_t, selE_f, sem_tup, sem_lst, kTup_a, kLst_a, pyAll_nil, pyAll_cons, sem_idx, kIdx_a, kIdx2_a, idxK_l, idxK_t, sem_slc, kSlc_a, kSlc2_a, kSlc3_a, slK_l, slK_t, slK_s, kPart_n, kPart_i, sem_sset, kSset_a, ssetW_l, sem_rev, kRev_a, revD_l, revD_t, sem_cal, kCal_a, calR_s, sem_fnv, sem_cav, cavR_fn, cavQ_s, argAll_c, sem_bif, kBif_a, bifR_s, sem_mth, kMth_a, kMth2_a, mthR_s, mth_split, idxK_s, rdAll_nil, rdAll_c, bif_len_l, bif_len_t, bif_tup_l, bif_tup_t, bif_lst_l, bif_lst_t, bif_len_s, bif_str_s, bif_repr, sem_isi, kIsi_a, add_ii, sub_ii, mul_ii, mul_si, mul_ti, fdiv_ii, mod_ii, pow_ii, add_tt, add_ll, Ss_nil, Ss_cons, kSs_n, kSs_r, Ss_frz, frzR_nil, frzR_cons, frz1_own, frz1_d, S_set, kSet_pd, kSet_pn, kSet_pl, kSet_pb, kSet_o, kSet_c, S_par, kPar_a, parR_s, S_unp, kUnp_a, unpR_s, setT_2, setT_3, S_exp, kExp_a, S_ret, kRet_d, kRet_n, kRet_l, S_rtv, rtvR_o, rbind_x, S_rse, kRse_1, kRse_2, rseR_t, S_tre, S_tri, S_ite, kIf_a, kIf2_a, selS_t, selS_f, chgR_o, chgR_l, ownR_s, locR_s, appC_l, extC_l, subC_d, subC_l, lstB_k, lstR_o, lstR_l, lstQ_l, mutR_o, mutR_l, S_sub, kSub_a, subM_t, kSub2_a, subR_s, S_app, appM_t, kApp_a, appR_s, S_ext, extM_t, kExt_a, extR_s, sem_dnew, rd_newD, rd_borD, rd_lentD, dat_dct, py_newD, arg_newD, kSet_pD, dctIn_k, dinR_s, getW_k, gwR_s, sem_get1, kGet1_a, kGet1b_a, sem_get2, kGet2_a, kGet2b_a, kGet2c_a, idxK_d, bif_len_d, bif_int, intD_i, intD_b, intD_s, bif_abs, bif_max2, bif_min2, bif_max1, bif_min1, bif_sum, bif_srt_l, bif_srt_d, bif_dct_t, bif_dct_l, stepF_a, setR_s, setT_nm, S_for, kFor_a, F_of, kItF_dl, kItF_dt, kItF_ds, kItF_n, kItF_b, F_enum, kItE_dl, kItE_dt, kItE_n, kItE_b, I_of, kItI_dl, kItI_dt, kItI_ds, kItI_n, kItI_b, kItI_l, I_rng, F_rng, kRng_a, I_rng2, F_rng2, kRg2_a, I_zip, kZp_a, kZp2_a, rdN_d, rdN_n, rdN_b, rdN_l, zipD_l, zipD_t, kRg3_a, sem_lc, kLc_a, kLc2_a, stepC_nm, stepC_tp, setC_s, wipeR_n, wipeR_c, kCs_a, selC_t, selC_f, kElt_d, kElt_n, Cs_nil, Cs_cons, kC1_a, kC2_a, csS_t, csS_f, csS_n, lv_d, lv_n, lv_ex, lv_x, Res.bind_ok, Res.ofO_some, Res.nox_ok, Option.bind_some, Option.map_some, List.getElem?_cons_zero, List.getElem?_cons_succ, List.set_cons_zero, List.set_cons_succ, $ls,*])
local macro_rules
  | `(tactic| simp_arith! only [$ls,*]) => `(tactic| simp -implicitDefEqProofs only [sem_var, varR_d, varR_own, varR_bor, varR_loc, varR_fn, sem_con, sem_glo, rdk1_s, rdk2_s, rd_d, rd_new, rd_bor, rd_lent, rd_loc, dat_lst, py_d, py_new, arg_d, arg_new, arg_bor, arg_lent, arg_loc, arg_fn, argAll_nil, sems_nil, sems_cons, kEs_a, kPut_a, sem_bin, kBin_a, kBin2_a, sem_neg, kNeg_a, negK_i, truR_b, truR_i, truR_l, truR_t, truR_n, sem_nt, kNot_a, kNot2_a, sem_an, sem_oo, kAn_a, kOo_a, anS_t, anS_f, ooS_t, ooS_f, sem_cmp, kCmp_a, kCmp2_a, cmpK_lt, cmpK_le, cmpK_gt, cmpK_ge, sem_chn, kChn_a, kChn2_a, kChn3_a, chS_t, chS_f, sem_ite, kIte_a, kIte2_a, selE_t, selE_f, sem_tup, sem_lst, kTup_a, kLst_a, pyAll_nil, pyAll_cons, sem_idx, kIdx_a, kIdx2_a, idxK_l, idxK_t, sem_slc, kSlc_a, kSlc2_a, kSlc3_a, slK_l, slK_t, slK_s, kPart_n, kPart_i, sem_sset, kSset_a, ssetW_l, sem_rev, kRev_a, revD_l, revD_t, sem_cal, kCal_a, calR_s, sem_fnv, sem_cav, cavR_fn, cavQ_s, argAll_c, sem_bif, kBif_a, bifR_s, sem_mth, kMth_a, kMth2_a, mthR_s, mth_split, idxK_s, rdAll_nil, rdAll_c, bif_len_l, bif_len_t, bif_tup_l, bif_tup_t, bif_lst_l, bif_lst_t, bif_len_s, bif_str_s, bif_repr, sem_isi, kIsi_a, add_ii, sub_ii, mul_ii, mul_si, mul_ti, fdiv_ii, mod_ii, pow_ii, add_tt, add_ll, Ss_nil, Ss_cons, kSs_n, kSs_r, Ss_frz, frzR_nil, frzR_cons, frz1_own, frz1_d, S_set, kSet_pd, kSet_pn, kSet_pl, kSet_pb, kSet_o, kSet_c, S_par, kPar_a, parR_s, S_unp, kUnp_a, unpR_s, setT_2, setT_3, S_exp, kExp_a, S_ret, kRet_d, kRet_n, kRet_l, S_rtv, rtvR_o, rbind_x, S_rse, kRse_1, kRse_2, rseR_t, S_tre, S_tri, S_ite, kIf_a, kIf2_a, selS_t, selS_f, chgR_o, chgR_l, ownR_s, locR_s, appC_l, extC_l, subC_d, subC_l, lstB_k, lstR_o, lstR_l, lstQ_l, mutR_o, mutR_l, S_sub, kSub_a, subM_t, kSub2_a, subR_s, S_app, appM_t, kApp_a, appR_s, S_ext, extM_t, kExt_a, extR_s, sem_dnew, rd_newD, rd_borD, rd_lentD, dat_dct, py_newD, arg_newD, kSet_pD, dctIn_k, dinR_s, getW_k, gwR_s, sem_get1, kGet1_a, kGet1b_a, sem_get2, kGet2_a, kGet2b_a, kGet2c_a, idxK_d, bif_len_d, bif_int, intD_i, intD_b, intD_s, bif_abs, bif_max2, bif_min2, bif_max1, bif_min1, bif_sum, bif_srt_l, bif_srt_d, bif_dct_t, bif_dct_l, stepF_a, setR_s, setT_nm, S_for, kFor_a, F_of, kItF_dl, kItF_dt, kItF_ds, kItF_n, kItF_b, F_enum, kItE_dl, kItE_dt, kItE_n, kItE_b, I_of, kItI_dl, kItI_dt, kItI_ds, kItI_n, kItI_b, kItI_l, I_rng, F_rng, kRng_a, I_rng2, F_rng2, kRg2_a, I_zip, kZp_a, kZp2_a, rdN_d, rdN_n, rdN_b, rdN_l, zipD_l, zipD_t, kRg3_a, sem_lc, kLc_a, kLc2_a, stepC_nm, stepC_tp, setC_s, wipeR_n, wipeR_c, kCs_a, selC_t, selC_f, kElt_d, kElt_n, Cs_nil, Cs_cons, kC1_a, kC2_a, csS_t, csS_f, csS_n, lv_d, lv_n, lv_ex, lv_x, Res.bind_ok, Res.ofO_some, Res.nox_ok, Option.bind_some, Option.map_some, List.getElem?_cons_zero, List.getElem?_cons_succ, List.set_cons_zero, List.set_cons_succ, isi_tt, isi_ti, isi_tb, isi_tn, isi_ts, isi_tl, isi_it, isi_ii, isi_ib, isi_in, isi_is, isi_il, isi_bt, isi_bi, isi_bb, isi_bn, isi_bs, isi_bl, isi_st, isi_si, isi_sb, isi_sn, isi_ss, isi_sl, decide_true, decide_false, Bool.false_eq_true, if_false, Bool.not_true, Bool.not_false, Bool.true_and, Bool.false_and, Bool.and_true, Bool.and_false, Bool.true_or, Bool.false_or, Bool.or_true, Bool.or_false, cmp_eq, cmp_ne, cmp_in, cmp_notin, cmp_is, eqD_ii, eqD_ss, toB_s, Option.map_some, tupK, lstK, pyAll_nil, k0, k1, k2, k3, k4, k5, k6, k7, k8, k9, k10, k11, if_true, List.take_length, atI_0, atI_1, atI_2, atI_3, List.nil_append, List.cons_append, $ls,*])
/-! ### numbers, seats as texts -/
open NumText (AllDigits digitsVal)
def negB (x : Str) : Bool := decide (cutS x none (some 1) = "-")
def figs (x : Str) : Str := if negB x = true then cutS x (some 1) none else x
def goodB (x : Str) : Bool := decide (1 ≤ (figs x).length) && (decide ((figs x).length ≤ 40) && digB (.str (figs x)))
def valI (x : Str) : Int := if negB x = true then -((digitsVal (cps (figs x)) : Nat) : Int) else ((digitsVal (cps (figs x)) : Nat) : Int)
def numB (x : Str) : PyData := if goodB x = true then (if Str.ofString (toString (valI x)) = x then .int (valI x) else .none) else .none
theorem neg_cps {x : Str} : negB x = true ↔ ∃ r, cps x = 45 :: r := by
  unfold negB
  rw [decide_eq_true_iff, str_ext]
  have e := cps_cut_to x 1
  rw [show (some ((1 : Nat) : Int)) = some 1 from rfl] at e
  have e2 : cps ("-" : Str) = [45] := by decide
  rw [e, e2]
  cases cps x with
  | nil => simp
  | cons c r => simp
theorem figs_neg {x : Str} {r : List Nat} (h : cps x = 45 :: r) : cps (figs x) = r := by
  unfold figs
  rw [if_pos (neg_cps.mpr ⟨r, h⟩)]
  have e := cps_cut_from x 1
  rw [show (some ((1 : Nat) : Int)) = some 1 from rfl] at e
  rw [e, h]
  rfl
theorem figs_pos {x : Str} (h : negB x = false) : figs x = x := by
  unfold figs
  rw [if_neg (by rw [h]; exact Bool.false_ne_true)]
theorem good_of {x : Str} (h : goodB x = true) : AllDigits (cps (figs x)) ∧ cps (figs x) ≠ [] ∧ (cps (figs x)).length ≤ 40 ∧ x.length ≤ 41 := by
  unfold goodB at h
  simp only [Bool.and_eq_true, decide_eq_true_eq] at h
  obtain ⟨h1, h2, h3⟩ := h
  rw [← cps_len] at h1 h2
  refine ⟨digB_iff.mp h3, fun e => ?_, h2, ?_⟩
  · rw [e] at h1; exact absurd h1 (by decide)
  · rw [← cps_len]
    cases hn : negB x with
    | true =>
      obtain ⟨r, hr⟩ := neg_cps.mp hn
      rw [figs_neg hr] at h2
      rw [hr, List.length_cons]
      omega
    | false => rw [figs_pos hn] at h2; omega
theorem int_good {x : Str} (h : goodB x = true) : bifD .int [.str x] = some (.d (.int (valI x))) := by
  obtain ⟨h1, h2, h3, h4⟩ := good_of h
  rw [bif_int, intD_s, if_pos (by omega)]
  unfold valI
  cases hn : negB x with
  | true =>
    obtain ⟨r, hr⟩ := neg_cps.mp hn
    rw [figs_neg hr] at h1 h2 ⊢
    rw [intText_neg hr h1 h2 (by omega), if_pos rfl]
    rfl
  | false =>
    rw [figs_pos hn] at h1 h2 ⊢
    rw [intText_digits h1 h2 (by omega), if_neg Bool.false_ne_true]
    rfl
theorem val_small {x : Str} (h : goodB x = true) : (valI x).natAbs ≤ 10 ^ 40 := by
  obtain ⟨h1, h2, h3, h4⟩ := good_of h
  have := digits_lt h1 h3
  unfold valI
  split <;> omega
theorem one_len : (("-" : String) : Str).length = 1 := rfl
def Tx (x : Str) : Prop := PyData.strOk x = true ∧ x.length ≤ 100000
theorem Tx.line {x : Str} (h : Tx x) : (x.length ≤ lineN) = True := n_le (by have := h.2; omega)
theorem Tx.cut {x : Str} (h : Tx x) (lo hi : Option Int) : Tx (cutS x lo hi) := ⟨cutS_ok h.1 lo hi, Nat.le_trans (cutS_len x lo hi) h.2⟩
theorem tx_figs {x : Str} (h : Tx x) : Tx (figs x) := by
  unfold figs
  split
  · exact h.cut _ _
  · exact h
theorem sgs_th {s : Str} (h : PyData.strOk s = true) : ∀ x ∈ sgs s, Th x := by
  intro x hx
  obtain ⟨c, hc, rfl⟩ := List.mem_map.mp hx
  unfold PyData.strOk at h
  rw [Array.all_eq_true'] at h
  have h1 := h c (by simpa using hc)
  refine ⟨?_, by simp [PyData.depth]⟩
  simp only [PyData.canLay0]
  unfold PyData.strOk
  rw [Array.all_eq_true']
  intro y hy
  have hy : y = c := by simpa using hy
  rw [hy]
  exact h1
theorem sgs_len (s : Str) : (sgs s).length = s.length := by
  unfold sgs
  rw [List.length_map]
  rfl
theorem read_ok {Φ : Phi} {x : Str} {st : Stt} (h : Tx x) : leaveW st.length (semSs Φ f5.body [some (.d (.str x)), none, none, none] st) = .ok (.d (numB x)) st := by
  have rest : ∀ F, figs x = F → leaveW st.length (semSs Φ (match f5.body with | .cons _ r => r | r => r) [some (.d (.str x)), some (.d (.str F)), none, none] st) = .ok (.d (numB x)) st := by
    intro F hF
    have hFT : Tx F := hF ▸ tx_figs h
    have hc : compL (stepC Φ (.cmp .isin (.var 2) (.glo "FIGURES" (.str "0123456789"))) (.nm 2) .nil [2] [some (.d (.str x)), some (.d (.str F)), none, none]) (F.cps.toList.map fun c => .str ⟨#[c]⟩) st = .ok ((sgs F).map fun z => .bool (digB z)) st := by
      show compL _ (sgs F) st = _
      refine comp_map _ fun z hz => ?_
      simp_arith only [cmp_in, sgs_dig hz, toB_s]
    have hk : (((sgs F).map fun z => PyData.bool (digB z)).length ≤ lineN) = True := n_le (by rw [List.length_map, sgs_len]; have := hFT.2; omega)
    have ha := all_map digB (sgs F)
    rw [all_dig] at ha
    have g : goodB x = (decide (1 ≤ F.length) && (decide (F.length ≤ 40) && digB (.str F))) := by unfold goodB; rw [hF]
    have d1 : decide ((1 : Int) ≤ ((F.length : Nat) : Int)) = decide (1 ≤ F.length) := decide_eq_decide.mpr (by omega)
    have d2 : decide (((F.length : Nat) : Int) ≤ 40) = decide (F.length ≤ 40) := decide_eq_decide.mpr (by omega)
    cases hg : goodB x with
    | false =>
      have hn : numB x = .none := by unfold numB; rw [hg]; rfl
      rw [hg] at g
      cases e1 : decide (1 ≤ F.length) with
      | false => simp_arith! only [f5, hFT.line, bif_len_s, d1, e1, hn]
      | true =>
        cases e2 : decide (F.length ≤ 40) with
        | false => simp_arith! only [f5, hFT.line, bif_len_s, d1, d2, e1, e2, hn]
        | true =>
          rw [e1, e2, Bool.true_and, Bool.true_and] at g
          rw [← g] at ha
          simp_arith! only [f5, hFT.line, bif_len_s, d1, d2, e1, e2, hc, hk, ha, hn]
    | true =>
      have hn : numB x = if Str.ofString (toString (valI x)) = x then .int (valI x) else .none := by unfold numB; rw [hg]; rfl
      rw [hg] at g
      have g := g.symm
      rw [Bool.and_eq_true, Bool.and_eq_true] at g
      obtain ⟨e1, e2, e3⟩ := g
      rw [e3] at ha
      have ei := int_good hg
      have es := bif_str_i (small_b (i := valI x) (Nat.le_trans (val_small hg) (Nat.pow_le_pow_right (by decide) (by decide))))
      by_cases ht : Str.ofString (toString (valI x)) = x
      · have dt : decide (Str.ofString (toString (valI x)) = x) = true := decide_eq_true ht
        rw [if_pos ht] at hn
        simp_arith! only [f5, hFT.line, bif_len_s, d1, d2, e1, e2, hc, hk, ha, hn, ei, es, dt]
      · have dt : decide (Str.ofString (toString (valI x)) = x) = false := decide_eq_false ht
        rw [if_neg ht] at hn
        simp_arith! only [f5, hFT.line, bif_len_s, d1, d2, e1, e2, hc, hk, ha, hn, ei, es, dt]
  have eb : f5.body = .cons (match f5.body with | .cons s _ => s | _ => .ret (.var 0)) (match f5.body with | .cons _ r => r | r => r) := rfl
  rw [eb]
  have hd : decide (cutS x none (some 1) = "-") = negB x := rfl
  cases hn : negB x with
  | true =>
    have r := rest (cutS x (some 1) none) (by unfold figs; rw [hn]; rfl)
    generalize hR : (match f5.body with | .cons _ r => r | r => r) = R at r ⊢
    simp_arith! only [f5, slK_s, h.line, hd, hn]
    exact r
  | false =>
    have r := rest x (figs_pos hn)
    generalize hR : (match f5.body with | .cons _ r => r | r => r) = R at r ⊢
    simp_arith! only [f5, slK_s, h.line, hd, hn]
    exact r
theorem bd_num {x : Str} : Bd (10 ^ 40) 1922 0 (numB x) := by
  unfold numB
  split
  · rename_i hg
    split
    · exact bd_int (val_small hg)
    · exact bd_mono bd_none (by decide) (Nat.le_refl _)
  · exact bd_mono bd_none (by decide) (Nat.le_refl _)
def seatOf (x : Str) : PyData := if seatB (.tuple ((Txt.split x ".").map numB)) = true then .tuple ((Txt.split x ".").map numB) else .none
theorem th_nums (ps : List Str) : Th (.tuple (ps.map numB)) := ⟨by
  simp only [PyData.canLay0]
  refine (lay_all _).mpr fun y hy => ?_
  obtain ⟨p, _, rfl⟩ := List.mem_map.mp hy
  exact bdz_lay _ (bd_num (x := p)).1, by
  simp only [PyData.depth]
  have := (dep_all 0 (ps.map numB)).mpr fun y hy => by
    obtain ⟨p, _, rfl⟩ := List.mem_map.mp hy
    exact (bd_num (x := p)).2.2
  omega⟩
theorem Tx.piece {x y p : Str} (h : Tx x) (hp : p ∈ Txt.split x y) : Tx p := ⟨split_ok h.1 hp, Nat.le_trans (split_len hp) h.2⟩
theorem sep_ok (x : Str) (h : Tx x) : (((("." : String) : Str).length == 0) = false ∧ x.length + 2 ≤ lineN) = True := eq_true ⟨by decide, le_line (b := x.length + 2) (Nat.le_refl _) (by have := h.2; omega)⟩
theorem cnt_ok {x : Str} (h : Tx x) (y : Str) : (Txt.split x y).length ≤ lineN := split_cnt y (le_line (b := x.length + 2) (Nat.le_refl _) (by have := h.2; omega))
def NumH (Φ : Phi) : Prop := ∀ (x : Str) (st : Stt), Tx x → Φ 5 [.d (.str x)] st = .ok (.d (numB x)) st
theorem rseat_ok {Φ : Phi} (H : NumH Φ) (HS : OkB Φ 2 seatB) {x : Str} {st : Stt} (h : Tx x) : leaveW st.length (semSs Φ f6.body [some (.d (.str x)), none, none] st) = .ok (.d (seatOf x)) st := by
  have hc : compL (stepC Φ (.cal "read_number" 5 (.cons (.var 2) .nil)) (.nm 2) .nil [2] [some (.d (.str x)), none, none]) ((Txt.split x ".").map PyData.str) st = .ok (((Txt.split x ".").map PyData.str).map fun y => match y with | .str p => numB p | _ => .none) st := by
    refine comp_map _ fun z hz => ?_
    obtain ⟨p, hp, rfl⟩ := List.mem_map.mp hz
    simp_arith only [H p st (h.piece hp)]
  have e1 : (((Txt.split x ".").map PyData.str).map fun y => match y with | .str p => numB p | _ => .none) = (Txt.split x ".").map numB := by rw [List.map_map]; rfl
  rw [e1] at hc
  have hl : (((Txt.split x ".").map numB).length ≤ lineN) = True := eq_true (by rw [List.length_map]; exact cnt_ok h _)
  have es := HS (.tuple ((Txt.split x ".").map numB)) st (th_nums _)
  unfold seatOf
  cases hs : seatB (.tuple ((Txt.split x ".").map numB)) with
  | true => rw [hs] at es; simp_arith! only [f6, mth_split, sep_ok x h, hc, hl, es]
  | false => rw [hs] at es; simp_arith! only [f6, mth_split, sep_ok x h, hc, hl, es]
/-! ### numbers without a sign -/
open NumText (AllDigits digitsVal)
def numN (x : Str) : Option Int := match numB x with
  | .int i => if 0 ≤ i then some i else none
  | _ => none
def oD : Option Int → PyData
  | some i => .int i
  | none => .none
theorem numB_c (x : Str) : numB x = .none ∨ numB x = .int (valI x) ∧ goodB x = true ∧ Str.ofString (toString (valI x)) = x := by
  unfold numB
  split
  · rename_i h
    split
    · rename_i h2
      exact .inr ⟨rfl, h, h2⟩
    · exact .inl rfl
  · exact .inl rfl
theorem numN_no {x : Str} (h : numB x = .none) : numN x = none := by unfold numN; rw [h]
theorem numN_int {x : Str} {i : Int} (h : numB x = .int i) : numN x = if 0 ≤ i then some i else none := by unfold numN; rw [h]
theorem numN_some {x : Str} {i : Int} (h : numN x = some i) : numB x = .int i ∧ 0 ≤ i ∧ i.natAbs ≤ 10 ^ 40 := by
  rcases numB_c x with e | ⟨e, g, _⟩
  · rw [numN_no e] at h; cases h
  · rw [numN_int e] at h
    split at h
    · rename_i h0
      cases h
      exact ⟨e, h0, val_small g⟩
    · cases h
theorem up_num (x : Str) {lo hi : Int} (hl : 0 ≤ lo) : upB (numB x) lo hi = match numN x with | some i => decide (lo ≤ i) && decide (i ≤ hi) | none => false := by
  rcases numB_c x with e | ⟨e, g, _⟩
  · rw [numN_no e, e]; rfl
  · rw [numN_int e, e]
    split
    · rename_i i h
      split at h
      · cases h; rfl
      · cases h
    · rename_i h
      split at h
      · cases h
      · rename_i h0
        show (decide (lo ≤ valI x) && _) = false
        rw [decide_eq_false (by omega)]
        rfl
theorem wh_num (x : Str) : whB (numB x) 0 = (numN x).isSome := by
  rcases numB_c x with e | ⟨e, g, _⟩
  · rw [numN_no e, e]; rfl
  · rw [numN_int e, e]
    show decide (0 ≤ valI x) = _
    split
    · rename_i h; rw [decide_eq_true h]; rfl
    · rename_i h; rw [decide_eq_false h]; rfl
theorem numN_neg {x : Str} (h : negB x = true) : numN x = none := by
  rcases numB_c x with e | ⟨e, g, t⟩
  · exact numN_no e
  · rw [numN_int e]
    split
    · rename_i h0
      exfalso
      have hv : valI x = 0 := by
        unfold valI at h0 ⊢
        rw [if_pos h] at h0 ⊢
        omega
      rw [hv] at t
      obtain ⟨r, hr⟩ := neg_cps.mp h
      have e1 : cps (Str.ofString (toString (0 : Int))) = [48] := by decide
      rw [← t, e1] at hr
      injection hr with hr _
      omega
    · rfl
theorem numN_pos {x : Str} (h : negB x = false) (hg : goodB x = true) : numN x = if (cps x).head? = some 48 ∧ cps x ≠ [48] then none else some (valI x) := by
  have ef := figs_pos h
  obtain ⟨h1, h2, h3, h4⟩ := good_of hg
  rw [ef] at h1 h2
  have ev : valI x = ((digitsVal (cps x) : Nat) : Int) := by unfold valI; rw [if_neg (by rw [h]; exact Bool.false_ne_true), ef]
  have ti := text_is h1 h2
  rw [← ev] at ti
  have hn : numB x = if Str.ofString (toString (valI x)) = x then .int (valI x) else .none := by unfold numB; rw [hg]; rfl
  by_cases c : (cps x).head? = some 48 ∧ cps x ≠ [48]
  · rw [if_pos c]
    have t : ¬ Str.ofString (toString (valI x)) = x := fun t => (ti.mp t).elim (fun z => z c.1) fun z => c.2 z
    exact numN_no (by rw [hn, if_neg t])
  · rw [if_neg c]
    have t : Str.ofString (toString (valI x)) = x := ti.mpr (by
      by_cases z : (cps x).head? = some 48
      · right
        exact Classical.byContradiction fun w => c ⟨z, w⟩
      · exact .inl z)
    rw [if_pos t] at hn
    rw [numN_int hn, if_pos (by rw [ev]; omega)]
theorem numN_bad {x : Str} (h : negB x = false) (hg : goodB x = false) : numN x = none := numN_no (by unfold numB; rw [hg]; rfl)
theorem fig_for {Φ : Phi} {X : Option W} {st : Stt} : ∀ (cs : List Nat) (o : Option W), ((cs.all fun c => decide (48 ≤ c ∧ c ≤ 57)) = true → ∃ o', forL (stepF Φ (.nm 1) f13_b1) (cs.map fun c => .str ⟨#[c]⟩) [X, o] st = .ok (.nx [X, o']) st) ∧
    ((cs.all fun c => decide (48 ≤ c ∧ c ≤ 57)) = false → forL (stepF Φ (.nm 1) f13_b1) (cs.map fun c => .str ⟨#[c]⟩) [X, o] st = .ok (.rt (.d .none)) st)
  | [], o => ⟨fun _ => ⟨o, rfl⟩, fun h => (nomatch h)⟩
  | c :: cs, o => by
    obtain ⟨ih1, ih2⟩ := fig_for (Φ := Φ) (X := X) (st := st) cs (some (.d (.str ⟨#[c]⟩)))
    have ed := in_digits c
    rw [List.all_cons, List.map_cons]
    unfold forL
    cases hc : decide (48 ≤ c ∧ c ≤ 57) with
    | false =>
      rw [hc] at ed
      refine ⟨fun h => (nomatch h), fun _ => ?_⟩
      simp_arith only [f13_b1, cmp_notin, ed, toB_s, Bool.not_false]
    | true =>
      rw [hc] at ed
      have es : stepF Φ (.nm 1) f13_b1 (.str ⟨#[c]⟩) [X, o] st = .ok (.nx [X, some (.d (.str ⟨#[c]⟩))]) st := by
        simp_arith only [f13_b1, cmp_notin, ed, toB_s, Bool.not_true]
      rw [es]
      exact ⟨fun h => ih1 h, fun h => ih2 h⟩
theorem lnum_ok {Φ : Phi} {x : Str} {st : Stt} (h : Tx x) : leaveW st.length (semSs Φ f13.body [some (.d (.str x)), none] st) = .ok (.d (oD (numN x))) st := by
  have e0 : cps ("" : Str) = [] := by decide
  have e48 : cps ("0" : Str) = [48] := by decide
  have hx0 : x = "" ↔ cps x = [] := by rw [str_ext, e0]
  have hxz : x = "0" ↔ cps x = [48] := by rw [str_ext, e48]
  have hlen := cps_len x
  obtain ⟨f1, f2⟩ := fig_for (Φ := Φ) (X := some (.d (.str x))) (st := st) (cps x) none
  have hgood : negB x = false → goodB x = (decide (1 ≤ x.length) && (decide (x.length ≤ 40) && digB (.str x))) := fun hn => by unfold goodB; rw [figs_pos hn]
  cases hc : cps x with
  | nil =>
    have e1 : decide (x = "") = true := decide_eq_true (hx0.mpr hc)
    have hn : negB x = false := by
      rw [Bool.eq_false_iff]
      intro z
      obtain ⟨r, hr⟩ := neg_cps.mp z
      rw [hc] at hr
      cases hr
    have en : numN x = none := numN_bad hn (by rw [hgood hn, decide_eq_false (by rw [← hlen, hc]; decide)]; rfl)
    simp_arith! only [f13, e1, en, oD]
  | cons c r =>
    have e1 : decide (x = "") = false := decide_eq_false (fun z => by rw [hx0, hc] at z; cases z)
    by_cases h40 : x.length ≤ 40
    · have e2 : decide ((40 : Int) < ((x.length : Nat) : Int)) = false := decide_eq_false (by omega)
      have ea : atI x.cps.toList 0 = some c := by show atI (cps x) 0 = _; rw [hc]; exact atI_0 c r
      have dc : decide ((⟨#[c]⟩ : Str) = "0") = decide (c = 48) := decide_eq_decide.mpr (by
        rw [str_ext, e48]
        constructor
        · intro h; injection h
        · intro h; rw [h])
      by_cases hz : c = 48 ∧ x ≠ "0"
      · have e3 : decide (c = 48) = true := decide_eq_true hz.1
        have e4 : decide (x = "0") = false := decide_eq_false hz.2
        have en : numN x = none := by
          cases hn : negB x with
          | true => exact numN_neg hn
          | false =>
            cases hg : goodB x with
            | false => exact numN_bad hn hg
            | true => rw [numN_pos hn hg, if_pos ⟨by rw [hc, List.head?_cons, hz.1], fun z => hz.2 (hxz.mpr z)⟩]
        simp_arith! only [f13, h.line, e1, e2, e3, e4, ea, idxK_s, dc, bif_len_s, en, oD]
      · have go : ∀ {y : PyData}, (leaveW st.length ((forL (stepF Φ (.nm 1) f13_b1) ((cps x).map fun c => .str ⟨#[c]⟩) [some (.d (.str x)), none] st).bind (kSs Φ (.cons (.ret (.bif .int (.cons (.var 0) .nil))) .nil))) = .ok (.d y) st) → leaveW st.length (semSs Φ f13.body [some (.d (.str x)), none] st) = .ok (.d y) st := fun {y} q => by
          by_cases h48 : c = 48
          · have e3 : decide (c = 48) = true := decide_eq_true h48
            have e4 : decide (x = "0") = true := decide_eq_true (Classical.byContradiction fun w => hz ⟨h48, w⟩)
            simp_arith! only [f13, h.line, e1, e2, e3, e4, ea, idxK_s, dc, bif_len_s]
            exact q
          · have e3 : decide (c = 48) = false := decide_eq_false h48
            simp_arith! only [f13, h.line, e1, e2, e3, ea, idxK_s, dc, bif_len_s]
            exact q
        refine go ?_
        cases hd : (cps x).all fun c => decide (48 ≤ c ∧ c ≤ 57) with
        | false =>
          have en : numN x = none := by
            cases hn : negB x with
            | true => exact numN_neg hn
            | false =>
              refine numN_bad hn ?_
              rw [hgood hn, show digB (.str x) = false from hd, Bool.and_false, Bool.and_false]
          rw [f2 hd, en]
          simp_arith only [oD, List.take_length]
        | true =>
          have hn : negB x = false := by
            rw [Bool.eq_false_iff]
            intro z
            obtain ⟨r', hr⟩ := neg_cps.mp z
            rw [hr, List.all_cons] at hd
            cases hd
          have hg : goodB x = true := by rw [hgood hn, decide_eq_true (by rw [← hlen, hc, List.length_cons]; omega), decide_eq_true h40, show digB (.str x) = true from hd]; rfl
          have en : numN x = some (valI x) := by rw [numN_pos hn hg, if_neg fun ⟨z1, z2⟩ => hz ⟨by rw [hc, List.head?_cons] at z1; exact Option.some.inj z1, fun w => z2 (hxz.mp w)⟩]
          have ei := int_good hg
          obtain ⟨o', eo⟩ := f1 hd
          rw [eo, en]
          simp_arith only [oD, ei, List.take_length]
    · have e2 : decide ((40 : Int) < ((x.length : Nat) : Int)) = true := decide_eq_true (by omega)
      have en : numN x = none := by
        cases hn : negB x with
        | true => exact numN_neg hn
        | false => exact numN_bad hn (by rw [hgood hn, decide_eq_false h40, Bool.false_and, Bool.and_false])
      simp_arith! only [f13, h.line, e1, e2, bif_len_s, en, oD]

/-! ### seats without a sign -/
def numsT : List Str → Option (List Int)
  | [] => some []
  | p :: ps => match numN p with
    | some i => (numsT ps).map (i :: ·)
    | none => none
def inS (is : List Int) : Bool := match is with
  | [] => false
  | i :: r => decide (r.length < 5) && (decide (i ≤ 3) && r.all fun j => decide (1 ≤ j) && decide (j ≤ 99))
def seatT (x : Str) : Option (List Int) := match numsT (Txt.split x ".") with
  | some is => if inS is then some is else none
  | none => none
theorem numsT_len : ∀ {ps : List Str} {is : List Int}, numsT ps = some is → is.length = ps.length ∧ ps.map numB = is.map PyData.int ∧ (∀ i ∈ is, 0 ≤ i) ∧ ps.map numN = is.map some
  | [], is, h => by cases h; exact ⟨rfl, rfl, fun _ h => (nomatch h), rfl⟩
  | p :: ps, is, h => by
    unfold numsT at h
    split at h
    · rename_i i hi
      obtain ⟨js, hj, rfl⟩ := Option.map_eq_some_iff.mp h
      obtain ⟨h1, h2, h3, h4⟩ := numsT_len hj
      obtain ⟨k1, k2, _⟩ := numN_some hi
      refine ⟨by rw [List.length_cons, List.length_cons, h1], by rw [List.map_cons, List.map_cons, k1, h2], fun j hj => ?_, by rw [List.map_cons, List.map_cons, hi, h4]⟩
      rcases List.mem_cons.mp hj with rfl | hj
      · exact k2
      · exact h3 j hj
    · cases h
theorem numsT_no : ∀ {ps : List Str}, numsT ps = none → ∃ p ∈ ps, numN p = none
  | [], h => by cases h
  | p :: ps, h => by
    unfold numsT at h
    split at h
    · obtain ⟨q, h1, h2⟩ := numsT_no (Option.map_eq_none_iff.mp h)
      exact ⟨q, List.mem_cons_of_mem _ h1, h2⟩
    · rename_i e
      exact ⟨p, List.mem_cons_self, e⟩
theorem all_up {ps : List Str} {is : List Int} (h : numsT ps = some is) : ((ps.map numB).all fun z => upB z 1 99) = is.all fun j => decide (1 ≤ j) && decide (j ≤ 99) := by
  rw [(numsT_len h).2.1, List.all_map]
  rfl
theorem seatB_T (ps : List Str) : seatB (.tuple (ps.map numB)) = match numsT ps with | some is => inS is | none => false := by
  cases ps with
  | nil => rfl
  | cons p ps =>
    show (decide ((ps.map numB).length < 5) && (upB (numB p) 0 3 && (ps.map numB).all fun z => upB z 1 99)) = _
    rw [up_num p (Int.le_refl 0), List.length_map]
    unfold numsT
    cases hp : numN p with
    | none => simp
    | some i =>
      have h0 := (numN_some hp).2.1
      cases hq : numsT ps with
      | some is =>
        rw [all_up hq]
        show (decide (ps.length < 5) && ((decide (0 ≤ i) && decide (i ≤ 3)) && _)) = (decide (is.length < 5) && (decide (i ≤ 3) && _))
        rw [(numsT_len hq).1, decide_eq_true h0, Bool.true_and]
      | none =>
        obtain ⟨q, q1, q2⟩ := numsT_no hq
        have : ((ps.map numB).all fun z => upB z 1 99) = false := by
          rw [List.all_eq_false]
          refine ⟨numB q, List.mem_map.mpr ⟨q, q1, rfl⟩, ?_⟩
          rw [up_num q (by decide), q2]
          decide
        rw [this]
        simp
def oS : Option (List Int) → PyData
  | some s => tuI s
  | none => .none
theorem seatOf_T (x : Str) : seatOf x = oS (seatT x) := by
  unfold seatOf seatT
  rw [seatB_T]
  cases h : numsT (Txt.split x ".") with
  | none => rfl
  | some is =>
    show (if inS is = true then _ else _) = oS (if inS is = true then _ else _)
    split
    · rw [(numsT_len h).2.1]; rfl
    · rfl
theorem seatT_ok {x : Str} {s : List Int} (h : seatT x = some s) : seatB (tuI s) = true ∧ 0 < s.length ∧ s.length ≤ 5 ∧ ∀ i ∈ s, 0 ≤ i ∧ i ≤ 99 := by
  have e := seatOf_T x
  unfold seatT at h
  split at h
  · rename_i is hi
    split at h
    · rename_i hs
      cases h
      have hh := numsT_len hi
      have hb := seatB_T (Txt.split x ".")
      rw [hi, hh.2.1] at hb
      have hb : seatB (tuI s) = inS s := hb
      refine ⟨by rw [hb]; exact hs, ?_⟩
      cases s with
      | nil => cases hs
      | cons i r =>
        unfold inS at hs
        simp only [Bool.and_eq_true, decide_eq_true_eq, List.all_eq_true] at hs
        obtain ⟨h1, h2, h3⟩ := hs
        refine ⟨by rw [List.length_cons]; omega, by rw [List.length_cons]; omega, fun j hj => ?_⟩
        have h0 := hh.2.2.1 j hj
        rcases List.mem_cons.mp hj with rfl | hj
        · exact ⟨h0, by omega⟩
        · exact ⟨h0, (h3 j hj).2⟩
    · cases h
  · cases h
theorem eqD_no (o : Option Int) : eqD .none (oD o) = some o.isNone := by cases o <;> rfl
theorem in_no (L : List (Option Int)) (h : ∀ o ∈ L, Th (oD o)) : inD .none (.list (L.map oD)) = some (L.any (·.isNone)) := by
  show (if SeqAt.shaped PyData.none && SeqAt.shaped (.list (L.map oD)) then some ((L.map oD).any fun z => PyData.eqv z .none) else none) = _
  rw [shp_th (x := .none) ⟨rfl, by decide⟩, shp_l (fun x hx => by
    obtain ⟨a, ha, rfl⟩ := List.mem_map.mp hx
    exact h a ha), Bool.and_true, if_pos rfl, List.any_map]
  congr 2
  funext o
  cases o <;> rfl
theorem split_ne (x y : Str) : Txt.split x y ≠ [] := fun e => by
  have := PyProof.Rows.split_pos x y
  rw [e] at this
  exact absurd this (by decide)
def LnumH (Φ : Phi) : Prop := ∀ (x : Str) (st : Stt), Tx x → Φ 13 [.d (.str x)] st = .ok (.d (oD (numN x))) st
theorem bd_oD (x : Str) : Bd (10 ^ 40) 1922 0 (oD (numN x)) := by
  cases h : numN x with
  | none => exact bd_mono bd_none (by decide) (Nat.le_refl _)
  | some i => exact bd_int (numN_some h).2.2
theorem lseat_ok {Φ : Phi} (H : LnumH Φ) {x : Str} {st : Stt} (h : Tx x) : leaveW st.length (semSs Φ f14.body [some (.d (.str x)), none, none, none] st) = .ok (.d (oS (seatT x))) st := by
  have hc : compL (stepC Φ (.cal "_law_number" 13 (.cons (.var 2) .nil)) (.nm 2) .nil [2] [some (.d (.str x)), none, none, none]) ((Txt.split x ".").map PyData.str) st = .ok (((Txt.split x ".").map PyData.str).map fun y => match y with | .str p => oD (numN p) | _ => .none) st := by
    refine comp_map _ fun z hz => ?_
    obtain ⟨p, hp, rfl⟩ := List.mem_map.mp hz
    simp_arith only [H p st (h.piece hp)]
  have e1 : (((Txt.split x ".").map PyData.str).map fun y => match y with | .str p => oD (numN p) | _ => .none) = ((Txt.split x ".").map numN).map oD := by rw [List.map_map, List.map_map]; rfl
  rw [e1] at hc
  have hl : ((((Txt.split x ".").map numN).map oD).length ≤ lineN) = True := eq_true (by rw [List.length_map, List.length_map]; exact cnt_ok h _)
  have ein := in_no ((Txt.split x ".").map numN) fun o ho => by
    obtain ⟨p, _, rfl⟩ := List.mem_map.mp ho
    exact (bd_oD p).th (by decide)
  have hne := split_ne x "."
  unfold seatT
  cases hn : numsT (Txt.split x ".") with
  | none =>
    have ea : (((Txt.split x ".").map numN).any (·.isNone)) = true := by
      obtain ⟨p, h1, h2⟩ := numsT_no hn
      rw [List.any_map, List.any_eq_true]
      exact ⟨p, h1, by show (numN p).isNone = true; rw [h2]; rfl⟩
    rw [ea] at ein
    simp_arith! only [f14, mth_split, sep_ok x h, hc, hl, ein, oS]
  | some is =>
    obtain ⟨k1, _, k3, k4⟩ := numsT_len hn
    have ea : (((Txt.split x ".").map numN).any (·.isNone)) = false := by
      rw [k4, List.any_map, List.any_eq_false]
      intro i _
      simp
    rw [ea] at ein
    have el : ((Txt.split x ".").map numN).map oD = is.map PyData.int := by rw [k4, List.map_map]; rfl
    rw [el] at ein hc hl
    cases is with
    | nil =>
      rw [List.length_nil] at k1
      exact absurd (List.length_eq_zero_iff.mp k1.symm) hne
    | cons i r =>
      have hlen : ((((i :: r).map PyData.int).length : Nat) : Int) = ((r.length + 1 : Nat) : Int) := by rw [List.length_map, List.length_cons]
      show _ = Res.ok (W.d (oS (if inS (i :: r) then some (i :: r) else none))) st
      rw [List.map_cons] at ein hc hl hlen
      by_cases h5 : r.length < 5
      · have d5 : decide ((5 : Int) < (((PyData.int i :: r.map PyData.int).length : Nat) : Int)) = false := decide_eq_false (by rw [hlen]; omega)
        by_cases h3 : i ≤ 3
        · have d3 : decide (3 < i) = false := decide_eq_false (by omega)
          have hc2 : compL (stepC Φ (.var 3) (.nm 3) (.cons (.oo (.cmp .lt (.var 3) (.con (.int 1))) (.cmp .gt (.var 3) (.con (.int 99)))) .nil) [3] [some (.d (.str x)), some (.d (.list (.int i :: r.map PyData.int))), none, none]) (r.map PyData.int) st = .ok ((r.map PyData.int).filterMap (gN fun z => upB z 1 99)) st := by
            refine compL_fm fun z hz => ?_
            obtain ⟨j, _, rfl⟩ := List.mem_map.mp hz
            unfold gN
            show _ = Res.ok (if (decide (1 ≤ j) && decide (j ≤ 99)) = true then none else _) st
            by_cases j1 : 1 ≤ j
            · have q1 : decide (j < 1) = false := decide_eq_false (by omega)
              by_cases j2 : j ≤ 99
              · have q2 : decide (99 < j) = false := decide_eq_false (by omega)
                rw [decide_eq_true j1, decide_eq_true j2]
                simp_arith! only [q1, q2]
              · have q2 : decide (99 < j) = true := decide_eq_true (by omega)
                rw [decide_eq_true j1, decide_eq_false j2]
                simp_arith! only [q1, q2]
            · have q1 : decide (j < 1) = true := decide_eq_true (by omega)
              rw [decide_eq_false j1]
              simp_arith! only [q1]
          have hk : (((r.map PyData.int).filterMap (gN fun z => upB z 1 99)).length ≤ lineN) = True := n_le (Nat.le_trans (List.length_filterMap_le _ _) (by rw [List.length_map]; omega))
          have he : eqD (.list ((r.map PyData.int).filterMap (gN fun z => upB z 1 99))) (.list []) = some ((r.map PyData.int).all fun z => upB z 1 99) := by
            rw [eqD_l0 fun z hz => ?_, gN_all]
            have := gN_mem hz
            obtain ⟨j, _, rfl⟩ := List.mem_map.mp this
            exact ⟨rfl, by simp [PyData.depth]⟩
          have e6 : ((r.map PyData.int).all fun z => upB z 1 99) = r.all fun j => decide (1 ≤ j) && decide (j ≤ 99) := by rw [List.all_map]; rfl
          rw [e6] at he
          have ei : inS (i :: r) = r.all fun j => decide (1 ≤ j) && decide (j ≤ 99) := by
            show (decide (r.length < 5) && (decide (i ≤ 3) && _)) = _
            rw [decide_eq_true h5, decide_eq_true h3, Bool.true_and, Bool.true_and]
          rw [ei]
          have et : tuI (i :: r) = .tuple (.int i :: r.map PyData.int) := rfl
          cases hb : (r.all fun j => decide (1 ≤ j) && decide (j ≤ 99)) <;> rw [hb] at he <;> simp_arith! only [f14, mth_split, sep_ok x h, hc, hl, ein, d5, d3, cut1, hc2, hk, he, oS, et]
        · have d3 : decide (3 < i) = true := decide_eq_true (by omega)
          have ei : inS (i :: r) = false := by
            show (decide (r.length < 5) && (decide (i ≤ 3) && _)) = _
            rw [decide_eq_false h3, Bool.false_and, Bool.and_false]
          rw [ei]
          simp_arith! only [f14, mth_split, sep_ok x h, hc, hl, ein, d5, d3, oS]
      · have d5 : decide ((5 : Int) < (((PyData.int i :: r.map PyData.int).length : Nat) : Int)) = true := decide_eq_true (by rw [hlen]; omega)
        have ei : inS (i :: r) = false := by
          show (decide (r.length < 5) && _) = _
          rw [decide_eq_false h5, Bool.false_and]
        rw [ei]
        simp_arith! only [f14, mth_split, sep_ok x h, hc, hl, ein, d5, oS]

/-! ### rows -/
structure Rw where
  s : List Int
  w : Str
  n : Int
  m : Int
def eR (r : Rw) : PyData := .tuple [tuI r.s, .str r.w, .int r.n, .int r.m]
def oR : Option Rw → PyData
  | some r => eR r
  | none => .none
def mkR (s : Option (List Int)) (w : Str) (n m : Option Int) : Option Rw := match s, n, m with
  | some s, some n, some m => if m ≤ (if s.length < 5 then 99 else 0) then some ⟨s, w, n, m⟩ else none
  | _, _, _ => none
def rowT (x : Str) : Option Rw := match Txt.split x " " with
  | [a, w, m] => if w = "cut" then mkR (seatT a) w (some 0) (numN m) else none
  | [a, w, n, m] => if w = "has" ∨ w = "left" then mkR (seatT a) w (numN n) (numN m) else none
  | _ => none
def inW (w : Str) : Bool := decide (w = "has") || (decide (w = "left") || decide (w = "cut"))
theorem in_words {w : Str} (h : PyData.strOk w = true) : inD (.str w) (.tuple [.str "has", .str "left", .str "cut"]) = some (inW w) := by
  have t1 : Th (.str w) := ⟨by simp only [PyData.canLay0]; exact h, by simp [PyData.depth]⟩
  have t2 : Th (.tuple [.str "has", .str "left", .str "cut"]) := ⟨by simp only [PyData.canLay0, PyData.canLayAll0, strOk_of, Bool.and_true], by simp [PyData.depth, PyData.depthAll]⟩
  show (if SeqAt.shaped (.str w) && SeqAt.shaped (.tuple [.str "has", .str "left", .str "cut"]) then some (([.str "has", .str "left", .str "cut"] : List PyData).any fun z => PyData.eqv z (.str w)) else none) = _
  rw [shp_th t1, shp_th t2, Bool.and_true, if_pos rfl]
  congr 1
  unfold inW
  have hb : ∀ a : Str, (a == w) = decide (w = a) := fun a => by rw [Bool.eq_iff_iff, beq_iff_eq, decide_eq_true_eq, eq_comm]
  simp only [List.any_cons, List.any_nil, PyData.eqv, Bool.or_false, hb]
theorem wcnt_ok {Φ : Phi} {y : PyData} {st : Stt} (h : y = .none ∨ ∃ i, y = .int i) : leaveW st.length (semSs Φ f3.body [some (.d y)] st) = .ok (.d (.bool (whB y 0))) st := by
  rcases h with rfl | ⟨i, rfl⟩
  · simp_arith! only [f3, whB]
  · simp_arith! only [f3, whB]
def CntH (Φ : Phi) : Prop := ∀ (y : PyData) (st : Stt), (y = .none ∨ ∃ i, y = .int i) → Φ 3 [.d y] st = .ok (.d (.bool (whB y 0))) st
def NumY (y : PyData) (o : Option Int) : Prop := (y = .none ∨ ∃ i, y = .int i) ∧ (whB y 0 = o.isSome) ∧ ∀ i, o = some i → y = .int i
theorem NumY.of (x : Str) : NumY (numB x) (numN x) := ⟨by rcases numB_c x with e | ⟨e, _⟩; exact .inl e; exact .inr ⟨_, e⟩, wh_num x, fun i h => (numN_some h).1⟩
theorem NumY.zero : NumY (.int 0) (some 0) := ⟨.inr ⟨0, rfl⟩, rfl, fun i h => by cases h; rfl⟩
theorem tx_th {w : Str} (h : Tx w) : Th (.str w) := ⟨by simp only [PyData.canLay0]; exact h.1, by simp [PyData.depth]⟩
theorem seat_th {a : Str} {s : List Int} (h : seatT a = some s) : Th (tuI s) := ⟨lay_tI s, by rw [dep_tI]; omega⟩
/-- the look at a row -/
theorem prow_ok {Φ : Phi} (HS : OkB Φ 2 seatB) (HC : CntH Φ) {a w : Str} {N M : PyData} {n m : Option Int} (hw : Tx w) (hN : NumY N n) (hM : NumY M m) (hc : w = "cut" → n = some 0) {st : Stt} :
    leaveW st.length (semSs Φ f4.body [some (.d (.tuple [oS (seatT a), .str w, N, M]))] st) = .ok (.d (.bool (inW w && (mkR (seatT a) w n m).isSome))) st := by
  have e4 : ∀ a b c d : PyData, decide ((([a, b, c, d].length : Nat) : Int) = 4) = true := fun _ _ _ _ => decide_eq_true rfl
  cases hs : seatT a with
  | none =>
    have es := HS .none st ⟨rfl, by decide⟩
    have es : Φ 2 [.d .none] st = .ok (.d (.bool false)) st := es
    have em : mkR none w n m = none := by cases n <;> cases m <;> rfl
    rw [em]
    simp_arith! only [f4, oS, e4, es, Option.isSome_none]
  | some s =>
    have es := HS (tuI s) st (seat_th hs)
    obtain ⟨k1, k2, k3, k4⟩ := seatT_ok hs
    rw [k1] at es
    have ew := in_words hw.1
    have c1 := HC N st hN.1
    have c2 := HC M st hM.1
    have l5 : decide ((((s.map PyData.int).length : Nat) : Int) < 5) = decide (s.length < 5) := by rw [List.length_map]; exact decide_eq_decide.mpr (by omega)
    cases hi : inW w with
    | false =>
      rw [hi] at ew
      simp_arith! only [f4, oS, e4, es, ew, Bool.false_and]
    | true =>
      rw [hi] at ew
      cases n with
      | none =>
        rw [hN.2.1] at c1
        have em : mkR (some s) w none m = none := by cases m <;> rfl
        rw [em]
        simp_arith! only [f4, oS, e4, es, ew, c1, Option.isSome_none]
      | some i =>
        rw [hN.2.1] at c1
        cases m with
        | none =>
          rw [hM.2.1] at c2
          have em : mkR (some s) w (some i) none = none := rfl
          rw [em]
          simp_arith! only [f4, oS, e4, es, ew, c1, c2, Option.isSome_none, Option.isSome_some]
        | some j =>
          rw [hM.2.1] at c2
          have eN := hN.2.2 i rfl
          have eM := hM.2.2 j rfl
          subst eN eM
          have em : mkR (some s) w (some i) (some j) = if j ≤ (if s.length < 5 then 99 else 0) then some ⟨s, w, i, j⟩ else none := rfl
          rw [em]
          have eb : ∀ (L : Int) (r : Rw), (if j ≤ L then some r else none).isSome = decide (j ≤ L) := fun L r => by
            split
            · rename_i q; rw [decide_eq_true q]; rfl
            · rename_i q; rw [decide_eq_false q]; rfl
          rw [eb]
          by_cases cw : w = "cut"
          · have dc : decide (w = "cut") = true := decide_eq_true cw
            have hz := hc cw
            cases hz
            have d0 : decide ((0 : Int) = 0) = true := rfl
            by_cases c5 : s.length < 5
            · rw [decide_eq_true c5] at l5
              rw [if_pos c5]
              simp_arith! only [f4, oS, e4, es, ew, c1, c2, Option.isSome_some, dc, d0, l5, tuI]
            · rw [decide_eq_false c5] at l5
              rw [if_neg c5]
              simp_arith! only [f4, oS, e4, es, ew, c1, c2, Option.isSome_some, dc, d0, l5, tuI]
          · have dc : decide (w = "cut") = false := decide_eq_false cw
            by_cases c5 : s.length < 5
            · rw [decide_eq_true c5] at l5
              rw [if_pos c5]
              simp_arith! only [f4, oS, e4, es, ew, c1, c2, Option.isSome_some, dc, l5, tuI]
            · rw [decide_eq_false c5] at l5
              rw [if_neg c5]
              simp_arith! only [f4, oS, e4, es, ew, c1, c2, Option.isSome_some, dc, l5, tuI]

theorem mkR_some {a w : Str} {N M : PyData} {n m : Option Int} {r : Rw} (hN : NumY N n) (hM : NumY M m) (h : mkR (seatT a) w n m = some r) : PyData.tuple [oS (seatT a), .str w, N, M] = eR r := by
  unfold mkR at h
  split at h
  · rename_i s i j e
    by_cases q : j ≤ (if s.length < 5 then 99 else 0)
    · rw [if_pos q] at h
      cases h
      rw [e, hN.2.2 _ rfl, hM.2.2 _ rfl]
      rfl
    · rw [if_neg q] at h
      cases h
  · cases h
structure RowsH (Φ : Phi) : Prop where
  seat : ∀ (x : Str) (st : Stt), Tx x → Φ 6 [.d (.str x)] st = .ok (.d (oS (seatT x))) st
  num : NumH Φ
  row : ∀ (a w : Str) (N M : PyData) (n m : Option Int) (st : Stt), Tx w → NumY N n → NumY M m → (w = "cut" → n = some 0) → Φ 4 [.d (.tuple [oS (seatT a), .str w, N, M])] st = .ok (.d (.bool (inW w && (mkR (seatT a) w n m).isSome))) st
theorem rrow_ok {Φ : Phi} (H : RowsH Φ) {x : Str} (h : Tx x) {st : Stt} : leaveW st.length (semSs Φ f7.body [some (.d (.str x)), none, none] st) = .ok (.d (oR (rowT x))) st := by
  have sep : ((((" " : String) : Str).length == 0) = false ∧ x.length + 2 ≤ lineN) = True := eq_true ⟨by decide, le_line (b := x.length + 2) (Nat.le_refl _) (by have := h.2; omega)⟩
  have tx : ∀ p ∈ Txt.split x " ", Tx p := fun p hp => h.piece hp
  have t0 : Tx ("0" : Str) := ⟨strOk_of _, by decide⟩
  have v0 : numB ("0" : Str) = .int 0 := by
    have g : goodB ("0" : Str) = true := by decide +kernel
    have v : valI ("0" : Str) = 0 := by decide +kernel
    have t : Str.ofString (toString (0 : Int)) = ("0" : Str) := by decide
    unfold numB
    rw [if_pos g, v, if_pos t]
  have n0 := H.num ("0" : Str) st t0
  rw [v0] at n0
  have c2 : ∀ a b c : PyData, cutD [a, b, c] none (some 2) = [a, b] := fun _ _ _ => rfl
  have c3 : ∀ a b c : PyData, cutD [a, b, c] (some 2) none = [c] := fun _ _ _ => rfl
  have l2 : ∀ a b c : PyData, ([a, b].length + [c].length ≤ lineN) = True := fun _ _ _ => eq_true (le_line (b := 3) (by show 2 + 1 ≤ 3; decide) (by decide))
  have l3 : ∀ a b c d : PyData, ([a, b, c].length + [d].length ≤ lineN) = True := fun _ _ _ _ => eq_true (le_line (b := 4) (by show 3 + 1 ≤ 4; decide) (by decide))
  have s1 : decide ((([] : List PyData).length : Nat) = (3 : Int)) = false := rfl
  unfold rowT
  cases hL : Txt.split x " " with
  | nil => exact absurd hL (split_ne x " ")
  | cons a L1 =>
    rw [hL] at tx
    cases L1 with
    | nil =>
      have d3 : decide ((([PyData.str a].length : Nat) : Int) = 3) = false := rfl
      have d4 : decide ((([PyData.str a].length : Nat) : Int) = 4) = false := rfl
      simp_arith! only [f7, mth_split, sep, hL, List.map_cons, List.map_nil, d3, d4, oR]
    | cons w L2 =>
      have tw := tx w (by simp)
      have ta := tx a (by simp)
      have qa := H.seat a st ta
      cases L2 with
      | nil =>
        have d3 : decide ((([PyData.str a, .str w].length : Nat) : Int) = 3) = false := rfl
        have d4 : decide ((([PyData.str a, .str w].length : Nat) : Int) = 4) = false := rfl
        simp_arith! only [f7, mth_split, sep, hL, List.map_cons, List.map_nil, d3, d4, oR]
      | cons m L3 =>
        have tm := tx m (by simp)
        have qm := H.num m st tm
        cases L3 with
        | nil =>
          have d3 : decide ((([PyData.str a, .str w, .str m].length : Nat) : Int) = 3) = true := rfl
          have d4 : decide ((([PyData.str a, .str w, .str m].length : Nat) : Int) = 4) = false := rfl
          by_cases cw : w = "cut"
          · have dc : decide (w = "cut") = true := decide_eq_true cw
            have wi : inW w = true := by unfold inW; rw [dc, Bool.or_true, Bool.or_true]
            have er := H.row a w (.int 0) (numB m) (some 0) (numN m) st tw NumY.zero (NumY.of m) (fun _ => rfl)
            rw [wi, Bool.true_and] at er
            show _ = Res.ok (W.d (oR (if w = "cut" then mkR (seatT a) w (some 0) (numN m) else none))) st
            rw [if_pos cw]
            cases hr : mkR (seatT a) w (some 0) (numN m) with
            | none =>
              rw [hr] at er
              simp_arith! only [f7, mth_split, sep, hL, List.map_cons, List.map_nil, d3, dc, c2, c3, l2, l3, qa, qm, n0, er, oR, Option.isSome_none]
            | some r =>
              have ee := mkR_some NumY.zero (NumY.of m) hr
              rw [hr, ee] at er
              simp_arith! only [f7, mth_split, sep, hL, List.map_cons, List.map_nil, d3, dc, c2, c3, l2, l3, qa, qm, n0, er, oR, Option.isSome_some, ee]
          · have dc : decide (w = "cut") = false := decide_eq_false cw
            show _ = Res.ok (W.d (oR (if w = "cut" then mkR (seatT a) w (some 0) (numN m) else none))) st
            rw [if_neg cw]
            simp_arith! only [f7, mth_split, sep, hL, List.map_cons, List.map_nil, d3, d4, dc, oR]
        | cons k L4 =>
          have tk := tx k (by simp)
          have qk := H.num k st tk
          cases L4 with
          | nil =>
            have d3 : decide ((([PyData.str a, .str w, .str m, .str k].length : Nat) : Int) = 3) = false := rfl
            have d4 : decide ((([PyData.str a, .str w, .str m, .str k].length : Nat) : Int) = 4) = true := rfl
            show _ = Res.ok (W.d (oR (if w = "has" ∨ w = "left" then mkR (seatT a) w (numN m) (numN k) else none))) st
            by_cases cw : w = "cut"
            · have dc : decide (w = "cut") = true := decide_eq_true cw
              rw [if_neg (by rw [cw]; decide)]
              simp_arith! only [f7, mth_split, sep, hL, List.map_cons, List.map_nil, d3, d4, dc, oR]
            · have dc : decide (w = "cut") = false := decide_eq_false cw
              have er := H.row a w (numB m) (numB k) (numN m) (numN k) st tw (NumY.of m) (NumY.of k) (fun e => absurd e cw)
              by_cases wi : w = "has" ∨ w = "left"
              · have wb : inW w = true := by
                  unfold inW
                  rcases wi with e | e
                  · rw [decide_eq_true e]; rfl
                  · rw [decide_eq_true e, Bool.true_or, Bool.or_true]
                rw [if_pos wi]
                rw [wb, Bool.true_and] at er
                cases hr : mkR (seatT a) w (numN m) (numN k) with
                | none =>
                  rw [hr] at er
                  simp_arith! only [f7, mth_split, sep, hL, List.map_cons, List.map_nil, d3, d4, dc, qa, qm, qk, er, oR, Option.isSome_none]
                | some r =>
                  have ee := mkR_some (NumY.of m) (NumY.of k) hr
                  rw [hr, ee] at er
                  simp_arith! only [f7, mth_split, sep, hL, List.map_cons, List.map_nil, d3, d4, dc, qa, qm, qk, er, oR, Option.isSome_some, ee]
              · have wb : inW w = false := by
                  unfold inW
                  rw [decide_eq_false fun e => wi (.inl e), decide_eq_false fun e => wi (.inr e), dc]
                  rfl
                rw [if_neg wi]
                rw [wb, Bool.false_and] at er
                simp_arith! only [f7, mth_split, sep, hL, List.map_cons, List.map_nil, d3, d4, dc, qa, qm, qk, er, oR]
          | cons z L5 =>
            have d3 : decide ((((PyData.str a :: .str w :: .str m :: .str k :: .str z :: L5.map PyData.str).length : Nat) : Int) = 3) = false := decide_eq_false (by simp only [List.length_cons]; omega)
            have d4 : decide ((((PyData.str a :: .str w :: .str m :: .str k :: .str z :: L5.map PyData.str).length : Nat) : Int) = 4) = false := decide_eq_false (by simp only [List.length_cons]; omega)
            simp_arith! only [f7, mth_split, sep, hL, List.map_cons, List.map_nil, d3, d4, oR]
structure LrowsH (Φ : Phi) : Prop where
  seat : ∀ (x : Str) (st : Stt), Tx x → Φ 14 [.d (.str x)] st = .ok (.d (oS (seatT x))) st
  num : LnumH Φ
theorem is_no (s : Option (List Int)) : isD (oS s) .none = some s.isNone := by cases s <;> rfl
theorem is_nd (s : Option Int) : isD (oD s) .none = some s.isNone := by cases s <;> rfl
theorem w991 : (within64 99 || within64 1) = true := by decide
theorem w990 : (within64 99 || within64 0) = true := by decide
theorem isD_n : isD .none .none = some true := rfl
theorem cmp_is' (x y : PyData) : cmpK .iss x y = toB (isD x y) := rfl
/-- the law's row, once the words are right -/
theorem lrow_tail {Φ : Phi} {a w : Str} {n m : Option Int} {x0 x1 : Option W} {L : List PyData} {st : Stt} (i1 : atI L 1 = some (.str w)) : leaveW st.length (semSs Φ (match f15.body with | .cons _ (.cons _ (.cons _ (.cons _ (.cons _ r)))) => r | r => r) [x0, some (.d (.list L)), some (.d (oS (seatT a))), some (.d (oD n)), some (.d (oD m))] st) = .ok (.d (oR (mkR (seatT a) w n m))) st := by
  cases hs : seatT a with
  | none =>
    have em : mkR none w n m = none := by cases n <;> cases m <;> rfl
    rw [em]
    simp_arith! only [f15, oS, cmp_is', isD_n, oR]
  | some s =>
    have sT := seatT_ok hs
    have i2 : isD (tuI s) .none = some false := rfl
    cases n with
    | none =>
      have em : mkR (some s) w none m = none := by cases m <;> rfl
      rw [em]
      simp_arith! only [f15, oS, cmp_is', isD_n, i2, oR, oD]
    | some i =>
      have i3 : isD (.int i) .none = some false := rfl
      cases m with
      | none =>
        have em : mkR (some s) w (some i) none = none := rfl
        rw [em]
        simp_arith! only [f15, oS, cmp_is', isD_n, i2, i3, oR, oD]
      | some j =>
        have i4 : isD (.int j) .none = some false := rfl
        have em : mkR (some s) w (some i) (some j) = if j ≤ (if s.length < 5 then 99 else 0) then some ⟨s, w, i, j⟩ else none := rfl
        rw [em]
        have l5 : decide ((((s.map PyData.int).length : Nat) : Int) < 5) = decide (s.length < 5) := by rw [List.length_map]; exact decide_eq_decide.mpr (by omega)
        by_cases c5 : s.length < 5
        · rw [decide_eq_true c5] at l5
          rw [if_pos c5]
          by_cases c : j ≤ 99
          · have d : decide (99 * 1 < j) = false := decide_eq_false (by omega)
            have d' : decide (99 < j) = false := decide_eq_false (by omega)
            rw [if_pos c]
            simp_arith! only [f15, oS, cmp_is', isD_n, i1, i2, i3, i4, oR, oD, tuI, l5, d, d', eR, w991, w990]
          · have d : decide (99 * 1 < j) = true := decide_eq_true (by omega)
            have d' : decide (99 < j) = true := decide_eq_true (by omega)
            rw [if_neg c]
            simp_arith! only [f15, oS, cmp_is', isD_n, i1, i2, i3, i4, oR, oD, tuI, l5, d, d', eR, w991, w990]
        · rw [decide_eq_false c5] at l5
          rw [if_neg c5]
          by_cases c : j ≤ 0
          · have d : decide (99 * 0 < j) = false := decide_eq_false (by omega)
            have d' : decide (0 < j) = false := decide_eq_false (by omega)
            rw [if_pos c]
            simp_arith! only [f15, oS, cmp_is', isD_n, i1, i2, i3, i4, oR, oD, tuI, l5, d, d', eR, w991, w990]
          · have d : decide (99 * 0 < j) = true := decide_eq_true (by omega)
            have d' : decide (0 < j) = true := decide_eq_true (by omega)
            rw [if_neg c]
            simp_arith! only [f15, oS, cmp_is', isD_n, i1, i2, i3, i4, oR, oD, tuI, l5, d, d', eR, w991, w990]

theorem in_len {L : List Str} {k : Int} : decide ((((L.map PyData.str).length : Nat) : Int) = k) = decide (((L.length : Nat) : Int) = k) := by rw [List.length_map]
theorem lrow_ok {Φ : Phi} (H : LrowsH Φ) {x : Str} (h : Tx x) {st : Stt} : leaveW st.length (semSs Φ f15.body [some (.d (.str x)), none, none, none, none] st) = .ok (.d (oR (rowT x))) st := by
  have sep : ((((" " : String) : Str).length == 0) = false ∧ x.length + 2 ≤ lineN) = True := eq_true ⟨by decide, le_line (b := x.length + 2) (Nat.le_refl _) (by have := h.2; omega)⟩
  have tx : ∀ p ∈ Txt.split x " ", Tx p := fun p hp => h.piece hp
  unfold rowT
  cases hL : Txt.split x " " with
  | nil => exact absurd hL (split_ne x " ")
  | cons a L1 =>
    rw [hL] at tx
    cases L1 with
    | nil =>
      have d3 : decide ((([PyData.str a].length : Nat) : Int) < 3) = true := rfl
      simp_arith! only [f15, mth_split, sep, hL, List.map_cons, List.map_nil, d3, oR]
    | cons w L2 =>
      have tw := tx w (by simp)
      have ta := tx a (by simp)
      have qa := H.seat a st ta
      have ew := in_words tw.1
      cases L2 with
      | nil =>
        have d3 : decide ((([PyData.str a, .str w].length : Nat) : Int) < 3) = true := rfl
        simp_arith! only [f15, mth_split, sep, hL, List.map_cons, List.map_nil, d3, oR]
      | cons m L3 =>
        have tm := tx m (by simp)
        have qm := H.num m st tm
        cases L3 with
        | nil =>
          have d3 : decide ((([PyData.str a, .str w, .str m].length : Nat) : Int) < 3) = false := rfl
          have e3 : decide ((([PyData.str a, .str w, .str m].length : Nat) : Int) = 4 - 1) = true := rfl
          have e4 : decide ((([PyData.str a, .str w, .str m].length : Nat) : Int) = 4 - 0) = false := rfl
          have am : atI [PyData.str a, .str w, .str m] (-1) = some (.str m) := rfl
          show _ = Res.ok (W.d (oR (if w = "cut" then mkR (seatT a) w (some 0) (numN m) else none))) st
          by_cases cw : w = "cut"
          · have dc : decide (w = "cut") = true := decide_eq_true cw
            have wi : inW w = true := by unfold inW; rw [dc, Bool.or_true, Bool.or_true]
            rw [wi] at ew
            rw [if_pos cw]
            have t := lrow_tail (Φ := Φ) (a := a) (w := w) (n := some 0) (m := numN m) (x0 := some (.d (.str x))) (x1 := none) (L := [.str a, .str w, .str m]) (st := st) rfl
            rw [← t]
            generalize hR : (match f15.body with | .cons _ (.cons _ (.cons _ (.cons _ (.cons _ r)))) => r | r => r) = R
            simp_arith! only [f15, mth_split, sep, hL, List.map_cons, List.map_nil, d3, e3, e4, dc, ew, qa, qm, am]
            rw [← hR]
            rfl
          · have dc : decide (w = "cut") = false := decide_eq_false cw
            rw [if_neg cw]
            cases wi : inW w <;> rw [wi] at ew <;> simp_arith! only [f15, mth_split, sep, hL, List.map_cons, List.map_nil, d3, e3, e4, dc, ew, oR]
        | cons k L4 =>
          have tk := tx k (by simp)
          have qk := H.num k st tk
          cases L4 with
          | nil =>
            have d3 : decide ((([PyData.str a, .str w, .str m, .str k].length : Nat) : Int) < 3) = false := rfl
            have e3 : decide ((([PyData.str a, .str w, .str m, .str k].length : Nat) : Int) = 4 - 1) = false := rfl
            have e4 : decide ((([PyData.str a, .str w, .str m, .str k].length : Nat) : Int) = 4 - 0) = true := rfl
            have am : atI [PyData.str a, .str w, .str m, .str k] (-1) = some (.str k) := rfl
            show _ = Res.ok (W.d (oR (if w = "has" ∨ w = "left" then mkR (seatT a) w (numN m) (numN k) else none))) st
            by_cases cw : w = "cut"
            · have dc : decide (w = "cut") = true := decide_eq_true cw
              have wi : inW w = true := by unfold inW; rw [dc, Bool.or_true, Bool.or_true]
              rw [wi] at ew
              rw [if_neg (by rw [cw]; decide)]
              simp_arith! only [f15, mth_split, sep, hL, List.map_cons, List.map_nil, d3, e3, e4, dc, ew, oR]
            · have dc : decide (w = "cut") = false := decide_eq_false cw
              by_cases wi : w = "has" ∨ w = "left"
              · have wb : inW w = true := by
                  unfold inW
                  rcases wi with e | e
                  · rw [decide_eq_true e]; rfl
                  · rw [decide_eq_true e, Bool.true_or, Bool.or_true]
                rw [wb] at ew
                rw [if_pos wi]
                have t := lrow_tail (Φ := Φ) (a := a) (w := w) (n := numN m) (m := numN k) (x0 := some (.d (.str x))) (x1 := none) (L := [.str a, .str w, .str m, .str k]) (st := st) rfl
                rw [← t]
                generalize hR : (match f15.body with | .cons _ (.cons _ (.cons _ (.cons _ (.cons _ r)))) => r | r => r) = R
                simp_arith! only [f15, mth_split, sep, hL, List.map_cons, List.map_nil, d3, e3, e4, dc, ew, qa, qm, qk, am]
                rw [← hR]
                rfl
              · have wb : inW w = false := by
                  unfold inW
                  rw [decide_eq_false fun e => wi (.inl e), decide_eq_false fun e => wi (.inr e), dc]
                  rfl
                rw [wb] at ew
                rw [if_neg wi]
                simp_arith! only [f15, mth_split, sep, hL, List.map_cons, List.map_nil, d3, e3, e4, dc, ew, oR]
          | cons z L5 =>
            have d3 : decide ((((PyData.str a :: .str w :: .str m :: .str k :: .str z :: L5.map PyData.str).length : Nat) : Int) < 3) = false := decide_eq_false (by simp only [List.length_cons]; omega)
            have e3 : decide ((((PyData.str a :: .str w :: .str m :: .str k :: .str z :: L5.map PyData.str).length : Nat) : Int) = 4 - 1) = false := decide_eq_false (by simp only [List.length_cons]; omega)
            have e4 : decide ((((PyData.str a :: .str w :: .str m :: .str k :: .str z :: L5.map PyData.str).length : Nat) : Int) = 4 - 0) = false := decide_eq_false (by simp only [List.length_cons]; omega)
            cases wi : inW w <;> rw [wi] at ew <;> cases dc : decide (w = "cut") <;> simp_arith! only [f15, mth_split, sep, hL, List.map_cons, List.map_nil, d3, e3, e4, dc, ew, oR]
/-! ### reading -/
theorem row_ok {x : Str} {r : Rw} (h : rowT x = some r) : (r.w = "has" ∨ r.w = "left" ∨ r.w = "cut") ∧ (∃ a, seatT a = some r.s) ∧ r.n.natAbs ≤ 10 ^ 40 ∧ r.m.natAbs ≤ 10 ^ 40 := by
  have key : ∀ {a w : Str} {n m : Option Int}, (w = "has" ∨ w = "left" ∨ w = "cut") → (∀ i, n = some i → i.natAbs ≤ 10 ^ 40) → (∀ i, m = some i → i.natAbs ≤ 10 ^ 40) → mkR (seatT a) w n m = some r → (r.w = "has" ∨ r.w = "left" ∨ r.w = "cut") ∧ (∃ a, seatT a = some r.s) ∧ r.n.natAbs ≤ 10 ^ 40 ∧ r.m.natAbs ≤ 10 ^ 40 := fun {a w n m} hw hn hm h => by
    unfold mkR at h
    split at h
    · rename_i s i j e
      by_cases q : j ≤ (if s.length < 5 then 99 else 0)
      · rw [if_pos q] at h
        cases h
        exact ⟨hw, ⟨a, e⟩, hn i rfl, hm j rfl⟩
      · rw [if_neg q] at h
        cases h
    · cases h
  have hN : ∀ (y : Str) (i : Int), numN y = some i → i.natAbs ≤ 10 ^ 40 := fun y i e => (numN_some e).2.2
  unfold rowT at h
  split at h
  · split at h
    · rename_i e
      exact key (.inr (.inr e)) (fun i e => by cases e; decide) (hN _) h
    · cases h
  · split at h
    · rename_i e
      exact key (e.elim .inl fun e => .inr (.inl e)) (hN _) (hN _) h
    · cases h
  · cases h
def RwG (r : Rw) : Prop := (r.w = "has" ∨ r.w = "left" ∨ r.w = "cut") ∧ (∃ a, seatT a = some r.s) ∧ r.n.natAbs ≤ 10 ^ 40 ∧ r.m.natAbs ≤ 10 ^ 40
theorem RwG.bd {r : Rw} (h : RwG r) : Bd (10 ^ 40) 40000 2 (eR r) := by
  obtain ⟨h1, ⟨a, ha⟩, h3, h4⟩ := h
  obtain ⟨_, _, g2, g3⟩ := seatT_ok ha
  have b1 : Bd (10 ^ 40) 9624 1 (tuI r.s) := bd_mono (bd_tup (bds_of (n := 5) (S := 1922) (D := 0) (fun x hx => by
    obtain ⟨i, hi, rfl⟩ := List.mem_map.mp hx
    exact bd_int (by have := g3 i hi; have : i.natAbs ≤ 99 := by omega
                     exact Nat.le_trans this (by decide))) (by rw [List.length_map]; exact g2))) (by decide) (Nat.le_refl _)
  have hw : Bd (10 ^ 40) 42 0 (.str r.w) := by rcases h1 with e | e | e <;> (rw [e]; exact bd_str (n := 4) (by decide))
  refine bd_mono (bd_tup (bds_of (n := 4) (S := 9624) (D := 1) (fun x hx => ?_) (Nat.le_refl _))) (by decide) (Nat.le_refl _)
  simp only [List.mem_cons, List.not_mem_nil, or_false] at hx
  rcases hx with rfl | rfl | rfl | rfl
  · exact b1
  · exact bd_mono hw (by decide) (by decide)
  · exact bd_mono (bd_int h3) (by decide) (by decide)
  · exact bd_mono (bd_int h4) (by decide) (by decide)
theorem RwG.th {r : Rw} (h : RwG r) : Th (eR r) := h.bd.th (by decide)
def badO (F : List Rw) (q : Rw) : Bool := match F.getLast? with
  | none => false
  | some p => !PySem.W.dataLt (tuI p.s) (tuI q.s)
def readT (F : List Rw) (k : Nat) : List Str → Nat ⊕ List Rw
  | [] => .inr F
  | x :: r => match rowT x with
    | none => .inl k
    | some q => if badO F q = true then .inl k else readT (F ++ [q]) (k + 1) r
theorem atI_snoc {α : Type} (xs : List α) (x : α) : atI (xs ++ [x]) (-1) = some x := by
  have e : ixN (xs ++ [x]).length (-1) = some xs.length := by
    unfold ixN
    simp only [show ¬ (0 : Int) ≤ -1 by decide, if_false, List.length_append, List.length_singleton]
    rw [if_pos (by omega)]
    congr 1
    omega
  unfold atI
  rw [e, Option.bind_some, List.getElem?_append_right (Nat.le_refl _), Nat.sub_self]
  rfl
theorem setT_enum {ρ : Rho} {a b : Nat} {x y : PyData} : setT (.tp [a, b]) (.tuple [x, y]) ρ = some ((ρ.set a (some (.d x))).set b (some (.d y))) := rfl
theorem exc_k {k : Nat} (h : k < 1000) : excV (.int (k : Int)) = true := small_b (Nat.le_trans (show ((k : Int)).natAbs ≤ 1000 by omega) (by decide))
def LineH (Φ : Phi) : Prop := ∀ (x : Str) (st : Stt), Tx x → Φ 7 [.d (.str x)] st = .ok (.d (oR (rowT x))) st
def LlineH (Φ : Phi) : Prop := ∀ (x : Str) (st : Stt), Tx x → Φ 15 [.d (.str x)] st = .ok (.d (oR (rowT x))) st
theorem e0_of {F : List Rw} (hF : ∀ r ∈ F, RwG r) : eqD (.list (F.map eR)) (.list []) = some (F.map eR).isEmpty := eqD_l0 fun x hx => by
  obtain ⟨q, hq, rfl⟩ := List.mem_map.mp hx
  exact (hF q hq).th
theorem rd_for {Φ : Phi} (H : LineH Φ) {X : Option W} {st : Stt} : ∀ (ls : List Str) (F : List Rw) (k : Nat) (x2 x3 x4 : Option W), (∀ x ∈ ls, Tx x) → (∀ r ∈ F, RwG r) → F.length + ls.length < 1000 → k + ls.length < 1000 →
    match readT F k ls with
    | .inr G => ∃ y2 y3 y4, forL (stepF Φ (.tp [2, 3]) f8_b1) (enumD k (ls.map PyData.str)) [X, some (.own (.lst (F.map eR))), x2, x3, x4] st = .ok (.nx [X, some (.own (.lst (G.map eR))), y2, y3, y4]) st
    | .inl j => forL (stepF Φ (.tp [2, 3]) f8_b1) (enumD k (ls.map PyData.str)) [X, some (.own (.lst (F.map eR))), x2, x3, x4] st = .ex ⟨"NoLines", [("row", .int (j : Nat))]⟩ st
  | [], F, k, x2, x3, x4, _, _, _, _ => ⟨x2, x3, x4, rfl⟩
  | x :: ls, F, k, x2, x3, x4, hx, hF, hl, hk => by
    have e1 := H x st (hx x List.mem_cons_self)
    have ek := exc_k (k := k) (by omega)
    have i1 : isD .none .none = some true := rfl
    rw [List.map_cons]
    unfold enumD forL
    cases hr : rowT x with
    | none =>
      rw [hr] at e1
      have e1 : Φ 7 [.d (.str x)] st = .ok (.d .none) st := e1
      have key : stepF Φ (.tp [2, 3]) f8_b1 (.tuple [.int (k : Nat), .str x]) [X, some (.own (.lst (F.map eR))), x2, x3, x4] st = .ex ⟨"NoLines", [("row", .int (k : Nat))]⟩ st := by
        rw [stepF_a, setT_enum, setR_s]
        simp_arith! only [f8_b1, e1, cmp_is', i1, ek]
      have er : readT F k (x :: ls) = .inl k := by show (match rowT x with | none => _ | some q => _) = _; rw [hr]
      rw [er]
      show Res.bind _ _ = _
      rw [key]
      rfl
    | some q =>
      rw [hr] at e1
      have e1 : Φ 7 [.d (.str x)] st = .ok (.d (eR q)) st := e1
      have i2 : isD (eR q) .none = some false := rfl
      have i0 : idxK (eR q) (.int 0) = some (.d (tuI q.s)) := rfl
      have la : ((F.map eR).length < lineN) = True := eq_true (Nat.lt_of_lt_of_le (show (F.map eR).length < 1000 by rw [List.length_map]; omega) (Nat.le_of_ble_eq_true rfl))
      have em : F.map eR ++ [eR q] = (F ++ [q]).map eR := (List.map_append (l₁ := F) (l₂ := [q]) (f := eR)).symm
      have e0 := e0_of hF
      have good : stepF Φ (.tp [2, 3]) f8_b1 (.tuple [.int (k : Nat), .str x]) [X, some (.own (.lst (F.map eR))), x2, x3, x4] st = (if badO F q = true then .ex ⟨"NoLines", [("row", .int (k : Nat))]⟩ st else .ok (.nx [X, some (.own (.lst ((F ++ [q]).map eR))), some (.d (.int (k : Nat))), some (.d (.str x)), some (.d (eR q))]) st) := by
        rw [stepF_a, setT_enum, setR_s]
        rcases List.eq_nil_or_concat F with rfl | ⟨F', p, rfl⟩
        · have e0 : eqD (.list (([] : List Rw).map eR)) (.list []) = some true := e0
          rw [if_neg (show ¬ badO [] q = true from fun z => nomatch z)]
          simp_arith! only [f8_b1, e1, cmp_is', i2, e0, la, em]
        · rw [List.concat_eq_append] at *
          have eb : badO (F' ++ [p]) q = !PySem.W.dataLt (tuI p.s) (tuI q.s) := by unfold badO; rw [List.getLast?_append]; rfl
          have e0 : eqD (.list ((F' ++ [p]).map eR)) (.list []) = some false := by rw [e0]; congr 1; rw [List.map_append]; cases F' <;> rfl
          have ex : atI ((F' ++ [p]).map eR) (-1) = some (eR p) := by rw [List.map_append]; exact atI_snoc _ _
          have p0 : idxK (eR p) (.int 0) = some (.d (tuI p.s)) := rfl
          have le := le_ints q.s p.s
          rw [eb]
          cases hb : PySem.W.dataLt (tuI p.s) (tuI q.s) with
          | true =>
            rw [hb] at le
            rw [if_neg (by decide)]
            simp_arith! only [f8_b1, e1, cmp_is', i2, e0, ex, i0, p0, cmp_le, le, la, em]
          | false =>
            rw [hb] at le
            rw [if_pos (by decide)]
            simp_arith! only [f8_b1, e1, cmp_is', i2, e0, ex, i0, p0, cmp_le, le, ek]
      have er : readT F k (x :: ls) = if badO F q = true then .inl k else readT (F ++ [q]) (k + 1) ls := by show (match rowT x with | none => _ | some q => _) = _; rw [hr]
      rw [er]
      by_cases hb : badO F q = true
      · rw [if_pos hb] at good ⊢
        show Res.bind _ _ = _
        rw [good]
        rfl
      · rw [if_neg hb] at good ⊢
        rw [good, Res.bind_ok]
        exact rd_for H ls (F ++ [q]) (k + 1) _ _ _ (fun y hy => hx y (List.mem_cons_of_mem _ hy)) (fun r hr' => by
          rcases List.mem_append.mp hr' with h | h
          · exact hF r h
          · rw [List.mem_singleton.mp h]; exact row_ok hr) (by rw [List.length_append, List.length_singleton]; rw [List.length_cons] at hl; omega) (by rw [List.length_cons] at hk; omega)

def resR : Nat ⊕ List Rw → PyData
  | .inl k => .int (k : Nat)
  | .inr G => .tuple (G.map eR)
theorem readT_g : ∀ (ls : List Str) (F : List Rw) (k : Nat), (∀ r ∈ F, RwG r) → ∀ G, readT F k ls = .inr G → (∀ r ∈ G, RwG r) ∧ G.length = F.length + ls.length
  | [], F, k, hF, G, h => by cases h; exact ⟨hF, rfl⟩
  | x :: ls, F, k, hF, G, h => by
    unfold readT at h
    split at h
    · cases h
    · rename_i q hq
      split at h
      · cases h
      · obtain ⟨h1, h2⟩ := readT_g ls (F ++ [q]) (k + 1) (fun r hr => by
          rcases List.mem_append.mp hr with h | h
          · exact hF r h
          · rw [List.mem_singleton.mp h]; exact row_ok hq) G h
        refine ⟨h1, ?_⟩
        rw [h2, List.length_append, List.length_singleton, List.length_cons]
        omega
theorem readT_k : ∀ (ls : List Str) (F : List Rw) (k : Nat) (j : Nat), readT F k ls = .inl j → j < k + ls.length
  | [], F, k, j, h => by cases h
  | x :: ls, F, k, j, h => by
    rw [List.length_cons]
    unfold readT at h
    split at h
    · cases h; omega
    · split at h
      · cases h; omega
      · have := readT_k ls _ (k + 1) j h; omega
def lsD (ls : List Str) : PyData := .list (ls.map PyData.str)
structure Lns (ls : List Str) : Prop where
  tx : ∀ x ∈ ls, Tx x
  len : ls.length < 20
/-- the program reads -/
theorem rpaper_ok {Φ : Phi} (H : LineH Φ) {ls : List Str} (h : Lns ls) {st : Stt} : leaveW st.length (semSs Φ f8.body [some (.d (lsD ls)), none, none, none, none] st) = match readT [] 0 ls with
    | .inr G => .ok (.d (.tuple (G.map eR))) st
    | .inl j => .ex ⟨"NoLines", [("row", .int (j : Nat))]⟩ st := by
  have r := rd_for H (X := some (.d (lsD ls))) (st := st) ls [] 0 none none none h.tx (fun r hr => nomatch hr) (by have := h.len; show 0 + _ < 1000; omega) (by have := h.len; omega)
  cases hr : readT [] 0 ls with
  | inr G =>
    rw [hr] at r
    obtain ⟨y2, y3, y4, e⟩ := r
    have e : forL (stepF Φ (.tp [2, 3]) f8_b1) (enumD 0 (ls.map PyData.str)) [some (.d (.list (ls.map PyData.str))), some (.own (.lst [])), none, none, none] st = _ := e
    simp_arith! only [f8, lsD, e]
  | inl j =>
    rw [hr] at r
    have e : forL (stepF Φ (.tp [2, 3]) f8_b1) (enumD 0 (ls.map PyData.str)) [some (.d (.list (ls.map PyData.str))), some (.own (.lst [])), none, none, none] st = _ := r
    simp_arith! only [f8, lsD, e]
theorem rngL_step {a b : Int} (h : a < b) : rngL a b = .int a :: rngL (a + 1) b := by
  unfold rngL
  obtain ⟨n, hn⟩ : ∃ n, (b - a).toNat = n + 1 := ⟨(b - a).toNat - 1, by omega⟩
  rw [hn, List.range_succ_eq_map, List.map_cons, List.map_map, show (b - (a + 1)).toNat = n by omega]
  congr 1
  · show PyData.int (a + ((0 : Nat) : Int)) = _
    congr 1
    omega
  · refine List.map_congr_left fun i _ => ?_
    show PyData.int (a + ((i + 1 : Nat) : Int)) = PyData.int (a + 1 + (i : Nat))
    congr 1
    omega
theorem rngL_nil (a : Int) : rngL a a = [] := by unfold rngL; rw [show (a - a).toNat = 0 by omega]; rfl
theorem lrd_for {Φ : Phi} (H : LlineH Φ) {LS : List Str} {st : Stt} : ∀ (ls pre : List Str) (F : List Rw) (x2 x3 : Option W), LS = pre ++ ls → (∀ x ∈ ls, Tx x) → (∀ r ∈ F, RwG r) → F.length + ls.length < 1000 →
    match readT F pre.length ls with
    | .inr G => ∃ y2 y3, forL (stepF Φ (.nm 2) f16_b1) (rngL (pre.length : Nat) (LS.length : Nat)) [some (.d (lsD LS)), some (.own (.lst (F.map eR))), x2, x3] st = .ok (.nx [some (.d (lsD LS)), some (.own (.lst (G.map eR))), y2, y3]) st
    | .inl j => forL (stepF Φ (.nm 2) f16_b1) (rngL (pre.length : Nat) (LS.length : Nat)) [some (.d (lsD LS)), some (.own (.lst (F.map eR))), x2, x3] st = .ok (.rt (.d (.int (j : Nat)))) st
  | [], pre, F, x2, x3, e, _, _, _ => by
    rw [e, List.append_nil, rngL_nil]
    exact ⟨x2, x3, rfl⟩
  | x :: ls, pre, F, x2, x3, e, hx, hF, hl => by
    have e1 := H x st (hx x List.mem_cons_self)
    have hlen : LS.length = pre.length + (ls.length + 1) := by rw [e, List.length_append, List.length_cons]
    have hat : atI (LS.map PyData.str) ((pre.length : Nat) : Int) = some (.str x) := by
      rw [atI_nat _ _ (by rw [List.length_map]; omega)]
      congr 1
      rw [List.getElem_map]
      congr 1
      simp only [e]
      rw [List.getElem_append_right (Nat.le_refl _)]
      simp
    have i1 : isD .none .none = some true := rfl
    rw [rngL_step (by omega)]
    unfold forL
    have hx' : ∀ y ∈ ls, Tx y := fun y hy => hx y (List.mem_cons_of_mem _ hy)
    cases hr : rowT x with
    | none =>
      rw [hr] at e1
      have e1 : Φ 15 [.d (.str x)] st = .ok (.d .none) st := e1
      have key : stepF Φ (.nm 2) f16_b1 (.int ((pre.length : Nat) : Int)) [some (.d (lsD LS)), some (.own (.lst (F.map eR))), x2, x3] st = .ok (.rt (.d (.int ((pre.length : Nat) : Int)))) st := by
        simp_arith! only [f16_b1, lsD, hat, e1, cmp_is', i1]
      have er : readT F pre.length (x :: ls) = .inl pre.length := by show (match rowT x with | none => _ | some q => _) = _; rw [hr]
      rw [er, key]
      rfl
    | some q =>
      rw [hr] at e1
      have e1 : Φ 15 [.d (.str x)] st = .ok (.d (eR q)) st := e1
      have i2 : isD (eR q) .none = some false := rfl
      have i0 : idxK (eR q) (.int 0) = some (.d (tuI q.s)) := rfl
      have la : ((F.map eR).length < lineN) = True := eq_true (Nat.lt_of_lt_of_le (show (F.map eR).length < 1000 by rw [List.length_map]; omega) (Nat.le_of_ble_eq_true rfl))
      have em : F.map eR ++ [eR q] = (F ++ [q]).map eR := (List.map_append (l₁ := F) (l₂ := [q]) (f := eR)).symm
      have e0 := e0_of hF
      have good : stepF Φ (.nm 2) f16_b1 (.int ((pre.length : Nat) : Int)) [some (.d (lsD LS)), some (.own (.lst (F.map eR))), x2, x3] st = (if badO F q = true then .ok (.rt (.d (.int ((pre.length : Nat) : Int)))) st else .ok (.nx [some (.d (lsD LS)), some (.own (.lst ((F ++ [q]).map eR))), some (.d (.int ((pre.length : Nat) : Int))), some (.d (eR q))]) st) := by
        rcases List.eq_nil_or_concat F with rfl | ⟨F', p, rfl⟩
        · have e0 : eqD (.list (([] : List Rw).map eR)) (.list []) = some true := e0
          rw [if_neg (show ¬ badO [] q = true from fun z => nomatch z)]
          simp_arith! only [f16_b1, lsD, hat, e1, cmp_is', i2, e0, la, em]
        · rw [List.concat_eq_append] at *
          have eb : badO (F' ++ [p]) q = !PySem.W.dataLt (tuI p.s) (tuI q.s) := by unfold badO; rw [List.getLast?_append]; rfl
          have e0 : eqD (.list ((F' ++ [p]).map eR)) (.list []) = some false := by rw [e0]; congr 1; rw [List.map_append]; cases F' <;> rfl
          have ex : atI ((F' ++ [p]).map eR) (-1) = some (eR p) := by rw [List.map_append]; exact atI_snoc _ _
          have p0 : idxK (eR p) (.int 0) = some (.d (tuI p.s)) := rfl
          have le := le_ints q.s p.s
          rw [eb]
          cases hb : PySem.W.dataLt (tuI p.s) (tuI q.s) with
          | true =>
            rw [hb] at le
            rw [if_neg (by decide)]
            simp_arith! only [f16_b1, lsD, hat, e1, cmp_is', i2, e0, ex, i0, p0, cmp_ge, le, la, em]
          | false =>
            rw [hb] at le
            rw [if_pos (by decide)]
            simp_arith! only [f16_b1, lsD, hat, e1, cmp_is', i2, e0, ex, i0, p0, cmp_ge, le]
      have er : readT F pre.length (x :: ls) = if badO F q = true then .inl pre.length else readT (F ++ [q]) (pre.length + 1) ls := by show (match rowT x with | none => _ | some q => _) = _; rw [hr]
      rw [er]
      by_cases hb : badO F q = true
      · rw [if_pos hb] at good ⊢
        rw [good]
        rfl
      · rw [if_neg hb] at good ⊢
        rw [good, Res.bind_ok]
        have ih := lrd_for H (LS := LS) (st := st) ls (pre ++ [x]) (F ++ [q]) (some (.d (.int ((pre.length : Nat) : Int)))) (some (.d (eR q))) (by rw [e, List.append_assoc]; rfl) hx' (fun r hr' => by
          rcases List.mem_append.mp hr' with h | h
          · exact hF r h
          · rw [List.mem_singleton.mp h]; exact row_ok hr) (by rw [List.length_append, List.length_singleton]; rw [List.length_cons] at hl; omega)
        have el : (pre ++ [x]).length = pre.length + 1 := by rw [List.length_append, List.length_singleton]
        rw [el] at ih
        exact ih
theorem lread_ok {Φ : Phi} (H : LlineH Φ) {ls : List Str} (h : Lns ls) {st : Stt} : leaveW st.length (semSs Φ f16.body [some (.d (lsD ls)), none, none, none] st) = .ok (.d (resR (readT [] 0 ls))) st := by
  have r := lrd_for H (LS := ls) (st := st) ls [] [] none none rfl h.tx (fun r hr => nomatch hr) (by have := h.len; show 0 + _ < 1000; omega)
  have ok : rngOk ((((ls.map PyData.str).length : Nat)) : Int) = true := by rw [List.length_map]; exact rngOk_s (by omega) (by have := h.len; omega)
  have hk : ((ls.map PyData.str).length ≤ lineN) = True := n_le (by rw [List.length_map]; have := h.len; omega)
  have el : ((((ls.map PyData.str).length : Nat)) : Int) = ((ls.length : Nat) : Int) := by rw [List.length_map]
  rw [el] at ok
  cases hr : readT [] 0 ls with
  | inr G =>
    rw [show ([] : List Str).length = 0 from rfl, hr] at r
    obtain ⟨y2, y3, e⟩ := r
    have e : forL (stepF Φ (.nm 2) f16_b1) (rngL 0 ((ls.length : Nat) : Int)) [some (.d (.list (ls.map PyData.str))), some (.own (.lst [])), none, none] st = _ := e
    simp_arith! only [f16, lsD, hk, el, ok, e, resR]
  | inl j =>
    rw [show ([] : List Str).length = 0 from rfl, hr] at r
    have e : forL (stepF Φ (.nm 2) f16_b1) (rngL 0 ((ls.length : Nat) : Int)) [some (.d (.list (ls.map PyData.str))), some (.own (.lst [])), none, none] st = _ := r
    simp_arith! only [f16, lsD, hk, el, ok, e, resR]
/-- the law's asking -/
theorem tre_o {ms : List (Str × Bool)} {n : Option Nat} {h : Hs} {ρ : Rho} {fl : Fl} {s : Stt} : treK ms n h ρ (.ok fl s) = .ok fl s := rfl
theorem told_ok {Φ : Phi} (H : ∀ (ls : List Str) (st : Stt), Lns ls → Φ 8 [.d (lsD ls)] st = match readT [] 0 ls with
    | .inr G => .ok (.d (.tuple (G.map eR))) st
    | .inl j => .ex ⟨"NoLines", [("row", .int (j : Nat))]⟩ st) {ls : List Str} (h : Lns ls) {st : Stt} : leaveW st.length (semSs Φ f17.body [some (.d (lsD ls)), none, none, none] st) = .ok (.d (resR (readT [] 0 ls))) st := by
  have e := H ls st h
  cases hr : readT [] 0 ls with
  | inr G =>
    rw [hr] at e
    have e : Φ 8 [.d (lsD ls)] st = .ok (.d (.tuple (G.map eR))) st := e
    simp_arith! only [f17, e, tre_o, resR]
  | inl j =>
    rw [hr] at e
    have e : Φ 8 [.d (lsD ls)] st = .ex ⟨"NoLines", [("row", .int (j : Nat))]⟩ st := e
    have t : treK [("NoLines", true)] (some 2) (.set 3 (.isx [("NoLines", false)]) (.ite (.an (.isx [("NoLines", true)]) (.an (.isx [("NoLines", true)]) (.nt (.var 3)))) 1 (.fld "row") .nil)) [some (.d (lsD ls)), some (.d (.str "other")), none, none] (.ex ⟨"NoLines", [("row", .int (j : Nat))]⟩ st) = .ok (.nx [some (.d (lsD ls)), some (.d (.int (j : Nat))), none, some (.d (.bool false))]) st := tre_x (by rfl) rfl (by rfl)
    simp_arith! only [f17, e, t, resR]
/-! ### the draws -/
def nT (i : Int) : Str := Str.ofString (toString i)
theorem nT_len {i : Int} {k : Nat} (h : 0 ≤ i) (hk : 0 < k) (h1 : i.toNat < 10 ^ k) : (nT i).length ≤ k := by
  have e : cps (nT i) = TL.numL i.toNat := by
    have : cps (nT ((i.toNat : Nat) : Int)) = TL.numL i.toNat := text_nat i.toNat
    rwa [show ((i.toNat : Nat) : Int) = i by omega] at this
  rw [← cps_len, e]
  exact TL.numL_len hk h1
def Sm (n : Nat) (x : Str) : Prop := PyData.strOk x = true ∧ x.length ≤ n
theorem Sm.up {n m : Nat} {x : Str} (h : Sm n x) (hn : n ≤ m) : Sm m x := ⟨h.1, Nat.le_trans h.2 hn⟩
theorem Sm.tx {n : Nat} {x : Str} (h : Sm n x) (hn : n ≤ 100000) : Tx x := ⟨h.1, Nat.le_trans h.2 hn⟩
theorem Sm.app {n m : Nat} {x y : Str} (h : Sm n x) (g : Sm m y) : Sm (n + m) (x ++ y) := ⟨app_ok h.1 g.1, by rw [app_len]; have := h.2; have := g.2; omega⟩
theorem Sm.cut {n : Nat} {x : Str} (h : Sm n x) (lo hi : Option Int) : Sm n (cutS x lo hi) := ⟨cutS_ok h.1 lo hi, Nat.le_trans (cutS_len x lo hi) h.2⟩
theorem Sm.nT {i : Int} {k : Nat} (h : 0 ≤ i) (hk : 0 < k) (h1 : i.toNat < 10 ^ k) : Sm k (nT i) := ⟨strOk_of _, nT_len h hk h1⟩
theorem Sm.con (x : String) {n : Nat} (h : (x : Str).length ≤ n) : Sm n (x : Str) := ⟨strOk_of _, h⟩
theorem cps_rep (x : Str) (k : Int) : cps (repS x k) = (List.replicate k.toNat (cps x)).flatten := rfl
theorem rep_0 (x : Str) : repS x 0 = "" := by rw [str_ext, cps_rep]; rfl
theorem rep_1 (x : Str) : repS x 1 = x := by rw [str_ext, cps_rep]; show (cps x ++ []) = _; rw [List.append_nil]
theorem strs_of {n : Nat} : ∀ {ys : List PyData}, (∀ y ∈ ys, ∃ s, y = .str s ∧ Sm n s) → ∃ ts : List Str, ys = ts.map PyData.str ∧ ∀ s ∈ ts, Sm n s
  | [], _ => ⟨[], rfl, fun _ h => nomatch h⟩
  | y :: ys, h => by
    obtain ⟨s, rfl, hs⟩ := h y List.mem_cons_self
    obtain ⟨ts, rfl, ht⟩ := strs_of fun z hz => h z (List.mem_cons_of_mem _ hz)
    refine ⟨s :: ts, rfl, fun t h => ?_⟩
    rcases List.mem_cons.mp h with rfl | h
    · exact hs
    · exact ht t h
theorem add_sS {n m : Nat} {x y : Str} (h : Sm n x) (g : Sm m y) (hk : n + m ≤ 1000000) : (x.length + y.length ≤ lineN) = True := eq_true (le_line (b := n + m) (by have := h.2; have := g.2; omega) (by omega))
theorem p40 : ((0 : Int) ≤ 40 ∧ (40 : Int) ≤ 1000000 ∧ within64 10 = true) = True := eq_true (by decide)
theorem t40 : (10 : Int) ^ (40 : Int).toNat = 10 ^ 40 := rfl
theorem s_str {i : Int} (h : i.natAbs ≤ 10 ^ 60) : bifD .str [.int i] = some (.d (.str (nT i))) := bif_str_i (small_b h)
theorem mth_join' {ts : List Str} (sep : Str) (h : (ts.map (·.length)).sum + ts.length * sep.length ≤ lineN) : mthD .join (.str sep) [.list (ts.map PyData.str)] = some (.d (.str (Txt.join sep ts))) := by
  show (allS _).bind _ = _
  rw [allS_str, Option.bind_some, if_pos h]
def jl (ts : List Str) : Nat := (ts.map (·.length)).sum + ts.length
theorem jl_cons (t : Str) (ts : List Str) : jl (t :: ts) = t.length + 1 + jl ts := by
  unfold jl
  rw [List.map_cons, List.sum_cons, List.length_cons]
  omega
theorem jl_app (a b : List Str) : jl (a ++ b) = jl a + jl b := by
  induction a with
  | nil => unfold jl; simp
  | cons t a ih => rw [List.cons_append, jl_cons, jl_cons, ih]; omega
theorem join_len {sep : Str} (hs : PyData.strOk sep = true) (hl : sep.length = 1) : ∀ (ts : List Str), (∀ p ∈ ts, PyData.strOk p = true) → PyData.strOk (Str.join sep ts) = true ∧ (Str.join sep ts).length ≤ jl ts ∧ (ts ≠ [] → (Str.join sep ts).length + 1 = jl ts)
  | [], _ => ⟨show PyData.strOk (⟨#[]⟩ : Str) = true by decide +kernel, Nat.zero_le _, fun h => absurd rfl h⟩
  | [x], h => by
    rw [PyProof.Rows.join_one]
    have e : jl [x] = x.length + 1 := by rw [jl_cons]; rfl
    exact ⟨h x (List.mem_singleton.mpr rfl), by omega, fun _ => e.symm⟩
  | x :: y :: r, h => by
    have ih := join_len hs hl (y :: r) fun p hp => h p (List.mem_cons_of_mem _ hp)
    rw [PyProof.Rows.join_cons_cons]
    have e := ih.2.2 (by simp)
    have g := jl_cons x (y :: r)
    refine ⟨app_ok (app_ok (h x List.mem_cons_self) hs) ih.1, ?_, fun _ => ?_⟩ <;> rw [app_len, app_len, hl, g] <;> omega
theorem jl_split {x : Str} : jl (Txt.split x " ") = x.length + 1 := by
  have e1 : (" " : Str).length = 1 := by decide
  have e : ∀ ts : List Str, ts ≠ [] → (Str.join " " ts).length + 1 = jl ts := by
    intro ts
    induction ts with
    | nil => intro h; exact absurd rfl h
    | cons t ts ih =>
      intro _
      cases ts with
      | nil => rw [PyProof.Rows.join_one, jl_cons]; rfl
      | cons u r => rw [PyProof.Rows.join_cons_cons, app_len, app_len, jl_cons, ← ih (by simp), e1]; omega
  rw [← e _ (split_ne x " "), PySem.StrLaws.join_split]
theorem join_sp {ts : List Str} {n : Nat} (h : ∀ p ∈ ts, PyData.strOk p = true) (hn : jl ts ≤ n) (hk : n ≤ 1000000) : mthD .join (.str " ") [.list (ts.map PyData.str)] = some (.d (.str (Txt.join " " ts))) ∧ Sm n (Txt.join " " ts) := by
  have e1 : (" " : Str).length = 1 := by decide
  have g := join_len (sep := " ") (strOk_of _) e1 ts h
  refine ⟨mth_join' _ (le_line (b := n) (by rw [e1, Nat.mul_one]; exact hn) (by omega)), ?_⟩
  rw [txt_join]
  exact ⟨g.1, Nat.le_trans g.2.1 hn⟩
theorem line_ok {Φ : Phi} (N : NextH Φ 9 10) {m : Nat} {c : C} (hc : FeedN m c) (hm : m ≤ 100000) : Wp (leaveW ([c] : Stt).length (semSs Φ f11.body [some (.loc 0), none, none, none, none] [c])) fun w st' => ∃ x c', w = .d (.str x) ∧ st' = [c'] ∧ FeedN (m + 12) c' ∧ Sm 100 x := by
  refine wp_leave ?_
  simp_arith! only [Wp_ok, Wp_bind, Wp_nox, f11]
  refine N.wp hc (by omega) (by decide) (by decide) fun r c h0 h1 hc => ?_
  have e1 := s_str (i := r) (by omega)
  simp_arith! only [Wp_ok, Wp_bind, Wp_nox, e1]
  refine N.wp hc (by omega) (by decide) (by decide) fun q c q0 q1 hc => ?_
  have hr : rngOk q = true := rngOk_s (by omega) (by omega)
  simp_arith only [Wp_ok, Wp_bind, Wp_nox, hr, if_true]
  have hql : (rngL 0 q).length ≤ 4 := by rw [rng_len]; omega
  refine wp_compN (fun j st => ∃ c, st = [c] ∧ FeedN (m + 2 + j) c) (fun y => ∃ s, y = .str s ∧ Sm 2 s) 4 0 (by omega) ⟨c, rfl, hc⟩ (fun y hy j st hj hst => ?_) fun ys st hst hl hys => ?_
  · obtain ⟨c, rfl, hc⟩ := hst
    simp_arith! only [Wp_ok, Wp_bind, Wp_nox]
    refine N.wp hc (by omega) (by decide) (by decide) fun u c u0 u1 hc => ?_
    have e2 := s_str (i := 1 + u) (by omega)
    simp_arith! only [Wp_ok, Wp_bind, Wp_nox, e2]
    exact ⟨⟨c, rfl, hc⟩, _, rfl, _, rfl, Sm.nT (by omega) (by decide) (by omega)⟩
  obtain ⟨c, rfl, hc⟩ := hst
  have hc : FeedN (m + 6) c := hc.up (by omega)
  obtain ⟨ts, rfl, hts⟩ := strs_of hys
  rw [List.length_map] at hl
  have hk : (([PyData.str (nT r)].length + (ts.map PyData.str).length) ≤ lineN) = True := eq_true (le_line (b := 5) (by rw [List.length_map]; show 1 + _ ≤ 5; omega) (by decide))
  have hk0 : ((ts.map PyData.str).length ≤ lineN) = True := eq_true (le_line (b := 4) (by rw [List.length_map]; omega) (by decide))
  have ap : [PyData.str (nT r)] ++ ts.map PyData.str = (nT r :: ts).map PyData.str := rfl
  have hr2 : Sm 2 (nT r) := Sm.nT h0 (by decide) (by omega)
  have hall : ∀ p ∈ nT r :: ts, PyData.strOk p = true ∧ p.length ≤ 2 := fun p hp => by
    rcases List.mem_cons.mp hp with rfl | hp
    · exact hr2
    · exact hts p hp
  have jn : mthD .join (.str ".") [.list ((nT r :: ts).map PyData.str)] = some (.d (.str (Txt.join "." (nT r :: ts)))) := mth_join (n := 2) (by decide) (fun p hp => (hall p hp).2) (le_line (b := 15) (by rw [List.length_cons]; omega) (by decide))
  have hJ : Sm 15 (Txt.join "." (nT r :: ts)) := by
    have g := join_ok (sep := ".") (n := 2) (strOk_of _) (by decide) (nT r :: ts) hall
    exact ⟨g.1, Nat.le_trans g.2 (by rw [List.length_cons]; omega)⟩
  generalize Txt.join "." (nT r :: ts) = J at jn hJ
  simp_arith! only [Wp_ok, Wp_bind, Wp_nox, hk, hk0, ap, jn]
  refine N.wp hc (by omega) (by decide) (by decide) fun u c u0 u1 hc => ?_
  simp_arith! only [Wp_ok, Wp_bind, Wp_nox]
  refine wp_atP (fun y => ∃ s : Str, y = .str s ∧ Sm 4 s) u0 u1 (fun y hy => ?_) fun y hy => ?_
  · simp only [List.mem_cons, List.not_mem_nil, or_false] at hy
    rcases hy with rfl | rfl | rfl <;> exact ⟨_, rfl, strOk_of _, by decide⟩
  obtain ⟨w, rfl, hw⟩ := hy
  simp_arith! only [Wp_ok, Wp_bind, Wp_nox]
  refine N.wp hc (by omega) (by decide) (by decide) fun v c v0 v1 hc => ?_
  simp_arith! only [Wp_ok, Wp_bind, Wp_nox, p40, t40]
  refine N.wp hc (by omega) (by decide) (by decide) fun z c z0 z1 hc => ?_
  simp_arith! only [Wp_ok, Wp_bind, Wp_nox]
  refine wp_atP (fun y => ∃ i : Int, y = .int i ∧ 0 ≤ i ∧ i < 10 ^ 40) z0 z1 (fun y hy => ?_) fun y hy => ?_
  · simp only [List.mem_cons, List.not_mem_nil, or_false] at hy
    rcases hy with rfl | rfl | rfl <;> exact ⟨_, rfl, by omega, by omega⟩
  obtain ⟨n, rfl, n0, n1⟩ := hy
  have e3 := s_str (i := n) (by omega)
  have hn : Sm 40 (nT n) := Sm.nT n0 (by decide) (by omega)
  have a1 := add_sS (Sm.con " " (n := 1) (by decide)) hn (by decide)
  have hv : Sm 41 ((" " : Str) ++ nT n) := (Sm.con " " (n := 1) (by decide)).app hn
  simp_arith! only [Wp_ok, Wp_bind, Wp_nox, e3, add_ss, a1]
  generalize ((" " : Str) ++ nT n) = V at hv
  have a2 := add_sS hJ (Sm.con " " (n := 1) (by decide)) (by decide)
  have hJ1 := hJ.app (Sm.con " " (n := 1) (by decide))
  have a3 := add_sS hJ1 hw (by decide)
  have hJ2 := hJ1.app hw
  simp_arith! only [Wp_ok, Wp_bind, Wp_nox, add_ss, a2, a3]
  generalize (J ++ " " ++ w) = U at hJ2
  have m1 : ((0 : Int) ≤ 1 ∧ (1 : Int) ≤ 1000 ∧ V.length ≤ 1000) = True := eq_true ⟨by decide, by decide, by have := hv.2; omega⟩
  have m0 : ((0 : Int) ≤ 0 ∧ (0 : Int) ≤ 1000 ∧ V.length ≤ 1000) = True := eq_true ⟨by decide, by decide, by have := hv.2; omega⟩
  have l5 : ∀ y ∈ [PyData.int 0, .int 0, .int 1, .int 12, .int 99], ∃ i : Int, y = .int i ∧ 0 ≤ i ∧ i < 100 := fun y hy => by
    simp only [List.mem_cons, List.not_mem_nil, or_false] at hy
    rcases hy with rfl | rfl | rfl | rfl | rfl <;> exact ⟨_, rfl, by decide, by decide⟩
  have go : ∀ (Y : Str), Sm 61 Y → ∀ i : Int, 0 ≤ i → i < 100 → ((Y.length + (" " : Str).length ≤ lineN) = True ∧ ((Y ++ " ").length + (nT i).length ≤ lineN) = True) ∧ bifD .str [.int i] = some (.d (.str (nT i))) ∧ Sm 100 (Y ++ " " ++ nT i) := fun Y hY i h0 h1 => by
    have b1 := Sm.con " " (n := 1) (by decide)
    have b2 := Sm.nT (i := i) (k := 2) h0 (by decide) (by omega)
    exact ⟨⟨add_sS hY b1 (by decide), add_sS (hY.app b1) b2 (by decide)⟩, s_str (by omega), ((hY.app b1).app b2).up (by decide)⟩
  by_cases cw : w = "cut"
  · have dc : decide (w = "cut") = true := decide_eq_true cw
    have a4 : (U.length + ("" : Str).length ≤ lineN) = True := add_sS hJ2 (Sm.con "" (n := 0) (by decide)) (by decide)
    have hU : Sm 61 (U ++ "") := (hJ2.app (Sm.con "" (n := 0) (by decide))).up (by decide)
    have g1 := (go _ hU 0 (by decide) (by decide)).1.1
    simp_arith! only [Wp_ok, Wp_bind, Wp_nox, dc, bif_int, intD_b, mul_si, m0, rep_0, add_ss, a4, g1]
    refine N.wp hc (by omega) (by decide) (by decide) fun x c x0 x1 hc => ?_
    simp_arith! only [Wp_ok, Wp_bind, Wp_nox]
    refine wp_atP (fun y => ∃ i : Int, y = .int i ∧ 0 ≤ i ∧ i < 100) x0 x1 l5 fun y hy => ?_
    obtain ⟨i, rfl, i0, i1⟩ := hy
    obtain ⟨⟨_, g2⟩, g3, g4⟩ := go _ hU i i0 i1
    simp_arith! only [Wp_ok, Wp_bind, Wp_nox, g3, add_ss, g2]
    exact ⟨_, c, rfl, rfl, hc.up (by omega), g4⟩
  · have dc : decide (w = "cut") = false := decide_eq_false cw
    have a4 := add_sS hJ2 hv (by decide)
    have hU : Sm 61 (U ++ V) := (hJ2.app hv).up (by decide)
    have g1 := (go _ hU 0 (by decide) (by decide)).1.1
    simp_arith! only [Wp_ok, Wp_bind, Wp_nox, dc, bif_int, intD_b, mul_si, m1, rep_1, add_ss, a4, g1]
    refine N.wp hc (by omega) (by decide) (by decide) fun x c x0 x1 hc => ?_
    simp_arith! only [Wp_ok, Wp_bind, Wp_nox]
    refine wp_atP (fun y => ∃ i : Int, y = .int i ∧ 0 ≤ i ∧ i < 100) x0 x1 l5 fun y hy => ?_
    obtain ⟨i, rfl, i0, i1⟩ := hy
    obtain ⟨⟨_, g2⟩, g3, g4⟩ := go _ hU i i0 i1
    simp_arith! only [Wp_ok, Wp_bind, Wp_nox, g3, add_ss, g2]
    exact ⟨_, c, rfl, rfl, hc.up (by omega), g4⟩

/-- what is odd -/
theorem bent_ok {Φ : Phi} (N : NextH Φ 9 10) {m : Nat} {c : C} (hc : FeedN m c) (hm : m ≤ 100000) {n : Nat} {x : Str} (hx : Sm n x) (hn : n ≤ 10000) : Wp (leaveW ([c] : Stt).length (semSs Φ f12.body [some (.loc 0), some (.d (.str x)), none, none, none, none, none, none, none] [c])) fun w st' => ∃ y c', w = .d (.str y) ∧ st' = [c'] ∧ FeedN (m + 6) c' ∧ Sm (2 * n + 100) y := by
  have tx := hx.tx (by omega)
  have ln : (x.length ≤ lineN) = True := tx.line
  have hlen := hx.2
  refine wp_leave ?_
  have k16 : ∀ {a b c d e f g h i j k l m n o p : PyData}, ([a, b, c, d, e, f, g, h, i, j, k, l, m, n, o, p].length ≤ lineN) = True := eq_true (Nat.le_of_ble_eq_true rfl)
  have m41 : ((0 : Int) ≤ 41 ∧ (41 : Int) ≤ 1000 ∧ ("9" : Str).length ≤ 1000) = True := eq_true ⟨by decide, by decide, by decide⟩
  have m40 : ((0 : Int) ≤ 40 ∧ (40 : Int) ≤ 1000 ∧ ("9" : Str).length ≤ 1000) = True := eq_true ⟨by decide, by decide, by decide⟩
  have k168 : ∀ {a b c d e f g h i j k l m n o p A B C D E F G H : PyData}, (([a, b, c, d, e, f, g, h, i, j, k, l, m, n, o, p].length + [A, B, C, D, E, F, G, H].length) ≤ lineN) = True := eq_true (Nat.le_of_ble_eq_true rfl)
  simp_arith! only [Wp_ok, Wp_bind, Wp_nox, f12, k16, mul_si, m41, m40, k168]
  refine N.wp hc (by omega) (by decide) (by decide) fun r c h0 h1 hc => ?_
  simp_arith! only [Wp_ok, Wp_bind, Wp_nox]
  refine wp_atP (fun y => ∃ s : Str, y = .str s ∧ Sm 41 s) h0 h1 (fun y hy => ?_) fun y hy => ?_
  · simp only [List.cons_append, List.nil_append, List.mem_cons, List.not_mem_nil, or_false] at hy
    rcases hy with rfl | rfl | rfl | rfl | rfl | rfl | rfl | rfl | rfl | rfl | rfl | rfl | rfl | rfl | rfl | rfl | rfl | rfl | rfl | rfl | rfl | rfl | rfl | rfl <;> first | exact ⟨_, rfl, Sm.con _ (by decide)⟩ | exact ⟨_, rfl, by decide +kernel, by decide +kernel⟩
  obtain ⟨w, rfl, hw⟩ := hy
  simp_arith! only [Wp_ok, Wp_bind, Wp_nox, bif_len_s, ln]
  refine N.wp hc (by omega) (by omega) (by omega) fun a c a0 a1 hc => ?_
  simp_arith! only [Wp_ok, Wp_bind, Wp_nox]
  refine N.wp hc (by omega) (by decide) (by decide) fun d c d0 d1 hc => ?_
  have sep : ((((" " : String) : Str).length == 0) = false ∧ x.length + 2 ≤ lineN) = True := eq_true ⟨by decide, le_line (b := x.length + 2) (Nat.le_refl _) (by omega)⟩
  have cnt := cnt_ok tx " "
  have ck : (((Txt.split x " ").map PyData.str).length ≤ lineN) = True := eq_true (by rw [List.length_map]; exact cnt)
  have jx := jl_split (x := x)
  have pos : 0 < (Txt.split x " ").length := List.length_pos_iff.mpr (split_ne x " ")
  have okw : ∀ p ∈ Txt.split x " ", PyData.strOk p = true := fun p hp => (tx.piece hp).1
  have cle : (Txt.split x " ").length ≤ n + 1 := by have : (Txt.split x " ").length ≤ jl (Txt.split x " ") := Nat.le_add_left _ _; omega
  generalize hW : Txt.split x " " = ws at ck jx pos okw cle cnt
  simp_arith! only [Wp_ok, Wp_bind, Wp_nox, mth_split, sep, hW, ck]
  have lw : (((ws.map PyData.str).length : Nat) : Int) = ((ws.length : Nat) : Int) := by rw [List.length_map]
  refine N.wp hc (by omega) (by rw [lw]; omega) (by rw [lw]; omega) fun p c p0 p1 hc => ?_
  rw [lw] at p1
  obtain ⟨q, rfl⟩ : ∃ q : Nat, p = (q : Int) := ⟨p.toNat, by omega⟩
  have ct : cutD (ws.map PyData.str) none (some (q : Int)) = (ws.take q).map PyData.str := by rw [cut_to, List.map_take]
  have cf : cutD (ws.map PyData.str) (some (q : Int)) none = (ws.drop q).map PyData.str := by rw [cut_from, List.map_drop]
  have cf1 : cutD (ws.map PyData.str) (some ((q : Int) + 1)) none = (ws.drop (q + 1)).map PyData.str := by
    rw [show (q : Int) + 1 = ((q + 1 : Nat) : Int) by omega, cut_from, List.map_drop]
  have jw : jl (ws.take q) + jl (ws.drop q) = jl ws := by rw [← jl_app, List.take_append_drop]
  have jd : jl (ws.drop (q + 1)) ≤ jl (ws.drop q) := by
    cases hd : ws.drop q with
    | nil => rw [List.drop_eq_nil_iff] at hd; rw [List.drop_eq_nil_of_le (by omega)]; exact Nat.zero_le _
    | cons t ts =>
      have : ws.drop (q + 1) = ts := by rw [← List.drop_drop (i := 1), hd]; rfl
      rw [this, jl_cons]; omega
  have okT : ∀ p ∈ ws.take q, PyData.strOk p = true := fun p hp => okw p (List.mem_of_mem_take hp)
  have okD : ∀ k, ∀ p ∈ ws.drop k, PyData.strOk p = true := fun k p hp => okw p (List.mem_of_mem_drop hp)
  have lenT : (ws.take q).length ≤ n + 1 := by rw [List.length_take]; omega
  have lenD : ∀ k, (ws.drop k).length ≤ n + 1 := fun k => by rw [List.length_drop]; omega
  generalize ws.take q = Lp at ct jw okT lenT
  have j1 := join_sp (ts := Lp ++ [w] ++ ws.drop (q + 1)) (n := 2 * n + 100) (fun p hp => by
    rcases List.mem_append.mp hp with hp | hp
    · rcases List.mem_append.mp hp with hp | hp
      · exact okT p hp
      · rw [List.mem_singleton.mp hp]; exact hw.1
    · exact okD _ p hp) (by rw [jl_app, jl_app, jl_cons]; have := hw.2; have : jl ([] : List Str) = 0 := rfl; omega) (by omega)
  have j2 := join_sp (ts := Lp ++ ws.drop (q + 1)) (n := 2 * n + 100) (fun p hp => by
    rcases List.mem_append.mp hp with hp | hp
    · exact okT p hp
    · exact okD _ p hp) (by rw [jl_app]; omega) (by omega)
  have j3 := join_sp (ts := ws.drop q ++ Lp) (n := 2 * n + 100) (fun p hp => by
    rcases List.mem_append.mp hp with hp | hp
    · exact okD _ p hp
    · exact okT p hp) (by rw [jl_app]; omega) (by omega)
  rw [List.map_append, List.map_append, List.map_cons, List.map_nil] at j1
  rw [List.map_append] at j2 j3
  have z1 : ((Lp.map PyData.str).length + [PyData.str w].length ≤ lineN) = True := eq_true (le_line (b := n + 2) (by rw [List.length_map]; show _ + 1 ≤ _; omega) (by omega))
  have z2 : ((Lp.map PyData.str ++ [PyData.str w]).length + ((ws.drop (q + 1)).map PyData.str).length ≤ lineN) = True := eq_true (le_line (b := 2 * n + 4) (by rw [List.length_append, List.length_map, List.length_map]; have := lenD (q + 1); show _ + 1 + _ ≤ _; omega) (by omega))
  have z3 : ((Lp.map PyData.str).length + ((ws.drop (q + 1)).map PyData.str).length ≤ lineN) = True := eq_true (le_line (b := 2 * n + 4) (by rw [List.length_map, List.length_map]; have := lenD (q + 1); omega) (by omega))
  have z4 : (((ws.drop q).map PyData.str).length + (Lp.map PyData.str).length ≤ lineN) = True := eq_true (le_line (b := 2 * n + 4) (by rw [List.length_map, List.length_map]; have := lenD q; omega) (by omega))
  have hA := hx.cut none (some a)
  have hB := hx.cut (some a) none
  have hC := hx.cut (some (a + d)) none
  have hE := hx.app (Sm.con " " (n := 1) (by decide))
  have a1 := add_sS hA hw (by omega)
  have a2 := add_sS (hA.app hw) hB (by omega)
  have a3 := add_sS (hA.app hw) hC (by omega)
  have a4 := add_sS hA hC (by omega)
  have a5 := add_sS hx (Sm.con " " (n := 1) (by decide)) (by omega)
  have a6 := add_sS hE hw (by omega)
  have ap5 : ∀ a b c d e : PyData, ([a, b, c, d, e].length < lineN) = True := fun _ _ _ _ _ => eq_true (Nat.lt_of_lt_of_le (show 5 < 1000 by decide) (Nat.le_of_ble_eq_true rfl))
  have ap6 : ∀ a b c d e f : PyData, ([a, b, c, d, e, f].length < lineN) = True := fun _ _ _ _ _ _ => eq_true (Nat.lt_of_lt_of_le (show 6 < 1000 by decide) (Nat.le_of_ble_eq_true rfl))
  have ap7 : ∀ a b c d e f g : PyData, ([a, b, c, d, e, f, g].length < lineN) = True := fun _ _ _ _ _ _ _ => eq_true (Nat.lt_of_lt_of_le (show 7 < 1000 by decide) (Nat.le_of_ble_eq_true rfl))
  simp_arith! only [Wp_ok, Wp_bind, Wp_nox, slK_s, ln, add_ss, a1, a2, a3, a4, a5, a6, ct, cf, cf1, z1, z2, z3, z4, j1.1, j2.1, j3.1, ap5, ap6, ap7]
  refine N.wp hc (by omega) (by decide) (by decide) fun u c u0 u1 hc => ?_
  simp_arith! only [Wp_ok, Wp_bind, Wp_nox]
  refine wp_atP (fun y => ∃ s : Str, y = .str s ∧ Sm (2 * n + 100) s) u0 u1 (fun y hy => ?_) fun y hy => ?_
  · simp only [List.cons_append, List.nil_append, List.mem_cons, List.not_mem_nil, or_false] at hy
    rcases hy with rfl | rfl | rfl | rfl | rfl | rfl | rfl | rfl
    · exact ⟨_, rfl, ((hA.app hw).app hB).up (by omega)⟩
    · exact ⟨_, rfl, ((hA.app hw).app hC).up (by omega)⟩
    · exact ⟨_, rfl, (hA.app hC).up (by omega)⟩
    · exact ⟨_, rfl, hw.up (by omega)⟩
    · exact ⟨_, rfl, (hE.app hw).up (by omega)⟩
    · exact ⟨_, rfl, j1.2⟩
    · exact ⟨_, rfl, j2.2⟩
    · exact ⟨_, rfl, j3.2⟩
  obtain ⟨y, rfl, hy⟩ := hy
  simp_arith! only [Wp_ok, Wp_bind, Wp_nox]
  exact ⟨_, c, rfl, rfl, hc.up (by omega), hy⟩
/-! ### the law -/
theorem w0' (k : Nat) : OkWhole (phi fs (k + 1)) 0 := okWhole rfl
theorem u1' (k : Nat) : OkUp (phi fs (k + 2)) 1 := okUp (gw := 0) rfl (w0' k)
theorem s2' (k : Nat) : OkB (phi fs (k + 3)) 2 seatB := okSeat (gu := 1) rfl (u1' k)
theorem nexH' (k : Nat) : NextH (phi fs (k + 1)) 9 10 := nextH rfl rfl
theorem rnumH (k : Nat) : NumH (phi fs (k + 1)) := fun x st h => by rw [phi_at (f := f5) rfl ⟨rfl, by decide⟩]; exact read_ok h
theorem cntH (k : Nat) : CntH (phi fs (k + 1)) := fun y st h => by rw [phi_at (f := f3) rfl ⟨rfl, by decide⟩]; exact wcnt_ok h
theorem rowsH (k : Nat) : RowsH (phi fs (k + 4)) where
  seat := fun x st h => by rw [phi_at (f := f6) rfl ⟨rfl, by decide⟩, ← seatOf_T]; exact rseat_ok (rnumH (k + 2)) (s2' k) h
  num := rnumH (k + 3)
  row := fun a w N M n m st h1 h2 h3 h4 => by rw [phi_at (f := f4) rfl ⟨rfl, by decide⟩]; exact prow_ok (s2' k) (cntH (k + 2)) h1 h2 h3 h4
theorem lineH (k : Nat) : LineH (phi fs (k + 5)) := fun x st h => by rw [phi_at (f := f7) rfl ⟨rfl, by decide⟩]; exact rrow_ok (rowsH k) h
theorem lnumH (k : Nat) : LnumH (phi fs (k + 1)) := fun x st h => by rw [phi_at (f := f13) rfl ⟨rfl, by decide⟩]; exact lnum_ok h
theorem lrowsH (k : Nat) : LrowsH (phi fs (k + 2)) where
  seat := fun x st h => by rw [phi_at (f := f14) rfl ⟨rfl, by decide⟩]; exact lseat_ok (lnumH k) h
  num := lnumH (k + 1)
theorem llineH (k : Nat) : LlineH (phi fs (k + 3)) := fun x st h => by rw [phi_at (f := f15) rfl ⟨rfl, by decide⟩]; exact lrow_ok (lrowsH k) h
structure LawH (Φ : Phi) : Prop extends NextH Φ 9 10 where
  line : ∀ (m : Nat) (c : C), FeedN m c → m ≤ 100000 → Wp (Φ 11 [.loc 0] [c]) fun w st' => ∃ x c', w = .d (.str x) ∧ st' = [c'] ∧ FeedN (m + 12) c' ∧ Sm 100 x
  bent : ∀ (m n : Nat) (c : C) (x : Str), FeedN m c → m ≤ 100000 → Sm n x → n ≤ 10000 → Wp (Φ 12 [.loc 0, .d (.str x)] [c]) fun w st' => ∃ y c', w = .d (.str y) ∧ st' = [c'] ∧ FeedN (m + 6) c' ∧ Sm (2 * n + 100) y
  told : ∀ (ls : List Str) (st : Stt), Lns ls → Φ 17 [.d (lsD ls)] st = .ok (.d (resR (readT [] 0 ls))) st
  read : ∀ (ls : List Str) (st : Stt), Lns ls → Φ 16 [.d (lsD ls)] st = .ok (.d (resR (readT [] 0 ls))) st
theorem lawH (k : Nat) : LawH (phi fs (k + 8)) := { nexH' (k + 7) with
  line := fun m c hc hm => by rw [phi_at (f := f11) rfl ⟨rfl, by decide⟩]; exact line_ok (nexH' (k + 6)) hc hm
  bent := fun m n c x hc hm hx hn => by rw [phi_at (f := f12) rfl ⟨rfl, by decide⟩]; exact bent_ok (nexH' (k + 6)) hc hm hx hn
  told := fun ls st h => by
    rw [phi_at (f := f17) rfl ⟨rfl, by decide⟩]
    exact told_ok (fun ls st h => by rw [phi_at (f := f8) rfl ⟨rfl, by decide⟩]; exact rpaper_ok (lineH (k + 1)) h) h
  read := fun ls st h => by rw [phi_at (f := f16) rfl ⟨rfl, by decide⟩]; exact lread_ok (llineH (k + 4)) h }
theorem res_bd {ls : List Str} (h : Lns ls) : Bd (10 ^ 40) 900000 3 (resR (readT [] 0 ls)) := by
  have hl := h.len
  cases hr : readT [] 0 ls with
  | inl j =>
    have := readT_k ls [] 0 j hr
    have h40 : ((j : Nat) : Int).natAbs ≤ 10 ^ 40 := Nat.le_trans (show ((j : Nat) : Int).natAbs ≤ 100 by omega) (by decide)
    exact bd_mono (bd_int h40) (by decide) (by decide)
  | inr G =>
    obtain ⟨g1, g2⟩ := readT_g ls [] 0 (fun r hr => nomatch hr) G hr
    refine bd_mono (bd_tup (bds_of (n := 20) (S := 40000) (D := 2) (fun x hx => ?_) ?_)) (by decide) (by decide)
    · obtain ⟨r, hr, rfl⟩ := List.mem_map.mp hx
      exact (g1 r hr).bd
    · rw [List.length_map, g2]
      have : ([] : List Rw).length = 0 := rfl
      omega
theorem eqD_lth {xs : List PyData} (h : ∀ x ∈ xs, Th x) : eqD (.list xs) (.list xs) = some true := by
  have h1 : SeqAt.shaped (.list xs) = true := shp_l h
  have hs : (SeqAt.shaped (.list xs) && SeqAt.shaped (.list xs)) = true := by rw [h1]; rfl
  have e : eqD (.list xs) (.list xs) = some (PyData.eqv (.list xs) (.list xs)) := if_pos (e := none) hs
  have hl : (PyData.list xs).canLay0 = true := by
    simp only [PyData.canLay0]
    exact (lay_all _).mpr fun x hx => (h x hx).1
  rw [e, SeqAt.eqv_refl _ hl]
theorem one_ok {Φ : Phi} (H : LawH Φ) {ls : List Str} (h : Lns ls) {x0 x1 x2 x3 x4 x5 x6 x7 x8 : Option W} {st : Stt} : stepF Φ (.nm 5) f18_b1 (lsD ls) [x0, x1, x2, x3, x4, x5, x6, x7, x8] st = .ok (.nx [x0, x1, x2, x3, x4, some (.d (lsD ls)), x6, some (.d (lsD ls)), x8]) st := by
  have e1 := H.told ls st h
  have e2 := H.read ls st h
  have er := (res_bd h).repr (by decide) (by decide) (by decide)
  have ds : decide ((resR (readT [] 0 ls)).shown = (resR (readT [] 0 ls)).shown) = true := decide_eq_true rfl
  have ee : eqD (lsD ls) (lsD ls) = some true := eqD_lth fun x hx => by
    obtain ⟨s, hs, rfl⟩ := List.mem_map.mp hx
    exact tx_th (h.tx s hs)
  have bl : bifD .list [lsD ls] = some (.new (.lst (ls.map PyData.str))) := rfl
  have dt : PyData.list (ls.map PyData.str) = lsD ls := rfl
  simp_arith! only [f18_b1, e1, e2, bif_repr, er, ds, ee, bl, dt]
def LG (ts : List Str) : Prop := (∀ x ∈ ts, Sm 100 x) ∧ ts.length ≤ 4
theorem alike_ss (a b : Str) : PySem.W.alike (.str a) (.str b) = true := by simp only [PySem.W.alike]
theorem sortOk_s (ts : List Str) : sortOk (ts.map PyData.str) = true := by
  unfold sortOk
  rw [Bool.and_eq_true, Bool.and_eq_true, Bool.or_eq_true]
  refine ⟨?_, Or.inr (List.all_eq_true.mpr fun x hx => ?_), List.all_eq_true.mpr fun x hx => ?_⟩
  · unfold alikes
    rw [List.all_eq_true]
    intro x hx
    rw [List.all_eq_true]
    intro y hy
    obtain ⟨a, _, rfl⟩ := List.mem_map.mp hx
    obtain ⟨b, _, rfl⟩ := List.mem_map.mp hy
    exact alike_ss a b
  · obtain ⟨a, _, rfl⟩ := List.mem_map.mp hx
    rfl
  · obtain ⟨a, _, rfl⟩ := List.mem_map.mp hx
    simp [PyData.depth, PyData.hasDict]
def srtS (ts : List Str) : List Str := ts.mergeSort fun a b => leD (.str a) (.str b)
theorem LG.srt {ts : List Str} (h : LG ts) : LG (srtS ts) := by
  have p : (srtS ts).Perm ts := List.mergeSort_perm _ _
  exact ⟨fun x hx => h.1 x (p.mem_iff.mp hx), by rw [p.length_eq]; exact h.2⟩
theorem linesA {Φ : Phi} (H : LawH Φ) {m : Nat} {c : C} (hc : FeedN m c) (hm : m ≤ 50000) {x0 x2 x3 x4 x5 x6 x7 x8 : Option W} :
    Wp (semSs Φ (hdS 2 f18_b2) [x0, some (.loc 0), x2, x3, x4, x5, x6, x7, x8] [c]) fun fl s => ∃ ts c', fl = .nx [x0, some (.loc 0), x2, some (.d (lsD ts)), x4, x5, x6, x7, x8] ∧ s = [c'] ∧ FeedN (m + 60) c' ∧ LG ts := by
  simp_arith! only [Wp_ok, Wp_bind, Wp_nox, f18_b2, hdS]
  refine H.wp hc (by omega) (by decide) (by decide) fun q c q0 q1 hc => ?_
  have hr : rngOk q = true := rngOk_s (by omega) (by omega)
  have hql : (rngL 0 q).length ≤ 4 := by rw [rng_len]; omega
  simp_arith only [Wp_ok, Wp_bind, Wp_nox, hr, if_true]
  refine wp_compN (fun j st => ∃ c, st = [c] ∧ FeedN (m + 1 + 12 * j) c) (fun y => ∃ s, y = .str s ∧ Sm 100 s) 4 0 (by omega) ⟨c, rfl, hc⟩ (fun y hy j st hj hst => ?_) fun ys st hst hl hys => ?_
  · obtain ⟨c, rfl, hc⟩ := hst
    simp_arith! only [Wp_ok, Wp_bind, Wp_nox]
    refine (H.line _ c hc (by omega)).imp fun w st ⟨x, c, g1, g2, hc, hx⟩ => ?_
    subst g1 g2
    simp_arith! only [Wp_ok, Wp_bind, Wp_nox]
    exact ⟨⟨c, rfl, hc.up (by omega)⟩, _, rfl, x, rfl, hx⟩
  obtain ⟨c, rfl, hc⟩ := hst
  have hc : FeedN (m + 50) c := hc.up (by omega)
  obtain ⟨ts, rfl, hts⟩ := strs_of hys
  rw [List.length_map] at hl
  have hk : ((ts.map PyData.str).length ≤ lineN) = True := eq_true (le_line (b := 4) (by rw [List.length_map]; omega) (by decide))
  have hg : LG ts := ⟨hts, by omega⟩
  simp_arith! only [Wp_ok, Wp_bind, Wp_nox, hk]
  refine H.wp hc (by omega) (by decide) (by decide) fun r c r0 r1 hc => ?_
  by_cases h0 : 0 < r
  · have d0 : decide (0 < r) = true := decide_eq_true h0
    have so := sortOk_s ts
    have sd : sortD (ts.map PyData.str) = (srtS ts).map PyData.str := sortD_map PyData.str ts
    simp_arith! only [Wp_ok, Wp_bind, Wp_nox, d0, bif_srt_l, so, sd]
    exact ⟨srtS ts, c, rfl, rfl, hc.up (by omega), hg.srt⟩
  · have d0 : decide (0 < r) = false := decide_eq_false h0
    simp_arith! only [Wp_ok, Wp_bind, Wp_nox, d0]
    exact ⟨ts, c, rfl, rfl, hc.up (by omega), hg⟩
theorem LG.lns {ts : List Str} (h : LG ts) : Lns ts := ⟨fun x hx => (h.1 x hx).tx (by decide), by have := h.2; omega⟩
theorem linesB {Φ : Phi} (H : LawH Φ) {m : Nat} {c : C} (hc : FeedN m c) (hm : m ≤ 50000) {ts : List Str} (hg : LG ts) {x0 x2 x4 x5 x6 x7 x8 : Option W} :
    Wp (semSs Φ (hdS 2 (tlS 2 f18_b2)) [x0, some (.loc 0), x2, some (.d (lsD ts)), x4, x5, x6, x7, x8] [c]) fun fl s => ∃ (D : List (List Str)) (y6 : Option W) (c' : C), fl = .nx [x0, some (.loc 0), x2, some (.d (lsD ts)), some (.own (.lst (D.map lsD))), x5, y6, x7, x8] ∧ s = [c'] ∧ FeedN (m + 20) c' ∧ (∀ ls ∈ D, Lns ls) ∧ D.length ≤ 7 := by
  have hl := hg.2
  have ct1 : cutD (ts.map PyData.str) none (some 1) = (ts.take 1).map PyData.str := by
    have := cut_to (xs := ts.map PyData.str) 1
    rw [show ((1 : Nat) : Int) = 1 from rfl] at this
    rw [this, List.map_take]
  have z1 : ((ts.map PyData.str).length + ((ts.take 1).map PyData.str).length ≤ lineN) = True := eq_true (le_line (b := 8) (by rw [List.length_map, List.length_map, List.length_take]; omega) (by decide))
  have em : [PyData.list (ts.map PyData.str), .list (ts.map PyData.str ++ (ts.take 1).map PyData.str), .list (ts.map PyData.str).reverse, .list [.str ""], .list []] = ([ts, ts ++ ts.take 1, ts.reverse, [""], []] : List (List Str)).map lsD := by
    simp only [List.map_cons, List.map_nil, lsD, List.map_append, List.map_reverse]
  have hD : ∀ ls ∈ ([ts, ts ++ ts.take 1, ts.reverse, [""], []] : List (List Str)), Lns ls := fun ls h => by
    simp only [List.mem_cons, List.not_mem_nil, or_false] at h
    rcases h with rfl | rfl | rfl | rfl | rfl
    · exact hg.lns
    · refine ⟨fun x hx => ?_, by rw [List.length_append, List.length_take]; omega⟩
      rcases List.mem_append.mp hx with h | h
      · exact hg.lns.tx x h
      · exact hg.lns.tx x (List.mem_of_mem_take h)
    · exact ⟨fun x hx => hg.lns.tx x (List.mem_reverse.mp hx), by rw [List.length_reverse]; omega⟩
    · exact ⟨fun x hx => by rw [List.mem_singleton.mp hx]; exact ⟨strOk_of _, by decide⟩, by decide⟩
    · exact ⟨fun x hx => (nomatch hx), by decide⟩
  have ee : eqD (.list (ts.map PyData.str)) (.list []) = some (ts.map PyData.str).isEmpty := eqD_l0 fun x hx => by
    obtain ⟨s, hs, rfl⟩ := List.mem_map.mp hx
    exact tx_th (hg.lns.tx s hs)
  have rv : revD (.list (ts.map PyData.str)) = some (.new (.lst (ts.map PyData.str).reverse)) := rfl
  cases he : (ts.map PyData.str).isEmpty with
  | true =>
    rw [he] at ee
    simp_arith! only [Wp_ok, Wp_bind, Wp_nox, f18_b2, hdS, tlS, lsD, ct1, z1, rv, ee]
    exact ⟨_, x6, c, by rw [em], rfl, hc.up (by omega), hD, (Nat.le_of_ble_eq_true rfl : 5 ≤ 7)⟩
  | false =>
    rw [he] at ee
    have pos : 0 < ts.length := by
      cases hh : ts with
      | nil => rw [hh] at he; cases he
      | cons a b => exact Nat.succ_pos _
    have lt : (((ts.map PyData.str).length : Nat) : Int) = ((ts.length : Nat) : Int) := by rw [List.length_map]
    have zk : ((ts.map PyData.str).length ≤ lineN) = True := eq_true (le_line (b := 4) (by rw [List.length_map]; omega) (by decide))
    simp_arith! only [Wp_ok, Wp_bind, Wp_nox, f18_b2, hdS, tlS, lsD, ct1, z1, rv, ee, zk]
    refine H.wp hc (by omega) (by rw [lt]; omega) (by rw [lt]; omega) fun p c p0 p1 hc => ?_
    rw [lt] at p1
    obtain ⟨q, rfl⟩ : ∃ q : Nat, p = (q : Int) := ⟨p.toNat, by omega⟩
    have hq : q < ts.length := by omega
    have ex : atI (ts.map PyData.str) (q : Int) = some (.str ts[q]) := by rw [atI_nat _ _ (by rw [List.length_map]; exact hq), List.getElem_map]
    have hx : Sm 100 ts[q] := hg.1 _ (List.getElem_mem _)
    have ct : cutD (ts.map PyData.str) none (some (q : Int)) = (ts.take q).map PyData.str := by rw [cut_to, List.map_take]
    have cf : cutD (ts.map PyData.str) (some (q : Int)) none = (ts.drop q).map PyData.str := by rw [cut_from, List.map_drop]
    have cf1 : cutD (ts.map PyData.str) (some ((q : Int) + 1)) none = (ts.drop (q + 1)).map PyData.str := by
      rw [show (q : Int) + 1 = ((q + 1 : Nat) : Int) by omega, cut_from, List.map_drop]
    have lT : (ts.take q).length ≤ 4 := by rw [List.length_take]; omega
    have lDr : ∀ k, (ts.drop k).length ≤ 4 := fun k => by rw [List.length_drop]; omega
    have y1 : ∀ y : PyData, (((ts.take q).map PyData.str).length + [y].length ≤ lineN) = True := fun y => eq_true (le_line (b := 5) (by rw [List.length_map]; show _ + 1 ≤ 5; omega) (by decide))
    have y2 : ∀ (y : PyData) (k : Nat), (((ts.take q).map PyData.str ++ [y]).length + ((ts.drop k).map PyData.str).length ≤ lineN) = True := fun y k => eq_true (le_line (b := 9) (by rw [List.length_append, List.length_map, List.length_map]; have := lDr k; show _ + 1 + _ ≤ 9; omega) (by decide))
    have hL : ∀ (y : Str) (k : Nat), Tx y → Lns (ts.take q ++ [y] ++ ts.drop k) := fun y k hy => by
      refine ⟨fun x hx => ?_, by rw [List.length_append, List.length_append, List.length_singleton]; have := lDr k; omega⟩
      rcases List.mem_append.mp hx with hx | hx
      · rcases List.mem_append.mp hx with hx | hx
        · exact hg.lns.tx x (List.mem_of_mem_take hx)
        · rw [List.mem_singleton.mp hx]; exact hy
      · exact hg.lns.tx x (List.mem_of_mem_drop hx)
    have el : ∀ (y : Str) (k : Nat), PyData.list ((ts.take q).map PyData.str ++ [.str y] ++ (ts.drop k).map PyData.str) = lsD (ts.take q ++ [y] ++ ts.drop k) := fun y k => by simp only [lsD, List.map_append, List.map_cons, List.map_nil]
    have ap5 : ∀ a b c d e : PyData, ([a, b, c, d, e].length < lineN) = True := fun _ _ _ _ _ => eq_true (Nat.lt_of_lt_of_le (show 5 < 1000 by decide) (Nat.le_of_ble_eq_true rfl))
    have ap6 : ∀ a b c d e f : PyData, ([a, b, c, d, e, f].length < lineN) = True := fun _ _ _ _ _ _ => eq_true (Nat.lt_of_lt_of_le (show 6 < 1000 by decide) (Nat.le_of_ble_eq_true rfl))
    simp_arith! only [Wp_ok, Wp_bind, Wp_nox, ct, ex]
    refine (H.bent _ _ c _ hc (by omega) hx (by decide)).imp fun w st ⟨b1, c, g1, g2, hc, hb1⟩ => ?_
    subst g1 g2
    simp_arith! only [Wp_ok, Wp_bind, Wp_nox, y1, y2, cf1, ap5, ct, ex]
    refine (H.bent _ _ c _ hc (by omega) hx (by decide)).imp fun w st ⟨b2, c, g1, g2, hc, hb2⟩ => ?_
    subst g1 g2
    simp_arith! only [Wp_ok, Wp_bind, Wp_nox]
    refine (H.bent _ _ c _ hc (by omega) hb2 (by decide)).imp fun w st ⟨b3, c, g1, g2, hc, hb3⟩ => ?_
    subst g1 g2
    simp_arith! only [Wp_ok, Wp_bind, Wp_nox, y1, y2, cf, ap6]
    refine ⟨[ts, ts ++ ts.take 1, ts.reverse, [""], []] ++ [ts.take q ++ [b1] ++ ts.drop (q + 1), ts.take q ++ [b3] ++ ts.drop q], some (.d (.int (q : Int))), c, ?_, rfl, hc.up (by omega), fun ls h => ?_, (Nat.le_of_ble_eq_true rfl : 7 ≤ 7)⟩
    · rw [List.map_append, ← em]
      simp only [List.map_cons, List.map_nil, lsD, List.map_append, List.map_reverse, List.append_assoc, List.cons_append, List.nil_append]
    · rcases List.mem_append.mp h with h | h
      · exact hD ls h
      · simp only [List.mem_cons, List.not_mem_nil, or_false] at h
        rcases h with rfl | rfl
        · exact hL _ _ (hb1.tx (by decide))
        · exact hL _ _ (hb3.tx (by decide))
theorem linesC {Φ : Phi} (H : LawH Φ) {m : Nat} {c : C} (hc : FeedN m c) (hm : m ≤ 50000) {D : List (List Str)} (hD : ∀ ls ∈ D, Lns ls) (hl : D.length ≤ 7) {x0 x2 x3 x5 x6 x7 x8 : Option W} :
    Wp (semSs Φ (tlS 2 (tlS 2 f18_b2)) [x0, some (.loc 0), x2, x3, some (.own (.lst (D.map lsD))), x5, x6, x7, x8] [c]) fun fl s => ∃ (y3 y4 y5 y6 y7 y8 : Option W) (c' : C), fl = .nx [x0, some (.loc 0), x2, y3, y4, y5, y6, y7, y8] ∧ s = [c'] ∧ FeedN (m + 20) c' := by
  simp_arith! only [Wp_ok, Wp_bind, Wp_nox, f18_b2, tlS]
  refine (H.line _ c hc (by omega)).imp fun w st ⟨x, c, g1, g2, hc, hx⟩ => ?_
  subst g1 g2
  simp_arith! only [Wp_ok, Wp_bind, Wp_nox]
  refine (H.bent _ _ c _ hc (by omega) hx (by decide)).imp fun w st ⟨y, c, g1, g2, hc, hy⟩ => ?_
  subst g1 g2
  have z : ((D.map lsD).length + [PyData.list [.str y]].length ≤ lineN) = True := eq_true (le_line (b := 8) (by rw [List.length_map]; show _ + 1 ≤ 8; omega) (by decide))
  simp_arith! only [Wp_ok, Wp_bind, Wp_nox, z]
  refine wp_forI (fun ρ st => ∃ (y5 y7 : Option W), st = [c] ∧ ρ = [x0, some (.loc 0), x2, x3, some (.own (.lst (D.map lsD))), y5, x6, y7, x8]) ⟨_, _, rfl, rfl⟩ (fun z hz ρ st h => ?_) fun ρ st h => ?_
  · obtain ⟨y5, y7, rfl, rfl⟩ := h
    have hls : ∃ ls, z = lsD ls ∧ Lns ls := by
      rcases List.mem_append.mp hz with h | h
      · obtain ⟨ls, h1, rfl⟩ := List.mem_map.mp h
        exact ⟨ls, rfl, hD ls h1⟩
      · refine ⟨[y], List.mem_singleton.mp h, fun x hx => ?_, (Nat.le_of_ble_eq_true rfl : 2 ≤ 20)⟩
        rw [List.mem_singleton.mp hx]
        exact hy.tx (by decide)
    obtain ⟨ls, rfl, hls⟩ := hls
    exact Wp.of (one_ok H hls) ⟨_, rfl, _, _, rfl, rfl⟩
  · obtain ⟨y5, y7, rfl, rfl⟩ := h
    simp_arith! only [Wp_ok, Wp_bind, Wp_nox]
    exact ⟨_, _, _, _, _, _, c, rfl, rfl, hc.up (by omega)⟩
theorem law_true (ns : List Int) (h1 : ns.length ≤ 63) (h2 : ∀ z ∈ ns, Builtin.Int.intBits z ≤ 1048576) : ∃ st, phi fs 12 18 [.d (.list (ns.map PyData.int))] [] = .ok (.d (.bool true)) st := by
  suffices h : Wp (phi fs 12 18 [.d (.list (ns.map PyData.int))] []) fun w _ => w = .d (.bool true) by
    obtain ⟨w, st, e, rfl⟩ := h
    exact ⟨st, e⟩
  have H : LawH (phi fs 11) := lawH 3
  obtain ⟨c, hc, e0⟩ := H.feed ns h1
  have ok8 : rngOk 8 = true := rngOk_s (by decide) (by decide)
  rw [phi_at (f := f18) rfl ⟨rfl, by decide⟩]
  refine wp_leave (r := semSs (phi fs 11) f18.body [some (.d (.list (ns.map PyData.int))), none, none, none, none, none, none, none, none] []) ?_
  simp_arith! only [Wp_ok, Wp_bind, Wp_nox, f18, e0, ok8]
  refine wp_forL (fun i ρ st => ∃ c x2 x3 x4 x5 x6 x7 x8, st = [c] ∧ ρ = [some (.d (.list (ns.map PyData.int))), some (.loc 0), x2, x3, x4, x5, x6, x7, x8] ∧ FeedN (200 * i) c) ⟨c, _, _, _, _, _, _, _, rfl, rfl, hc⟩ (fun i x hx ρ st h => ?_) fun ρ st h => ?_
  · obtain ⟨c, x2, x3, x4, x5, x6, x7, x8, rfl, rfl, hc⟩ := h
    have hi := (List.getElem?_eq_some_iff.mp hx).1
    rw [rng_len] at hi
    have hi : i < 8 := by omega
    rw [stepF_a]
    simp_arith! only [Wp_ok, Wp_bind, Wp_nox]
    refine wp_split 2 ((linesA H hc (by omega)).imp fun fl s ⟨ts, c, g1, g2, hc, hg⟩ => ?_)
    subst g1 g2
    simp_arith only [Wp_ok, Wp_bind, Wp_nox]
    refine wp_split 2 ((linesB H hc (by omega) hg).imp fun fl s ⟨D, y6, c, g1, g2, hc, hD, hl⟩ => ?_)
    subst g1 g2
    simp_arith only [Wp_ok, Wp_bind, Wp_nox]
    refine (linesC H hc (by omega) hD hl).imp fun fl s ⟨y3, y4, y5, y6, y7, y8, c, g1, g2, hc⟩ => ?_
    subst g1 g2
    exact ⟨_, rfl, c, _, _, _, _, _, _, _, rfl, rfl, hc.up (by omega)⟩
  · obtain ⟨c, x2, x3, x4, x5, x6, x7, x8, rfl, rfl, hc⟩ := h
    simp_arith! only [Wp_ok, Wp_bind, Wp_nox]
abbrev R : PySem.W.OpenRow := PySem.W.OpenLaw.row PySem.Challenge.rw_gonemarks_k44_lines_that_are_none
abbrev hk : PySem.W.Hook := hookM 6 [cStatics] fa fn co bx
def ob (s : PySem.W.SharedT) : He.AlD := obsM 6 [cStatics] fa fn co bx (HandSHeadRun.getT s)
theorem ob_eq (s : PySem.W.SharedT) : ob s = hk.obs s.abs := obsM_eq (HandSHeadRun.getT_eq s)
theorem run (w : World) : HandSHeadRun.RunEq R (PySem.W.view R.prog [38]) hk ob 12000 ("GoneError" :: "NoBook" :: "NoDeed" :: "NoLines" :: "NoPaper" :: "NoBack" :: "MOST_ROOT" :: "MOST_CHILD" :: "MOST_DEEP" :: "is_whole" :: "is_up_to" :: "is_seat" :: "WORDS" :: "MOST_BROUGHT" :: "LONGEST" :: "is_count" :: "is_paper_row" :: "MOST_FIGURES" :: "FIGURES" :: "read_number" :: "read_seat" :: "read_row_line" :: "read_paper" :: "_law_feed" :: "_law_next" :: "_law_line" :: "_law_bent" :: "_law_number" :: "_law_seat" :: "_law_row" :: "_law_read" :: "_law_told" :: []) w := by
  intro os
  kernel_rfl
end Lk44
open PySem PySem.W PySem.Calls PyProof.Rows
theorem PySem.Challenge.cw_gonemarks_k44_lines_that_are_none_holds : PySem.Challenge.rw_gonemarks_k44_lines_that_are_none.Holds := by
  w_on; o_law
  refine HandSHeadRun.head_any (r := OpenLaw.row PySem.Challenge.rw_gonemarks_k44_lines_that_are_none) (q := view (OpenLaw.row PySem.Challenge.rw_gonemarks_k44_lines_that_are_none).prog [38]) (H := Lk44.hk) (ob := Lk44.ob) (M := 12000) (loose := ("GoneError" :: "NoBook" :: "NoDeed" :: "NoLines" :: "NoPaper" :: "NoBack" :: "MOST_ROOT" :: "MOST_CHILD" :: "MOST_DEEP" :: "is_whole" :: "is_up_to" :: "is_seat" :: "WORDS" :: "MOST_BROUGHT" :: "LONGEST" :: "is_count" :: "is_paper_row" :: "MOST_FIGURES" :: "FIGURES" :: "read_number" :: "read_seat" :: "read_row_line" :: "read_paper" :: "_law_feed" :: "_law_next" :: "_law_line" :: "_law_bent" :: "_law_number" :: "_law_seat" :: "_law_row" :: "_law_read" :: "_law_told" :: [])) (d := HandSHeadRun.topDef (OpenLaw.row PySem.Challenge.rw_gonemarks_k44_lines_that_are_none).prog 38) (kwd := []) Lk44.ob_eq
    (by kernel_rfl) (fun s => by kernel_rfl) Lk44.run (by kernel_rfl) (by kernel_rfl) (by kernel_rfl) (by rfl) (by first | assumption | decide +kernel) (by decide +kernel) ⟨rfl, rfl, rfl, rfl, rfl, by decide +kernel⟩ ?hw ?hc
  case hw => w_witness2
  case hc =>
    exact Gm.walk_ofG (l := PySem.Challenge.rw_gonemarks_k44_lines_that_are_none) (n := 63) (k := 12) (T := Lk44.T) (fs := Lk44.fs) (g := 18) rfl (by decide) (by kernel_rfl) ⟨rfl, by decide, by decide⟩ (by decide +kernel) (fun K mg h X G c => Lk44.modOk X G c) Lk44.law_true
