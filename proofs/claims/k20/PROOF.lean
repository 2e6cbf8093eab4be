import PyProof.Rows.All
import Wide.All
import OpenK.AllK
import Wide.FinOn
import HandS.ForMost
import HandS.ForExc
import HandS.Wide
import HandS.TupAny
import HandS.IsInst
import HandS.More
import HandS.StrMore
import HandS.ExcIs
import HandS.TryMany
import HandS.Small
import KE.DataMinMax
import KE.DataEq
import HandS.TupMul
import HandS.SortKw
import HandS.Conv
import HandS.Zip
import KE.GoesZip
import KE.GoesMore
import HandS.ExcOwn
import HandS.WordsExc
import PyProof.ExcBaseAll.ValueError
import PySem.Challenge.RW_boughbook_k20_great_books
set_option Elab.async false
set_option linter.all false
set_option maxRecDepth 100000
/-! B1: data, the little language and its evaluator. -/
namespace Bk
open PySem PySem.Spec PyProof.Rows L2

/-! ### data -/
/-- dct t: a dict, its keys of the t-th kind (0 whole numbers and texts, 1 tuples of these); fn: a def; obj: an instance of a class of one's own;
box: a field's own container; gone: one that is lent; scr: the script, that no one changes -/
inductive D where
  | non | bl (b : Bool) | int (i : Int) | str (s : Str) | tup (xs : List D) | lst (xs : List D)
  | dct (t : Nat) (ks vs : List D) | fn (i : Nat) | obj (c : Nat) (ns : List Str) (vs : List D) | box (d : D) | gone | scr (ns : List Int)

mutual
def D.py : D → PyData
  | .non => .none
  | .bl b => .bool b
  | .int i => .int i
  | .str s => .str s
  | .tup xs => .tuple (D.pyL xs)
  | .lst xs => .list (D.pyL xs)
  | .dct _ _ _ => .dict []
  | .fn _ => .dict []
  | .obj _ _ _ => .dict []
  | .box _ => .dict []
  | .gone => .dict []
  | .scr _ => .dict []
def D.pyL : List D → List PyData
  | [] => []
  | x :: xs => D.py x :: D.pyL xs
end
mutual
def D.beq : D → D → Bool
  | .non, .non => true
  | .bl a, .bl b => a == b
  | .int a, .int b => decide (a = b)
  | .str a, .str b => decide (a = b)
  | .tup a, .tup b => D.beqL a b
  | .lst a, .lst b => D.beqL a b
  | .fn a, .fn b => decide (a = b)
  | _, _ => false
def D.beqL : List D → List D → Bool
  | [], [] => true
  | x :: xs, y :: ys => D.beq x y && D.beqL xs ys
  | _, _ => false
end
mutual
theorem D.eq_of_beq : ∀ {a b : D}, D.beq a b = true → a = b
  | .non, b, h => by cases b <;> simp [D.beq] at h ⊢
  | .bl _, b, h => by cases b <;> simp [D.beq] at h ⊢; exact h
  | .int _, b, h => by cases b <;> simp [D.beq] at h ⊢; exact h
  | .str _, b, h => by cases b <;> simp [D.beq] at h ⊢; exact h
  | .fn _, b, h => by cases b <;> simp [D.beq] at h ⊢; exact h
  | .dct _ _ _, b, h => by cases b <;> simp [D.beq] at h
  | .obj _ _ _, b, h => by cases b <;> simp [D.beq] at h
  | .box _, b, h => by cases b <;> simp [D.beq] at h
  | .gone, b, h => by cases b <;> simp [D.beq] at h
  | .scr _, b, h => by cases b <;> simp [D.beq] at h
  | .tup xs, b, h => by
    cases b <;> simp only [D.beq] at h <;> first | exact absurd h Bool.false_ne_true | rw [D.eq_of_beqL h]
  | .lst xs, b, h => by
    cases b <;> simp only [D.beq] at h <;> first | exact absurd h Bool.false_ne_true | rw [D.eq_of_beqL h]
theorem D.eq_of_beqL : ∀ {a b : List D}, D.beqL a b = true → a = b
  | [], b, h => by cases b <;> simp [D.beqL] at h ⊢
  | x :: xs, b, h => by
    cases b with
    | nil => simp [D.beqL] at h
    | cons y ys =>
      simp only [D.beqL, Bool.and_eq_true] at h
      rw [D.eq_of_beq h.1, D.eq_of_beqL h.2]
end

/-- an operation's result -/
inductive R (α : Type) where
  | ok (a : α) | stuck
def R.bind {α β : Type} : R α → (α → R β) → R β
  | .ok a, f => f a
  | .stuck, _ => .stuck
@[simp] theorem R.bind_ok {α β : Type} (a : α) (f : α → R β) : (R.ok a).bind f = f a := rfl
@[simp] theorem R.bind_stuck {α β : Type} (f : α → R β) : (R.stuck : R α).bind f = .stuck := rfl

/-- a slot: not set, a value that no one changes, a container that only this slot holds -/
inductive Sl where
  | un | fz (d : D) | own (d : D)
abbrev Rho := List Sl

inductive Ty where | int | str | tuple | list | bool

inductive Prim where
  | add | sub | mul | fdiv | mod | pow | neg
  | eq | ne | lt | le | gt | ge | inn | notin | isN | notN
  | idx | slc (lo hi : Bool)
  | len | sum | maxl | maxd | minl | max2 | min2 | tupOf | lstOf | strOf | intOf | isi (t : Ty) | all
  | tup | lst | rng1 | rng2 | lrg | zip2 | dget | din | dnin

/-- a whole number that is far from the bounds of size -/
def small (i : Int) : Bool := decide (i.natAbs < 2 ^ 9000)

def intsOf : List D → Option (List Int)
  | [] => some []
  | .int i :: r => (intsOf r).map (i :: ·)
  | _ => none
def boolsOf : List D → Option (List Bool)
  | [] => some []
  | .bl i :: r => (boolsOf r).map (i :: ·)
  | _ => none
def strsOf : List D → Option (List Str)
  | [] => some []
  | .str i :: r => (strsOf r).map (i :: ·)
  | _ => none
def maxOf : Int → List Int → Int
  | m, [] => m
  | m, x :: r => maxOf (if x > m then x else m) r
def minOf : Int → List Int → Int
  | m, [] => m
  | m, x :: r => minOf (if x < m then x else m) r
def cutD {α : Type} (xs : List α) (lo hi : Option Int) : List α := (xs.drop (HT.sIx xs.length 0 lo)).take (HT.sIx xs.length xs.length hi - HT.sIx xs.length 0 lo)
def rngD (a b : Int) : List D := (List.range (b - a).toNat).map fun k => D.int (a + (k : Nat))
def isTy : Ty → D → Option Bool
  | .int, .int _ => some true | .int, .bl _ => some true
  | .str, .str _ => some true | .tuple, .tup _ => some true | .list, .lst _ => some true | .bool, .bl _ => some true
  | _, .fn _ => none | _, .dct _ _ _ => none | _, .obj _ _ _ => none | _, .box _ => none | _, .gone => none | _, .scr _ => none
  | _, _ => some false
def eqD (a b : D) : R D :=
  if a.py.plain && b.py.plain && decide (min a.py.depth b.py.depth ≤ 160) then .ok (.bl (PyData.eqv a.py b.py)) else .stuck
def notR : R D → R D := fun r => r.bind fun b => match b with | .bl k => .ok (.bl (!k)) | _ => .stuck

def okIf (c : Bool) (d : D) : R D := if c then .ok d else .stuck
def ofOpt : Option D → R D
  | some d => .ok d
  | none => .stuck
def evSlc (d : D) (lo hi : Option Int) : R D := match d with
  | .tup xs => .ok (.tup (cutD xs lo hi))
  | .lst xs => .ok (.lst (cutD xs lo hi))
  | .scr xs => .ok (.lst (cutD (xs.map D.int) lo hi))
  | .str s => okIf (decide (s.length ≤ sizeLine)) (.str (cutS s lo hi))
  | _ => .stuck

def evInt2 (f : Int → Int → R D) : List D → R D
  | [.int a, .int b] => f a b
  | _ => .stuck
def evAdd : List D → R D
  | [.int a, .int b] => .ok (.int (a + b))
  | [.str a, .str b] => okIf (decide (a.length + b.length ≤ sizeLine)) (.str (a ++ b))
  | [.tup a, .tup b] => okIf (decide (a.length + b.length ≤ sizeLine)) (.tup (a ++ b))
  | [.lst a, .lst b] => okIf (decide (a.length + b.length ≤ sizeLine)) (.lst (a ++ b))
  | [.scr a, .lst b] => okIf (decide (a.length + b.length ≤ sizeLine)) (.lst (a.map D.int ++ b))
  | [.lst a, .scr b] => okIf (decide (a.length + b.length ≤ sizeLine)) (.lst (a ++ b.map D.int))
  | _ => .stuck
def evIn : List D → R D
  | [.str a, .str b] => match a.cps.toList with | [c] => .ok (.bl (decide (c ∈ b.cps.toList))) | _ => .stuck
  | [x, .tup xs] => okIf (x.py.plain && PyData.plainAll (D.pyL xs) && decide (min (PyData.depthAll (D.pyL xs)) x.py.depth ≤ 160)) (.bl ((D.pyL xs).any fun y => PyData.eqv y x.py))
  | [x, .lst xs] => okIf (x.py.plain && PyData.plainAll (D.pyL xs) && decide (min (PyData.depthAll (D.pyL xs)) x.py.depth ≤ 160)) (.bl ((D.pyL xs).any fun y => PyData.eqv y x.py))
  | _ => .stuck
def evNeg : List D → R D
  | [.int a] => .ok (.int (-a))
  | _ => .stuck
def evEq : List D → R D
  | [a, b] => eqD a b
  | _ => .stuck
def isNon : D → Bool
  | .non => true
  | _ => false
def evIsN : List D → R D
  | [a] => .ok (.bl (isNon a))
  | _ => .stuck
def evIdx : List D → R D
  | [.tup xs, .int i] => ofOpt (atI xs i)
  | [.lst xs, .int i] => ofOpt (atI xs i)
  | [.scr xs, .int i] => ofOpt (atI (xs.map D.int) i)
  | [.str s, .int i] => if s.length ≤ sizeLine then (match atI s.cps.toList i with | some c => .ok (.str ⟨#[c]⟩) | none => .stuck) else .stuck
  | _ => .stuck
def evSlice : Bool → Bool → List D → R D
  | false, false, [x] => evSlc x none none
  | true, false, [x, .int i] => evSlc x (some i) none
  | false, true, [x, .int j] => evSlc x none (some j)
  | true, true, [x, .int i, .int j] => evSlc x (some i) (some j)
  | _, _, _ => .stuck
def evLen : List D → R D
  | [.tup xs] => .ok (.int xs.length)
  | [.lst xs] => .ok (.int xs.length)
  | [.scr xs] => .ok (.int xs.length)
  | [.str s] => okIf (decide (s.length ≤ sizeLine)) (.int s.length)
  | _ => .stuck
def evSum : List D → R D
  | [.lst xs] => match intsOf xs with | some ns => .ok (.int ns.sum) | none => .stuck
  | _ => .stuck
def evMaxl : List D → R D
  | [.lst xs] => match intsOf xs with | some (n :: ns) => .ok (.int (maxOf n ns)) | _ => .stuck
  | _ => .stuck
def evMaxd : List D → R D
  | [.lst xs, .int d] => match intsOf xs with | some (n :: ns) => .ok (.int (maxOf n ns)) | some [] => .ok (.int d) | _ => .stuck
  | _ => .stuck
def evMinl : List D → R D
  | [.lst xs] => match intsOf xs with | some (n :: ns) => .ok (.int (minOf n ns)) | _ => .stuck
  | _ => .stuck
def evTupOf : List D → R D
  | [.lst xs] => .ok (.tup xs)
  | [.tup xs] => .ok (.tup xs)
  | _ => .stuck
def evLstOf : List D → R D
  | [.scr xs] => .ok (.lst (xs.map D.int))
  | [.lst xs] => .ok (.lst xs)
  | [.tup xs] => .ok (.lst xs)
  | _ => .stuck
def evStrOf : List D → R D
  | [.int i] => okIf (decide (i.natAbs.log2 < 1920)) (.str (toString i))
  | _ => .stuck
def evIntOf : List D → R D
  | [.int i] => .ok (.int i)
  | [.bl b] => .ok (.int (if b then 1 else 0))
  | [.str a] => match intText? a with | some n => okIf (decide (a.length ≤ 640)) (.int n) | none => .stuck
  | _ => .stuck
def evIsi (t : Ty) : List D → R D
  | [x] => ofOpt ((isTy t x).map D.bl)
  | _ => .stuck
def evAll : List D → R D
  | [.lst xs] => match boolsOf xs with | some bs => .ok (.bl (bs.all id)) | none => .stuck
  | _ => .stuck
def evJoin : List D → R D
  | [.str a, .lst xs] => match strsOf xs with
    | some ys => okIf (decide ((ys.map (·.length)).sum + ys.length * a.length ≤ 16777216)) (.str (Txt.join a ys))
    | none => .stuck
  | _ => .stuck
def in62 (i : Int) : Bool := decide (-(2 ^ 62) ≤ i) && decide (i < 2 ^ 62)
def evRng1 : List D → R D
  | [.int b] => okIf (in62 b) (.lst (rngD 0 b))
  | _ => .stuck

/-- list(range(b)) -/
def evLrg : List D → R D
  | [.int b] => okIf (decide (0 ≤ b) && decide (b ≤ 16777216)) (.lst (rngD 0 b))
  | _ => .stuck
/-- zip of two tuples, of two lists -/
def zipD (xs ys : List D) : List D := List.zipWith (fun x y => D.tup [x, y]) xs ys
def evZip : List D → R D
  | [.tup xs, .tup ys] => .ok (.lst (zipD xs ys))
  | [.lst xs, .lst ys] => .ok (.lst (zipD xs ys))
  | [.tup xs, .lst ys] => .ok (.lst (zipD xs ys))
  | _ => .stuck
/-- times: of numbers; of a text or a list and a number -/
def evMul : List D → R D
  | [.int a, .int b] => okIf (small a && small b || decide (b.natAbs < 2 ^ 60)) (.int (a * b))
  | [.str z, .int k] => okIf (decide (z.length ≤ 1000) && decide (-1000 ≤ k) && decide (k ≤ 4000)) (.str (Txt.mul z k))
  | [.lst xs, .int k] => okIf (decide (xs.length ≤ 1000) && decide (-1000 ≤ k) && decide (k ≤ 1000)) (.lst (List.replicate k.toNat xs).flatten)
  | [.tup xs, .int k] => okIf (decide (xs.length ≤ 1000) && decide (-1000 ≤ k) && decide (k ≤ 1000)) (.tup (List.replicate k.toNat xs).flatten)
  | _ => .stuck
/-! ### dicts -/
def keyOf : D → Option Key
  | .int i => some (.inl i)
  | .str s => some (.inr s)
  | _ => none
def keysOf : List D → Option (List Key)
  | [] => some []
  | d :: r => match keyOf d, keysOf r with | some k, some l => some (k :: l) | _, _ => none
def keyTOf : D → Option (List Key)
  | .tup xs => match xs with
    | [.str z] => if z = "*" then none else some [.inr z]
    | xs => keysOf xs
  | _ => none
/-- may it be a key of the t-th kind -/
def isKey (t : Nat) (d : D) : Bool := match t with
  | 0 => (keyOf d).isSome
  | 1 => (keyTOf d).isSome
  | _ => false
def dLook (k : D) : List D → List D → Option D
  | x :: ks, v :: vs => if D.beq x k then some v else dLook k ks vs
  | _, _ => none
def dHas (k : D) (ks : List D) : Bool := ks.any fun x => D.beq x k
def dRepl (k v : D) : List D → List D → List D
  | x :: ks, w :: vs => (if D.beq x k then v else w) :: dRepl k v ks vs
  | _, _ => []
def dPutV (k v : D) (ks vs : List D) : List D := if dHas k ks then dRepl k v ks vs else vs ++ [v]
def dPutK (k : D) (ks : List D) : List D := if dHas k ks then ks else ks ++ [k]

def evDget : D → D → R D
  | .dct t ks vs, k => if isKey t k then (match dLook k ks vs with | some v => .ok v | none => .stuck) else .stuck
  | _, _ => .stuck
def evDin : D → D → R D
  | .dct t ks vs, k => if isKey t k then .ok (.bl (dLook k ks vs).isSome) else .stuck
  | _, _ => .stuck

def ev2 (f : D → D → R D) : List D → R D
  | [a, b] => f a b
  | _ => .stuck

def evPrim (p : Prim) (ds : List D) : R D := match p with
  | .add => evAdd ds
  | .sub => evInt2 (fun a b => .ok (.int (a - b))) ds
  | .mul => evMul ds
  | .fdiv => evInt2 (fun a b => okIf (decide (0 < b) && small b) (.int (a / b))) ds
  | .mod => evInt2 (fun a b => okIf (decide (0 < b)) (.int (a % b))) ds
  | .pow => evInt2 (fun a b => okIf (decide (0 ≤ b) && decide (b ≤ 100000) && decide (a.natAbs < 2 ^ 64)) (.int (a ^ b.toNat))) ds
  | .neg => evNeg ds
  | .eq => evEq ds
  | .ne => notR (evEq ds)
  | .lt => evInt2 (fun a b => .ok (.bl (decide (a < b)))) ds
  | .le => evInt2 (fun a b => .ok (.bl (decide (a ≤ b)))) ds
  | .gt => evInt2 (fun a b => .ok (.bl (decide (a > b)))) ds
  | .ge => evInt2 (fun a b => .ok (.bl (decide (a ≥ b)))) ds
  | .inn => evIn ds
  | .notin => notR (evIn ds)
  | .isN => evIsN ds
  | .notN => notR (evIsN ds)
  | .idx => evIdx ds
  | .slc lo hi => evSlice lo hi ds
  | .len => evLen ds
  | .sum => evSum ds
  | .maxl => evMaxl ds
  | .maxd => evMaxd ds
  | .minl => evMinl ds
  | .max2 => evInt2 (fun a b => .ok (.int (if b > a then b else a))) ds
  | .min2 => evInt2 (fun a b => .ok (.int (if b < a then b else a))) ds
  | .tupOf => evTupOf ds
  | .lstOf => evLstOf ds
  | .strOf => evStrOf ds
  | .intOf => evIntOf ds
  | .isi t => evIsi t ds
  | .all => evAll ds
  | .tup => okIf (decide (ds.length ≤ sizeLine)) (.tup ds)
  | .lst => okIf (decide (ds.length ≤ sizeLine)) (.lst ds)
  | .rng1 => evRng1 ds
  | .lrg => evLrg ds
  | .zip2 => evZip ds
  | .dget => ev2 evDget ds
  | .din => ev2 (fun k d => evDin d k) ds
  | .dnin => notR (ev2 (fun k d => evDin d k) ds)
  | .rng2 => evInt2 (fun a b => okIf (in62 a && in62 b) (.lst (rngD a b))) ds

/-! ### the little language -/
/-- methods that are asked of a value -/
inductive Met where | join | sidx | lidx | split | words
/-- methods that change their own -/
inductive Mut where | app | ext | pop | popAt | ins | rev | clr
inductive Tg where | v (i : Nat) | t (is : List Nat)
/-- a place: a slot, or a field of what a slot holds -/
structure Pl where
  i : Nat
  f : Option Str := none
inductive P where
  | cst (d : D)
  | var (i : Nat)
  /-- looked at, at its own place -/
  | bor (p : Pl)
  /-- lent to a def, that may change it -/
  | io (p : Pl)
  | op (p : Prim) (as : List P)
  | call (f : Nat) (as : List P)
  /-- a call whose first argument is a new container that is lent and then left -/
  | callT (f : Nat) (l : P) (as : List P)
  | and (a b : P) | or (a b : P) | not (a : P)
  /-- a whole number, for sure -/
  | ent (a : P)
  | ite (c a b : P)
  | chain (o o' : Prim) (a b c : P)
  | met (m : Met) (r : P) (as : List P)
  | mut (m : Mut) (p : Pl) (as : List P)
  | dnew (t : Nat)
  | comp (elt : P) (tg : Tg) (it : P) (cond : Option P)
  /-- isinstance of the handled exception in a slot -/
  | xis (i : Nat) (c : Nat)

def Tg.slots : Tg → List Nat
  | .v i => [i]
  | .t is => is
def setL : List Nat → List D → Rho → R Rho
  | [], [], ρ => .ok ρ
  | i :: is, d :: ds, ρ => setL is ds (ρ.set i (.fz d))
  | _, _, _ => .stuck
def setT : Tg → D → Rho → R Rho
  | .v i, d, ρ => .ok (ρ.set i (.fz d))
  | .t is, .tup xs, ρ => setL is xs ρ
  | _, _, _ => .stuck
def itemsOf : D → R (List D)
  | .tup xs => .ok xs
  | .lst xs => .ok xs
  | .scr ns => .ok (ns.map D.int)
  | .str s => .ok (s.cps.toList.map fun c => D.str ⟨#[c]⟩)
  | _ => .stuck
def wipeR (ρ : Rho) : List Nat → Rho
  | [] => ρ
  | v :: vs => (wipeR ρ vs).set v .un
/-- the slots that were wiped come again -/
def backR (ρ₀ ρ : Rho) : List Nat → Rho
  | [] => ρ
  | v :: vs => (backR ρ₀ ρ vs).set v (ρ₀.getD v .un)
def asB : D → R Bool
  | .bl b => .ok b
  | _ => .stuck
def asI : D → R Int
  | .int i => .ok i
  | _ => .stuck
/-- is it of the method's type -/
def recvOk : Met → D → Bool
  | .join, .str _ => true
  | .sidx, .str _ => true
  | .split, .str _ => true
  | .words, .str _ => true
  | .lidx, .lst _ => true
  | _, _ => false
def evSidx : List D → R D
  | [.str a, .str b] => match Txt.index0 a b with | some k => .ok (.int (k : Nat)) | none => .stuck
  | _ => .stuck
/-- the place of the first like it -/
def findD (x : PyData) : Nat → List PyData → Option Nat
  | _, [] => none
  | n, y :: ys => if PyData.eqv y x then some n else findD x (n + 1) ys
def evLidx : List D → R D
  | [.lst xs, x] => if x.py.plain && PyData.plainAll (D.pyL xs) && decide (min (PyData.depthAll (D.pyL xs)) x.py.depth ≤ 160) then
      (match findD x.py 0 (D.pyL xs) with | some k => .ok (.int (k : Nat)) | none => .stuck) else .stuck
  | _ => .stuck
/-- s.split(sep), s.split() -/
def evSplit : List D → R D
  | [.str a, .str b] => okIf (!(b.length == 0) && decide (a.length + 2 ≤ sizeLine)) (.lst ((Txt.split a b).map D.str))
  | _ => .stuck
def evWords : List D → R D
  | [.str a] => okIf (decide (a.length + 2 ≤ sizeLine)) (.lst ((Txt.words a).map D.str))
  | _ => .stuck
def evMet (m : Met) (ds : List D) : R D := match m with
  | .join => evJoin ds
  | .sidx => evSidx ds
  | .lidx => evLidx ds
  | .split => evSplit ds
  | .words => evWords ds
def isLst : D → Bool
  | .lst _ => true
  | _ => false
/-- what a method hands back, and its own behind it -/
def evMut : Mut → D → List D → R (D × D)
  | .app, .lst xs, [d] => if xs.length < sizeLine then .ok (.non, .lst (xs ++ [d])) else .stuck
  | .ext, .lst xs, [.lst ys] => if xs.length + ys.length ≤ sizeLine then .ok (.non, .lst (xs ++ ys)) else .stuck
  | .pop, .lst xs, [] => match xs.getLast? with | some d => .ok (d, .lst xs.dropLast) | none => .stuck
  | .popAt, .lst xs, [.int k] => if 0 ≤ k then (match xs[k.toNat]? with | some d => .ok (d, .lst (xs.eraseIdx k.toNat)) | none => .stuck) else .stuck
  | .rev, .lst xs, [] => .ok (.non, .lst xs.reverse)
  | .clr, .lst _, [] => .ok (.non, .lst [])
  | .ins, .lst xs, [.int k, d] => if xs.length < sizeLine then (if 0 ≤ k ∧ k ≤ xs.length then .ok (.non, .lst (xs.take k.toNat ++ d :: xs.drop k.toNat)) else .stuck) else .stuck
  | _, _, _ => .stuck
/-- d[k] = v -/
def evSet : D → D → D → R D
  | .lst xs, .int k, v => match ixN xs.length k with | some j => .ok (.lst (xs.set j v)) | none => .stuck
  | .dct t ks vs, k, v => if isKey t k && decide (ks.length < sizeLine) then .ok (.dct t (dPutK k ks) (dPutV k v ks vs)) else .stuck
  | _, _, _ => .stuck
/-- how an expression ends -/
inductive Ev (α : Type) where
  | ok (a : α) (ρ : Rho) | exc (c : Nat) (ρ : Rho) | stuck
def Ev.bind {α β : Type} : Ev α → (α → Rho → Ev β) → Ev β
  | .ok a ρ, f => f a ρ
  | .exc c ρ, _ => .exc c ρ
  | .stuck, _ => .stuck
@[simp] theorem Ev.bind_ok {α β : Type} (a : α) (ρ : Rho) (f : α → Rho → Ev β) : (Ev.ok a ρ).bind f = f a ρ := rfl
@[simp] theorem Ev.bind_exc {α β : Type} (c : Nat) (ρ : Rho) (f : α → Rho → Ev β) : (Ev.exc c ρ : Ev α).bind f = .exc c ρ := rfl
@[simp] theorem Ev.bind_stuck {α β : Type} (f : α → Rho → Ev β) : (Ev.stuck : Ev α).bind f = .stuck := rfl
/-- an operation's result at slots -/
def R.at {α : Type} (ρ : Rho) : R α → Ev α
  | .ok a => .ok a ρ
  | .stuck => .stuck
@[simp] theorem R.at_ok {α : Type} (ρ : Rho) (a : α) : (R.ok a).at ρ = .ok a ρ := rfl
@[simp] theorem R.at_stuck {α : Type} (ρ : Rho) : (R.stuck : R α).at ρ = .stuck := rfl
/-- in a comprehension nothing is raised -/
def Ev.noX {α : Type} : Ev α → Ev α
  | .ok a ρ => .ok a ρ
  | _ => .stuck
@[simp] theorem Ev.noX_ok {α : Type} (a : α) (ρ : Rho) : (Ev.ok a ρ).noX = .ok a ρ := rfl
@[simp] theorem Ev.noX_stuck {α : Type} : (Ev.stuck : Ev α).noX = .stuck := rfl
/-- how a call ends: its value, or the class of the exception; and what is lent, as it is then -/
inductive Rs where
  | ok (d : D) (os : List D) | exc (c : Nat) (os : List D) | stuck

/-! places -/
def Pl.bound (ρ : Rho) (p : Pl) : Bool := match p.f, ρ[p.i]? with
  | none, some (.fz _) => true
  | none, some (.own _) => true
  | _, _ => false
/-- what is looked at -/
def Pl.look (ρ : Rho) (p : Pl) : R D := match p.f, ρ[p.i]? with
  | none, some (.fz d) => .ok d
  | none, some (.own d) => .ok d
  | _, _ => .stuck
/-- what is one's own, taken out -/
def Pl.take (ρ : Rho) (p : Pl) : R (D × Rho) := match p.f, ρ[p.i]? with
  | none, some (.own d) => .ok (d, ρ.set p.i .un)
  | _, _ => .stuck
/-- .. and put back -/
def Pl.put (ρ : Rho) (p : Pl) (d : D) : R Rho := match p.f with
  | none => .ok (ρ.set p.i (.own d))
  | _ => .stuck

def isEnt : P → Bool
  | .ent _ => true
  | _ => false
inductive Kd where | val | bor (p : Pl) | io (p : Pl)
def P.kd : P → Kd
  | .bor p => .bor p
  | .io p => .io p
  | _ => .val
/-- what was lent comes back -/
def putBack : List P → List D → Rho → R Rho
  | [], [], ρ => .ok ρ
  | .io p :: es, d :: ds, ρ => (putBack es ds ρ).bind fun ρ => p.put ρ d
  | .io _ :: _, [], _ => .stuck
  | _ :: es, ds, ρ => putBack es ds ρ
  | [], _ :: _, _ => .stuck
def callE (es : List P) (ρ : Rho) : Rs → Ev D
  | .ok d os => (putBack es os ρ).at ρ |>.bind fun ρ' _ => .ok d ρ'
  | .exc c os => (putBack es os ρ).at ρ |>.bind fun ρ' _ => .exc c ρ'
  | .stuck => .stuck
/-- a walk over one's own: it is taken out meanwhile -/
def lendI (ρ : Rho) : P → R (Option (Pl × D) × Rho)
  | .bor p => match p.take ρ with
    | .ok (d, ρ') => .ok (some (p, d), ρ')
    | .stuck => .ok (none, ρ)
  | _ => .ok (none, ρ)
def backI (ρ : Rho) : Option (Pl × D) → R Rho
  | some (p, d) => p.put ρ d
  | none => .ok ρ

/-- a comprehension's turns: f of an item and the slots -/
def compL (f : D → Rho → Ev (Option D)) : List D → Rho → Ev (List D)
  | [], ρ => .ok [] ρ
  | x :: xs, ρ => (f x ρ).bind fun o ρ => (compL f xs ρ).bind fun r ρ => .ok (match o with | some y => y :: r | none => r) ρ
/-- a slot's value; one's own is shared from then on -/
def readV (ρ : Rho) (i : Nat) : Ev D := match ρ[i]? with
  | some (.fz d) => .ok d ρ
  | some (.own (.lst xs)) => .ok (.lst xs) (ρ.set i (.fz (.lst xs)))
  | some (.own (.dct t ks vs)) => .ok (.dct t ks vs) (ρ.set i (.fz (.dct t ks vs)))
  | _ => .stuck
/-- is the class c the class k or beneath it -/
abbrev Subs := Nat → Nat → Option Bool
/-- what a text runs under: the classes, the defs, the class of the exception that is handled -/
structure En where
  su : Subs
  F : Nat → List D → Rs
  hx : Option Nat := none
def evXis (q : En) (c : Nat) : R D := match q.hx with
  | some k => match q.su k c with | some b => .ok (.bl b) | none => .stuck
  | none => .stuck

/-- a container of one's own -/
def isCon : D → Bool
  | .lst _ => true
  | .dct _ _ _ => true
  | _ => false
def callTR : Rs → Rho → Ev D
  | .ok d [_], ρ => .ok d ρ
  | .exc c [_], ρ => .exc c ρ
  | _, _ => .stuck
mutual
def evP (q : En) : P → Rho → Ev D
  | .cst d, ρ => .ok d ρ
  | .var i, ρ => readV ρ i
  | .bor p, ρ => (p.look ρ).at ρ
  | .io _, _ => .stuck
  | .op p as, ρ => (evAs q as ρ).bind fun ds ρ => (evPrim p ds).at ρ
  | .call f as, ρ => (evAs q as ρ).bind fun ds ρ => callE as ρ (q.F f ds)
  | .callT f l as, ρ => (evP q l ρ).bind fun d ρ => if isCon d then (evAs q as ρ).bind fun es ρ => callTR (q.F f (d :: es)) ρ else .stuck
  | .and a b, ρ => (evP q a ρ).bind fun x ρ => ((asB x).at ρ).bind fun k ρ => if k then (evP q b ρ).bind fun y ρ => ((asB y).at ρ).bind fun k ρ => .ok (.bl k) ρ else .ok (.bl false) ρ
  | .or a b, ρ => (evP q a ρ).bind fun x ρ => ((asB x).at ρ).bind fun k ρ => if k then .ok (.bl true) ρ else (evP q b ρ).bind fun y ρ => ((asB y).at ρ).bind fun k ρ => .ok (.bl k) ρ
  | .not a, ρ => (evP q a ρ).bind fun x ρ => ((asB x).at ρ).bind fun k ρ => .ok (.bl (!k)) ρ
  | .ent a, ρ => (evP q a ρ).bind fun x ρ => ((asI x).at ρ).bind fun i ρ => .ok (.int i) ρ
  | .ite c a b, ρ => (evP q c ρ).bind fun x ρ => ((asB x).at ρ).bind fun k ρ => if k then evP q a ρ else evP q b ρ
  | .chain o o' a b c, ρ => (evP q a ρ).bind fun x ρ => (evP q b ρ).bind fun y ρ => ((evPrim o [x, y]).at ρ).bind fun z ρ => ((asB z).at ρ).bind fun k ρ =>
      if k then (evP q c ρ).bind fun w ρ => ((evPrim o' [y, w]).at ρ).bind fun z ρ => ((asB z).at ρ).bind fun k ρ => .ok (.bl k) ρ else .ok (.bl false) ρ
  | .met m r as, ρ => match r.kd with
    | .bor p => ((p.look ρ).at ρ).bind fun x ρ => if recvOk m x then (evAs q as ρ).bind fun ds ρ => ((p.look ρ).at ρ).bind fun x ρ => (evMet m (x :: ds)).at ρ else .stuck
    | _ => (evP q r ρ).bind fun x ρ => if recvOk m x then (evAs q as ρ).bind fun ds ρ => (evMet m (x :: ds)).at ρ else .stuck
  | .mut m p as, ρ => ((p.look ρ).at ρ).bind fun x ρ => if isLst x then (evAs q as ρ).bind fun ds ρ => ((p.take ρ).at ρ).bind fun dr _ => ((evMut m dr.1 ds).at ρ).bind fun r _ => ((p.put dr.2 r.2).at ρ).bind fun ρ _ => .ok r.1 ρ else .stuck
  | .dnew t, ρ => .ok (.dct t [] []) ρ
  | .comp elt tg it none, ρ => (evP q it ρ).bind fun x ρ => ((itemsOf x).at ρ).bind fun xs ρ => ((lendI ρ it).at ρ).bind fun l _ =>
      (compL (fun y ρ => ((setT tg y ρ).at ρ).bind fun ρ _ => (evP q elt ρ).noX.bind fun z ρ => .ok (some z) (wipeR ρ tg.slots)) xs (wipeR l.2 tg.slots)).bind fun r ρ' =>
        ((backI (backR l.2 ρ' tg.slots) l.1).at ρ).bind fun ρ _ => (okIf (decide (r.length ≤ sizeLine)) (.lst r)).at ρ
  | .comp elt tg it (some c), ρ => (evP q it ρ).bind fun x ρ => ((itemsOf x).at ρ).bind fun xs ρ => ((lendI ρ it).at ρ).bind fun l _ =>
      (compL (fun y ρ => ((setT tg y ρ).at ρ).bind fun ρ _ => (evP q c ρ).noX.bind fun z ρ => ((asB z).at ρ).bind fun k ρ =>
        if k then (evP q elt ρ).noX.bind fun z ρ => .ok (some z) (wipeR ρ tg.slots) else .ok none (wipeR ρ tg.slots)) xs (wipeR l.2 tg.slots)).bind fun r ρ' =>
        ((backI (backR l.2 ρ' tg.slots) l.1).at ρ).bind fun ρ _ => (okIf (decide (r.length ≤ sizeLine)) (.lst r)).at ρ
  | .xis _ c, ρ => (evXis q c).at ρ
/-- arguments: what is looked at is looked at when all are there, and what is lent is taken out then -/
def evAs (q : En) : List P → Rho → Ev (List D)
  | [], ρ => .ok [] ρ
  | e :: es, ρ => match e.kd with
    | .val => (evP q e ρ).bind fun d ρ => (evAs q es ρ).bind fun ds ρ => .ok (d :: ds) ρ
    | .bor p => if p.bound ρ then (evAs q es ρ).bind fun ds ρ => ((p.look ρ).at ρ).bind fun d ρ => .ok (d :: ds) ρ else .stuck
    | .io p => if p.bound ρ then (evAs q es ρ).bind fun ds ρ => ((p.take ρ).at ρ).bind fun dr _ => .ok (dr.1 :: ds) dr.2 else .stuck
end

inductive S where
  | asg (t : Tg) (e : P)
  | own (i : Nat) (e : P)
  /-- x, y = a, b: both sides written -/
  | par (i j : Nat) (a b : P)
  | set (p : Pl) (k v : P)
  | drop (e : P)
  | ifs (c : P) (a b : List S)
  | for (t : Tg) (it : P) (b : List S)
  | whl (n : Nat) (c : P) (b : List S)
  | ret (e : P) | retN | brk | cont | pas
  | rai (c : Nat)
  /-- try: b, except C as (slot i) -/
  | trA (b : List S) (c : Nat) (i : Nat) (h : List S)
  /-- try: b, except C1: .. except C2: .. -/
  | trM (b : List S) (cs : List Nat) (hs : List (List S))

/-- how a statement ends -/
inductive O where
  | nx (ρ : Rho) | ret (d : D) (ρ : Rho) | brk (ρ : Rho) | cont (ρ : Rho) | exc (c : Nat) (ρ : Rho) | stuck
def O.seq : O → (Rho → O) → O
  | .nx ρ, k => k ρ
  | .ret d ρ, _ => .ret d ρ
  | .brk ρ, _ => .brk ρ
  | .cont ρ, _ => .cont ρ
  | .exc c ρ, _ => .exc c ρ
  | .stuck, _ => .stuck
@[simp] theorem O.seq_nx (ρ : Rho) (k : Rho → O) : (O.nx ρ).seq k = k ρ := rfl
@[simp] theorem O.seq_ret (d : D) (ρ : Rho) (k : Rho → O) : (O.ret d ρ).seq k = .ret d ρ := rfl
@[simp] theorem O.seq_brk (ρ : Rho) (k : Rho → O) : (O.brk ρ).seq k = .brk ρ := rfl
@[simp] theorem O.seq_cont (ρ : Rho) (k : Rho → O) : (O.cont ρ).seq k = .cont ρ := rfl
@[simp] theorem O.seq_exc (c : Nat) (ρ : Rho) (k : Rho → O) : (O.exc c ρ).seq k = .exc c ρ := rfl
@[simp] theorem O.seq_stuck (k : Rho → O) : (O.stuck).seq k = .stuck := rfl
/-- behind an expression -/
def Ev.thn {α : Type} : Ev α → (α → Rho → O) → O
  | .ok a ρ, f => f a ρ
  | .exc c ρ, _ => .exc c ρ
  | .stuck, _ => .stuck
@[simp] theorem Ev.thn_ok {α : Type} (ρ : Rho) (a : α) (f : α → Rho → O) : (Ev.ok a ρ).thn f = f a ρ := rfl
@[simp] theorem Ev.thn_exc {α : Type} (ρ : Rho) (c : Nat) (f : α → Rho → O) : (Ev.exc c ρ : Ev α).thn f = .exc c ρ := rfl
@[simp] theorem Ev.thn_stuck {α : Type} (f : α → Rho → O) : (Ev.stuck : Ev α).thn f = .stuck := rfl
/-- behind a loop's turn: go on, or leave -/
def O.turn : O → (Rho → O) → O
  | .nx ρ, k => k ρ
  | .cont ρ, k => k ρ
  | .brk ρ, _ => .nx ρ
  | .ret d ρ, _ => .ret d ρ
  | .exc c ρ, _ => .exc c ρ
  | .stuck, _ => .stuck
@[simp] theorem O.turn_nx (ρ : Rho) (k : Rho → O) : (O.nx ρ).turn k = k ρ := rfl
@[simp] theorem O.turn_cont (ρ : Rho) (k : Rho → O) : (O.cont ρ).turn k = k ρ := rfl
@[simp] theorem O.turn_brk (ρ : Rho) (k : Rho → O) : (O.brk ρ).turn k = .nx ρ := rfl
@[simp] theorem O.turn_ret (d : D) (ρ : Rho) (k : Rho → O) : (O.ret d ρ).turn k = .ret d ρ := rfl
@[simp] theorem O.turn_exc (c : Nat) (ρ : Rho) (k : Rho → O) : (O.exc c ρ).turn k = .exc c ρ := rfl
@[simp] theorem O.turn_stuck (k : Rho → O) : (O.stuck).turn k = .stuck := rfl
def forL (f : D → Rho → O) : List D → Rho → O
  | [], ρ => .nx ρ
  | x :: xs, ρ => (f x ρ).turn (forL f xs)
def whlL (c : Rho → Ev Bool) (b : Rho → O) : Nat → Rho → O
  | 0, _ => .stuck
  | n + 1, ρ => (c ρ).thn fun k ρ => if k then (b ρ).turn (whlL c b n) else .nx ρ
/-- what a loop walked over comes back, however the loop ends -/
def O.back (l : Option (Pl × D)) : O → O
  | .nx ρ => match backI ρ l with | .ok ρ => .nx ρ | .stuck => .stuck
  | .ret d ρ => match backI ρ l with | .ok ρ => .ret d ρ | .stuck => .stuck
  | .brk ρ => match backI ρ l with | .ok ρ => .brk ρ | .stuck => .stuck
  | .cont ρ => match backI ρ l with | .ok ρ => .cont ρ | .stuck => .stuck
  | .exc c ρ => match backI ρ l with | .ok ρ => .exc c ρ | .stuck => .stuck
  | .stuck => .stuck
/-- behind an except suite its name is no more -/
def O.unN (i : Nat) : O → O
  | .nx ρ => .nx (ρ.set i .un)
  | .ret d ρ => .ret d (ρ.set i .un)
  | .brk ρ => .brk (ρ.set i .un)
  | .cont ρ => .cont (ρ.set i .un)
  | .exc _ _ => .stuck
  | .stuck => .stuck
def O.noX : O → O
  | .exc _ _ => .stuck
  | o => o
/-- the first clause that takes the exception -/
def pick (su : Subs) (k : Nat) : List Nat → List (Rho → O) → Rho → O
  | c :: cs, h :: hs, ρ => match su k c with
    | some true => (h ρ).noX
    | some false => pick su k cs hs ρ
    | none => .stuck
  | _, _, ρ => .exc k ρ

def parR (i j : Nat) (ds : List D) (ρ : Rho) : O := match ds with
  | [x, y] => .nx ((ρ.set i (.fz x)).set j (.fz y))
  | _ => .stuck
mutual
def evS (q : En) : S → Rho → O
  | .asg t e, ρ => (evP q e ρ).thn fun d ρ => ((setT t d ρ).at ρ).thn fun ρ _ => .nx ρ
  | .own i e, ρ => (evP q e ρ).thn fun d ρ => if isCon d then .nx (ρ.set i (.own d)) else .stuck
  | .par i j a b, ρ => (evAs q [a, b] ρ).thn fun ds ρ => parR i j ds ρ
  | .set p k v, ρ => (evP q v ρ).thn fun v ρ => if p.bound ρ then (evP q k ρ).thn fun k ρ => ((p.take ρ).at ρ).thn fun dr _ => ((evSet dr.1 k v).at ρ).thn fun d' _ => ((p.put dr.2 d').at ρ).thn fun ρ _ => .nx ρ else .stuck
  | .drop e, ρ => (evP q e ρ).thn fun _ ρ => .nx ρ
  | .ifs c a b, ρ => (evP q c ρ).thn fun d ρ => ((asB d).at ρ).thn fun k ρ => if k then evSs q a ρ else evSs q b ρ
  | .for t it b, ρ => (evP q it ρ).thn fun x ρ => ((itemsOf x).at ρ).thn fun xs ρ => ((lendI ρ it).at ρ).thn fun l _ => (forL (fun x ρ => ((setT t x ρ).at ρ).thn fun ρ _ => evSs q b ρ) xs l.2).back l.1
  | .whl n c b, ρ => whlL (fun ρ => (evP q c ρ).bind fun d ρ => (asB d).at ρ) (evSs q b) n ρ
  | .ret e, ρ => (evP q e ρ).thn fun d ρ => .ret d ρ
  | .retN, ρ => .ret .non ρ
  | .brk, ρ => .brk ρ
  | .cont, ρ => .cont ρ
  | .pas, ρ => .nx ρ
  | .rai c, ρ => .exc c ρ
  | .trA b c i h, ρ => match evSs q b ρ with
    | .exc k ρ => match q.su k c with
      | some true => (evSs { q with hx := some k } h (ρ.set i .un)).unN i
      | some false => .exc k ρ
      | none => .stuck
    | o => o
  | .trM b cs hs, ρ => match evSs q b ρ with
    | .exc k ρ => pick q.su k cs (evHs { q with hx := some k } hs) ρ
    | o => o
def evSs (q : En) : List S → Rho → O
  | [], ρ => .nx ρ
  | s :: ss, ρ => (evS q s ρ).seq (evSs q ss)
def evHs (q : En) : List (List S) → List (Rho → O)
  | [] => []
  | h :: hs => (fun ρ => evSs q h ρ) :: evHs q hs
end

/-- a def: its names by slot, parameters first; which parameters are lent; its body -/
structure Df where
  name : Str
  N : List Str
  np : Nat
  io : List Nat
  body : List S
/-- what was lent, as it is at the end -/
def outs : List Nat → Rho → R (List D)
  | [], _ => .ok []
  | i :: is, ρ => match ρ[i]? with
    | some (.own d) => (outs is ρ).bind fun ds => .ok (d :: ds)
    | _ => .stuck
def O.fin (io : List Nat) : O → Rs
  | .nx ρ => match outs io ρ with | .ok os => .ok .non os | .stuck => .stuck
  | .ret d ρ => match outs io ρ with | .ok os => .ok d os | .stuck => .stuck
  | .exc c ρ => match outs io ρ with | .ok os => .exc c os | .stuck => .stuck
  | _ => .stuck
/-- the slots at a call -/
def startR (io : List Nat) : Nat → List D → Rho
  | _, [] => []
  | i, d :: ds => (if io.contains i then Sl.own d else Sl.fz d) :: startR io (i + 1) ds
/-- the f-th def called with values, at most n calls one in another -/
def runD (su : Subs) (Ps : Nat → Option Df) : Nat → Nat → List D → Rs
  | 0, _, _ => .stuck
  | n + 1, f, ds => match Ps f with
    | none => .stuck
    | some df => if ds.length = df.np then (evSs ⟨su, runD su Ps n, none⟩ df.body (startR df.io 0 ds ++ List.replicate (df.N.length - df.np) Sl.un)).fin df.io else .stuck
end Bk

/-! B2: how data lies in the tracked heap; what is held apart. -/
namespace Bk
open PySem PySem.Spec PyProof.Rows L2

/-- the run around: what is written, where the defs and the classes stand, the exceptions' classes -/
structure Wd where
  K : PySem.W.Frag
  fa : Nat → Addr
  ca : Nat → Addr
  xc : Nat → Value
/-- a dict of the t-th kind, with these keys and values -/
def DAt (H : Hp) (a : Addr) (t : Nat) (ks : List D) (vs : List V) : Prop := ks.length = vs.length ∧ match t with
  | 0 => ∃ kk : List Key, ks.map keyOf = kk.map some ∧ H a = some (.dK (kk.zip vs))
  | 1 => ∃ kk : List (List Key), ks.map keyTOf = kk.map some ∧ H a = some (.dT (kk.zip vs))
  | _ => False
/-- a tuple that is written in the text, not made: never a key -/
def isCst : List D → Bool
  | [.str z] => decide (z = "*")
  | _ => false
section
variable (K : Wd) (H : Hp) (F : Addr → Prop)
mutual
def Val : D → V → Prop
  | .non, v => v = .non
  | .bl b, v => v = .bl b
  | .int i, v => v = .int i
  | .str s, v => v = .str s
  | .tup xs, v => ∃ a vs, v = .ref a ∧ SqT K.K H a vs ∧ (isCst xs = true ∨ H a = some (.tup vs)) ∧ ValL xs vs
  | .lst xs, v => ∃ a vs, v = .ref a ∧ F a ∧ H a = some (.lst vs) ∧ ValL xs vs
  | .scr ns, v => ∃ a, v = .ref a ∧ (F a ∧ Rd H a (.lst (ns.map V.int)) ∨ (∀ H', SqL K.K H' a (ns.map V.int)))
  | .dct t ks xs, v => ∃ a vs, v = .ref a ∧ F a ∧ DAt H a t ks vs ∧ ValL xs vs
  | .fn i, v => v = .ref (K.fa i)
  | .obj _ _ _, _ => False
  | .box _, _ => False
  | .gone, _ => False
def ValL : List D → List V → Prop
  | [], vs => vs = []
  | d :: ds, vs => ∃ v r, vs = v :: r ∧ Val d v ∧ ValL ds r
end
/-- a container of one's own, and the addresses that are held alone -/
def OwnD : D → Option V → List Addr → Prop
  | .lst xs, o, fp => ∃ a vs, o = some (.ref a) ∧ H a = some (.lst vs) ∧ ValL K H F xs vs ∧ fp = [a]
  | .dct t ks xs, o, fp => ∃ a vs, o = some (.ref a) ∧ DAt H a t ks vs ∧ ValL K H F xs vs ∧ fp = [a]
  | _, _, _ => False
/-- what a slot holds, and the addresses that it holds alone -/
def Own : Sl → Option V → List Addr → Prop
  | .un, _, fp => fp = []
  | .fz d, o, fp => fp = [] ∧ ∃ v, o = some v ∧ Val K H F d v
  | .own d, o, fp => OwnD K H F d o fp
abbrev Things := List (Sl × Option V)
def SepL : Things → List Addr → Prop
  | [], fp => fp = []
  | t :: ts, fp => ∃ f g, fp = f ++ g ∧ Own K H F t.1 t.2 f ∧ SepL ts g
def Sep (ts : Things) : Prop := (∀ a, F a → H a ≠ none) ∧ ∃ fp, SepL K H F ts fp ∧ fp.Nodup ∧ ∀ a ∈ fp, ¬ F a
end
/-- what may be changed -/
def Wr : HO → Prop
  | .lst _ => True
  | .dK _ => True
  | .dT _ => True
  | _ => False
/-- what no one changes is as it was -/
def Pres (F : Addr → Prop) (H H' : Hp) : Prop := ∀ a o, H a = some o → (F a ∨ (∃ xs, o = .tup xs) ∨ ∃ ob u, o = .frz ob u) → H' a = some o

section
variable {K : Wd} {H H' : Hp} {F F' : Addr → Prop}
theorem Rd.presT {a : Addr} {xs : List V} (p : Pres F H H') (r : Rd H a (.tup xs)) : Rd H' a (.tup xs) := by
  rcases r with r | ⟨o, r⟩
  · exact .inl (p _ _ r (.inr (.inl ⟨xs, rfl⟩)))
  · exact .inr ⟨o, p _ _ r (.inr (.inr ⟨o, _, rfl⟩))⟩
theorem Rd.presL {a : Addr} {xs : List V} (p : Pres F H H') (f : F a) (r : Rd H a (.lst xs)) : Rd H' a (.lst xs) := by
  rcases r with r | ⟨o, r⟩
  · exact .inl (p _ _ r (.inl f))
  · exact .inr ⟨o, p _ _ r (.inl f)⟩
theorem SqT.pres {a : Addr} {xs : List V} (p : Pres F H H') (r : SqT K.K H a xs) : SqT K.K H' a xs := by
  rcases r with r | r
  · exact .inl (Rd.presT p r)
  · exact .inr r
theorem DAt.pres {a : Addr} {t : Nat} {ks : List D} {vs : List V} (p : ∀ o, H a = some o → H' a = some o) (h : DAt H a t ks vs) : DAt H' a t ks vs := by
  refine ⟨h.1, ?_⟩
  have h2 := h.2
  match t, h2 with
  | 0, ⟨kk, e1, e2⟩ => exact ⟨kk, e1, p _ e2⟩
  | 1, ⟨kk, e1, e2⟩ => exact ⟨kk, e1, p _ e2⟩
theorem DAt.there {a : Addr} {t : Nat} {ks : List D} {vs : List V} (h : DAt H a t ks vs) : ∃ o, H a = some o ∧ Wr o := by
  have h2 := h.2
  match t, h2 with
  | 0, ⟨kk, e1, e2⟩ => exact ⟨_, e2, trivial⟩
  | 1, ⟨kk, e1, e2⟩ => exact ⟨_, e2, trivial⟩
mutual
theorem Val.mono (hf : ∀ a, F a → F' a) (p : Pres F H H') : ∀ {d : D} {v : V}, Val K H F d v → Val K H' F' d v
  | .non, _, h => h
  | .bl _, _, h => h
  | .int _, _, h => h
  | .str _, _, h => h
  | .tup xs, v, h => by
    unfold Val at h ⊢
    obtain ⟨a, vs, e, t, c, l⟩ := h
    exact ⟨a, vs, e, SqT.pres p t, c.imp id fun c => p _ _ c (.inr (.inl ⟨_, rfl⟩)), ValL.mono hf p l⟩
  | .lst xs, v, h => by
    unfold Val at h ⊢
    obtain ⟨a, vs, e, f, t, l⟩ := h
    exact ⟨a, vs, e, hf a f, p _ _ t (.inl f), ValL.mono hf p l⟩
  | .scr ns, v, h => by
    unfold Val at h ⊢
    obtain ⟨a, e, ⟨f, t⟩ | t⟩ := h
    · exact ⟨a, e, .inl ⟨hf a f, Rd.presL p f t⟩⟩
    · exact ⟨a, e, .inr t⟩
  | .dct _ _ _, _, h => by
    unfold Val at h ⊢
    obtain ⟨a, vs, e, f, t, l⟩ := h
    exact ⟨a, vs, e, hf a f, t.pres fun o q => p _ _ q (.inl f), ValL.mono hf p l⟩
  | .fn _, _, h => by unfold Val at h ⊢; exact h
  | .obj _ _ _, _, h => by unfold Val at h; exact h.elim
  | .box _, _, h => by unfold Val at h; exact h.elim
  | .gone, _, h => by unfold Val at h; exact h.elim
theorem ValL.mono (hf : ∀ a, F a → F' a) (p : Pres F H H') : ∀ {ds : List D} {vs : List V}, ValL K H F ds vs → ValL K H' F' ds vs
  | [], _, h => h
  | d :: ds, vs, h => by
    unfold ValL at h ⊢
    obtain ⟨v, r, e, a, b⟩ := h
    exact ⟨v, r, e, Val.mono hf p a, ValL.mono hf p b⟩
end
theorem ValL.nil : ValL K H F [] [] := by unfold ValL; rfl
theorem ValL.cons {d : D} {v : V} {ds : List D} {vs : List V} (a : Val K H F d v) (b : ValL K H F ds vs) : ValL K H F (d :: ds) (v :: vs) := by
  unfold ValL; exact ⟨v, vs, rfl, a, b⟩
theorem ValL.length : ∀ {ds : List D} {vs : List V}, ValL K H F ds vs → ds.length = vs.length
  | [], _, h => by unfold ValL at h; subst h; rfl
  | d :: ds, _, h => by
    unfold ValL at h
    obtain ⟨v, r, rfl, _, b⟩ := h
    simp [b.length]
theorem ValL.append : ∀ {ds es : List D} {vs us : List V}, ValL K H F ds vs → ValL K H F es us → ValL K H F (ds ++ es) (vs ++ us)
  | [], _, _, _, h, q => by unfold ValL at h; subst h; exact q
  | d :: ds, _, _, _, h, q => by
    unfold ValL at h
    obtain ⟨v, r, rfl, a, b⟩ := h
    exact ValL.cons a (b.append q)
theorem ValL.get : ∀ {ds : List D} {vs : List V} {i : Nat} {d : D}, ValL K H F ds vs → ds[i]? = some d → ∃ v, vs[i]? = some v ∧ Val K H F d v
  | [], _, i, d, _, e => by simp at e
  | x :: ds, _, i, d, h, e => by
    unfold ValL at h
    obtain ⟨v, r, rfl, a, b⟩ := h
    cases i with
    | zero => simp at e; subst e; exact ⟨v, rfl, a⟩
    | succ i => simpa using b.get (by simpa using e)
theorem ValL.take : ∀ {ds : List D} {vs : List V} (n : Nat), ValL K H F ds vs → ValL K H F (ds.take n) (vs.take n)
  | [], _, n, h => by unfold ValL at h; subst h; simpa using ValL.nil
  | d :: ds, _, 0, h => by simpa using ValL.nil
  | d :: ds, _, n + 1, h => by
    unfold ValL at h
    obtain ⟨v, r, rfl, a, b⟩ := h
    exact ValL.cons a (b.take n)
theorem ValL.drop : ∀ {ds : List D} {vs : List V} (n : Nat), ValL K H F ds vs → ValL K H F (ds.drop n) (vs.drop n)
  | [], _, n, h => by unfold ValL at h; subst h; simpa using ValL.nil
  | d :: ds, _, 0, h => h
  | d :: ds, _, n + 1, h => by
    unfold ValL at h
    obtain ⟨v, r, rfl, a, b⟩ := h
    exact b.drop n
theorem ValL.set {d : D} {v : V} (q : Val K H F d v) : ∀ {ds : List D} {vs : List V} (i : Nat), ValL K H F ds vs → ValL K H F (ds.set i d) (vs.set i v)
  | [], _, i, h => by unfold ValL at h; subst h; simpa using ValL.nil
  | x :: ds, _, 0, h => by
    unfold ValL at h
    obtain ⟨v, r, rfl, a, b⟩ := h
    exact ValL.cons q b
  | x :: ds, _, i + 1, h => by
    unfold ValL at h
    obtain ⟨w, r, rfl, a, b⟩ := h
    exact ValL.cons a (b.set q i)
theorem ValL.reverse : ∀ {ds : List D} {vs : List V}, ValL K H F ds vs → ValL K H F ds.reverse vs.reverse
  | [], _, h => by unfold ValL at h; subst h; exact ValL.nil
  | x :: ds, _, h => by
    unfold ValL at h
    obtain ⟨v, r, rfl, a, b⟩ := h
    rw [List.reverse_cons, List.reverse_cons]
    exact b.reverse.append (ValL.cons a ValL.nil)
theorem ValL.dropLast {ds : List D} {vs : List V} (h : ValL K H F ds vs) : ValL K H F ds.dropLast vs.dropLast := by
  rw [List.dropLast_eq_take, List.dropLast_eq_take, h.length]
  exact h.take _
theorem ValL.ints : ∀ {ds : List D} {vs : List V} {ns : List Int}, ValL K H F ds vs → intsOf ds = some ns → vs = ns.map V.int
  | [], _, ns, h, e => by unfold ValL at h; simp [intsOf] at e; subst e h; rfl
  | d :: ds, _, ns, h, e => by
    unfold ValL at h
    obtain ⟨v, r, rfl, a, b⟩ := h
    cases d with
    | int i =>
      simp only [intsOf, Option.map_eq_some_iff] at e
      obtain ⟨ms, e1, rfl⟩ := e
      unfold Val at a
      rw [a, b.ints e1]; rfl
    | _ => simp [intsOf] at e
theorem ValL.bools : ∀ {ds : List D} {vs : List V} {ns : List Bool}, ValL K H F ds vs → boolsOf ds = some ns → vs = ns.map V.bl
  | [], _, ns, h, e => by unfold ValL at h; simp [boolsOf] at e; subst e h; rfl
  | d :: ds, _, ns, h, e => by
    unfold ValL at h
    obtain ⟨v, r, rfl, a, b⟩ := h
    cases d with
    | bl i =>
      simp only [boolsOf, Option.map_eq_some_iff] at e
      obtain ⟨ms, e1, rfl⟩ := e
      unfold Val at a
      rw [a, b.bools e1]; rfl
    | _ => simp [boolsOf] at e
theorem ValL.strs : ∀ {ds : List D} {vs : List V} {ns : List Str}, ValL K H F ds vs → strsOf ds = some ns → vs = ns.map V.str
  | [], _, ns, h, e => by unfold ValL at h; simp [strsOf] at e; subst e h; rfl
  | d :: ds, _, ns, h, e => by
    unfold ValL at h
    obtain ⟨v, r, rfl, a, b⟩ := h
    cases d with
    | str i =>
      simp only [strsOf, Option.map_eq_some_iff] at e
      obtain ⟨ms, e1, rfl⟩ := e
      unfold Val at a
      rw [a, b.strs e1]; rfl
    | _ => simp [strsOf] at e

/-! ### what is held apart -/
theorem OwnD.mono {d : D} {o : Option V} {fp : List Addr} (hf : ∀ a, F a → F' a) (p : Pres F H H') (hk : ∀ a ∈ fp, H' a = H a) (h : OwnD K H F d o fp) : OwnD K H' F' d o fp := by
  cases d with
  | lst xs =>
    unfold OwnD at h ⊢
    obtain ⟨a, vs, e, ha, l, rfl⟩ := h
    exact ⟨a, vs, e, by rw [hk a (by simp)]; exact ha, l.mono hf p, rfl⟩
  | dct t ks xs =>
    unfold OwnD at h ⊢
    obtain ⟨a, vs, e, ha, l, rfl⟩ := h
    exact ⟨a, vs, e, ha.pres fun o q => by rw [hk a (by simp)]; exact q, l.mono hf p, rfl⟩
  | _ => unfold OwnD at h; exact h.elim
theorem Own.mono {s : Sl} {o : Option V} {fp : List Addr} (hf : ∀ a, F a → F' a) (p : Pres F H H') (hk : ∀ a ∈ fp, H' a = H a) (h : Own K H F s o fp) : Own K H' F' s o fp := by
  cases s with
  | un => exact h
  | fz d =>
    unfold Own at h ⊢
    obtain ⟨e, v, ev, q⟩ := h
    exact ⟨e, v, ev, q.mono hf p⟩
  | own d => exact OwnD.mono hf p hk h
theorem SepL.mono (hf : ∀ a, F a → F' a) (p : Pres F H H') : ∀ {ts : Things} {fp : List Addr}, (∀ a ∈ fp, H' a = H a) → SepL K H F ts fp → SepL K H' F' ts fp
  | [], _, _, h => h
  | t :: ts, fp, hk, h => by
    unfold SepL at h ⊢
    obtain ⟨f, g, rfl, a, b⟩ := h
    exact ⟨f, g, rfl, a.mono hf p fun x hx => hk x (List.mem_append_left _ hx), b.mono hf p fun x hx => hk x (List.mem_append_right _ hx)⟩
theorem OwnD.there {d : D} {o : Option V} {fp : List Addr} (h : OwnD K H F d o fp) : ∀ a ∈ fp, ∃ o, H a = some o ∧ Wr o := by
  cases d with
  | lst xs =>
    unfold OwnD at h
    obtain ⟨a, vs, e, ha, l, rfl⟩ := h
    intro b hb
    obtain rfl : b = a := by simpa using hb
    exact ⟨_, ha, trivial⟩
  | dct t ks xs =>
    unfold OwnD at h
    obtain ⟨a, vs, e, ha, l, rfl⟩ := h
    intro b hb
    obtain rfl : b = a := by simpa using hb
    exact ha.there
  | _ => unfold OwnD at h; exact h.elim
theorem Own.there {s : Sl} {o : Option V} {fp : List Addr} (h : Own K H F s o fp) : ∀ a ∈ fp, ∃ o, H a = some o ∧ Wr o := by
  cases s with
  | un => unfold Own at h; subst h; simp
  | fz d => unfold Own at h; obtain ⟨rfl, _⟩ := h; simp
  | own d => exact OwnD.there h
theorem SepL.there : ∀ {ts : Things} {fp : List Addr}, SepL K H F ts fp → ∀ a ∈ fp, ∃ o, H a = some o ∧ Wr o
  | [], fp, h => by unfold SepL at h; subst h; simp
  | t :: ts, fp, h => by
    unfold SepL at h
    obtain ⟨f, g, rfl, a, b⟩ := h
    intro x hx
    rcases List.mem_append.mp hx with z | z
    · exact a.there x z
    · exact b.there x z
theorem SepL.perm {ts us : Things} (p : ts.Perm us) : ∀ {fp : List Addr}, SepL K H F ts fp → ∃ fp', SepL K H F us fp' ∧ fp.Perm fp' := by
  induction p with
  | nil => exact fun h => ⟨_, h, List.Perm.refl _⟩
  | cons t _ ih =>
    intro fp h
    unfold SepL at h
    obtain ⟨f, g, rfl, a, b⟩ := h
    obtain ⟨g', b', q⟩ := ih b
    refine ⟨f ++ g', ?_, q.append_left f⟩
    unfold SepL
    exact ⟨f, g', rfl, a, b'⟩
  | swap t u ts =>
    intro fp h
    unfold SepL at h
    obtain ⟨f, g, rfl, a, b⟩ := h
    unfold SepL at b
    obtain ⟨f2, g2, rfl, a2, b2⟩ := b
    refine ⟨f2 ++ (f ++ g2), ?_, ?_⟩
    · unfold SepL
      refine ⟨f2, f ++ g2, rfl, a2, ?_⟩
      unfold SepL
      exact ⟨f, g2, rfl, a, b2⟩
    · rw [← List.append_assoc, ← List.append_assoc]
      exact List.perm_append_comm.append_right g2
  | trans _ _ ih1 ih2 =>
    intro fp h
    obtain ⟨g, a, p⟩ := ih1 h
    obtain ⟨g', a', p'⟩ := ih2 a
    exact ⟨g', a', p.trans p'⟩
theorem Sep.perm {ts us : Things} (h : Sep K H F ts) (p : ts.Perm us) : Sep K H F us := by
  obtain ⟨a, fp, b, c, d⟩ := h
  obtain ⟨fp', b', q⟩ := b.perm p
  exact ⟨a, fp', b', q.nodup_iff.mp c, fun x hx => d x (q.mem_iff.mpr hx)⟩
theorem Sep.tail {t : Sl × Option V} {ts : Things} (h : Sep K H F (t :: ts)) : Sep K H F ts := by
  obtain ⟨a, fp, b, c, d⟩ := h
  unfold SepL at b
  obtain ⟨f, g, rfl, _, b⟩ := b
  exact ⟨a, g, b, (List.nodup_append.mp c).2.1, fun x hx => d x (List.mem_append_right _ hx)⟩
theorem Sep.right : ∀ {ts us : Things}, Sep K H F (ts ++ us) → Sep K H F us
  | [], _, h => h
  | _ :: ts, us, h => Sep.right (ts := ts) h.tail
theorem Sep.push {d : D} {v : V} {ts : Things} (h : Sep K H F ts) (q : Val K H F d v) : Sep K H F ((.fz d, some v) :: ts) := by
  obtain ⟨a, fp, b, c, e⟩ := h
  refine ⟨a, fp, ?_, c, e⟩
  unfold SepL
  refine ⟨[], fp, rfl, ?_, b⟩
  unfold Own
  exact ⟨rfl, v, rfl, q⟩
theorem Sep.val {d : D} {o : Option V} {ts : Things} (h : Sep K H F ((.fz d, o) :: ts)) : ∃ v, o = some v ∧ Val K H F d v := by
  obtain ⟨_, fp, b, _, _⟩ := h
  unfold SepL at b
  obtain ⟨f, g, _, o, _⟩ := b
  unfold Own at o
  exact o.2
theorem Sep.mem_val {d : D} {o : Option V} {ts : Things} (h : Sep K H F ts) (m : (Sl.fz d, o) ∈ ts) : ∃ v, o = some v ∧ Val K H F d v := by
  obtain ⟨us, p⟩ : ∃ us, ts.Perm ((Sl.fz d, o) :: us) := by
    obtain ⟨x, y, rfl⟩ := List.append_of_mem m
    exact ⟨x ++ y, List.perm_middle⟩
  exact (h.perm p).val
theorem Sep.head_own {xs : List D} {o : Option V} {ts : Things} (h : Sep K H F ((.own (.lst xs), o) :: ts)) : ∃ a vs, o = some (.ref a) ∧ H a = some (.lst vs) ∧ ValL K H F xs vs := by
  obtain ⟨_, fp, b, _, _⟩ := h
  unfold SepL at b
  obtain ⟨f, g, _, o, _⟩ := b
  unfold Own OwnD at o
  obtain ⟨a, vs, e, ha, l, _⟩ := o
  exact ⟨a, vs, e, ha, l⟩
theorem Sep.head_ownD {t : Nat} {ks xs : List D} {o : Option V} {ts : Things} (h : Sep K H F ((.own (.dct t ks xs), o) :: ts)) : ∃ a vs, o = some (.ref a) ∧ DAt H a t ks vs ∧ ValL K H F xs vs := by
  obtain ⟨_, fp, b, _, _⟩ := h
  unfold SepL at b
  obtain ⟨f, g, _, o, _⟩ := b
  unfold Own OwnD at o
  obtain ⟨a, vs, e, ha, l, _⟩ := o
  exact ⟨a, vs, e, ha, l⟩
theorem Sep.own_con {d : D} {o : Option V} {ts : Things} (h : Sep K H F ((.own d, o) :: ts)) : (∃ xs, d = .lst xs) ∨ ∃ t ks xs, d = .dct t ks xs := by
  obtain ⟨_, fp, b, _, _⟩ := h
  unfold SepL at b
  obtain ⟨f, g, _, o, _⟩ := b
  unfold Own at o
  cases d with
  | lst xs => exact .inl ⟨xs, rfl⟩
  | dct t ks xs => exact .inr ⟨t, ks, xs, rfl⟩
  | _ => unfold OwnD at o; exact o.elim
theorem Sep.own_ref {d : D} {o : Option V} {ts : Things} (h : Sep K H F ((.own d, o) :: ts)) : ∃ a, o = some (.ref a) := by
  rcases h.own_con with ⟨xs, rfl⟩ | ⟨t, ks, xs, rfl⟩
  · obtain ⟨a, _, e, _⟩ := h.head_own; exact ⟨a, e⟩
  · obtain ⟨a, _, e, _⟩ := h.head_ownD; exact ⟨a, e⟩
theorem mem_perm {t : Sl × Option V} {ts : Things} (m : t ∈ ts) : ∃ us, ts.Perm (t :: us) := by
  obtain ⟨x, y, rfl⟩ := List.append_of_mem m
  exact ⟨x ++ y, List.perm_middle⟩
theorem Pres.new {p : Addr} {o : HO} (hp : H p = none) : Pres F H (upd H p o) := fun a ob e _ => by
  rw [upd_ne (ne_of_none e hp)]; exact e
theorem SepL.new {ts : Things} {fp : List Addr} {p : Addr} {o : HO} (hf : ∀ a, F a → F' a) (hp : H p = none) (h : SepL K H F ts fp) : SepL K (upd H p o) F' ts fp :=
  h.mono hf (Pres.new hp) fun a ha => by
    obtain ⟨vs, e, _⟩ := h.there a ha
    exact upd_ne (ne_of_none e hp)
/-- a new object -/
theorem Sep.new {ts : Things} {p : Addr} {o : HO} (h : Sep K H F ts) (hp : H p = none) : Sep K (upd H p o) F ts := by
  obtain ⟨a, fp, b, c, d⟩ := h
  refine ⟨fun x hx => ?_, fp, b.new (fun _ z => z) hp, c, d⟩
  by_cases e : x = p
  · subst e; rw [upd_same]; simp
  · rw [upd_ne e]; exact a x hx
theorem Sep.tupNew {ts : Things} {p : Addr} {ds : List D} {vs : List V} (h : Sep K H F ts) (hp : H p = none) (l : ValL K H F ds vs) :
    Sep K (upd H p (.tup vs)) F ts ∧ Val K (upd H p (.tup vs)) F (.tup ds) (.ref p) := by
  refine ⟨h.new hp, ?_⟩
  unfold Val
  exact ⟨p, vs, rfl, .inl (.inl upd_same), .inr upd_same, l.mono (fun _ z => z) (Pres.new hp)⟩
/-- a new container of one's own -/
theorem Sep.conNew {ts : Things} {p : Addr} {d : D} {o : HO} (h : Sep K H F ts) (hp : H p = none) (q : OwnD K (upd H p o) F d (some (.ref p)) [p]) : Sep K (upd H p o) F ((.own d, some (.ref p)) :: ts) := by
  obtain ⟨a, fp, b, c, e⟩ := h
  refine ⟨fun x hx => ?_, p :: fp, ?_, ?_, fun x hx => ?_⟩
  · by_cases e : x = p
    · subst e; rw [upd_same]; simp
    · rw [upd_ne e]; exact a x hx
  · unfold SepL
    exact ⟨[p], fp, rfl, q, b.new (fun _ z => z) hp⟩
  · refine List.nodup_cons.mpr ⟨fun m => ?_, c⟩
    obtain ⟨us, e, _⟩ := b.there p m
    rw [hp] at e; cases e
  · rcases List.mem_cons.mp hx with rfl | hx
    · exact fun z => a _ z hp
    · exact e x hx
theorem Sep.lstNew {ts : Things} {p : Addr} {ds : List D} {vs : List V} (h : Sep K H F ts) (hp : H p = none) (l : ValL K H F ds vs) :
    Sep K (upd H p (.lst vs)) F ((.own (.lst ds), some (.ref p)) :: ts) := by
  refine h.conNew hp ?_
  unfold OwnD
  exact ⟨p, vs, rfl, upd_same, l.mono (fun _ z => z) (Pres.new hp), rfl⟩
theorem Sep.dctNew0 {ts : Things} {p : Addr} (h : Sep K H F ts) (hp : H p = none) : Sep K (upd H p (.dK [])) F ((.own (.dct 0 [] []), some (.ref p)) :: ts) := by
  refine h.conNew hp ?_
  unfold OwnD
  exact ⟨p, [], rfl, ⟨rfl, [], rfl, upd_same⟩, ValL.nil, rfl⟩
theorem Sep.dctNew1 {ts : Things} {p : Addr} (h : Sep K H F ts) (hp : H p = none) : Sep K (upd H p (.dT [])) F ((.own (.dct 1 [] []), some (.ref p)) :: ts) := by
  refine h.conNew hp ?_
  unfold OwnD
  exact ⟨p, [], rfl, ⟨rfl, [], rfl, upd_same⟩, ValL.nil, rfl⟩
/-- what a slot held alone is shared from now on -/
theorem Sep.freeze {ts : Things} {d : D} {o : Option V} (h : Sep K H F ((.own d, o) :: ts)) : ∃ F' v, o = some v ∧ (∀ a, F a → F' a) ∧ Sep K H F' ts ∧ Val K H F' d v := by
  have hc := h.own_con
  obtain ⟨t, fp, b, c, e⟩ := h
  unfold SepL at b
  obtain ⟨f, g, rfl, ow, b⟩ := b
  have pr : Pres F H H := fun _ _ e _ => e
  have key : ∀ a, f = [a] → H a ≠ none → Sep K H (fun x => F x ∨ x = a) ts := fun a hfa ha => by
    subst hfa
    refine ⟨fun x hx => ?_, g, b.mono (fun _ z => .inl z) pr fun _ _ => rfl, (List.nodup_append.mp c).2.1, fun x hx => ?_⟩
    · rcases hx with hx | rfl
      · exact t x hx
      · exact ha
    · rintro (z | rfl)
      · exact e x (List.mem_append_right _ hx) z
      · exact (List.nodup_append.mp c).2.2 x (by simp) x hx rfl
  rcases hc with ⟨xs, rfl⟩ | ⟨tt, ks, xs, rfl⟩
  · unfold Own OwnD at ow
    obtain ⟨a, vs, rfl, ha, l, rfl⟩ := ow
    refine ⟨fun x => F x ∨ x = a, .ref a, rfl, fun _ z => .inl z, key a rfl (by rw [ha]; simp), ?_⟩
    unfold Val
    exact ⟨a, vs, rfl, .inr rfl, ha, l.mono (fun _ z => .inl z) pr⟩
  · unfold Own OwnD at ow
    obtain ⟨a, vs, rfl, ha, l, rfl⟩ := ow
    obtain ⟨_, ha', _⟩ := ha.there
    refine ⟨fun x => F x ∨ x = a, .ref a, rfl, fun _ z => .inl z, key a rfl (by rw [ha']; simp), ?_⟩
    unfold Val
    exact ⟨a, vs, rfl, .inr rfl, ha, l.mono (fun _ z => .inl z) pr⟩
/-- a container that a slot holds alone is changed -/
theorem Sep.writeD {ts : Things} {d d' : D} {a : Addr} {o : HO} (h : Sep K H F ((.own d, some (.ref a)) :: ts)) (q : Sep K H F ((.own d, some (.ref a)) :: ts) → Pres F H (upd H a o) → OwnD K (upd H a o) F d' (some (.ref a)) [a]) :
    Sep K (upd H a o) F ((.own d', some (.ref a)) :: ts) := by
  have h0 := h
  have hc := h.own_con
  obtain ⟨t, fp, b, c, e⟩ := h
  unfold SepL at b
  obtain ⟨f, g, rfl, ow, b⟩ := b
  obtain ⟨hfa, ha⟩ : f = [a] ∧ ∃ o, H a = some o ∧ Wr o := by
    rcases hc with ⟨xs, rfl⟩ | ⟨tt, ks, xs, rfl⟩
    · unfold Own OwnD at ow
      obtain ⟨a', vs', e1, ha', l', rfl⟩ := ow
      cases e1
      exact ⟨rfl, _, ha', trivial⟩
    · unfold Own OwnD at ow
      obtain ⟨a', vs', e1, ha', l', rfl⟩ := ow
      cases e1
      exact ⟨rfl, ha'.there⟩
  subst hfa
  obtain ⟨o0, ha', wr⟩ := ha
  have na : ¬ F a := e a (by simp)
  have pr : Pres F H (upd H a o) := fun x o2 q2 z => by
    by_cases ex : x = a
    · subst ex
      rw [ha'] at q2; cases q2
      rcases z with z | ⟨_, z⟩ | ⟨_, _, z⟩
      · exact (na z).elim
      · subst z; exact wr.elim
      · subst z; exact wr.elim
    · rw [upd_ne ex]; exact q2
  refine ⟨fun x hx => ?_, [a] ++ g, ?_, c, e⟩
  · by_cases ex : x = a
    · subst ex; rw [upd_same]; simp
    · rw [upd_ne ex]; exact t x hx
  · unfold SepL
    refine ⟨[a], g, rfl, q h0 pr, b.mono (fun _ z => z) pr fun x hx => upd_ne fun z => ?_⟩
    subst z
    exact (List.nodup_append.mp c).2.2 x (by simp) x hx rfl
theorem Sep.write {ts : Things} {xs ys : List D} {a : Addr} {vs : List V} (h : Sep K H F ((.own (.lst xs), some (.ref a)) :: ts)) (l : ValL K H F ys vs) :
    Sep K (upd H a (.lst vs)) F ((.own (.lst ys), some (.ref a)) :: ts) :=
  h.writeD fun _ pr => by
    unfold OwnD
    exact ⟨a, vs, rfl, upd_same, l.mono (fun _ z => z) pr, rfl⟩

/-! ### what may be looked at: shared data, or a slot's own container -/
def Bor (K : Wd) (H : Hp) (F : Addr → Prop) (d : D) (v : V) : Prop :=
  Val K H F d v ∨ (∃ xs a vs, d = .lst xs ∧ v = .ref a ∧ H a = some (.lst vs) ∧ ValL K H F xs vs) ∨ ∃ t ks xs a vs, d = .dct t ks xs ∧ v = .ref a ∧ DAt H a t ks vs ∧ ValL K H F xs vs
theorem Val.bor {d : D} {v : V} (h : Val K H F d v) : Bor K H F d v := .inl h
theorem Bor.val {d : D} {v : V} (h : Bor K H F d v) (n : ∀ xs, d ≠ .lst xs) (n2 : ∀ t ks xs, d ≠ .dct t ks xs) : Val K H F d v := by
  rcases h with h | ⟨xs, _, _, e, _⟩ | ⟨t, ks, xs, _, _, e, _⟩
  · exact h
  · exact (n xs e).elim
  · exact (n2 t ks xs e).elim
theorem Bor.lstH {xs : List D} {v : V} (h : Bor K H F (.lst xs) v) : ∃ a vs, v = .ref a ∧ H a = some (.lst vs) ∧ ValL K H F xs vs := by
  rcases h with h | ⟨ys, a, vs, e, ev, ha, l⟩ | ⟨t, ks, xs, _, _, e, _⟩
  · unfold Val at h
    obtain ⟨a, vs, e, _, r, l⟩ := h
    exact ⟨a, vs, e, r, l⟩
  · cases e
    exact ⟨a, vs, ev, ha, l⟩
  · cases e
theorem ValL.ofInts (K : Wd) (H : Hp) (F : Addr → Prop) : ∀ ns : List Int, ValL K H F (ns.map D.int) (ns.map V.int)
  | [] => ValL.nil
  | n :: ns => ValL.cons (by unfold Val; rfl) (ValL.ofInts K H F ns)
theorem Bor.lst {xs : List D} {v : V} (h : Bor K H F (.lst xs) v) : ∃ a vs, v = .ref a ∧ Rd H a (.lst vs) ∧ ValL K H F xs vs := by
  obtain ⟨a, vs, e, r, l⟩ := h.lstH
  exact ⟨a, vs, e, .inl r, l⟩
theorem Bor.dct {t : Nat} {ks xs : List D} {v : V} (h : Bor K H F (.dct t ks xs) v) : ∃ a vs, v = .ref a ∧ DAt H a t ks vs ∧ ValL K H F xs vs := by
  rcases h with h | ⟨ys, a, vs, e, ev, ha, l⟩ | ⟨t, ks, xs, a, vs, e, ev, ha, l⟩
  · unfold Val at h
    obtain ⟨a, vs, e, _, r, l⟩ := h
    exact ⟨a, vs, e, r, l⟩
  · cases e
  · cases e
    exact ⟨a, vs, ev, ha, l⟩
theorem Bor.scr {ns : List Int} {v : V} (h : Bor K H F (.scr ns) v) : ∃ a, v = .ref a ∧ SqL K.K H a (ns.map V.int) ∧ ValL K H F (ns.map D.int) (ns.map V.int) := by
  have h := h.val (by intro _ z; cases z) (by intro _ _ _ z; cases z)
  unfold Val at h
  obtain ⟨a, e, ⟨_, r⟩ | r⟩ := h
  · exact ⟨a, e, .inl r, ValL.ofInts K H F ns⟩
  · exact ⟨a, e, r H, ValL.ofInts K H F ns⟩
theorem Bor.tupC {xs : List D} {v : V} (h : Bor K H F (.tup xs) v) : ∃ a vs, v = .ref a ∧ SqT K.K H a vs ∧ (isCst xs = true ∨ H a = some (.tup vs)) ∧ ValL K H F xs vs := by
  have h := h.val (by intro _ z; cases z) (by intro _ _ _ z; cases z)
  unfold Val at h
  exact h
theorem Bor.tup {xs : List D} {v : V} (h : Bor K H F (.tup xs) v) : ∃ a vs, v = .ref a ∧ SqT K.K H a vs ∧ ValL K H F xs vs := by
  obtain ⟨a, vs, e, t, _, l⟩ := h.tupC
  exact ⟨a, vs, e, t, l⟩
theorem Bor.int {i : Int} {v : V} (h : Bor K H F (.int i) v) : v = .int i := by
  have h := h.val (by intro _ z; cases z) (by intro _ _ _ z; cases z)
  unfold Val at h; exact h
theorem Bor.bl {i : Bool} {v : V} (h : Bor K H F (.bl i) v) : v = .bl i := by
  have h := h.val (by intro _ z; cases z) (by intro _ _ _ z; cases z)
  unfold Val at h; exact h
theorem Bor.str {i : Str} {v : V} (h : Bor K H F (.str i) v) : v = .str i := by
  have h := h.val (by intro _ z; cases z) (by intro _ _ _ z; cases z)
  unfold Val at h; exact h
theorem Bor.non {v : V} (h : Bor K H F .non v) : v = .non := by
  have h := h.val (by intro _ z; cases z) (by intro _ _ _ z; cases z)
  unfold Val at h; exact h
theorem val_int {i : Int} : Val K H F (.int i) (.int i) := by unfold Val; rfl
theorem val_bl {i : Bool} : Val K H F (.bl i) (.bl i) := by unfold Val; rfl
theorem val_str {i : Str} : Val K H F (.str i) (.str i) := by unfold Val; rfl
theorem val_non : Val K H F .non .non := by unfold Val; rfl
theorem Sep.own_bor {d : D} {o : Option V} {ts : Things} (h : Sep K H F ((.own d, o) :: ts)) : ∃ v, o = some v ∧ Bor K H F d v := by
  rcases h.own_con with ⟨xs, rfl⟩ | ⟨t, ks, xs, rfl⟩
  · obtain ⟨a, vs, rfl, ha, l⟩ := h.head_own
    exact ⟨_, rfl, .inr (.inl ⟨xs, a, vs, rfl, rfl, ha, l⟩)⟩
  · obtain ⟨a, vs, rfl, ha, l⟩ := h.head_ownD
    exact ⟨_, rfl, .inr (.inr ⟨t, ks, xs, a, vs, rfl, rfl, ha, l⟩)⟩
theorem Sep.mem_own {d : D} {o : Option V} {ts : Things} (h : Sep K H F ts) (m : (Sl.own d, o) ∈ ts) : ∃ v, o = some v ∧ Bor K H F d v := by
  obtain ⟨us, p⟩ := mem_perm m
  exact (h.perm p).own_bor

/-! ### the slots -/
abbrev zp (ρ : Rho) (σ : L2.St) : Things := List.zip ρ σ
theorem zp_mem {ρ : Rho} {σ : L2.St} {i : Nat} {s : Sl} {o : Option V} (a : ρ[i]? = some s) (b : σ[i]? = some o) : (s, o) ∈ zp ρ σ := by
  refine List.mem_of_getElem? (i := i) ?_
  rw [List.getElem?_zip_eq_some]
  exact ⟨a, b⟩
theorem zp_set : ∀ {ρ : Rho} {σ : L2.St} {i : Nat} {s : Sl} {o : Option V}, zp (ρ.set i s) (σ.set i o) = (zp ρ σ).set i (s, o)
  | [], _, _, _, _ => by simp [zp]
  | _ :: _, [], _, _, _ => by simp [zp]
  | x :: ρ, y :: σ, 0, _, _ => by simp [zp]
  | x :: ρ, y :: σ, i + 1, _, _ => by simpa [zp] using zp_set (ρ := ρ) (σ := σ) (i := i)
theorem set_perm {α : Type} {x : α} : ∀ {l : List α} {i : Nat}, i < l.length → (l.set i x).Perm (x :: l.eraseIdx i)
  | [], i, h => by simp at h
  | y :: l, 0, _ => List.Perm.refl _
  | y :: l, i + 1, h => by
    simp only [List.set_cons_succ, List.eraseIdx_cons_succ]
    exact (List.Perm.cons y (set_perm (by simpa using h))).trans (List.Perm.swap _ _ _)
theorem get_perm {α : Type} {x : α} : ∀ {l : List α} {i : Nat}, l[i]? = some x → l.Perm (x :: l.eraseIdx i)
  | [], i, h => by simp at h
  | y :: l, 0, h => by simp at h; subst h; exact List.Perm.refl _
  | y :: l, i + 1, h => by
    simp only [List.eraseIdx_cons_succ]
    exact (List.Perm.cons y (get_perm (by simpa using h))).trans (List.Perm.swap _ _ _)
/-- a slot's thing taken away -/
theorem Sep.take {ts rest : Things} {i : Nat} {t : Sl × Option V} (h : Sep K H F (ts ++ rest)) (e : ts[i]? = some t) : Sep K H F (t :: (ts.eraseIdx i ++ rest)) :=
  h.perm ((get_perm e).append_right rest)
/-- a slot given another thing -/
theorem Sep.put {ts rest : Things} {i : Nat} {t : Sl × Option V} (h : Sep K H F (t :: (ts.eraseIdx i ++ rest))) (hi : i < ts.length) : Sep K H F (ts.set i t ++ rest) :=
  h.perm ((set_perm hi).symm.append_right rest)
theorem Sep.drop1 {ts rest : Things} {i : Nat} {t : Sl × Option V} (h : Sep K H F (t :: (ts ++ rest))) (hi : i < ts.length) : Sep K H F (t :: (ts.eraseIdx i ++ rest)) := by
  have e : ts[i]? = some ts[i] := List.getElem?_eq_getElem hi
  have p : (t :: (ts ++ rest)).Perm (ts[i] :: t :: (ts.eraseIdx i ++ rest)) :=
    (List.Perm.cons t ((get_perm e).append_right rest)).trans (List.Perm.swap _ _ _)
  exact (h.perm p).tail
theorem Sep.setSlot {ρ : Rho} {σ : L2.St} {rest : Things} {i : Nat} {s : Sl} {o : Option V} (h : Sep K H F ((s, o) :: (zp ρ σ ++ rest))) (h1 : i < ρ.length) (h2 : i < σ.length) : Sep K H F (zp (ρ.set i s) (σ.set i o) ++ rest) := by
  rw [zp_set]
  have hi : i < (zp ρ σ).length := by simp [zp]; omega
  exact (h.drop1 hi).put hi
end
end Bk

/-! B3: the operations on data, by the library's rules on values. -/
namespace Bk
open PySem PySem.Spec PyProof.Rows L2

/-- where the defs and the classes stand -/
structure Wo where
  fa : Nat → Addr
  ca : Nat → Addr
  xc : Nat → Value
abbrev wd (E : Wo) (X : Cx) : Wd := ⟨X.K, E.fa, E.ca, E.xc⟩
/-- what is wanted of a value: shared data, or (o) a container of one's own -/
def PQ (o : Bool) (K : Wd) (ts : Things) (d : D) (Q : VK) : Prop :=
  if o && isCon d then ∀ v H F, Sep K H F ((.own d, some v) :: ts) → Q v H else ∀ v H F, Sep K H F ts → Val K H F d v → Q v H
abbrev PF (K : Wd) (ts : Things) (d : D) (Q : VK) : Prop := ∀ v H F, Sep K H F ts → Val K H F d v → Q v H

section
variable {K : Wd} {H : Hp} {F : Addr → Prop} {ts : Things} {Q : VK} {o : Bool}
theorem PQ.fz {d : D} (h : PQ false K ts d Q) : PF K ts d Q := h
theorem PQ.mk {d : D} (h : PF K ts d Q) : PQ false K ts d Q := h
theorem PQ.own {d : D} {v : V} (h : PQ o K ts d Q) (hc : isCon d = true) (s : Sep K H F ((.own d, some v) :: ts)) : Q v H := by
  cases o with
  | true =>
    unfold PQ at h
    rw [hc] at h
    exact h v H F s
  | false =>
    obtain ⟨F', w, e, _, s', q⟩ := s.freeze
    cases e
    exact h _ _ _ s' q
theorem PQ.lstNew {ds : List D} {vs : List V} (h : PQ o K ts (.lst ds) Q) (s : Sep K H F ts) (l : ValL K H F ds vs) : ∀ p, H p = none → Q (.ref p) (upd H p (.lst vs)) := fun p hp => h.own rfl (s.lstNew hp l)
theorem PQ.nl {d : D} (h : PQ o K ts d Q) (n : isCon d = false) : PF K ts d Q := by
  cases o with
  | false => exact h
  | true =>
    unfold PQ at h
    rw [n] at h
    exact h
theorem PQ.int {i : Int} (h : PQ o K ts (.int i) Q) (s : Sep K H F ts) : Q (.int i) H := (h.nl rfl) _ _ _ s val_int
theorem PQ.bl {i : Bool} (h : PQ o K ts (.bl i) Q) (s : Sep K H F ts) : Q (.bl i) H := (h.nl rfl) _ _ _ s val_bl
theorem PQ.str {i : Str} (h : PQ o K ts (.str i) Q) (s : Sep K H F ts) : Q (.str i) H := (h.nl rfl) _ _ _ s val_str
theorem PQ.tupNew {ds : List D} {vs : List V} (h : PQ o K ts (.tup ds) Q) (s : Sep K H F ts) (l : ValL K H F ds vs) : ∀ p, H p = none → Q (.ref p) (upd H p (.tup vs)) := fun p hp =>
  let n := s.tupNew hp l
  (h.nl rfl) _ _ _ n.1 n.2
end

def Bors (K : Wd) (H : Hp) (F : Addr → Prop) : List D → List V → Prop
  | [], vs => vs = []
  | d :: ds, vs => ∃ v r, vs = v :: r ∧ Bor K H F d v ∧ Bors K H F ds r
/-- an operation's reading, by its data -/
def rP (K : Wd) (o : Bool) (p : Prim) : List V → Hp → VK → Prop := fun vs H Q =>
  ∃ F ts ds d, Sep K H F ts ∧ Bors K H F ds vs ∧ evPrim p ds = .ok d ∧ PQ o K ts d Q
/-- .. where the things are laid into something new -/
def rS (K : Wd) (o : Bool) (p : Prim) : List V → Hp → VK → Prop := fun vs H Q =>
  ∃ F ts ds d, Sep K H F ts ∧ ValL K H F ds vs ∧ evPrim p ds = .ok d ∧ PQ o K ts d Q

section
variable {K : Wd} {H : Hp} {F : Addr → Prop}
theorem Bors.b1 {d : D} {vs : List V} (h : Bors K H F [d] vs) : ∃ v, vs = [v] ∧ Bor K H F d v := by
  obtain ⟨v, r, rfl, b, e⟩ := h
  exact ⟨v, by rw [show r = [] from e], b⟩
theorem Bors.b2 {d e : D} {vs : List V} (h : Bors K H F [d, e] vs) : ∃ v w, vs = [v, w] ∧ Bor K H F d v ∧ Bor K H F e w := by
  obtain ⟨v, r, rfl, b, c⟩ := h
  obtain ⟨w, rfl, c2⟩ := Bors.b1 (show Bors K H F [e] r from c)
  exact ⟨v, w, rfl, b, c2⟩
theorem Bors.b3 {d e f : D} {vs : List V} (h : Bors K H F [d, e, f] vs) : ∃ v w u, vs = [v, w, u] ∧ Bor K H F d v ∧ Bor K H F e w ∧ Bor K H F f u := by
  obtain ⟨v, r, rfl, b, c⟩ := h
  obtain ⟨w, u, rfl, c2, e2⟩ := Bors.b2 (show Bors K H F [e, f] r from c)
  exact ⟨v, w, u, rfl, b, c2, e2⟩
theorem okIf_ok {c : Bool} {d e : D} (h : okIf c d = .ok e) : c = true ∧ e = d := by
  cases c with
  | true => exact ⟨rfl, by cases h; rfl⟩
  | false => cases h
theorem ofOpt_ok {x : Option D} {e : D} (h : ofOpt x = .ok e) : x = some e := by
  cases x with
  | some d => cases h; rfl
  | none => cases h
theorem bind_ok' {α β : Type} {r : R α} {f : α → R β} {b : β} (h : r.bind f = .ok b) : ∃ a, r = .ok a ∧ f a = .ok b := by
  cases r with
  | ok a => exact ⟨a, rfl, h⟩
  | stuck => cases h
theorem notR_ok {r : R D} {d : D} (h : notR r = .ok d) : ∃ k, r = .ok (.bl k) ∧ d = .bl (!k) := by
  obtain ⟨a, e, h⟩ := bind_ok' h
  cases a with
  | bl k => exact ⟨k, e, by cases h; rfl⟩
  | _ => cases h
theorem evInt2_ok {f : Int → Int → R D} {ds : List D} {d : D} (h : evInt2 f ds = .ok d) : ∃ a b, ds = [.int a, .int b] ∧ f a b = .ok d := by
  unfold evInt2 at h
  split at h
  · exact ⟨_, _, rfl, h⟩
  · cases h
theorem evAdd_ok {ds : List D} {d : D} (h : evAdd ds = .ok d) : (∃ a b, ds = [.int a, .int b] ∧ d = .int (a + b)) ∨ (∃ a b, ds = [.str a, .str b] ∧ a.length + b.length ≤ sizeLine ∧ d = .str (a ++ b)) ∨
    (∃ a b, ds = [.tup a, .tup b] ∧ a.length + b.length ≤ sizeLine ∧ d = .tup (a ++ b)) ∨ (∃ a b, ds = [.lst a, .lst b] ∧ a.length + b.length ≤ sizeLine ∧ d = .lst (a ++ b)) ∨ (∃ a b, ds = [.scr a, .lst b] ∧ a.length + b.length ≤ sizeLine ∧ d = .lst (a.map D.int ++ b)) ∨ (∃ a b, ds = [.lst a, .scr b] ∧ a.length + b.length ≤ sizeLine ∧ d = .lst (a ++ b.map D.int)) := by
  unfold evAdd at h
  split at h
  · cases h; exact .inl ⟨_, _, rfl, rfl⟩
  · obtain ⟨c, rfl⟩ := okIf_ok h; exact .inr (.inl ⟨_, _, rfl, of_decide_eq_true c, rfl⟩)
  · obtain ⟨c, rfl⟩ := okIf_ok h; exact .inr (.inr (.inl ⟨_, _, rfl, of_decide_eq_true c, rfl⟩))
  · obtain ⟨c, rfl⟩ := okIf_ok h; exact .inr (.inr (.inr (.inl ⟨_, _, rfl, of_decide_eq_true c, rfl⟩)))
  · obtain ⟨c, rfl⟩ := okIf_ok h; exact .inr (.inr (.inr (.inr (.inl ⟨_, _, rfl, of_decide_eq_true c, rfl⟩))))
  · obtain ⟨c, rfl⟩ := okIf_ok h; exact .inr (.inr (.inr (.inr (.inr ⟨_, _, rfl, of_decide_eq_true c, rfl⟩))))
  · cases h
end

theorem SqL.rd {K : PySem.W.Frag} {H : Hp} {a : Addr} {xs : List V} (h : Rd H a (.lst xs)) : SqL K H a xs := .inl h
section
variable {E : Wo} {X : Cx} {o : Bool}
abbrev r2 (K : Wd) (o : Bool) (p : Prim) : R2 := fun x y H Q => rP K o p [x, y] H Q
theorem opInt2 {p : Prim} {f : Value → Value → Sem Value} {g : Int → Int → R D} (he : ∀ ds, evPrim p ds = evInt2 g ds)
    (rule : ∀ (i j : Int) (d : D) (pins : List (Addr × Obj)) (s : Shared) (σ : L2.St) (H : Hp) (F : Addr → Prop) (ts : Things) (v u : Value) (Q : VK), g i j = .ok d → Inv X pins σ H s → RelV (.int i) v → RelV (.int j) u → Sep (wd E X) H F ts → PQ o (wd E X) ts d Q →
      wpAny (model X.prog X.w) X.A (f v u) (EP X pins σ Q) X.xe s) : OpR X f (r2 (wd E X) o p) := by
  intro pins s σ H x y v u Q I rx ry h
  obtain ⟨F, ts, ds, d, hs, hb, he', hq⟩ := h
  rw [he] at he'
  obtain ⟨a, b, rfl, e⟩ := evInt2_ok he'
  obtain ⟨_, _, e2, b1, b2⟩ := hb.b2
  cases e2
  cases b1.int; cases b2.int
  exact rule a b d pins s σ H F ts v u Q e I rx ry hs hq

theorem o_sub : OpR X (binaryOp .Sub) (r2 (wd E X) o .sub) := opInt2 (fun _ => rfl) fun i j d pins s σ H F ts v u Q e I rx ry hs hq => by
  cases e
  exact op_sub pins s σ H _ _ v u Q I rx ry ⟨i, j, rfl, rfl, hq.int hs⟩
theorem mulOk_of {z : Str} {k : Int} (h1 : z.length ≤ 1000) (h2 : -1000 ≤ k) (h3 : k ≤ 4000) : MulOk z k := by
  refine ⟨?_, fun h _ => ?_, fun h _ => ?_⟩
  · rw [decide_eq_false (by omega), decide_eq_false (by omega)]; rfl
  · have hk : 0 < k := by omega
    have : (z.length : Int) * k ≤ 1000 * 4000 := Int.mul_le_mul (by omega) h3 (by omega) (by omega)
    have := Int.le_ediv_of_mul_le hk (show (z.length : Int) * k ≤ 2 ^ 63 - 1 by omega)
    omega
  · have : z.length * k.toNat ≤ 1000 * 4000 := Nat.mul_le_mul h1 (by omega)
    have h4 : (1000 * 4000 : Nat) ≤ sizeLine := by decide
    exact decide_eq_false (by omega)
theorem op_mul_str : OpR X (binaryOp .Mult) (fun x y H Q => ∃ z k, x = .str z ∧ y = .int k ∧ MulOk z k ∧ Q (.str (Txt.mul z k)) H) := by
  intro pins s σ H x y v u Q I rx ry h
  obtain ⟨z, k, rfl, rfl, hz, q⟩ := h
  obtain ⟨t, rfl⟩ := rx
  obtain ⟨t', rfl⟩ := ry
  exact SB.mul hz (fun t' tk => ⟨.str (Txt.mul z k), H, I.tok _, ⟨_, rfl⟩, q⟩)
theorem ValL.nil_iff {K : Wd} {H : Hp} {F : Addr → Prop} {ds : List D} {vs : List V} (h : ValL K H F ds vs) : ds = [] ↔ vs = [] := by
  have := h.length
  constructor
  · rintro rfl; exact List.eq_nil_of_length_eq_zero this.symm
  · rintro rfl; exact List.eq_nil_of_length_eq_zero this
theorem ValL.reps {K : Wd} {H : Hp} {F : Addr → Prop} {ds : List D} {vs : List V} (h : ValL K H F ds vs) : ∀ n : Nat, ValL K H F (List.replicate n ds).flatten (List.replicate n vs).flatten
  | 0 => ValL.nil
  | n + 1 => by
    rw [List.replicate_succ, List.replicate_succ, List.flatten_cons, List.flatten_cons]
    exact h.append (ValL.reps h n)
set_option maxHeartbeats 4000000 in
theorem tuple_mul1 (l : Addr) (items : Array Value) (n : Nat) (dd : Option Addr) (sl : Array (Option Value)) (x : Int) (u : Tok) (c0 : (decide (x < -(2 ^ 63)) || decide (x ≥ 2 ^ 63)) = false) (c1 : (items.isEmpty || x == 1) = true) :
    Meets (Builtin.«tuple.__mul__» ⟨[.ref l, .int x u], []⟩) (fun _ R s => s.heap.get? l = some { cls := .type "tuple", dict := dd, data := .seq items n, slots := sl } ∧ R (.ok (.ret (Value.ref l))) s) :=
  .of_wp fun prog w A R s h => by
    obtain ⟨hp, g, d, tk, os⟩ := s
    obtain ⟨hl, h⟩ := h
    have f1 := AutoSeq1.idx_int
    wp_walk using wpAny_loadPart' hl
    repeat (first
      | (refine wpAny_ite_false (decide_eq_false (by rw [c0]; exact Bool.false_ne_true)) ?_; wp_walk using wpAny_loadPart' hl)
      | (refine wpAny_ite_true (decide_eq_true c1) ?_; wp_walk using wpAny_loadPart' hl))
    exact ⟨_, rfl, h⟩
set_option maxHeartbeats 4000000 in
theorem tuple_mul0 (l : Addr) (items : Array Value) (n : Nat) (dd : Option Addr) (sl : Array (Option Value)) (x : Int) (u : Tok) (c0 : (decide (x < -(2 ^ 63)) || decide (x ≥ 2 ^ 63)) = false) (c1 : (items.isEmpty || x == 1) = false) (c2 : (decide (x ≤ 0) || items.isEmpty) = true) :
    Meets (Builtin.«tuple.__mul__» ⟨[.ref l, .int x u], []⟩) (fun _ R s => s.heap.get? l = some { cls := .type "tuple", dict := dd, data := .seq items n, slots := sl } ∧
      R (.ok (.ret (Value.ref s.heap.objs.size))) { s with heap := s.heap.push { cls := Value.type "tuple", data := Data.seq #[] }, toks := s.toks }) :=
  .of_wp fun prog w A R s h => by
    obtain ⟨hp, g, d, tk, os⟩ := s
    obtain ⟨hl, h⟩ := h
    have f1 := AutoSeq1.idx_int
    wp_walk using wpAny_loadPart' hl
    repeat (first
      | (refine wpAny_ite_false (decide_eq_false (by rw [c0]; exact Bool.false_ne_true)) ?_; wp_walk using wpAny_loadPart' hl)
      | (refine wpAny_ite_false (decide_eq_false (by rw [c1]; exact Bool.false_ne_true)) ?_; wp_walk using wpAny_loadPart' hl)
      | (refine wpAny_ite_true (decide_eq_true c2) ?_; wp_walk using wpAny_loadPart' hl))
    exact ⟨_, rfl, h⟩
/-- a tuple times a number -/
def rMulT (K : PySem.W.Frag) : R2 := fun x y H Q => ∃ l k xs, x = .ref l ∧ y = .int k ∧ SqT K H l xs ∧ -1000 ≤ k ∧ k ≤ 1000 ∧ xs.length ≤ 1000 ∧ ((xs = [] ∨ k = 1) → Q (.ref l) H) ∧ (xs ≠ [] → k ≠ 1 → ∀ p, H p = none → Q (.ref p) (upd H p (.tup (List.replicate k.toNat xs).flatten)))
theorem op_mulT : OpR X (binaryOp .Mult) (rMulT X.K) := by
  intro pins s σ H x y v u Q I rx ry h
  obtain ⟨l, k, xs, rfl, rfl, hT, h0, h2, hz, q1, q2⟩ := h
  by_cases hk : xs ≠ [] ∧ 2 ≤ k
  · exact op_repT pins s σ H _ _ v u Q I rx ry ⟨l, k, xs, rfl, rfl, hT, hk.1, hk.2, h2, hz, q2 hk.1 (by omega)⟩
  cases rx
  obtain ⟨t, rfl⟩ := ry
  obtain ⟨its, r, ⟨⟨cls, dd, data, sl⟩, ho, hc, n, hd⟩, hs⟩ := I.tuple hT
  simp only at hc hd
  subst hc hd
  have hle : its.length = xs.length := r.length.symm
  have c0 : (decide (k < -(2 ^ 63)) || decide (k ≥ 2 ^ 63)) = false := by
    rw [decide_eq_false (by omega), decide_eq_false (by omega)] <;> rfl
  have hem : its.toArray.isEmpty = true ↔ xs = [] := by
    rw [Array.isEmpty_iff]
    constructor
    · intro e
      have : its = [] := by simpa using e
      rw [this] at hle
      exact List.eq_nil_of_length_eq_zero hle.symm
    · intro e
      rw [e] at hle
      rw [List.eq_nil_of_length_eq_zero hle]
  by_cases c : xs = [] ∨ k = 1
  · have c1 : (its.toArray.isEmpty || k == 1) = true := by
      rcases c with c | c
      · rw [hem.mpr c]; rfl
      · rw [c]; simp
    exact wpAny_binaryOp_repeat_ref (T := "tuple") (U := "int") (by decide) ⟨_, ho, rfl⟩ (fun s' => typeIs_int s' k t) noFill_tuple_mul F.fills_int_mul F.slot_int_rmul repeat_tuple F.slot_int_index.lookup
      (call_meets F.slot_int_rmul (typeIs_int s k t) F.entry_int_rmul (F.args_int_rmul_2 _ _) (int_rmul_tuple k t l its.toArray n dd sl)
        ⟨ho, rfl, ⟨_, ho, rfl⟩, call_meets F.slot_tuple_mul ⟨_, ho, rfl⟩ F.entry_tuple_mul (F.args_tuple_mul_2 _ _) (tuple_mul1 l its.toArray n dd sl k t c0 c1) ⟨ho, .ref l, H, I, rfl, q1 c⟩⟩)
  · have n1 : xs ≠ [] := fun e => c (.inl e)
    have n2 : k ≠ 1 := fun e => c (.inr e)
    have hk0 : k ≤ 0 := by
      have : ¬ 2 ≤ k := fun e => hk ⟨n1, e⟩
      omega
    have e1 : its.toArray.isEmpty = false := by
      cases z : its.toArray.isEmpty with
      | false => rfl
      | true => exact absurd (hem.mp z) n1
    have c1 : (its.toArray.isEmpty || k == 1) = false := by
      rw [e1, Bool.false_or]
      exact beq_eq_false_iff_ne.mpr n2
    have c2 : (decide (k ≤ 0) || its.toArray.isEmpty) = true := by rw [decide_eq_true hk0]; rfl
    have e0 : (List.replicate k.toNat xs).flatten = [] := by rw [show k.toNat = 0 by omega]; rfl
    have q3 := q2 n1 n2
    rw [e0] at q3
    refine wpAny_binaryOp_repeat_ref (T := "tuple") (U := "int") (by decide) ⟨_, ho, rfl⟩ (fun s' => typeIs_int s' k t) noFill_tuple_mul F.fills_int_mul F.slot_int_rmul repeat_tuple F.slot_int_index.lookup
      (call_meets F.slot_int_rmul (typeIs_int s k t) F.entry_int_rmul (F.args_int_rmul_2 _ _) (int_rmul_tuple k t l its.toArray n dd sl)
        ⟨ho, rfl, ⟨_, ho, rfl⟩, call_meets F.slot_tuple_mul ⟨_, ho, rfl⟩ F.entry_tuple_mul (F.args_tuple_mul_2 _ _) (tuple_mul0 l its.toArray n dd sl k t c0 c1 c2) ⟨ho, ?_⟩⟩)
    refine ⟨.ref s.heap.objs.size, _, I.laid (t' := s.toks) (o := .tup []) (fun b ob q => Heap.get?_push_of_some _ q) (Nat.le_refl _) ?_, rfl, q3 _ (I.hok.fresh (Nat.le_refl _))⟩
    exact ⟨by decide, [], .nil, IsTup.new _ _⟩
/-- times a number of few bits -/
theorem op_mulR : OpR X (binaryOp .Mult) (rI (fun _ j => j.natAbs < 2 ^ 60) fun i j => .int (i * j)) := opI fun i j _ _ _ _ _ hc q => mul_int q (IntMulOk.of_right (by
  have h1 := PySem.Flt.log2_lt_of (show 0 < 60 by decide) hc
  unfold Builtin.Int.intBits
  split <;> omega))
theorem o_mul : OpR X (binaryOp .Mult) (r2 (wd E X) o .mul) := by
  intro pins s σ H x y v u Q I rx ry h
  obtain ⟨F, ts, ds, d, hs, hb, he, hq⟩ := h
  have he : evMul ds = .ok d := he
  unfold evMul at he
  split at he
  · obtain ⟨c, rfl⟩ := okIf_ok he
    obtain ⟨_, _, e2, b1, b2⟩ := hb.b2
    cases e2; cases b1.int; cases b2.int
    rcases Bool.or_eq_true_iff.mp c with c | c
    case inr => exact op_mulR pins s σ H _ _ v u Q I rx ry ⟨_, _, rfl, rfl, of_decide_eq_true c, hq.int hs⟩
    obtain ⟨c1, c2⟩ := Bool.and_eq_true_iff.mp c
    exact op_mulW pins s σ H _ _ v u Q I rx ry ⟨_, _, rfl, rfl, wide_mul (of_decide_eq_true c1) (of_decide_eq_true c2) (by decide) (by decide) (by decide), hq.int hs⟩
  · obtain ⟨c, rfl⟩ := okIf_ok he
    obtain ⟨c, c3⟩ := Bool.and_eq_true_iff.mp c
    obtain ⟨c1, c2⟩ := Bool.and_eq_true_iff.mp c
    obtain ⟨_, _, e2, b1, b2⟩ := hb.b2
    cases e2; cases b1.str; cases b2.int
    exact op_mul_str pins s σ H _ _ v u Q I rx ry ⟨_, _, rfl, rfl, mulOk_of (of_decide_eq_true c1) (of_decide_eq_true c2) (of_decide_eq_true c3), hq.str hs⟩
  · rename_i xs k he0
    obtain ⟨c, rfl⟩ := okIf_ok he
    obtain ⟨c, c3⟩ := Bool.and_eq_true_iff.mp c
    obtain ⟨c1, c2⟩ := Bool.and_eq_true_iff.mp c
    have c1 := of_decide_eq_true c1
    have c2 := of_decide_eq_true c2
    have c3 := of_decide_eq_true c3
    obtain ⟨_, _, e2, b1, b2⟩ := hb.b2
    cases e2; cases b2.int
    obtain ⟨p, vs, rfl, t1, l1⟩ := b1.lstH
    have n1 := l1.length
    refine op_rep pins s σ H _ _ v u Q I rx ry ⟨p, _, vs, rfl, rfl, t1, by omega, by omega, ?_, hq.lstNew hs (ValL.reps l1 _)⟩
    have : vs.length * k.toNat ≤ 1000 * 1000 := Nat.mul_le_mul (by omega) (by omega)
    exact Nat.le_trans this (by decide)
  · rename_i xs k he0
    obtain ⟨c, rfl⟩ := okIf_ok he
    obtain ⟨c, c3⟩ := Bool.and_eq_true_iff.mp c
    obtain ⟨c1, c2⟩ := Bool.and_eq_true_iff.mp c
    have c1 := of_decide_eq_true c1
    have c2 := of_decide_eq_true c2
    have c3 := of_decide_eq_true c3
    obtain ⟨_, _, e2, b1, b2⟩ := hb.b2
    cases e2; cases b2.int
    obtain ⟨p, vs, rfl, t1, cc, l1⟩ := b1.tupC
    have n1 := l1.length
    refine op_mulT pins s σ H _ _ v u Q I rx ry ⟨p, _, vs, rfl, rfl, t1, c2, c3, by omega, fun z => ?_, fun z1 z2 => hq.tupNew hs (ValL.reps l1 _)⟩
    have e : (List.replicate k.toNat xs).flatten = xs := by
      rcases z with z | z
      · have : xs = [] := l1.nil_iff.mpr z
        subst this
        exact List.flatten_replicate_nil
      · subst z; simp
    rw [e] at hq
    exact (hq.nl rfl) _ _ _ hs (by unfold Val; exact ⟨p, vs, rfl, t1, cc, l1⟩)
  · cases he
theorem o_fdiv : OpR X (binaryOp .FloorDiv) (r2 (wd E X) o .fdiv) := opInt2 (fun _ => rfl) fun i j d pins s σ H F ts v u Q e I rx ry hs hq => by
  obtain ⟨c, rfl⟩ := okIf_ok e
  obtain ⟨c1, c2⟩ := Bool.and_eq_true_iff.mp c
  exact op_fdivW pins s σ H _ _ v u Q I rx ry ⟨i, j, rfl, rfl, wide_div (of_decide_eq_true c1) (of_decide_eq_true c2) (by decide) (by decide), hq.int hs⟩
theorem o_mod : OpR X (binaryOp .Mod) (r2 (wd E X) o .mod) := opInt2 (fun _ => rfl) fun i j d pins s σ H F ts v u Q e I rx ry hs hq => by
  obtain ⟨c, rfl⟩ := okIf_ok e
  exact op_mod pins s σ H _ _ v u Q I rx ry ⟨i, j, rfl, rfl, of_decide_eq_true c, hq.int hs⟩
theorem o_pow : OpR X (binaryOp .Pow) (r2 (wd E X) o .pow) := opInt2 (fun _ => rfl) fun i j d pins s σ H F ts v u Q e I rx ry hs hq => by
  obtain ⟨c, rfl⟩ := okIf_ok e
  obtain ⟨c, c3⟩ := Bool.and_eq_true_iff.mp c
  obtain ⟨c1, c2⟩ := Bool.and_eq_true_iff.mp c
  have h2 : j ≤ 100000 := of_decide_eq_true c2
  exact op_pow pins s σ H _ _ v u Q I rx ry ⟨i, j, rfl, rfl, ⟨of_decide_eq_true c1, by omega, of_decide_eq_true c3⟩, hq.int hs⟩
theorem o_lt : OpR X (compareOp .Lt) (r2 (wd E X) o .lt) := opInt2 (fun _ => rfl) fun i j d pins s σ H F ts v u Q e I rx ry hs hq => by
  cases e
  exact op_lt pins s σ H _ _ v u Q I rx ry ⟨i, j, rfl, rfl, hq.bl hs⟩
theorem o_le : OpR X (compareOp .LtE) (r2 (wd E X) o .le) := opInt2 (fun _ => rfl) fun i j d pins s σ H F ts v u Q e I rx ry hs hq => by
  cases e
  exact op_le pins s σ H _ _ v u Q I rx ry ⟨i, j, rfl, rfl, hq.bl hs⟩
theorem o_gt : OpR X (compareOp .Gt) (r2 (wd E X) o .gt) := opInt2 (fun _ => rfl) fun i j d pins s σ H F ts v u Q e I rx ry hs hq => by
  cases e
  exact op_gt pins s σ H _ _ v u Q I rx ry ⟨i, j, rfl, rfl, hq.bl hs⟩
theorem o_ge : OpR X (compareOp .GtE) (r2 (wd E X) o .ge) := opInt2 (fun _ => rfl) fun i j d pins s σ H F ts v u Q e I rx ry hs hq => by
  cases e
  exact op_ge pins s σ H _ _ v u Q I rx ry ⟨i, j, rfl, rfl, hq.bl hs⟩

/-- list + list, either of them also one that is locked -/
def rCatL (K : PySem.W.Frag) : R2 := fun x y H Q => ∃ l b xs zs, x = .ref l ∧ y = .ref b ∧ SqL K H l xs ∧ SqL K H b zs ∧ xs.length + zs.length ≤ sizeLine ∧ ∀ p, H p = none → Q (.ref p) (upd H p (.lst (xs ++ zs)))
theorem op_catL : OpR X (binaryOp .Add) (rCatL X.K) := by
  intro pins s σ H x y v u Q I rx ry h
  obtain ⟨l, b, xs, zs, rfl, rfl, hH, hB, hz, q⟩ := h
  cases rx
  cases ry
  obtain ⟨its, r, ⟨o1, n, e, hc, hd, hs⟩, hl⟩ := I.list hH
  obtain ⟨its2, r2, ⟨o2, n2, e2, hc2, hd2, hs2⟩, hl2⟩ := I.list hB
  obtain ⟨cl, dc, dt, sl⟩ := o1
  obtain ⟨cl2, dc2, dt2, sl2⟩ := o2
  have hlen := r.length
  have hlen2 := r2.length
  simp only at hc hd hs hc2 hd2 hs2
  subst hc hd hs hc2 hd2 hs2
  have e3 : its.toArray ++ its2.toArray = (its ++ its2).toArray := by simp
  refine concat_meets ⟨_, e, rfl⟩ ⟨_, e2, rfl⟩ noFill_list_add seq_list_add PySem.F.slot_list_add PySem.F.entry_list_add (PySem.F.args_list_add_2 _ _) (list_addW l b its.toArray its2.toArray n n2 none none sl sl2 (by simp only [List.size_toArray]; omega)) ⟨e, e2, ?_⟩
  rw [e3]
  exact ⟨.ref _, _, I.lnew (t' := s.toks) (r.append r2) (by rw [List.length_append]; omega), rfl, q _ I.fresh⟩
theorem o_add : OpR X (binaryOp .Add) (r2 (wd E X) o .add) := by
  intro pins s σ H x y v u Q I rx ry h
  obtain ⟨F, ts, ds, d, hs, hb, he, hq⟩ := h
  rcases evAdd_ok he with ⟨a, b, rfl, rfl⟩ | ⟨a, b, rfl, hz, rfl⟩ | ⟨a, b, rfl, hz, rfl⟩ | ⟨a, b, rfl, hz, rfl⟩ | ⟨a, b, rfl, hz, rfl⟩ | ⟨a, b, rfl, hz, rfl⟩
  · obtain ⟨_, _, e2, b1, b2⟩ := hb.b2
    cases e2; cases b1.int; cases b2.int
    exact op_add pins s σ H _ _ v u Q I rx ry ⟨a, b, rfl, rfl, hq.int hs⟩
  · obtain ⟨_, _, e2, b1, b2⟩ := hb.b2
    cases e2; cases b1.str; cases b2.str
    exact op_add_str pins s σ H _ _ v u Q I rx ry ⟨a, b, rfl, rfl, hz, hq.str hs⟩
  · obtain ⟨_, _, e2, b1, b2⟩ := hb.b2
    cases e2
    obtain ⟨p, vs, rfl, t1, c1, l1⟩ := b1.tupC
    obtain ⟨q, us, rfl, t2, c2, l2⟩ := b2.tupC
    have n1 := l1.length
    have n2 := l2.length
    refine op_catA pins s σ H _ _ v u Q I rx ry ⟨p, q, vs, us, rfl, rfl, t1, t2, by omega, fun e => ?_, fun e1 e => ?_, fun e1 e => hq.tupNew hs (l1.append l2)⟩
    · obtain rfl := l1.nil_iff.mpr e
      exact (hq.nl rfl) _ _ _ hs (by unfold Val; exact ⟨q, us, rfl, t2, c2, l2⟩)
    · obtain rfl := l2.nil_iff.mpr e
      rw [List.append_nil] at hq
      exact (hq.nl rfl) _ _ _ hs (by unfold Val; exact ⟨p, vs, rfl, t1, c1, l1⟩)
  · obtain ⟨_, _, e2, b1, b2⟩ := hb.b2
    cases e2
    obtain ⟨p, vs, rfl, t1, l1⟩ := b1.lst
    obtain ⟨q, us, rfl, t2, l2⟩ := b2.lst
    have n1 := l1.length
    have n2 := l2.length
    exact op_catL pins s σ H _ _ v u Q I rx ry ⟨p, q, vs, us, rfl, rfl, .inl t1, .inl t2, by omega, hq.lstNew hs (l1.append l2)⟩
  · obtain ⟨_, _, e2, b1, b2⟩ := hb.b2
    cases e2
    obtain ⟨p, rfl, t1, l1⟩ := b1.scr
    obtain ⟨q, us, rfl, t2, l2⟩ := b2.lst
    have n2 := l2.length
    exact op_catL pins s σ H _ _ v u Q I rx ry ⟨p, q, _, us, rfl, rfl, t1, .inl t2, by rw [List.length_map]; omega, hq.lstNew hs (l1.append l2)⟩
  · obtain ⟨_, _, e2, b1, b2⟩ := hb.b2
    cases e2
    obtain ⟨p, us, rfl, t1, l1⟩ := b1.lst
    obtain ⟨q, rfl, t2, l2⟩ := b2.scr
    have n2 := l1.length
    exact op_catL pins s σ H _ _ v u Q I rx ry ⟨p, q, us, _, rfl, rfl, .inl t1, t2, by rw [List.length_map]; omega, hq.lstNew hs (l1.append l2)⟩

/-! ### == -/
mutual
theorem Val.dp {K : Wd} {H : Hp} {F : Addr → Prop} : ∀ {d : D} {v : V}, d.py.plain = true → Val K H F d v → Dp K.K H v d.py
  | .non, _, _, h => by unfold Val at h; subst h; exact .non
  | .bl _, _, _, h => by unfold Val at h; subst h; exact .bl _
  | .int _, _, _, h => by unfold Val at h; subst h; exact .int _
  | .str _, _, _, h => by unfold Val at h; subst h; exact .str _
  | .tup xs, v, p, h => by
    unfold Val at h
    obtain ⟨a, vs, rfl, t, _, l⟩ := h
    rw [D.py] at p ⊢
    exact .tup t (ValL.dp (by simpa [PyData.plain] using p) l)
  | .scr _, _, p, h => by simp [D.py, PyData.plain] at p
  | .lst xs, v, p, h => by
    unfold Val at h
    obtain ⟨a, vs, rfl, f, t, l⟩ := h
    rw [D.py] at p ⊢
    exact .lst (.inl (.inl t)) (ValL.dp (by simpa [PyData.plain] using p) l)
  | .dct _ _ _, _, p, h => by simp [D.py, PyData.plain] at p
  | .fn _, _, p, h => by simp [D.py, PyData.plain] at p
  | .obj _ _ _, _, p, h => by simp [D.py, PyData.plain] at p
  | .box _, _, p, h => by simp [D.py, PyData.plain] at p
  | .gone, _, p, h => by simp [D.py, PyData.plain] at p
theorem ValL.dp {K : Wd} {H : Hp} {F : Addr → Prop} : ∀ {ds : List D} {vs : List V}, PyData.plainAll (D.pyL ds) = true → ValL K H F ds vs → DpAll K.K H vs (D.pyL ds)
  | [], _, _, h => by unfold ValL at h; subst h; exact .nil
  | d :: ds, vs, p, h => by
    unfold ValL at h
    obtain ⟨v, r, rfl, a, b⟩ := h
    rw [D.pyL] at p ⊢
    simp only [PyData.plainAll, Bool.and_eq_true] at p
    exact .cons (Val.dp p.1 a) (ValL.dp p.2 b)
end
theorem Bor.dp {K : Wd} {H : Hp} {F : Addr → Prop} {d : D} {v : V} (p : d.py.plain = true) (h : Bor K H F d v) : Dp K.K H v d.py := by
  rcases h with h | ⟨xs, a, vs, rfl, rfl, ha, l⟩ | ⟨t, ks, xs, a, vs, rfl, rfl, ha, l⟩
  · exact h.dp p
  · rw [D.py] at p ⊢
    exact .lst (.inl (.inl ha)) (l.dp (by simpa [PyData.plain] using p))
  · simp [D.py, PyData.plain] at p
theorem eqD_ok {a b d : D} (h : eqD a b = .ok d) : a.py.plain = true ∧ b.py.plain = true ∧ min a.py.depth b.py.depth ≤ 160 ∧ d = .bl (PyData.eqv a.py b.py) := by
  unfold eqD at h
  split at h
  · rename_i c
    obtain ⟨c, c3⟩ := Bool.and_eq_true_iff.mp c
    obtain ⟨c1, c2⟩ := Bool.and_eq_true_iff.mp c
    cases h
    exact ⟨c1, c2, of_decide_eq_true c3, rfl⟩
  · cases h
theorem evEq_ok {ds : List D} {d : D} (h : evEq ds = .ok d) : ∃ a b, ds = [a, b] ∧ eqD a b = .ok d := by
  unfold evEq at h
  split at h
  · exact ⟨_, _, rfl, h⟩
  · cases h
theorem room_eq {A : Around} (hr : A.units + 200 < cLine) {x : Nat} (h : x ≤ 160) : A.units + 1 + x < cLine := by

  omega
theorem o_eq (hr : X.A.units + 200 < cLine) : OpR X (compareOp .Eq) (r2 (wd E X) o .eq) := by
  intro pins s σ H x y v u Q I rx ry h
  obtain ⟨F, ts, ds, d, hs, hb, he, hq⟩ := h
  obtain ⟨a, b, rfl, e⟩ := evEq_ok he
  obtain ⟨c1, c2, c3, rfl⟩ := eqD_ok e
  obtain ⟨_, _, e2, b1, b2⟩ := hb.b2
  cases e2
  obtain ⟨as, q1⟩ := Dp.reads I _ _ v (b1.dp c1) rx
  obtain ⟨bs, q2⟩ := Dp.reads I _ _ u (b2.dp c2) ry
  exact SeqAt.eq_plain q1 q2 c1 c2 (by have := room_eq hr c3; omega) ⟨.bl _, H, I, rfl, hq.bl hs⟩
theorem o_ne (hr : X.A.units + 200 < cLine) : OpR X (compareOp .NotEq) (r2 (wd E X) o .ne) := by
  intro pins s σ H x y v u Q I rx ry h
  obtain ⟨F, ts, ds, d, hs, hb, he, hq⟩ := h
  obtain ⟨w, he2, rfl⟩ := notR_ok he
  obtain ⟨a, b, rfl, e⟩ := evEq_ok he2
  obtain ⟨c1, c2, c3, ew⟩ := eqD_ok e
  cases ew
  obtain ⟨_, _, e2, b1, b2⟩ := hb.b2
  cases e2
  obtain ⟨as, q1⟩ := Dp.reads I _ _ v (b1.dp c1) rx
  obtain ⟨bs, q2⟩ := Dp.reads I _ _ u (b2.dp c2) ry
  exact SeqAt.ne_plain q1 q2 c1 c2 (by have := room_eq hr c3; omega) ⟨.bl _, H, I, rfl, hq.bl hs⟩

/-! ### a sign in a text, a thing in a list or tuple; is None -/
theorem evIn_ok {ds : List D} {d : D} (h : evIn ds = .ok d) : (∃ (c : Nat) (z : Str), ds = [.str ⟨#[c]⟩, .str z] ∧ d = .bl (decide (c ∈ z.cps.toList))) ∨
    ∃ x xs, (ds = [x, .tup xs] ∨ ds = [x, .lst xs]) ∧ x.py.plain = true ∧ PyData.plainAll (D.pyL xs) = true ∧ min (PyData.depthAll (D.pyL xs)) x.py.depth ≤ 160 ∧ d = .bl ((D.pyL xs).any fun y => PyData.eqv y x.py) := by
  unfold evIn at h
  split at h
  · rename_i a b
    split at h
    · rename_i c e
      cases h
      refine .inl ⟨c, b, ?_, rfl⟩
      obtain ⟨⟨l⟩⟩ := a
      simp only at e
      subst e
      rfl
    · cases h
  · obtain ⟨c, rfl⟩ := okIf_ok h
    simp only [Bool.and_eq_true, decide_eq_true_eq] at c
    exact .inr ⟨_, _, .inl rfl, c.1.1, c.1.2, c.2, rfl⟩
  · obtain ⟨c, rfl⟩ := okIf_ok h
    simp only [Bool.and_eq_true, decide_eq_true_eq] at c
    exact .inr ⟨_, _, .inr rfl, c.1.1, c.1.2, c.2, rfl⟩
  · cases h
theorem o_in (hr : X.A.units + 200 < cLine) : OpR X (compareOp .In) (r2 (wd E X) o .inn) := by
  intro pins s σ H x y v u Q I rx ry h
  obtain ⟨F, ts, ds, d, hs, hb, he, hq⟩ := h
  rcases evIn_ok he with ⟨c, z, rfl, rfl⟩ | ⟨x', xs, e, p1, p2, p3, rfl⟩
  · obtain ⟨_, _, e2, b1, b2⟩ := hb.b2
    cases e2; cases b1.str; cases b2.str
    exact op_in_sign pins s σ H _ _ v u Q I rx ry ⟨c, z, rfl, rfl, hq.bl hs⟩
  · rcases e with rfl | rfl
    · obtain ⟨_, _, e2, b1, b2⟩ := hb.b2
      cases e2
      obtain ⟨as, q1⟩ := Dp.reads I _ _ v (b1.dp p1) rx
      have b2' := b2.dp (by simpa [D.py, PyData.plain] using p2)
      rw [D.py] at b2'
      obtain ⟨bs, q2⟩ := Dp.reads I _ _ u b2' ry
      exact SeqAt.in_tuple_data q2 q1 p2 p1 (room_eq hr p3) ⟨.bl _, H, I, rfl, hq.bl hs⟩
    · obtain ⟨_, _, e2, b1, b2⟩ := hb.b2
      cases e2
      obtain ⟨as, q1⟩ := Dp.reads I _ _ v (b1.dp p1) rx
      have b2' := b2.dp (by simpa [D.py, PyData.plain] using p2)
      rw [D.py] at b2'
      obtain ⟨bs, q2⟩ := Dp.reads I _ _ u b2' ry
      exact SeqAt.in_list_data q2 q1 p2 p1 (room_eq hr p3) ⟨.bl _, H, I, rfl, hq.bl hs⟩
theorem o_notin (hr : X.A.units + 200 < cLine) : OpR X (compareOp .NotIn) (r2 (wd E X) o .notin) := by
  intro pins s σ H x y v u Q I rx ry h
  obtain ⟨F, ts, ds, d, hs, hb, he, hq⟩ := h
  obtain ⟨w, he2, rfl⟩ := notR_ok he
  rcases evIn_ok he2 with ⟨c, z, rfl, e⟩ | ⟨x', xs, e, p1, p2, p3, ew⟩
  · cases e
    obtain ⟨_, _, e2, b1, b2⟩ := hb.b2
    cases e2; cases b1.str; cases b2.str
    exact op_notIn_sign pins s σ H _ _ v u Q I rx ry ⟨c, z, rfl, rfl, hq.bl hs⟩
  · cases ew
    rcases e with rfl | rfl
    · obtain ⟨_, _, e2, b1, b2⟩ := hb.b2
      cases e2
      obtain ⟨as, q1⟩ := Dp.reads I _ _ v (b1.dp p1) rx
      have b2' := b2.dp (by simpa [D.py, PyData.plain] using p2)
      rw [D.py] at b2'
      obtain ⟨bs, q2⟩ := Dp.reads I _ _ u b2' ry
      exact SeqAt.notIn_tuple_data q2 q1 p2 p1 (room_eq hr p3) ⟨.bl _, H, I, rfl, hq.bl hs⟩
    · obtain ⟨_, _, e2, b1, b2⟩ := hb.b2
      cases e2
      obtain ⟨as, q1⟩ := Dp.reads I _ _ v (b1.dp p1) rx
      have b2' := b2.dp (by simpa [D.py, PyData.plain] using p2)
      rw [D.py] at b2'
      obtain ⟨bs, q2⟩ := Dp.reads I _ _ u b2' ry
      exact SeqAt.notIn_list_data q2 q1 p2 p1 (room_eq hr p3) ⟨.bl _, H, I, rfl, hq.bl hs⟩
theorem Bor.isNon {K : Wd} {H : Hp} {F : Addr → Prop} {d : D} {v : V} (h : Bor K H F d v) : decide (v = .non) = Bk.isNon d := by
  cases d with
  | non => cases h.non; rfl
  | bl _ => cases h.bl; rfl
  | int _ => cases h.int; rfl
  | str _ => cases h.str; rfl
  | tup _ => obtain ⟨a, vs, rfl, _⟩ := h.tup; rfl
  | lst _ => obtain ⟨a, vs, rfl, _⟩ := h.lst; rfl
  | dct _ _ _ => obtain ⟨a, vs, rfl, _⟩ := h.dct; rfl
  | scr _ => obtain ⟨a, rfl, _⟩ := h.scr; rfl
  | fn _ => have := h.val (by intro _ z; cases z) (by intro _ _ _ z; cases z); unfold Val at this; subst this; rfl
  | obj _ _ _ => have := h.val (by intro _ z; cases z) (by intro _ _ _ z; cases z); unfold Val at this; exact this.elim
  | box _ => have := h.val (by intro _ z; cases z) (by intro _ _ _ z; cases z); unfold Val at this; exact this.elim
  | gone => have := h.val (by intro _ z; cases z) (by intro _ _ _ z; cases z); unfold Val at this; exact this.elim
abbrev r1n (K : Wd) (o : Bool) (p : Prim) : R2 := fun x y H Q => y = .non ∧ rP K o p [x] H Q
theorem o_isN : OpR X (compareOp .Is) (r1n (wd E X) o .isN) := by
  intro pins s σ H x y v u Q I rx ry h
  obtain ⟨rfl, F, ts, ds, d, hs, hb, he, hq⟩ := h
  replace he : evIsN ds = .ok d := he
  unfold evIsN at he
  split at he
  · cases he
    obtain ⟨_, e2, b1⟩ := hb.b1
    cases e2
    exact op_isN pins s σ H _ _ v u Q I rx ry ⟨rfl, by rw [b1.isNon]; exact hq.bl hs⟩
  · cases he
theorem o_notN : OpR X (compareOp .IsNot) (r1n (wd E X) o .notN) := by
  intro pins s σ H x y v u Q I rx ry h
  obtain ⟨rfl, F, ts, ds, d, hs, hb, he, hq⟩ := h
  obtain ⟨w, he2, rfl⟩ := notR_ok he
  unfold evIsN at he2
  split at he2
  · cases he2
    obtain ⟨_, e2, b1⟩ := hb.b1
    cases e2
    exact op_notN pins s σ H _ _ v u Q I rx ry ⟨rfl, by rw [b1.isNon]; exact hq.bl hs⟩
  · cases he2
theorem o_neg : UnR X (unaryOp .USub) (fun x H Q => rP (wd E X) o .neg [x] H Q) := by
  intro pins s σ H x v Q I rx h
  obtain ⟨F, ts, ds, d, hs, hb, he, hq⟩ := h
  replace he : evNeg ds = .ok d := he
  unfold evNeg at he
  split at he
  · cases he
    obtain ⟨_, e2, b1⟩ := hb.b1
    cases e2; cases b1.int
    exact un_neg pins s σ H _ v Q I rx ⟨_, rfl, hq.int hs⟩
  · cases he

/-! ### subscripts, slices -/
theorem ValL.at {K : Wd} {H : Hp} {F : Addr → Prop} {ds : List D} {vs : List V} {i : Int} {d : D} (h : ValL K H F ds vs) (e : atI ds i = some d) : ∃ v, atI vs i = some v ∧ Val K H F d v := by
  unfold atI at e ⊢
  rw [← h.length]
  cases q : ixN ds.length i with
  | none => rw [q] at e; cases e
  | some j =>
    rw [q] at e
    exact h.get e
theorem o_idx : IxR X (r2 (wd E X) false .idx) := by
  intro ve se pins s σ H x y v u Q I rx ry h hsub
  obtain ⟨F, ts, ds, d, hs, hb, he, hq⟩ := h
  replace he : evIdx ds = .ok d := he
  unfold evIdx at he
  split at he
  · rename_i xs i
    obtain ⟨_, _, e2, b1, b2⟩ := hb.b2
    cases e2; cases b2.int
    obtain ⟨p, vs, rfl, t, l⟩ := b1.tup
    obtain ⟨w, ew, qw⟩ := l.at (ofOpt_ok he)
    exact ix_tup ve se pins s σ H _ _ v u Q I rx ry ⟨p, vs, i, w, rfl, rfl, t, ew, hq _ _ _ hs qw⟩ hsub
  · rename_i xs i
    obtain ⟨_, _, e2, b1, b2⟩ := hb.b2
    cases e2; cases b2.int
    obtain ⟨p, vs, rfl, t, l⟩ := b1.lst
    obtain ⟨w, ew, qw⟩ := l.at (ofOpt_ok he)
    exact ix_list ve se pins s σ H _ _ v u Q I rx ry ⟨p, vs, i, w, rfl, rfl, .inl t, ew, hq _ _ _ hs qw⟩ hsub
  · rename_i xs i
    obtain ⟨_, _, e2, b1, b2⟩ := hb.b2
    cases e2; cases b2.int
    obtain ⟨p, rfl, t, l⟩ := b1.scr
    obtain ⟨w, ew, qw⟩ := l.at (ofOpt_ok he)
    exact ix_list ve se pins s σ H _ _ v u Q I rx ry ⟨p, _, i, w, rfl, rfl, t, ew, hq _ _ _ hs qw⟩ hsub
  · rename_i z i
    split at he
    · rename_i hz
      split at he
      · rename_i c ec
        cases he
        obtain ⟨_, _, e2, b1, b2⟩ := hb.b2
        cases e2; cases b2.int; cases b1.str
        exact ix_str ve se pins s σ H _ _ v u Q I rx ry ⟨z, i, c, rfl, rfl, hz, ec, PQ.str (o := false) hq hs⟩ hsub
      · cases he
    · cases he
  · cases he

theorem ValL.cut {K : Wd} {H : Hp} {F : Addr → Prop} {ds : List D} {vs : List V} (h : ValL K H F ds vs) (lo hi : Option Int) : ValL K H F (cutD ds lo hi) (cutV vs lo hi) := by
  unfold cutD cutV
  rw [h.length]
  exact (h.drop _).take _
theorem cutD_whole {α : Type} {xs : List α} {lo hi : Option Int} (h : HT.sIx xs.length 0 lo = 0 ∧ HT.sIx xs.length xs.length hi = xs.length) : cutD xs lo hi = xs := by
  unfold cutD
  rw [h.1, h.2]
  simp
def partV : Option Int → List V
  | none => []
  | some i => [.int i]
/-- a slice's reading: its text or sequence, its ends -/
def rSl (K : Wd) (o : Bool) (a b : Bool) : V → Option Int → Option Int → Hp → VK → Prop := fun x lo hi H Q => lo.isSome = a ∧ hi.isSome = b ∧ rP K o (.slc a b) (x :: (partV lo ++ partV hi)) H Q
theorem evSlice_ok {a b : Bool} {ds : List D} {d : D} (h : evSlice a b ds = .ok d) : ∃ x lo hi, lo.isSome = a ∧ hi.isSome = b ∧ ds = x :: ((lo.map D.int).toList ++ (hi.map D.int).toList) ∧ evSlc x lo hi = .ok d := by
  unfold evSlice at h
  split at h
  · exact ⟨_, none, none, rfl, rfl, rfl, h⟩
  · exact ⟨_, some _, none, rfl, rfl, rfl, h⟩
  · exact ⟨_, none, some _, rfl, rfl, rfl, h⟩
  · exact ⟨_, some _, some _, rfl, rfl, rfl, h⟩
  · cases h
theorem o_slice {a b : Bool} : SlR X (rSl (wd E X) o a b) := by
  intro pins s σ H x v vl vu lo hi sl Q I rx hsl pl pu h
  obtain ⟨e1, e2, F, ts, ds, d, hs, hb, he, hq⟩ := h
  obtain ⟨y, lo', hi', f1, f2, rfl, he2⟩ := evSlice_ok he
  have core : Bor (wd E X) H F y x ∧ lo = lo' ∧ hi = hi' := by
    subst e1 e2
    obtain ⟨x', r, er, b1, hb⟩ := hb
    injection er with e1 e2
    subst e1 e2
    refine ⟨b1, ?_⟩
    cases lo with
    | none =>
      cases lo' with
      | some _ => cases f1
      | none =>
        refine ⟨rfl, ?_⟩
        cases hi with
        | none =>
          cases hi' with
          | some _ => cases f2
          | none => rfl
        | some j =>
          cases hi' with
          | none => cases f2
          | some j' =>
            obtain ⟨_, e, q⟩ := Bors.b1 (show Bors (wd E X) H F [.int j'] [.int j] from hb)
            cases e
            cases q.int
            rfl
    | some i =>
      cases lo' with
      | none => cases f1
      | some i' =>
        cases hi with
        | none =>
          cases hi' with
          | some _ => cases f2
          | none =>
            obtain ⟨_, e, q⟩ := Bors.b1 (show Bors (wd E X) H F [.int i'] [.int i] from hb)
            cases e
            cases q.int
            exact ⟨rfl, rfl⟩
        | some j =>
          cases hi' with
          | none => cases f2
          | some j' =>
            obtain ⟨_, _, e, q, q2⟩ := Bors.b2 (show Bors (wd E X) H F [.int i', .int j'] [.int i, .int j] from hb)
            cases e
            cases q.int
            cases q2.int
            exact ⟨rfl, rfl⟩
  obtain ⟨b1, rfl, rfl⟩ := core
  clear he
  unfold evSlc at he2
  split at he2
  · cases he2
    obtain ⟨p, vs, rfl, t, c, l⟩ := b1.tupC
    refine sl_tupA pins s σ H _ v vl vu lo hi sl Q I rx hsl pl pu ⟨p, vs, rfl, t, fun w => ?_, fun _ => hq.tupNew hs (l.cut lo hi)⟩
    rw [← l.length] at w
    rw [cutD_whole w] at hq
    exact (hq.nl rfl) _ _ _ hs (by unfold Val; exact ⟨p, vs, rfl, t, c, l⟩)
  · cases he2
    obtain ⟨p, vs, rfl, t, l⟩ := b1.lst
    exact sl_list pins s σ H _ v vl vu lo hi sl Q I rx hsl pl pu ⟨p, vs, rfl, .inl t, hq.lstNew hs (l.cut lo hi)⟩
  · cases he2
    obtain ⟨p, rfl, t, l⟩ := b1.scr
    exact sl_list pins s σ H _ v vl vu lo hi sl Q I rx hsl pl pu ⟨p, _, rfl, t, hq.lstNew hs (l.cut lo hi)⟩
  · obtain ⟨c, rfl⟩ := okIf_ok he2
    cases b1.str
    exact sl_str pins s σ H _ v vl vu lo hi sl Q I rx hsl pl pu ⟨_, rfl, of_decide_eq_true c, hq.str hs⟩
  · cases he2

/-! ### built-in defs and classes -/
abbrev rC (K : Wd) (o : Bool) (p : Prim) : List V → Hp → VK → Prop := fun vs H Q => rP K o p vs H Q
theorem c_len : CallR X (.builtin "len") (rC (wd E X) o .len) := by
  intro pins s σ H vs us Q I r h
  obtain ⟨F, ts, ds, d, hs, hb, he, hq⟩ := h
  replace he : evLen ds = .ok d := he
  unfold evLen at he
  split at he
  · cases he
    obtain ⟨_, e2, b1⟩ := hb.b1
    cases e2
    obtain ⟨p, vs, rfl, t, l⟩ := b1.tup
    exact call_len pins s σ H _ us Q I r ⟨_, _, rfl, .inr ⟨vs, t, rfl⟩, by rw [← l.length]; exact hq.int hs⟩
  · cases he
    obtain ⟨_, e2, b1⟩ := hb.b1
    cases e2
    obtain ⟨p, vs, rfl, t, l⟩ := b1.lst
    exact call_len pins s σ H _ us Q I r ⟨_, _, rfl, .inl ⟨vs, .inl t, rfl⟩, by rw [← l.length]; exact hq.int hs⟩
  · cases he
    obtain ⟨_, e2, b1⟩ := hb.b1
    cases e2
    obtain ⟨p, rfl, t, l⟩ := b1.scr
    exact call_len pins s σ H _ us Q I r ⟨_, _, rfl, .inl ⟨_, t, rfl⟩, by rw [List.length_map]; exact hq.int hs⟩
  · obtain ⟨c, rfl⟩ := okIf_ok he
    obtain ⟨_, e2, b1⟩ := hb.b1
    cases e2; cases b1.str
    exact call_len pins s σ H _ us Q I r ⟨_, _, rfl, ⟨of_decide_eq_true c, rfl⟩, hq.int hs⟩
  · cases he
theorem c_sum (hc : X.calm = true) : CallR X (.builtin "sum") (rC (wd E X) o .sum) := by
  intro pins s σ H vs us Q I r h
  obtain ⟨F, ts, ds, d, hs, hb, he, hq⟩ := h
  replace he : evSum ds = .ok d := he
  unfold evSum at he
  split at he
  · split at he
    · rename_i ns en
      cases he
      obtain ⟨_, e2, b1⟩ := hb.b1
      cases e2
      obtain ⟨p, vs, rfl, t, l⟩ := b1.lst
      obtain rfl := l.ints en
      exact cr_sum hc pins s σ H _ us Q I r ⟨p, ns, rfl, .inl t, hq.int hs⟩
    · cases he
  · cases he
theorem maxOf_spec : ∀ (ns : List Int) (m : Int), maxOf m ns ∈ m :: ns ∧ ∀ y ∈ m :: ns, y ≤ maxOf m ns
  | [], m => by simp [maxOf]
  | x :: r, m => by
    have h := maxOf_spec r (if x > m then x else m)
    unfold maxOf
    constructor
    · rcases List.mem_cons.mp h.1 with e | e
      · rw [e]; split <;> simp
      · exact List.mem_cons_of_mem _ (List.mem_cons_of_mem _ e)
    · intro y hy
      have h0 := h.2 _ List.mem_cons_self
      rcases List.mem_cons.mp hy with rfl | hy
      · refine Int.le_trans ?_ h0; split <;> omega
      · rcases List.mem_cons.mp hy with rfl | hy
        · refine Int.le_trans ?_ h0; split <;> omega
        · exact h.2 y (List.mem_cons_of_mem _ hy)
theorem minOf_spec : ∀ (ns : List Int) (m : Int), minOf m ns ∈ m :: ns ∧ ∀ y ∈ m :: ns, minOf m ns ≤ y
  | [], m => by simp [minOf]
  | x :: r, m => by
    have h := minOf_spec r (if x < m then x else m)
    unfold minOf
    constructor
    · rcases List.mem_cons.mp h.1 with e | e
      · rw [e]; split <;> simp
      · exact List.mem_cons_of_mem _ (List.mem_cons_of_mem _ e)
    · intro y hy
      have h0 := h.2 _ List.mem_cons_self
      rcases List.mem_cons.mp hy with rfl | hy
      · refine Int.le_trans h0 ?_; split <;> omega
      · rcases List.mem_cons.mp hy with rfl | hy
        · refine Int.le_trans h0 ?_; split <;> omega
        · exact h.2 y (List.mem_cons_of_mem _ hy)
theorem c_maxl (hc : X.calm = true) : CallR X (.builtin "max") (rC (wd E X) o .maxl) := by
  intro pins s σ H vs us Q I r h
  obtain ⟨F, ts, ds, d, hs, hb, he, hq⟩ := h
  replace he : evMaxl ds = .ok d := he
  unfold evMaxl at he
  split at he
  · split at he
    · rename_i n ns en
      cases he
      obtain ⟨_, e2, b1⟩ := hb.b1
      cases e2
      obtain ⟨p, vs, rfl, t, l⟩ := b1.lst
      obtain rfl := l.ints en
      refine cr_max hc pins s σ H _ us Q I r ⟨p, n :: ns, rfl, .inl t, by simp, fun m hm hle => ?_⟩
      have sp := maxOf_spec ns n
      obtain rfl : m = maxOf n ns := by
        have h1 := hle _ sp.1
        have h2 := sp.2 _ hm
        omega
      exact hq.int hs
    · cases he
  · cases he
theorem c_minl (hc : X.calm = true) : CallR X (.builtin "min") (rC (wd E X) o .minl) := by
  intro pins s σ H vs us Q I r h
  obtain ⟨F, ts, ds, d, hs, hb, he, hq⟩ := h
  replace he : evMinl ds = .ok d := he
  unfold evMinl at he
  split at he
  · split at he
    · rename_i n ns en
      cases he
      obtain ⟨_, e2, b1⟩ := hb.b1
      cases e2
      obtain ⟨p, vs, rfl, t, l⟩ := b1.lst
      obtain rfl := l.ints en
      refine cr_min hc pins s σ H _ us Q I r ⟨p, n :: ns, rfl, .inl t, by simp, fun m hm hle => ?_⟩
      have sp := minOf_spec ns n
      obtain rfl : m = minOf n ns := by
        have h1 := hle _ sp.1
        have h2 := sp.2 _ hm
        omega
      exact hq.int hs
    · cases he
  · cases he
theorem callInt2 {p : Prim} {f : Value} {g : Int → Int → R D} (he : ∀ ds, evPrim p ds = evInt2 g ds)
    (rule : ∀ (i j : Int) (d : D) (pins : List (Addr × Obj)) (s : Shared) (σ : L2.St) (H : Hp) (F : Addr → Prop) (ts : Things) (us : List Value) (Q : VK), g i j = .ok d → Inv X pins σ H s → Vals [.int i, .int j] us → Sep (wd E X) H F ts → PQ o (wd E X) ts d Q →
      wpAny (model X.prog X.w) X.A (call f us) (EP X pins σ Q) X.xe s) : CallR X f (rC (wd E X) o p) := by
  intro pins s σ H vs us Q I r h
  obtain ⟨F, ts, ds, d, hs, hb, he', hq⟩ := h
  rw [he] at he'
  obtain ⟨a, b, rfl, e⟩ := evInt2_ok he'
  obtain ⟨_, _, e2, b1, b2⟩ := hb.b2
  subst e2
  cases b1.int; cases b2.int
  exact rule a b d pins s σ H F ts us Q e I r hs hq
theorem c_max2 (hc : X.calm = true) : CallR X (.builtin "max") (rC (wd E X) o .max2) := callInt2 (fun _ => rfl) fun i j d pins s σ H F ts us Q e I r hs hq => by
  cases e
  exact call_max2 hc pins s σ H _ us Q I r ⟨i, j, rfl, hq.int hs⟩
theorem c_min2 (hc : X.calm = true) : CallR X (.builtin "min") (rC (wd E X) o .min2) := callInt2 (fun _ => rfl) fun i j d pins s σ H F ts us Q e I r hs hq => by
  cases e
  exact call_min2 hc pins s σ H _ us Q I r ⟨i, j, rfl, hq.int hs⟩
theorem c_tupOf : CallR X (.type "tuple") (rC (wd E X) o .tupOf) := by
  intro pins s σ H vs us Q I r h
  obtain ⟨F, ts, ds, d, hs, hb, he, hq⟩ := h
  replace he : evTupOf ds = .ok d := he
  unfold evTupOf at he
  split at he
  · cases he
    obtain ⟨_, e2, b1⟩ := hb.b1
    cases e2
    obtain ⟨p, vs, rfl, t, l⟩ := b1.lst
    exact call_tuple_of pins s σ H _ us Q I r ⟨p, vs, rfl, .inl ⟨.inl t, hq.tupNew hs l⟩⟩
  · cases he
    obtain ⟨_, e2, b1⟩ := hb.b1
    cases e2
    obtain ⟨p, vs, rfl, t, c, l⟩ := b1.tupC
    exact call_tuple_of pins s σ H _ us Q I r ⟨p, vs, rfl, .inr ⟨t, (hq.nl rfl) _ _ _ hs (by unfold Val; exact ⟨p, vs, rfl, t, c, l⟩)⟩⟩
  · cases he
theorem c_lstOf : CallR X (.type "list") (rC (wd E X) o .lstOf) := by
  intro pins s σ H vs us Q I r h
  obtain ⟨F, ts, ds, d, hs, hb, he, hq⟩ := h
  replace he : evLstOf ds = .ok d := he
  unfold evLstOf at he
  split at he
  · cases he
    obtain ⟨_, e2, b1⟩ := hb.b1
    cases e2
    obtain ⟨p, rfl, t, l⟩ := b1.scr
    exact call_list_of pins s σ H _ us Q I r ⟨p, _, rfl, .inl t, hq.lstNew hs l⟩
  · cases he
    obtain ⟨_, e2, b1⟩ := hb.b1
    cases e2
    obtain ⟨p, vs, rfl, t, l⟩ := b1.lst
    exact call_list_of pins s σ H _ us Q I r ⟨p, vs, rfl, .inl (.inl t), hq.lstNew hs l⟩
  · cases he
    obtain ⟨_, e2, b1⟩ := hb.b1
    cases e2
    obtain ⟨p, vs, rfl, t, l⟩ := b1.tup
    exact call_list_of pins s σ H _ us Q I r ⟨p, vs, rfl, .inr t, hq.lstNew hs l⟩
  · cases he
theorem c_strOf : CallR X (.type "str") (rC (wd E X) o .strOf) := by
  intro pins s σ H vs us Q I r h
  obtain ⟨F, ts, ds, d, hs, hb, he, hq⟩ := h
  replace he : evStrOf ds = .ok d := he
  unfold evStrOf at he
  split at he
  · obtain ⟨c, rfl⟩ := okIf_ok he
    obtain ⟨_, e2, b1⟩ := hb.b1
    cases e2; cases b1.int
    exact call_str_int pins s σ H _ us Q I r ⟨_, rfl, of_decide_eq_true c, hq.str hs⟩
  · cases he
theorem c_intOf : CallR X (.type "int") (rC (wd E X) o .intOf) := by
  intro pins s σ H vs us Q I r h
  obtain ⟨F, ts, ds, d, hs, hb, he, hq⟩ := h
  replace he : evIntOf ds = .ok d := he
  unfold evIntOf at he
  split at he
  · cases he
    obtain ⟨_, e2, b1⟩ := hb.b1
    cases e2; cases b1.int
    exact call_int1 pins s σ H _ us Q I r (.inl ⟨_, rfl, hq.int hs⟩)
  · cases he
    obtain ⟨_, e2, b1⟩ := hb.b1
    cases e2; cases b1.bl
    exact call_int1 pins s σ H _ us Q I r (.inr ⟨_, rfl, hq.int hs⟩)
  · split at he
    · rename_i n en
      obtain ⟨c, rfl⟩ := okIf_ok he
      obtain ⟨_, e2, b1⟩ := hb.b1
      cases e2; cases b1.str
      exact call_int_str pins s σ H _ us Q I r ⟨_, n, rfl, en, of_decide_eq_true c, hq.int hs⟩
    · cases he
  · cases he
theorem c_all (hc : X.calm = true) : CallR X (.builtin "all") (rC (wd E X) o .all) := by
  intro pins s σ H vs us Q I r h
  obtain ⟨F, ts, ds, d, hs, hb, he, hq⟩ := h
  replace he : evAll ds = .ok d := he
  unfold evAll at he
  split at he
  · split at he
    · rename_i ns en
      cases he
      obtain ⟨_, e2, b1⟩ := hb.b1
      cases e2
      obtain ⟨p, vs, rfl, t, l⟩ := b1.lst
      obtain rfl := l.bools en
      exact cr_all hc pins s σ H _ us Q I r ⟨p, ns, rfl, .inl t, hq.bl hs⟩
    · cases he
  · cases he
/-- a method's reading, by its data -/
def rM (K : Wd) (m : Met) : V → List V → Hp → VK → Prop := fun x vs H Q => ∃ F ts ds d, Sep K H F ts ∧ Bors K H F ds (x :: vs) ∧ evMet m ds = .ok d ∧ PF K ts d Q
theorem m_join : MtR X "str.join" (rM (wd E X) .join) := by
  intro pins s σ H x vs v us Q I rx rs h
  obtain ⟨F, ts, ds, d, hs, hb, he, hq⟩ := h
  replace he : evJoin ds = .ok d := he
  unfold evJoin at he
  split at he
  · split at he
    · rename_i en
      obtain ⟨c, rfl⟩ := okIf_ok he
      obtain ⟨_, _, e2, b1, b2⟩ := hb.b2
      cases e2; cases b1.str
      obtain ⟨p, ws, rfl, t, l⟩ := b2.lst
      obtain rfl := l.strs en
      exact mt_join pins s σ H _ _ v us Q I rx rs ⟨_, p, _, rfl, rfl, .inl (.inl t), of_decide_eq_true c, hq _ _ _ hs val_str⟩
    · cases he
  · cases he
theorem m_sidx : MtR X "str.index" (rM (wd E X) .sidx) := by
  intro pins s σ H x vs v us Q I rx rs h
  obtain ⟨F, ts, ds, d, hs, hb, he, hq⟩ := h
  replace he : evSidx ds = .ok d := he
  unfold evSidx at he
  split at he
  · split at he
    · rename_i a b _ k ek
      cases he
      obtain ⟨_, _, e2, b1, b2⟩ := hb.b2
      cases e2; cases b1.str; cases b2.str
      obtain ⟨t, rfl⟩ := rx
      cases rs with
      | cons r1 rs =>
        cases rs
        obtain ⟨u, rfl⟩ := r1
        unfold Txt.index0 at ek
        cases q : Builtin.Str.occurrences a b 0 a.length 1 with
        | nil => rw [q] at ek; cases ek
        | cons k' rest =>
          rw [q] at ek
          cases ek
          exact PySem.SC.index q ⟨.int (k : Nat), H, I.tok _, ⟨_, rfl⟩, hq _ _ _ hs val_int⟩
    · cases he
  · cases he

theorem ValL.ofStrs (K : Wd) (H : Hp) (F : Addr → Prop) : ∀ zs : List Str, ValL K H F (zs.map D.str) (zs.map V.str)
  | [] => ValL.nil
  | z :: zs => ValL.cons val_str (ValL.ofStrs K H F zs)
theorem m_split : MtR X "str.split" (rM (wd E X) .split) := by
  intro pins s σ H x vs v us Q I rx rs h
  obtain ⟨F, ts, ds, d, hs, hb, he, hq⟩ := h
  replace he : evSplit ds = .ok d := he
  unfold evSplit at he
  split at he
  · obtain ⟨c, rfl⟩ := okIf_ok he
    simp only [Bool.and_eq_true, decide_eq_true_eq, Bool.not_eq_true'] at c
    obtain ⟨_, _, e2, b1, b2⟩ := hb.b2
    cases e2; cases b1.str; cases b2.str
    exact mt_split pins s σ H _ _ v us Q I rx rs ⟨_, _, rfl, rfl, c.1, c.2, PQ.lstNew (o := false) hq hs (ValL.ofStrs _ _ _ _)⟩
  · cases he
theorem m_words : MtR X "str.split" (rM (wd E X) .words) := by
  intro pins s σ H x vs v us Q I rx rs h
  obtain ⟨F, ts, ds, d, hs, hb, he, hq⟩ := h
  replace he : evWords ds = .ok d := he
  unfold evWords at he
  split at he
  · obtain ⟨c, rfl⟩ := okIf_ok he
    obtain ⟨_, e2, b1⟩ := hb.b1
    cases e2; cases b1.str
    exact mt_words pins s σ H _ _ v us Q I rx rs ⟨_, rfl, rfl, of_decide_eq_true c, PQ.lstNew (o := false) hq hs (ValL.ofStrs _ _ _ _)⟩
  · cases he

/-! ### isinstance -/
def Ty.py : Ty → String
  | .int => "int" | .str => "str" | .tuple => "tuple" | .list => "list" | .bool => "bool"
theorem isTy_py {K : Wd} {H : Hp} {F : Addr → Prop} {t : Ty} {d : D} {v : V} {b : Bool} (h : isTy t d = some b) (q : Bor K H F d v) : ∃ T, TyX K.K H v (.type T) ∧ PySem.W.kitOne K.K (.type T) (.type t.py) = some b := by
  cases d with
  | non => cases q.non; refine ⟨_, .base .non, ?_⟩; cases t <;> cases h <;> exact kit_ty (by decide +kernel)
  | bl k => cases q.bl; refine ⟨_, .base (.bl k), ?_⟩; cases t <;> cases h <;> exact kit_ty (by decide +kernel)
  | int k => cases q.int; refine ⟨_, .base (.int k), ?_⟩; cases t <;> cases h <;> exact kit_ty (by decide +kernel)
  | str k => cases q.str; refine ⟨_, .base (.str k), ?_⟩; cases t <;> cases h <;> exact kit_ty (by decide +kernel)
  | tup xs =>
    obtain ⟨p, vs, rfl, tq, l⟩ := q.tup
    refine ⟨"tuple", ?_, ?_⟩
    · rcases tq with (e | ⟨ob, e⟩) | ⟨ob, its, n, e, c, _⟩
      · exact .base (.tup e)
      · exact .fTuple e
      · exact .kTuple e c
    · cases t <;> cases h <;> exact kit_ty (by decide +kernel)
  | lst xs =>
    obtain ⟨p, vs, rfl, tq, l⟩ := q.lst
    refine ⟨"list", ?_, ?_⟩
    · rcases tq with e | ⟨ob, e⟩
      · exact .base (.lst e)
      · exact .base (.frz e)
    · cases t <;> cases h <;> exact kit_ty (by decide +kernel)
  | dct _ _ _ => cases t <;> cases h
  | scr _ => cases t <;> cases h
  | fn i => cases t <;> cases h
  | obj _ _ _ => cases t <;> cases h
  | box _ => cases t <;> cases h
  | gone => cases t <;> cases h
abbrev rI1 (K : Wd) (o : Bool) (t : Ty) : List V → Hp → VK → Prop := fun vs H Q => ∃ x, vs = [x, .ty t.py] ∧ rP K o (.isi t) [x] H Q
theorem c_isi {t : Ty} : CallR X (.builtin "isinstance") (rI1 (wd E X) o t) := by
  intro pins s σ H vs us Q I r h
  obtain ⟨x, rfl, F, ts, ds, d, hs, hb, he, hq⟩ := h
  replace he : evIsi t ds = .ok d := he
  unfold evIsi at he
  split at he
  · rename_i y
    have he := ofOpt_ok he
    obtain ⟨b, eb, rfl⟩ := Option.map_eq_some_iff.mp he
    obtain ⟨_, e2, b1⟩ := hb.b1
    cases e2
    obtain ⟨T, ty, k⟩ := isTy_py eb b1
    exact call_isi pins s σ H _ us Q I r ⟨x, .ty t.py, .type T, .type t.py, b, rfl, .ty _, ty, k, hq.bl hs⟩
  · cases he
end
end Bk

/-! B3d: dicts, by their data. -/
namespace Bk
open PySem PySem.Spec PyProof.Rows L2

theorem keyOf_inj {a b : D} {k : Key} (h1 : keyOf a = some k) (h2 : keyOf b = some k) : a = b := by
  cases a <;> simp only [keyOf, reduceCtorEq, Option.some.injEq] at h1 <;> cases b <;> simp only [keyOf, reduceCtorEq, Option.some.injEq] at h2 <;> subst h1 <;> first | (cases h2; rfl) | cases h2
theorem keyOf_beq {a b : D} {j k : Key} (h1 : keyOf a = some j) (h2 : keyOf b = some k) : D.beq a b = decide (j = k) := by
  cases a <;> simp only [keyOf, reduceCtorEq, Option.some.injEq] at h1 <;> cases b <;> simp only [keyOf, reduceCtorEq, Option.some.injEq] at h2 <;> subst h1 h2
  · simp [D.beq]
  · simp [D.beq]
  · simp [D.beq]
  · simp [D.beq]
theorem keysOf_beq : ∀ {a b : List D} {j k : List Key}, keysOf a = some j → keysOf b = some k → D.beqL a b = decide (j = k)
  | [], [], _, _, h1, h2 => by cases h1; cases h2; rfl
  | [], y :: ys, j, k, h1, h2 => by
    cases h1
    simp only [keysOf] at h2
    split at h2
    · cases h2; rfl
    · cases h2
  | x :: xs, [], j, k, h1, h2 => by
    cases h2
    simp only [keysOf] at h1
    split at h1
    · cases h1; rfl
    · cases h1
  | x :: xs, y :: ys, j, k, h1, h2 => by
    simp only [keysOf] at h1 h2
    split at h1
    · rename_i a b ha hb
      cases h1
      split at h2
      · rename_i c d hc hd
        cases h2
        rw [D.beqL, keyOf_beq ha hc, keysOf_beq hb hd]
        by_cases e1 : a = c <;> by_cases e2 : b = d <;> simp [e1, e2]
      · cases h2
    · cases h1
theorem keyTOf_some {d : D} {k : List Key} (h : keyTOf d = some k) : ∃ xs, d = .tup xs ∧ keysOf xs = some k ∧ isCst xs = false := by
  cases d <;> simp only [keyTOf, reduceCtorEq] at h
  rename_i xs
  split at h
  · rename_i z
    split at h
    · cases h
    · rename_i hz
      cases h
      exact ⟨_, rfl, rfl, by simp [isCst, hz]⟩
  · rename_i xs hx
    refine ⟨_, rfl, h, ?_⟩
    unfold isCst
    split
    · rename_i z
      exact (hx z rfl).elim
    · rfl
theorem keyTOf_beq {a b : D} {j k : List Key} (h1 : keyTOf a = some j) (h2 : keyTOf b = some k) : D.beq a b = decide (j = k) := by
  obtain ⟨xs, rfl, e1, _⟩ := keyTOf_some h1
  obtain ⟨ys, rfl, e2, _⟩ := keyTOf_some h2
  rw [D.beq, keysOf_beq e1 e2]

section
variable {κ : Type} [DecidableEq κ]
/-- the dict's list and what is asked of it -/
theorem look_zip {kf : D → Option κ} (hk : ∀ {a b : D} {j k : κ}, kf a = some j → kf b = some k → D.beq a b = decide (j = k)) {K : Wd} {H : Hp} {F : Addr → Prop} {d : D} {k : κ} (hd : kf d = some k) :
    ∀ {ks xs : List D} {kk : List κ} {vs : List V}, ks.map kf = kk.map some → ks.length = vs.length → ValL K H F xs vs → (∀ v, dLook d ks xs = some v → ∃ w, valV (kk.zip vs) k = some w ∧ Val K H F v w) ∧ (dLook d ks xs = none → valV (kk.zip vs) k = none)
  | [], xs, kk, vs, e, l, q => by
    cases kk with
    | nil => exact ⟨fun v h => by simp [dLook] at h, fun _ => rfl⟩
    | cons _ _ => cases e
  | x :: ks, xs, kk, vs, e, l, q => by
    cases kk with
    | nil => cases e
    | cons a kk =>
      simp only [List.map_cons, List.cons.injEq] at e
      cases vs with
      | nil => cases l
      | cons v vs =>
        cases xs with
        | nil => unfold ValL at q; cases q
        | cons y xs =>
          unfold ValL at q
          obtain ⟨v', r, e2, q1, q2⟩ := q
          cases e2
          have ih := look_zip hk hd (ks := ks) e.2 (by simpa using l) q2
          rw [List.zip_cons_cons]
          by_cases hak : a = k
          · have hb : D.beq x d = true := by rw [hk e.1 hd]; exact decide_eq_true hak
            rw [dLook, if_pos hb, valV_pos (show ((a, v) : κ × V).1 = k from hak)]
            exact ⟨fun w h => by cases h; exact ⟨v, rfl, q1⟩, fun h => by cases h⟩
          · have hb : ¬ D.beq x d = true := by rw [hk e.1 hd, decide_eq_false hak]; exact Bool.false_ne_true
            rw [dLook, if_neg hb, valV_neg (show ¬ ((a, v) : κ × V).1 = k from hak)]
            exact ih
theorem any_zip {kf : D → Option κ} (hk : ∀ {a b : D} {j k : κ}, kf a = some j → kf b = some k → D.beq a b = decide (j = k)) {d : D} {k : κ} (hd : kf d = some k) :
    ∀ {ks : List D} {kk : List κ} {vs : List V}, ks.map kf = kk.map some → ks.length = vs.length → ((kk.zip vs).any fun kv => decide (kv.1 = k)) = dHas d ks
  | [], kk, vs, e, l => by
    cases kk with
    | nil => rfl
    | cons _ _ => cases e
  | x :: ks, kk, vs, e, l => by
    cases kk with
    | nil => cases e
    | cons a kk =>
      simp only [List.map_cons, List.cons.injEq] at e
      cases vs with
      | nil => cases l
      | cons v vs =>
        rw [List.zip_cons_cons, List.any_cons]
        show (decide (a = k) || _) = (D.beq x d || dHas d ks)
        rw [hk e.1 hd, any_zip hk hd (ks := ks) e.2 (by simpa using l)]
theorem repl_zip {kf : D → Option κ} (hk : ∀ {a b : D} {j k : κ}, kf a = some j → kf b = some k → D.beq a b = decide (j = k)) {K : Wd} {H : Hp} {F : Addr → Prop} {d x : D} {k : κ} {w : V} (hd : kf d = some k) (qx : Val K H F x w) :
    ∀ {ks xs : List D} {kk : List κ} {vs : List V}, ks.map kf = kk.map some → ks.length = vs.length → ValL K H F xs vs →
    ∃ vs', (kk.zip vs).map (fun kv => if kv.1 = k then (kv.1, w) else kv) = kk.zip vs' ∧ vs'.length = vs.length ∧ ValL K H F (dRepl d x ks xs) vs'
  | [], xs, kk, vs, e, l, q => by
    cases vs with
    | cons _ _ => cases l
    | nil => exact ⟨[], by cases kk <;> rfl, rfl, by unfold dRepl; exact ValL.nil⟩
  | y :: ks, xs, kk, vs, e, l, q => by
    cases kk with
    | nil => cases e
    | cons a kk =>
      simp only [List.map_cons, List.cons.injEq] at e
      cases vs with
      | nil => cases l
      | cons v vs =>
        cases xs with
        | nil => unfold ValL at q; cases q
        | cons z xs =>
          unfold ValL at q
          obtain ⟨v', r, e2, q1, q2⟩ := q
          cases e2
          obtain ⟨vs', e3, l3, q3⟩ := repl_zip hk hd qx (ks := ks) e.2 (by simpa using l) q2
          rw [List.zip_cons_cons, List.map_cons, e3]
          by_cases hak : a = k
          · refine ⟨w :: vs', ?_, by simp [l3], ?_⟩
            · rw [if_pos (show ((a, v) : κ × V).1 = k from hak)]; rfl
            · rw [dRepl, if_pos (by rw [hk e.1 hd]; exact decide_eq_true hak)]
              exact ValL.cons qx q3
          · refine ⟨v :: vs', ?_, by simp [l3], ?_⟩
            · rw [if_neg (show ¬ ((a, v) : κ × V).1 = k from hak)]; rfl
            · rw [dRepl, if_neg (by rw [hk e.1 hd, decide_eq_false hak]; exact Bool.false_ne_true)]
              exact ValL.cons q1 q3
theorem put_zip {kf : D → Option κ} (hk : ∀ {a b : D} {j k : κ}, kf a = some j → kf b = some k → D.beq a b = decide (j = k)) {K : Wd} {H : Hp} {F : Addr → Prop} {d x : D} {k : κ} {w : V} (hd : kf d = some k) (qx : Val K H F x w)
    {ks xs : List D} {kk : List κ} {vs : List V} (e : ks.map kf = kk.map some) (l : ks.length = vs.length) (q : ValL K H F xs vs) :
    ∃ (kk' : List κ) (vs' : List V), putK (kk.zip vs) k w = kk'.zip vs' ∧ (dPutK d ks).map kf = kk'.map some ∧ (dPutK d ks).length = vs'.length ∧ ValL K H F (dPutV d x ks xs) vs' := by
  have ha := any_zip hk hd e l
  unfold putK dPutK dPutV
  rw [ha]
  cases hb : dHas d ks with
  | true =>
    obtain ⟨vs', e3, l3, q3⟩ := repl_zip hk hd qx e l q
    exact ⟨kk, vs', e3, e, by rw [l3]; exact l, q3⟩
  | false =>
    have hkl : kk.length = vs.length := by have := congrArg List.length e; simp only [List.length_map] at this; omega
    refine ⟨kk ++ [k], vs ++ [w], ?_, ?_, by simp [l], q.append (ValL.cons qx ValL.nil)⟩
    · show kk.zip vs ++ [(k, w)] = _
      rw [List.zip_append hkl]; rfl
    · show (ks ++ [d]).map kf = _
      rw [List.map_append, List.map_append, e]
      simp [hd]
end

section
variable {K : Wd} {H : Hp} {F : Addr → Prop}
theorem key_val {d : D} {k : Key} {v : V} (h : keyOf d = some k) (b : Bor K H F d v) : v = kV k := by
  cases d <;> simp only [keyOf, reduceCtorEq, Option.some.injEq] at h
  · subst h; exact b.int
  · subst h; exact b.str
theorem keys_val : ∀ {ds : List D} {ks : List Key} {vs : List V}, keysOf ds = some ks → ValL K H F ds vs → vs = ks.map kV
  | [], ks, vs, h, q => by cases h; unfold ValL at q; exact q
  | d :: ds, ks, vs, h, q => by
    simp only [keysOf] at h
    split at h
    · rename_i k l h1 h2
      cases h
      unfold ValL at q
      obtain ⟨v, r, rfl, q1, q2⟩ := q
      rw [key_val h1 q1.bor, keys_val h2 q2]; rfl
    · cases h
/-- a key of tuples, at its address -/
theorem keyT_val {d : D} {k : List Key} {v : V} (h : keyTOf d = some k) (b : Bor K H F d v) : ∃ a, v = .ref a ∧ H a = some (.tup (k.map kV)) := by
  obtain ⟨xs, rfl, e, c⟩ := keyTOf_some h
  obtain ⟨a, vs, rfl, _, q, l⟩ := b.tupC
  rcases q with q | q
  · rw [c] at q; cases q
  · exact ⟨a, rfl, by rw [q, keys_val e l]⟩
theorem DAt.rd {a : Addr} {t : Nat} {ks xs : List D} {us : List V} {k : D} {y : V} (h : DAt H a t ks us) (q : ValL K H F xs us) (hk : isKey t k = true) (b : Bor K H F k y) :
    ∃ r, DGet H a y r ∧ (∀ v, dLook k ks xs = some v → ∃ w, r = some w ∧ Val K H F v w) ∧ (dLook k ks xs = none → r = none) := by
  match t, h, hk with
  | 0, ⟨l, kk, e, ha⟩, hk =>
    obtain ⟨k', hk'⟩ := Option.isSome_iff_exists.mp (show (keyOf k).isSome = true from hk)
    have z := look_zip (kf := keyOf) (fun h1 h2 => keyOf_beq h1 h2) hk' e l q
    rw [key_val hk' b]
    exact ⟨_, DGet.k ha, z⟩
  | 1, ⟨l, kk, e, ha⟩, hk =>
    obtain ⟨k', hk'⟩ := Option.isSome_iff_exists.mp (show (keyTOf k).isSome = true from hk)
    have z := look_zip (kf := keyTOf) (fun h1 h2 => keyTOf_beq h1 h2) hk' e l q
    obtain ⟨c, rfl, hc⟩ := keyT_val hk' b
    exact ⟨_, DGet.t ha hc, z⟩
  | t + 2, h, _ => exact h.2.elim
theorem DAt.wr {a : Addr} {t : Nat} {ks xs : List D} {us : List V} {k x : D} {y w : V} {ts : Things} (s : Sep K H F ((.own (.dct t ks xs), some (.ref a)) :: ts)) (hk : isKey t k = true) (hl : ks.length < sizeLine) (b : Bor K H F k y) (qx : Val K H F x w) :
    ∃ H', DPut H a y w H' ∧ Sep K H' F ((.own (.dct t (dPutK k ks) (dPutV k x ks xs)), some (.ref a)) :: ts) := by
  obtain ⟨a', us, e0, h, q⟩ := s.head_ownD
  cases e0
  match t, h, hk, s with
  | 0, ⟨l, kk, e, ha⟩, hk, s =>
    obtain ⟨k', hk'⟩ := Option.isSome_iff_exists.mp (show (keyOf k).isSome = true from hk)
    obtain ⟨kk', vs', e1, e2, e3, q3⟩ := put_zip (kf := keyOf) (fun h1 h2 => keyOf_beq h1 h2) hk' qx e l q
    rw [key_val hk' b]
    refine ⟨_, DPut.k ha ?_, s.writeD fun _ pr => ?_⟩
    · have := List.length_zip (l₁ := kk) (l₂ := us); omega
    · unfold OwnD
      exact ⟨a, vs', rfl, ⟨e3, kk', e2, by rw [upd_same, e1]⟩, q3.mono (fun _ z => z) pr, rfl⟩
  | 1, ⟨l, kk, e, ha⟩, hk, s =>
    obtain ⟨k', hk'⟩ := Option.isSome_iff_exists.mp (show (keyTOf k).isSome = true from hk)
    obtain ⟨kk', vs', e1, e2, e3, q3⟩ := put_zip (kf := keyTOf) (fun h1 h2 => keyTOf_beq h1 h2) hk' qx e l q
    obtain ⟨c, rfl, hc⟩ := keyT_val hk' b
    refine ⟨_, DPut.t ha hc ?_, s.writeD fun _ pr => ?_⟩
    · have := List.length_zip (l₁ := kk) (l₂ := us); omega
    · unfold OwnD
      exact ⟨a, vs', rfl, ⟨e3, kk', e2, by rw [upd_same, e1]⟩, q3.mono (fun _ z => z) pr, rfl⟩
  | t + 2, h, _, _ => exact h.2.elim
end

section
variable {E : Wo} {X : Cx} {o : Bool}
theorem ev2_ok {f : D → D → R D} {ds : List D} {d : D} (h : ev2 f ds = .ok d) : ∃ a b, ds = [a, b] ∧ f a b = .ok d := by
  unfold ev2 at h
  split at h
  · exact ⟨_, _, rfl, h⟩
  · cases h
theorem evDin_ok {a k d : D} (h : evDin a k = .ok d) : ∃ t ks xs, a = .dct t ks xs ∧ isKey t k = true ∧ d = .bl (dLook k ks xs).isSome := by
  unfold evDin at h
  split at h
  · split at h
    · rename_i hk; cases h; exact ⟨_, _, _, rfl, hk, rfl⟩
    · cases h
  · cases h
theorem o_din (hu : X.A.units + 1 < cLine) : OpR X (compareOp .In) (r2 (wd E X) o .din) := by
  intro pins s σ H x y v u Q I rx ry h
  obtain ⟨F, ts, ds, d, hs, hb, he, hq⟩ := h
  obtain ⟨k, a, rfl, e⟩ := ev2_ok (show ev2 _ _ = .ok d from he)
  obtain ⟨t, ks, xs, rfl, hk, rfl⟩ := evDin_ok e
  obtain ⟨_, _, e2, b1, b2⟩ := hb.b2
  cases e2
  obtain ⟨p, us, rfl, da, l⟩ := b2.dct
  cases ry
  obtain ⟨r, g, h1, h2⟩ := da.rd l hk b1
  refine d_in hu I g rx fun s3 I3 => ⟨.bl r.isSome, H, I3, rfl, ?_⟩
  have : r.isSome = (dLook k ks xs).isSome := by
    cases hl : dLook k ks xs with
    | none => rw [h2 hl]; rfl
    | some v => obtain ⟨w, e, _⟩ := h1 v hl; rw [e]; rfl
  rw [this]
  exact hq.bl hs
theorem o_dnin (hu : X.A.units + 1 < cLine) : OpR X (compareOp .NotIn) (r2 (wd E X) o .dnin) := by
  intro pins s σ H x y v u Q I rx ry h
  obtain ⟨F, ts, ds, d, hs, hb, he, hq⟩ := h
  obtain ⟨w, he2, rfl⟩ := notR_ok (show notR _ = .ok d from he)
  obtain ⟨k, a, rfl, e⟩ := ev2_ok he2
  obtain ⟨t, ks, xs, rfl, hk, ew⟩ := evDin_ok e
  cases ew
  obtain ⟨_, _, e2, b1, b2⟩ := hb.b2
  cases e2
  obtain ⟨p, us, rfl, da, l⟩ := b2.dct
  cases ry
  obtain ⟨r, g, h1, h2⟩ := da.rd l hk b1
  refine d_notIn hu I g rx fun s3 I3 => ⟨.bl (!r.isSome), H, I3, rfl, ?_⟩
  have : r.isSome = (dLook k ks xs).isSome := by
    cases hl : dLook k ks xs with
    | none => rw [h2 hl]; rfl
    | some v => obtain ⟨w, e, _⟩ := h1 v hl; rw [e]; rfl
  rw [this]
  exact hq.bl hs
theorem r_dget {x y : V} {H : Hp} {Q : VK} (h : rP (wd E X) false .dget [x, y] H Q) : ∃ a v, x = .ref a ∧ DGet H a y (some v) ∧ Q v H := by
  obtain ⟨F, ts, ds, d, hs, hb, he, hq⟩ := h
  obtain ⟨a, k, rfl, e⟩ := ev2_ok (show ev2 _ _ = .ok d from he)
  unfold evDget at e
  split at e
  · split at e
    · rename_i hk
      split at e
      · rename_i v hv
        cases e
        obtain ⟨_, _, e2, b1, b2⟩ := hb.b2
        cases e2
        obtain ⟨p, us, rfl, da, l⟩ := b1.dct
        obtain ⟨r, g, h1, h2⟩ := da.rd l hk b2
        obtain ⟨w, rfl, qw⟩ := h1 _ hv
        exact ⟨p, w, rfl, g, hq _ _ _ hs qw⟩
      · cases e
    · cases e
  · cases e
/-- a dict that is made -/
theorem PQ.dnew0 {K : Wd} {H : Hp} {F : Addr → Prop} {ts : Things} {Q : VK} (h : PQ o K ts (.dct 0 [] []) Q) (s : Sep K H F ts) : ∀ p, H p = none → Q (.ref p) (upd H p (.dK [])) := fun p hp => h.own rfl (s.dctNew0 hp)
theorem PQ.dnew1 {K : Wd} {H : Hp} {F : Addr → Prop} {ts : Things} {Q : VK} (h : PQ o K ts (.dct 1 [] []) Q) (s : Sep K H F ts) : ∀ p, H p = none → Q (.ref p) (upd H p (.dT [])) := fun p hp => h.own rfl (s.dctNew1 hp)
end

/-! ### o[k] = v, by data -/
section
variable {E : Wo} {X : Cx}
/-- the container at o, its things -/
def rSetP (K : Wd) : TSet := fun o i v H Q => ∃ F ts d k x d', Sep K H F ((.own d, some o) :: ts) ∧ Bor K H F k i ∧ Val K H F x v ∧ evSet d k x = .ok d' ∧ ∀ H' , Sep K H' F ((.own d', some o) :: ts) → Q H'
theorem set_data (hu : X.A.units + 1 < cLine) : PSet X (rSetP (wd E X)) := by
  intro pins s σ H o i v ov iv u Q I ro ri rv h
  obtain ⟨F, ts, d, k, x, d', hs, bk, vx, he, q⟩ := h
  unfold evSet at he
  split at he
  · split at he
    · rename_i j hj
      cases he
      obtain ⟨a, vs, e, ha, l⟩ := hs.head_own
      cases e
      cases bk.int
      refine set_list pins s σ H _ _ v ov iv u Q I ro ri rv ⟨a, vs, _, j, rfl, rfl, ha, by rw [← l.length]; exact hj, q _ ?_⟩
      exact hs.write (l.set vx j)
    · cases he
  · split at he
    · rename_i hk
      simp only [Bool.and_eq_true, decide_eq_true_eq] at hk
      cases he
      obtain ⟨a, us, e, ha, l⟩ := hs.head_ownD
      cases e
      obtain ⟨H', dp, s'⟩ := DAt.wr (us := us) hs hk.1 hk.2 bk vx
      exact set_dict hu pins s σ H _ _ v ov iv u Q I ro ri rv ⟨a, H', rfl, dp, q _ s'⟩
    · cases he
  · cases he

/-! ### methods that change their own -/
def rMu (K : Wd) (m : Mut) : V → List V → Hp → VK → Prop := fun x vs H Q => ∃ F ts d ds r, Sep K H F ((.own d, some x) :: ts) ∧ ValL K H F ds vs ∧ evMut m d ds = .ok r ∧ ∀ v H', Sep K H' F ((.own r.2, some x) :: ts) → Val K H' F r.1 v → Q v H'
theorem mu_fin {K : Wd} {H H' : Hp} {F : Addr → Prop} {ts : Things} {d : D} {x : V} {ys : List D} {ws : List V} {a : Addr} (s : Sep K H F ((.own d, some (.ref a)) :: ts)) (hd : ∃ xs, d = .lst xs) (l : ValL K H F ys ws) :
    Sep K (upd H a (.lst ws)) F ((.own (.lst ys), some (.ref a)) :: ts) := by
  obtain ⟨xs, rfl⟩ := hd
  exact s.write l
theorem m_app : MtR X "list.append" (rMu (wd E X) .app) := by
  intro pins s σ H x vs v us Q I rx rv h
  obtain ⟨F, ts, d, ds, r, hs, l, he, q⟩ := h
  unfold evMut at he
  split at he <;> first | (cases he; done) | (rename_i hm; cases hm; done) | skip
  rename_i xs y _
  split at he
  · rename_i hz
    cases he
    obtain ⟨a, ws, e, ha, lw⟩ := hs.head_own
    cases e
    unfold ValL at l
    obtain ⟨w, r', rfl, qw, l'⟩ := l
    unfold ValL at l'
    subst l'
    exact mt_append pins s σ H _ _ v us Q I rx rv ⟨a, ws, w, rfl, rfl, ha, by rw [← lw.length]; exact hz, q _ _ (hs.write (lw.append (ValL.cons qw ValL.nil))) val_non⟩
  · cases he
theorem m_ext : MtR X "list.extend" (rMu (wd E X) .ext) := by
  intro pins s σ H x vs v us Q I rx rv h
  obtain ⟨F, ts, d, ds, r, hs, l, he, q⟩ := h
  unfold evMut at he
  split at he <;> first | (cases he; done) | (rename_i hm; cases hm; done) | skip
  rename_i xs ys _
  split at he
  · rename_i hz
    cases he
    obtain ⟨a, ws, e, ha, lw⟩ := hs.head_own
    cases e
    unfold ValL at l
    obtain ⟨w, r', rfl, qw, l'⟩ := l
    unfold ValL at l'
    subst l'
    unfold Val at qw
    obtain ⟨b, us', rfl, _, hb, lb⟩ := qw
    exact mt_extend pins s σ H _ _ v us Q I rx rv ⟨a, b, ws, us', rfl, rfl, ha, hb, by rw [← lw.length, ← lb.length]; exact hz, q _ _ (hs.write (lw.append lb)) val_non⟩
  · cases he
theorem m_pop : MtR X "list.pop" (rMu (wd E X) .pop) := by
  intro pins s σ H x vs v us Q I rx rv h
  obtain ⟨F, ts, d, ds, r, hs, l, he, q⟩ := h
  unfold evMut at he
  split at he <;> first | (cases he; done) | (rename_i hm; cases hm; done) | skip
  rename_i xs _
  split at he
  · rename_i y hy
    cases he
    obtain ⟨a, ws, e, ha, lw⟩ := hs.head_own
    cases e
    unfold ValL at l
    subst l
    rw [List.getLast?_eq_getElem?] at hy
    obtain ⟨w, ew, qw⟩ := lw.get hy
    rw [lw.length] at ew
    have pr := hs.writeD (o := .lst ws.dropLast) (d' := .lst xs.dropLast) fun _ pr => by
      unfold OwnD
      exact ⟨a, _, rfl, upd_same, lw.dropLast.mono (fun _ z => z) pr, rfl⟩
    have hs2 := hs.push qw
    have hs3 : Sep (wd E X) H F ((.own (.lst xs), some (.ref a)) :: (.fz y, some w) :: ts) := hs2.perm (List.Perm.swap _ _ _)
    have hs4 := hs3.write lw.dropLast
    have vw := (hs4.perm (List.Perm.swap _ _ _)).val
    obtain ⟨w', e', qw'⟩ := vw
    cases e'
    exact mt_pop pins s σ H _ _ v us Q I rx rv ⟨a, ws, w, rfl, rfl, ha, ew, q _ _ pr qw'⟩
  · cases he
theorem m_rev : MtR X "list.reverse" (rMu (wd E X) .rev) := by
  intro pins s σ H x vs v us Q I rx rv h
  obtain ⟨F, ts, d, ds, r, hs, l, he, q⟩ := h
  unfold evMut at he
  split at he <;> first | (cases he; done) | (rename_i hm; cases hm; done) | skip
  cases he
  obtain ⟨a, ws, e, ha, lw⟩ := hs.head_own
  cases e
  unfold ValL at l
  subst l
  exact mt_reverse pins s σ H _ _ v us Q I rx rv ⟨a, ws, rfl, rfl, ha, q _ _ (hs.write lw.reverse) val_non⟩
theorem m_clr : MtR X "list.clear" (rMu (wd E X) .clr) := by
  intro pins s σ H x vs v us Q I rx rv h
  obtain ⟨F, ts, d, ds, r, hs, l, he, q⟩ := h
  unfold evMut at he
  split at he <;> first | (cases he; done) | (rename_i hm; cases hm; done) | skip
  cases he
  obtain ⟨a, ws, e, ha, lw⟩ := hs.head_own
  cases e
  unfold ValL at l
  subst l
  exact mt_clear pins s σ H _ _ v us Q I rx rv ⟨a, ws, rfl, rfl, ha, q _ _ (hs.write ValL.nil) val_non⟩
theorem m_ins : MtR X "list.insert" (rMu (wd E X) .ins) := by
  intro pins s σ H x vs v us Q I rx rv h
  obtain ⟨F, ts, d, ds, r, hs, l, he, q⟩ := h
  unfold evMut at he
  split at he <;> first | (cases he; done) | (rename_i hm; cases hm; done) | skip
  rename_i xs k y _
  split at he
  · rename_i hz
    split at he
    · rename_i hk
      cases he
      obtain ⟨a, ws, e, ha, lw⟩ := hs.head_own
      cases e
      unfold ValL at l
      obtain ⟨w, r', rfl, qw, l'⟩ := l
      unfold Val at qw
      subst qw
      unfold ValL at l'
      obtain ⟨w2, r2, rfl, qw2, l2⟩ := l'
      unfold ValL at l2
      subst l2
      have hl := line63
      refine mt_insert pins s σ H _ _ v us Q I rx rv ⟨a, ws, k, w2, rfl, rfl, ha, by rw [← lw.length]; exact hz, hk.1, by omega, q _ _ (hs.write ?_) val_non⟩
      rw [List.append_assoc]
      exact (lw.take _).append (ValL.cons qw2 (lw.drop _))
    · cases he
  · cases he
theorem m_popAt : MtR X "list.pop" (rMu (wd E X) .popAt) := by
  intro pins s σ H x vs v us Q I rx rv h
  obtain ⟨F, ts, d, ds, r, hs, l, he, q⟩ := h
  unfold evMut at he
  split at he <;> first | (cases he; done) | (rename_i hm; cases hm; done) | skip
  rename_i xs k _
  split at he
  · rename_i hk
    split at he
    · rename_i y hy
      cases he
      obtain ⟨a, ws, e, ha, lw⟩ := hs.head_own
      cases e
      unfold ValL at l
      obtain ⟨w0, r', rfl, qw0, l'⟩ := l
      unfold Val at qw0
      subst qw0
      unfold ValL at l'
      subst l'
      obtain ⟨w, ew, qw⟩ := lw.get hy
      have le : ValL (wd E X) H F (xs.eraseIdx k.toNat) (ws.eraseIdx k.toNat) := by
        rw [List.eraseIdx_eq_take_drop_succ, List.eraseIdx_eq_take_drop_succ]
        exact (lw.take _).append (lw.drop _)
      have hs2 := hs.push qw
      have hs3 : Sep (wd E X) H F ((.own (.lst xs), some (.ref a)) :: (.fz y, some w) :: ts) := hs2.perm (List.Perm.swap _ _ _)
      have hs4 := hs3.write le
      obtain ⟨w', e', qw'⟩ := (hs4.perm (List.Perm.swap _ _ _)).val
      cases e'
      have hlt := (List.getElem?_eq_some_iff.mp ew).1
      have hl := line63
      have hz := I.hok a _ ha
      refine mt_popAt pins s σ H _ _ v us Q I rx rv ⟨a, ws, k, k.toNat, w, rfl, rfl, ha, by omega, ?_, ?_, ew, q _ _ (hs.write le) qw'⟩
      · have := hz.1; omega
      · exact seqIndex_of hk (by omega)
    · cases he
  · cases he
end
end Bk

/-! B4: when a text of the little language stands for one of the model's. -/
namespace Bk
open PySem PySem.Spec PyProof.Rows L2

/-! ### names -/
/-- the defs' names, the constants, the exceptions' classes (a class of one's own, or a built-in one) -/
structure Nm where
  fns : Nat → Option Str
  ios : Nat → Option (List Nat)
  consts : List (Str × D)
  cls : Nat → Option (Str × Bool)
def isGl (sc : Scope) (x : Str) : Bool := (sc.names.lookup x == some .globalImplicit) && !(x == ("__debug__" : Str))
def isVis (N : List Str) (sc : Scope) (i : Nat) (x : Str) : Bool :=
  decide (N[i]? = some x) && (sc.names.lookup x == some .local || sc.names.lookup x == some .cell || sc.names.lookup x == some .free) && !(x == ("__debug__" : Str)) && !(x == ("__classdict__" : Str))
def isLoc (N : List Str) (sc : Scope) (fnb : Str → Bool) (i : Nat) (x : Str) : Bool :=
  decide (N[i]? = some x) && (sc.names.lookup x == some .local || (sc.names.lookup x == some .cell && fnb x))
def nst : Expr → Bool
  | .Starred _ _ => false
  | _ => true
/-- a plain index -/
def plIx : Expr → Bool
  | .Slice _ _ _ _ => false
  | _ => true
/-- a receiver that is no call -/
def plRc : Expr → Bool
  | .Call _ _ _ _ => false
  | _ => true
def notSet : Expr → Bool
  | .Set _ _ _ => false
  | _ => true
/-- an expression whose test is its value's truth -/
def plT : Expr → Bool
  | .UnaryOp .Not _ _ => false
  | .BoolOp _ _ _ => false
  | .IfExp _ _ _ _ => false
  | .Compare _ _ _ _ => false
  | _ => true

def cmpO : CmpOp → Option Prim
  | .Eq => some .eq | .NotEq => some .ne | .Lt => some .lt | .LtE => some .le | .Gt => some .gt | .GtE => some .ge | .In => some .inn | .NotIn => some .notin
  | _ => none
def binO : Operator → Option Prim
  | .Add => some .add | .Sub => some .sub | .Mult => some .mul | .FloorDiv => some .fdiv | .Mod => some .mod | .Pow => some .pow
  | _ => none
def callN : Prim → Str
  | .len => "len" | .sum => "sum" | .maxl => "max" | .minl => "min" | .max2 => "max" | .min2 => "min" | .tupOf => "tuple" | .lstOf => "list" | .strOf => "str" | .intOf => "int" | .all => "all"
  | _ => ""
def blts : List Str := ["len", "sum", "max", "min", "tuple", "list", "str", "int", "all", "range", "isinstance", "bool", "ValueError", "zip"]
abbrev primEq (a b : Prim) : Bool := match a, b with
  | .add, .add => true | .sub, .sub => true | .mul, .mul => true | .fdiv, .fdiv => true | .mod, .mod => true | .pow, .pow => true
  | .eq, .eq => true | .ne, .ne => true | .lt, .lt => true | .le, .le => true | .gt, .gt => true | .ge, .ge => true | .inn, .inn => true | .notin, .notin => true
  | _, _ => false
theorem primEq_eq {a b : Prim} (h : primEq a b = true) : a = b := by
  cases a <;> cases b <;> first | rfl | exact absurd h Bool.false_ne_true
def constD : Const → Option D
  | .none => some .non
  | .bool b => some (.bl b)
  | .int i => some (.int i)
  | .str s => some (.str s)
  | _ => none
/-- one-word calls of built-ins -/
def isC1 : Prim → Bool
  | .len => true | .sum => true | .maxl => true | .minl => true | .tupOf => true | .lstOf => true | .strOf => true | .intOf => true | .all => true
  | _ => false
def isC2 : Prim → Bool
  | .max2 => true | .min2 => true
  | _ => false
def isDisp : Prim → Bool
  | .tup => true | .lst => true
  | _ => false
def isNoneE : Expr → Bool
  | .Constant .none _ _ => true
  | _ => false

def argsCmp (p : Prim) (x : Expr) (o : CmpOp) (y : Expr) : Option (List Expr) :=
  match p with
  | .isN => match o with | .Is => (if isNoneE y then some [x] else none) | _ => none
  | .notN => match o with | .IsNot => (if isNoneE y then some [x] else none) | _ => none
  | .din => match o with | .In => (if notSet y then some [x, y] else none) | _ => none
  | .dnin => match o with | .NotIn => (if notSet y then some [x, y] else none) | _ => none
  | _ => match cmpO o with | some p' => if primEq p p' && notSet y then some [x, y] else none | none => none
def argsSub (p : Prim) (x y : Expr) : Option (List Expr) :=
  match p with
  | .idx => if plIx y then some [x, y] else none
  | .dget => if plIx y then some [x, y] else none
  | .slc a b => match y with | .Slice lo hi none _ => if lo.isSome == a && hi.isSome == b then some (x :: (lo.toList ++ hi.toList)) else none | _ => none
  | _ => none
def argsCall (sc : Scope) (p : Prim) (f : Str) (es : List Expr) : Option (List Expr) :=
  if isGl sc f then
    match p, es with
    | .isi t, [x, .Name g _] => if decide (f = "isinstance") && decide (g = Str.ofString t.py) && isGl sc g && nst x then some [x] else none
    | .lrg, [.Call (.Name g _) [x] [] _] => if decide (f = "list") && decide (g = "range") && isGl sc g && nst x then some [x] else none
    | p, [x] => if isC1 p && decide (f = callN p) && nst x then some [x] else none
    | p, [x, y] => if isC2 p && decide (f = callN p) && nst x && nst y then some [x, y] else none
    | _, _ => none
  else none
def isP : Prim → Prim → Bool
  | .neg, .neg => true | .tup, .tup => true | .lst, .lst => true | .maxd, .maxd => true
  | _, _ => false
theorem isP_eq {a b : Prim} (h : isP a b = true) : a = b := by
  cases a <;> cases b <;> first | rfl | exact absurd h Bool.false_ne_true
/-- an operation's arguments in the model's text -/
def args? (sc : Scope) (p : Prim) : Expr → Option (List Expr)
  | .BinOp x o y _ => match binO o with | some p' => if primEq p p' then some [x, y] else none | none => none
  | .Compare x [o] [y] _ => argsCmp p x o y
  | .UnaryOp .USub x _ => if isP p .neg then some [x] else none
  | .Subscript x y _ => argsSub p x y
  | .Call (.Name f _) es [] _ => argsCall sc p f es
  | .Call (.Name f _) [x] [⟨some k, y, _⟩] _ => if isP p .maxd && decide (f = "max") && isGl sc f && decide (k = "default") && nst x then some [x, y] else none
  | .Tuple es _ _ => if isP p .tup && es.all nst then some es else none
  | .List es _ => if isP p .lst && es.all nst then some es else none
  | _ => none

def metN : Met → Str
  | .join => "join" | .sidx => "index" | .lidx => "index" | .split => "split" | .words => "split"
def metA : Met → Nat
  | .join => 1 | .sidx => 1 | .lidx => 1 | .split => 1 | .words => 0
def mutN : Mut → Str
  | .app => "append" | .ext => "extend" | .pop => "pop" | .popAt => "pop" | .ins => "insert" | .rev => "reverse" | .clr => "clear"
def mutA : Mut → Nat
  | .app => 1 | .ext => 1 | .pop => 0 | .popAt => 1 | .ins => 2 | .rev => 0 | .clr => 0
section
variable (nm : Nm) (N : List Str) (io : List Nat) (sui : Option Nat)
/-- a place -/
def plE (sc : Scope) (p : Pl) : Expr → Bool
  | .Name x _ => p.f.isNone && isVis N sc p.i x
  | _ => false
def cmTgs (sc : Scope) (fnb : Str → Bool) : List Nat → List Expr → Bool
  | [], [] => true
  | i :: is, .Name x _ :: es => isLoc N sc fnb i x && !io.contains i && cmTgs sc fnb is es
  | _, _ => false
def cmTg (sc : Scope) (fnb : Str → Bool) : Tg → Expr → Bool
  | .v i, .Name x _ => isLoc N sc fnb i x && !io.contains i && decide (sui ≠ some i)
  | .t is, .Tuple es _ _ => sui.isNone && cmTgs N io sc fnb is es
  | _, _ => false
def ownNs : List Nat → List Expr → List (Str × Nat)
  | i :: is, .Name x _ :: es => (x, i) :: ownNs is es
  | _, _ => []
def ownN : Tg → Expr → List (Str × Nat)
  | .v i, .Name x _ => [(x, i)]
  | .t is, .Tuple es _ _ => ownNs is es
  | _, _ => []
/-- which arguments are lent -/
def ioPos : Nat → List P → List Nat
  | _, [] => []
  | n, .io _ :: es => n :: ioPos (n + 1) es
  | n, _ :: es => ioPos (n + 1) es
/-- arguments: of values, of what is looked at (b), of what is lent (l) -/
def cmAll (pl : Pl → Expr → Bool) (f : P → Expr → Bool) (b l : Bool) : List P → List Expr → Bool
  | [], [] => true
  | p :: ps, e :: es => (match p.kd with | .val => f p e | .bor q => b && pl q e | .io q => l && pl q e) && cmAll pl f b l ps es
  | _, _ => false
/-- the arguments of range -/
def argsRng (sc : Scope) : P → Expr → Option (List P × List Expr)
  | .op .rng1 as, .Call (.Name f _) [x] [] _ => if decide (f = "range") && isGl sc f && nst x then some (as, [x]) else none
  | .op .rng2 as, .Call (.Name f _) [x, y] [] _ => if decide (f = "range") && isGl sc f && nst x && nst y then some (as, [x, y]) else none
  | _, _ => none
/-- the arguments of zip -/
def argsZip (sc : Scope) : P → Expr → Option (List P × List Expr)
  | .op .zip2 as, .Call (.Name f _) [x, y] [] _ => if decide (f = "zip") && isGl sc f && nst x && nst y then some (as, [x, y]) else none
  | _, _ => none
def isZip : P → Bool
  | .op .zip2 _ => true
  | _ => false
/-- zip walks into tuples only -/
def zipTg (it : P) : Expr → Bool
  | .Tuple _ _ _ => true
  | _ => !isZip it
/-- an operation that is not done in an except suite -/
def calmP : Prim → Bool
  | .lrg => true | .sum => true | .maxl => true | .maxd => true | .minl => true | .max2 => true | .min2 => true | .all => true
  | _ => false
/-- the ends of a slice are whole numbers -/
def slcOk : Prim → List P → Bool
  | .slc _ _, _ :: as => as.all isEnt
  | .slc _ _, [] => false
  | _, _ => true
/-- an expression that makes a new thing -/
def isNew : P → Bool
  | .op .idx _ => false
  | .op .dget _ => false
  | .op _ _ => true
  | .comp _ _ _ _ => true
  | .dnew _ => true
  | _ => false
inductive Md where | val | tst | itr
/-- m: as a value, as a test, as what is walked -/
def cmP : Nat → Scope → Md → P → Expr → Bool
  | 0, _, _, _, _ => false
  | n + 1, sc, m, p, e => match m, p with
    | .itr, .bor q => plE N sc q e
    | .itr, p => match argsRng sc p e with
      | some (as, es) => cmAll (plE N sc) (cmP n sc .val) true false as es
      | none => match argsZip sc p e with
        | some (as, es) => cmAll (plE N sc) (cmP n sc .val) false false as es
        | none => notSet e && cmP n sc .val p e
    | .tst, .and a c => match e with
      | .BoolOp .And (x :: y :: es) pos => cmP n sc .tst a x && cmP n sc .tst c (if es.isEmpty then y else .BoolOp .And (y :: es) pos)
      | _ => false
    | .tst, .or a c => match e with
      | .BoolOp .Or (x :: y :: es) pos => cmP n sc .tst a x && cmP n sc .tst c (if es.isEmpty then y else .BoolOp .Or (y :: es) pos)
      | _ => false
    | .tst, .not a => match e with
      | .UnaryOp .Not x _ => cmP n sc .tst a x
      | _ => false
    | .tst, .ent _ => false
    | .tst, p => match e with
      | .Compare _ _ _ _ => cmP n sc .val p e
      | _ => plT e && cmP n sc .val p e
    | .val, .bor _ => false
    | .val, .io _ => false
    | .val, .cst d => match e with
      | .Constant c _ _ => match constD c with | some d' => D.beq d d' | none => false
      | .Name x _ => isGl sc x && (match nm.consts.lookup x with | some d' => D.beq d d' | none => false)
      | _ => false
    | .val, .ent p => cmP n sc .val p e
    | .val, .var i => match e with
      | .Name x _ => isVis N sc i x
      | _ => false
    | .val, .op p as => match args? sc p e with
      | some es => !(sui.isSome && calmP p) && slcOk p as && cmAll (plE N sc) (cmP n sc .val) (!isDisp p) false as es
      | none => false
    | .val, .call f as => match e with
      | .Call (.Name x _) es [] _ => sui.isNone && decide (nm.fns f = some x) && decide (nm.ios f = some (ioPos 0 as)) && isGl sc x && es.all nst && cmAll (plE N sc) (cmP n sc .val) false true as es
      | _ => false
    | .val, .callT f l as => match e with
      | .Call (.Name x _) (e0 :: es) [] _ => sui.isNone && decide (nm.fns f = some x) && decide (nm.ios f = some [0]) && isGl sc x && (e0 :: es).all nst && isNew l && cmP n sc .val l e0 && cmAll (plE N sc) (cmP n sc .val) false false as es
      | _ => false
    | .val, .and a c => match e with
      | .BoolOp .And (x :: y :: es) pos => cmP n sc .val a x && cmP n sc .val c (if es.isEmpty then y else .BoolOp .And (y :: es) pos)
      | _ => false
    | .val, .or a c => match e with
      | .BoolOp .Or (x :: y :: es) pos => cmP n sc .val a x && cmP n sc .val c (if es.isEmpty then y else .BoolOp .Or (y :: es) pos)
      | _ => false
    | .val, .not a => match e with
      | .UnaryOp .Not x _ => cmP n sc .val a x
      | _ => false
    | .val, .ite c a b => match e with
      | .IfExp t x y _ => cmP n sc .tst c t && cmP n sc .val a x && cmP n sc .val b y
      | _ => false
    | .val, .chain o o' a c d => match e with
      | .Compare x [q, q'] [y, z] _ => (match cmpO q with | some p' => primEq o p' | none => false) && (match cmpO q' with | some p' => primEq o' p' | none => false) && notSet z && cmP n sc .val a x && cmP n sc .val c y && cmP n sc .val d z
      | _ => false
    | .val, .met m r as => match e with
      | .Call (.Attribute x w ap) es [] pos => decide (w = metN m) && plRc x && es.all nst && (ap.endLine == pos.line) && (match r.kd with | .val => cmP n sc .val r x | .bor q => plE N sc q x | .io _ => false) && cmAll (plE N sc) (cmP n sc .val) true false as es && decide (es.length = metA m)
      | _ => false
    | .val, .mut m q as => match e with
      | .Call (.Attribute x w ap) es [] pos => decide (w = mutN m) && plRc x && es.all nst && (ap.endLine == pos.line) && plE N sc q x && cmAll (plE N sc) (cmP n sc .val) false false as es && decide (es.length = mutA m)
      | _ => false
    | .val, .dnew t => match e with
      | .Dict [] [] _ => t == 0 || t == 1
      | _ => false
    | .val, .comp elt tg it cond => match e with
      | .ListComp e [⟨t, i, ifs, 0⟩] scope _ => sui.isNone && blkC N sc scope (ownN tg t) && cmTg N io sui (relS scope sc) (fun x => scope.names.lookup x == some .cell) tg t && decide ((ownN tg t).map (·.2) = tg.slots) &&
          notSet i && (cmP n sc .itr it i && zipTg it t) && cmP n (relS scope sc) .val elt e && (match cond, ifs with | none, [] => true | some c, [w] => cmP n (relS scope sc) .tst c w | _, _ => false)
      | _ => false
    | .val, .xis i c => match e with
      | .Call (.Name f _) [.Name x _, .Name y _] [] _ => decide (f = "isinstance") && isGl sc f && decide (sui = some i) && isVis N sc i x && isGl sc y && (match nm.cls c with | some (z, _) => decide (z = y) | none => false)
      | _ => false

end
section
variable (nm : Nm) (N : List Str)
/-- no comprehension -/
def noLc : Expr → Bool
  | .ListComp _ _ _ _ => false
  | .SetComp _ _ _ _ => false
  | .DictComp _ _ _ _ _ => false
  | _ => true
/-- a target and a value that are stored plainly (false); or a comprehension that the store takes as it is made (true) -/
def swOk (sc : Scope) (t e : Expr) : Option Bool := match t, e with
  | .Name y py, .ListComp _ _ s pos => if sc.names.lookup y == some .local then (if (py.line == pos.line) && !(s.names.any fun (n, k) => n == y && (k == .local || k == .cell)) then some true else none) else if sc.names.lookup y == some .cell then some false else none
  | .Tuple _ _ _, .Tuple _ _ _ => none
  | .Name _ _, e => if noLc e then some false else none
  | .Tuple _ _ _, e => if noLc e then some false else none
  | _, _ => none
/-- an expression that makes a new container -/
def fresh : P → Bool
  | .op .idx _ => false
  | .op .dget _ => false
  | .op _ _ => true
  | .comp _ _ _ _ => true
  | .dnew _ => true
  | _ => false
def isNm : Tg → Bool
  | .v _ => true
  | _ => false
/-- the except clauses' classes -/
def cmHn (sc : Scope) (c : Nat) : Expr → Bool
  | .Name y _ => isGl sc y && (match nm.cls c with | some (z, _) => decide (z = y) | none => false)
  | _ => false
def cmHs (f : List S → List Stmt → Bool) (sc : Scope) : List Nat → List (List S) → List ExceptHandler → Bool
  | [], [], [] => true
  | c :: cs, h :: hs, .ExceptHandler (some e) none (b :: bs) _ :: es => cmHn nm sc c e && f h (b :: bs) && cmHs f sc cs hs es
  | _, _, _ => false
def cmAllS (f : S → Stmt → Bool) : List S → List Stmt → Bool
  | [], [] => true
  | s :: ss, t :: ts => f s t && cmAllS f ss ts
  | _, _ => false
def isValP (p : P) : Bool := match p.kd with
  | .val => true
  | _ => false
/-- both sides written: which the model stores one by one -/
def parOk (e1 e2 : Expr) : Bool := nst e1 && nst e2 && !([e1, e2].all (foldedForSure 8)) && !([e1, e2].all (constantsAlone 8))
/-- io: slots that stay; sui: within an except suite -/
def cmS : Nat → List Nat → Option Nat → Scope → S → Stmt → Bool
  | 0, _, _, _, _, _ => false
  | n + 1, io, sui, sc, s, t => match s, t with
    | .asg tg p, .Assign [g] e _ => cmTg N io sui sc (fun _ => true) tg g && cmP nm N io sui n sc .val p e && (match swOk sc g e with | some false => true | some true => isNm tg && fresh p | none => false)
    | .own i p, .Assign [.Name x px] e _ => cmTg N io sui sc (fun _ => true) (.v i) (.Name x px) && fresh p && cmP nm N io sui n sc .val p e && (swOk sc (.Name x px) e).isSome
    | .par i j a b, .Assign [.Tuple [.Name x px, .Name y py] _ _] (.Tuple [e1, e2] _ _) _ => sui.isNone && decide (N[i]? = some x) && decide (N[j]? = some y) && (sc.names.lookup x == some .local) && (sc.names.lookup y == some .local) && decide (i ≠ j) && !io.contains i && !io.contains j &&
        (px.line == py.line) && parOk e1 e2 && isValP a && isValP b && cmP nm N io sui n sc .val a e1 && cmP nm N io sui n sc .val b e2
    | .set q k v, .Assign [.Subscript x y _] e _ => plE N sc q x && plIx y && cmP nm N io sui n sc .val k y && cmP nm N io sui n sc .val v e && noLc e
    | .drop p, .Expr e _ => cmP nm N io sui n sc .val p e && noLc e
    | .ifs c a b, .If t x y _ => cmP nm N io sui n sc .tst c t && cmAllS (cmS n io sui sc) a x && cmAllS (cmS n io sui sc) b y
    | .for tg it b, .For t i x [] _ => sui.isNone && cmTg N io sui sc (fun _ => true) tg t && (cmP nm N io sui n sc .itr it i && zipTg it t) && notSet i &&
        (match it.kd with | .bor q => (tg.slots.all fun j => decide (j ≠ q.i)) && cmAllS (cmS n (q.i :: io) sui sc) b x | .val => cmAllS (cmS n io sui sc) b x | .io _ => false)
    | .whl _ c b, .While t x [] _ => cmP nm N io sui n sc .tst c t && cmAllS (cmS n io sui sc) b x
    | .ret p, .Return (some e) _ => cmP nm N io sui n sc .val p e
    | .retN, .Return none _ => true
    | .brk, .Break _ => true
    | .cont, .Continue _ => true
    | .pas, .Pass _ => true
    | .rai c, .Raise (some (.Call (.Name x _) [.Constant (.str _) _ _] [] _)) none _ => sui.isNone && isGl sc x && decide (nm.cls c = some (x, true))
    | .trA b c i h, .Try x [.ExceptHandler (some e) (some y) (h₀ :: hs) _] [] [] _ => sui.isNone && cmAllS (cmS n io sui sc) b x && cmHn nm sc c e && decide (N[i]? = some y) && (sc.names.lookup y == some .local) && !io.contains i && cmAllS (cmS n io (some i) sc) h (h₀ :: hs)
    | .trM b cs hs, .Try x (e :: es) [] [] _ => sui.isNone && cmAllS (cmS n io sui sc) b x && cmHs nm (cmAllS (cmS n io (some N.length) sc)) sc cs hs (e :: es)
    | _, _ => false
end
end Bk

/-! B5: the readings of expressions. -/
namespace Bk
open PySem PySem.Spec PyProof.Rows L2

section
variable {K : Wd} {H : Hp} {F : Addr → Prop}
theorem Sep.skip {A ex rest : Things} (h : Sep K H F (A ++ (ex ++ rest))) : Sep K H F (A ++ rest) := by
  have p : (A ++ (ex ++ rest)).Perm (ex ++ (A ++ rest)) := by
    rw [← List.append_assoc, ← List.append_assoc]
    exact List.perm_append_comm.append_right rest
  exact (h.perm p).right
theorem PQ.skip {o : Bool} {A ex rest : Things} {d : D} {Q : VK} (h : PQ o K (A ++ rest) d Q) : PQ o K (A ++ (ex ++ rest)) d Q := by
  unfold PQ at h ⊢
  split
  · rename_i c
    rw [if_pos c] at h
    exact fun v H F s => h v H F (Sep.skip (A := (.own d, some v) :: A) s)
  · rename_i c
    rw [if_neg c] at h
    exact fun v H F s q => h v H F s.skip q
theorem PQ.weaken {d : D} {ts : Things} {Q : VK} {o : Bool} (h : PQ false K ts d Q) : PQ o K ts d Q := by
  unfold PQ
  split
  · intro v H F s
    obtain ⟨F', w, e, _, s', q⟩ := s.freeze
    cases e
    exact h _ _ _ s' q
  · exact h
theorem PQ.mono {o : Bool} {ts : Things} {d : D} {Q Q' : VK} (h : PQ o K ts d Q) (q : ∀ v H, Q v H → Q' v H) : PQ o K ts d Q' := by
  unfold PQ at h ⊢
  split
  · rename_i c
    rw [if_pos c] at h
    exact fun v H F s => q _ _ (h v H F s)
  · rename_i c
    rw [if_neg c] at h
    exact fun v H F s z => q _ _ (h v H F s z)
end

/-! ### the slots' number stays -/
def Ev.All {α : Type} (p : Rho → Prop) : Ev α → Prop
  | .ok _ ρ => p ρ
  | .exc _ ρ => p ρ
  | .stuck => True
theorem Ev.All.bind {α β : Type} {p q : Rho → Prop} {r : Ev α} {k : α → Rho → Ev β} (h : r.All p) (hk : ∀ a ρ, p ρ → (k a ρ).All q) (hx : ∀ ρ, p ρ → q ρ) : (r.bind k).All q := by
  cases r with
  | ok a ρ => exact hk a ρ h
  | exc c ρ => exact hx ρ h
  | stuck => trivial
theorem Ev.All.at {α : Type} {p : Rho → Prop} {r : R α} {ρ : Rho} (h : p ρ) : (r.at ρ).All p := by
  cases r with
  | ok a => exact h
  | stuck => trivial
theorem Ev.All.noX {α : Type} {p : Rho → Prop} {r : Ev α} (h : r.All p) : r.noX.All p := by
  cases r with
  | ok a ρ => exact h
  | exc c ρ => trivial
  | stuck => trivial
theorem setL_length : ∀ {is : List Nat} {ds : List D} {ρ ρ' : Rho}, setL is ds ρ = .ok ρ' → ρ'.length = ρ.length
  | [], [], _, _, e => by cases e; rfl
  | [], _ :: _, _, _, e => by cases e
  | _ :: _, [], _, _, e => by cases e
  | i :: is, d :: ds, ρ, ρ', e => by
    rw [setL_length (is := is) (ds := ds) e, List.length_set]
theorem setT_length {tg : Tg} {d : D} {ρ ρ' : Rho} (e : setT tg d ρ = .ok ρ') : ρ'.length = ρ.length := by
  cases tg with
  | v i => cases e; rw [List.length_set]
  | t is =>
    cases d with
    | tup xs => exact setL_length e
    | _ => cases e
theorem wipeR_len (ρ : Rho) : ∀ vs, (wipeR ρ vs).length = ρ.length
  | [] => rfl
  | v :: vs => by unfold wipeR; rw [List.length_set, wipeR_len ρ vs]
theorem backR_len (ρ₀ ρ : Rho) : ∀ vs, (backR ρ₀ ρ vs).length = ρ.length
  | [] => rfl
  | v :: vs => by unfold backR; rw [List.length_set, backR_len ρ₀ ρ vs]
theorem Pl.take_length {p : Pl} {ρ ρ' : Rho} {d : D} (h : p.take ρ = .ok (d, ρ')) : ρ'.length = ρ.length := by
  unfold Pl.take at h
  split at h
  · cases h; rw [List.length_set]
  · cases h
theorem Pl.put_length {p : Pl} {ρ ρ' : Rho} {d : D} (h : p.put ρ d = .ok ρ') : ρ'.length = ρ.length := by
  unfold Pl.put at h
  split at h
  · cases h; rw [List.length_set]
  · cases h
theorem putBack_length : ∀ {es : List P} {ds : List D} {ρ ρ' : Rho}, putBack es ds ρ = .ok ρ' → ρ'.length = ρ.length
  | [], [], _, _, h => by cases h; rfl
  | [], _ :: _, _, _, h => by cases h
  | e :: es, ds, ρ, ρ', h => by
    cases e with
    | io p =>
      cases ds with
      | nil => cases h
      | cons d ds =>
        obtain ⟨ρ1, e1, e2⟩ := bind_ok' (show (putBack es ds ρ).bind (fun ρ => p.put ρ d) = .ok ρ' from h)
        rw [Pl.put_length e2, putBack_length e1]
    | _ => exact putBack_length (es := es) (ds := ds) (by cases ds <;> exact h)
theorem callE_len {es : List P} {ρ : Rho} {r : Rs} : (callE es ρ r).All (·.length = ρ.length) := by
  cases r with
  | ok d os =>
    cases h : putBack es os ρ with
    | ok ρ' =>
      simp only [callE, h, R.at_ok, Ev.bind_ok]
      exact putBack_length h
    | stuck =>
      simp only [callE, h, R.at_stuck, Ev.bind_stuck]
      trivial
  | exc c os =>
    cases h : putBack es os ρ with
    | ok ρ' =>
      simp only [callE, h, R.at_ok, Ev.bind_ok]
      exact putBack_length h
    | stuck =>
      simp only [callE, h, R.at_stuck, Ev.bind_stuck]
      trivial
  | stuck => trivial
theorem readV_len {ρ : Rho} {i : Nat} : (readV ρ i).All (·.length = ρ.length) := by
  unfold readV
  split <;> first | trivial | rfl | exact List.length_set
theorem lendI_len {ρ ρ' : Rho} {it : P} {l : Option (Pl × D)} (h : lendI ρ it = .ok (l, ρ')) : ρ'.length = ρ.length := by
  unfold lendI at h
  split at h
  · split at h
    · rename_i e; cases h; exact Pl.take_length e
    · cases h; rfl
  · cases h; rfl
theorem backI_len {ρ ρ' : Rho} {l : Option (Pl × D)} (h : backI ρ l = .ok ρ') : ρ'.length = ρ.length := by
  unfold backI at h
  split at h
  · exact Pl.put_length h
  · cases h; rfl
theorem compL_len {f : D → Rho → Ev (Option D)} {n : Nat} (hf : ∀ d ρ, ρ.length = n → (f d ρ).All (·.length = n)) : ∀ {xs : List D} {ρ : Rho}, ρ.length = n → (compL f xs ρ).All (·.length = n)
  | [], ρ, h => h
  | x :: xs, ρ, h => by
    unfold compL
    refine (hf x ρ h).bind (fun o ρ1 h1 => ?_) fun _ z => z
    exact (compL_len hf (xs := xs) h1).bind (fun r ρ2 h2 => h2) fun _ z => z
theorem callTR_len {r : Rs} {ρ : Rho} : (callTR r ρ).All (·.length = ρ.length) := by
  unfold callTR
  split <;> first | trivial | rfl
mutual
theorem evP_len (q : En) : ∀ (e : P) (ρ : Rho), (evP q e ρ).All (·.length = ρ.length)
  | .cst d, ρ => by unfold evP; exact rfl
  | .var i, ρ => by unfold evP; exact readV_len
  | .bor p, ρ => by unfold evP; exact .at rfl
  | .io p, ρ => by unfold evP; trivial
  | .op p as, ρ => by
    unfold evP
    exact (evAs_len q as ρ).bind (fun ds ρ' h => .at h) fun _ z => z
  | .call f as, ρ => by
    unfold evP
    refine (evAs_len q as ρ).bind (fun ds ρ' h => ?_) fun _ z => z
    rw [← h]; exact callE_len
  | .callT f l as, ρ => by
    unfold evP
    refine (evP_len q l ρ).bind (fun d ρ1 h1 => ?_) fun _ z => z
    split
    · have ha := evAs_len q as ρ1
      rw [h1] at ha
      refine ha.bind (fun es ρ2 h2 => ?_) fun _ z => z
      rw [← h2]; exact callTR_len
    · trivial
  | .and a b, ρ => by
    unfold evP
    refine (evP_len q a ρ).bind (fun x ρ1 h1 => ?_) fun _ z => z
    refine Ev.All.bind (.at h1) (fun k ρ2 h2 => ?_) fun _ z => z
    split
    · rw [← h2]
      exact (evP_len q b ρ2).bind (fun y ρ3 h3 => Ev.All.bind (.at h3) (fun k ρ4 h4 => h4) fun _ z => z) fun _ z => z
    · exact h2
  | .or a b, ρ => by
    unfold evP
    refine (evP_len q a ρ).bind (fun x ρ1 h1 => ?_) fun _ z => z
    refine Ev.All.bind (.at h1) (fun k ρ2 h2 => ?_) fun _ z => z
    split
    · exact h2
    · rw [← h2]
      exact (evP_len q b ρ2).bind (fun y ρ3 h3 => Ev.All.bind (.at h3) (fun k ρ4 h4 => h4) fun _ z => z) fun _ z => z
  | .not a, ρ => by
    unfold evP
    refine (evP_len q a ρ).bind (fun x ρ1 h1 => ?_) fun _ z => z
    exact Ev.All.bind (.at h1) (fun k ρ2 h2 => h2) fun _ z => z
  | .ent a, ρ => by
    unfold evP
    refine (evP_len q a ρ).bind (fun x ρ1 h1 => ?_) fun _ z => z
    exact Ev.All.bind (.at h1) (fun k ρ2 h2 => h2) fun _ z => z
  | .ite c a b, ρ => by
    unfold evP
    refine (evP_len q c ρ).bind (fun x ρ1 h1 => ?_) fun _ z => z
    refine Ev.All.bind (.at h1) (fun k ρ2 h2 => ?_) fun _ z => z
    split
    · rw [← h2]; exact evP_len q a ρ2
    · rw [← h2]; exact evP_len q b ρ2
  | .chain o o' a b c, ρ => by
    unfold evP
    refine (evP_len q a ρ).bind (fun x ρ1 h1 => ?_) fun _ z => z
    have hb := evP_len q b ρ1
    rw [h1] at hb
    refine hb.bind (fun y ρ2 h2 => ?_) fun _ z => z
    refine Ev.All.bind (.at h2) (fun z ρ3 h3 => ?_) fun _ z => z
    refine Ev.All.bind (.at h3) (fun k ρ4 h4 => ?_) fun _ z => z
    split
    · rw [← h4]
      refine (evP_len q c ρ4).bind (fun w ρ5 h5 => ?_) fun _ z => z
      refine Ev.All.bind (.at h5) (fun z ρ6 h6 => ?_) fun _ z => z
      exact Ev.All.bind (.at h6) (fun k ρ7 h7 => h7) fun _ z => z
    · exact h4
  | .met m r as, ρ => by
    unfold evP
    split
    · refine Ev.All.bind (p := (·.length = ρ.length)) (.at rfl) (fun x ρ1 h1 => ?_) fun _ z => z
      split
      · rw [← h1]
        refine (evAs_len q as ρ1).bind (fun ds ρ' h => ?_) fun _ z => z
        exact Ev.All.bind (p := (·.length = ρ1.length)) (.at h) (fun x ρ2 h2 => .at h2) fun _ z => z
      · trivial
    · refine (evP_len q r ρ).bind (fun x ρ1 h1 => ?_) fun _ z => z
      split
      · rw [← h1]
        exact (evAs_len q as ρ1).bind (fun ds ρ' h => .at h) fun _ z => z
      · trivial
  | .mut m p as, ρ => by
    unfold evP
    refine Ev.All.bind (p := (·.length = ρ.length)) (.at rfl) (fun x ρ0 h0 => ?_) fun _ z => z
    split
    · rw [← h0]
      refine (evAs_len q as ρ0).bind (fun ds ρ1 h1 => ?_) fun _ z => z
      cases ht : p.take ρ1 with
      | stuck => trivial
      | ok dr =>
        simp only [R.at_ok, Ev.bind_ok]
        cases hm : evMut m dr.1 ds with
        | stuck => trivial
        | ok r =>
          simp only [R.at_ok, Ev.bind_ok]
          cases hp : p.put dr.2 r.2 with
          | stuck => trivial
          | ok ρ2 =>
            have := Pl.put_length hp
            have h2 := Pl.take_length (d := dr.1) (ρ' := dr.2) ht
            show ρ2.length = ρ0.length
            omega
    · trivial
  | .dnew t, ρ => by unfold evP; exact rfl
  | .comp elt tg it none, ρ => by
    unfold evP
    refine (evP_len q it ρ).bind (fun x ρ1 h1 => ?_) fun _ z => z
    refine Ev.All.bind (.at h1) (fun xs ρ2 h2 => ?_) fun _ z => z
    cases hl : lendI ρ2 it with
    | stuck => trivial
    | ok l =>
      obtain ⟨l, ρl⟩ := l
      have h3 := lendI_len hl
      simp only [R.at_ok, Ev.bind_ok]
      have hc := compL_len (n := ρ.length) (f := fun y ρ => ((setT tg y ρ).at ρ).bind fun ρ _ => (evP q elt ρ).noX.bind fun z ρ => .ok (some z) (wipeR ρ tg.slots)) (fun d ρ0 h0 => by
        cases hs : setT tg d ρ0 with
        | stuck => trivial
        | ok ρs =>
          simp only [R.at_ok, Ev.bind_ok]
          have e1 : ρs.length = ρ.length := by rw [setT_length hs]; exact h0
          refine Ev.All.bind (evP_len q elt ρs).noX (fun z ρ5 h5 => ?_) fun ρ5 h5 => by rw [h5]; exact e1
          show (wipeR ρ5 tg.slots).length = _
          rw [wipeR_len, h5]; exact e1) (xs := xs) (ρ := wipeR ρl tg.slots) (by rw [wipeR_len]; omega)
      refine hc.bind (fun r ρ4 h4 => ?_) fun _ z => z
      cases hb : backI (backR ρl ρ4 tg.slots) l with
      | stuck => trivial
      | ok ρ5 =>
        simp only [R.at_ok, Ev.bind_ok]
        refine .at ?_
        rw [backI_len hb, backR_len, h4]
  | .comp elt tg it (some c), ρ => by
    unfold evP
    refine (evP_len q it ρ).bind (fun x ρ1 h1 => ?_) fun _ z => z
    refine Ev.All.bind (.at h1) (fun xs ρ2 h2 => ?_) fun _ z => z
    cases hl : lendI ρ2 it with
    | stuck => trivial
    | ok l =>
      obtain ⟨l, ρl⟩ := l
      have h3 := lendI_len hl
      simp only [R.at_ok, Ev.bind_ok]
      have hc := compL_len (n := ρ.length) (f := fun y ρ => ((setT tg y ρ).at ρ).bind fun ρ _ => (evP q c ρ).noX.bind fun z ρ => ((asB z).at ρ).bind fun k ρ =>
        if k then (evP q elt ρ).noX.bind fun z ρ => .ok (some z) (wipeR ρ tg.slots) else .ok none (wipeR ρ tg.slots)) (fun d ρ0 h0 => by
        cases hs : setT tg d ρ0 with
        | stuck => trivial
        | ok ρs =>
          simp only [R.at_ok, Ev.bind_ok]
          have e1 : ρs.length = ρ.length := by rw [setT_length hs]; exact h0
          refine Ev.All.bind (evP_len q c ρs).noX (fun z ρ5 h5 => ?_) fun ρ5 h5 => by rw [h5]; exact e1
          rw [e1] at h5
          refine Ev.All.bind (.at h5) (fun k ρ6 h6 => ?_) fun _ z => z
          split
          · have he := evP_len q elt ρ6
            rw [h6] at he
            refine Ev.All.bind he.noX (fun z ρ7 h7 => ?_) fun _ z => z
            show (wipeR ρ7 tg.slots).length = _
            rw [wipeR_len, h7]
          · show (wipeR ρ6 tg.slots).length = _
            rw [wipeR_len, h6]) (xs := xs) (ρ := wipeR ρl tg.slots) (by rw [wipeR_len]; omega)
      refine hc.bind (fun r ρ4 h4 => ?_) fun _ z => z
      cases hb : backI (backR ρl ρ4 tg.slots) l with
      | stuck => trivial
      | ok ρ5 =>
        simp only [R.at_ok, Ev.bind_ok]
        refine .at ?_
        rw [backI_len hb, backR_len, h4]
  | .xis i c, ρ => by unfold evP; exact .at rfl
theorem evAs_len (q : En) : ∀ (es : List P) (ρ : Rho), (evAs q es ρ).All (·.length = ρ.length)
  | [], ρ => by unfold evAs; exact rfl
  | e :: es, ρ => by
    unfold evAs
    split
    · refine (evP_len q e ρ).bind (fun d ρ1 h1 => ?_) fun _ z => z
      rw [← h1]
      exact (evAs_len q es ρ1).bind (fun ds ρ2 h2 => h2) fun _ z => z
    · split
      · refine (evAs_len q es ρ).bind (fun ds ρ1 h1 => ?_) fun _ z => z
        exact Ev.All.bind (.at h1) (fun d ρ2 h2 => h2) fun _ z => z
      · trivial
    · split
      · refine (evAs_len q es ρ).bind (fun ds ρ1 h1 => ?_) fun _ z => z
        rename_i p _ _
        cases ht : p.take ρ1 with
        | stuck => trivial
        | ok dr =>
          simp only [R.at_ok, Ev.bind_ok]
          show dr.2.length = _
          rw [Pl.take_length (d := dr.1) (ρ' := dr.2) ht, h1]
      · trivial
end
theorem evP_ok_len {q : En} {e : P} {ρ ρ' : Rho} {d : D} (h : evP q e ρ = .ok d ρ') : ρ'.length = ρ.length := by
  have := evP_len q e ρ
  rw [h] at this
  exact this
theorem evAs_ok_len {q : En} {e : List P} {ρ ρ' : Rho} {d : List D} (h : evAs q e ρ = .ok d ρ') : ρ'.length = ρ.length := by
  have := evAs_len q e ρ
  rw [h] at this
  exact this

/-! ### the readings -/
/-- where one stands: the names, the slots that stay, the world, what one runs under, what is wished of an exception -/
structure Cn where
  N : List Str
  fx : List (Nat × V)
  K : Wd
  q : En
  W : WX
structure Ln (C : Cn) (ρ : Rho) (σ : L2.St) : Prop where
  r : ρ.length = C.N.length
  s : σ.length = C.N.length
  f : ∀ p ∈ C.fx, σ[p.1]? = some (some p.2)
theorem Ln.to {C : Cn} {ρ ρ' : Rho} {σ : L2.St} (l : Ln C ρ σ) (h : ρ'.length = ρ.length) : Ln C ρ' σ := ⟨by rw [h]; exact l.r, l.s, l.f⟩
/-- what is wanted where the c-th exception is raised -/
def XQ (C : Cn) (rest : Things) (σ : L2.St) (c : Nat) (ρ : Rho) : Prop := ∀ H F, Ln C ρ σ → Sep C.K H F (zp ρ σ ++ rest) → C.W (C.K.xc c) none σ H
/-- what is wanted of an expression's end -/
def EQ {α : Type} (C : Cn) (rest : Things) (σ : L2.St) (r : Ev α) (f : α → Rho → Prop) : Prop := match r with
  | .ok a ρ => f a ρ
  | .exc c ρ => XQ C rest σ c ρ
  | .stuck => False
/-- the things that are handed on -/
def AT : List P → List D → List V → Things
  | e :: es, d :: ds, v :: vs => (match e.kd with | .val => [(.fz d, some v)] | .bor _ => [] | .io _ => [(.own d, some v)]) ++ AT es ds vs
  | _, _, _ => []
def Lay (K : Wd) (H : Hp) (F : Addr → Prop) (σ : L2.St) : List P → List D → List V → Prop
  | [], [], [] => True
  | e :: es, d :: ds, v :: vs => (match e.kd with | .val => True | .bor _ => Bor K H F d v | .io p => σ[p.i]? = some (some v)) ∧ Lay K H F σ es ds vs
  | _, _, _ => False
def tPl (p : Pl) : TE := fun σ H Q => ∃ v, σ[p.i]? = some (some v) ∧ Q v H
section
variable (C : Cn)
def TV (o : Bool) (e : P) : TE := fun σ H Q => ∃ ρ F rest, Ln C ρ σ ∧ Sep C.K H F (zp ρ σ ++ rest) ∧ EQ C rest σ (evP C.q e ρ) fun d ρ' => PQ o C.K (zp ρ' σ ++ rest) d Q
/-- an argument's reading -/
def tA (e : P) : TE := match e.kd with
  | .val => TV C false e
  | .bor p => tPl p
  | .io p => tPl p
def TAs (es : List P) : TA := fun σ H Q => ∃ ρ F rest, Ln C ρ σ ∧ Sep C.K H F (zp ρ σ ++ rest) ∧ EQ C rest σ (evAs C.q es ρ) fun ds ρ' =>
  ∀ vs H' F', Sep C.K H' F' (AT es ds vs ++ (zp ρ' σ ++ rest)) → Lay C.K H' F' σ es ds vs → Q vs H'
def TT' (e : P) : TT := fun σ H Q => ∃ ρ F rest, Ln C ρ σ ∧ Sep C.K H F (zp ρ σ ++ rest) ∧ EQ C rest σ ((evP C.q e ρ).bind fun d ρ => (asB d).at ρ) fun k ρ' => ∀ H' F', Sep C.K H' F' (zp ρ' σ ++ rest) → Q k H'
end
/-- a walk: as long as the things needed are there, the turns' items are these -/
def Walks (K : Wd) (J : It) (need : Things) (xs : List D) : Prop := ∀ i H F ts, Sep K H F ts → (∀ t ∈ need, t ∈ ts) →
  (∀ d, xs[i]? = some d → J.go i H ∧ ∀ x H', J.yld i H x H' → ∃ F', Sep K H' F' ts ∧ Val K H' F' d x) ∧ (xs.length = i → J.stop i H)
def LT (l : Option (Pl × D)) (σ : L2.St) : Things := match l with
  | some (p, d) => [(.own d, (σ[p.i]?).getD none)]
  | none => []
def evI (q : En) (e : P) (ρ : Rho) : Ev (List D × Option (Pl × D)) := (evP q e ρ).bind fun x ρ => ((itemsOf x).at ρ).bind fun xs ρ => ((lendI ρ e).at ρ).bind fun l _ => .ok (xs, l.1) l.2
/-- what is walked: the items; what is lent for it stands among the things -/
def TI' (C : Cn) (e : P) : TI := fun σ H R => ∃ ρ F rest, Ln C ρ σ ∧ Sep C.K H F (zp ρ σ ++ rest) ∧ EQ C rest σ (evI C.q e ρ) fun xl ρ' =>
  ∀ J H' F' ex, Sep C.K H' F' (LT xl.2 σ ++ (ex ++ (zp ρ' σ ++ rest))) → Walks C.K J (LT xl.2 σ ++ ex) xl.1 → R J H'

section
variable {C : Cn} {σ : L2.St} {H : Hp}
theorem XQ.skip {A : Things} {rest ex : Things} {c : Nat} {ρ : Rho} (h : XQ C rest σ c ρ) : XQ C (ex ++ rest) σ c ρ := fun H F l s => h H F l s.skip
theorem EQ.imp {α : Type} {rest : Things} {r : Ev α} {f g : α → Rho → Prop} (h : EQ C rest σ r f) (fg : ∀ a ρ, r = .ok a ρ → f a ρ → g a ρ) : EQ C rest σ r g := by
  cases r with
  | ok a ρ => exact fg a ρ rfl h
  | exc c ρ => exact h
  | stuck => exact h
theorem EQ.skip {α : Type} {ex rest : Things} {r : Ev α} {f g : α → Rho → Prop} (h : EQ C rest σ r f) (fg : ∀ a ρ, r = .ok a ρ → f a ρ → g a ρ) : EQ C (ex ++ rest) σ r g := by
  cases r with
  | ok a ρ => exact fg a ρ rfl h
  | exc c ρ => exact fun H F l s => h H F l s.skip
  | stuck => exact h
theorem EQ.bind {α β : Type} {rest : Things} {r : Ev α} {k : α → Rho → Ev β} {f : β → Rho → Prop} : EQ C rest σ (r.bind k) f ↔ EQ C rest σ r fun a ρ => EQ C rest σ (k a ρ) f := by
  cases r <;> exact Iff.rfl
theorem EQ.at {α : Type} {rest : Things} {r : R α} {ρ : Rho} {f : α → Rho → Prop} (h : EQ C rest σ (r.at ρ) f) : ∃ a, r = .ok a ∧ f a ρ := by
  cases r with
  | ok a => exact ⟨a, rfl, h⟩
  | stuck => exact h.elim
theorem EQ.atI {α : Type} {rest : Things} {r : R α} {a : α} {ρ : Rho} {f : α → Rho → Prop} (e : r = .ok a) (h : f a ρ) : EQ C rest σ (r.at ρ) f := by
  subst e; exact h
theorem tAV {e : P} (h : e.kd = .val) : tA C e = TV C false e := by unfold tA; rw [h]
theorem evAs_val {q : En} {e : P} {es : List P} {ρ : Rho} (h : e.kd = .val) : evAs q (e :: es) ρ = (evP q e ρ).bind fun d ρ => (evAs q es ρ).bind fun ds ρ => .ok (d :: ds) ρ := by
  rw [evAs, h]
theorem evAs_bor {q : En} {p : Pl} {es : List P} {ρ : Rho} : evAs q (.bor p :: es) ρ = if p.bound ρ then (evAs q es ρ).bind fun ds ρ => ((p.look ρ).at ρ).bind fun d ρ => .ok (d :: ds) ρ else .stuck := by
  rw [evAs]; rfl
theorem evAs_io {q : En} {p : Pl} {es : List P} {ρ : Rho} : evAs q (.io p :: es) ρ = if p.bound ρ then (evAs q es ρ).bind fun ds ρ => ((p.take ρ).at ρ).bind fun dr _ => .ok (dr.1 :: ds) dr.2 else .stuck := by
  rw [evAs]; rfl
theorem kd_bor {e : P} {p : Pl} (h : e.kd = .bor p) : e = .bor p := by
  cases e <;> simp only [P.kd, reduceCtorEq, Kd.bor.injEq] at h
  subst h; rfl
theorem kd_io {e : P} {p : Pl} (h : e.kd = .io p) : e = .io p := by
  cases e <;> simp only [P.kd, reduceCtorEq, Kd.io.injEq] at h
  subst h; rfl

/-- what stands at a place -/
theorem Pl.bound_at {K : Wd} {F : Addr → Prop} {p : Pl} {ρ : Rho} {rest : Things} (hb : p.bound ρ = true) (l : Ln C ρ σ) (s : Sep K H F (zp ρ σ ++ rest)) : ∃ v, σ[p.i]? = some (some v) := by
  unfold Pl.bound at hb
  split at hb
  · rename_i d _ hd
    have hi := (List.getElem?_eq_some_iff.mp hd).1
    have hσ : p.i < σ.length := by rw [l.s, ← l.r]; exact hi
    obtain ⟨v, e, _⟩ := s.mem_val (List.mem_append_left _ (zp_mem hd (List.getElem?_eq_getElem hσ)))
    exact ⟨v, by rw [List.getElem?_eq_getElem hσ, e]⟩
  · rename_i d _ hd
    have hi := (List.getElem?_eq_some_iff.mp hd).1
    have hσ : p.i < σ.length := by rw [l.s, ← l.r]; exact hi
    obtain ⟨v, e, _⟩ := s.mem_own (List.mem_append_left _ (zp_mem hd (List.getElem?_eq_getElem hσ)))
    exact ⟨v, by rw [List.getElem?_eq_getElem hσ, e]⟩
  · cases hb
theorem Pl.look_at {K : Wd} {F : Addr → Prop} {p : Pl} {ρ : Rho} {A rest : Things} {d : D} {v : V} (h : p.look ρ = .ok d) (hv : σ[p.i]? = some (some v)) (s : Sep K H F (A ++ (zp ρ σ ++ rest))) : Bor K H F d v := by
  have s := s.right
  unfold Pl.look at h
  split at h
  · rename_i d' _ hd
    cases h
    obtain ⟨w, e, q⟩ := s.mem_val (List.mem_append_left _ (zp_mem hd hv))
    cases e
    exact q.bor
  · rename_i d' _ hd
    cases h
    obtain ⟨w, e, q⟩ := s.mem_own (List.mem_append_left _ (zp_mem hd hv))
    cases e
    exact q
  · cases h
theorem Pl.take_sep {K : Wd} {F : Addr → Prop} {p : Pl} {ρ ρ' : Rho} {A rest : Things} {d : D} {o : Option V} (h : p.take ρ = .ok (d, ρ')) (hv : σ[p.i]? = some o) (s : Sep K H F (A ++ (zp ρ σ ++ rest))) : Sep K H F ((.own d, o) :: (A ++ (zp ρ' σ ++ rest))) := by
  unfold Pl.take at h
  split at h
  · rename_i d' _ hd
    cases h
    have hz : (zp ρ σ)[p.i]? = some (.own d, o) := by rw [List.getElem?_zip_eq_some]; exact ⟨hd, hv⟩
    have hi : p.i < (zp ρ σ).length := (List.getElem?_eq_some_iff.mp hz).1
    have s1 : Sep K H F (zp ρ σ ++ (A ++ rest)) := s.perm (by
      rw [← List.append_assoc, ← List.append_assoc]; exact List.perm_append_comm.append_right rest)
    have s2 := s1.take hz
    have s3 : Sep K H F ((.un, o) :: (.own d, o) :: ((zp ρ σ).eraseIdx p.i ++ (A ++ rest))) := by
      obtain ⟨t, fp, b, c, e⟩ := s2
      refine ⟨t, fp, ?_, c, e⟩
      unfold SepL
      exact ⟨[], fp, rfl, by unfold Own; rfl, b⟩
    have s4 : Sep K H F ((.un, o) :: ((zp ρ σ).eraseIdx p.i ++ ((.own d, o) :: (A ++ rest)))) := s3.perm (List.Perm.cons _ List.perm_middle.symm)
    have s5 := s4.put hi
    have e : zp (ρ.set p.i .un) σ = (zp ρ σ).set p.i (.un, o) := by
      have hσ : σ.set p.i o = σ := by
        apply List.ext_getElem?
        intro j
        by_cases hj : p.i = j
        · subst hj
          rw [hv, List.getElem?_set_self (List.getElem?_eq_some_iff.mp hv).1]
        · rw [List.getElem?_set_ne hj]
      rw [← zp_set, hσ]
    rw [← e] at s5
    refine s5.perm ?_
    refine List.perm_middle.trans (List.Perm.cons _ ?_)
    rw [← List.append_assoc, ← List.append_assoc]; exact List.perm_append_comm.append_right rest
  · cases h
theorem Pl.put_sep {K : Wd} {F : Addr → Prop} {p : Pl} {ρ ρ' : Rho} {A rest : Things} {d : D} {o : Option V} (h : p.put ρ d = .ok ρ') (l : Ln C ρ σ) (hv : σ[p.i]? = some o) (s : Sep K H F ((.own d, o) :: (A ++ (zp ρ σ ++ rest)))) : Sep K H F (A ++ (zp ρ' σ ++ rest)) := by
  unfold Pl.put at h
  split at h
  · cases h
    have hi := (List.getElem?_eq_some_iff.mp hv).1
    have hσ : σ.set p.i o = σ := by
      apply List.ext_getElem?
      intro j
      by_cases hj : p.i = j
      · subst hj
        rw [hv, List.getElem?_set_self hi]
      · rw [List.getElem?_set_ne hj]
    have s1 : Sep K H F ((.own d, o) :: (zp ρ σ ++ (A ++ rest))) := s.perm (List.Perm.cons _ (by
      rw [← List.append_assoc, ← List.append_assoc]; exact List.perm_append_comm.append_right rest))
    have s2 := s1.setSlot (by rw [l.r, ← l.s]; exact hi) hi
    rw [hσ] at s2
    exact s2.perm (by rw [← List.append_assoc, ← List.append_assoc]; exact List.perm_append_comm.append_right rest)
  · cases h

theorem TAs.nil {Q : List V → Hp → Prop} (h : TAs C [] σ H Q) : Q [] H := by
  obtain ⟨ρ, F, rest, l, s, q⟩ := h
  rw [evAs] at q
  exact q [] H F s trivial
theorem TAs.cons {e : P} {es : List P} {Q : List V → Hp → Prop} (h : TAs C (e :: es) σ H Q) : tA C e σ H fun x H1 => TAs C es σ H1 fun xs H2 => Q (x :: xs) H2 := by
  obtain ⟨ρ, F, rest, l, s, q⟩ := h
  cases hk : e.kd with
  | val =>
    rw [tAV hk]
    rw [evAs_val hk, EQ.bind] at q
    refine ⟨ρ, F, rest, l, s, q.imp fun d ρ1 ed q v H1 F1 s1 vd => ⟨ρ1, F1, [(.fz d, some v)] ++ rest, l.to (evP_ok_len ed), (s1.push vd).perm List.perm_middle.symm, ?_⟩⟩
    rw [EQ.bind] at q
    refine q.skip fun ds ρ2 eds q vs H2 F2 s2 lay => q (v :: vs) H2 F2 ?_ ⟨by rw [hk]; trivial, lay⟩
    show Sep C.K H2 F2 ((match e.kd with | .val => [(.fz d, some v)] | .bor _ => [] | .io _ => [(.own d, some v)]) ++ AT es ds vs ++ _)
    rw [hk]
    refine s2.perm ?_
    show (AT es ds vs ++ (zp ρ2 σ ++ ((Sl.fz d, some v) :: rest))).Perm ((.fz d, some v) :: (AT es ds vs ++ (zp ρ2 σ ++ rest)))
    exact (List.Perm.append_left _ List.perm_middle).trans List.perm_middle
  | bor p =>
    obtain rfl := kd_bor hk
    rw [evAs_bor] at q
    split at q
    · rename_i hb
      obtain ⟨v, hv⟩ := Pl.bound_at hb l s
      refine ⟨v, hv, ρ, F, rest, l, s, ?_⟩
      rw [EQ.bind] at q
      refine q.imp fun ds ρ2 eds q vs H2 F2 s2 lay => ?_
      rw [EQ.bind] at q
      obtain ⟨d, ed, q⟩ := q.at
      exact q (v :: vs) H2 F2 s2 ⟨Pl.look_at ed hv s2, lay⟩
    · exact q.elim
  | io p =>
    obtain rfl := kd_io hk
    rw [evAs_io] at q
    split at q
    · rename_i hb
      obtain ⟨v, hv⟩ := Pl.bound_at hb l s
      refine ⟨v, hv, ρ, F, rest, l, s, ?_⟩
      rw [EQ.bind] at q
      refine q.imp fun ds ρ2 eds q vs H2 F2 s2 lay => ?_
      rw [EQ.bind] at q
      obtain ⟨⟨d, ρ3⟩, ed, q⟩ := q.at
      exact q (v :: vs) H2 F2 (Pl.take_sep ed hv s2) ⟨hv, lay⟩
    · exact q.elim
end

/-! arguments that are looked at, or handed on -/
def noIo : List P → Bool
  | [] => true
  | .io _ :: _ => false
  | _ :: es => noIo es
def allVal : List P → Bool
  | [] => true
  | .io _ :: _ => false
  | .bor _ :: _ => false
  | _ :: es => allVal es
section
variable {K : Wd} {H : Hp} {F : Addr → Prop} {σ : L2.St}
theorem Lay.bors : ∀ {es : List P} {ds : List D} {vs : List V} {rest : Things}, noIo es = true → Lay K H F σ es ds vs → Sep K H F (AT es ds vs ++ rest) → Bors K H F ds vs
  | [], [], [], _, _, _, _ => rfl
  | [], [], _ :: _, _, _, h, _ => h.elim
  | [], _ :: _, _, _, _, h, _ => h.elim
  | _ :: _, [], _, _, _, h, _ => h.elim
  | _ :: _, _ :: _, [], _, _, h, _ => h.elim
  | e :: es, d :: ds, v :: vs, rest, hn, h, s => by
    cases hk : e.kd with
    | val =>
      have hn' : noIo es = true := by cases e <;> first | exact hn | cases hk
      have s' : Sep K H F ((.fz d, some v) :: (AT es ds vs ++ rest)) := by
        have := s
        unfold AT at this
        rw [hk] at this
        exact this
      obtain ⟨w, e1, q⟩ := s'.val
      cases e1
      exact ⟨v, vs, rfl, q.bor, Lay.bors hn' h.2 s'.tail⟩
    | bor p =>
      obtain rfl := kd_bor hk
      exact ⟨v, vs, rfl, h.1, Lay.bors (es := es) hn h.2 s⟩
    | io p =>
      obtain rfl := kd_io hk
      cases hn
theorem Lay.vals : ∀ {es : List P} {ds : List D} {vs : List V} {rest : Things}, allVal es = true → Lay K H F σ es ds vs → Sep K H F (AT es ds vs ++ rest) → ValL K H F ds vs
  | [], [], [], _, _, _, _ => ValL.nil
  | [], [], _ :: _, _, _, h, _ => h.elim
  | [], _ :: _, _, _, _, h, _ => h.elim
  | _ :: _, [], _, _, _, h, _ => h.elim
  | _ :: _, _ :: _, [], _, _, h, _ => h.elim
  | e :: es, d :: ds, v :: vs, rest, hn, h, s => by
    cases hk : e.kd with
    | val =>
      have hn' : allVal es = true := by cases e <;> first | exact hn | cases hk
      have s' : Sep K H F ((.fz d, some v) :: (AT es ds vs ++ rest)) := by
        have := s
        unfold AT at this
        rw [hk] at this
        exact this
      obtain ⟨w, e1, q⟩ := s'.val
      cases e1
      exact ValL.cons q (Lay.vals hn' h.2 s'.tail)
    | bor p =>
      obtain rfl := kd_bor hk
      cases hn
    | io p =>
      obtain rfl := kd_io hk
      cases hn
end
section
variable {C : Cn} {σ : L2.St} {H : Hp}
theorem TV.args {o : Bool} {p : Prim} {as : List P} {Q : VK} (hn : noIo as = true) (h : TV C o (.op p as) σ H Q) : TAs C as σ H fun vs H2 => rP C.K o p vs H2 Q := by
  obtain ⟨ρ, F, rest, l, s, q⟩ := h
  rw [evP, EQ.bind] at q
  refine ⟨ρ, F, rest, l, s, q.imp fun ds ρ1 eds q vs H2 F2 s2 lay => ?_⟩
  obtain ⟨d, e, q⟩ := q.at
  exact ⟨F2, _, ds, d, s2.right, lay.bors hn s2, e, q⟩
theorem TV.argsS {o : Bool} {p : Prim} {as : List P} {Q : VK} (hn : allVal as = true) (h : TV C o (.op p as) σ H Q) : TAs C as σ H fun vs H2 => rS C.K o p vs H2 Q := by
  obtain ⟨ρ, F, rest, l, s, q⟩ := h
  rw [evP, EQ.bind] at q
  refine ⟨ρ, F, rest, l, s, q.imp fun ds ρ1 eds q vs H2 F2 s2 lay => ?_⟩
  obtain ⟨d, e, q⟩ := q.at
  exact ⟨F2, _, ds, d, s2.right, lay.vals hn s2, e, q⟩
end

theorem pe_imp {X : Cx} {e : Expr} {t t' : TE} (h : PE X e t) (q : ∀ σ H Q, t' σ H Q → t σ H Q) : PE X e t' := ⟨fun pins s σ H Q I w => h.run pins s σ H Q I (q σ H Q w)⟩
theorem pa_imp {X : Cx} {e : List Expr} {t t' : TA} (h : PA X e t) (q : ∀ σ H Q, t' σ H Q → t σ H Q) : PA X e t' := ⟨fun pos pins s σ H Q I w => h.run pos pins s σ H Q I (q σ H Q w)⟩
theorem pt_imp {X : Cx} {e : Expr} {t t' : TT} (h : PT X e t) (q : ∀ σ H Q, t' σ H Q → t σ H Q) : PT X e t' := ⟨fun pins s σ H Q I w => h.run pins s σ H Q I (q σ H Q w)⟩
theorem pi_imp {X : Cx} {tg e : Expr} {t t' : TI} (h : PI X tg e t) (q : ∀ σ H R, t' σ H R → t σ H R) : PI X tg e t' := ⟨fun pins s σ H Q I w => h.run pins s σ H Q I (q σ H Q w)⟩
theorem ps_imp {X : Cx} {e : Stmt} {t t' : TS} (h : PS X e t) (q : ∀ D σ H, t' D σ H → t D σ H) : PS X e t' := ⟨fun pins s σ H D I w => h.run pins s σ H D I (q D σ H w)⟩
theorem pss_imp {X : Cx} {e : List Stmt} {t t' : TS} (h : PSs X e t) (q : ∀ D σ H, t' D σ H → t D σ H) : PSs X e t' := ⟨fun pins s σ H D I w => h.run pins s σ H D I (q D σ H w)⟩

/-- the arguments one by one -/
def PEs (X : Cx) (t : P → TE) : List P → List Expr → Prop
  | [], [] => True
  | p :: ps, e :: es => PE X e (t p) ∧ PEs X t ps es
  | _, _ => False
theorem star_cons {e : Expr} {es : List Expr} {env : Env} (h : nst e = true) : starEach (e :: es) env = (false, eval e env) :: starEach es env := by
  cases e <;> first | rfl | cases h
theorem star_plain : ∀ {es : List Expr} {env : Env} {pos : Pos}, es.all nst = true → (backTo pos (starEach es env)).any (·.1) = false
  | [], _, _, _ => rfl
  | e :: es, env, pos, h => by
    simp only [List.all_cons, Bool.and_eq_true] at h
    rw [star_cons h.1]
    show (backTo pos ((false, eval e env) :: starEach es env)).any (·.1) = false
    have ih := star_plain (env := env) (pos := pos) h.2
    simpa [backTo] using ih
section
variable {X : Cx} {C : Cn}
theorem PEs.pa : ∀ {as : List P} {es : List Expr}, PEs X (tA C) as es → es.all nst = true → PA X es (TAs C as)
  | [], [], _, _ => pa_imp pa_nil fun σ H Q h => h.nil
  | p :: ps, e :: es, h, hn => by
    simp only [List.all_cons, Bool.and_eq_true] at hn
    exact pa_imp (pa_cons h.1 (PEs.pa h.2 hn.2) (star_cons hn.1)) fun σ H Q h => h.cons
  | [], _ :: _, h, _ => h.elim
  | _ :: _, [], h, _ => h.elim
end
end Bk

/-! B6: operations: the model's run gives the readings. -/
namespace Bk
open PySem PySem.Spec PyProof.Rows L2

section
variable {C : Cn} {σ : L2.St} {H : Hp}
theorem TV.mono {o : Bool} {p : P} {Q Q' : VK} (h : TV C o p σ H Q) (q : ∀ v H', Q v H' → Q' v H') : TV C o p σ H Q' := by
  obtain ⟨ρ, F, rest, l, s, h⟩ := h
  exact ⟨ρ, F, rest, l, s, h.imp fun d _ _ h => h.mono q⟩
theorem tA.mono {e : P} {Q Q' : VK} (h : tA C e σ H Q) (q : ∀ v H', Q v H' → Q' v H') : tA C e σ H Q' := by
  unfold tA at h ⊢
  cases hk : e.kd with
  | val =>
    rw [hk] at h
    exact TV.mono h q
  | bor p =>
    rw [hk] at h
    obtain ⟨v, e, h⟩ := h
    exact ⟨v, e, q _ _ h⟩
  | io p =>
    rw [hk] at h
    obtain ⟨v, e, h⟩ := h
    exact ⟨v, e, q _ _ h⟩
theorem TAs.mono {e : List P} {Q Q' : List V → Hp → Prop} (h : TAs C e σ H Q) (q : ∀ v H', Q v H' → Q' v H') : TAs C e σ H Q' := by
  obtain ⟨ρ, F, rest, l, s, h⟩ := h
  exact ⟨ρ, F, rest, l, s, h.imp fun d _ _ h v H' F' a b => q _ _ (h v H' F' a b)⟩
theorem TV.two {o : Bool} {p : Prim} {a c : P} {Q : VK} (hn : noIo [a, c] = true) (h : TV C o (.op p [a, c]) σ H Q) : tOp (r2 C.K o p) (tA C a) (tA C c) σ H Q :=
  tA.mono (h.args hn).cons fun x H1 h => tA.mono h.cons fun y H2 h => h.nil
theorem TV.one {o : Bool} {p : Prim} {a : P} {Q : VK} (hn : noIo [a] = true) (h : TV C o (.op p [a]) σ H Q) : tA C a σ H fun x H1 => rP C.K o p [x] H1 Q :=
  tA.mono (h.args hn).cons fun x H1 h => h.nil
theorem TV.three {o : Bool} {p : Prim} {a c d : P} {Q : VK} (hn : noIo [a, c, d] = true) (h : TV C o (.op p [a, c, d]) σ H Q) : tA C a σ H fun x H1 => tA C c σ H1 fun y H2 => tA C d σ H2 fun z H3 => rP C.K o p [x, y, z] H3 Q :=
  tA.mono (h.args hn).cons fun x H1 h => tA.mono h.cons fun y H2 h => tA.mono h.cons fun z H3 h => h.nil
theorem TV.ent {p : P} {Q : VK} (h : TV C false (.ent p) σ H Q) : TV C false (.ent p) σ H fun v H' => (∃ i, v = .int i) ∧ Q v H' := by
  obtain ⟨ρ, F, rest, l, s, h⟩ := h
  refine ⟨ρ, F, rest, l, s, h.imp fun d ρ1 e h => ?_⟩
  rw [evP] at e
  cases e1 : evP C.q p ρ with
  | ok x ρ2 =>
    rw [e1, Ev.bind_ok] at e
    cases x <;> simp only [asI, R.at_stuck, Ev.bind_stuck, reduceCtorEq, R.at_ok, Ev.bind_ok, Ev.ok.injEq] at e
    obtain ⟨rfl, rfl⟩ := e
    intro v H1 F1 s1 q
    have h0 : PF C.K (zp ρ2 σ ++ rest) (.int _) Q := h
    unfold Val at q
    exact ⟨⟨_, q⟩, h0 v H1 F1 s1 (by unfold Val; exact q)⟩
  | exc c ρ2 => rw [e1] at e; cases e
  | stuck => rw [e1] at e; cases e
theorem tA.ent {p : P} {Q : VK} (hp : isEnt p = true) (h : tA C p σ H Q) : tA C p σ H fun v H' => (∃ i, v = .int i) ∧ Q v H' := by
  cases p <;> first | cases hp | skip
  exact TV.ent h
/-- the model's text of ent p is that of p -/
theorem TV.ofEnt {p : P} {Q : VK} (h : TV C false (.ent p) σ H Q) : TV C false p σ H Q := by
  obtain ⟨ρ, F, rest, l, s, h⟩ := h
  rw [evP, EQ.bind] at h
  refine ⟨ρ, F, rest, l, s, h.imp fun d ρ1 e h => ?_⟩
  rw [EQ.bind] at h
  obtain ⟨i, e2, h⟩ := h.at
  cases d <;> simp only [asI, reduceCtorEq, R.ok.injEq] at e2
  subst e2
  exact h
end

abbrev cn (E : Wo) (X : Cx) (fx : List (Nat × V)) (q : En) (W : WX) : Cn := ⟨X.N, fx, wd E X, q, W⟩
/-- what is lent, behind a call -/
def OT : List Nat → List V → List D → Things
  | i :: is, vs, o :: os => (.own o, vs[i]?) :: OT is vs os
  | _, _, _ => []
/-- the arguments of a call -/
def PT' (io : List Nat) : Nat → List D → List V → Things
  | i, d :: ds, v :: vs => ((if io.contains i then Sl.own d else Sl.fz d), some v) :: PT' io (i + 1) ds vs
  | _, _, _ => []
/-- what a def promises: what the function r tells -/
def spD (K : Wd) (io : List Nat) (r : List D → Rs) : Sp := fun vs H Q E => ∃ F ds rest, ds.length = vs.length ∧ Sep K H F (PT' io 0 ds vs ++ rest) ∧ match r ds with
  | .ok d os => os.length = io.length ∧ ∀ v H' F', Sep K H' F' ((.fz d, some v) :: (OT io vs os ++ rest)) → Q v H'
  | .exc c os => os.length = io.length ∧ ∀ H' F', Sep K H' F' (OT io vs os ++ rest) → E (K.xc c) none H'
  | .stuck => False
/-- a class of exceptions of one's own, as it is raised -/
structure RaiseOk (X : Cx) (x : Str) (v : Value) : Prop where
  ex : ∃ (D : Addr) (B newId initId : String) (bmB : List Value), v = .ref D ∧ ExcBaseFacts B newId initId bmB ∧ PySem.W.excIn X.K D bmB newId = true ∧ X.mg x = some (.ref D) ∧ PySem.W.keepIn X.K (.ref D) = true ∧ Raises X (.ref D)
/-- what holds of the run around -/
structure Good (nm : Nm) (E : Wo) (n : Nat) (sui : Option Nat) (io : List Nat) (fx : List (Nat × V)) (q : En) (sc : Scope) (fnb : Str → Bool) (X : Cx) : Prop where
  nd : X.N.Nodup
  hsc : X.env.scope = sc
  knd : sc.kind = ScopeKind.function
  fxio : ∀ p ∈ fx, io.contains p.1 = true ∨ sui = some p.1
  calm : sui = none → X.calm = true
  room : sui = none → Room n X.A
  un : X.A.units + 200 < cLine
  fnb : ∀ x, fnb x = true → X.fn x = true
  fn : sui = none → ∀ f x io', nm.fns f = some x → nm.ios f = some io' → ∃ fa fd ps, FnOk X.prog X.w X.K X.mg X.base (L2.CX X.prog X.w) n fa fd ps (spD (wd E X) io' (q.F f)) ∧ X.mg x = some (.ref fa) ∧ PySem.W.keepIn X.K (.ref fa) = true ∧ Binds X.K fd ps []
  blt : ∀ x ∈ blts, X.mg x = none
  cst : ∀ x d, nm.consts.lookup x = some d → ∃ u v, X.mg x = some u ∧ RelV v u ∧ ∀ H F, Val (wd E X) H F d v
  cls : ∀ (c : Nat) (x : Str) (b : Bool), nm.cls c = some (x, b) → X.mg x = some (E.xc c) ∧ (∃ D, E.xc c = .ref D) ∨ (X.mg x = none ∧ bootBuiltins x = some (E.xc c) ∧ x ≠ "__name__" ∧ ∃ T, E.xc c = .type T)
  rai : ∀ (c : Nat) (x : Str), nm.cls c = some (x, true) → RaiseOk X x (E.xc c)
  sub : ∀ k c b, q.su k c = some b → PySem.W.exmOne X.K (E.xc k) (E.xc c) = some b ∧ PySem.W.kitOne X.K (E.xc k) (E.xc c) = some b ∧ ∃ D, E.xc k = .ref D ∧ ExcC X.K D
  hx : ∀ k, q.hx = some k → ∃ (X0 : Cx) (a D : Addr) (oe : Obj) (pn : List (Addr × Obj)) (i : Nat), sui = some i ∧ X = X0.suite a ((a, oe) :: pn) ∧ E.xc k = .ref D ∧ Zc (.ref D) none oe ∧ (∃ vs, oe.data = .fields vs) ∧ ExcC X.K D ∧ (i < X.N.length → (i, V.ref a) ∈ fx)

section
variable {nm : Nm} {E : Wo} {n : Nat} {sui : Option Nat} {io : List Nat} {fx : List (Nat × V)} {q : En} {sc : Scope} {fnb : Str → Bool} {X : Cx} {W : WX}
theorem isGl_gl (G : Good nm E n sui io fx q sc fnb X) {x : Str} (h : isGl sc x = true) : Gl X x ∧ (x == ("__debug__" : Str)) = false := by
  unfold isGl at h
  simp only [Bool.and_eq_true, Bool.not_eq_true'] at h
  refine ⟨?_, h.2⟩
  show X.env.scope.names.lookup x = some .globalImplicit
  rw [G.hsc]
  exact eq_of_beq h.1
theorem isVis_vis (G : Good nm E n sui io fx q sc fnb X) {i : Nat} {x : Str} (h : isVis X.N sc i x = true) : X.N[i]? = some x ∧ Vis X.env.scope x ∧ (x == ("__debug__" : Str)) = false ∧ (x == ("__classdict__" : Str)) = false := by
  unfold isVis at h
  simp only [Bool.and_eq_true, Bool.not_eq_true', Bool.or_eq_true, decide_eq_true_eq] at h
  obtain ⟨⟨⟨h1, h2⟩, h3⟩, h4⟩ := h
  refine ⟨h1, ?_, h3, h4⟩
  unfold Vis
  rw [G.hsc]
  rcases h2 with (h2 | h2) | h2
  · exact .inl (eq_of_beq h2)
  · exact .inr (.inl (eq_of_beq h2))
  · exact .inr (.inr (eq_of_beq h2))
theorem isLoc_loc (G : Good nm E n sui io fx q sc fnb X) {i : Nat} {x : Str} (h : isLoc X.N sc fnb i x = true) : X.N[i]? = some x ∧ L2.Loc X.env.scope x ∧ (X.fn x = true ∨ X.env.scope.names.lookup x = some .local) := by
  unfold isLoc at h
  simp only [Bool.and_eq_true, Bool.or_eq_true, decide_eq_true_eq] at h
  obtain ⟨h1, h2⟩ := h
  refine ⟨h1, ?_⟩
  unfold L2.Loc
  rw [G.hsc]
  rcases h2 with h2 | ⟨h2, h3⟩
  · exact ⟨.inl (eq_of_beq h2), .inr (eq_of_beq h2)⟩
  · exact ⟨.inr (eq_of_beq h2), .inl (G.fnb x h3)⟩
theorem plE_pe (G : Good nm E n sui io fx q sc fnb X) {p : Pl} {e : Expr} (h : plE X.N sc p e = true) : PE X e (tPl p) := by
  unfold plE at h
  split at h
  · simp only [Bool.and_eq_true] at h
    obtain ⟨h1, h2, h3, h4⟩ := isVis_vis G h.2
    exact pe_var h1 h2 h3 h4
  · cases h

theorem plIx_ok {b : Expr} (h : plIx b = true) : PlainIx b := by
  intro o i
  cases b <;> first | rfl | cases h
theorem plIx_sl {b : Expr} (h : plIx b = true) : NoSl b := by
  intro o i
  cases b <;> first | rfl | cases h
theorem plRc_ok {o : Expr} {m : Str} {env : Env} {w : Sem Value} (h : plRc o = true) : attributeBase o m env w = w := by
  cases o <;> first | rfl | cases h
theorem notSet_ok {b : Expr} {op : CmpOp} (h : notSet b = true) : behindInMarks op b = false := by
  cases b <;> first | rfl | cases h
theorem notSet_it {b : Expr} {env : Env} (h : notSet b = true) : ∀ x, foldedSetIterable b env x = pure x := by
  intro x
  cases b <;> first | rfl | cases h
theorem PEs.one {t : P → TE} {as : List P} {x : Expr} (h : PEs X t as [x]) : ∃ a, as = [a] ∧ PE X x (t a) := by
  match as, h with
  | [a], h => exact ⟨a, rfl, h.1⟩
  | [], h => exact h.elim
  | _ :: _ :: _, h => exact h.2.elim
theorem PEs.two {t : P → TE} {as : List P} {x y : Expr} (h : PEs X t as [x, y]) : ∃ a c, as = [a, c] ∧ PE X x (t a) ∧ PE X y (t c) := by
  match as, h with
  | [a, c], h => exact ⟨a, c, rfl, h.1, h.2.1⟩
  | [], h => exact h.elim
  | [_], h => exact h.2.elim
  | _ :: _ :: _ :: _, h => exact h.2.2.elim
theorem PEs.three {t : P → TE} {as : List P} {x y z : Expr} (h : PEs X t as [x, y, z]) : ∃ a c d, as = [a, c, d] ∧ PE X x (t a) ∧ PE X y (t c) ∧ PE X z (t d) := by
  match as, h with
  | [a, c, d], h => exact ⟨a, c, d, rfl, h.1, h.2.1, h.2.2.1⟩
  | [], h => exact h.elim
  | [_], h => exact h.2.elim
  | [_, _], h => exact h.2.2.elim
  | _ :: _ :: _ :: _ :: _, h => exact h.2.2.2.elim

theorem binO_ok {o : Bool} {op : Operator} {p : Prim} (h : binO op = some p) : OpR X (binaryOp op) (r2 (wd E X) o p) := by
  cases op <;> simp only [binO, Option.some.injEq, reduceCtorEq] at h <;> subst h
  · exact o_add
  · exact o_sub
  · exact o_mul
  · exact o_mod
  · exact o_pow
  · exact o_fdiv
theorem cmpO_ok {o : Bool} (hu : X.A.units + 200 < cLine) {op : CmpOp} {p : Prim} (h : cmpO op = some p) : OpR X (compareOp op) (r2 (wd E X) o p) := by
  cases op <;> simp only [cmpO, Option.some.injEq, reduceCtorEq] at h <;> subst h
  · exact o_eq hu
  · exact o_ne hu
  · exact o_lt
  · exact o_le
  · exact o_gt
  · exact o_ge
  · exact o_in hu
  · exact o_notin hu
theorem binO_disp {op : Operator} {p : Prim} (h : binO op = some p) : isDisp p = false := by
  cases op <;> simp only [binO, Option.some.injEq, reduceCtorEq] at h <;> subst h <;> rfl
theorem cmpO_disp {op : CmpOp} {p : Prim} (h : cmpO op = some p) : isDisp p = false := by
  cases op <;> simp only [cmpO, Option.some.injEq, reduceCtorEq] at h <;> subst h <;> rfl

theorem int_of_bor {K : Wd} {H : Hp} {F : Addr → Prop} {i : Int} {w : V} (h : Bor K H F (.int i) w) : w = .int i := h.int
/-- an operation's slices -/
theorem slice_ok {o a b : Bool} {x : Expr} {lo hi : Option Expr} {p2 pos : Pos} {as : List P} (h1 : lo.isSome = a) (h2 : hi.isSome = b) (hn : noIo as = true) (hs : slcOk (.slc a b) as = true) (h : PEs X (tA (cn E X fx q W)) as (x :: (lo.toList ++ hi.toList))) :
    PE X (.Subscript x (.Slice lo hi none p2) pos) (TV (cn E X fx q W) o (.op (.slc a b) as)) := by
  cases lo with
  | none =>
    cases hi with
    | none =>
      obtain ⟨u, rfl, hx⟩ := PEs.one h
      exact pe_imp (pe_slice (o_slice (E := E) (o := o) (a := a) (b := b)) hx po_none po_none) fun σ H Q h => tA.mono (h.one hn) fun v H1 h => ⟨h1, h2, h⟩
    | some y =>
      obtain ⟨u, w, rfl, hx, hy⟩ := PEs.two h
      have hw : isEnt w = true := by simpa [slcOk] using hs
      refine pe_imp (pe_slice (o_slice (E := E) (o := o) (a := a) (b := b)) hx po_none (po_some hy)) fun σ H Q h => tA.mono (h.two hn) fun v H1 h => tA.mono (tA.ent hw h) fun z H2 h => ?_
      obtain ⟨⟨j, rfl⟩, h⟩ := h
      exact ⟨j, rfl, h1, h2, h⟩
  | some y =>
    cases hi with
    | none =>
      obtain ⟨u, w, rfl, hx, hy⟩ := PEs.two h
      have hw : isEnt w = true := by simpa [slcOk] using hs
      refine pe_imp (pe_slice (o_slice (E := E) (o := o) (a := a) (b := b)) hx (po_some hy) po_none) fun σ H Q h => tA.mono (h.two hn) fun v H1 h => tA.mono (tA.ent hw h) fun z H2 h => ?_
      obtain ⟨⟨j, rfl⟩, h⟩ := h
      exact ⟨j, rfl, h1, h2, h⟩
    | some y' =>
      obtain ⟨u, w, w2, rfl, hx, hy, hz⟩ := PEs.three h
      have hw : isEnt w = true ∧ isEnt w2 = true := by simpa [slcOk] using hs
      refine pe_imp (pe_slice (o_slice (E := E) (o := o) (a := a) (b := b)) hx (po_some hy) (po_some hz)) fun σ H Q h => tA.mono (h.three hn) fun v H1 h => tA.mono (tA.ent hw.1 h) fun z H2 h => ?_
      obtain ⟨⟨j, rfl⟩, h⟩ := h
      refine ⟨j, rfl, tA.mono (tA.ent hw.2 h) fun z2 H3 h => ?_⟩
      obtain ⟨⟨j2, rfl⟩, h⟩ := h
      exact ⟨j2, rfl, h1, h2, h⟩
theorem c1_ok {o : Bool} {p : Prim} {f : Str} {fp pos : Pos} {x : Expr} {a : P} (G : Good nm E n sui io fx q sc fnb X) (hcp : (sui.isSome && calmP p) = false) (hi : noIo [a] = true) (h1 : isC1 p = true) (h2 : f = callN p) (hg : isGl sc f = true) (hn : nst x = true) (hx : PE X x (tA (cn E X fx q W) a)) :
    PE X (.Call (.Name f fp) [x] [] pos) (TV (cn E X fx q W) o (.op p [a])) := by
  obtain ⟨gl, gd⟩ := isGl_gl G hg
  have pa : PA X [x] (tCons (tA (cn E X fx q W) a) tNil) := pa_cons hx pa_nil (star_cons hn)
  have fin : ∀ {id : String}, CallR X (.builtin id) (rC (wd E X) o p) → bootBuiltins f = some (.builtin id) → f ∈ blts → f ≠ "__name__" → PE X (.Call (.Name f fp) [x] [] pos) (TV (cn E X fx q W) o (.op p [a])) :=
    fun {id} hc hv hm hnm => pe_imp (pe_callB hc gl (G.blt f hm) hv pa hnm gd (star_cons hn) (by rfl)) fun σ H Q h => tA.mono (h.one hi) fun v H1 h => h
  have finT : ∀ {id : String}, CallR X (.type id) (rC (wd E X) o p) → bootBuiltins f = some (.type id) → f ∈ blts → f ≠ "__name__" → PE X (.Call (.Name f fp) [x] [] pos) (TV (cn E X fx q W) o (.op p [a])) :=
    fun {id} hc hv hm hnm => pe_imp (pe_callTy hc gl (G.blt f hm) hv pa hnm gd (star_cons hn) (by rfl)) fun σ H Q h => tA.mono (h.one hi) fun v H1 h => h
  have calm : calmP p = true → X.calm = true := fun z => G.calm (by cases sui with | none => rfl | some i => rw [z] at hcp; cases hcp)
  subst h2
  cases p <;> first | exact absurd h1 Bool.false_ne_true | skip
  · exact fin c_len PySem.boot_len (by decide +kernel) (by decide +kernel)
  · exact fin (c_sum (calm rfl)) (by decide +kernel) (by decide +kernel) (by decide +kernel)
  · exact fin (c_maxl (calm rfl)) (by decide +kernel) (by decide +kernel) (by decide +kernel)
  · exact fin (c_minl (calm rfl)) (by decide +kernel) (by decide +kernel) (by decide +kernel)
  · exact finT c_tupOf (by decide +kernel) (by decide +kernel) (by decide +kernel)
  · exact finT c_lstOf (by decide +kernel) (by decide +kernel) (by decide +kernel)
  · exact finT c_strOf (by decide +kernel) (by decide +kernel) (by decide +kernel)
  · exact finT c_intOf (by decide +kernel) (by decide +kernel) (by decide +kernel)
  · exact fin (c_all (calm rfl)) (by decide +kernel) (by decide +kernel) (by decide +kernel)
theorem c2_ok {o : Bool} {p : Prim} {f : Str} {fp pos : Pos} {x y : Expr} {a c : P} (G : Good nm E n sui io fx q sc fnb X) (hcp : (sui.isSome && calmP p) = false) (hi : noIo [a, c] = true) (h1 : isC2 p = true) (h2 : f = callN p) (hg : isGl sc f = true) (hn : nst x = true) (hn2 : nst y = true) (hx : PE X x (tA (cn E X fx q W) a)) (hy : PE X y (tA (cn E X fx q W) c)) :
    PE X (.Call (.Name f fp) [x, y] [] pos) (TV (cn E X fx q W) o (.op p [a, c])) := by
  obtain ⟨gl, gd⟩ := isGl_gl G hg
  have pa : PA X [x, y] (tCons (tA (cn E X fx q W) a) (tCons (tA (cn E X fx q W) c) tNil)) := pa_cons hx (pa_cons hy pa_nil (star_cons hn2)) (star_cons hn)
  have fin : ∀ {id : String}, CallR X (.builtin id) (rC (wd E X) o p) → bootBuiltins f = some (.builtin id) → f ∈ blts → f ≠ "__name__" → PE X (.Call (.Name f fp) [x, y] [] pos) (TV (cn E X fx q W) o (.op p [a, c])) :=
    fun {id} hc hv hm hnm => pe_imp (pe_callB hc gl (G.blt f hm) hv pa hnm gd (star_cons hn) (star_plain (by simp [hn2]))) fun σ H Q h => tA.mono (h.two hi) fun v H1 h => tA.mono h fun w H2 h => h
  have calm : calmP p = true → X.calm = true := fun z => G.calm (by cases sui with | none => rfl | some i => rw [z] at hcp; cases hcp)
  subst h2
  cases p <;> first | exact absurd h1 Bool.false_ne_true | skip
  · exact fin (c_max2 (calm rfl)) (by decide +kernel) (by decide +kernel) (by decide +kernel)
  · exact fin (c_min2 (calm rfl)) (by decide +kernel) (by decide +kernel) (by decide +kernel)
theorem isi_ok {o : Bool} {t : Ty} {f g : Str} {fp gp pos : Pos} {x : Expr} {a : P} (G : Good nm E n sui io fx q sc fnb X) (hi : noIo [a] = true) (h1 : f = "isinstance") (h2 : g = Str.ofString t.py) (hg : isGl sc f = true) (hgg : isGl sc g = true) (hn : nst x = true) (hx : PE X x (tA (cn E X fx q W) a)) :
    PE X (.Call (.Name f fp) [x, .Name g gp] [] pos) (TV (cn E X fx q W) o (.op (.isi t) [a])) := by
  obtain ⟨gl, gd⟩ := isGl_gl G hg
  obtain ⟨gl2, gd2⟩ := isGl_gl G hgg
  have pn : PE X (.Name g gp) (tC (.ty t.py)) := by
    subst h2
    cases t <;> exact pe_bltn (v := .ty _) gl2 (G.blt _ (by decide +kernel)) (by decide +kernel) rfl (by decide +kernel) gd2
  have pa : PA X [x, .Name g gp] (tCons (tA (cn E X fx q W) a) (tCons (tC (.ty t.py)) tNil)) := pa_cons hx (pa_cons pn pa_nil) (star_cons hn)
  subst h1
  exact pe_imp (pe_callB (c_isi (E := E) (o := o) (t := t)) gl (G.blt _ (by decide +kernel)) (by decide +kernel) pa (by decide +kernel) gd (star_cons hn) (by rfl)) fun σ H Q h => tA.mono (h.one hi) fun v H1 h => ⟨v, rfl, h⟩
end

/-! ### max(xs, default=d) -/
section
variable {E : Wo} {X : Cx} {o : Bool}
theorem maxOf_fold : ∀ (ns : List Int) (m : Int), maxOf m ns = ns.foldl max m
  | [], m => rfl
  | x :: r, m => by
    unfold maxOf
    rw [maxOf_fold r, List.foldl_cons]
    congr 1
    split <;> omega
theorem alike_ints (ns : List Int) : PySem.W.AlikeAll (ns.map PyData.int) := by
  constructor
  · intro x hx y hy
    obtain ⟨i, _, rfl⟩ := List.mem_map.mp hx
    obtain ⟨j, _, rfl⟩ := List.mem_map.mp hy
    rfl
  · intro x hx
    obtain ⟨i, _, rfl⟩ := List.mem_map.mp hx
    intro z; cases z
theorem depth_ints : ∀ ns : List Int, PyData.depthAll (ns.map PyData.int) ≤ 1
  | [] => by simp [PyData.depthAll]
  | n :: ns => by
    have := depth_ints ns
    simp only [List.map_cons, PyData.depthAll, PyData.depth]
    omega
theorem dpAll_ints (K : PySem.W.Frag) (H : Hp) : ∀ ns : List Int, DpAll K H (ns.map V.int) (ns.map PyData.int)
  | [] => .nil
  | n :: ns => .cons (.int n) (dpAll_ints K H ns)
theorem c_maxd (hh : X.A.handled = none) (hu : X.A.units + 200 < cLine) : CallRK X (.builtin "max") ["default"] (fun vs zs H Q => ∃ v w, vs = [v] ∧ zs = [w] ∧ rP (wd E X) o .maxd [v, w] H Q) := by
  intro pins s σ H xs zs us ws Q I r rz h
  obtain ⟨v, w, rfl, rfl, F, ts, ds, d, hs, hb, he, hq⟩ := h
  replace he : evMaxd ds = .ok d := he
  unfold evMaxd at he
  split at he
  · rename_i ys k
    obtain ⟨_, _, e2, b1, b2⟩ := hb.b2
    cases e2; cases b2.int
    obtain ⟨p, vs, rfl, t, l⟩ := b1.lst
    obtain ⟨u, rfl, ru⟩ := r.one
    obtain ⟨u2, rfl, ru2⟩ := rz.one
    cases ru
    obtain ⟨tk0, rfl⟩ := ru2
    have key : ∀ ns : List Int, intsOf ys = some ns → (∀ m : Int, (ns = [] → m = k) → (∀ n r, ns = n :: r → m = maxOf n r) → PQ o (wd E X) ts (.int m) Q) →
        wpAny (model X.prog X.w) X.A (call (.builtin "max") [.ref p] [("default", .int k tk0)]) (EP X pins σ Q) X.xe s := by
      intro ns en hq
      obtain rfl := l.ints en
      obtain ⟨its, rv, pl, hz⟩ := I.list (SqL.rd (K := X.K) t)
      obtain ⟨as, hr⟩ := Dp.readsAll I _ _ its (dpAll_ints X.K H ns) rv
      have hd := depth_ints ns
      refine PySem.W.max_list_default (vs := its.toArray) hh pl.isList hr (alike_ints ns) (by omega) (fun e h' tk hk => ?_) fun y ys' i v h' tk bs e _ rd hk => ?_
      · have e' : ns = [] := List.map_eq_nil_iff.mp e
        exact ⟨.int k, H, I.kept (t' := tk) hk, ⟨tk0, rfl⟩, (hq k (fun _ => rfl) (fun n r e3 => by rw [e'] at e3; cases e3)).int hs⟩
      · cases ns with
        | nil => cases e
        | cons n r =>
          simp only [List.map_cons, List.cons.injEq] at e
          obtain ⟨rfl, rfl⟩ := e
          rw [PySem.W.maxD_ints, ← maxOf_fold] at rd
          cases rd
          exact ⟨.int (maxOf n r), H, I.kept (t' := tk) hk, ⟨_, rfl⟩, (hq _ (fun e => by cases e) (fun n' r' e3 => by cases e3; rfl)).int hs⟩
    split at he
    · rename_i n r en
      cases he
      exact key _ en fun m _ h2 => by rw [h2 n r rfl]; exact hq
    · rename_i en
      cases he
      exact key _ en fun m h1 _ => by rw [h1 rfl]; exact hq
    · cases he
  · cases he
/-- max(x, default=d) -/
theorem maxd_ok {nm : Nm} {n : Nat} {sui : Option Nat} {io : List Nat} {fx : List (Nat × V)} {q : En} {sc : Scope} {fnb : Str → Bool} {W : WX} {o : Bool} {f k : Str} {fp pos kp : Pos} {x y : Expr} {as : List P} (G : Good nm E n sui io fx q sc fnb X) (hs : sui = none) (hi : noIo as = true) (h2 : f = "max") (h3 : k = "default") (hg : isGl sc f = true) (hn : nst x = true) (hx : PEs X (tA (cn E X fx q W)) as [x, y]) :
    PE X (.Call (.Name f fp) [x] [⟨some k, y, kp⟩] pos) (TV (cn E X fx q W) o (.op .maxd as)) := by
  obtain ⟨gl, gd⟩ := isGl_gl G hg
  obtain ⟨a, c, rfl, ha, hc⟩ := PEs.two hx
  subst h2 h3
  have pa : PA X [x] (tCons (tA (cn E X fx q W) a) tNil) := pa_cons ha pa_nil (star_cons hn)
  refine pe_imp (pe_callBK (c_maxd (E := E) (o := o) (G.room hs).hd G.un) gl (G.blt _ (by decide +kernel)) (by decide +kernel) pa (pk_cons hc pk_nil) (by decide +kernel) gd ?_ ?_) fun σ H Q h => tA.mono (h.two hi) fun v H1 h => tA.mono h fun w H2 h => ⟨v, w, rfl, rfl, h⟩
  · rw [star_cons hn]; rfl
  · rw [star_cons hn]; rfl
end
end Bk

/-! B7: every operation, methods, calls of defs. -/
namespace Bk
open PySem PySem.Spec PyProof.Rows L2

section
variable {nm : Nm} {E : Wo} {n : Nat} {sui : Option Nat} {io : List Nat} {fx : List (Nat × V)} {q : En} {sc : Scope} {fnb : Str → Bool} {X : Cx} {W : WX}
/-- a comparison as a value -/
theorem cmp_okV {o : Bool} {p : Prim} {as : List P} {es : List Expr} {x y : Expr} {op : CmpOp} {pos : Pos} (G : Good nm E n sui io fx q sc fnb X) (hn : noIo as = true) (ha : argsCmp p x op y = some es) (h : PEs X (tA (cn E X fx q W)) as es) :
    PE X (.Compare x [op] [y] pos) (TV (cn E X fx q W) o (.op p as)) := by
  unfold argsCmp at ha
  split at ha
  · split at ha
    · split at ha
      · rename_i h2
        cases ha
        obtain ⟨a, rfl, hx⟩ := PEs.one h
        unfold isNoneE at h2
        split at h2
        · exact pe_imp (pe_cmpR (o_isN (E := E) (o := o)) hx pe_non (nomark _)) fun σ H Q h => tA.mono (h.one hn) fun v H1 h => ⟨rfl, h⟩
        · cases h2
      · cases ha
    · cases ha
  · split at ha
    · split at ha
      · rename_i h2
        cases ha
        obtain ⟨a, rfl, hx⟩ := PEs.one h
        unfold isNoneE at h2
        split at h2
        · exact pe_imp (pe_cmpR (o_notN (E := E) (o := o)) hx pe_non (nomark _)) fun σ H Q h => tA.mono (h.one hn) fun v H1 h => ⟨rfl, h⟩
        · cases h2
      · cases ha
    · cases ha
  · split at ha
    · split at ha
      · rename_i hc
        cases ha
        obtain ⟨a, c, rfl, hx, hy⟩ := PEs.two h
        exact pe_imp (pe_cmpR (o_din (E := E) (o := o) (by have := G.un; omega)) hx hy (notSet_ok hc)) fun σ H Q h => h.two hn
      · cases ha
    · cases ha
  · split at ha
    · split at ha
      · rename_i hc
        cases ha
        obtain ⟨a, c, rfl, hx, hy⟩ := PEs.two h
        exact pe_imp (pe_cmpR (o_dnin (E := E) (o := o) (by have := G.un; omega)) hx hy (notSet_ok hc)) fun σ H Q h => h.two hn
      · cases ha
    · cases ha
  · split at ha
    · rename_i p' hp
      split at ha
      · rename_i hc
        cases ha
        simp only [Bool.and_eq_true] at hc
        obtain rfl := primEq_eq hc.1
        obtain ⟨a, c, rfl, hx, hy⟩ := PEs.two h
        exact pe_imp (pe_cmpR (cmpO_ok (o := o) G.un hp) hx hy (notSet_ok hc.2)) fun σ H Q h => h.two hn
      · cases ha
    · cases ha
theorem TT.tv {C : Cn} {p : P} {σ : L2.St} {H : Hp} {Q : Bool → Hp → Prop} (h : TT' C p σ H Q) : TV C false p σ H fun x H' => ∃ k, x = .bl k ∧ Q k H' := by
  obtain ⟨ρ, F, rest, l, s, q⟩ := h
  rw [EQ.bind] at q
  refine ⟨ρ, F, rest, l, s, q.imp fun d ρ1 ed q => ?_⟩
  obtain ⟨k, e, q⟩ := q.at
  cases d <;> simp only [asB, reduceCtorEq, R.ok.injEq] at e
  subst e
  exact fun v H1 F1 s1 vd => by
    unfold Val at vd
    exact ⟨_, vd, q H1 F1 s1⟩
/-- a comparison as a test -/
theorem cmp_okT {p : Prim} {as : List P} {es : List Expr} {x y : Expr} {op : CmpOp} {pos : Pos} (G : Good nm E n sui io fx q sc fnb X) (hn : noIo as = true) (ha : argsCmp p x op y = some es) (h : PEs X (tA (cn E X fx q W)) as es) :
    PT X (.Compare x [op] [y] pos) (TT' (cn E X fx q W) (.op p as)) := by
  unfold argsCmp at ha
  split at ha
  · split at ha
    · split at ha
      · rename_i h2
        cases ha
        obtain ⟨a, rfl, hx⟩ := PEs.one h
        unfold isNoneE at h2
        split at h2
        · exact pt_imp (pt_cmpR (o_isN (E := E) (o := false)) hx pe_non (nomark _)) fun σ H Q h => tA.mono ((TT.tv h).one hn) fun v H1 h => ⟨rfl, h⟩
        · cases h2
      · cases ha
    · cases ha
  · split at ha
    · split at ha
      · rename_i h2
        cases ha
        obtain ⟨a, rfl, hx⟩ := PEs.one h
        unfold isNoneE at h2
        split at h2
        · exact pt_imp (pt_cmpR (o_notN (E := E) (o := false)) hx pe_non (nomark _)) fun σ H Q h => tA.mono ((TT.tv h).one hn) fun v H1 h => ⟨rfl, h⟩
        · cases h2
      · cases ha
    · cases ha
  · split at ha
    · split at ha
      · rename_i hc
        cases ha
        obtain ⟨a, c, rfl, hx, hy⟩ := PEs.two h
        exact pt_imp (pt_cmpR (o_din (E := E) (o := false) (by have := G.un; omega)) hx hy (notSet_ok hc)) fun σ H Q h => (TT.tv h).two hn
      · cases ha
    · cases ha
  · split at ha
    · split at ha
      · rename_i hc
        cases ha
        obtain ⟨a, c, rfl, hx, hy⟩ := PEs.two h
        exact pt_imp (pt_cmpR (o_dnin (E := E) (o := false) (by have := G.un; omega)) hx hy (notSet_ok hc)) fun σ H Q h => (TT.tv h).two hn
      · cases ha
    · cases ha
  · split at ha
    · rename_i p' hp
      split at ha
      · rename_i hc
        cases ha
        simp only [Bool.and_eq_true] at hc
        obtain rfl := primEq_eq hc.1
        obtain ⟨a, c, rfl, hx, hy⟩ := PEs.two h
        exact pt_imp (pt_cmpR (cmpO_ok (o := false) G.un hp) hx hy (notSet_ok hc.2)) fun σ H Q h => (TT.tv h).two hn
      · cases ha
    · cases ha
theorem ValL.rng (K : Wd) (H : Hp) (F : Addr → Prop) (a b : Int) : ValL K H F (rngD a b) (rgV a b) := by
  unfold rngD rgV
  generalize List.range (b - a).toNat = l
  induction l with
  | nil => exact ValL.nil
  | cons i l ih => exact ValL.cons val_int ih
/-- list(range(x)) -/
theorem lrg_ok {o : Bool} {fp gp ip pos : Pos} {x : Expr} {a : P} (G : Good nm E n sui io fx q sc fnb X) (hcp : (sui.isSome && calmP .lrg) = false) (hi : noIo [a] = true) (h1 : isGl sc "list" = true) (h2 : isGl sc "range" = true) (hn : nst x = true) (hx : PE X x (tA (cn E X fx q W) a)) :
    PE X (.Call (.Name "list" fp) [.Call (.Name "range" gp) [x] [] ip] [] pos) (TV (cn E X fx q W) o (.op .lrg [a])) := by
  have calm : X.calm = true := G.calm (by cases sui with | none => rfl | some i => cases hcp)
  obtain ⟨g1, _⟩ := isGl_gl G h1
  obtain ⟨g2, _⟩ := isGl_gl G h2
  refine pe_imp (pe_listRg calm g1 (G.blt _ (by decide +kernel)) (prg_1 g2 (G.blt _ (by decide +kernel)) hx (star_cons hn)) rfl) fun σ H Q h => tA.mono (h.one hi) fun v H1 h => ?_
  obtain ⟨F, ts, ds, d, s, l, e, q⟩ := h
  replace e : evLrg ds = .ok d := e
  unfold evLrg at e
  split at e
  · rename_i b
    obtain ⟨hb, rfl⟩ := okIf_ok e
    simp only [Bool.and_eq_true, decide_eq_true_eq] at hb
    obtain ⟨w, e1, bw⟩ := l.b1
    cases e1
    cases bw.int
    exact ⟨b, rfl, RgOk.of_le (Int.le_refl 0) hb.2 (by decide) hb.1, q.lstNew s (ValL.rng _ _ _ 0 b)⟩
  · cases e
/-- an operation -/
theorem op_ok {o : Bool} {p : Prim} {as : List P} {es : List Expr} {e : Expr} (G : Good nm E n sui io fx q sc fnb X) (ho : o = true → p ≠ .idx ∧ p ≠ .dget) (ha : args? sc p e = some es) (hcp : (sui.isSome && calmP p) = false) (hn : noIo as = true) (hs : slcOk p as = true) (hv : isDisp p = true → allVal as = true)
    (h : PEs X (tA (cn E X fx q W)) as es) : PE X e (TV (cn E X fx q W) o (.op p as)) := by
  unfold args? at ha
  split at ha
  · -- a op b
    split at ha
    · rename_i p' hp
      split at ha
      · rename_i hpp
        cases ha
        obtain rfl := primEq_eq hpp
        obtain ⟨a, c, rfl, hx, hy⟩ := PEs.two h
        exact pe_imp (pe_op (binO_ok (o := o) hp) hx hy) fun σ H Q h => h.two hn
      · cases ha
    · cases ha
  · exact cmp_okV G hn ha h
  · -- - a
    split at ha
    · rename_i hc
      cases ha
      obtain rfl := isP_eq hc
      obtain ⟨a, rfl, hx⟩ := PEs.one h
      exact pe_imp (pe_un (o_neg (E := E) (o := o)) hx) fun σ H Q h => h.one hn
    · cases ha
  · -- a[b], a[b:c]
    rename_i x y _
    unfold argsSub at ha
    split at ha
    · split at ha
      · rename_i hc
        cases ha
        obtain ⟨a, c, rfl, hx, hy⟩ := PEs.two h
        cases o with
        | true => exact ((ho rfl).1 rfl).elim
        | false => exact pe_imp (pe_ix (o_idx (E := E)) hx hy (plIx_ok hc)) fun σ H Q h => h.two hn
      · cases ha
    · split at ha
      · rename_i hc
        cases ha
        obtain ⟨a, c, rfl, hx, hy⟩ := PEs.two h
        cases o with
        | true => exact ((ho rfl).2 rfl).elim
        | false => exact pe_imp (pe_dget (by have := G.un; omega) hx hy (plIx_sl hc)) fun σ H Q h => tA.mono (h.two hn) fun v H1 h => tA.mono h fun w H2 h => r_dget h
      · cases ha
    · split at ha
      · split at ha
        · rename_i hc
          cases ha
          simp only [Bool.and_eq_true, beq_iff_eq] at hc
          exact slice_ok hc.1 hc.2 hn hs h
        · cases ha
      · cases ha
    · cases ha
  · -- f(..)
    unfold argsCall at ha
    split at ha
    · rename_i hg
      split at ha
      · split at ha
        · rename_i hc
          cases ha
          simp only [Bool.and_eq_true, decide_eq_true_eq] at hc
          obtain ⟨a, rfl, hx⟩ := PEs.one h
          exact isi_ok G hn hc.1.1.1 hc.1.1.2 hg hc.1.2 hc.2 hx
        · cases ha
      · rename_i g gp x ip
        split at ha
        · rename_i hc
          cases ha
          simp only [Bool.and_eq_true, decide_eq_true_eq] at hc
          obtain ⟨⟨⟨rfl, rfl⟩, hg2⟩, hn2⟩ := hc
          obtain ⟨a, rfl, hx⟩ := PEs.one h
          exact lrg_ok G hcp hn hg hg2 hn2 hx
        · cases ha
      · split at ha
        · rename_i hc
          cases ha
          simp only [Bool.and_eq_true, decide_eq_true_eq] at hc
          obtain ⟨a, rfl, hx⟩ := PEs.one h
          exact c1_ok G hcp hn hc.1.1 hc.1.2 hg hc.2 hx
        · cases ha
      · split at ha
        · rename_i hc
          cases ha
          simp only [Bool.and_eq_true, decide_eq_true_eq] at hc
          obtain ⟨a, c, rfl, hx, hy⟩ := PEs.two h
          exact c2_ok G hcp hn hc.1.1.1 hc.1.1.2 hg hc.1.2 hc.2 hx hy
        · cases ha
      · cases ha
    · cases ha
  · -- max(x, default=y)
    split at ha
    · rename_i hc
      cases ha
      simp only [Bool.and_eq_true, decide_eq_true_eq] at hc
      obtain ⟨⟨⟨⟨h1, h2⟩, h3⟩, h4⟩, h5⟩ := hc
      obtain rfl := isP_eq h1
      refine maxd_ok G ?_ hn h2 h4 h3 h5 h
      cases sui with
      | none => rfl
      | some i => cases hcp
    · cases ha
  · -- (a, b)
    split at ha
    · rename_i hc
      cases ha
      simp only [Bool.and_eq_true] at hc
      obtain rfl := isP_eq hc.1
      refine pe_imp (pe_tup (PEs.pa h hc.2)) fun σ H Q h => TAs.mono (h.argsS (hv rfl)) fun vs H1 h => ?_
      obtain ⟨F, ts, ds, d, s, l, e, q⟩ := h
      obtain ⟨c, rfl⟩ := okIf_ok (show okIf _ _ = .ok d from e)
      exact ⟨by rw [← l.length]; exact of_decide_eq_true c, q.tupNew s l⟩
    · cases ha
  · -- [a, b]
    split at ha
    · rename_i hc
      cases ha
      simp only [Bool.and_eq_true] at hc
      obtain rfl := isP_eq hc.1
      refine pe_imp (pe_lst (PEs.pa h hc.2)) fun σ H Q h => TAs.mono (h.argsS (hv rfl)) fun vs H1 h => ?_
      obtain ⟨F, ts, ds, d, s, l, e, q⟩ := h
      obtain ⟨c, rfl⟩ := okIf_ok (show okIf _ _ = .ok d from e)
      exact ⟨by rw [← l.length]; exact of_decide_eq_true c, q.lstNew s l⟩
    · cases ha
  · cases ha

/-! ### methods -/
theorem Pl.look_now {C : Cn} {σ : L2.St} {K : Wd} {H : Hp} {F : Addr → Prop} {p : Pl} {ρ : Rho} {rest : Things} {d : D} (h : p.look ρ = .ok d) (l : Ln C ρ σ) (s : Sep K H F (zp ρ σ ++ rest)) : ∃ v, σ[p.i]? = some (some v) ∧ Bor K H F d v := by
  have hb : p.bound ρ = true := by
    unfold Pl.look at h
    unfold Pl.bound
    split at h
    · rfl
    · rfl
    · cases h
  obtain ⟨v, hv⟩ := Pl.bound_at hb l s
  exact ⟨v, hv, Pl.look_at (A := []) h hv s⟩
theorem TV.met {m : Met} {r : P} {as : List P} {σ : L2.St} {H : Hp} {Q : VK} {C : Cn} (hr : noIo [r] = true) (hn : noIo as = true) (h : TV C false (.met m r as) σ H Q) :
    tA C r σ H fun x H1 => (∃ F ts d, Sep C.K H1 F ts ∧ Bor C.K H1 F d x ∧ recvOk m d = true) ∧ TAs C as σ H1 fun vs H2 => rM C.K m x vs H2 Q := by
  obtain ⟨ρ, F, rest, l, s, q⟩ := h
  rw [evP] at q
  cases hk : r.kd with
  | val =>
    rw [tAV hk]
    rw [hk] at q
    simp only at q
    rw [EQ.bind] at q
    refine ⟨ρ, F, rest, l, s, q.imp fun x ρ1 ed q v H1 F1 s1 vx => ?_⟩
    split at q
    · rename_i hro
      refine ⟨⟨F1, _, x, s1, vx.bor, hro⟩, ρ1, F1, [(.fz x, some v)] ++ rest, l.to (evP_ok_len ed), (s1.push vx).perm List.perm_middle.symm, ?_⟩
      rw [EQ.bind] at q
      refine q.skip fun ds ρ2 eds q vs H2 F2 s2 lay => ?_
      obtain ⟨d, e, q⟩ := q.at
      have s3 : Sep C.K H2 F2 ((.fz x, some v) :: (AT as ds vs ++ (zp ρ2 σ ++ rest))) := s2.perm ((List.Perm.append_left _ List.perm_middle).trans List.perm_middle)
      obtain ⟨v', e', vx'⟩ := s3.val
      cases e'
      exact ⟨F2, _, x :: ds, d, s3.tail.right, ⟨v, vs, rfl, vx'.bor, lay.bors hn s2⟩, e, q⟩
    · exact q.elim
  | bor p =>
    obtain rfl := kd_bor hk
    simp only [P.kd] at q
    rw [EQ.bind] at q
    obtain ⟨x, ex, q⟩ := q.at
    obtain ⟨v, hv, bx⟩ := Pl.look_now ex l s
    split at q
    · rename_i hro
      refine ⟨v, hv, ⟨F, _, x, s, bx, hro⟩, ρ, F, rest, l, s, ?_⟩
      rw [EQ.bind] at q
      refine q.imp fun ds ρ2 eds q vs H2 F2 s2 lay => ?_
      rw [EQ.bind] at q
      obtain ⟨x2, ex2, q⟩ := q.at
      obtain ⟨d, e, q⟩ := q.at
      exact ⟨F2, _, x2 :: ds, d, s2.right, ⟨v, vs, rfl, Pl.look_at ex2 hv s2, lay.bors hn s2⟩, e, q⟩
    · exact q.elim
  | io p =>
    obtain rfl := kd_io hk
    cases hr
theorem findD_spec (x : PyData) : ∀ (n : Nat) (ys : List PyData) (k : Nat), findD x n ys = some k → ∃ j y, k = n + j ∧ ys[j]? = some y ∧ PyData.eqv y x = true ∧ ∀ i z, i < j → ys[i]? = some z → PyData.eqv z x = false
  | n, [], k, h => by cases h
  | n, y :: ys, k, h => by
    unfold findD at h
    split at h
    · rename_i e
      cases h
      exact ⟨0, y, rfl, rfl, e, fun i z hi => absurd hi (Nat.not_lt_zero _)⟩
    · rename_i e
      obtain ⟨j, z, rfl, h1, h2, h3⟩ := findD_spec x (n + 1) ys k h
      refine ⟨j + 1, z, by omega, by simpa using h1, h2, fun i w hi hw => ?_⟩
      cases i with
      | zero => simp at hw; subst hw; simpa using e
      | succ i => exact h3 i w (by omega) (by simpa using hw)
theorem m_lidx (hu : X.A.units + 200 < cLine) : MtR X "list.index" (rM (wd E X) .lidx) := by
  intro pins s σ H x xs v us Q I rx rxs h
  obtain ⟨F, ts, ds0, d0, hs, hb, he, hq⟩ := h
  replace he : evLidx ds0 = .ok d0 := he
  unfold evLidx at he
  split at he
  · rename_i xs0 y0
    split at he
    · rename_i c
      simp only [Bool.and_eq_true, decide_eq_true_eq] at c
      split at he
      · rename_i k hk
        cases he
        obtain ⟨_, _, e2, b1, b2⟩ := hb.b2
        cases e2
        obtain ⟨a, vs, rfl, hl, lv⟩ := b1.lst
        cases rx
        cases rxs with
        | cons ry rt =>
          rename_i uy ut
          cases rt
          obtain ⟨bs, r1⟩ := Dp.reads I _ _ uy (b2.dp c.1.1) ry
          obtain ⟨j, z, ej, hz, hzj, hno⟩ := findD_spec _ _ _ _ hk
          obtain ⟨its, rv, ⟨⟨cls, dd, data, sls⟩, n, ho, hc, hdn, hdt⟩, hlen⟩ := I.list (SqL.rd (K := X.K) hl)
          simp only at hc hdt
          subst hc hdt
          obtain ⟨as, h4⟩ := Dp.readsAll I _ _ its (lv.dp c.1.2) rv
          have hn : its.length = (D.pyL xs0).length := SeqAt.ReadsAll.length _ its as h4
          have hmap : its.map (SeqAt.readOf s.heap) = D.pyL xs0 := SeqAt.readsAll_map_plain _ its as c.1.2 h4
          have hvl := rv.length
          have hsl := sizeLine_eq
          obtain ⟨hjd, _⟩ := List.getElem?_eq_some_iff.mp hz
          have hjl : j < its.length := by omega
          have hj : j < its.toArray.size := by simpa using hjl
          have at_ : ∀ (m : Nat) (hm : m < its.toArray.size) (z' : PyData), (D.pyL xs0)[m]? = some z' → SeqAt.readOf s.heap its.toArray[m] = z' := by
            intro m hm z' hz'
            have hml : m < its.length := by simpa using hm
            rw [← hmap, List.getElem?_map, List.getElem?_eq_getElem hml] at hz'
            have e1 : SeqAt.readOf s.heap its[m] = z' := Option.some.inj (show some (SeqAt.readOf s.heap its[m]) = some z' from hz')
            simpa using e1
          refine call_meets PySem.F.slot_list_index ⟨_, ho, rfl⟩ PySem.F.entry_list_index (PySem.F.args_list_index_2 _ _)
            (SeqAt.list_indexAt a its.toArray n dd sls uy (fun u => PyData.eqv (SeqAt.readOf s.heap u) _) j hj (by omega) ?_ ?_) ⟨ho, SeqAt.items_plain (vs := its.toArray) (show ReadsAll s.heap its.toArray.toList _ as from h4) r1 c.1.2 c.1.1 (by have := c.2; omega), ?_⟩
          · show PyData.eqv (SeqAt.readOf s.heap its.toArray[j]) _ = true
            rw [at_ j hj z hz]
            exact hzj
          · intro m hm hmj
            have hmd : m < (D.pyL xs0).length := by omega
            have hz' : (D.pyL xs0)[m]? = some (D.pyL xs0)[m] := List.getElem?_eq_getElem hmd
            show PyData.eqv (SeqAt.readOf s.heap its.toArray[m]) _ = false
            rw [at_ m hm _ hz']
            exact hno m _ hmj hz'
          · refine ⟨.int (j : Nat), H, I.tok _, ⟨_, rfl⟩, ?_⟩
            have ek : k = j := by omega
            rw [← ek]
            exact hq _ _ _ hs val_int
      · cases he
    · cases he
  · cases he
theorem recv_str {K : Wd} {m : Met} {H : Hp} {F : Addr → Prop} {d : D} {v : V} (h : recvOk m d = true) (b : Bor K H F d v) (hm : ∀ d, recvOk m d = true → ∃ z, d = .str z) : ∃ a, v = .str a := by
  obtain ⟨z, rfl⟩ := hm d h
  exact ⟨z, b.str⟩
theorem bm_few {es : List Expr} {env : Env} {pos : Pos} (h : es.all nst = true) (hl : es.length < 28) :
    ((backTo pos (starEach es env)).all (fun x => !x.1) && (backToKw pos (keywordEach [] env)).all (fun x => x.1.isSome) && decide (es.length + ([] : List Keyword).length + (if ([] : List Keyword).isEmpty then 0 else 1) < 30)) = true := by
  have h1 : (backTo pos (starEach es env)).all (fun x => !x.1) = true := by
    have := star_plain (env := env) (pos := pos) h
    rw [List.all_eq_not_any_not]
    simp only [Bool.not_not]
    rw [this]; rfl
  rw [h1]
  have h2 : es.length + ([] : List Keyword).length + (if ([] : List Keyword).isEmpty then 0 else 1) < 30 := by
    have e : (if ([] : List Keyword).isEmpty then 0 else 1) = 0 := rfl
    rw [e]
    simp only [List.length_nil]
    omega
  rw [decide_eq_true h2]
  rfl
theorem tyL {K : Wd} {H : Hp} {F : Addr → Prop} {xs : List D} {v : V} (b : Bor K H F (.lst xs) v) : tyV K.K "list" v H := by
  obtain ⟨a, vs, rfl, r, _⟩ := b.lst
  exact .inl ⟨rfl, _, .inl r⟩
theorem met_ok {m : Met} {x : Expr} {es : List Expr} {ap pos : Pos} {r : P} {as : List P} (G : Good nm E n sui io fx q sc fnb X) (h1 : plRc x = true) (h2 : es.all nst = true) (h3 : (ap.endLine == pos.line) = true) (h4 : es.length = metA m) (hr : noIo [r] = true) (hn : noIo as = true)
    (hx : PE X x (tA (cn E X fx q W) r)) (hy : PEs X (tA (cn E X fx q W)) as es) : PE X (.Call (.Attribute x (metN m) ap) es [] pos) (TV (cn E X fx q W) false (.met m r as)) := by
  cases m with
  | join =>
    obtain ⟨y, rfl⟩ : ∃ y, es = [y] := by
      match es, h4 with
      | [y], _ => exact ⟨y, rfl⟩
    obtain ⟨c, rfl, hc⟩ := PEs.one hy
    simp only [List.all_cons, Bool.and_eq_true] at h2
    refine pe_imp (pe_m1 F.slot_str_join F.type_str_join (m_join (E := E)) hx hc (star_cons h2.1) (plRc_ok h1) h3) fun σ H Q h => tA.mono (TV.met hr hn h) fun v H1 h => ?_
    obtain ⟨⟨F1, ts, d, s1, b, r⟩, h⟩ := h
    refine ⟨recv_str r b fun d hd => ?_, tA.mono h.cons fun w H2 h => h.nil⟩
    cases d <;> first | exact ⟨_, rfl⟩ | cases hd
  | sidx =>
    obtain ⟨y, rfl⟩ : ∃ y, es = [y] := by
      match es, h4 with
      | [y], _ => exact ⟨y, rfl⟩
    obtain ⟨c, rfl, hc⟩ := PEs.one hy
    simp only [List.all_cons, Bool.and_eq_true] at h2
    refine pe_imp (pe_m1 F.slot_str_index F.type_str_index (m_sidx (E := E)) hx hc (star_cons h2.1) (plRc_ok h1) h3) fun σ H Q h => tA.mono (TV.met hr hn h) fun v H1 h => ?_
    obtain ⟨⟨F1, ts, d, s1, b, r⟩, h⟩ := h
    refine ⟨recv_str r b fun d hd => ?_, tA.mono h.cons fun w H2 h => h.nil⟩
    cases d <;> first | exact ⟨_, rfl⟩ | cases hd
  | split =>
    obtain ⟨y, rfl⟩ : ∃ y, es = [y] := by
      match es, h4 with
      | [y], _ => exact ⟨y, rfl⟩
    obtain ⟨c, rfl, hc⟩ := PEs.one hy
    simp only [List.all_cons, Bool.and_eq_true] at h2
    refine pe_imp (pe_m1 F.slot_str_split F.type_str_split (m_split (E := E)) hx hc (star_cons h2.1) (plRc_ok h1) h3) fun σ H Q h => tA.mono (TV.met hr hn h) fun v H1 h => ?_
    obtain ⟨⟨F1, ts, d, s1, b, r⟩, h⟩ := h
    refine ⟨recv_str r b fun d hd => ?_, tA.mono h.cons fun w H2 h => h.nil⟩
    cases d <;> first | exact ⟨_, rfl⟩ | cases hd
  | words =>
    obtain rfl := List.eq_nil_of_length_eq_zero h4
    match as, hy with
    | [], _ =>
      refine pe_imp (pe_m0 F.slot_str_split F.type_str_split (m_words (E := E)) hx (plRc_ok h1) h3) fun σ H Q h => tA.mono (TV.met hr hn h) fun v H1 h => ?_
      obtain ⟨⟨F1, ts, d, s1, b, r⟩, h⟩ := h
      refine ⟨recv_str r b fun d hd => ?_, h.nil⟩
      cases d <;> first | exact ⟨_, rfl⟩ | cases hd
    | _ :: _, hy => exact hy.elim
  | lidx =>
    cases es with
    | nil => cases h4
    | cons y es =>
      refine pe_imp (pe_bm PySem.F.plainAttrs_list PySem.F.slot_list_index PySem.F.type_list_index (m_lidx (E := E) G.un) hx (PEs.pa hy h2) (plRc_ok h1) (bm_few h2 (by rw [h4]; decide)) h3 (star_cons (by simp only [List.all_cons, Bool.and_eq_true] at h2; exact h2.1)) (star_plain (by simp only [List.all_cons, Bool.and_eq_true] at h2; exact h2.2)))
        fun σ H Q h => tA.mono (TV.met hr hn h) fun v H1 h => ?_
      obtain ⟨⟨F1, ts, d, s1, b, r⟩, h⟩ := h
      refine ⟨?_, h⟩
      cases d <;> first | exact tyL b | cases r
theorem TV.mut {m : Mut} {p : Pl} {as : List P} {σ : L2.St} {H : Hp} {Q : VK} {C : Cn} (hn : allVal as = true) (h : TV C false (.mut m p as) σ H Q) :
    tPl p σ H fun x H1 => tyV C.K.K "list" x H1 ∧ TAs C as σ H1 fun vs H2 => rMu C.K m x vs H2 Q := by
  obtain ⟨ρ, F, rest, l, s, q⟩ := h
  rw [evP, EQ.bind] at q
  obtain ⟨x, ex, q⟩ := q.at
  obtain ⟨v, hv, bx⟩ := Pl.look_now ex l s
  split at q
  · rename_i hx
    refine ⟨v, hv, ?_, ρ, F, rest, l, s, ?_⟩
    · cases x <;> first | exact tyL bx | cases hx
    · rw [EQ.bind] at q
      refine q.imp fun ds ρ1 eds q vs H2 F2 s2 lay => ?_
      rw [EQ.bind] at q
      obtain ⟨⟨d, ρ2⟩, ed, q⟩ := q.at
      rw [EQ.bind] at q
      obtain ⟨⟨r1, r2⟩, er, q⟩ := q.at
      rw [EQ.bind] at q
      obtain ⟨ρ3, e3, q⟩ := q.at
      have s3 := Pl.take_sep ed hv s2
      refine ⟨F2, AT as ds vs ++ (zp ρ2 σ ++ rest), d, ds, (r1, r2), s3, lay.vals hn s2, er, fun w H3 s4 vw => ?_⟩
      have l2 : Ln C ρ2 σ := l.to ((Pl.take_length ed).trans (evAs_ok_len eds))
      have s5 := Pl.put_sep (A := (.fz r1, some w) :: AT as ds vs) e3 l2 hv ((s4.push vw).perm (List.Perm.swap _ _ _))
      have s6 : Sep C.K H3 F2 ((.fz r1, some w) :: (zp ρ3 σ ++ rest)) := by
        have : Sep C.K H3 F2 ([(.fz r1, some w)] ++ (AT as ds vs ++ (zp ρ3 σ ++ rest))) := s5
        exact Sep.skip (A := [(.fz r1, some w)]) this
      obtain ⟨w', e', q'⟩ := s6.val
      cases e'
      exact q _ _ _ s6.tail q'
  · exact q.elim
theorem mut_ok {m : Mut} {p : Pl} {x : Expr} {es : List Expr} {ap pos : Pos} {as : List P} (h1 : plRc x = true) (h2 : es.all nst = true) (h3 : (ap.endLine == pos.line) = true) (h4 : es.length = mutA m) (hn : allVal as = true)
    (hx : PE X x (tPl p)) (hy : PEs X (tA (cn E X fx q W)) as es) : PE X (.Call (.Attribute x (mutN m) ap) es [] pos) (TV (cn E X fx q W) false (.mut m p as)) := by
  have zero : ∀ {id : String}, es = [] → Slot "list" (mutN m) id → typeOf (.builtin id) = pure (.type "method_descriptor") → MtR X id (rMu (wd E X) m) → PE X (.Call (.Attribute x (mutN m) ap) es [] pos) (TV (cn E X fx q W) false (.mut m p as)) := by
    intro id e sl ty hm
    subst e
    cases as with
    | cons _ _ => exact hy.elim
    | nil =>
      refine pe_imp (pe_bm0 PySem.F.plainAttrs_list sl ty hm hx (plRc_ok h1) h3) fun σ H Q h => ?_
      obtain ⟨v, hv, t, h⟩ := TV.mut hn h
      exact ⟨v, hv, t, h.nil⟩
  have more : ∀ {id : String}, es ≠ [] → Slot "list" (mutN m) id → typeOf (.builtin id) = pure (.type "method_descriptor") → MtR X id (rMu (wd E X) m) → PE X (.Call (.Attribute x (mutN m) ap) es [] pos) (TV (cn E X fx q W) false (.mut m p as)) := by
    intro id e sl ty hm
    cases es with
    | nil => exact (e rfl).elim
    | cons y es =>
      have hlt : (y :: es).length < 28 := by rw [h4]; cases m <;> decide
      have h2' := h2
      simp only [List.all_cons, Bool.and_eq_true] at h2'
      refine pe_imp (pe_bm PySem.F.plainAttrs_list sl ty hm hx (PEs.pa hy h2) (plRc_ok h1) (bm_few h2 hlt) h3 (star_cons h2'.1) (star_plain h2'.2)) fun σ H Q h => ?_
      obtain ⟨v, hv, t, h⟩ := TV.mut hn h
      exact ⟨v, hv, t, h⟩
  have e0 : mutA m = 0 → es = [] := fun z => List.eq_nil_of_length_eq_zero (by omega)
  have e1 : mutA m ≠ 0 → es ≠ [] := fun z e => by subst e; exact z h4.symm
  cases m with
  | app => exact more (e1 (by decide)) PySem.F.slot_list_append PySem.F.type_list_append m_app
  | ext => exact more (e1 (by decide)) PySem.F.slot_list_extend PySem.F.type_list_extend m_ext
  | pop => exact zero (e0 rfl) PySem.F.slot_list_pop PySem.F.type_list_pop m_pop
  | popAt => exact more (e1 (by decide)) PySem.F.slot_list_pop PySem.F.type_list_pop m_popAt
  | ins => exact more (e1 (by decide)) PySem.F.slot_list_insert PySem.F.type_list_insert m_ins
  | rev => exact zero (e0 rfl) PySem.F.slot_list_reverse PySem.F.type_list_reverse m_rev
  | clr => exact zero (e0 rfl) PySem.F.slot_list_clear PySem.F.type_list_clear m_clr

/-! ### isinstance of the handled exception -/
theorem xis_ok {o : Bool} {i c : Nat} {f x y z : Str} {fp xp yp pos : Pos} {b : Bool} (G : Good nm E n sui io fx q sc fnb X) (hf : f = "isinstance") (hg : isGl sc f = true) (hs : sui = some i) (hv : isVis X.N sc i x = true) (hy : isGl sc y = true) (hc : nm.cls c = some (z, b)) (hz : z = y) :
    PE X (.Call (.Name f fp) [.Name x xp, .Name y yp] [] pos) (TV (cn E X fx q W) o (.xis i c)) := by
  subst hz hf
  refine ⟨fun pins s σ H Q I h => ?_⟩
  obtain ⟨ρ, F, rest, l, sp, qq⟩ := h
  rw [evP] at qq
  obtain ⟨d, ed, qq⟩ := qq.at
  unfold evXis at ed
  split at ed
  · rename_i k hk
    split at ed
    · rename_i kb hkb
      cases ed
      obtain ⟨X0, a, Dc, oe, pn, j, e1, e2, e3, hzc, hfd, hex, hfx⟩ := G.hx k hk
      rw [hs] at e1
      cases e1
      obtain ⟨gl, gd⟩ := isGl_gl G hg
      obtain ⟨gl2, gd2⟩ := isGl_gl G hy
      obtain ⟨v1, v2, v3, v4⟩ := isVis_vis G hv
      have hσ : σ[i]? = some (some (.ref a)) := l.f _ (hfx (List.getElem?_eq_some_iff.mp v1).1)
      obtain ⟨_, hkit, _⟩ := G.sub k c kb hkb
      rw [e3] at hkit
      -- the class
      have cl : ∃ (cv : V), (∀ u, RelV cv u → u = E.xc c) ∧ PE X (.Name z yp) (tC cv) := by
        rcases G.cls c z b hc with ⟨m1, D', eD⟩ | ⟨m1, m2, m3, T, eT⟩
        · refine ⟨.ref D', fun u hu => ?_, pe_glob gl2 m1 (by rw [eD]; rfl) gd2⟩
          rw [eD]; exact hu
        · refine ⟨.ty T, fun u hu => ?_, pe_bltn (v := .ty T) gl2 m1 m2 (by rw [eT]; rfl) m3 gd2⟩
          rw [eT]; exact hu
      obtain ⟨cv, hcv, pc⟩ := cl
      have pa : PA X [.Name x xp, .Name z yp] (tCons (tVar i) (tCons (tC cv) tNil)) := pa_cons (pe_var v1 v2 v3 v4) (pa_cons pc pa_nil (star_cons rfl)) (star_cons rfl)
      have hr : CallR X (.builtin "isinstance") (rIsE X.K Dc a) := by
        subst e2
        exact call_isE (X := X0) hex hzc hfd
      refine (pe_callB hr gl (G.blt _ (by decide +kernel)) (by decide +kernel) pa (by decide +kernel) gd (star_cons rfl) (by rfl)).run pins s σ H Q I ?_
      refine ⟨.ref a, hσ, cv, E.xc c, kb, rfl, hcv, hkit, ?_⟩
      have h0 : PQ o (wd E X) (zp ρ σ ++ rest) (.bl kb) Q := qq
      exact h0.bl sp
    · cases ed
  · cases ed

/-! ### calls of defs -/
def isIo : P → Bool
  | .io _ => true
  | _ => false
theorem ioPos_cons {i : Nat} {a : P} {as : List P} : ioPos i (a :: as) = if isIo a then i :: ioPos (i + 1) as else ioPos (i + 1) as := by
  cases a <;> rfl
theorem ioPos_ge : ∀ (as : List P) (i k : Nat), k ∈ ioPos i as → i ≤ k
  | [], _, _, h => by cases h
  | a :: as, i, k, h => by
    rw [ioPos_cons] at h
    split at h
    · rcases List.mem_cons.mp h with rfl | h
      · exact Nat.le_refl _
      · exact Nat.le_of_succ_le (ioPos_ge as (i + 1) k h)
    · exact Nat.le_of_succ_le (ioPos_ge as (i + 1) k h)
theorem ioPos_head {i : Nat} {a : P} {as : List P} : (ioPos i (a :: as)).contains i = isIo a := by
  rw [ioPos_cons]
  cases isIo a with
  | true => simp
  | false =>
    simp only [Bool.false_eq_true, if_false]
    have : ¬ i ∈ ioPos (i + 1) as := fun m => by have := ioPos_ge as (i + 1) i m; omega
    simpa using this
theorem ioPos_tail {i k : Nat} {a : P} {as : List P} (h : i < k) : (ioPos i (a :: as)).contains k = (ioPos (i + 1) as).contains k := by
  rw [ioPos_cons]
  split
  · rw [List.contains_cons]
    have : (k == i) = false := by simp; omega
    rw [this, Bool.false_or]
  · rfl
def noBor : List P → Bool
  | [] => true
  | .bor _ :: _ => false
  | _ :: es => noBor es
theorem AT_PT {io : List Nat} : ∀ {as : List P} {i : Nat} {ds : List D} {vs : List V}, noBor as = true → (∀ k, i ≤ k → io.contains k = (ioPos i as).contains k) → ds.length = as.length → AT as ds vs = PT' io i ds vs
  | [], i, ds, vs, _, _, hl => by
    cases ds with
    | nil => rfl
    | cons _ _ => cases hl
  | a :: as, i, ds, vs, hb, hio, hl => by
    cases ds with
    | nil => cases hl
    | cons d ds =>
      cases vs with
      | nil => rfl
      | cons v vs =>
        have h0 := hio i (Nat.le_refl _)
        rw [ioPos_head] at h0
        have ih := AT_PT (as := as) (i := i + 1) (ds := ds) (vs := vs) (by cases a <;> first | exact hb | cases hb) (fun k hk => by rw [hio k (by omega), ioPos_tail (by omega)]) (by simpa using hl)
        unfold AT PT'
        rw [ih, h0]
        cases a <;> first | rfl | cases hb
/-- what is lent, by the arguments -/
def OT' : List P → List V → List D → Things
  | .io _ :: es, v :: vs, o :: os => (.own o, some v) :: OT' es vs os
  | .io _ :: _, _, _ => []
  | _ :: es, _ :: vs, os => OT' es vs os
  | _, _, _ => []
theorem OT_OT' : ∀ {as : List P} {i : Nat} {vs0 vs : List V} {os : List D}, vs0.drop i = vs → vs.length = as.length → os.length = (ioPos i as).length → OT (ioPos i as) vs0 os = OT' as vs os
  | [], i, vs0, vs, os, _, _, hl => by
    cases os with
    | nil => rfl
    | cons _ _ => cases hl
  | a :: as, i, vs0, vs, os, e, hv, hl => by
    cases vs with
    | nil => cases hv
    | cons v vs =>
      have e' : vs0.drop (i + 1) = vs := by
        have := congrArg List.tail e
        simpa [List.tail_drop] using this
      rw [ioPos_cons] at hl ⊢
      have hi : vs0[i]? = some v := by
        have := congrArg List.head? e
        simpa [List.head?_drop] using this
      cases ha : isIo a with
      | true =>
        rw [ha, if_pos rfl] at hl
        rw [if_pos rfl]
        cases os with
        | nil => cases hl
        | cons o os =>
          cases a <;> first | cases ha | skip
          unfold OT OT'
          rw [hi, OT_OT' e' (by simpa using hv) (by simpa using hl)]
      | false =>
        rw [ha, if_neg Bool.false_ne_true] at hl
        rw [if_neg Bool.false_ne_true]
        have ih := OT_OT' (as := as) (i := i + 1) e' (by simpa using hv) hl
        rw [ih]
        cases a <;> first | rfl | cases ha
theorem putBack_sep {K : Wd} {C : Cn} {σ : L2.St} {H0 H : Hp} {F0 F : Addr → Prop} : ∀ {as : List P} {ds : List D} {vs : List V} {os : List D} {ρ ρ' : Rho} {A rest : Things}, putBack as os ρ = .ok ρ' → Ln C ρ σ → Lay K H0 F0 σ as ds vs → Sep K H F (OT' as vs os ++ (A ++ (zp ρ σ ++ rest))) → Sep K H F (A ++ (zp ρ' σ ++ rest))
  | [], ds, vs, os, ρ, ρ', A, rest, h, l, lay, s => by
    cases os with
    | nil => cases h; exact s
    | cons _ _ => cases h
  | a :: as, ds, vs, os, ρ, ρ', A, rest, h, l, lay, s => by
    cases ds with
    | nil => exact lay.elim
    | cons d ds =>
      cases vs with
      | nil => exact lay.elim
      | cons v vs =>
        cases ha : isIo a with
        | true =>
          cases a <;> first | cases ha | skip
          rename_i p
          cases os with
          | nil => cases h
          | cons o os =>
            obtain ⟨ρ1, e1, e2⟩ := bind_ok' (show (putBack as os ρ).bind (fun ρ => p.put ρ o) = .ok ρ' from h)
            have s1 : Sep K H F (OT' as vs os ++ (((.own o, some v) :: A) ++ (zp ρ σ ++ rest))) := s.perm List.perm_middle.symm
            have s2 := putBack_sep e1 l lay.2 s1
            exact Pl.put_sep (A := A) e2 (l.to (putBack_length e1)) lay.1 s2
        | false =>
          have h' : putBack as os ρ = .ok ρ' := by cases a <;> first | (cases os <;> exact h) | cases ha
          have s' : Sep K H F (OT' as vs os ++ (A ++ (zp ρ σ ++ rest))) := by cases a <;> first | exact s | cases ha
          exact putBack_sep h' l lay.2 s'
theorem putBack_len : ∀ {as : List P} {i : Nat} {os : List D} {ρ ρ' : Rho}, putBack as os ρ = .ok ρ' → os.length = (ioPos i as).length
  | [], i, os, ρ, ρ', h => by
    cases os with
    | nil => rfl
    | cons _ _ => cases h
  | a :: as, i, os, ρ, ρ', h => by
    rw [ioPos_cons]
    cases ha : isIo a with
    | true =>
      cases a <;> first | cases ha | skip
      rename_i p
      cases os with
      | nil => cases h
      | cons o os =>
        obtain ⟨ρ1, e1, e2⟩ := bind_ok' (show (putBack as os ρ).bind (fun ρ => p.put ρ o) = .ok ρ' from h)
        rw [if_pos rfl]
        simp [putBack_len (i := i + 1) e1]
    | false =>
      have h' : putBack as os ρ = .ok ρ' := by cases a <;> first | (cases os <;> exact h) | cases ha
      rw [if_neg Bool.false_ne_true]
      exact putBack_len h'
theorem Lay.lens {K : Wd} {H : Hp} {F : Addr → Prop} {σ : L2.St} : ∀ {es : List P} {ds : List D} {vs : List V}, Lay K H F σ es ds vs → ds.length = es.length ∧ vs.length = es.length
  | [], [], [], _ => ⟨rfl, rfl⟩
  | [], [], _ :: _, h => h.elim
  | [], _ :: _, _, h => h.elim
  | _ :: _, [], _, h => h.elim
  | _ :: _, _ :: _, [], h => h.elim
  | e :: es, d :: ds, v :: vs, h => by
    obtain ⟨a, b⟩ := Lay.lens h.2
    exact ⟨by simp [a], by simp [b]⟩
theorem ioPos_none : ∀ {as : List P} {i : Nat}, noIo as = true → ioPos i as = []
  | [], _, _ => rfl
  | a :: as, i, h => by
    rw [ioPos_cons]
    have h1 : isIo a = false := by cases a <;> first | rfl | cases h
    have h2 : noIo as = true := by cases a <;> first | exact h | cases h
    rw [h1, if_neg Bool.false_ne_true, ioPos_none h2]
theorem TV.callTmp {o : Bool} {f : Nat} {l : P} {as : List P} {Q : VK} {σ : L2.St} {H : Hp} {C : Cn} (hb : noBor as = true) (hio : noIo as = true) (h : TV C false (.callT f l as) σ H Q) :
    TV C true l σ H fun x H1 => TAs C as σ H1 fun vs H2 => spD C.K [0] (C.q.F f) (x :: vs) H2 Q (WE C.W σ) := by
  obtain ⟨ρ, F, rest, ln, s, q⟩ := h
  rw [evP, EQ.bind] at q
  refine ⟨ρ, F, rest, ln, s, q.imp fun d ρ1 ed q => ?_⟩
  have l1 := ln.to (evP_ok_len ed)
  split at q
  · rename_i hcon
    unfold PQ
    rw [hcon]
    intro v H1 F1 s1
    rw [EQ.bind] at q
    refine ⟨ρ1, F1, [(.own d, some v)] ++ rest, l1, s1.perm List.perm_middle.symm, q.skip fun es ρ2 eds q vs H2 F2 s2 lay => ?_⟩
    obtain ⟨h1, h2⟩ := lay.lens
    have l2 := l1.to (evAs_ok_len eds)
    refine ⟨F2, d :: es, zp ρ2 σ ++ rest, by simp only [List.length_cons]; omega, ?_, ?_⟩
    · have e : PT' [0] 0 (d :: es) (v :: vs) = (.own d, some v) :: AT as es vs := by
        rw [AT_PT (io := [0]) (i := 1) hb (fun k hk => by
          rw [ioPos_none hio]
          have : k ≠ 0 := by omega
          simp [this]) h1]
        rfl
      rw [e]
      refine s2.perm ?_
      show (AT as es vs ++ (zp ρ2 σ ++ ((Sl.own d, some v) :: rest))).Perm ((.own d, some v) :: (AT as es vs ++ (zp ρ2 σ ++ rest)))
      exact (List.Perm.append_left _ List.perm_middle).trans List.perm_middle
    · cases er : C.q.F f (d :: es) with
      | stuck => rw [er] at q; exact q.elim
      | ok w os =>
        rw [er] at q
        match os, q with
        | [od], q =>
          refine ⟨rfl, fun u H3 F3 s3 => ?_⟩
          have s3 : Sep C.K H3 F3 ((.fz w, some u) :: (.own od, some v) :: (zp ρ2 σ ++ rest)) := s3
          obtain ⟨w', e, vw⟩ := s3.val
          cases e
          exact q u H3 F3 s3.tail.tail vw
        | [], q => exact q.elim
        | _ :: _ :: _, q => exact q.elim
      | exc c os =>
        rw [er] at q
        match os, q with
        | [od], q =>
          refine ⟨rfl, fun H3 F3 s3 => ?_⟩
          have s3 : Sep C.K H3 F3 ((.own od, some v) :: (zp ρ2 σ ++ rest)) := s3
          exact q H3 F3 l2 s3.tail
        | [], q => exact q.elim
        | _ :: _ :: _, q => exact q.elim
  · exact q.elim
theorem TV.callA {f : Nat} {as : List P} {Q : VK} {σ : L2.St} {H : Hp} {C : Cn} (hb : noBor as = true) (h : TV C false (.call f as) σ H Q) : TAs C as σ H fun vs H1 => spD C.K (ioPos 0 as) (C.q.F f) vs H1 Q (WE C.W σ) := by
  obtain ⟨ρ, F, rest, l, s, q⟩ := h
  rw [evP, EQ.bind] at q
  refine ⟨ρ, F, rest, l, s, q.imp fun ds ρ1 eds q vs H2 F2 s2 lay => ?_⟩
  have l1 := l.to (evAs_ok_len eds)
  obtain ⟨h1, h2⟩ := lay.lens
  refine ⟨F2, ds, zp ρ1 σ ++ rest, by omega, ?_, ?_⟩
  · rw [← AT_PT (as := as) hb (fun k _ => rfl) h1]
    exact s2
  · cases er : C.q.F f ds with
    | stuck => rw [er] at q; exact q.elim
    | ok d os =>
      rw [er] at q
      unfold callE at q
      simp only at q
      rw [EQ.bind] at q
      obtain ⟨ρ2, e2, q⟩ := q.at
      have hlen : os.length = (ioPos 0 as).length := putBack_len e2
      refine ⟨hlen, fun v H3 F3 s3 => ?_⟩
      rw [OT_OT' (as := as) (vs := vs) rfl h2 hlen] at s3
      have s4 : Sep C.K H3 F3 (OT' as vs os ++ ([(.fz d, some v)] ++ (zp ρ1 σ ++ rest))) := s3.perm List.perm_middle.symm
      have s5 := putBack_sep e2 l1 lay s4
      have s5 : Sep C.K H3 F3 ((.fz d, some v) :: (zp ρ2 σ ++ rest)) := s5
      obtain ⟨w, e, vw⟩ := s5.val
      cases e
      exact q v H3 F3 s5.tail vw
    | exc c os =>
      rw [er] at q
      unfold callE at q
      simp only at q
      rw [EQ.bind] at q
      obtain ⟨ρ2, e2, q⟩ := q.at
      have hlen : os.length = (ioPos 0 as).length := putBack_len e2
      refine ⟨hlen, fun H3 F3 s3 => ?_⟩
      rw [OT_OT' (as := as) (vs := vs) rfl h2 hlen] at s3
      exact q H3 F3 (l1.to (putBack_length e2)) (putBack_sep (A := []) e2 l1 lay s3)
end
end Bk

/-! Bz: zip of a tuple and a list (the kit has two lists, and two tuples). -/
namespace Bk
open PySem PySem.Spec PyProof.Rows L2

abbrev mzA (m : Heap) (t : Addr) : Heap := m.push { cls := .type "tuple_iterator", data := .fields #[.ref t, .int 0 0] }
abbrev mzB (m : Heap) (t l : Addr) : Heap := (mzA m t).push { cls := .type "list_iterator", data := .fields #[.ref l, .int 0 0] }
abbrev mzC (m : Heap) (t l : Addr) : Heap := (mzB m t l).push { cls := .type "tuple", data := .seq #[.ref m.objs.size, .ref (mzA m t).objs.size] }
abbrev mzD (m : Heap) (t l : Addr) : Heap := (mzC m t l).push { cls := .type "tuple", data := .seq #[.none, .none] }
abbrev mzE (m : Heap) (t l : Addr) : Heap := (mzD m t l).push { cls := .type "zip", data := .fields #[.none, .bool false, .bool false, .ref (mzB m t l).objs.size, .ref (mzC m t l).objs.size] }
theorem mz_new (t l : Addr) (us ws : Array Value) :
    Meets (Builtin.«zip.__new__» ⟨[.type "zip", .ref t, .ref l], []⟩) (fun _ R st => st.heap.IsTuple t us ∧ st.heap.IsList l ws ∧
      R (.ok (.ret (.ref (mzD st.heap t l).objs.size))) { st with heap := mzE st.heap t l }) :=
  .of_wp fun prog w A R st q => by
    obtain ⟨hp, g, d, tk, os⟩ := st
    obtain ⟨q1, q2, q⟩ := q
    have sz := sub_zip
    have e1 : Heap.IsTuple (Shared.heap ⟨hp, g, d, tk, os⟩) t us := q1
    have e2 : Heap.IsList (Shared.heap ⟨hp.push { cls := .type "tuple_iterator", data := .fields #[.ref t, .int 0 0] }, g, d, tk, os⟩) l ws := Heap.IsList.push q2 _
    wp_walk using wpAny_pyIter_tuple e1, wpAny_pyIter_list e2
    exact ⟨_, rfl, q⟩
section
variable {prog : Program} {w : World} {A : Around} {E : Value → Shared → Prop} {s : Shared}
theorem mz_call {t l : Addr} {us ws : Array Value} {Q : Value → Shared → Prop} (q1 : s.heap.IsTuple t us) (q2 : s.heap.IsList l ws)
    (k : ∀ m, IsZip m (s.heap.objs.size + 4) (s.heap.objs.size + 2) (s.heap.objs.size + 3) .none → IsPair m (s.heap.objs.size + 2) (.ref s.heap.objs.size) (.ref (s.heap.objs.size + 1)) →
      IsPair m (s.heap.objs.size + 3) .none .none → m.IsTupleIter s.heap.objs.size t 0 → m.IsListIter (s.heap.objs.size + 1) l 0 →
      (∀ c o, s.heap.get? c = some o → m.get? c = some o) → Q (.ref (s.heap.objs.size + 4)) { s with heap := m }) :
    wpAny (model prog w) A (call (.type "zip") [.ref t, .ref l]) Q E s := by
  refine callType_new F.called_zip (by decide) (F.typeCall_zip_2 _ _) (F.newCall_zip_2 _ _) (fun ob => F.args_object_init_3 ob _ _) F.entry_zip_new (mz_new t l us ws) ⟨q1, q2, ?_⟩
  have n1 : (mzA s.heap t).objs.size = s.heap.objs.size + 1 := Heap.size_push ..
  have n2 : (mzB s.heap t l).objs.size = s.heap.objs.size + 2 := by rw [Heap.size_push, n1]
  have n3 : (mzC s.heap t l).objs.size = s.heap.objs.size + 3 := by rw [Heap.size_push, n2]
  have n4 : (mzD s.heap t l).objs.size = s.heap.objs.size + 4 := by rw [Heap.size_push, n3]
  have up1 : ∀ {c o}, (mzD s.heap t l).get? c = some o → (mzE s.heap t l).get? c = some o := fun e => Heap.get?_push_of_some _ e
  have up2 : ∀ {c o}, (mzC s.heap t l).get? c = some o → (mzE s.heap t l).get? c = some o := fun e => up1 (Heap.get?_push_of_some _ e)
  have up3 : ∀ {c o}, (mzB s.heap t l).get? c = some o → (mzE s.heap t l).get? c = some o := fun e => up2 (Heap.get?_push_of_some _ e)
  have up4 : ∀ {c o}, (mzA s.heap t).get? c = some o → (mzE s.heap t l).get? c = some o := fun e => up3 (Heap.get?_push_of_some _ e)
  have a5 : (mzE s.heap t l).get? (mzD s.heap t l).objs.size = some _ := Heap.get?_push_size _ rfl
  have a4 : (mzE s.heap t l).get? (mzC s.heap t l).objs.size = some _ := up1 (Heap.get?_push_size _ rfl)
  have a3 : (mzE s.heap t l).get? (mzB s.heap t l).objs.size = some _ := up2 (Heap.get?_push_size _ rfl)
  have a2 : (mzE s.heap t l).get? (mzA s.heap t).objs.size = some _ := up3 (Heap.get?_push_size _ rfl)
  have a1 : (mzE s.heap t l).get? s.heap.objs.size = some _ := up4 (Heap.get?_push_size _ rfl)
  show _ ∧ _
  rw [n2, n3, n4] at a5
  rw [n1, n2] at a3
  rw [n3] at a4
  rw [n1] at a2
  rw [n4]
  exact ⟨⟨_, a5, rfl⟩, k _ a5 a3 a4 ⟨_, a1, rfl, rfl⟩ ⟨_, a2, rfl, rfl⟩ fun c o x => up4 (Heap.get?_push_of_some _ x)⟩
end
/-- the tuple at a and the list at b, as they stand at each turn -/
def ItM (K : PySem.W.Frag) (a b : Addr) : It :=
  ⟨fun i H => ∃ (us ws : List V) (x y : V), SqT K H a us ∧ SqL K H b ws ∧ us[i]? = some x ∧ ws[i]? = some y,
    fun i H v H' => ∃ T x y, v = .ref T ∧ H T = none ∧ H' = upd H T (.tup [x, y]) ∧ (∀ us, SqT K H a us → us[i]? = some x) ∧ ∀ ws, SqL K H b ws → ws[i]? = some y,
    fun i H => ∃ us ws : List V, SqT K H a us ∧ SqL K H b ws ∧ (us.length ≤ i ∨ ws.length ≤ i) ∧ i ≤ us.length ∧ i ≤ ws.length⟩
theorem mz_five {z TI TO i1 i2 c : Addr} (h : c ∈ [z, TI, TO, i1, i2]) : c = z ∨ c = TI ∨ c = TO ∨ c = i1 ∨ c = i2 := by simpa using h
theorem mz_sep {a b z TI TO i1 i2 : Addr} (D : ZipApart z TI TO i1 i2 a b) : ZipSep2 z TI TO i1 i2 [i1, a] [i2, b] where
  TIz := D.TIz
  TOz := D.TOz
  TITO := D.TITO
  TIi1 := D.TIi1
  TIi2 := D.TIi2
  mem1 := by simp
  mem2 := by simp
  zf1 := by simp [D.i1z.symm, D.l1z.symm]
  zf2 := by simp [D.i2z.symm, D.l2z.symm]
  Tf1 := by simp [D.TOi1, D.l1TO.symm]
  Tf2 := by simp [D.TOi2, D.l2TO.symm]
  sep1_2 := by simp [D.i12, D.l2i1.symm]
  sep2_1 := by simp [D.i12.symm, D.l1i2.symm]
theorem mz_turn {P : Program} {w : World} {K : PySem.W.Frag} {elts : List Expr} {kk : Nat} {tpos : Pos} {a b z TI TO i1 i2 : Addr} (D : ZipApart z TI TO i1 i2 a b) :
    Turn P w K (.Tuple elts kk tpos) (ItM K a b) [z, TI, TO, i1, i2] z (fun i m => IsZip m z TI TO .none ∧ IsPair m TI (.ref i1) (.ref i2) ∧ (∃ x y, IsPair m TO x y) ∧ m.IsTupleIter i1 a i ∧ m.IsListIter i2 b i) where
  mem := by simp
  obj := fun i m st c hc => by
    obtain ⟨hz, hTI, ⟨x, y, hTO⟩, ⟨o1, e1, _, d1⟩, ⟨o2, e2, _, d2⟩⟩ := st
    rcases mz_five hc with q | q | q | q | q <;> subst q
    · exact ⟨_, hz, nofun⟩
    · exact ⟨_, hTI, nofun⟩
    · exact ⟨_, hTO, nofun⟩
    · exact ⟨o1, e1, fun v q => by rw [d1] at q; cases q⟩
    · exact ⟨o2, e2, fun v q => by rw [d2] at q; cases q⟩
  keep := fun i m m' st k => by
    obtain ⟨hz, hTI, ⟨x, y, hTO⟩, h1, h2⟩ := st
    refine ⟨k z (by simp) _ hz, k TI (by simp) _ hTI, ⟨x, y, ?_⟩, ?_, ?_⟩
    · exact k TO (by simp) _ hTO
    · exact h1.at fun o => k i1 (by simp) o
    · exact h2.at fun o => k i2 (by simp) o
  item := by
    intro X hP hw hK hc i pins s σ H E I hf st hg
    subst hP hw hK
    obtain ⟨hz, hTI, ⟨x0, y0, hTO⟩, h1, h2⟩ := st
    obtain ⟨us, ws, x, y, qa, qb, hx, hy⟩ := hg
    obtain ⟨as, ra, pa, _⟩ := I.tuple qa
    obtain ⟨bs, rb, pb, _⟩ := I.list qb
    obtain ⟨u, hu, ru⟩ := ra.get hx
    obtain ⟨v, hv, rv⟩ := rb.get hy
    have hzl : z < s.heap.objs.size := Heap.lt_size hz
    have hd := I.ok.hd hc
    have n1 : i < as.toArray.size := by have := (List.getElem?_eq_some_iff.mp hu).1; simpa using this
    have n2 : i < bs.toArray.size := by have := (List.getElem?_eq_some_iff.mp hv).1; simpa using this
    refine wpAny_pyNext_zipD2_item (mz_sep D) (Draws.tuple (A := X.A.in1) hd i1 a D.l1i1 as.toArray) (Draws.list (A := X.A.in1) hd i2 b D.l2i2 bs.toArray) hz hTI hTO ⟨h1, pa⟩ ⟨h2, pb.isList⟩ n1 n2 fun x1 x2 m tk y1 y2 z' TO' st1 st2 hT hsz hk => ?_
    have ex1 : x1 = u := by
      have : as.toArray[i]? = some u := by simpa using hu
      rw [y1] at this; exact Option.some.inj this
    have ex2 : x2 = v := by
      have : bs.toArray[i]? = some v := by simpa using hv
      rw [y2] at this; exact Option.some.inj this
    subst ex1 ex2
    refine ⟨_, rfl, wpAny_letOwnedTupleGo_zip (s := { s with heap := m, toks := tk }) z' fun m2 z2 sb => ?_⟩
    have stay : ∀ c o, c ∉ [z, TI, TO, i1, i2] → s.heap.get? c = some o → m2.get? c = some o := fun c o hb e => by
      simp only [List.mem_cons, List.not_mem_nil, or_false, not_or] at hb
      exact (sb.2 c hb.1).trans (hk c o hb.1 hb.2.2.1 hb.2.2.2.1 hb.2.2.2.2 e)
    have hT2 : m2.get? s.heap.objs.size = some { cls := .type "tuple", data := .seq #[x1, x2] } := (sb.2 _ (Nat.ne_of_gt hzl)).trans hT
    have new : ObjOk X.prog X.w (upd H s.heap.objs.size (.tup [x, y])) m2 s.heap.objs.size (.tup [x, y]) :=
      ⟨by show 2 ≤ sizeLine; decide, [x1, x2], .cons ru (.cons rv .nil), ⟨_, hT2, rfl, _, rfl⟩⟩
    have I1 : Inv X pins σ (upd H s.heap.objs.size (.tup [x, y])) { s with heap := m2, toks := tk } :=
      I.turnedNew (t' := tk) (ch := [z, TI, TO, i1, i2]) stay hf (Nat.le_refl _) new
    refine ⟨.ref s.heap.objs.size, _, I1, rfl, ⟨_, x, y, rfl, I.hok.fresh (Nat.le_refl _), rfl, fun l hl => by rw [I.tuple_inj hl qa]; exact hx, fun l hl => by rw [I.list_inj hl qb]; exact hy⟩, ⟨z2, ?_, ⟨x1, x2, ?_⟩, ?_, ?_⟩, fun c hcm => ?_⟩
    · exact (sb.2 _ D.TIz).trans (hk _ _ D.TIz D.TITO D.TIi1 D.TIi2 hTI)
    · exact (sb.2 _ D.TOz).trans TO'
    · exact st1.1.at fun o => (sb.2 _ D.i1z).trans
    · exact st2.1.at fun o => (sb.2 _ D.i2z).trans
    · have hlt : c < s.heap.objs.size := by
        rcases mz_five hcm with q | q | q | q | q <;> subst q
        · exact hzl
        · exact Heap.lt_size hTI
        · exact Heap.lt_size hTO
        · obtain ⟨_, e1, _⟩ := h1; exact Heap.lt_size e1
        · obtain ⟨_, e2, _⟩ := h2; exact Heap.lt_size e2
      rw [upd_ne (Nat.ne_of_lt hlt)]
      exact (hf c hcm).1
  done := by
    intro X hP hw hK hc i pins s σ H E I hf st hg
    subst hP hw hK
    obtain ⟨hz, hTI, ⟨x0, y0, hTO⟩, h1, h2⟩ := st
    obtain ⟨us, ws, qa, qb, hend, le1, le2⟩ := hg
    obtain ⟨as, ra, pa, _⟩ := I.tuple qa
    obtain ⟨bs, rb, pb, _⟩ := I.list qb
    have l1 := ra.length
    have l2 := rb.length
    have hd := I.ok.hd hc
    refine wpAny_pyNext_zipD2_end (mz_sep D) (Draws.tuple (A := X.A.in1) hd i1 a D.l1i1 as.toArray) (Draws.list (A := X.A.in1) hd i2 b D.l2i2 bs.toArray) hz hTI hTO ⟨h1, pa⟩ ⟨h2, pb.isList⟩ (by simp; omega) (by simp; omega) (by simp; omega) fun m tk hk => ?_
    refine ⟨rfl, I.turnedL (t' := tk) (ch := [z, TI, TO, i1, i2]) (fun c o hb q => ?_) hf⟩
    simp only [List.mem_cons, List.not_mem_nil, or_false, not_or] at hb
    exact hk c o hb.1 hb.2.2.1 hb.2.2.2.1 hb.2.2.2.2 q
  self := fun A i s Q E st h => wpAny_pyIter_zip st.1 h
/-- what zip walks: two lists, two tuples, a tuple and a list -/
def iZipM (K : PySem.W.Frag) (ta : TA) : TI := fun σ H R => ta σ H fun vs H1 => ∃ a b us ws, vs = [.ref a, .ref b] ∧
  ((SqL K H1 a us ∧ SqL K H1 b ws ∧ R (Itz K a b) H1) ∨ (SqT K H1 a us ∧ SqT K H1 b ws ∧ R (RZ.ItzT K a b) H1) ∨ (SqT K H1 a us ∧ SqL K H1 b ws ∧ R (ItM K a b) H1))
theorem mz_fp {X : Cx} {pins : List (Addr × Obj)} {σ : L2.St} {H : Hp} {s : Shared} (I : Inv X pins σ H s) : ∀ c, c ∈ [s.heap.objs.size + 4, s.heap.objs.size + 2, s.heap.objs.size + 3, s.heap.objs.size, s.heap.objs.size + 1] → FpOk X pins H c := fun c hcm => by
  have hle : s.heap.objs.size ≤ c := by
    rcases mz_five hcm with q | q | q | q | q <;> rw [q]
    · exact Nat.le_add_right _ _
    · exact Nat.le_add_right _ _
    · exact Nat.le_add_right _ _
    · exact Nat.le_refl _
    · exact Nat.le_add_right _ _
  exact I.fpOk hle (I.hok.fresh hle)
theorem pi_zipM {X : Cx} {x y : Expr} {ta : TA} {p pos tpos : Pos} {elts : List Expr} {kk : Nat} (gl : Gl X "zip") (hm : X.mg "zip" = none) (ha : PA X [x, y] ta)
    (st : starEach [x, y] X.env = (false, eval x X.env) :: starEach [y] X.env) (pl : (backTo pos (starEach [y] X.env)).any (·.1) = false) :
    PI X (.Tuple elts kk tpos) (.Call (.Name "zip" p) [x, y] [] pos) (iZipM X.K ta) := by
  refine ⟨fun pins s σ H R I h => Call_ (ld_blt I gl hm PyProof.Rows.boot_zip (PyProof.Rows.callWith_type1 (thn (ha.run pos pins s σ H _ I h) fun us s1 ⟨vs, H1, I1, r1, q1⟩ => ?_) st pl))⟩
  obtain ⟨a, b, as, bs, rfl, q1⟩ := q1
  obtain ⟨u, w, rfl, ru, rw'⟩ : ∃ u w, us = [u, w] ∧ RelV (.ref a) u ∧ RelV (.ref b) w := by
    cases r1 with
    | cons r z =>
      cases z with
      | cons r' z => cases z; exact ⟨_, _, rfl, r, r'⟩
  cases ru
  cases rw'
  rcases q1 with ⟨qa, qb, q⟩ | ⟨qa, qb, q⟩ | ⟨qa, qb, q⟩
  · obtain ⟨is1, _, p1, _⟩ := I1.list qa
    obtain ⟨is2, _, p2, _⟩ := I1.list qb
    refine call_zip_2 p1.isList p2.isList fun m hz hTI hTO h1 h2 _ hk => wpAny_pyIter_zip hz ?_
    exact ⟨_, _, _, _, H1, rfl, I1.kept (t' := s1.toks) hk, turn_zip (PySem.W.ktu_apart s1.heap.objs.size a b p1.lt p2.lt), ⟨hz, hTI, ⟨_, _, hTO⟩, h1, h2⟩, mz_fp I1, q⟩
  · obtain ⟨is1, _, p1, _⟩ := I1.tuple qa
    obtain ⟨is2, _, p2, _⟩ := I1.tuple qb
    obtain ⟨o1, ho1, _⟩ := id p1
    obtain ⟨o2, ho2, _⟩ := id p2
    refine RZ.call_zipT (show s1.heap.IsTuple a is1.toArray from p1) (show s1.heap.IsTuple b is2.toArray from p2) fun m hz hTI hTO h1 h2 _ hk => wpAny_pyIter_zip hz ?_
    exact ⟨_, _, _, _, H1, rfl, I1.kept (t' := s1.toks) hk, RZ.turn_zipT (PySem.W.ktu_apart s1.heap.objs.size a b (Heap.lt_size ho1) (Heap.lt_size ho2)), ⟨hz, hTI, ⟨_, _, hTO⟩, h1, h2⟩, mz_fp I1, q⟩
  · obtain ⟨is1, _, p1, _⟩ := I1.tuple qa
    obtain ⟨is2, _, p2, _⟩ := I1.list qb
    obtain ⟨o1, ho1, _⟩ := id p1
    refine mz_call (show s1.heap.IsTuple a is1.toArray from p1) p2.isList fun m hz hTI hTO h1 h2 hk => wpAny_pyIter_zip hz ?_
    exact ⟨_, _, _, _, H1, rfl, I1.kept (t' := s1.toks) hk, mz_turn (PySem.W.ktu_apart s1.heap.objs.size a b (Heap.lt_size ho1) p2.lt), ⟨hz, hTI, ⟨_, _, hTO⟩, h1, h2⟩, mz_fp I1, q⟩
end Bk

/-! B8: targets, walks, comprehensions. -/
namespace Bk
open PySem PySem.Spec PyProof.Rows L2

/-! ### targets -/
def gTs : List Nat → TGs
  | [] => gNil
  | i :: is => gCons (gName i) (gTs is)
def gT (K : PySem.W.Frag) : Tg → TG
  | .v i => gName i
  | .t is => gTup K is.length (gTs is)
theorem wipe_in {σ : L2.St} {i : Nat} : ∀ {vs : List Nat}, i ∈ vs → (wipe σ vs)[i]? = if i < σ.length then some none else none
  | [], h => by simp at h
  | v :: vs, h => by
    unfold wipe
    by_cases e : v = i
    · subst e
      rw [List.getElem?_set]
      simp only [if_pos, wipe_length]
    · rw [List.getElem?_set_ne e]
      exact wipe_in (by rcases List.mem_cons.mp h with z | z; exact (e z.symm).elim; exact z)
theorem wipe_set {σ : L2.St} {i : Nat} {x : Option V} {vs : List Nat} (h : i ∈ vs) : wipe (σ.set i x) vs = wipe σ vs := by
  apply List.ext_getElem?
  intro j
  by_cases hj : j ∈ vs
  · rw [wipe_in hj, wipe_in hj, List.length_set]
  · rw [wipe_out hj, wipe_out hj, List.getElem?_set_ne (fun e => hj (by rw [← e]; exact h))]
/-- the slots that stay are others -/
def Off (fx : List (Nat × V)) (is : List Nat) : Prop := ∀ i ∈ is, ∀ p ∈ fx, p.1 ≠ i
section
variable {C : Cn} {K : Wd} {σ : L2.St} {H : Hp} {F : Addr → Prop}
theorem Ln.set {ρ : Rho} {i : Nat} {s : Sl} {o : Option V} (l : Ln C ρ σ) (hf : ∀ p ∈ C.fx, p.1 ≠ i) : Ln C (ρ.set i s) (σ.set i o) :=
  ⟨by rw [List.length_set]; exact l.r, by rw [List.length_set]; exact l.s, fun p hp => by rw [List.getElem?_set_ne fun e => hf p hp e.symm]; exact l.f p hp⟩
theorem Sep.setFz {ρ : Rho} {rest : Things} {i : Nat} {d : D} {v : V} (l : Ln C ρ σ) (h : Sep K H F (zp ρ σ ++ rest)) (q : Val K H F d v) (hi : i < C.N.length) : Sep K H F (zp (ρ.set i (.fz d)) (σ.set i (some v)) ++ rest) :=
  (h.push q).setSlot (by rw [l.r]; exact hi) (by rw [l.s]; exact hi)
theorem tgts_ok : ∀ {is : List Nat} {ds : List D} {vs : List V} {ρ ρ' : Rho} {σ : L2.St} {rest : Things} {Q : L2.St → Hp → Prop}, setL is ds ρ = .ok ρ' → (∀ i ∈ is, i < C.N.length) → Off C.fx is → Ln C ρ σ → Sep K H F (zp ρ σ ++ rest) → ValL K H F ds vs →
    (∀ σ', Ln C ρ' σ' → Sep K H F (zp ρ' σ' ++ rest) → (∀ ws, (∀ i ∈ is, i ∈ ws) → wipe σ' ws = wipe σ ws) → Q σ' H) → gTs is vs σ H Q
  | [], ds, vs, ρ, ρ', σ, rest, Q, e, _, _, l, s, v, q => by
    cases ds with
    | cons _ _ => cases e
    | nil =>
      cases e
      unfold ValL at v
      exact ⟨v, q σ l s fun _ _ => rfl⟩
  | i :: is, ds, vs, ρ, ρ', σ, rest, Q, e, hi, hf, l, s, v, q => by
    cases ds with
    | nil => cases e
    | cons d ds =>
      unfold ValL at v
      obtain ⟨w, r, rfl, v1, v2⟩ := v
      refine ⟨w, r, rfl, ?_⟩
      refine tgts_ok (is := is) (ds := ds) (ρ := ρ.set i (.fz d)) (σ := σ.set i (some w)) e (fun j hj => hi j (List.mem_cons_of_mem _ hj)) (fun j hj => hf j (List.mem_cons_of_mem _ hj)) (l.set (hf i List.mem_cons_self)) (s.setFz l v1 (hi i List.mem_cons_self)) v2 fun σ' l' s' w' => q σ' l' s' fun ws hw => ?_
      rw [w' ws fun j hj => hw j (List.mem_cons_of_mem _ hj), wipe_set (hw i List.mem_cons_self)]
theorem setL_len : ∀ {is : List Nat} {ds : List D} {ρ ρ' : Rho}, setL is ds ρ = .ok ρ' → is.length = ds.length
  | [], [], _, _, _ => rfl
  | [], _ :: _, _, _, e => by cases e
  | _ :: _, [], _, _, e => by cases e
  | i :: is, d :: ds, ρ, ρ', e => by
    have := setL_len (is := is) (ds := ds) e
    simp [this]
theorem tgt_ok {tg : Tg} {d : D} {v : V} {ρ ρ' : Rho} {rest : Things} {Q : L2.St → Hp → Prop} (e : setT tg d ρ = .ok ρ') (hi : ∀ i ∈ tg.slots, i < C.N.length) (hf : Off C.fx tg.slots) (l : Ln C ρ σ) (s : Sep K H F (zp ρ σ ++ rest)) (q : Val K H F d v)
    (h : ∀ σ', Ln C ρ' σ' → Sep K H F (zp ρ' σ' ++ rest) → (∀ ws, (∀ i ∈ tg.slots, i ∈ ws) → wipe σ' ws = wipe σ ws) → Q σ' H) : gT K.K tg v σ H Q := by
  cases tg with
  | v i =>
    cases e
    exact h _ (l.set (hf i (by simp [Tg.slots]))) (s.setFz l q (hi i (by simp [Tg.slots]))) fun ws hw => wipe_set (hw i (by simp [Tg.slots]))
  | t is =>
    cases d with
    | tup xs =>
      unfold Val at q
      obtain ⟨a, vs, rfl, t, _, vl⟩ := q
      exact ⟨a, vs, rfl, t, by rw [← vl.length]; exact (setL_len e).symm, tgts_ok e hi hf l s vl h⟩
    | _ => cases e
end
section
variable {nm : Nm} {E : Wo} {n : Nat} {sui : Option Nat} {io : List Nat} {fx : List (Nat × V)} {q : En} {sc : Scope} {fnb : Str → Bool} {X : Cx} {W : WX}
theorem fx_off (G : Good nm E n sui io fx q sc fnb X) {i : Nat} (h1 : io.contains i = false) (h2 : sui ≠ some i) : ∀ p ∈ fx, p.1 ≠ i := fun p hp e => by
  rcases G.fxio p hp with z | z
  · rw [e, h1] at z; cases z
  · rw [e] at z; exact h2 z
theorem pgs_ok (G : Good nm E n sui io fx q sc fnb X) (hs : sui = none) : ∀ {is : List Nat} {es : List Expr}, cmTgs X.N io sc fnb is es = true → PGs X es (gTs is) ∧ (assignEach es X.env).length = is.length ∧ (assignEach es X.env).all (fun p => !p.1) = true ∧ (∀ i ∈ is, i < X.N.length) ∧ Off fx is
  | [], [], _ => ⟨pgs_nil, rfl, rfl, (fun i h => nomatch h), (fun i h => nomatch h)⟩
  | [], _ :: _, h => by cases h
  | _ :: _, [], h => by cases h
  | i :: is, e :: es, h => by
    cases e with
    | Name x p =>
      simp only [cmTgs, Bool.and_eq_true, Bool.not_eq_true'] at h
      obtain ⟨h1, h2, h3⟩ := isLoc_loc G h.1.1
      obtain ⟨a, b, c, d, f⟩ := pgs_ok G hs (is := is) (es := es) h.2
      refine ⟨pgs_cons (pg_name (i := i) G.nd h1 h2 h3) a, ?_, ?_, fun j hj => ?_, fun j hj => ?_⟩
      · show (assignEach es X.env).length + 1 = is.length + 1
        rw [b]
      · show (!false && (assignEach es X.env).all (fun p => !p.1)) = true
        rw [c]; rfl
      · rcases List.mem_cons.mp hj with rfl | hj
        · exact (List.getElem?_eq_some_iff.mp h1).1
        · exact d j hj
      · rcases List.mem_cons.mp hj with rfl | hj
        · exact fx_off G h.1.2 (by rw [hs]; intro z; cases z)
        · exact f j hj
    | _ => cases h
theorem pg_ok (G : Good nm E n sui io fx q sc fnb X) {tg : Tg} {e : Expr} (h : cmTg X.N io sui sc fnb tg e = true) : PG X e (gT X.K tg) ∧ (∀ i ∈ tg.slots, i < X.N.length) ∧ Off fx tg.slots := by
  cases tg with
  | v i =>
    cases e with
    | Name x p =>
      have h : (isLoc X.N sc fnb i x && !io.contains i && decide (sui ≠ some i)) = true := h
      simp only [Bool.and_eq_true, Bool.not_eq_true', decide_eq_true_eq] at h
      obtain ⟨h1, h2, h3⟩ := isLoc_loc G h.1.1
      refine ⟨pg_name (i := i) G.nd h1 h2 h3, fun j hj => ?_, fun j hj => ?_⟩
      · simp only [Tg.slots, List.mem_singleton] at hj
        subst hj
        exact (List.getElem?_eq_some_iff.mp h1).1
      · simp only [Tg.slots, List.mem_singleton] at hj
        subst hj
        exact fx_off G h.1.2 h.2
    | _ => cases h
  | t is =>
    cases e with
    | Tuple es k p =>
      have h : (sui.isNone && cmTgs X.N io sc fnb is es) = true := h
      simp only [Bool.and_eq_true, Option.isNone_iff_eq_none] at h
      obtain ⟨a, b, c, d, f⟩ := pgs_ok G h.1 h.2
      refine ⟨pg_tup (G.calm h.1) a b ?_, d, f⟩
      rw [List.findIdx?_eq_none_iff]
      intro x hx
      have := List.all_eq_true.mp c x hx
      simpa using this
    | _ => cases h

theorem tg_slots (hfx : ∀ p ∈ fx, io.contains p.1 = true ∨ sui = some p.1) {N : List Str} {tg : Tg} {e : Expr} (h : cmTg N io sui sc fnb tg e = true) : (∀ i ∈ tg.slots, i < N.length) ∧ Off fx tg.slots := by
  have off : ∀ {i : Nat}, io.contains i = false → sui ≠ some i → ∀ p ∈ fx, p.1 ≠ i := fun {i} h1 h2 p hp e => by
    rcases hfx p hp with z | z
    · rw [e, h1] at z; cases z
    · rw [e] at z; exact h2 z
  have many : sui = none → ∀ {is : List Nat} {es : List Expr}, cmTgs N io sc fnb is es = true → (∀ i ∈ is, i < N.length) ∧ Off fx is := by
    intro hs is
    induction is with
    | nil => intro es _; exact ⟨(fun i h => nomatch h), (fun i h => nomatch h)⟩
    | cons i is ih =>
      intro es h
      cases es with
      | nil => cases h
      | cons e es =>
        cases e with
        | Name x p =>
          simp only [cmTgs, Bool.and_eq_true, Bool.not_eq_true'] at h
          obtain ⟨a, b⟩ := ih h.2
          have h1 := h.1.1
          unfold isLoc at h1
          simp only [Bool.and_eq_true, decide_eq_true_eq] at h1
          have hi := (List.getElem?_eq_some_iff.mp h1.1).1
          refine ⟨fun j hj => ?_, fun j hj => ?_⟩
          · rcases List.mem_cons.mp hj with rfl | hj
            · exact hi
            · exact a j hj
          · rcases List.mem_cons.mp hj with rfl | hj
            · exact off h.1.2 (by rw [hs]; intro z; cases z)
            · exact b j hj
        | _ => cases h
  cases tg with
  | v i =>
    cases e with
    | Name x p =>
      have h : (isLoc N sc fnb i x && !io.contains i && decide (sui ≠ some i)) = true := h
      simp only [Bool.and_eq_true, Bool.not_eq_true', decide_eq_true_eq] at h
      have h1 := h.1.1
      unfold isLoc at h1
      simp only [Bool.and_eq_true, decide_eq_true_eq] at h1
      have hi := (List.getElem?_eq_some_iff.mp h1.1).1
      refine ⟨fun j hj => ?_, fun j hj => ?_⟩
      · simp only [Tg.slots, List.mem_singleton] at hj
        subst hj; exact hi
      · simp only [Tg.slots, List.mem_singleton] at hj
        subst hj; exact off h.1.2 h.2
    | _ => cases h
  | t is =>
    cases e with
    | Tuple es k p =>
      have h : (sui.isNone && cmTgs N io sc fnb is es) = true := h
      simp only [Bool.and_eq_true, Option.isNone_iff_eq_none] at h
      exact many h.1 h.2
    | _ => cases h

/-! ### walks -/
def rIt (K : PySem.W.Frag) : V → Hp → (It → Hp → Prop) → Prop := fun x H R =>
  (∃ a xs, x = .ref a ∧ SqL K H a xs ∧ R (Itl K a) H) ∨ (∃ a xs, x = .ref a ∧ SqT K H a xs ∧ R (Itt K a) H) ∨ ∃ z, x = .str z ∧ R (Its z) H
theorem pi_any {tg l : Expr} {tl : TE} (hl : PE X l tl) : PI X tg l (fun σ H R => tl σ H fun x H1 => rIt X.K x H1 R) := by
  refine ⟨fun pins s σ H R I h => ?_⟩
  refine thn (hl.run pins s σ H _ I h) fun v s1 ⟨x, H1, I1, r1, q1⟩ => ?_
  rcases q1 with ⟨a, xs, e, hq, q⟩ | ⟨a, xs, e, hq, q⟩ | ⟨z, e, q⟩
  · subst e
    cases r1
    obtain ⟨its, rv, p, hz⟩ := I1.list hq
    refine wpAny_pyIter_list p.isList ?_
    exact pi_one (tk := s1.toks) I1 _ (turn_list a _) ⟨_, Heap.get?_push_size _ rfl, rfl, rfl⟩ q
  · subst e
    cases r1
    obtain ⟨its, rv, p, hz⟩ := I1.tuple hq
    refine wpAny_pyIter_tuple (show s1.heap.IsTuple a its.toArray from p) ?_
    exact pi_one (tk := s1.toks) I1 _ (turn_tuple a _) ⟨_, Heap.get?_push_size _ rfl, rfl, rfl⟩ q
  · subst e
    obtain ⟨t, rfl⟩ := r1
    cases ha : z.cps.all (· < 128)
    · exact wpAny_pyIter_wide ha (pi_one (tk := s1.toks) I1 _ (turn_str _ z t "str_iterator" (.inr rfl)) ⟨_, Heap.get?_push_size _ rfl, rfl, rfl⟩ q)
    · exact wpAny_pyIter_ascii ha (pi_one (tk := s1.toks) I1 _ (turn_str _ z t "str_ascii_iterator" (.inl rfl)) ⟨_, Heap.get?_push_size _ rfl, rfl, rfl⟩ q)
theorem walks_tup {K : Wd} {a : Addr} {xs : List D} {need : Things} (hm : (Sl.fz (.tup xs), some (V.ref a)) ∈ need) : Walks K (Itt K.K a) need xs := by
  intro i H F ts s hn
  obtain ⟨w, e, q⟩ := s.mem_val (hn _ hm)
  cases e
  obtain ⟨b, vs, e, t, l⟩ := q.bor.tup
  cases e
  refine ⟨fun d hd => ?_, fun h => ⟨vs, t, by rw [← l.length]; exact Nat.le_of_eq h⟩⟩
  obtain ⟨x, hx, qx⟩ := l.get hd
  exact ⟨⟨vs, x, t, hx⟩, fun y H' ⟨e, z⟩ => by
    subst e
    have := z vs t
    rw [hx] at this
    cases this
    exact ⟨F, s, qx⟩⟩
theorem walks_lst {K : Wd} {a : Addr} {xs : List D} {d0 : D} {need : Things} (hd : itemsOf d0 = .ok xs) (hl : (∃ ys, d0 = .lst ys) ∨ ∃ ns, d0 = .scr ns) (hm : (Sl.fz d0, some (V.ref a)) ∈ need ∨ (Sl.own d0, some (V.ref a)) ∈ need) : Walks K (Itl K.K a) need xs := by
  intro i H F ts s hn
  have hb : Bor K H F d0 (.ref a) := by
    rcases hm with m | m
    · obtain ⟨w, e, q⟩ := s.mem_val (hn _ m)
      cases e
      exact q.bor
    · obtain ⟨w, e, q⟩ := s.mem_own (hn _ m)
      cases e
      exact q
  obtain ⟨b, vs, e, r, l⟩ : ∃ b vs, V.ref a = V.ref b ∧ SqL K.K H b vs ∧ ValL K H F xs vs := by
    rcases hl with ⟨ys, rfl⟩ | ⟨ns, rfl⟩
    · cases hd
      obtain ⟨b, vs, e, r, l⟩ := hb.lst
      exact ⟨b, vs, e, .inl r, l⟩
    · cases hd
      obtain ⟨b, e, r, l⟩ := hb.scr
      exact ⟨b, _, e, r, l⟩
  cases e
  have t : SqL K.K H a vs := r
  refine ⟨fun d hd => ?_, fun h => ⟨vs, t, by rw [← l.length]; exact Nat.le_of_eq h⟩⟩
  obtain ⟨x, hx, qx⟩ := l.get hd
  exact ⟨⟨vs, x, t, hx⟩, fun y H' ⟨e, z⟩ => by
    subst e
    have := z vs t
    rw [hx] at this
    cases this
    exact ⟨F, s, qx⟩⟩
theorem walks_str {K : Wd} {z : Str} {need : Things} : Walks K (Its z) need (z.cps.toList.map fun c => D.str ⟨#[c]⟩) := by
  intro i H F ts s _
  refine ⟨fun d hd => ?_, fun h => ?_⟩
  · rw [List.getElem?_map, Option.map_eq_some_iff] at hd
    obtain ⟨c, hc, rfl⟩ := hd
    have hc' : z.cps[i]? = some c := by simpa using hc
    refine ⟨(Array.getElem?_eq_some_iff.mp hc').1, fun y H' ⟨e, c', hc2, e2⟩ => ?_⟩
    subst e
    rw [hc'] at hc2
    cases hc2
    subst e2
    exact ⟨F, s, val_str⟩
  · show z.cps.size ≤ i
    have h := Nat.le_of_eq h
    simpa using h
theorem walks_rng {K : Wd} {a b : Int} {need : Things} : Walks K (Itr a (b - a).toNat) need (rngD a b) := by
  intro i H F ts s _
  unfold rngD
  refine ⟨fun d hd => ?_, fun h => ?_⟩
  · rw [List.getElem?_map, Option.map_eq_some_iff] at hd
    obtain ⟨c, hc, rfl⟩ := hd
    obtain ⟨hl, e⟩ := List.getElem?_eq_some_iff.mp hc
    simp only [List.length_range] at hl
    simp only [List.getElem_range] at e
    subst e
    exact ⟨hl, fun y H' ⟨e, e2⟩ => by
      subst e e2
      exact ⟨F, s, val_int⟩⟩
  · show (b - a).toNat ≤ i
    have h := Nat.le_of_eq h
    simpa using h
theorem zipD_get {xs ys : List D} {i : Nat} {d : D} (h : (zipD xs ys)[i]? = some d) : ∃ x y, xs[i]? = some x ∧ ys[i]? = some y ∧ d = .tup [x, y] := by
  unfold zipD at h
  rw [List.getElem?_zipWith] at h
  cases hx : xs[i]? with
  | none => rw [hx] at h; cases h
  | some x =>
    cases hy : ys[i]? with
    | none => rw [hx, hy] at h; cases h
    | some y =>
      rw [hx, hy] at h
      exact ⟨x, y, rfl, rfl, (Option.some.inj h).symm⟩
theorem walks_zipT {K : Wd} {a b : Addr} {xs ys : List D} {need : Things} (m1 : (Sl.fz (.tup xs), some (V.ref a)) ∈ need) (m2 : (Sl.fz (.tup ys), some (V.ref b)) ∈ need) : Walks K (RZ.ItzT K.K a b) need (zipD xs ys) := by
  intro i H F ts s hn
  obtain ⟨w, e, q⟩ := s.mem_val (hn _ m1)
  cases e
  obtain ⟨a', vs, e, t, l⟩ := q.bor.tup
  cases e
  obtain ⟨w, e, q2⟩ := s.mem_val (hn _ m2)
  cases e
  obtain ⟨b', us, e, t2, l2⟩ := q2.bor.tup
  cases e
  refine ⟨fun d hd => ?_, fun h => ⟨vs, us, t, t2, ?_⟩⟩
  · obtain ⟨x, y, hx, hy, rfl⟩ := zipD_get hd
    obtain ⟨v, hv, qv⟩ := l.get hx
    obtain ⟨u, hu, qu⟩ := l2.get hy
    refine ⟨⟨vs, us, v, u, t, t2, hv, hu⟩, fun z H' ⟨T, v', u', e, hT, e2, f1, f2⟩ => ?_⟩
    subst e e2
    have e1 := f1 vs t
    rw [hv] at e1
    cases e1
    have e2 := f2 us t2
    rw [hu] at e2
    cases e2
    have n := s.tupNew hT (ValL.cons qv (ValL.cons qu ValL.nil))
    exact ⟨F, n.1, n.2⟩
  · have h1 := l.length
    have h2 := l2.length
    have h3 : min xs.length ys.length = i := by simpa [zipD] using h
    omega
theorem walks_zipL {K : Wd} {a b : Addr} {xs ys : List D} {need : Things} (m1 : (Sl.fz (.lst xs), some (V.ref a)) ∈ need) (m2 : (Sl.fz (.lst ys), some (V.ref b)) ∈ need) : Walks K (Itz K.K a b) need (zipD xs ys) := by
  intro i H F ts s hn
  obtain ⟨w, e, q⟩ := s.mem_val (hn _ m1)
  cases e
  obtain ⟨a', vs, e, t, l⟩ := q.bor.lst
  cases e
  obtain ⟨w, e, q2⟩ := s.mem_val (hn _ m2)
  cases e
  obtain ⟨b', us, e, t2, l2⟩ := q2.bor.lst
  cases e
  have t : SqL K.K H a vs := .inl t
  have t2 : SqL K.K H b us := .inl t2
  refine ⟨fun d hd => ?_, fun h => ⟨vs, us, t, t2, ?_⟩⟩
  · obtain ⟨x, y, hx, hy, rfl⟩ := zipD_get hd
    obtain ⟨v, hv, qv⟩ := l.get hx
    obtain ⟨u, hu, qu⟩ := l2.get hy
    refine ⟨⟨vs, us, v, u, t, t2, hv, hu⟩, fun z H' ⟨T, v', u', e, hT, e2, f1, f2⟩ => ?_⟩
    subst e e2
    have e1 := f1 vs t
    rw [hv] at e1
    cases e1
    have e2 := f2 us t2
    rw [hu] at e2
    cases e2
    have n := s.tupNew hT (ValL.cons qv (ValL.cons qu ValL.nil))
    exact ⟨F, n.1, n.2⟩
  · have h1 := l.length
    have h2 := l2.length
    have h3 : min xs.length ys.length = i := by simpa [zipD] using h
    omega
theorem walks_zipM {K : Wd} {a b : Addr} {xs ys : List D} {need : Things} (m1 : (Sl.fz (.tup xs), some (V.ref a)) ∈ need) (m2 : (Sl.fz (.lst ys), some (V.ref b)) ∈ need) : Walks K (ItM K.K a b) need (zipD xs ys) := by
  intro i H F ts s hn
  obtain ⟨w, e, q⟩ := s.mem_val (hn _ m1)
  cases e
  obtain ⟨a', vs, e, t, l⟩ := q.bor.tup
  cases e
  obtain ⟨w, e, q2⟩ := s.mem_val (hn _ m2)
  cases e
  obtain ⟨b', us, e, t2, l2⟩ := q2.bor.lst
  cases e
  have t2 : SqL K.K H b us := .inl t2
  refine ⟨fun d hd => ?_, fun h => ⟨vs, us, t, t2, ?_⟩⟩
  · obtain ⟨x, y, hx, hy, rfl⟩ := zipD_get hd
    obtain ⟨v, hv, qv⟩ := l.get hx
    obtain ⟨u, hu, qu⟩ := l2.get hy
    refine ⟨⟨vs, us, v, u, t, t2, hv, hu⟩, fun z H' ⟨T, v', u', e, hT, e2, f1, f2⟩ => ?_⟩
    subst e e2
    have e1 := f1 vs t
    rw [hv] at e1
    cases e1
    have e2 := f2 us t2
    rw [hu] at e2
    cases e2
    have n := s.tupNew hT (ValL.cons qv (ValL.cons qu ValL.nil))
    exact ⟨F, n.1, n.2⟩
  · have h1 := l.length
    have h2 := l2.length
    have h3 : min xs.length ys.length = i := by simpa [zipD] using h
    omega
/-- what a thing that is looked at walks over -/
theorem rIt_of {K : Wd} {H : Hp} {F : Addr → Prop} {d : D} {v : V} {xs : List D} {R : It → Hp → Prop} {need : Things} (hb : Bor K H F d v) (hi : itemsOf d = .ok xs) (hm : (Sl.fz d, some v) ∈ need ∨ (Sl.own d, some v) ∈ need) (hc : (Sl.own d, some v) ∈ need → isCon d = true)
    (h : ∀ J, Walks K J need xs → R J H) : rIt K.K v H R := by
  cases d with
  | tup ys =>
    cases hi
    obtain ⟨a, vs, rfl, t, vl⟩ := hb.tup
    refine .inr (.inl ⟨a, vs, rfl, t, h _ (walks_tup ?_)⟩)
    rcases hm with m | m
    · exact m
    · have := hc m; cases this
  | lst ys =>
    obtain ⟨a, vs, rfl, t, vl⟩ := hb.lst
    exact .inl ⟨a, vs, rfl, .inl t, h _ (walks_lst hi (.inl ⟨_, rfl⟩) hm)⟩
  | scr ns =>
    obtain ⟨a, rfl, t, vl⟩ := hb.scr
    exact .inl ⟨a, _, rfl, t, h _ (walks_lst hi (.inr ⟨_, rfl⟩) hm)⟩
  | str z =>
    cases hi
    cases hb.str
    exact .inr (.inr ⟨z, rfl, h _ walks_str⟩)
  | _ => cases hi
theorem TI.bor {C : Cn} {p : Pl} {σ : L2.St} {H : Hp} {Rr : It → Hp → Prop} (h : TI' C (.bor p) σ H Rr) : tPl p σ H fun x H1 => rIt C.K.K x H1 Rr := by
  obtain ⟨ρ, F, rest, l, s, q⟩ := h
  unfold evI at q
  rw [evP, EQ.bind] at q
  obtain ⟨x, ex, q⟩ := q.at
  obtain ⟨v, hv, bx⟩ := Pl.look_now ex l s
  refine ⟨v, hv, ?_⟩
  rw [EQ.bind] at q
  obtain ⟨xs, exs, q⟩ := q.at
  rw [EQ.bind] at q
  obtain ⟨⟨lo, ρ'⟩, el, q⟩ := q.at
  have qq : ∀ J H' F' ex, Sep C.K H' F' (LT lo σ ++ (ex ++ (zp ρ' σ ++ rest))) → Walks C.K J (LT lo σ ++ ex) xs → Rr J H' := q
  clear q
  unfold lendI at el
  simp only at el
  cases et : p.take ρ with
  | ok dr =>
    obtain ⟨d, ρt⟩ := dr
    rw [et] at el
    simp only [R.ok.injEq, Prod.mk.injEq] at el
    obtain ⟨rfl, rfl⟩ := el
    have ed : d = x := by
      unfold Pl.take at et
      unfold Pl.look at ex
      split at et
      · rename_i h1 h2
        cases et
        rw [h1, h2] at ex
        cases ex; rfl
      · cases et
    subst ed
    have s1 := Pl.take_sep (A := []) et hv s
    have hLT : LT (some (p, d)) σ = [(Sl.own d, some v)] := by simp [LT, hv]
    rw [hLT] at qq
    refine rIt_of (need := [(Sl.own d, some v)]) bx exs (.inr List.mem_cons_self) (fun _ => ?_) fun J w => qq J H F [] s1 w
    rcases Sep.own_con s1 with ⟨_, rfl⟩ | ⟨_, _, _, rfl⟩ <;> rfl
  | stuck =>
    rw [et] at el
    simp only [R.ok.injEq, Prod.mk.injEq] at el
    obtain ⟨rfl, rfl⟩ := el
    have hfz : ρ[p.i]? = some (.fz x) := by
      unfold Pl.take at et
      unfold Pl.look at ex
      split at ex
      · rename_i h1 h2; cases ex; exact h2
      · rename_i h1 h2
        rw [h1, h2] at et
        cases et
      · cases ex
    obtain ⟨w, e, vx⟩ := s.mem_val (List.mem_append_left _ (zp_mem hfz hv))
    cases e
    refine rIt_of (need := [(Sl.fz x, some v)]) bx exs (.inl List.mem_cons_self) (fun m => ?_) fun J w => qq J H F [(Sl.fz x, some v)] (s.push vx) w
    simp at m
theorem TI.val {C : Cn} {e : P} {σ : L2.St} {H : Hp} {Rr : It → Hp → Prop} (hk : e.kd = .val) (h : TI' C e σ H Rr) : TV C false e σ H fun x H1 => rIt C.K.K x H1 Rr := by
  obtain ⟨ρ, F, rest, l, s, q⟩ := h
  unfold evI at q
  rw [EQ.bind] at q
  refine ⟨ρ, F, rest, l, s, q.imp fun d ρ1 ed q v H1 F1 s1 vd => ?_⟩
  rw [EQ.bind] at q
  obtain ⟨xs, exs, q⟩ := q.at
  rw [EQ.bind] at q
  obtain ⟨⟨lo, ρ'⟩, el, q3⟩ := q.at
  clear q
  have e0 : lo = none ∧ ρ' = ρ1 := by
    unfold lendI at el
    split at el
    · cases hk
    · cases el; exact ⟨rfl, rfl⟩
  obtain ⟨rfl, rfl⟩ := e0
  have qq : ∀ J H' F' ex, Sep C.K H' F' (LT none σ ++ (ex ++ (zp ρ' σ ++ rest))) → Walks C.K J (LT none σ ++ ex) xs → Rr J H' := q3
  refine rIt_of (need := [(Sl.fz d, some v)]) vd.bor exs (.inl List.mem_cons_self) (fun m => ?_) fun J w => qq J H1 F1 [(Sl.fz d, some v)] (s1.push vd) w
  simp at m
end

/-! ### the slots that a comprehension has of its own -/
section
variable {C : Cn} {K : Wd} {σ : L2.St} {H : Hp} {F : Addr → Prop}
theorem Ln.wipe {ρ : Rho} {σ : L2.St} (l : Ln C ρ σ) {vs : List Nat} (hf : Off C.fx vs) : Ln C (wipeR ρ vs) (L2.wipe σ vs) :=
  ⟨by rw [wipeR_len]; exact l.r, by rw [wipe_length]; exact l.s, fun p hp => by rw [wipe_out fun m => hf _ m p hp rfl]; exact l.f p hp⟩
theorem wipeR_in {ρ : Rho} {i : Nat} : ∀ {vs : List Nat}, i ∈ vs → (wipeR ρ vs)[i]? = if i < ρ.length then some .un else none
  | [], h => by simp at h
  | v :: vs, h => by
    unfold wipeR
    by_cases e : v = i
    · subst e
      rw [List.getElem?_set]
      simp only [if_pos, wipeR_len]
    · rw [List.getElem?_set_ne e]
      exact wipeR_in (by rcases List.mem_cons.mp h with z | z; exact (e z.symm).elim; exact z)
theorem wipeR_out {ρ : Rho} {i : Nat} : ∀ {vs : List Nat}, i ∉ vs → (wipeR ρ vs)[i]? = ρ[i]?
  | [], _ => rfl
  | v :: vs, h => by
    unfold wipeR
    rw [List.getElem?_set_ne fun e => h (by rw [e]; exact List.mem_cons_self)]
    exact wipeR_out fun m => h (List.mem_cons_of_mem _ m)
theorem wipe_wipe {σ : L2.St} {vs : List Nat} : wipe (wipe σ vs) vs = wipe σ vs := by
  apply List.ext_getElem?
  intro j
  by_cases hj : j ∈ vs
  · rw [wipe_in hj, wipe_in hj, wipe_length]
  · rw [wipe_out hj]
theorem backR_at {ρ₀ ρ : Rho} {i : Nat} : ∀ {vs : List Nat}, (backR ρ₀ ρ vs)[i]? = if i ∈ vs then (if i < ρ.length then some (ρ₀.getD i .un) else none) else ρ[i]?
  | [] => by simp [backR]
  | v :: vs => by
    unfold backR
    by_cases e : v = i
    · subst e
      rw [List.getElem?_set, if_pos rfl, backR_len, if_pos List.mem_cons_self]
    · rw [List.getElem?_set_ne e, backR_at (vs := vs)]
      have : i ∈ v :: vs ↔ i ∈ vs := by simp [Ne.symm e]
      simp only [this]
theorem Sep.pushUn {o : Option V} {ts : Things} (h : Sep K H F ts) : Sep K H F ((.un, o) :: ts) := by
  obtain ⟨a, fp, b, c, e⟩ := h
  refine ⟨a, fp, ?_, c, e⟩
  unfold SepL
  refine ⟨[], fp, rfl, ?_, b⟩
  unfold Own
  rfl
/-- the slots' things are put aside, and come again -/
theorem wipe_sep {ρ : Rho} {σ : L2.St} (l : Ln C ρ σ) : ∀ vs : List Nat, (∀ i ∈ vs, i < C.N.length) → ∃ saved : Things, (∀ H F rest, Sep K H F (zp ρ σ ++ rest) → Sep K H F (zp (wipeR ρ vs) (L2.wipe σ vs) ++ (saved ++ rest))) ∧
    (∀ H F rest (ρe : Rho), ρe.length = C.N.length → Sep K H F (zp ρe (L2.wipe σ vs) ++ (saved ++ rest)) → Sep K H F (zp (backR ρ ρe vs) σ ++ rest))
  | [], _ => ⟨[], fun _ _ _ h => h, fun _ _ _ _ _ h => h⟩
  | v :: vs, hv => by
    obtain ⟨saved, fw, bw⟩ := wipe_sep l vs fun i hi => hv i (List.mem_cons_of_mem _ hi)
    have hvN := hv v List.mem_cons_self
    have r1 : (wipeR ρ vs).length = C.N.length := by rw [wipeR_len]; exact l.r
    have r2 : (L2.wipe σ vs).length = C.N.length := by rw [wipe_length]; exact l.s
    have hi : v < (zp (wipeR ρ vs) (L2.wipe σ vs)).length := by
      simp only [zp, List.length_zip, r1, r2, Nat.min_self]
      exact hvN
    have eg : (zp (wipeR ρ vs) (L2.wipe σ vs))[v]? = some (zp (wipeR ρ vs) (L2.wipe σ vs))[v] := List.getElem?_eq_getElem hi
    have e1 : wipeR ρ (v :: vs) = (wipeR ρ vs).set v .un := rfl
    have e2 : L2.wipe σ (v :: vs) = (L2.wipe σ vs).set v none := rfl
    rw [e1, e2]
    refine ⟨(zp (wipeR ρ vs) (L2.wipe σ vs))[v] :: saved, fun H F rest h => ?_, fun H F rest ρe hl h => ?_⟩
    · have h1 := (fw H F rest h).take eg
      rw [zp_set]
      refine Sep.put ?_ hi
      refine Sep.pushUn ?_
      exact h1.perm (List.perm_middle.symm)
    · have hw1 : v < (wipeR ρ vs).length := by rw [r1]; exact hvN
      have hw2 : v < (L2.wipe σ vs).length := by rw [r2]; exact hvN
      have ez : (zp (wipeR ρ vs) (L2.wipe σ vs))[v] = ((wipeR ρ vs)[v], (L2.wipe σ vs)[v]) := by simp [zp]
      rw [ez] at h
      have h2 : Sep K H F (((wipeR ρ vs)[v], (L2.wipe σ vs)[v]) :: (zp ρe ((L2.wipe σ vs).set v none) ++ (saved ++ rest))) := h.perm List.perm_middle
      have h3 := h2.setSlot (by rw [hl]; exact hvN) (by rw [List.length_set, r2]; exact hvN)
      rw [List.set_set, List.set_getElem_self] at h3
      have h4 := bw H F rest (ρe.set v (wipeR ρ vs)[v]) (by rw [List.length_set]; exact hl) h3
      have e5 : backR ρ (ρe.set v (wipeR ρ vs)[v]) vs = backR ρ ρe (v :: vs) := by
        apply List.ext_getElem?
        intro j
        rw [backR_at, backR_at, List.length_set]
        by_cases hj : j ∈ vs
        · rw [if_pos hj, if_pos (List.mem_cons_of_mem _ hj)]
        · rw [if_neg hj]
          by_cases hjv : j = v
          · subst hjv
            rw [if_pos List.mem_cons_self, List.getElem?_set_self (by rw [hl]; exact hvN), if_pos (by rw [hl]; exact hvN)]
            have := wipeR_out (ρ := ρ) hj
            rw [List.getElem?_eq_getElem hw1] at this
            rw [List.getD_eq_getElem?_getD, ← this]; rfl
          · rw [if_neg (by simp [hjv, hj]), List.getElem?_set_ne (fun e => hjv e.symm)]
      rw [e5] at h4
      exact h4
theorem wipe_drop {ρ : Rho} {σ : L2.St} {rest : Things} (l : Ln C ρ σ) (vs : List Nat) (hv : ∀ i ∈ vs, i < C.N.length) (h : Sep K H F (zp ρ σ ++ rest)) : Sep K H F (zp (wipeR ρ vs) (L2.wipe σ vs) ++ rest) := by
  obtain ⟨saved, fw, _⟩ := wipe_sep (K := K) l vs hv
  exact (fw H F rest h).skip
end

/-! ### comprehensions -/
abbrev W0 : WX := fun _ _ _ _ => False
/-- the turn of a comprehension -/
def turnC (q : En) (elt : P) (tg : Tg) (cond : Option P) (y : D) (ρ : Rho) : Ev (Option D) := ((setT tg y ρ).at ρ).bind fun ρ _ => match cond with
  | none => (evP q elt ρ).noX.bind fun z ρ => .ok (some z) (wipeR ρ tg.slots)
  | some c => (evP q c ρ).noX.bind fun z ρ => ((asB z).at ρ).bind fun k ρ => if k then (evP q elt ρ).noX.bind fun z ρ => .ok (some z) (wipeR ρ tg.slots) else .ok none (wipeR ρ tg.slots)
theorem evP_comp {q : En} {elt it : P} {tg : Tg} {cond : Option P} {ρ : Rho} : evP q (.comp elt tg it cond) ρ = (evI q it ρ).bind fun xl ρl =>
    (compL (turnC q elt tg cond) xl.1 (wipeR ρl tg.slots)).bind fun r ρ' => ((backI (backR ρl ρ' tg.slots) xl.2).at ρ').bind fun ρ _ => (okIf (decide (r.length ≤ sizeLine)) (.lst r)).at ρ := by
  have as : ∀ {α β γ : Type} (r : Ev α) (f : α → Rho → Ev β) (g : β → Rho → Ev γ), (r.bind f).bind g = r.bind fun a ρ => (f a ρ).bind g := by
    intro α β γ r f g; cases r <;> rfl
  unfold evI
  rw [as]
  have e1 : ∀ ρ1 (r : R (List D)) (f : List D → Rho → Ev (List D × Option (Pl × D))) (g : (List D × Option (Pl × D)) → Rho → Ev D), (((r.at ρ1).bind f).bind g) = (r.at ρ1).bind fun a ρ => (f a ρ).bind g := fun _ _ _ _ => as _ _ _
  cases cond with
  | none =>
    rw [evP]
    congr 1
    funext x ρ1
    rw [as]
    congr 1
    funext xs ρ2
    rw [as]
    cases h : lendI ρ2 it with
    | ok l =>
      simp only [R.at_ok, Ev.bind_ok]
      have : (fun (y : D) (ρ : Rho) => ((setT tg y ρ).at ρ).bind fun ρ _ => (evP q elt ρ).noX.bind fun z ρ => Ev.ok (some z) (wipeR ρ tg.slots)) = turnC q elt tg none := rfl
      rw [this]
      cases hc : compL (turnC q elt tg none) xs (wipeR l.2 tg.slots) with
      | ok r ρ' =>
        simp only [Ev.bind_ok]
        cases backI (backR l.2 ρ' tg.slots) l.1 <;> rfl
      | exc c ρ => rfl
      | stuck => rfl
    | stuck => rfl
  | some c =>
    rw [evP]
    congr 1
    funext x ρ1
    rw [as]
    congr 1
    funext xs ρ2
    rw [as]
    cases h : lendI ρ2 it with
    | ok l =>
      simp only [R.at_ok, Ev.bind_ok]
      have : (fun (y : D) (ρ : Rho) => ((setT tg y ρ).at ρ).bind fun ρ _ => (evP q c ρ).noX.bind fun z ρ => ((asB z).at ρ).bind fun k ρ => if k then (evP q elt ρ).noX.bind fun z ρ => Ev.ok (some z) (wipeR ρ tg.slots) else Ev.ok none (wipeR ρ tg.slots)) = turnC q elt tg (some c) := rfl
      rw [this]
      cases hc : compL (turnC q elt tg (some c)) xs (wipeR l.2 tg.slots) with
      | ok r ρ' =>
        simp only [Ev.bind_ok]
        cases backI (backR l.2 ρ' tg.slots) l.1 <;> rfl
      | exc c ρ => rfl
      | stuck => rfl
    | stuck => rfl
end Bk

/-! B9: comprehensions, and every expression. -/
namespace Bk
open PySem PySem.Spec PyProof.Rows L2

theorem Ev.bind_ok_inv {α β : Type} {r : Ev α} {k : α → Rho → Ev β} {b : β} {ρ' : Rho} (h : r.bind k = .ok b ρ') : ∃ a ρ1, r = .ok a ρ1 ∧ k a ρ1 = .ok b ρ' := by
  cases r with
  | ok a ρ => exact ⟨a, ρ, rfl, h⟩
  | exc c ρ => cases h
  | stuck => cases h
theorem R.at_ok_inv {α : Type} {r : R α} {a : α} {ρ ρ' : Rho} (h : r.at ρ = .ok a ρ') : r = .ok a ∧ ρ' = ρ := by
  cases r with
  | ok b => cases h; exact ⟨rfl, rfl⟩
  | stuck => cases h
theorem Ev.noX_ok_inv {α : Type} {r : Ev α} {a : α} {ρ' : Rho} (h : r.noX = .ok a ρ') : r = .ok a ρ' := by
  cases r with
  | ok b ρ => exact h
  | exc c ρ => cases h
  | stuck => cases h
theorem noX_exc {α : Type} {r : Ev α} {c : Nat} {ρ : Rho} : r.noX ≠ .exc c ρ := by
  cases r <;> (intro h; cases h)
theorem Ev.bind_exc_inv {α β : Type} {r : Ev α} {k : α → Rho → Ev β} {c : Nat} {ρ' : Rho} (h : r.bind k = .exc c ρ') : r = .exc c ρ' ∨ ∃ a ρ1, r = .ok a ρ1 ∧ k a ρ1 = .exc c ρ' := by
  cases r with
  | ok a ρ => exact .inr ⟨a, ρ, rfl, h⟩
  | exc c ρ => cases h; exact .inl rfl
  | stuck => cases h
theorem R.at_exc {α : Type} {r : R α} {c : Nat} {ρ ρ' : Rho} : r.at ρ ≠ .exc c ρ' := by
  cases r <;> (intro h; cases h)
theorem turnC_noexc {q : En} {elt : P} {tg : Tg} {cond : Option P} {y : D} {ρ ρ' : Rho} {c : Nat} : turnC q elt tg cond y ρ ≠ .exc c ρ' := by
  intro h
  unfold turnC at h
  rcases Ev.bind_exc_inv h with h | ⟨ρ1, _, _, h⟩
  · exact R.at_exc h
  · cases cond with
    | none =>
      rcases Ev.bind_exc_inv h with h | ⟨a, ρ2, _, h⟩
      · exact noX_exc h
      · cases h
    | some e =>
      rcases Ev.bind_exc_inv h with h | ⟨a, ρ2, _, h⟩
      · exact noX_exc h
      · rcases Ev.bind_exc_inv h with h | ⟨k, ρ3, _, h⟩
        · exact R.at_exc h
        · cases k with
          | true =>
            rcases Ev.bind_exc_inv (show ((evP q elt ρ3).noX.bind fun z ρ => Ev.ok (some z) (wipeR ρ tg.slots)) = .exc c ρ' from h) with h | ⟨a, ρ2, _, h⟩
            · exact noX_exc h
            · cases h
          | false => cases h
theorem compL_noexc {f : D → Rho → Ev (Option D)} (hf : ∀ d ρ c ρ', f d ρ ≠ .exc c ρ') : ∀ {xs : List D} {ρ ρ' : Rho} {c : Nat}, compL f xs ρ ≠ .exc c ρ'
  | [], _, _, c, h => by cases h
  | x :: xs, ρ, ρ', c, h => by
    unfold compL at h
    rcases Ev.bind_exc_inv h with h | ⟨a, ρ1, _, h⟩
    · exact hf _ _ _ _ h
    · rcases Ev.bind_exc_inv h with h | ⟨r, ρ2, _, h⟩
      · exact compL_noexc hf h
      · cases h
theorem compL_cons {f : D → Rho → Ev (Option D)} {x : D} {xs r : List D} {ρ ρ' : Rho} (h : compL f (x :: xs) ρ = .ok r ρ') : ∃ o ρ1 r', f x ρ = .ok o ρ1 ∧ compL f xs ρ1 = .ok r' ρ' ∧ r = (match o with | some y => y :: r' | none => r') := by
  unfold compL at h
  obtain ⟨o, ρ1, e1, h⟩ := Ev.bind_ok_inv h
  obtain ⟨r', ρ2, e2, h⟩ := Ev.bind_ok_inv h
  cases h
  exact ⟨o, ρ1, r', e1, e2, rfl⟩
theorem evI_len {q : En} {e : P} {ρ ρl : Rho} {xl : List D × Option (Pl × D)} (h : evI q e ρ = .ok xl ρl) : ρl.length = ρ.length ∧ ∀ p d, xl.2 = some (p, d) → p.i < ρ.length := by
  unfold evI at h
  obtain ⟨x, ρ1, e1, ha⟩ := Ev.bind_ok_inv h
  obtain ⟨xs, ρ2, e2, hb⟩ := Ev.bind_ok_inv ha
  clear h ha
  obtain ⟨_, rfl⟩ := R.at_ok_inv e2
  obtain ⟨⟨l, ρ3⟩, ρ4, e3', hc⟩ := Ev.bind_ok_inv hb
  clear hb
  obtain ⟨e3, rfl⟩ := R.at_ok_inv e3'
  cases hc
  have h1 := evP_ok_len e1
  refine ⟨by rw [lendI_len e3]; exact h1, fun p d e => ?_⟩
  simp only at e
  subst e
  unfold lendI at e3
  split at e3
  · split at e3
    · rename_i ht
      cases e3
      unfold Pl.take at ht
      split at ht
      · rename_i hd
        have := (List.getElem?_eq_some_iff.mp hd).1
        omega
      · cases ht
    · cases e3
  · cases e3
theorem perm_c {a b c : Things} {t : Sl × Option V} : (a ++ (b ++ (t :: c))).Perm (t :: (a ++ (b ++ c))) := (List.Perm.append_left _ List.perm_middle).trans List.perm_middle

section
variable {nm : Nm} {E : Wo} {n : Nat} {sui : Option Nat} {io : List Nat} {fx : List (Nat × V)} {q : En} {sc : Scope} {fnb : Str → Bool} {X : Cx} {W : WX}
def ttC (C : Cn) : Option P → TT
  | none => tYes
  | some c => TT' C c
theorem comp_t {o : Bool} {elt it : P} {tg : Tg} {cond : Option P} {σ : L2.St} {H : Hp} {Q : VK} (hi : ∀ i ∈ tg.slots, i < X.N.length) (hf : Off fx tg.slots) (h : TV (cn E X fx q W) o (.comp elt tg it cond) σ H Q) :
    tLc (TI' (cn E X fx q W) it) (gT X.K tg) (ttC (cn E X fx q W0) cond) (TV (cn E X fx q W0) false elt) tg.slots σ H Q := by
  obtain ⟨ρ, F, rest, l, s, qq⟩ := h
  rw [evP_comp, EQ.bind] at qq
  refine ⟨ρ, F, rest, l, s, qq.imp fun xl ρl exl qq J H1 F1 ex s1 hw => ?_⟩
  clear s
  obtain ⟨hl1, hl2⟩ := evI_len exl
  have ll : Ln (cn E X fx q W) ρl σ := l.to hl1
  obtain ⟨xs, lo⟩ := xl
  rw [EQ.bind] at qq
  cases ec : compL (turnC q elt tg cond) xs (wipeR ρl tg.slots) with
  | stuck => rw [ec] at qq; exact qq.elim
  | exc c ρc => exact (compL_noexc (fun d ρ c ρ' => turnC_noexc) ec).elim
  | ok r ρ' =>
    rw [ec] at qq
    replace qq : EQ (cn E X fx q W) rest σ (((backI (backR ρl ρ' tg.slots) lo).at ρ').bind fun ρ _ => (okIf (decide (r.length ≤ sizeLine)) (.lst r)).at ρ) fun d ρ' => PQ o (wd E X) (zp ρ' σ ++ rest) d Q := qq
    rw [EQ.bind] at qq
    obtain ⟨ρf, ef, qq⟩ := qq.at
    obtain ⟨d, ed, qq⟩ := qq.at
    obtain ⟨hz, rfl⟩ := okIf_ok ed
    have hz : r.length ≤ sizeLine := of_decide_eq_true hz
    obtain ⟨saved, fw, bw⟩ := wipe_sep (K := wd E X) ll tg.slots hi
    intro D hD
    have st : Sep (wd E X) (upd H1 D (.lst [])) F1 (zp (wipeR ρl tg.slots) (wipe σ tg.slots) ++ (saved ++ ((.own (.lst []), some (.ref D)) :: (LT lo σ ++ (ex ++ rest))))) := by
      refine fw _ _ _ ((s1.lstNew hD ValL.nil).perm ?_)
      refine List.Perm.trans ?_ List.perm_middle.symm
      refine List.Perm.cons _ ?_
      have e1 : LT lo σ ++ (ex ++ (zp ρl σ ++ rest)) = (LT lo σ ++ ex) ++ (zp ρl σ ++ rest) := by simp [List.append_assoc]
      have e2 : zp ρl σ ++ (LT lo σ ++ (ex ++ rest)) = (zp ρl σ ++ (LT lo σ ++ ex)) ++ rest := by simp [List.append_assoc]
      rw [e1, e2, ← List.append_assoc]
      exact List.perm_append_comm.append_right rest
    refine ⟨fun i m H => m = xs.length - i ∧ i ≤ xs.length ∧ ∃ F acc racc ρi, ρi.length = X.N.length ∧ Sep (wd E X) H F (zp ρi (wipe σ tg.slots) ++ (saved ++ ((.own (.lst acc), some (.ref D)) :: (LT lo σ ++ (ex ++ rest))))) ∧ compL (turnC q elt tg cond) (xs.drop i) ρi = .ok racc ρ' ∧ acc ++ racc = r,
      ⟨xs.length, by simp, Nat.zero_le _, F1, [], r, _, by rw [wipeR_len]; exact ll.r, st, ec, rfl⟩, ?_⟩
    rintro i m H2 ⟨rfl, hle, F2, acc, racc, ρi, hρi, s2, ecr, hr⟩
    obtain ⟨hgo, hstop⟩ := hw i H2 F2 _ s2 (fun t ht => by
      refine List.mem_append_right _ (List.mem_append_right _ (List.mem_cons_of_mem _ ?_))
      rw [← List.append_assoc]
      exact List.mem_append_left _ ht)
    by_cases hlt : i < xs.length
    case neg =>
      have e : i = xs.length := by omega
      subst e
      rw [List.drop_length] at ecr
      cases ecr
      rw [List.append_nil] at hr
      subst hr
      refine .inl ⟨hstop rfl, ?_⟩
      have s3 := bw _ _ _ ρ' hρi s2
      have s4 : Sep (wd E X) H2 F2 (((.own (.lst acc), some (.ref D)) :: ex) ++ (zp ρf σ ++ rest)) := by
        cases lo with
        | none =>
          cases ef
          refine s3.perm ?_
          refine List.perm_middle.trans (List.Perm.cons _ ?_)
          show (zp (backR ρl ρ' tg.slots) σ ++ ([] ++ (ex ++ rest))).Perm (ex ++ (zp (backR ρl ρ' tg.slots) σ ++ rest))
          rw [List.nil_append, ← List.append_assoc, ← List.append_assoc]
          exact List.perm_append_comm.append_right rest
        | some pd =>
          obtain ⟨p, d⟩ := pd
          have hp : p.i < σ.length := by rw [l.s, ← l.r]; exact hl2 p d rfl
          have hv : σ[p.i]? = some ((σ[p.i]?).getD none) := by rw [List.getElem?_eq_getElem hp]; rfl
          have ef' : p.put (backR ρl ρ' tg.slots) d = .ok ρf := ef
          have lb : Ln (cn E X fx q W) (backR ρl ρ' tg.slots) σ := ⟨by rw [backR_len]; exact hρi, l.s, l.f⟩
          refine Pl.put_sep ef' lb hv (s3.perm ?_)
          show (zp (backR ρl ρ' tg.slots) σ ++ ((.own (.lst acc), some (.ref D)) :: ((.own d, σ[p.i]?.getD none) :: (ex ++ rest)))).Perm ((.own d, σ[p.i]?.getD none) :: (.own (.lst acc), some (.ref D)) :: (ex ++ (zp (backR ρl ρ' tg.slots) σ ++ rest)))
          refine (List.perm_middle.trans (List.Perm.cons _ List.perm_middle)).trans ((List.Perm.swap _ _ _).trans (List.Perm.cons _ (List.Perm.cons _ ?_)))
          rw [← List.append_assoc, ← List.append_assoc]
          exact List.perm_append_comm.append_right rest
      exact qq.own rfl (Sep.right (ts := []) (by
        have h5 : Sep (wd E X) H2 F2 ([(.own (.lst acc), some (.ref D))] ++ (ex ++ (zp ρf σ ++ rest))) := s4
        exact h5.skip))
    obtain ⟨go, hy⟩ := hgo xs[i] (List.getElem?_eq_getElem hlt)
    rw [List.drop_eq_getElem_cons hlt] at ecr
    obtain ⟨oy, ρ1, racc', efx, ecr', rfl⟩ := compL_cons ecr
    unfold turnC at efx
    obtain ⟨ρs, ρs', eset', efy⟩ := Ev.bind_ok_inv efx
    clear efx
    obtain ⟨eset, rfl⟩ := R.at_ok_inv eset'
    clear eset'
    refine .inr ⟨go, fun H' => ∃ F acc racc ρi, ρi.length = X.N.length ∧ Sep (wd E X) H' F (zp ρi (wipe σ tg.slots) ++ (saved ++ ((.own (.lst acc), some (.ref D)) :: (LT lo σ ++ (ex ++ rest))))) ∧ compL (turnC q elt tg cond) (xs.drop (i + 1)) ρi = .ok racc ρ' ∧ acc ++ racc = r,
      fun H' nx => ⟨xs.length - (i + 1), by omega, rfl, hlt, nx⟩, fun x H3 yl => ?_⟩
    obtain ⟨F3, s3, vx⟩ := hy x H3 yl
    have li : Ln (cn E X fx q W0) ρs' (wipe σ tg.slots) := ⟨hρi, by rw [wipe_length]; exact l.s, fun p hp => by rw [wipe_out fun m => hf _ m p hp rfl]; exact l.f p hp⟩
    refine tgt_ok (C := cn E X fx q W0) (K := wd E X) eset hi hf li s3 vx fun σ2 l2 s5 w2 => ⟨?_, ?_⟩
    · rw [w2 tg.slots fun i h => h, wipe_wipe]
    have ew : wipe σ2 tg.slots = wipe σ tg.slots := by rw [w2 tg.slots fun i h => h, wipe_wipe]
    -- the element
    have elem : ∀ {H' F' ρc}, Ln (cn E X fx q W0) ρc σ2 → Sep (wd E X) H' F' (zp ρc σ2 ++ (saved ++ ((.own (.lst acc), some (.ref D)) :: (LT lo σ ++ (ex ++ rest))))) → ((evP q elt ρc).noX.bind fun z ρ => Ev.ok (some z) (wipeR ρ tg.slots)) = .ok oy ρ1 →
        TV (cn E X fx q W0) false elt σ2 H' fun y H4 => ∃ acc, H4 D = some (.lst acc) ∧ acc.length < sizeLine ∧ ∃ F acc_1 racc ρi, ρi.length = X.N.length ∧ Sep (wd E X) (upd H4 D (.lst (acc ++ [y]))) F (zp ρi (wipe σ tg.slots) ++ (saved ++ ((.own (.lst acc_1), some (.ref D)) :: (LT lo σ ++ (ex ++ rest))))) ∧
          compL (turnC q elt tg cond) (xs.drop (i + 1)) ρi = .ok racc ρ' ∧ acc_1 ++ racc = r := fun {H' F' ρc} lc h5 ee => by
      obtain ⟨z, ρz, ez, ee⟩ := Ev.bind_ok_inv ee
      cases ee
      have ez := Ev.noX_ok_inv ez
      refine ⟨ρc, F', _, lc, h5, ?_⟩
      show EQ _ _ _ (evP q elt ρc) _
      rw [ez]
      intro y H4 F4 s6 vy
      have s7 := s6.perm perm_c
      obtain ⟨a, vs, e, ha, vl⟩ := s7.head_own
      cases e
      have hlen := congrArg List.length hr
      simp only [List.length_append, List.length_cons] at hlen
      refine ⟨vs, ha, by rw [← vl.length]; omega, F4, acc ++ [z], racc', wipeR ρz tg.slots, ?_, ?_, ecr', ?_⟩
      · rw [wipeR_len, evP_ok_len ez]; exact lc.r
      · have s8 := (s7.write (vl.append (ValL.cons vy ValL.nil))).perm perm_c.symm
        have lz : Ln (cn E X fx q W0) ρz σ2 := lc.to (evP_ok_len ez)
        have s9 := wipe_drop lz tg.slots hi s8
        rw [ew] at s9
        exact s9
      · rw [List.append_assoc]; exact hr
    cases cond with
    | none => exact elem l2 s5 efy
    | some c =>
      obtain ⟨z, ρz, ez0, e3a⟩ := Ev.bind_ok_inv (show ((evP q c ρs).noX.bind fun z ρ => ((asB z).at ρ).bind fun k ρ => if k then (evP q elt ρ).noX.bind fun z ρ => .ok (some z) (wipeR ρ tg.slots) else .ok none (wipeR ρ tg.slots)) = .ok oy ρ1 from efy)
      have ez := Ev.noX_ok_inv ez0
      clear ez0
      obtain ⟨k, ρk, ek0, e3⟩ := Ev.bind_ok_inv e3a
      clear e3a
      obtain ⟨ek, rfl⟩ := R.at_ok_inv ek0
      clear ek0
      refine ⟨ρs, F3, _, l2, s5, ?_⟩
      show EQ _ _ _ ((evP q c ρs).bind fun d ρ => (asB d).at ρ) _
      rw [ez, Ev.bind_ok, ek]
      intro H4 F4 s6
      have lz : Ln (cn E X fx q W0) ρk σ2 := l2.to (evP_ok_len ez)
      cases k with
      | true => exact elem lz s6 e3
      | false =>
        cases e3
        refine ⟨F4, acc, racc', wipeR ρk tg.slots, ?_, ?_, ecr', hr⟩
        · rw [wipeR_len]; exact lz.r
        · have s9 := wipe_drop lz tg.slots hi s6
          rw [ew] at s9
          exact s9
end
end Bk

/-! B10: every expression. -/
namespace Bk
open PySem PySem.Spec PyProof.Rows L2

section
variable {X : Cx} {CX : CXT} {k : Nat} {f : Addr} {fd : FuncData} {ps : List Str} {sp : Sp} {E : L2.St → XK} {x : Str} {p pos : Pos}
theorem pe_call0S (F : FnOk X.prog X.w X.K X.mg X.base CX k f fd ps sp) (hr : Room k X.A) (hg : Gl X x) (hm : X.mg x = some (.ref f)) (hk : PySem.W.keepIn X.K (.ref f) = true) (hb : Binds X.K fd ps []) (hx : ∀ σ, PassesAt CX X σ (E σ))
    (hdb : (x == ("__debug__" : Str)) = false) : PE X (.Call (.Name x p) [] [] pos) (fun σ H Q => sp [] H Q (E σ)) := by
  refine ⟨fun pins s σ H Q I h => ?_⟩
  refine wpAny_Call_Name_kw (ld_glob I hg hm ?_ hdb)
  exact PySem.W.callWith_K0 I.kIn hk (run_fnS (us := []) F hr hb (hx σ) I .nil h)
end

theorem asB_ok {d : D} {k : Bool} (h : asB d = .ok k) : d = .bl k := by
  cases d <;> simp only [asB, reduceCtorEq, R.ok.injEq] at h
  rw [h]
section
variable {C : Cn} {σ : L2.St} {H : Hp}
theorem TV.andV {a c : P} {Q : VK} (h : TV C false (.and a c) σ H Q) : tAndV (TV C false a) (TV C false c) σ H Q := by
  obtain ⟨ρ, F, rest, l, s, q⟩ := h
  rw [evP, EQ.bind] at q
  refine ⟨ρ, F, rest, l, s, q.imp fun d ρ1 ed q v H1 F1 s1 vd => ?_⟩
  rw [EQ.bind] at q
  obtain ⟨k, ek, q2⟩ := q.at
  obtain rfl := asB_ok ek
  clear q
  unfold Val at vd
  refine ⟨_, vd, ?_⟩
  cases k with
  | false => exact PQ.fz (d := .bl false) q2 _ _ _ s1 val_bl
  | true =>
    rw [if_pos rfl] at q2 ⊢
    rw [EQ.bind] at q2
    refine ⟨ρ1, F1, rest, l.to (evP_ok_len ed), s1, q2.imp fun d2 ρ2 e2 q3 w H2 F2 s2 vd2 => ?_⟩
    rw [EQ.bind] at q3
    obtain ⟨k2, ek2, q4⟩ := q3.at
    obtain rfl := asB_ok ek2
    exact PQ.fz (d := .bl _) q4 w H2 F2 s2 vd2
theorem TV.orV {a c : P} {Q : VK} (h : TV C false (.or a c) σ H Q) : tOrV (TV C false a) (TV C false c) σ H Q := by
  obtain ⟨ρ, F, rest, l, s, q⟩ := h
  rw [evP, EQ.bind] at q
  refine ⟨ρ, F, rest, l, s, q.imp fun d ρ1 ed q v H1 F1 s1 vd => ?_⟩
  rw [EQ.bind] at q
  obtain ⟨k, ek, q2⟩ := q.at
  obtain rfl := asB_ok ek
  clear q
  unfold Val at vd
  refine ⟨_, vd, ?_⟩
  cases k with
  | true => exact PQ.fz (d := .bl true) q2 _ _ _ s1 val_bl
  | false =>
    rw [if_neg Bool.false_ne_true] at q2 ⊢
    rw [EQ.bind] at q2
    refine ⟨ρ1, F1, rest, l.to (evP_ok_len ed), s1, q2.imp fun d2 ρ2 e2 q3 w H2 F2 s2 vd2 => ?_⟩
    rw [EQ.bind] at q3
    obtain ⟨k2, ek2, q4⟩ := q3.at
    obtain rfl := asB_ok ek2
    exact PQ.fz (d := .bl _) q4 w H2 F2 s2 vd2
theorem TV.notV {a : P} {Q : VK} (h : TV C false (.not a) σ H Q) : tNotV (TV C false a) σ H Q := by
  obtain ⟨ρ, F, rest, l, s, q⟩ := h
  rw [evP, EQ.bind] at q
  refine ⟨ρ, F, rest, l, s, q.imp fun d ρ1 ed q v H1 F1 s1 vd => ?_⟩
  rw [EQ.bind] at q
  obtain ⟨k, ek, q2⟩ := q.at
  obtain rfl := asB_ok ek
  unfold Val at vd
  exact ⟨_, vd, PQ.fz (d := .bl _) q2 _ _ _ s1 val_bl⟩
theorem TV.iteV {a b c : P} {Q : VK} (h : TV C false (.ite c a b) σ H Q) : tIf (TT' C c) (TV C false a) (TV C false b) σ H Q := by
  obtain ⟨ρ, F, rest, l, s, q⟩ := h
  rw [evP, EQ.bind] at q
  refine ⟨ρ, F, rest, l, s, ?_⟩
  rw [EQ.bind]
  refine q.imp fun d ρ1 ed q1 => ?_
  rw [EQ.bind] at q1
  obtain ⟨k, ek, q2⟩ := q1.at
  clear q1 q
  refine .atI ek fun H1 F1 s1 => ?_
  have l1 := l.to (evP_ok_len ed)
  cases k with
  | true => exact ⟨ρ1, F1, rest, l1, s1, q2⟩
  | false => exact ⟨ρ1, F1, rest, l1, s1, q2⟩
theorem TT.andT {a c : P} {Q : Bool → Hp → Prop} (h : TT' C (.and a c) σ H Q) : tAnd (TT' C a) (TT' C c) σ H Q := by
  obtain ⟨ρ, F, rest, l, s, q⟩ := h
  rw [evP, EQ.bind, EQ.bind] at q
  refine ⟨ρ, F, rest, l, s, ?_⟩
  rw [EQ.bind]
  refine q.imp fun d ρ1 ed q1 => ?_
  rw [EQ.bind] at q1
  obtain ⟨k, ek, q2⟩ := q1.at
  clear q1 q
  refine .atI ek fun H1 F1 s1 => ?_
  have l1 := l.to (evP_ok_len ed)
  cases k with
  | false => exact q2 H1 F1 s1
  | true =>
    show TT' C c σ H1 Q
    replace q2 : EQ C rest σ ((evP C.q c ρ1).bind fun y ρ => ((asB y).at ρ).bind fun k ρ => .ok (.bl k) ρ) fun d ρ => EQ C rest σ ((asB d).at ρ) fun k ρ' => ∀ H' F', Sep C.K H' F' (zp ρ' σ ++ rest) → Q k H' := q2
    rw [EQ.bind] at q2
    refine ⟨ρ1, F1, rest, l1, s1, ?_⟩
    rw [EQ.bind]
    refine q2.imp fun d2 ρ2 e2 q3 => ?_
    rw [EQ.bind] at q3
    obtain ⟨k2, ek2, q4⟩ := q3.at
    exact .atI ek2 q4
theorem TT.orT {a c : P} {Q : Bool → Hp → Prop} (h : TT' C (.or a c) σ H Q) : tOr (TT' C a) (TT' C c) σ H Q := by
  obtain ⟨ρ, F, rest, l, s, q⟩ := h
  rw [evP, EQ.bind, EQ.bind] at q
  refine ⟨ρ, F, rest, l, s, ?_⟩
  rw [EQ.bind]
  refine q.imp fun d ρ1 ed q1 => ?_
  rw [EQ.bind] at q1
  obtain ⟨k, ek, q2⟩ := q1.at
  clear q1 q
  refine .atI ek fun H1 F1 s1 => ?_
  have l1 := l.to (evP_ok_len ed)
  cases k with
  | true => exact q2 H1 F1 s1
  | false =>
    show TT' C c σ H1 Q
    replace q2 : EQ C rest σ ((evP C.q c ρ1).bind fun y ρ => ((asB y).at ρ).bind fun k ρ => .ok (.bl k) ρ) fun d ρ => EQ C rest σ ((asB d).at ρ) fun k ρ' => ∀ H' F', Sep C.K H' F' (zp ρ' σ ++ rest) → Q k H' := q2
    rw [EQ.bind] at q2
    refine ⟨ρ1, F1, rest, l1, s1, ?_⟩
    rw [EQ.bind]
    refine q2.imp fun d2 ρ2 e2 q3 => ?_
    rw [EQ.bind] at q3
    obtain ⟨k2, ek2, q4⟩ := q3.at
    exact .atI ek2 q4
theorem TT.notT {a : P} {Q : Bool → Hp → Prop} (h : TT' C (.not a) σ H Q) : tNot (TT' C a) σ H Q := by
  obtain ⟨ρ, F, rest, l, s, q⟩ := h
  rw [evP, EQ.bind, EQ.bind] at q
  refine ⟨ρ, F, rest, l, s, ?_⟩
  rw [EQ.bind]
  refine q.imp fun d ρ1 ed q => ?_
  rw [EQ.bind] at q
  obtain ⟨k, ek, q2⟩ := q.at
  exact .atI ek fun H1 F1 s1 => q2 H1 F1 s1
theorem TV.chainV {o o' : Prim} {a b c : P} {Q : VK} (h : TV C false (.chain o o' a b c) σ H Q) : tChain (r2 C.K false o) (r2 C.K false o') (TV C false a) (TV C false b) (TV C false c) σ H Q := by
  obtain ⟨ρ, F, rest, l, s, q⟩ := h
  rw [evP, EQ.bind] at q
  refine ⟨ρ, F, rest, l, s, q.imp fun x ρ1 e1 q v H1 F1 s1 vx => ?_⟩
  have l1 := l.to (evP_ok_len e1)
  refine ⟨ρ1, F1, [(.fz x, some v)] ++ rest, l1, (s1.push vx).perm List.perm_middle.symm, ?_⟩
  rw [EQ.bind] at q
  refine q.skip fun y ρ2 e2 q w H2 F2 s2 vy => ?_
  have l2 := l1.to (evP_ok_len e2)
  rw [EQ.bind] at q
  obtain ⟨z, ez, qa⟩ := q.at
  rw [EQ.bind] at qa
  obtain ⟨k, ek, q2⟩ := qa.at
  clear q qa
  obtain rfl := asB_ok ek
  obtain ⟨v', ev', vx2⟩ := (s2.perm List.perm_middle).val
  cases ev'
  refine ⟨F2, (.fz y, some w) :: (zp ρ2 σ ++ ([(.fz x, some v)] ++ rest)), [x, y], .bl k, s2.push vy, ⟨v, _, rfl, vx2.bor, w, _, rfl, vy.bor, rfl⟩, ez, fun u H3 F3 s3 vz => ?_⟩
  unfold Val at vz
  refine ⟨_, vz, ?_⟩
  have s3' : Sep C.K H3 F3 ((.fz y, some w) :: (.fz x, some v) :: (zp ρ2 σ ++ rest)) := s3.perm (List.Perm.cons _ List.perm_middle)
  cases k with
  | false => exact PQ.fz (d := .bl false) q2 _ _ _ s3'.tail.tail val_bl
  | true =>
    rw [if_pos rfl] at q2 ⊢
    rw [EQ.bind] at q2
    have s4 : Sep C.K H3 F3 (zp ρ2 σ ++ ([(.fz y, some w)] ++ rest)) := ((s3'.perm (List.Perm.swap _ _ _)).tail).perm List.perm_middle.symm
    refine ⟨ρ2, F3, [(.fz y, some w)] ++ rest, l2, s4, q2.skip fun t ρ3 e3 q3 t' H4 F4 s5 vt => ?_⟩
    rw [EQ.bind] at q3
    obtain ⟨z2, ez2, q4⟩ := q3.at
    rw [EQ.bind] at q4
    obtain ⟨k2, ek2, q5⟩ := q4.at
    obtain rfl := asB_ok ek2
    obtain ⟨w', ew', vy2⟩ := (s5.perm List.perm_middle).val
    cases ew'
    refine ⟨F4, _, [y, t], .bl k2, s5, ⟨w, _, rfl, vy2.bor, t', _, rfl, vt.bor, rfl⟩, ez2, fun u5 H5 F5 s6 vz2 => ?_⟩
    exact PQ.fz (d := .bl _) q5 _ _ _ (s6.perm List.perm_middle).tail vz2
end

theorem lastM {o o' : CmpOp} {y z : Expr} (h : notSet z = true) : lastMarks [o, o'] [y, z] = false := by
  show behindInMarks o' z = false
  exact notSet_ok h
theorem plT_ok {e : Expr} {env : Env} (h : plT e = true) : ∀ whole, isTrue e env whole = (do let v ← whole; standAt e.pos; holding [v] (truthy v)) := by
  intro whole
  cases e with
  | UnaryOp o x p => cases o <;> first | rfl | cases h
  | _ => first | rfl | cases h
theorem pw_bool {X : Cx} {o : BoolOp} {es : List Expr} {pos : Pos} {t : TT} (h : PT X (.BoolOp o es pos) t) : PW X (.BoolOp o es pos) t := ⟨fun whole pins s σ H Q I w => h.run pins s σ H Q I w⟩

section
variable {nm : Nm} {E : Wo} {k : Nat} {sui : Option Nat} {io : List Nat} {fx : List (Nat × V)} {q : En} {sc : Scope} {fnb : Str → Bool} {X : Cx} {W : WX}
theorem all_ok (G : Good nm E k sui io fx q sc fnb X) {c : P → Expr → Bool} {b l : Bool} (h : ∀ p e, c p e = true → PE X e (TV (cn E X fx q W) false p)) : ∀ {as : List P} {es : List Expr}, cmAll (plE X.N sc) c b l as es = true → PEs X (tA (cn E X fx q W)) as es ∧ (l = false → noIo as = true) ∧ (b = false → noBor as = true) ∧ (b = false → l = false → allVal as = true)
  | [], [], _ => ⟨True.intro, fun _ => rfl, fun _ => rfl, fun _ _ => rfl⟩
  | [], _ :: _, h => by cases h
  | _ :: _, [], h => by cases h
  | a :: as, e :: es, hq => by
    simp only [cmAll, Bool.and_eq_true] at hq
    obtain ⟨h1, h2⟩ := hq
    obtain ⟨i1, i2, i3, i4⟩ := all_ok G h h2
    cases hk : a.kd with
    | val =>
      rw [hk] at h1
      refine ⟨⟨by rw [tAV hk]; exact h a e h1, i1⟩, fun z => ?_, fun z => ?_, fun z z2 => ?_⟩
      · have := i2 z; cases a <;> first | exact this | cases hk
      · have := i3 z; cases a <;> first | exact this | cases hk
      · have := i4 z z2; cases a <;> first | exact this | cases hk
    | bor p =>
      obtain rfl := kd_bor hk
      simp only [P.kd, Bool.and_eq_true] at h1
      refine ⟨⟨plE_pe G h1.2, i1⟩, i2, fun z => ?_, fun z z2 => ?_⟩
      · rw [z] at h1; cases h1.1
      · rw [z] at h1; cases h1.1
    | io p =>
      obtain rfl := kd_io hk
      simp only [P.kd, Bool.and_eq_true] at h1
      refine ⟨⟨plE_pe G h1.2, i1⟩, fun z => ?_, i3, fun z z2 => ?_⟩
      · rw [z] at h1; cases h1.1
      · rw [z2] at h1; cases h1.1
theorem noIoBor : ∀ {as : List P}, noIo as = true → noBor as = true → allVal as = true
  | [], _, _ => rfl
  | a :: as, h1, h2 => by
    cases a <;> first | cases h1 | cases h2 | exact noIoBor (as := as) h1 h2
theorem AT_two {a c : P} {d e : D} {v w : V} (h : allVal [a, c] = true) : AT [a, c] [d, e] [v, w] = [(.fz d, some v), (.fz e, some w)] := by
  have h1 : a.kd = .val := by cases a <;> first | rfl | cases h
  have h2 : c.kd = .val := by cases a <;> cases c <;> first | rfl | cases h
  simp [AT, h1, h2]
theorem zip_ok {as : List P} {x y : Expr} {fp pos : Pos} {tg : Expr} (G : Good nm E k sui io fx q sc fnb X) (gl : Gl X "zip") (hm : X.mg "zip" = none) (pa : PA X [x, y] (TAs (cn E X fx q W) as))
    (hpl : (backTo pos (starEach [y] X.env)).any (·.1) = false) (hs : starEach [x, y] X.env = (false, eval x X.env) :: starEach [y] X.env) (hs2 : starEach [y] X.env = (false, eval y X.env) :: starEach [] X.env) (hv : allVal as = true) (hz : zipTg (.op .zip2 as) tg = true) :
    PI X tg (.Call (.Name "zip" fp) [x, y] [] pos) (TI' (cn E X fx q W) (.op .zip2 as)) := by
  cases tg <;> first | cases hz | skip
  refine pi_imp (pi_zipM gl hm pa hs hpl) fun σ H R0 h => ?_
  obtain ⟨ρ, F, rest, l, s, qq⟩ := h
  unfold evI at qq
  rw [evP, EQ.bind, EQ.bind] at qq
  refine ⟨ρ, F, rest, l, s, qq.imp fun ds ρ1 eds qq vs H1 F1 s1 lay => ?_⟩
  obtain ⟨d, ed, qa⟩ := qq.at
  clear qq
  rw [EQ.bind] at qa
  obtain ⟨zs, exs, qb⟩ := qa.at
  clear qa
  replace ed : evZip ds = .ok d := ed
  have vl := lay.vals hv s1
  obtain ⟨hl1, hl2⟩ := lay.lens
  have qc : ∀ J H' F' ex, Sep (wd E X) H' F' (LT none σ ++ (ex ++ (zp ρ1 σ ++ rest))) → Walks (wd E X) J (LT none σ ++ ex) zs → R0 J H' := qb
  unfold evZip at ed
  split at ed
  · rename_i xs ys
    cases ed
    cases exs
    unfold ValL at vl
    obtain ⟨v, r, rfl, vx, vl⟩ := vl
    unfold ValL at vl
    obtain ⟨w, r, rfl, vy, vl⟩ := vl
    unfold ValL at vl
    subst vl
    obtain ⟨a, us, rfl, t1, _⟩ := vx.bor.tup
    obtain ⟨b, ws, rfl, t2, _⟩ := vy.bor.tup
    match as, hv, hl1, s1 with
    | [p1, p2], hv, _, s1 =>
      rw [AT_two hv] at s1
      exact ⟨a, b, us, ws, rfl, .inr (.inl ⟨t1, t2, qc _ H1 F1 [(.fz (.tup xs), some (.ref a)), (.fz (.tup ys), some (.ref b))] s1 (walks_zipT (by simp [LT]) (by simp [LT]))⟩)⟩
  · rename_i xs ys
    cases ed
    cases exs
    unfold ValL at vl
    obtain ⟨v, r, rfl, vx, vl⟩ := vl
    unfold ValL at vl
    obtain ⟨w, r, rfl, vy, vl⟩ := vl
    unfold ValL at vl
    subst vl
    obtain ⟨a, us, rfl, t1, _⟩ := vx.bor.lst
    obtain ⟨b, ws, rfl, t2, _⟩ := vy.bor.lst
    match as, hv, hl1, s1 with
    | [p1, p2], hv, _, s1 =>
      rw [AT_two hv] at s1
      exact ⟨a, b, us, ws, rfl, .inl ⟨.inl t1, .inl t2, qc _ H1 F1 [(.fz (.lst xs), some (.ref a)), (.fz (.lst ys), some (.ref b))] s1 (walks_zipL (by simp [LT]) (by simp [LT]))⟩⟩
  · rename_i xs ys
    cases ed
    cases exs
    unfold ValL at vl
    obtain ⟨v, r, rfl, vx, vl⟩ := vl
    unfold ValL at vl
    obtain ⟨w, r, rfl, vy, vl⟩ := vl
    unfold ValL at vl
    subst vl
    obtain ⟨a, us, rfl, t1, _⟩ := vx.bor.tup
    obtain ⟨b, ws, rfl, t2, _⟩ := vy.bor.lst
    match as, hv, hl1, s1 with
    | [p1, p2], hv, _, s1 =>
      rw [AT_two hv] at s1
      exact ⟨a, b, us, ws, rfl, .inr (.inr ⟨t1, .inl t2, qc _ H1 F1 [(.fz (.tup xs), some (.ref a)), (.fz (.lst ys), some (.ref b))] s1 (walks_zipM (by simp [LT]) (by simp [LT]))⟩)⟩
  · cases ed
theorem isNew_eq (p : P) : isNew p = fresh p := by
  cases p with
  | op r as => cases r <;> rfl
  | _ => rfl
def Snd (C : Cn) (X : Cx) (m : Md) (p : P) (e : Expr) : Prop := match m with
  | .val => ∀ o, (o = true → fresh p = true) → PE X e (TV C o p)
  | .tst => PT X e (TT' C p)
  | .itr => ∀ tg, zipTg p tg = true → PI X tg e (TI' C p)
theorem Good.blk (G : Good nm E k sui io fx q sc fnb X) (hs : sui = none) {scope : Scope} (hk : scope.kind = ScopeKind.function) (s : Shared) (H : Hp) (Cd : Addr) (cl : List (Str × Addr)) (fp : List Addr) :
    Good nm E k sui io fx q (relS scope sc) (fun x => scope.names.lookup x == some .cell) (X.blk s H scope (compEnvC scope cl Cd X.env) fp) :=
  ⟨G.nd, by rw [← G.hsc]; rfl, hk, G.fxio, G.calm, G.room, G.un, fun x h => h, G.fn, G.blt, G.cst, G.cls, fun c x h => ⟨(G.rai c x h).ex⟩, G.sub, fun k2 hk => by
    obtain ⟨_, _, _, _, _, i, e, _⟩ := G.hx k2 hk
    rw [hs] at e; cases e⟩
theorem snd : ∀ (n : Nat) {sc : Scope} {fnb : Str → Bool} {X : Cx} {W : WX} {m : Md} {p : P} {e : Expr}, Good nm E k sui io fx q sc fnb X → Takes X W → cmP nm X.N io sui n sc m p e = true → Snd (cn E X fx q W) X m p e
  | 0, _, _, _, _, _, _, _, _, _, h => by cases h
  | n + 1, sc, fnb, X, W, m, p, e, G, tk, h => by
    have cv : ∀ p e, cmP nm X.N io sui n sc .val p e = true → PE X e (TV (cn E X fx q W) false p) := fun p e h => snd n (m := .val) G tk h false (fun z => by cases z)
    -- values, first
    have val : ∀ {p : P} {e : Expr}, cmP nm X.N io sui (n + 1) sc .val p e = true → ∀ o, (o = true → fresh p = true) → PE X e (TV (cn E X fx q W) o p) := by
      intro p e h o ho
      have nofresh : ∀ {t : Bool → TE}, fresh p = false → PE X e (t false) → PE X e (t o) := fun {t} hf h => by
        cases o with
        | false => exact h
        | true => rw [ho rfl] at hf; cases hf
      cases p with
      | cst d =>
        refine nofresh (t := fun o => TV (cn E X fx q W) o (.cst d)) rfl ?_
        simp only [cmP] at h
        split at h
        · rename_i c j pos
          split at h
          · rename_i d' hd
            obtain rfl := D.eq_of_beq h
            have fin : ∀ {v : V}, (∀ H F, Val (wd E X) H F d v) → PE X (.Constant c j pos) (tC v) → PE X (.Constant c j pos) (TV (cn E X fx q W) false (.cst d)) := fun hv hp => pe_imp hp fun σ H Q h => by
              obtain ⟨ρ, F, rest, l, s, q⟩ := h
              rw [evP] at q
              exact PQ.fz q _ _ _ s (hv H F)
            cases c <;> simp only [constD, Option.some.injEq, reduceCtorEq] at hd <;> subst hd
            · exact fin (v := .non) (fun _ _ => val_non) pe_non
            · exact fin (v := .bl _) (fun _ _ => val_bl) pe_bl
            · exact fin (v := .int _) (fun _ _ => val_int) pe_int
            · exact fin (v := .str _) (fun _ _ => val_str) pe_str
          · cases h
        · rename_i x pos
          simp only [Bool.and_eq_true] at h
          obtain ⟨h1, h2⟩ := h
          split at h2
          · rename_i d' hd
            obtain rfl := D.eq_of_beq h2
            obtain ⟨gl, gd⟩ := isGl_gl G h1
            obtain ⟨u, v, hm, rv, hv⟩ := G.cst x d hd
            refine pe_imp (pe_glob gl hm rv gd) fun σ H Q h => ?_
            obtain ⟨ρ, F, rest, l, s, q⟩ := h
            rw [evP] at q
            exact PQ.fz q _ _ _ s (hv H F)
          · cases h2
        · cases h
      | var i =>
        refine nofresh (t := fun o => TV (cn E X fx q W) o (.var i)) rfl ?_
        simp only [cmP] at h
        split at h
        · rename_i x pos
          obtain ⟨h1, h2, h3, h4⟩ := isVis_vis G h
          refine pe_imp (pe_var h1 h2 h3 h4) fun σ H Q h => ?_
          obtain ⟨ρ, F, rest, l, s, q⟩ := h
          have own : ∀ {d : D}, ρ[i]? = some (.own d) → PQ false (wd E X) (zp (ρ.set i (.fz d)) σ ++ rest) d Q → ∃ v, σ[i]? = some (some v) ∧ Q v H := fun {d} hd q => by
            have hi := (List.getElem?_eq_some_iff.mp hd).1
            have hσ : i < σ.length := by rw [l.s, ← l.r]; exact hi
            have ht : (Pl.mk i none).take ρ = .ok (d, ρ.set i .un) := by
              unfold Pl.take
              simp only [hd]
            have s1 := Pl.take_sep (A := []) ht (List.getElem?_eq_getElem hσ) s
            obtain ⟨F', v, ev, _, s2, qv⟩ := Sep.freeze s1
            refine ⟨v, by rw [List.getElem?_eq_getElem hσ, ev], ?_⟩
            have s3 := (s2.push qv).setSlot (ρ := ρ.set i .un) (σ := σ) (i := i) (s := .fz d) (o := some v) (by rw [List.length_set]; exact hi) hσ
            rw [List.set_set] at s3
            have hs : σ.set i (some v) = σ := by rw [← ev]; exact List.set_getElem_self hσ
            rw [hs] at s3
            exact PQ.fz q _ _ _ s3 qv
          rw [evP] at q
          unfold readV at q
          split at q
          · rename_i d hd
            have hi := (List.getElem?_eq_some_iff.mp hd).1
            have hσ : i < σ.length := by rw [l.s, ← l.r]; exact hi
            have m := zp_mem hd (List.getElem?_eq_getElem hσ)
            obtain ⟨v, e, qv⟩ := s.mem_val (List.mem_append_left _ m)
            refine ⟨v, ?_, PQ.fz q v H F s qv⟩
            rw [List.getElem?_eq_getElem hσ, e]
          · rename_i xs hd
            exact own hd q
          · rename_i t ks vs hd
            exact own hd q
          · exact q.elim
        · cases h
      | bor p => simp only [cmP] at h; cases h
      | io p => simp only [cmP] at h; cases h
      | ent a =>
        refine nofresh (t := fun o => TV (cn E X fx q W) o (.ent a)) rfl ?_
        simp only [cmP] at h
        exact pe_imp (cv a e h) fun σ H Q h => h.ofEnt
      | op r as =>
        simp only [cmP] at h
        split at h
        · rename_i es hes
          simp only [Bool.and_eq_true, Bool.not_eq_true'] at h
          obtain ⟨⟨h1, h2⟩, h3⟩ := h
          obtain ⟨i1, i2, i3, i4⟩ := all_ok G cv h3
          have ho' : o = true → r ≠ .idx ∧ r ≠ .dget := fun z => ⟨(fun e => by subst e; cases ho z), (fun e => by subst e; cases ho z)⟩
          exact op_ok G ho' hes h1 (i2 rfl) h2 (fun z => i4 (by rw [z]; rfl) rfl) i1
        · cases h
      | call f as =>
        refine nofresh (t := fun o => TV (cn E X fx q W) o (.call f as)) rfl ?_
        simp only [cmP] at h
        split at h
        · rename_i x p es pos
          simp only [Bool.and_eq_true, decide_eq_true_eq, Option.isNone_iff_eq_none] at h
          obtain ⟨⟨⟨⟨⟨h0, h1⟩, h1b⟩, h2⟩, h3⟩, h4⟩ := h
          obtain ⟨gl, gd⟩ := isGl_gl G h2
          obtain ⟨fa, fd, ps, FO, hm, hk, hb⟩ := G.fn h0 f x _ h1 h1b
          obtain ⟨pes, i2, i3, i4⟩ := all_ok G cv h4
          have hnb := i3 rfl
          cases es with
          | nil =>
            cases as with
            | cons _ _ => cases h4
            | nil => exact pe_imp (pe_call0S FO (G.room h0) gl hm hk hb (fun σ => passAt tk σ) gd) fun σ H Q h => (h.callA hnb).nil
          | cons e es =>
            have h3' := h3
            simp only [List.all_cons, Bool.and_eq_true] at h3
            exact pe_imp (pe_callS FO (G.room h0) gl hm hk hb (fun σ => passAt tk σ) (PEs.pa pes h3') gd (star_cons h3.1) (star_plain h3.2)) fun σ H Q h => h.callA hnb
        · cases h
      | callT f l as =>
        refine nofresh (t := fun o => TV (cn E X fx q W) o (.callT f l as)) rfl ?_
        simp only [cmP] at h
        split at h
        · rename_i x p e0 es pos
          simp only [Bool.and_eq_true, decide_eq_true_eq, Option.isNone_iff_eq_none] at h
          obtain ⟨⟨⟨⟨⟨⟨⟨h0, h1⟩, h1b⟩, h2⟩, h3⟩, hnw⟩, hl⟩, h4⟩ := h
          obtain ⟨gl, gd⟩ := isGl_gl G h2
          obtain ⟨fa, fd, ps, FO, hm, hk, hb⟩ := G.fn h0 f x _ h1 h1b
          obtain ⟨pes, i2, i3, i4⟩ := all_ok G cv h4
          have h3' := h3
          simp only [List.all_cons, Bool.and_eq_true] at h3
          have hL : PE X e0 (TV (cn E X fx q W) true l) := snd n (m := .val) G tk hl true (fun _ => (isNew_eq l).symm.trans hnw)
          exact pe_imp (pe_callS FO (G.room h0) gl hm hk hb (fun σ => passAt tk σ) (pa_cons hL (PEs.pa pes h3.2) (star_cons h3.1)) gd (star_cons h3.1) (star_plain h3.2)) fun σ H Q h => h.callTmp (o := false) (i3 rfl) (i2 rfl)
        · cases h
      | and a c =>
        refine nofresh (t := fun o => TV (cn E X fx q W) o (.and a c)) rfl ?_
        simp only [cmP] at h
        split at h
        · rename_i x y es pos
          simp only [Bool.and_eq_true] at h
          have ha := cv _ _ h.1
          have hc := cv _ _ h.2
          cases es with
          | nil => exact pe_imp (pe_and ha (pe_one hc)) fun σ H Q h => h.andV
          | cons z es => exact pe_imp (pe_and ha hc) fun σ H Q h => h.andV
        · cases h
      | or a c =>
        refine nofresh (t := fun o => TV (cn E X fx q W) o (.or a c)) rfl ?_
        simp only [cmP] at h
        split at h
        · rename_i x y es pos
          simp only [Bool.and_eq_true] at h
          have ha := cv _ _ h.1
          have hc := cv _ _ h.2
          cases es with
          | nil => exact pe_imp (pe_or ha (pe_one hc)) fun σ H Q h => h.orV
          | cons z es => exact pe_imp (pe_or ha hc) fun σ H Q h => h.orV
        · cases h
      | not a =>
        refine nofresh (t := fun o => TV (cn E X fx q W) o (.not a)) rfl ?_
        simp only [cmP] at h
        split at h
        · exact pe_imp (pe_not (cv _ _ h)) fun σ H Q h => h.notV
        · cases h
      | ite c a b =>
        refine nofresh (t := fun o => TV (cn E X fx q W) o (.ite c a b)) rfl ?_
        simp only [cmP] at h
        split at h
        · simp only [Bool.and_eq_true] at h
          have ht : PT X _ (TT' (cn E X fx q W) c) := snd n (m := .tst) G tk h.1.1
          exact pe_imp (pe_ifExp ht (cv _ _ h.1.2) (cv _ _ h.2)) fun σ H Q h => h.iteV
        · cases h
      | chain r r' a b c =>
        refine nofresh (t := fun o => TV (cn E X fx q W) o (.chain r r' a b c)) rfl ?_
        simp only [cmP] at h
        split at h
        · simp only [Bool.and_eq_true] at h
          obtain ⟨⟨⟨⟨⟨h1, h2⟩, h3⟩, h4⟩, h5⟩, h6⟩ := h
          split at h1
          · rename_i p1 hp1
            split at h2
            · rename_i p2 hp2
              obtain rfl := primEq_eq h1
              obtain rfl := primEq_eq h2
              exact pe_imp (pe_chain (cmpO_ok (o := false) G.un hp1) (cmpO_ok (o := false) G.un hp2) (cv _ _ h4) (cv _ _ h5) (cv _ _ h6) (lastM h3)) fun σ H Q h => h.chainV
            · cases h2
          · cases h1
        · cases h
      | met mm a as =>
        refine nofresh (t := fun o => TV (cn E X fx q W) o (.met mm a as)) rfl ?_
        simp only [cmP] at h
        split at h
        · simp only [Bool.and_eq_true, decide_eq_true_eq] at h
          obtain ⟨⟨⟨⟨⟨⟨h1, h2⟩, h3⟩, h4⟩, h5⟩, h6⟩, h7⟩ := h
          subst h1
          obtain ⟨pes, i2, i3, i4⟩ := all_ok G cv h6
          have hr : noIo [a] = true := by cases a <;> first | rfl | cases h5
          refine met_ok G h2 h3 h4 h7 hr (i2 rfl) ?_ pes
          cases hk : a.kd with
          | val => rw [hk] at h5; rw [tAV hk]; exact cv _ _ h5
          | bor p => obtain rfl := kd_bor hk; exact plE_pe G h5
          | io p => obtain rfl := kd_io hk; cases hr
        · cases h
      | «mut» mm pl as =>
        refine nofresh (t := fun o => TV (cn E X fx q W) o (.mut mm pl as)) rfl ?_
        simp only [cmP] at h
        split at h
        · simp only [Bool.and_eq_true, decide_eq_true_eq] at h
          obtain ⟨⟨⟨⟨⟨⟨h1, h2⟩, h3⟩, h4⟩, h5⟩, h6⟩, h7⟩ := h
          subst h1
          obtain ⟨pes, i2, i3, i4⟩ := all_ok G cv h6
          exact mut_ok h2 h3 h4 h7 (i4 rfl rfl) (plE_pe G h5) pes
        · cases h
      | dnew t =>
        simp only [cmP] at h
        split at h
        · simp only [Bool.or_eq_true, beq_iff_eq] at h
          rcases h with rfl | rfl
          · refine pe_imp pe_dnewK fun σ H Q h => ?_
            obtain ⟨ρ, F, rest, l, s, q⟩ := h
            rw [evP] at q
            exact PQ.dnew0 (o := o) q s
          · refine pe_imp pe_dnewT fun σ H Q h => ?_
            obtain ⟨ρ, F, rest, l, s, q⟩ := h
            rw [evP] at q
            exact PQ.dnew1 (o := o) q s
        · cases h
      | comp elt tg it cond =>
        simp only [cmP] at h
        split at h
        · rename_i e t i ifs scope pos
          simp only [Bool.and_eq_true, decide_eq_true_eq, Option.isNone_iff_eq_none] at h
          obtain ⟨⟨⟨⟨⟨⟨⟨h0, h1⟩, h2⟩, h3⟩, h4⟩, h5, hz⟩, h6⟩, h7⟩ := h
          have hI : PI X t i (TI' (cn E X fx q W) it) := snd n (m := .itr) G tk h5 t hz
          have hB : BlkOk X.N X.env.scope scope (ownN tg t) := by rw [G.hsc]; exact blkOk_by h1
          have hkind : scope.kind = ScopeKind.function := by
            unfold blkC at h1
            simp only [Bool.and_eq_true] at h1
            have := h1.1.1.1
            split at this
            · assumption
            · cases this
          obtain ⟨hi, hf⟩ := tg_slots G.fxio h2
          have hg : ∀ (s : Shared) (H : Hp) (Cd : Addr) (cl : List (Str × Addr)) (fp : List Addr), PG (X.blk s H scope (compEnvC scope cl Cd X.env) fp) t (gT X.K tg) := fun s H Cd cl fp => (pg_ok (G.blk h0 hkind (scope := scope) s H Cd cl fp) h2).1
          have he : ∀ (s : Shared) (H : Hp) (Cd : Addr) (cl : List (Str × Addr)) (fp : List Addr), PE (X.blk s H scope (compEnvC scope cl Cd X.env) fp) e (TV (cn E X fx q W0) false elt) := fun (s : Shared) (H : Hp) (Cd : Addr) (cl : List (Str × Addr)) (fp : List Addr) => snd n (m := .val) (W := W0) (X := X.blk s H scope (compEnvC scope cl Cd X.env) fp) (G.blk h0 hkind (scope := scope) s H Cd cl fp) takes0 h6 false (fun z => by cases z)
          have ht : ∀ (s : Shared) (H : Hp) (Cd : Addr) (cl : List (Str × Addr)) (fp : List Addr), PTs (X.blk s H scope (compEnvC scope cl Cd X.env) fp) ifs (ttC (cn E X fx q W0) cond) := by
            intro s H Cd cl fp
            split at h7
            · exact pts_nil
            · exact pts_one (snd n (m := .tst) (W := W0) (X := X.blk s H scope (compEnvC scope cl Cd X.env) fp) (G.blk h0 hkind (scope := scope) s H Cd cl fp) takes0 h7)
            · cases h7
          refine pe_imp (pe_lc (G.calm h0) G.nd hI hB hg ht he (notSet_it h4)) fun σ H Q h => ?_
          rw [h3]
          exact comp_t hi hf h
        · cases h
      | xis i c =>
        simp only [cmP] at h
        split at h
        · simp only [Bool.and_eq_true, decide_eq_true_eq] at h
          obtain ⟨⟨⟨⟨⟨h1, h2⟩, h3⟩, h4⟩, h5⟩, h6⟩ := h
          split at h6
          · rename_i z b hz
            exact xis_ok G h1 h2 h3 h4 h5 hz (of_decide_eq_true h6)
          · cases h6
        · cases h
    cases m with
    | val => exact val h
    | itr =>
      intro tg hzt
      have gen : cmP nm X.N io sui (n + 1) sc .itr p e = true → p.kd = .val → PI X tg e (TI' (cn E X fx q W) p) := by
        intro h hk
        have h' : (match argsRng sc p e with
          | some (as, es) => cmAll (plE X.N sc) (cmP nm X.N io sui n sc .val) true false as es
          | none => match argsZip sc p e with
            | some (as, es) => cmAll (plE X.N sc) (cmP nm X.N io sui n sc .val) false false as es
            | none => notSet e && cmP nm X.N io sui n sc .val p e) = true := by
          cases p <;> first | exact h | cases hk
        clear h
        split at h'
        · rename_i as es hr
          obtain ⟨pes, i2, i3, i4⟩ := all_ok G cv h'
          have hn := i2 rfl
          unfold argsRng at hr
          split at hr
          · split at hr
            · rename_i hc
              cases hr
              simp only [Bool.and_eq_true, decide_eq_true_eq] at hc
              obtain ⟨⟨h1, h2⟩, h3⟩ := hc
              subst h1
              obtain ⟨gl, gd⟩ := isGl_gl G h2
              refine pi_imp (pi_range1 gl (G.blt _ (by decide +kernel)) (PEs.pa pes (by simp [h3])) (star_cons h3)) fun σ H R0 h => ?_
              obtain ⟨ρ, F, rest, l, s, qq⟩ := h
              unfold evI at qq
              rw [evP, EQ.bind, EQ.bind] at qq
              refine ⟨ρ, F, rest, l, s, qq.imp fun ds ρ1 eds qq vs H1 F1 s1 lay => ?_⟩
              obtain ⟨d, ed, qa⟩ := qq.at
              clear qq
              rw [EQ.bind] at qa
              obtain ⟨xs, exs, qb⟩ := qa.at
              clear qa
              replace ed : evRng1 ds = .ok d := ed
              unfold evRng1 at ed
              split at ed
              · rename_i b
                obtain ⟨hb, rfl⟩ := okIf_ok ed
                cases exs
                obtain ⟨v, rfl, bv⟩ := (lay.bors hn s1).b1
                cases bv.int
                unfold in62 at hb
                simp only [Bool.and_eq_true, decide_eq_true_eq] at hb
                refine ⟨b, rfl, hb.1, hb.2, ?_⟩
                have qc : ∀ J H' F' ex, Sep (wd E X) H' F' (LT none σ ++ (ex ++ (zp ρ1 σ ++ rest))) → Walks (wd E X) J (LT none σ ++ ex) (rngD 0 b) → R0 J H' := qb
                have := qc (Itr 0 b.toNat) H1 F1 [] s1.right (by have := walks_rng (K := wd E X) (a := 0) (b := b) (need := LT none σ ++ []); simpa using this)
                exact this
              · cases ed
            · cases hr
          · split at hr
            · rename_i hc
              cases hr
              simp only [Bool.and_eq_true, decide_eq_true_eq] at hc
              obtain ⟨⟨⟨h1, h2⟩, h3⟩, h3'⟩ := hc
              subst h1
              obtain ⟨gl, gd⟩ := isGl_gl G h2
              refine pi_imp (pi_range2 gl (G.blt _ (by decide +kernel)) (PEs.pa pes (by simp [h3, h3'])) (by rw [star_cons h3, star_cons h3']; rfl) (star_cons h3')) fun σ H R0 h => ?_
              obtain ⟨ρ, F, rest, l, s, qq⟩ := h
              unfold evI at qq
              rw [evP, EQ.bind, EQ.bind] at qq
              refine ⟨ρ, F, rest, l, s, qq.imp fun ds ρ1 eds qq vs H1 F1 s1 lay => ?_⟩
              obtain ⟨d, ed, qa⟩ := qq.at
              clear qq
              rw [EQ.bind] at qa
              obtain ⟨xs, exs, qb⟩ := qa.at
              clear qa
              obtain ⟨a, b, rfl, ed⟩ := evInt2_ok (show evInt2 (fun a b => okIf (in62 a && in62 b) (.lst (rngD a b))) ds = .ok d from ed)
              obtain ⟨hb, rfl⟩ := okIf_ok ed
              cases exs
              obtain ⟨v, w, rfl, bv, bw⟩ := (lay.bors hn s1).b2
              cases bv.int
              cases bw.int
              unfold in62 at hb
              simp only [Bool.and_eq_true, decide_eq_true_eq] at hb
              refine ⟨a, b, rfl, ⟨hb.1.1, hb.1.2, hb.2.1, hb.2.2⟩, ?_⟩
              have qc : ∀ J H' F' ex, Sep (wd E X) H' F' (LT none σ ++ (ex ++ (zp ρ1 σ ++ rest))) → Walks (wd E X) J (LT none σ ++ ex) (rngD a b) → R0 J H' := qb
              exact qc (Itr a (b - a).toNat) H1 F1 [] s1.right walks_rng
            · cases hr
          · cases hr
        · split at h'
          · rename_i as es hr
            obtain ⟨pes, i2, i3, i4⟩ := all_ok G cv h'
            unfold argsZip at hr
            split at hr
            · rename_i f fp x y zp_
              split at hr
              · rename_i hc
                cases hr
                simp only [Bool.and_eq_true, decide_eq_true_eq] at hc
                obtain ⟨⟨⟨h1, h2⟩, h3⟩, h3'⟩ := hc
                subst h1
                obtain ⟨gl, gd⟩ := isGl_gl G h2
                exact zip_ok G gl (G.blt _ (by decide +kernel)) (PEs.pa pes (by simp [h3, h3'])) (by rw [star_cons h3']; rfl) (star_cons h3) (star_cons h3') (noIoBor (i2 rfl) (i3 rfl)) hzt
              · cases hr
            · cases hr
          · simp only [Bool.and_eq_true] at h'
            exact pi_imp (pi_any (cv _ _ h'.2)) fun σ H R0 h => TI.val hk h
      cases hk : p.kd with
      | val => exact gen h hk
      | bor pl =>
        obtain rfl := kd_bor hk
        have h' : plE X.N sc pl e = true := h
        exact pi_imp (pi_any (plE_pe G h')) fun σ H R0 h => TI.bor h
      | io pl =>
        obtain rfl := kd_io hk
        have h' : (match argsRng sc (.io pl) e with
          | some (as, es) => cmAll (plE X.N sc) (cmP nm X.N io sui n sc .val) true false as es
          | none => notSet e && cmP nm X.N io sui n sc .val (.io pl) e) = true := h
        have e1 : argsRng sc (.io pl) e = none := rfl
        rw [e1] at h'
        simp only [Bool.and_eq_true] at h'
        cases n with
        | zero => cases h'.2
        | succ n => cases h'.2
    | tst =>
      have tv : plT e = true → cmP nm X.N io sui n sc .val p e = true → PT X e (TT' (cn E X fx q W) p) := fun h1 h2 =>
        pt_imp (pt_val (cv _ _ h2) (plT_ok h1)) fun σ H Q h => TT.tv h
      have cmp : ∀ {p : P} {x : Expr} {ops : List CmpOp} {ys : List Expr} {pos : Pos}, isEnt p = false → cmP nm X.N io sui n sc .val p (.Compare x ops ys pos) = true → PT X (.Compare x ops ys pos) (TT' (cn E X fx q W) p) := by
        intro p x ops ys pos hp
        match n with
        | 0 => intro h; cases h
        | n + 1 =>
          intro h
          have cv : ∀ p e, cmP nm X.N io sui n sc .val p e = true → PE X e (TV (cn E X fx q W) false p) := fun p e h => snd n (m := .val) G tk h false (fun z => by cases z)
          cases p with
          | op r as =>
            simp only [cmP] at h
            split at h
            · rename_i es hes
              simp only [Bool.and_eq_true] at h
              obtain ⟨⟨h1, h2⟩, h3⟩ := h
              obtain ⟨i1, i2, i3, i4⟩ := all_ok G cv h3
              unfold args? at hes
              split at hes <;> rename_i he <;> first | (cases he; done) | skip
              · cases he
                exact cmp_okT G (i2 rfl) hes i1
              all_goals (cases hes)
            · cases h
          | chain r r' a b c =>
            simp only [cmP] at h
            split at h
            · simp only [Bool.and_eq_true] at h
              obtain ⟨⟨⟨⟨⟨h1, h2⟩, h3⟩, h4⟩, h5⟩, h6⟩ := h
              rename_i he
              cases he
              split at h1
              · rename_i p1 hp1
                split at h2
                · rename_i p2 hp2
                  obtain rfl := primEq_eq h1
                  obtain rfl := primEq_eq h2
                  exact pt_imp (pt_chain (cmpO_ok (o := false) G.un hp1) (cmpO_ok (o := false) G.un hp2) (cv _ _ h4) (cv _ _ h5) (cv _ _ h6) (lastM h3)) fun σ H Q h => (TT.tv h).chainV
                · cases h2
              · cases h1
            · cases h
          | ent a => cases hp
          | _ => simp only [cmP] at h; exact absurd h Bool.false_ne_true
      have ct : ∀ p e, cmP nm X.N io sui n sc .tst p e = true → PT X e (TT' (cn E X fx q W) p) := fun p e h => snd n (m := .tst) G tk h
      cases p with
      | and a c =>
        simp only [cmP] at h
        split at h
        · rename_i x y es pos
          simp only [Bool.and_eq_true] at h
          have ha := ct _ _ h.1
          have hc := ct _ _ h.2
          cases es with
          | nil => exact pt_imp (PW.pt (pw_and ha (pw_and1 hc))) fun σ H Q h => TT.andT h
          | cons z es => exact pt_imp (PW.pt (pw_and ha (pw_bool hc))) fun σ H Q h => TT.andT h
        · cases h
      | or a c =>
        simp only [cmP] at h
        split at h
        · rename_i x y es pos
          simp only [Bool.and_eq_true] at h
          have ha := ct _ _ h.1
          have hc := ct _ _ h.2
          cases es with
          | nil => exact pt_imp (PW.pt (pw_or ha (pw_or1 hc))) fun σ H Q h => TT.orT h
          | cons z es => exact pt_imp (PW.pt (pw_or ha (pw_bool hc))) fun σ H Q h => TT.orT h
        · cases h
      | not a =>
        simp only [cmP] at h
        split at h
        · exact pt_imp (pt_not (ct _ _ h)) fun σ H Q h => TT.notT h
        · cases h
      | ent a => simp only [cmP] at h; exact absurd h Bool.false_ne_true
      | _ =>
        simp only [cmP] at h
        split at h
        · exact cmp rfl h
        · simp only [Bool.and_eq_true] at h
          exact tv h.1 h.2
end
end Bk

/-! B11: statements: their readings. -/
namespace Bk
open PySem PySem.Spec PyProof.Rows L2

/-- what is wanted of a statement's end -/
def OQ (C : Cn) (Dd : Ends) (rest : Things) (o : O) : Prop := match o with
  | .nx ρ => ∀ σ H F, Ln C ρ σ → Sep C.K H F (zp ρ σ ++ rest) → Dd.nx σ H
  | .ret d ρ => ∀ v σ H F, Ln C ρ σ → Sep C.K H F ((.fz d, some v) :: (zp ρ σ ++ rest)) → Dd.rt v H
  | .brk ρ => ∀ σ H F, Ln C ρ σ → Sep C.K H F (zp ρ σ ++ rest) → Dd.bk σ H
  | .cont ρ => ∀ σ H F, Ln C ρ σ → Sep C.K H F (zp ρ σ ++ rest) → Dd.ct σ H
  | .exc c ρ => ∀ σ H F, Ln C ρ σ → Sep C.K H F (zp ρ σ ++ rest) → C.W (C.K.xc c) none σ H
  | .stuck => False
def TSt (C : Cn) (f : Rho → O) : TS := fun Dd σ H => ∃ ρ F rest, Ln C ρ σ ∧ Sep C.K H F (zp ρ σ ++ rest) ∧ OQ C Dd rest (f ρ)
section
variable {C : Cn} {Dd : Ends} {rest : Things} {σ : L2.St} {H : Hp}
theorem OQ.thn {α : Type} {r : Ev α} {f : α → Rho → O} (h : OQ C Dd rest (r.thn f)) : EQ C rest σ r fun a ρ => OQ C Dd rest (f a ρ) := by
  cases r with
  | ok a ρ => exact h
  | exc c ρ => exact fun H F l s => h σ H F l s
  | stuck => exact h.elim
theorem OQ.at {α : Type} {r : R α} {ρ : Rho} {f : α → Rho → O} (h : OQ C Dd rest ((r.at ρ).thn f)) : ∃ a, r = .ok a ∧ OQ C Dd rest (f a ρ) := by
  cases r with
  | ok a => exact ⟨a, rfl, h⟩
  | stuck => exact h.elim
theorem TSt.seq {f g : Rho → O} (h : TSt C (fun ρ => (f ρ).seq g) Dd σ H) : tSeq (TSt C f) (TSt C g) Dd σ H := by
  obtain ⟨ρ, F, rest, l, s, q⟩ := h
  refine ⟨ρ, F, rest, l, s, ?_⟩
  cases e : f ρ with
  | nx ρ' =>
    simp only [e] at q
    exact fun σ' H' F' l' s' => ⟨ρ', F', rest, l', s', q⟩
  | ret d ρ' => simp only [e] at q; exact q
  | brk ρ' => simp only [e] at q; exact q
  | cont ρ' => simp only [e] at q; exact q
  | exc c ρ' => simp only [e] at q; exact q
  | stuck => simp only [e] at q; exact q.elim
theorem OQ.ends {Dd Dd' : Ends} {o : O} (h : OQ C Dd rest o) (h1 : ∀ σ H, Dd.nx σ H → Dd'.nx σ H) (h2 : ∀ v H, Dd.rt v H → Dd'.rt v H) (h3 : ∀ σ H, Dd.bk σ H → Dd'.bk σ H) (h4 : ∀ σ H, Dd.ct σ H → Dd'.ct σ H) : OQ C Dd' rest o := by
  cases o with
  | nx ρ => exact fun σ H F l s => h1 _ _ (h σ H F l s)
  | ret d ρ => exact fun v σ H F l s => h2 _ _ (h v σ H F l s)
  | brk ρ => exact fun σ H F l s => h3 _ _ (h σ H F l s)
  | cont ρ => exact fun σ H F l s => h4 _ _ (h σ H F l s)
  | exc c ρ => exact h
  | stuck => exact h
end
section
variable {nm : Nm} {E : Wo} {k : Nat} {sui : Option Nat} {io : List Nat} {fx : List (Nat × V)} {q : En} {sc : Scope} {fnb : Str → Bool} {X : Cx} {W : WX} {Dd : Ends} {σ : L2.St} {H : Hp}
theorem asg_t {tg : Tg} {p : P} (hi : ∀ i ∈ tg.slots, i < X.N.length) (hf : Off fx tg.slots) (h : TSt (cn E X fx q W) (evS q (.asg tg p)) Dd σ H) : TV (cn E X fx q W) false p σ H fun x H1 => gT X.K tg x σ H1 Dd.nx := by
  obtain ⟨ρ, F, rest, l, s, qq⟩ := h
  rw [evS] at qq
  refine ⟨ρ, F, rest, l, s, (OQ.thn (σ := σ) qq).imp fun d ρ1 ed q2 v H1 F1 s1 vd => ?_⟩
  obtain ⟨ρ2, e2, q3⟩ := q2.at
  exact tgt_ok (C := cn E X fx q W) (K := wd E X) e2 hi hf (l.to (evP_ok_len ed)) s1 vd fun σ' l' s' _ => q3 σ' H1 F1 l' s'
theorem own_t {i : Nat} {p : P} (hi : i < X.N.length) (hf : ∀ r ∈ fx, r.1 ≠ i) (h : TSt (cn E X fx q W) (evS q (.own i p)) Dd σ H) : TV (cn E X fx q W) true p σ H fun x H1 => gName i x σ H1 Dd.nx := by
  obtain ⟨ρ, F, rest, l, s, qq⟩ := h
  rw [evS] at qq
  refine ⟨ρ, F, rest, l, s, (OQ.thn (σ := σ) qq).imp fun d ρ1 ed q2 => ?_⟩
  split at q2
  · rename_i hc
    unfold PQ
    rw [hc]
    intro v H1 F1 s1
    have l1 := l.to (evP_ok_len ed)
    exact q2 _ H1 F1 (l1.set hf) (s1.setSlot (by rw [l1.r]; exact hi) (by rw [l1.s]; exact hi))
  · exact q2.elim
theorem par_t {i j : Nat} {a b : P} (ha : a.kd = .val) (hb : b.kd = .val) (hi : i < X.N.length) (hj : j < X.N.length) (hf : ∀ r ∈ fx, r.1 ≠ i) (hf2 : ∀ r ∈ fx, r.1 ≠ j) (h : TSt (cn E X fx q W) (evS q (.par i j a b)) Dd σ H) : TAs (cn E X fx q W) [a, b] σ H fun vs H1 => ∃ v w, vs = [v, w] ∧ Dd.nx ((σ.set i (some v)).set j (some w)) H1 := by
  obtain ⟨ρ, F, rest, l, s, qq⟩ := h
  rw [evS] at qq
  refine ⟨ρ, F, rest, l, s, (OQ.thn (σ := σ) qq).imp fun ds ρ1 ed q2 vs H1 F1 s1 lay => ?_⟩
  have l1 := l.to (evAs_ok_len ed)
  obtain ⟨n1, n2⟩ := Lay.lens lay
  match ds, vs, n1, n2 with
  | [x, y], [v, w], _, _ =>
    refine ⟨v, w, rfl, ?_⟩
    have e : AT [a, b] [x, y] [v, w] = [(.fz x, some v), (.fz y, some w)] := by simp [AT, ha, hb]
    rw [e] at s1
    obtain ⟨v', ev, qx⟩ := s1.mem_val (d := x) (o := some v) (by simp)
    obtain ⟨w', ew, qy⟩ := s1.mem_val (d := y) (o := some w) (by simp)
    cases ev; cases ew
    have s2 := Sep.tail (Sep.tail s1)
    have s3 := s2.setFz l1 qx hi
    have l3 := l1.set (s := .fz x) (o := some v) hf
    have s4 := s3.setFz l3 qy hj
    exact q2 _ H1 F1 (l3.set hf2) s4
theorem any_star (e1 e2 : Expr) (n1 : nst e1 = true) (n2 : nst e2 = true) (f : Expr → Bool) (hf : ∀ e, nst e = true → f e = false) : [e1, e2].any f = false := by simp [hf e1 n1, hf e2 n2]
theorem par_swap {e1 e2 : Expr} {x y : Str} {px py pt pt2 : Pos} {k1 k2} {env : Env} (hk : env.scope.kind = ScopeKind.function) (hx : env.scope.names.lookup x = some .local) (hy : env.scope.names.lookup y = some .local) (xy : x ≠ y) (hl : (px.line == py.line) = true) (ho : parOk e1 e2 = true) :
    swappedStores [.Tuple [.Name x px, .Name y py] k1 pt] (.Tuple [e1, e2] k2 pt2) env = pure (some [x, y]) := by
  unfold parOk at ho
  simp only [Bool.and_eq_true, Bool.not_eq_true'] at ho
  obtain ⟨⟨⟨n1, n2⟩, n3⟩, n4⟩ := ho
  have kx : env.kindOf x = some .local := hx
  have ky : env.kindOf y = some .local := hy
  have hb : env.blockKind = .function := by unfold Env.blockKind; rw [hk]; rfl
  have hyx : ¬ y = x := fun z => xy z.symm
  have hl' : py.line = px.line := (eq_of_beq hl).symm
  unfold swappedStores
  dsimp only
  rw [any_star e1 e2 n1 n2 _ (fun e h => by cases e <;> first | rfl | cases h)]
  simp [hb, kx, ky, hl', Expr.pos, n3, n4, List.eraseDups_cons, hyx, xy]
theorem set_t {p : Pl} {a v : P} (h : TSt (cn E X fx q W) (evS q (.set p a v)) Dd σ H) : TV (cn E X fx q W) false v σ H fun x H1 => gSub (tPl p) (TV (cn E X fx q W) false a) (rSetP (wd E X)) x σ H1 Dd.nx := by
  obtain ⟨ρ, F, rest, l, s, qq⟩ := h
  rw [evS] at qq
  refine ⟨ρ, F, rest, l, s, (OQ.thn (σ := σ) qq).imp fun x ρ1 ex q2 xv H1 F1 s1 vx => ?_⟩
  have l1 := l.to (evP_ok_len ex)
  split at q2
  · rename_i hb
    obtain ⟨o, ho⟩ := Pl.bound_at hb l1 s1
    refine ⟨o, ho, ρ1, F1, [(.fz x, some xv)] ++ rest, l1, (s1.push vx).perm List.perm_middle.symm, ?_⟩
    refine (OQ.thn (σ := σ) q2).skip fun kd ρ2 ek q3 iv H2 F2 s2 vk => ?_
    have l2 := l1.to (evP_ok_len ek)
    obtain ⟨⟨d, ρ3⟩, ed, q4⟩ := q3.at
    obtain ⟨d', ed', q5⟩ := q4.at
    obtain ⟨ρ4, e4, q6⟩ := q5.at
    clear q3 q4 q5
    have s3 : Sep (wd E X) H2 F2 ([(.fz x, some xv)] ++ (zp ρ2 σ ++ rest)) := s2.perm List.perm_middle
    obtain ⟨w, ew, vx2⟩ := Sep.val s3
    cases ew
    have s4 := Pl.take_sep ed ho s3
    refine ⟨F2, _, d, kd, x, d', s4, vk.bor, vx2, ed', fun H3 s5 => ?_⟩
    have l3 := l2.to (Pl.take_length ed)
    have s6 := Pl.put_sep (C := cn E X fx q W) (A := [(.fz x, some xv)]) e4 l3 ho s5
    exact q6 σ H3 F2 (l3.to (Pl.put_length e4)) s6.tail
  · exact q2.elim
theorem drop_t {p : P} (h : TSt (cn E X fx q W) (evS q (.drop p)) Dd σ H) : tDrop (TV (cn E X fx q W) false p) Dd σ H := by
  obtain ⟨ρ, F, rest, l, s, qq⟩ := h
  rw [evS] at qq
  exact ⟨ρ, F, rest, l, s, (OQ.thn (σ := σ) qq).imp fun d ρ1 ed q2 v H1 F1 s1 vd => q2 σ H1 F1 (l.to (evP_ok_len ed)) s1⟩
theorem ret_t {p : P} (h : TSt (cn E X fx q W) (evS q (.ret p)) Dd σ H) : tRet (TV (cn E X fx q W) false p) Dd σ H := by
  obtain ⟨ρ, F, rest, l, s, qq⟩ := h
  rw [evS] at qq
  exact ⟨ρ, F, rest, l, s, (OQ.thn (σ := σ) qq).imp fun d ρ1 ed q2 v H1 F1 s1 vd => q2 v σ H1 F1 (l.to (evP_ok_len ed)) (s1.push vd)⟩
theorem ifs_t {c : P} {a b : List S} (h : TSt (cn E X fx q W) (evS q (.ifs c a b)) Dd σ H) : tIfS (TT' (cn E X fx q W) c) (TSt (cn E X fx q W) (evSs q a)) (TSt (cn E X fx q W) (evSs q b)) Dd σ H := by
  obtain ⟨ρ, F, rest, l, s, qq⟩ := h
  rw [evS] at qq
  refine ⟨ρ, F, rest, l, s, ?_⟩
  rw [EQ.bind]
  refine (OQ.thn (σ := σ) qq).imp fun d ρ1 ed q2 => ?_
  obtain ⟨k, ek, q3⟩ := q2.at
  refine .atI ek fun H1 F1 s1 => ?_
  have l1 := l.to (evP_ok_len ed)
  cases k with
  | true => exact ⟨ρ1, F1, rest, l1, s1, q3⟩
  | false => exact ⟨ρ1, F1, rest, l1, s1, q3⟩
theorem whl_t {n : Nat} {c : P} {b : List S} (h : TSt (cn E X fx q W) (evS q (.whl n c b)) Dd σ H) : tWhile (TT' (cn E X fx q W) c) (TSt (cn E X fx q W) (evSs q b)) Dd σ H := by
  obtain ⟨ρ, F, rest, l, s, qq⟩ := h
  rw [evS] at qq
  refine ⟨fun m σ H => ∃ ρ F, Ln (cn E X fx q W) ρ σ ∧ Sep (wd E X) H F (zp ρ σ ++ rest) ∧ OQ (cn E X fx q W) Dd rest (whlL (fun ρ => (evP q c ρ).bind fun d ρ => (asB d).at ρ) (evSs q b) m ρ), ⟨n, ρ, F, l, s, qq⟩, ?_⟩
  clear qq s l
  rintro m σ H ⟨ρ, F, l, s, qq⟩
  cases m with
  | zero => exact qq.elim
  | succ m =>
    unfold whlL at qq
    refine ⟨ρ, F, rest, l, s, (OQ.thn (σ := σ) qq).imp fun k ρ1 ek q2 H1 F1 s1 => ?_⟩
    have l1 : Ln (cn E X fx q W) ρ1 σ := l.to (by
      cases e1 : evP q c ρ with
      | ok d ρ2 =>
        rw [e1, Ev.bind_ok] at ek
        obtain ⟨_, rfl⟩ := R.at_ok_inv ek
        exact evP_ok_len e1
      | exc c ρ2 => rw [e1] at ek; cases ek
      | stuck => rw [e1] at ek; cases ek)
    cases k with
    | false => exact q2 σ H1 F1 l1 s1
    | true =>
      replace q2 : OQ (cn E X fx q W) Dd rest ((evSs q b ρ1).turn (whlL (fun ρ => (evP q c ρ).bind fun d ρ => (asB d).at ρ) (evSs q b) m)) := q2
      refine ⟨fun σ' H' => ∃ ρ F, Ln (cn E X fx q W) ρ σ' ∧ Sep (wd E X) H' F (zp ρ σ' ++ rest) ∧ OQ (cn E X fx q W) Dd rest (whlL (fun ρ => (evP q c ρ).bind fun d ρ => (asB d).at ρ) (evSs q b) m ρ), fun σ' H' h => ⟨m, Nat.lt_succ_self m, h⟩, ρ1, F1, rest, l1, s1, ?_⟩
      cases eb : evSs q b ρ1 with
      | nx ρ2 => rw [eb] at q2; exact fun σ' H' F' l' s' => ⟨ρ2, F', l', s', q2⟩
      | cont ρ2 => rw [eb] at q2; exact fun σ' H' F' l' s' => ⟨ρ2, F', l', s', q2⟩
      | brk ρ2 => rw [eb] at q2; exact fun σ' H' F' l' s' => q2 σ' H' F' l' s'
      | ret d ρ2 => rw [eb] at q2; exact q2
      | exc c ρ2 => rw [eb] at q2; exact q2
      | stuck => rw [eb] at q2; exact q2.elim

/-! ### for -/
/-- what is lent, by its value -/
def LV (l : Option (Pl × D)) (v : Option V) : Things := match l with
  | some (_, d) => [(.own d, v)]
  | none => []
theorem back_ok {fx' : List (Nat × V)} {lo : Option (Pl × D)} {v : Option V} {rest ex : Things} {o : O} (hlo : ∀ p d, lo = some (p, d) → ∃ w, v = some w ∧ (p.i, w) ∈ fx') (hsub : ∀ r ∈ fx, r ∈ fx')
    (h : OQ (cn E X fx q W) Dd rest (o.back lo)) : OQ (cn E X fx' q W) Dd (LV lo v ++ (ex ++ rest)) o := by
  have key : ∀ {ρ ρ' : Rho} {σ : L2.St} {H : Hp} {F : Addr → Prop} {A : Things}, backI ρ lo = .ok ρ' → Ln (cn E X fx' q W) ρ σ → Sep (wd E X) H F (A ++ (zp ρ σ ++ (LV lo v ++ (ex ++ rest)))) → Ln (cn E X fx q W) ρ' σ ∧ Sep (wd E X) H F (A ++ (zp ρ' σ ++ rest)) := by
    intro ρ ρ' σ H F A e l s
    refine ⟨⟨by rw [backI_len e]; exact l.r, l.s, fun p hp => l.f p (hsub p hp)⟩, ?_⟩
    cases lo with
    | none =>
      cases e
      have s' : Sep (wd E X) H F ((A ++ zp ρ σ) ++ (ex ++ rest)) := by rw [List.append_assoc]; exact s
      have := s'.skip
      rw [List.append_assoc] at this
      exact this
    | some pd =>
      obtain ⟨p, d⟩ := pd
      obtain ⟨w, rfl, hw⟩ := hlo p d rfl
      have hv : σ[p.i]? = some (some w) := l.f _ hw
      have s1 : Sep (wd E X) H F ((.own d, some w) :: (A ++ (zp ρ σ ++ (ex ++ rest)))) := s.perm perm_c
      have s2 := Pl.put_sep (C := cn E X fx' q W) e l hv s1
      have s' : Sep (wd E X) H F ((A ++ zp ρ' σ) ++ (ex ++ rest)) := by rw [List.append_assoc]; exact s2
      have := s'.skip
      rw [List.append_assoc] at this
      exact this
  cases o with
  | nx ρ =>
    intro σ H F l s
    unfold O.back at h
    cases e : backI ρ lo with
    | ok ρ' => simp only [e] at h; obtain ⟨a, b⟩ := key (A := []) e l s; exact h σ H F a b
    | stuck => simp only [e] at h; exact h.elim
  | ret d ρ =>
    intro w σ H F l s
    unfold O.back at h
    cases e : backI ρ lo with
    | ok ρ' => simp only [e] at h; obtain ⟨a, b⟩ := key (A := [(.fz d, some w)]) e l s; exact h w σ H F a b
    | stuck => simp only [e] at h; exact h.elim
  | brk ρ =>
    intro σ H F l s
    unfold O.back at h
    cases e : backI ρ lo with
    | ok ρ' => simp only [e] at h; obtain ⟨a, b⟩ := key (A := []) e l s; exact h σ H F a b
    | stuck => simp only [e] at h; exact h.elim
  | cont ρ =>
    intro σ H F l s
    unfold O.back at h
    cases e : backI ρ lo with
    | ok ρ' => simp only [e] at h; obtain ⟨a, b⟩ := key (A := []) e l s; exact h σ H F a b
    | stuck => simp only [e] at h; exact h.elim
  | exc c ρ =>
    intro σ H F l s
    unfold O.back at h
    cases e : backI ρ lo with
    | ok ρ' => simp only [e] at h; obtain ⟨a, b⟩ := key (A := []) e l s; exact h σ H F a b
    | stuck => simp only [e] at h; exact h.elim
  | stuck => exact h.elim
theorem for_t {tg : Tg} {it : P} {b : List S} {fx' : Cn → L2.St → List (Nat × V)} (hi : ∀ i ∈ tg.slots, i < X.N.length) (hf : Off fx tg.slots)
    (hlend : ∀ p, it = .bor p → ∀ j ∈ tg.slots, j ≠ p.i) (hio : ∀ p, it ≠ .io p)
    (h : TSt (cn E X fx q W) (evS q (.for tg it b)) Dd σ H) :
    tFor (TI' (cn E X fx q W) it) (gT X.K tg) (fun Dd σ H => ∃ g : List (Nat × V), (∀ r ∈ g, ∃ p, it = .bor p ∧ r.1 = p.i) ∧ TSt (cn E X (g ++ fx) q W) (evSs q b) Dd σ H) Dd σ H := by
  obtain ⟨ρ, F, rest, l, s, qq⟩ := h
  rw [evS] at qq
  have qe : EQ (cn E X fx q W) rest σ (evI q it ρ) fun xl ρl => OQ (cn E X fx q W) Dd rest ((forL (fun x ρ => ((setT tg x ρ).at ρ).thn fun ρ _ => evSs q b ρ) xl.1 ρl).back xl.2) := by
    unfold evI
    rw [EQ.bind]
    refine (OQ.thn (σ := σ) qq).imp fun x ρ1 ex q2 => ?_
    obtain ⟨xs, exs, q3⟩ := q2.at
    rw [EQ.bind]
    refine .atI exs ?_
    obtain ⟨l2, el, q4⟩ := q3.at
    rw [EQ.bind]
    exact .atI el q4
  refine ⟨ρ, F, rest, l, s, qe.imp fun xl ρl exl q2 J H1 F1 ex s1 hw => ?_⟩
  clear qq qe
  obtain ⟨hl1, hl2⟩ := evI_len exl
  obtain ⟨xs, lo⟩ := xl
  have ll : Ln (cn E X fx q W) ρl σ := l.to hl1
  -- what is lent stands where its slot says
  obtain ⟨g, v, hg, hLT, hlo⟩ : ∃ (g : List (Nat × V)) (v : Option V), (∀ r ∈ g, (∃ p, it = .bor p ∧ r.1 = p.i) ∧ σ[r.1]? = some (some r.2)) ∧ LT lo σ = LV lo v ∧ ∀ p d, lo = some (p, d) → ∃ w, v = some w ∧ (p.i, w) ∈ g := by
    cases lo with
    | none => exact ⟨[], none, (fun r h => nomatch h), rfl, (fun p d h => nomatch h)⟩
    | some pd =>
      obtain ⟨p, d⟩ := pd
      have hit : it = .bor p := by
        unfold evI at exl
        obtain ⟨x, ρ1, e1, h2⟩ := Ev.bind_ok_inv exl
        obtain ⟨ys, ρ2, e2, h3⟩ := Ev.bind_ok_inv h2
        obtain ⟨⟨l3, ρ3⟩, ρ4, e3, h4⟩ := Ev.bind_ok_inv h3
        obtain ⟨e3', _⟩ := R.at_ok_inv e3
        have h5 : l3 = some (p, d) := by
          have := congrArg (fun r : Ev (List D × Option (Pl × D)) => match r with | .ok a _ => a.2 | _ => none) h4
          exact this
        subst h5
        unfold lendI at e3'
        split at e3'
        · split at e3'
          · cases e3'; rfl
          · cases e3'
        · cases e3'
      have hp : p.i < σ.length := by rw [l.s, ← l.r]; exact hl2 p d rfl
      have s2 : Sep (wd E X) H1 F1 ((.own d, (σ[p.i]?).getD none) :: (ex ++ (zp ρl σ ++ rest))) := s1
      obtain ⟨a, ea⟩ := s2.own_ref
      refine ⟨[(p.i, .ref a)], some (.ref a), fun r hr => ?_, ?_, fun p' d' h => ?_⟩
      · simp only [List.mem_singleton] at hr
        subst hr
        refine ⟨⟨p, hit, rfl⟩, ?_⟩
        rw [List.getElem?_eq_getElem hp] at ea ⊢
        simp only [Option.getD_some] at ea
        rw [ea]
      · unfold LT LV
        simp only [ea]
      · cases h
        exact ⟨_, rfl, List.mem_singleton.mpr rfl⟩
  rw [hLT] at s1 hw
  have lg : ∀ {ρ : Rho}, Ln (cn E X fx q W) ρ σ → Ln (cn E X (g ++ fx) q W) ρ σ := fun {ρ} l => ⟨l.r, l.s, fun p hp => by
    rcases List.mem_append.mp hp with z | z
    · exact (hg p z).2
    · exact l.f p z⟩
  have offg : Off (g ++ fx) tg.slots := fun i hi r hr => by
    rcases List.mem_append.mp hr with z | z
    · obtain ⟨⟨p, e, e2⟩, _⟩ := hg r z
      rw [e2]
      exact fun e3 => hlend p e i hi e3.symm
    · exact hf i hi r z
  have s2 : Sep (wd E X) H1 F1 (zp ρl σ ++ (LV lo v ++ (ex ++ rest))) := by
    refine s1.perm ?_
    rw [← List.append_assoc, ← List.append_assoc, ← List.append_assoc, ← List.append_assoc]
    refine List.Perm.append_right rest ?_
    rw [List.append_assoc (zp ρl σ)]
    exact List.perm_append_comm
  have q3 : OQ (cn E X (g ++ fx) q W) Dd (LV lo v ++ (ex ++ rest)) (forL (fun x ρ => ((setT tg x ρ).at ρ).thn fun ρ _ => evSs q b ρ) xs ρl) :=
    back_ok (fx := fx) (fun p d e => by
      obtain ⟨w, e1, e2⟩ := hlo p d e
      exact ⟨w, e1, List.mem_append_left _ e2⟩) (fun r hr => List.mem_append_right _ hr) q2
  have lg0 := lg ll
  clear q2 s1 ll
  refine ⟨fun i m σ H => m = xs.length - i ∧ i ≤ xs.length ∧ ∃ ρ F, Ln (cn E X (g ++ fx) q W) ρ σ ∧ Sep (wd E X) H F (zp ρ σ ++ (LV lo v ++ (ex ++ rest))) ∧ OQ (cn E X (g ++ fx) q W) Dd (LV lo v ++ (ex ++ rest)) (forL (fun x ρ => ((setT tg x ρ).at ρ).thn fun ρ _ => evSs q b ρ) (xs.drop i) ρ),
    ⟨xs.length, by simp, Nat.zero_le _, ρl, F1, lg0, s2, q3⟩, ?_⟩
  rintro i m σ2 H2 ⟨rfl, hle, ρi, F2, li, si, qi⟩
  obtain ⟨hgo, hstop⟩ := hw i H2 F2 _ si (fun t ht => by
    refine List.mem_append_right _ ?_
    rw [← List.append_assoc]
    exact List.mem_append_left _ ht)
  by_cases hlt : i < xs.length
  case neg =>
    have e : i = xs.length := by omega
    subst e
    rw [List.drop_length] at qi
    exact .inl ⟨hstop rfl, qi σ2 H2 F2 li si⟩
  obtain ⟨go, hy⟩ := hgo xs[i] (List.getElem?_eq_getElem hlt)
  rw [List.drop_eq_getElem_cons hlt] at qi
  unfold forL at qi
  refine .inr ⟨go, fun σ' H' => ∃ ρ F, Ln (cn E X (g ++ fx) q W) ρ σ' ∧ Sep (wd E X) H' F (zp ρ σ' ++ (LV lo v ++ (ex ++ rest))) ∧ OQ (cn E X (g ++ fx) q W) Dd (LV lo v ++ (ex ++ rest)) (forL (fun x ρ => ((setT tg x ρ).at ρ).thn fun ρ _ => evSs q b ρ) (xs.drop (i + 1)) ρ),
    fun σ' H' nx => ⟨xs.length - (i + 1), by omega, rfl, hlt, nx⟩, fun x H3 yl => ?_⟩
  obtain ⟨F3, s3, vx⟩ := hy x H3 yl
  cases eset : setT tg xs[i] ρi with
  | stuck => rw [eset] at qi; exact qi.elim
  | ok ρs =>
    rw [eset] at qi
    replace qi : OQ (cn E X (g ++ fx) q W) Dd (LV lo v ++ (ex ++ rest)) ((evSs q b ρs).turn (forL (fun x ρ => ((setT tg x ρ).at ρ).thn fun ρ _ => evSs q b ρ) (xs.drop (i + 1)))) := qi
    refine tgt_ok (C := cn E X (g ++ fx) q W) (K := wd E X) eset hi offg li s3 vx fun σ3 l3 s4 _ => ?_
    refine ⟨g, fun r hr => (hg r hr).1, ρs, F3, _, l3, s4, ?_⟩
    cases eb : evSs q b ρs with
    | nx ρ2 => rw [eb] at qi; exact fun σ' H' F' l' s' => ⟨ρ2, F', l', s', qi⟩
    | cont ρ2 => rw [eb] at qi; exact fun σ' H' F' l' s' => ⟨ρ2, F', l', s', qi⟩
    | brk ρ2 => rw [eb] at qi; exact fun σ' H' F' l' s' => qi σ' H' F' l' s'
    | ret d ρ2 => rw [eb] at qi; exact qi
    | exc c ρ2 => rw [eb] at qi; exact qi
    | stuck => rw [eb] at qi; exact qi.elim
end
end Bk

/-! B12: every statement. -/
namespace Bk
open PySem PySem.Spec PyProof.Rows L2

section
variable {nm : Nm} {E : Wo} {k : Nat} {sui : Option Nat} {io : List Nat} {fx : List (Nat × V)} {q : En} {sc : Scope} {fnb : Str → Bool} {X : Cx} {W : WX} {Dd : Ends} {σ : L2.St} {H : Hp}
theorem noLc_sw {e : Expr} {t : Option Expr} {l : Nat} {env : Env} (h : noLc e = true) : swapsWith e t l env = pure false := by
  cases e <;> first | rfl | cases h
theorem sw_false {elt : Expr} {gs : List Comprehension} {scope : Scope} {pos py : Pos} {y : Str} {l : Nat} {env : Env} (hy : env.scope.names.lookup y = some .cell) : swapsWith (.ListComp elt gs scope pos) (some (.Name y py)) l env = pure false := by
  have ky : env.kindOf y = some .cell := hy
  unfold swapsWith
  simp only [ky]
  have e1 : (some NameKind.cell == some NameKind.local) = false := rfl
  have e2 : (NameKind.cell == NameKind.local) = false := rfl
  simp [e1, e2]
/-- a plain store -/
theorem asg_plain {tg : Tg} {g e : Expr} {te : TE} {pos : Pos} {G0 : TG} (hsc : X.env.scope = sc) (h : swOk sc g e = some false) (he : PE X e te) (hg : PG X g G0) : PS X (.Assign [g] e pos) (tAsg te G0) := by
  unfold swOk at h
  split at h
  · rename_i y py elt gs s p2
    split at h
    · split at h <;> cases h
    · split at h
      · rename_i hc
        have hc' : X.env.scope.names.lookup y = some .cell := by rw [hsc]; exact eq_of_beq hc
        exact ps_asg he hg (sw_false (l := pos.line) hc')
      · cases h
  · cases h
  · split at h
    · rename_i hn
      exact ps_asg he hg (by unfold swapsWithSole; exact noLc_sw hn)
    · cases h
  · split at h
    · rename_i hn hne
      refine ps_asg he hg (by unfold swapsWithSole; exact noLc_sw hne) ?_
      cases e <;> first | rfl | (exact (hn _ _ _ rfl).elim)
    · cases h
  · cases h
/-- a comprehension's parts -/
theorem comp_set {n i : Nat} {elt it : P} {tg : Tg} {cond : Option P} {y : Str} {py pos spos : Pos} {e t it' : Expr} {ifs : List Expr} {scope : Scope} {o : Bool} (G : Good nm E k sui io fx q sc fnb X) (tk : Takes X W) (hy : X.N[i]? = some y) (hl : sc.names.lookup y = some .local)
    (hln : (py.line == pos.line) = true) (hno : (scope.names.any fun (n, k) => n == y && (k == .local || k == .cell)) = false)
    (h : cmP nm X.N io sui n sc .val (.comp elt tg it cond) (.ListComp e [⟨t, it', ifs, 0⟩] scope pos) = true) :
    PS X (.Assign [.Name y py] (.ListComp e [⟨t, it', ifs, 0⟩] scope pos) spos) (tAsg (TV (cn E X fx q W) o (.comp elt tg it cond)) (gName i)) := by
  cases n with
  | zero => cases h
  | succ n =>
    simp only [cmP, Bool.and_eq_true, decide_eq_true_eq, Option.isNone_iff_eq_none] at h
    obtain ⟨⟨⟨⟨⟨⟨⟨h0, h1⟩, h2⟩, h3⟩, h4⟩, h5, hz⟩, h6⟩, h7⟩ := h
    have hI : PI X t it' (TI' (cn E X fx q W) it) := snd n (m := .itr) G tk h5 t hz
    have hB : BlkOk X.N X.env.scope scope (ownN tg t) := by rw [G.hsc]; exact blkOk_by h1
    have hkind : scope.kind = ScopeKind.function := by
      unfold blkC at h1
      simp only [Bool.and_eq_true] at h1
      have := h1.1.1.1
      split at this
      · assumption
      · cases this
    obtain ⟨hi, hf⟩ := tg_slots G.fxio h2
    have hg : ∀ (s : Shared) (H : Hp) (Cd : Addr) (cl : List (Str × Addr)) (fp : List Addr), PG (X.blk s H scope (compEnvC scope cl Cd X.env) fp) t (gT X.K tg) := fun s H Cd cl fp => (pg_ok (G.blk h0 hkind (scope := scope) s H Cd cl fp) h2).1
    have he : ∀ (s : Shared) (H : Hp) (Cd : Addr) (cl : List (Str × Addr)) (fp : List Addr), PE (X.blk s H scope (compEnvC scope cl Cd X.env) fp) e (TV (cn E X fx q W0) false elt) := fun (s : Shared) (H : Hp) (Cd : Addr) (cl : List (Str × Addr)) (fp : List Addr) => snd n (m := .val) (W := W0) (X := X.blk s H scope (compEnvC scope cl Cd X.env) fp) (G.blk h0 hkind (scope := scope) s H Cd cl fp) takes0 h6 false (fun z => by cases z)
    have ht : ∀ (s : Shared) (H : Hp) (Cd : Addr) (cl : List (Str × Addr)) (fp : List Addr), PTs (X.blk s H scope (compEnvC scope cl Cd X.env) fp) ifs (ttC (cn E X fx q W0) cond) := by
      intro s H Cd cl fp
      split at h7
      · exact pts_nil
      · exact pts_one (snd n (m := .tst) (W := W0) (X := X.blk s H scope (compEnvC scope cl Cd X.env) fp) (G.blk h0 hkind (scope := scope) s H Cd cl fp) takes0 h7)
      · cases h7
    have hl' : X.env.scope.names.lookup y = some .local := by rw [G.hsc]; exact hl
    refine ps_imp (ps_setLc (G.calm h0) G.nd hy hl' (sw_true (by rw [G.hsc]; exact G.knd) hl' hln hno) hI hB hg ht he (notSet_it h4)) fun Dd σ H h => ?_
    show tLc _ _ _ _ _ σ H _
    rw [h3]
    exact comp_t hi hf h

/-! ### try -/
/-- an except suite's reading: the exception's class is known -/
def tsA (E : Wo) (X : Cx) (fx : List (Nat × V)) (q : En) (c : Nat) (g : Addr → List (Nat × V)) (h : List S) : Addr → Value → Option Addr → TS := fun a cls d Dd σ H =>
  ∃ k, cls = E.xc k ∧ d = none ∧ (q.su k c).isSome = true ∧ TSt (cn E X (g a ++ fx) { q with hx := some k } W0) (evSs { q with hx := some k } h) Dd σ H
theorem cls_names (G : Good nm E k sui io fx q sc fnb X) {c : Nat} {e : Expr} (h : cmHn nm sc c e = true) : ∃ y p, e = .Name y p ∧ Names X y (E.xc c) := by
  unfold cmHn at h
  split at h
  · rename_i y p
    simp only [Bool.and_eq_true] at h
    obtain ⟨gl, gd⟩ := isGl_gl G h.1
    refine ⟨y, p, rfl, gl, gd, ?_⟩
    have h2 := h.2
    split at h2
    · rename_i z b hz
      obtain rfl := of_decide_eq_true h2
      rcases G.cls c z b hz with ⟨m1, _⟩ | ⟨m1, m2, m3, _⟩
      · exact .inl m1
      · exact .inr ⟨m1, m2, m3⟩
    · cases h2
  · cases h
theorem suite_good (G : Good nm E k none io fx q sc fnb X) {i kc c : Nat} {a : Addr} {oe : Obj} {pn : List (Addr × Obj)} {g : List (Nat × V)} (hg : ∀ r ∈ g, r.1 = i) (hin : i < X.N.length → (i, V.ref a) ∈ g) (hsu : (q.su kc c).isSome = true) (hz : Zc (E.xc kc) none oe) (hf : ∃ vs, oe.data = .fields vs) :
    Good nm E k (some i) io (g ++ fx) { q with hx := some kc } sc fnb (X.suite a ((a, oe) :: pn)) where
  nd := G.nd
  hsc := G.hsc
  knd := G.knd
  fxio := fun p hp => by
    rcases List.mem_append.mp hp with z | z
    · exact .inr (by rw [hg p z])
    · rcases G.fxio p z with w | w
      · exact .inl w
      · cases w
  calm := fun h => by cases h
  room := fun h => by cases h
  un := G.un
  fnb := G.fnb
  fn := fun h => by cases h
  blt := G.blt
  cst := G.cst
  cls := G.cls
  rai := fun c x h => ⟨(G.rai c x h).ex⟩
  sub := G.sub
  hx := fun k2 hk => by
    cases hk
    obtain ⟨b, hb⟩ := Option.isSome_iff_exists.mp hsu
    obtain ⟨_, _, D', eD, xD⟩ := G.sub kc c b hb
    rw [eD] at hz
    exact ⟨X, a, D', oe, pn, i, rfl, rfl, eD, hz, hf, xD, fun hi => List.mem_append_left _ (hin hi)⟩
theorem unN_ok {i : Nat} {g : List (Nat × V)} {rest : Things} {o : O} {q' : En} (hfx : ∀ r ∈ fx, r.1 ≠ i) (h : OQ (cn E X fx q W) Dd rest (o.unN i)) :
    OQ (cn E X (g ++ fx) q' W0) { nx := fun σ' H' => Dd.nx (σ'.set i none) H', rt := Dd.rt, bk := fun σ' H' => Dd.bk (σ'.set i none) H', ct := fun σ' H' => Dd.ct (σ'.set i none) H' } rest o := by
  have key : ∀ {ρ : Rho} {σ : L2.St} {H : Hp} {F : Addr → Prop}, Ln (cn E X (g ++ fx) q' W0) ρ σ → Sep (wd E X) H F (zp ρ σ ++ rest) → Ln (cn E X fx q W) (ρ.set i .un) (σ.set i none) ∧ Sep (wd E X) H F (zp (ρ.set i .un) (σ.set i none) ++ rest) := by
    intro ρ σ H F l s
    refine ⟨⟨by rw [List.length_set]; exact l.r, by rw [List.length_set]; exact l.s, fun p hp => ?_⟩, ?_⟩
    · rw [List.getElem?_set_ne (fun e => hfx p hp e.symm)]
      exact l.f p (List.mem_append_right _ hp)
    · by_cases hi : i < ρ.length
      · exact (s.pushUn (o := none)).setSlot hi (by rw [l.s, ← l.r]; exact hi)
      · have h1 : ρ.set i .un = ρ := List.set_eq_of_length_le (by omega)
        have h2 : σ.set i none = σ := List.set_eq_of_length_le (by rw [l.s, ← l.r]; omega)
        rw [h1, h2]
        exact s
  cases o with
  | nx ρ => exact fun σ H F l s => by obtain ⟨a, b⟩ := key l s; exact h _ H F a b
  | brk ρ => exact fun σ H F l s => by obtain ⟨a, b⟩ := key l s; exact h _ H F a b
  | cont ρ => exact fun σ H F l s => by obtain ⟨a, b⟩ := key l s; exact h _ H F a b
  | ret d ρ =>
    intro v σ H F l s
    obtain ⟨vv, e, qv⟩ := s.val
    cases e
    obtain ⟨a, b⟩ := key l s.tail
    exact h v _ H F a (b.push qv)
  | exc c ρ => exact h.elim
  | stuck => exact h.elim
theorem trA_t {b : List S} {c i : Nat} {h : List S} (G : Good nm E k none io fx q sc fnb X) (hfx : ∀ r ∈ fx, r.1 ≠ i) (hi : i < X.N.length) (hh : TSt (cn E X fx q W) (evS q (.trA b c i h)) Dd σ H) :
    TSt (cn E X fx q (wAs X.K (E.xc c) i (tsA E X fx q c (fun a => [(i, .ref a)]) h) W Dd)) (evSs q b) Dd σ H := by
  obtain ⟨ρ, F, rest, l, s, qq⟩ := hh
  rw [evS] at qq
  refine ⟨ρ, F, rest, ⟨l.r, l.s, l.f⟩, s, ?_⟩
  cases e : evSs q b ρ with
  | nx ρ2 => simp only [e] at qq; exact fun σ H F l s => qq σ H F ⟨l.r, l.s, l.f⟩ s
  | ret d ρ2 => simp only [e] at qq; exact fun v σ H F l s => qq v σ H F ⟨l.r, l.s, l.f⟩ s
  | brk ρ2 => simp only [e] at qq; exact fun σ H F l s => qq σ H F ⟨l.r, l.s, l.f⟩ s
  | cont ρ2 => simp only [e] at qq; exact fun σ H F l s => qq σ H F ⟨l.r, l.s, l.f⟩ s
  | stuck => simp only [e] at qq; exact qq.elim
  | exc kc ρ2 =>
    simp only [e] at qq
    intro σ2 H2 F2 l2 s2
    cases esu : q.su kc c with
    | none => simp only [esu] at qq; exact qq.elim
    | some bb =>
      obtain ⟨ex1, _⟩ := G.sub kc c bb esu
      refine ⟨bb, ex1, fun hb a ha => ?_, fun hb => ?_⟩
      · subst hb
        simp only [esu] at qq
        refine ⟨kc, rfl, rfl, by rw [esu]; rfl, ρ2.set i .un, F2, rest, ⟨by rw [List.length_set]; exact l2.r, by rw [List.length_set]; exact l2.s, fun p hp => ?_⟩, ?_, unN_ok (q' := { q with hx := some kc }) (g := [(i, .ref a)]) hfx qq⟩
        · rcases List.mem_append.mp hp with z | z
          · simp only [List.mem_singleton] at z
            subst z
            exact List.getElem?_set_self (by rw [l2.s]; exact hi)
          · rw [List.getElem?_set_ne (fun e => hfx p z e.symm)]
            exact l2.f p z
        · exact (s2.pushUn (o := some (.ref a))).setSlot (by rw [l2.r]; exact hi) (by rw [l2.s]; exact hi)
      · subst hb
        simp only [esu] at qq
        exact qq σ2 H2 F2 ⟨l2.r, l2.s, l2.f⟩ s2
/-- the clauses and their readings -/
def hdL (E : Wo) (X : Cx) (fx : List (Nat × V)) (q : En) : List Nat → List (List S) → List (Value × (Addr → Value → Option Addr → TS))
  | c :: cs, h :: hs => (E.xc c, tsA E X fx q c (fun _ => []) h) :: hdL E X fx q cs hs
  | _, _ => []
theorem noX_ok {rest : Things} {o : O} {q' : En} (h : OQ (cn E X fx q W) Dd rest o.noX) : OQ (cn E X fx q' W0) Dd rest o := by
  cases o with
  | nx ρ => exact fun σ H F l s => h σ H F ⟨l.r, l.s, l.f⟩ s
  | ret d ρ => exact fun v σ H F l s => h v σ H F ⟨l.r, l.s, l.f⟩ s
  | brk ρ => exact fun σ H F l s => h σ H F ⟨l.r, l.s, l.f⟩ s
  | cont ρ => exact fun σ H F l s => h σ H F ⟨l.r, l.s, l.f⟩ s
  | exc c ρ => exact h.elim
  | stuck => exact h.elim
theorem pick_t {rest : Things} {kc : Nat} {ρ2 : Rho} (G : Good nm E k none io fx q sc fnb X) : ∀ {cs : List Nat} {hs : List (List S)}, cs.length = hs.length → OQ (cn E X fx q W) Dd rest (pick q.su kc cs (evHs { q with hx := some kc } hs) ρ2) →
    ∀ σ2 H2 F2, Ln (cn E X fx q W) ρ2 σ2 → Sep (wd E X) H2 F2 (zp ρ2 σ2 ++ rest) → wMany X.K W Dd (hdL E X fx q cs hs) (E.xc kc) none σ2 H2
  | [], [], _, h, σ2, H2, F2, l2, s2 => h σ2 H2 F2 l2 s2
  | [], _ :: _, e, _, _, _, _, _, _ => by cases e
  | _ :: _, [], e, _, _, _, _, _, _ => by cases e
  | c :: cs, hd :: hs, e, h, σ2, H2, F2, l2, s2 => by
    rw [evHs] at h
    unfold pick at h
    cases esu : q.su kc c with
    | none => simp only [esu] at h; exact h.elim
    | some bb =>
      obtain ⟨ex1, _⟩ := G.sub kc c bb esu
      refine ⟨bb, ex1, fun hb a ha => ?_, fun hb => ?_⟩
      · subst hb
        simp only [esu] at h
        exact ⟨kc, rfl, rfl, by rw [esu]; rfl, ρ2, F2, rest, ⟨l2.r, l2.s, l2.f⟩, s2, noX_ok h⟩
      · subst hb
        simp only [esu] at h
        exact pick_t G (by simpa using e) h σ2 H2 F2 l2 s2
theorem trM_t {b : List S} {cs : List Nat} {hs : List (List S)} (G : Good nm E k none io fx q sc fnb X) (hl : cs.length = hs.length) (hh : TSt (cn E X fx q W) (evS q (.trM b cs hs)) Dd σ H) :
    TSt (cn E X fx q (wMany X.K W Dd (hdL E X fx q cs hs))) (evSs q b) Dd σ H := by
  obtain ⟨ρ, F, rest, l, s, qq⟩ := hh
  rw [evS] at qq
  refine ⟨ρ, F, rest, ⟨l.r, l.s, l.f⟩, s, ?_⟩
  cases e : evSs q b ρ with
  | nx ρ2 => simp only [e] at qq; exact fun σ H F l s => qq σ H F ⟨l.r, l.s, l.f⟩ s
  | ret d ρ2 => simp only [e] at qq; exact fun v σ H F l s => qq v σ H F ⟨l.r, l.s, l.f⟩ s
  | brk ρ2 => simp only [e] at qq; exact fun σ H F l s => qq σ H F ⟨l.r, l.s, l.f⟩ s
  | cont ρ2 => simp only [e] at qq; exact fun σ H F l s => qq σ H F ⟨l.r, l.s, l.f⟩ s
  | stuck => simp only [e] at qq; exact qq.elim
  | exc kc ρ2 =>
    simp only [e] at qq
    exact fun σ2 H2 F2 l2 s2 => pick_t G hl qq σ2 H2 F2 ⟨l2.r, l2.s, l2.f⟩ s2

/-! ### lists of statements -/
theorem all_okS {c : S → Stmt → Bool} {C : Cn} (h : ∀ s st, c s st = true → PS X st (TSt C (evS C.q s))) : ∀ {ss : List S} {sts : List Stmt}, cmAllS c ss sts = true → PSs X sts (TSt C (evSs C.q ss))
  | [], [], _ => pss_imp pss_nil fun Dd σ H h => by
    obtain ⟨ρ, F, rest, l, s, q⟩ := h
    rw [evSs] at q
    exact q σ H F l s
  | [], _ :: _, h => by cases h
  | _ :: _, [], h => by cases h
  | a :: as, e :: es, hq => by
    simp only [cmAllS, Bool.and_eq_true] at hq
    refine pss_imp (pss_cons (h a e hq.1) (all_okS h hq.2)) fun Dd σ H h => ?_
    refine TSt.seq (f := evS C.q a) (g := evSs C.q as) ?_
    obtain ⟨ρ, F, rest, l, s, q⟩ := h
    rw [evSs] at q
    exact ⟨ρ, F, rest, l, s, q⟩
theorem Good.tr (G : Good nm E k sui io fx q sc fnb X) (hs : sui = none) (pn : List (Addr × Obj)) (xe : Value → Shared → Prop) : Good nm E k sui io fx q sc fnb (X.tr pn xe) :=
  ⟨G.nd, G.hsc, G.knd, G.fxio, G.calm, G.room, G.un, G.fnb, G.fn, G.blt, G.cst, G.cls, fun c x h => ⟨(G.rai c x h).ex⟩, G.sub, fun k2 hk => by
    obtain ⟨_, _, _, _, _, i, e, _⟩ := G.hx k2 hk
    rw [hs] at e; cases e⟩
theorem Good.lent (G : Good nm E k sui io fx q sc fnb X) (hs : sui = none) {j : Nat} {g : List (Nat × V)} (hg : ∀ r ∈ g, r.1 = j) : Good nm E k sui (j :: io) (g ++ fx) q sc fnb X :=
  ⟨G.nd, G.hsc, G.knd, fun p hp => by
    rcases List.mem_append.mp hp with z | z
    · left
      rw [hg p z, List.contains_cons]
      simp
    · rcases G.fxio p z with w | w
      · left
        rw [List.contains_cons, w, Bool.or_true]
      · exact .inr w, G.calm, G.room, G.un, G.fnb, G.fn, G.blt, G.cst, G.cls, G.rai, G.sub, fun k2 hk => by
    obtain ⟨_, _, _, _, _, i, e, _⟩ := G.hx k2 hk
    rw [hs] at e; cases e⟩
end
end Bk

/-! B13: every statement is sound. -/
namespace Bk
open PySem PySem.Spec PyProof.Rows L2

section
variable {nm : Nm} {E : Wo} {k : Nat} {q : En}
theorem TSt.plain {C : Cn} {f : Rho → O} {g : Rho → O} (h : ∀ ρ, f ρ = g ρ) {Dd : Ends} {σ : L2.St} {H : Hp} (t : TSt C f Dd σ H) : TSt C g Dd σ H := by
  obtain ⟨ρ, F, rest, l, s, qq⟩ := t
  rw [h] at qq
  exact ⟨ρ, F, rest, l, s, qq⟩
/-- where the try's parts run -/
structure Top (X : Cx) : Prop where
  st : X.stack = X.env :: X.outer
  fr : X.env.frame = some X.env.locals
def SOk (nm : Nm) (E : Wo) (k : Nat) (q : En) (io : List Nat) (sui : Option Nat) (sc : Scope) (N : List Str) (s : S) (st : Stmt) : Prop :=
  ∀ (fx : List (Nat × V)) (X : Cx) (W : WX), X.N = N → Good nm E k sui io fx q sc (fun _ => true) X → Takes X W → PassesOwn (model X.prog X.w) X.A X.env X.xe → Top X → PS X st (TSt (cn E X fx q W) (evS q s))
/-- the clauses -/
theorem hds_ok {io : List Nat} {sc : Scope} {fx : List (Nat × V)} {X : Cx} {g : List S → List Stmt → Bool} (G : Good nm E k none io fx q sc (fun _ => true) X)
    (hg : ∀ {h : List S} {b : Stmt} {bs : List Stmt} {c : Nat} {kc : Nat} {a : Addr} {oe : Obj} {pn : List (Addr × Obj)}, g h (b :: bs) = true → (q.su kc c).isSome = true → Zc (E.xc kc) none oe → (∃ vs, oe.data = .fields vs) →
      PSs (X.suite a ((a, oe) :: pn)) (b :: bs) (TSt (cn E X fx { q with hx := some kc } W0) (evSs { q with hx := some kc } h))) :
    ∀ {cs : List Nat} {hs : List (List S)} {es : List ExceptHandler}, cmHs nm g sc cs hs es = true → HdsOk X es (hdL E X fx q cs hs) ∧ cs.length = hs.length
  | [], [], [], _ => ⟨.nil, rfl⟩
  | c :: cs, h :: hs, e :: es, hh => by
    unfold cmHs at hh
    split at hh
    · cases ‹_ = []›
    · rename_i c' cs' h' hs' x b bs p es' e1 e2 e3
      cases e1; cases e2; cases e3
      simp only [Bool.and_eq_true] at hh
      obtain ⟨⟨h1, h2⟩, h3⟩ := hh
      obtain ⟨y, p', rfl, hn⟩ := cls_names G h1
      obtain ⟨r, hl⟩ := hds_ok G hg h3
      refine ⟨.cons hn (fun a oe cls d pn hz hf => ⟨fun pins s σ H D I t => ?_⟩) r, by simp [hl]⟩
      obtain ⟨kc, e1, e2, hsu, t⟩ := t
      subst e1; subst e2
      exact (hg h2 hsu hz hf).run pins s σ H D I t
    · cases hh
  | [], [], _ :: _, h => by cases h
  | [], _ :: _, _, h => by cases h
  | _ :: _, [], _, h => by cases h
  | _ :: _, _ :: _, [], h => by cases h
theorem sw_inv {sc : Scope} {g e : Expr} (h : swOk sc g e = some true) : ∃ y py e' gs s p2, g = .Name y py ∧ e = .ListComp e' gs s p2 ∧ sc.names.lookup y = some .local ∧ (py.line == p2.line) = true ∧ (s.names.any fun (n, k) => n == y && (k == .local || k == .cell)) = false := by
  unfold swOk at h
  split at h
  · rename_i y py e' gs s p2
    split at h
    · rename_i hy
      split at h
      · rename_i hc
        simp only [Bool.and_eq_true, Bool.not_eq_true'] at hc
        exact ⟨y, py, e', gs, s, p2, rfl, rfl, eq_of_beq hy, hc.1, hc.2⟩
      · cases h
    · split at h <;> cases h
  · cases h
  · split at h <;> cases h
  · split at h <;> cases h
  · cases h
theorem comp_inv {N : List Str} {io : List Nat} {sui : Option Nat} {n : Nat} {sc scope : Scope} {p : P} {e : Expr} {gs : List Comprehension} {pos : Pos} (h : cmP nm N io sui n sc .val p (.ListComp e gs scope pos) = true) (hf : fresh p = true) :
    ∃ elt tg it cond t it' ifs, p = .comp elt tg it cond ∧ gs = [⟨t, it', ifs, 0⟩] := by
  cases n with
  | zero => cases h
  | succ n =>
    cases p <;> first | (cases hf; done) | skip
    case op p as =>
      simp only [cmP, args?] at h
      cases h
    case dnew t =>
      simp only [cmP] at h
      cases h
    case comp elt tg it cond =>
      rcases gs with _ | ⟨⟨t, it', ifs, a⟩, _ | ⟨g2, r⟩⟩
      · simp only [cmP] at h; cases h
      · by_cases ha : a = 0
        · subst ha
          exact ⟨elt, tg, it, cond, t, it', ifs, rfl, rfl⟩
        · simp only [cmP] at h
          split at h
          · rename_i e1
            simp at e1
            exact (ha (by simp_all)).elim
          · cases h
      · simp only [cmP] at h; cases h
theorem sndS : ∀ (n : Nat) {q : En} {io : List Nat} {sui : Option Nat} {sc : Scope} {N : List Str} {s : S} {st : Stmt}, cmS nm N n io sui sc s st = true → SOk nm E k q io sui sc N s st
  | 0, _, _, _, _, _, _, _, h => by cases h
  | n + 1, q, io, sui, sc, N, s, st, h => by
    intro fx X W eN G tk po tp
    subst eN
    have pss : ∀ {q : En} {io : List Nat} {sui : Option Nat} {fx : List (Nat × V)} {Y : Cx} {W : WX} {a : List S} {x : List Stmt}, Y.N = X.N → Good nm E k sui io fx q sc (fun _ => true) Y → Takes Y W → PassesOwn (model Y.prog Y.w) Y.A Y.env Y.xe → Top Y →
        cmAllS (cmS nm X.N n io sui sc) a x = true → PSs Y x (TSt (cn E Y fx q W) (evSs q a)) := fun {q io sui fx Y W a x} e G tk po tp h =>
      all_okS (C := cn E Y fx q W) (fun s st h => sndS n h fx Y W e G tk po tp) h
    have pe : ∀ {p : P} {e : Expr}, cmP nm X.N io sui n sc .val p e = true → PE X e (TV (cn E X fx q W) false p) := fun h => snd n (m := .val) G tk h false (fun z => by cases z)
    unfold cmS at h
    split at h
    · -- asg
      rename_i tg p g e pos
      simp only [Bool.and_eq_true] at h
      obtain ⟨⟨h1, h2⟩, h3⟩ := h
      obtain ⟨hg, hi, hf⟩ := pg_ok G h1
      split at h3
      · rename_i hsw
        exact ps_imp (asg_plain (tg := tg) G.hsc hsw (pe h2) hg) fun Dd σ H t => asg_t hi hf t
      · rename_i hsw
        simp only [Bool.and_eq_true] at h3
        obtain ⟨y, py, e', gs, s2, p2, rfl, rfl, hyl, hln, hno⟩ := sw_inv hsw
        obtain ⟨elt, tg', it, cond, t, it', ifs, rfl, rfl⟩ := comp_inv h2 h3.2
        cases tg with
        | t is => cases h3.1
        | v i =>
          have hN : X.N[i]? = some y := by
            have h1 : (isLoc X.N sc (fun _ => true) i y && !io.contains i && decide (sui ≠ some i)) = true := h1
            unfold isLoc at h1
            simp only [Bool.and_eq_true, decide_eq_true_eq] at h1
            exact h1.1.1.1
          exact ps_imp (comp_set (o := false) G tk hN hyl hln hno h2) fun Dd σ H t => asg_t hi hf t
      · cases h3
    · -- own
      rename_i i p x px e pos
      simp only [Bool.and_eq_true] at h
      obtain ⟨⟨⟨h1, h2⟩, h3⟩, h4⟩ := h
      obtain ⟨hg, hi, hf⟩ := pg_ok G h1
      obtain ⟨ob, hsw⟩ := Option.isSome_iff_exists.mp h4
      have hi' : i < X.N.length := hi i List.mem_cons_self
      have hf' : ∀ r ∈ fx, r.1 ≠ i := hf i List.mem_cons_self
      cases ob with
      | false =>
        exact ps_imp (asg_plain (tg := .v i) G.hsc hsw (snd n (m := .val) G tk h3 true (fun _ => h2)) hg) fun Dd σ H t => own_t hi' hf' t
      | true =>
        obtain ⟨y, py, e', gs, s2, p2, e1, rfl, hyl, hln, hno⟩ := sw_inv hsw
        obtain ⟨rfl, rfl⟩ := Expr.Name.inj e1
        obtain ⟨elt, tg', it, cond, t, it', ifs, rfl, rfl⟩ := comp_inv h3 h2
        have hN : X.N[i]? = some x := by
          have h1 : (isLoc X.N sc (fun _ => true) i x && !io.contains i && decide (sui ≠ some i)) = true := h1
          unfold isLoc at h1
          simp only [Bool.and_eq_true, decide_eq_true_eq] at h1
          exact h1.1.1.1
        exact ps_imp (comp_set (o := true) G tk hN hyl hln hno h3) fun Dd σ H t => own_t hi' hf' t
    · -- par
      rename_i i j a b x px y py k1 k2 e1 e2 k3 k4 pos
      simp only [Bool.and_eq_true, decide_eq_true_eq, Bool.not_eq_true'] at h
      obtain ⟨⟨⟨⟨⟨⟨⟨⟨⟨⟨⟨⟨⟨h0, h1⟩, h2⟩, h3⟩, h4⟩, h5⟩, h6⟩, h7⟩, h8⟩, h9⟩, h10⟩, h11⟩, h12⟩, h13⟩ := h
      have hs : sui = none := Option.isNone_iff_eq_none.mp h0
      have h10 : a.kd = .val := by unfold isValP at h10; split at h10 <;> first | assumption | cases h10
      have h11 : b.kd = .val := by unfold isValP at h11; split at h11 <;> first | assumption | cases h11
      have p9 := h9
      unfold parOk at p9
      simp only [Bool.and_eq_true] at p9
      have pes : PEs X (tA (cn E X fx q W)) [a, b] [e1, e2] := ⟨by rw [tAV h10]; exact pe h12, by rw [tAV h11]; exact pe h13, trivial⟩
      have hx : X.env.scope.names.lookup x = some .local := by rw [G.hsc]; exact eq_of_beq h3
      have hy : X.env.scope.names.lookup y = some .local := by rw [G.hsc]; exact eq_of_beq h4
      have hk : X.env.scope.kind = ScopeKind.function := by rw [G.hsc]; exact G.knd
      have xy : x ≠ y := fun e => h5 (by
        subst e
        have li := (List.getElem?_eq_some_iff.mp h1).1
        have lj := (List.getElem?_eq_some_iff.mp h2).1
        have ei := (List.getElem?_eq_some_iff.mp h1).2
        have ej := (List.getElem?_eq_some_iff.mp h2).2
        exact (List.getElem_inj G.nd).mp (ei.trans ej.symm))
      exact ps_imp (ps_par (G.calm hs) G.nd h1 h2 h5 hx hy (PEs.pa pes (by simp [p9.1.1.1, p9.1.1.2])) (par_swap hk hx hy xy h8 h9)) fun Dd σ H t => par_t h10 h11 (List.getElem?_eq_some_iff.mp h1).1 (List.getElem?_eq_some_iff.mp h2).1 (fx_off G h6 (by rw [hs]; exact fun z => by cases z)) (fx_off G h7 (by rw [hs]; exact fun z => by cases z)) t
    · -- set
      rename_i p kk v x y pp e pos
      simp only [Bool.and_eq_true] at h
      obtain ⟨⟨⟨⟨h1, h2⟩, h3⟩, h4⟩, h5⟩ := h
      refine ps_imp (ps_asg (pe h4) (pg_sub (plE_pe G h1) (pe h3) (set_data (E := E) (by have := G.un; omega)) (by intro v; cases y <;> first | rfl | cases h2)) (by unfold swapsWithSole; exact noLc_sw h5) (by rfl)) fun Dd σ H t => set_t t
    · -- drop
      rename_i p e pos
      simp only [Bool.and_eq_true] at h
      exact ps_imp (ps_expr (pe h.1) (noLc_sw h.2)) fun Dd σ H t => drop_t t
    · -- ifs
      rename_i c a b t x y pos
      simp only [Bool.and_eq_true] at h
      obtain ⟨⟨h1, h2⟩, h3⟩ := h
      exact ps_imp (ps_if (snd n (m := .tst) G tk h1) (pss rfl G tk po tp h2) (pss rfl G tk po tp h3)) fun Dd σ H t => ifs_t t
    · -- for
      rename_i tg it b t i x pos
      simp only [Bool.and_eq_true, Option.isNone_iff_eq_none] at h
      obtain ⟨⟨⟨⟨h1, h2⟩, h3, hz⟩, h4⟩, h5⟩ := h
      subst h1
      obtain ⟨hg, hi, hf⟩ := pg_ok G h2
      refine ps_imp (ps_for (tb := fun Dd σ H => ∃ g : List (Nat × V), (∀ r ∈ g, ∃ p, it = .bor p ∧ r.1 = p.i) ∧ TSt (cn E X (g ++ fx) q W) (evSs q b) Dd σ H) po (G.calm rfl) (snd n (m := .itr) G tk h3 t hz) hg ⟨fun pins s σ H D I hh => ?_⟩ (notSet_it h4)) fun Dd σ H t => for_t (fx' := fun _ _ => []) hi hf ?_ ?_ t
      · obtain ⟨g, hg2, hh⟩ := hh
        cases hk : it.kd with
        | val =>
          simp only [hk] at h5
          have : g = [] := by
            cases g with
            | nil => rfl
            | cons r rs =>
              obtain ⟨p, e, _⟩ := hg2 r List.mem_cons_self
              rw [e] at hk; cases hk
          subst this
          exact (pss rfl G tk po tp h5).run pins s σ H D I hh
        | bor p =>
          simp only [hk, Bool.and_eq_true] at h5
          obtain rfl := kd_bor hk
          have hg3 : ∀ r ∈ g, r.1 = p.i := fun r hr => by
            obtain ⟨p', e, e2⟩ := hg2 r hr
            cases e; exact e2
          exact (pss rfl (G.lent rfl hg3) tk po tp h5.2).run pins s σ H D I hh
        | io p => simp only [hk] at h5; cases h5
      · rintro p rfl j hj
        simp only [P.kd, Bool.and_eq_true, List.all_eq_true, decide_eq_true_eq] at h5
        exact h5.1 j hj
      · rintro p rfl
        simp only [P.kd] at h5
        cases h5
    · -- while
      rename_i m c b t x pos
      simp only [Bool.and_eq_true] at h
      exact ps_imp (ps_while po (snd n (m := .tst) G tk h.1) (pss rfl G tk po tp h.2)) fun Dd σ H t => whl_t t
    · -- ret
      exact ps_imp (ps_ret (pe h)) fun Dd σ H t => ret_t t
    · refine ps_imp ps_retN fun Dd σ H t => ?_
      obtain ⟨ρ, F, rest, l, s, qq⟩ := t
      rw [evS] at qq
      exact qq .non σ H F l (s.push (by unfold Val; rfl))
    · refine ps_imp ps_break fun Dd σ H t => ?_
      obtain ⟨ρ, F, rest, l, s, qq⟩ := t
      rw [evS] at qq
      exact qq σ H F l s
    · refine ps_imp ps_continue fun Dd σ H t => ?_
      obtain ⟨ρ, F, rest, l, s, qq⟩ := t
      rw [evS] at qq
      exact qq σ H F l s
    · refine ps_imp ps_pass fun Dd σ H t => ?_
      obtain ⟨ρ, F, rest, l, s, qq⟩ := t
      rw [evS] at qq
      exact qq σ H F l s
    · -- raise
      rename_i c x xp m j p2 p3 pos
      simp only [Bool.and_eq_true, Option.isNone_iff_eq_none, decide_eq_true_eq] at h
      obtain ⟨⟨h1, h2⟩, h3⟩ := h
      subst h1
      obtain ⟨D, B, nI, iI, bmB, e1, F1, ex, mg, kp, rr⟩ := (G.rai c x h3).ex
      obtain ⟨gl, gd⟩ := isGl_gl G h2
      refine ps_imp (ps_raise (G.calm rfl) tk (pmk_own F1 ex mg kp rr gl gd)) fun Dd σ H t => ?_
      obtain ⟨ρ, F, rest, l, s, qq⟩ := t
      rw [evS] at qq
      have := qq σ H F l s
      show W (.ref D) none σ H
      rw [← e1]
      exact this
    · -- try as
      rename_i b c i hh x e y h₀ hs p1 p2
      simp only [Bool.and_eq_true, Option.isNone_iff_eq_none, decide_eq_true_eq, Bool.not_eq_true', beq_iff_eq] at h
      obtain ⟨⟨⟨⟨⟨⟨h1, h2⟩, h3⟩, h4⟩, h5⟩, h6⟩, h7⟩ := h
      subst h1
      obtain ⟨z, zp, rfl, hn⟩ := cls_names G h3
      have hi : i < X.N.length := (List.getElem?_eq_some_iff.mp h4).1
      have hfx : ∀ r ∈ fx, r.1 ≠ i := fun r hr e => by
        rcases G.fxio r hr with w | w
        · rw [e, h6] at w; cases w
        · cases w
      refine ps_imp (ps_try_as (tb := fun W => TSt (cn E X fx q W) (evSs q b)) (ts := tsA E X fx q c (fun a => [(i, .ref a)]) hh) tp.st tp.fr G.nd h4 (by show X.env.scope.names.lookup y = _; rw [G.hsc]; exact h5) hn tk ?_ ?_) fun Dd σ H t => trA_t G hfx hi t
      · intro W' pn xe tk' po'
        exact pss (Y := X.tr pn xe) rfl (G.tr rfl pn xe) tk' po' ⟨tp.st, tp.fr⟩ h2
      · intro a oe cls d pn hz hf
        refine ⟨fun pins s σ H D I t => ?_⟩
        obtain ⟨kc, e1, e2, hsu, t⟩ := t
        subst e1; subst e2
        exact (pss (Y := X.suite a ((a, oe) :: pn)) rfl (suite_good G (fun r hr => by simp only [List.mem_singleton] at hr; rw [hr]) (fun _ => List.mem_singleton.mpr rfl) hsu hz hf) takes_none5 PassesOwn.never ⟨tp.st, tp.fr⟩ h7).run pins s σ H D I t
    · -- try many
      rename_i b cs hs x e es p1
      simp only [Bool.and_eq_true, Option.isNone_iff_eq_none] at h
      obtain ⟨⟨h1, h2⟩, h3⟩ := h
      subst h1
      obtain ⟨hd, hl⟩ := hds_ok (X := X) G (fun {h b bs c kc a oe pn} hh hsu hz hf => by
        exact pss (Y := X.suite a ((a, oe) :: pn)) rfl (suite_good (g := []) G (fun r hr => nomatch hr) (fun z => absurd z (Nat.lt_irrefl _)) hsu hz hf) takes_none5 PassesOwn.never ⟨tp.st, tp.fr⟩ hh) h3
      exact ps_imp (ps_try_many (tb := fun W => TSt (cn E X fx q W) (evSs q b)) tp.st tp.fr tk (fun W' pn xe tk' po' => pss (Y := X.tr pn xe) rfl (G.tr rfl pn xe) tk' po' ⟨tp.st, tp.fr⟩ h2) hd) fun Dd σ H t => trM_t G hl t
    · cases h
end
end Bk

/-! B14: every def does what runD tells. -/
namespace Bk
open PySem PySem.Spec PyProof.Rows L2

def nmOf (Ps : Nat → Option Df) (consts : List (Str × D)) (cls : Nat → Option (Str × Bool)) : Nm := ⟨fun f => (Ps f).map (·.name), fun f => (Ps f).map (·.io), consts, cls⟩
/-- a def's text stands for the model's -/
def cmF (nm : Nm) (m : Nat) (df : Df) (st : Stmt) : Bool :=
  decide (df.np ≤ df.N.length) && (df.io.all fun i => decide (i < df.np)) && decide df.io.Nodup && cmAllS (cmS nm df.N m df.io none (defScope st)) df.body (defBody st)
/-- a scope's check -/
def scOk (df : Df) (sc : Scope) : Bool :=
  decide (sc.kind = .function) && !sc.isCoroutine && !sc.isGenerator && decide df.N.Nodup && decide ((df.N.take df.np).length = df.np) &&
    ((df.N.take df.np).all fun x => sc.names.lookup x == some .local || sc.names.lookup x == some .cell) && (sc.names.all fun y => !(y.2 == .free))
theorem scOk_ok {df : Df} {sc : Scope} (h : scOk df sc = true) : FnScope df.N (df.N.take df.np) sc := by
  unfold scOk at h
  simp only [Bool.and_eq_true, decide_eq_true_eq, Bool.not_eq_true', List.all_eq_true, Bool.or_eq_true, beq_iff_eq] at h
  obtain ⟨⟨⟨⟨⟨⟨h1, h2⟩, h3⟩, h4⟩, h5⟩, h6⟩, h7⟩ := h
  refine ⟨h1, h2, h3, h4, by rw [h5], h6, fun y hy e => ?_⟩
  have := h7 y hy
  rw [e] at this
  cases this

section
variable {K : Wd} {H : Hp} {F : Addr → Prop} {rest : Things}
theorem startR_length {io : List Nat} : ∀ {ds : List D} {i : Nat}, (startR io i ds).length = ds.length
  | [], _ => rfl
  | d :: ds, i => congrArg (· + 1) (startR_length (ds := ds) (i := i + 1))
theorem PT'_zip {io : List Nat} : ∀ {ds : List D} {vs : List V} {i : Nat}, PT' io i ds vs = zp (startR io i ds) (vs.map some)
  | [], _, _ => by simp [PT', startR, zp]
  | _ :: _, [], _ => by simp [PT', startR, zp]
  | d :: ds, v :: vs, i => by
    have := PT'_zip (io := io) (ds := ds) (vs := vs) (i := i + 1)
    simp only [PT', startR, List.map_cons, zp, List.zip_cons_cons] at this ⊢
    rw [this]
theorem Sep.pushUns {ts : Things} (h : Sep K H F ts) : ∀ a : Nat, Sep K H F (List.replicate a (.un, none) ++ ts)
  | 0 => h
  | a + 1 => by
    rw [List.replicate_succ]
    exact (Sep.pushUns h a).pushUn
theorem zip_rep : ∀ a : Nat, zp (List.replicate a Sl.un) (List.replicate a none) = List.replicate a (.un, none)
  | 0 => rfl
  | a + 1 => by
    have := zip_rep a
    simp only [List.replicate_succ, zp, List.zip_cons_cons] at this ⊢
    rw [this]
theorem start_sep {io : List Nat} {ds : List D} {vs : List V} (a : Nat) (hl : ds.length = vs.length) (h : Sep K H F (PT' io 0 ds vs ++ rest)) : Sep K H F (zp (startR io 0 ds ++ List.replicate a .un) (vs.map some ++ List.replicate a none) ++ rest) := by
  have e : zp (startR io 0 ds ++ List.replicate a .un) (vs.map some ++ List.replicate a none) = PT' io 0 ds vs ++ List.replicate a (.un, none) := by
    rw [PT'_zip, ← zip_rep]
    exact List.zip_append (by rw [startR_length, List.length_map]; exact hl)
  rw [e]
  refine (h.pushUns a).perm ?_
  rw [← List.append_assoc]
  exact List.perm_append_comm.append_right rest
theorem outs_ok {vs : List V} {σ : L2.St} : ∀ {is : List Nat} {os : List D} {ρ : Rho} {A : Things}, is.Nodup → (∀ i ∈ is, ∃ v, vs[i]? = some v ∧ σ[i]? = some (some v)) → outs is ρ = .ok os → Sep K H F (A ++ (zp ρ σ ++ rest)) →
    os.length = is.length ∧ Sep K H F (A ++ (OT is vs os ++ rest))
  | [], os, ρ, A, _, _, h, s => by
    cases h
    exact ⟨rfl, s.skip⟩
  | i :: is, os, ρ, A, nd, hi, h, s => by
    unfold outs at h
    split at h
    · rename_i d hd
      cases e : outs is ρ with
      | stuck => rw [e] at h; cases h
      | ok ds =>
        rw [e] at h
        cases h
        obtain ⟨v, hv, hs⟩ := hi i List.mem_cons_self
        have ht : Pl.take ρ ⟨i, none⟩ = .ok (d, ρ.set i .un) := by unfold Pl.take; simp only [hd]
        have s2 := Pl.take_sep ht hs s
        obtain ⟨ni, nd2⟩ := List.nodup_cons.mp nd
        have same : ∀ {js : List Nat}, i ∉ js → outs js (ρ.set i .un) = outs js ρ := by
          intro js
          induction js with
          | nil => intro _; rfl
          | cons j js ih =>
            intro hn
            unfold outs
            rw [List.getElem?_set_ne (fun e => hn (by rw [e]; exact List.mem_cons_self)), ih (fun m => hn (List.mem_cons_of_mem _ m))]
        have s3 : Sep K H F (((.own d, some v) :: A) ++ (zp (ρ.set i .un) σ ++ rest)) := s2
        obtain ⟨l, s4⟩ := outs_ok nd2 (fun j hj => hi j (List.mem_cons_of_mem _ hj)) ((same ni).trans e) s3
        refine ⟨by rw [List.length_cons, List.length_cons, l], ?_⟩
        unfold OT
        rw [hv]
        refine s4.perm ?_
        rw [List.cons_append, List.cons_append]
        exact List.perm_middle.symm
    · cases h
end

section
variable {nm : Nm} {E : Wo} {k : Nat} {io : List Nat} {fx : List (Nat × V)} {q : En} {X : Cx} {rest : Things} {vs : List V} {Q : VK} {Ex : XK}
/-- what the end of a body owes -/
def Owe (K : Wd) (rest : Things) (io : List Nat) (vs : List V) (Q : VK) (Ex : XK) : Rs → Prop
  | .ok d os => os.length = io.length ∧ ∀ v H' F', Sep K H' F' ((.fz d, some v) :: (OT io vs os ++ rest)) → Q v H'
  | .exc c os => os.length = io.length ∧ ∀ H' F', Sep K H' F' (OT io vs os ++ rest) → Ex (K.xc c) none H'
  | .stuck => False
theorem fin_ok {o : O} (nd : io.Nodup) (hio : ∀ i ∈ io, ∃ v, vs[i]? = some v ∧ (i, v) ∈ fx) (h : Owe (wd E X) rest io vs Q Ex (o.fin io)) :
    OQ (cn E X fx q (fun cls d _ H => Ex cls d H)) { nx := fun _ H' => Q .non H', rt := Q } rest o := by
  have hs : ∀ {ρ : Rho} {σ : L2.St}, Ln (cn E X fx q (fun cls d _ H => Ex cls d H)) ρ σ → ∀ i ∈ io, ∃ v, vs[i]? = some v ∧ σ[i]? = some (some v) := fun l i hi => by
    obtain ⟨v, e, m⟩ := hio i hi
    exact ⟨v, e, l.f _ m⟩
  cases o with
  | nx ρ =>
    intro σ H F l s
    unfold O.fin at h
    cases e : outs io ρ with
    | stuck => simp only [e] at h; exact h.elim
    | ok os =>
      simp only [e] at h
      have s1 : Sep (wd E X) H F ([(.fz .non, some V.non)] ++ (zp ρ σ ++ rest)) := s.push (by unfold Val; rfl)
      exact h.2 _ _ F (outs_ok nd (hs l) e s1).2
  | ret d ρ =>
    intro v σ H F l s
    unfold O.fin at h
    cases e : outs io ρ with
    | stuck => simp only [e] at h; exact h.elim
    | ok os =>
      simp only [e] at h
      have s1 : Sep (wd E X) H F ([(.fz d, some v)] ++ (zp ρ σ ++ rest)) := s
      exact h.2 _ _ F (outs_ok nd (hs l) e s1).2
  | exc c ρ =>
    intro σ H F l s
    unfold O.fin at h
    cases e : outs io ρ with
    | stuck => simp only [e] at h; exact h.elim
    | ok os =>
      simp only [e] at h
      exact h.2 _ F (outs_ok (A := []) nd (hs l) e s).2
  | brk ρ => exact h.elim
  | cont ρ => exact h.elim
  | stuck => exact h.elim
end

/-- a def as the top leaves it -/
structure FnT (K : PySem.W.Frag) (mg : Str → Option Value) (nm : Nm) (m : Nat) (df : Df) (st : Stmt) (fa : Addr) (fd : FuncData) : Prop where
  F : Fun K df.name df.name st fa fd
  S : scOk df (defScope st) = true
  g : mg df.name = some (.ref fa)
  b : ∀ us : List Value, us.length = (df.N.take df.np).length → bindArgs fd ⟨us, []⟩ = pure ((df.N.take df.np).zip us)
  c : cmF nm m df st = true
/-- the program's table -/
structure Tb (K : PySem.W.Frag) (mg : Str → Option Value) (E : Wo) (su : Subs) (Ps : Nat → Option Df) (consts : List (Str × D)) (cls : Nat → Option (Str × Bool)) (m : Nat) : Prop where
  fn : ∀ (f : Nat) (df : Df), Ps f = some df → ∃ st fa fd, FnT K mg (nmOf Ps consts cls) m df st fa fd
  blt : ∀ x ∈ blts, mg x = none
  cst : ∀ x d, consts.lookup x = some d → ∃ u v, mg x = some u ∧ RelV v u ∧ ∀ H F, Val ⟨K, E.fa, E.ca, E.xc⟩ H F d v
  kls : ∀ (c : Nat) (x : Str) (b : Bool), cls c = some (x, b) → mg x = some (E.xc c) ∧ (∃ D, E.xc c = .ref D) ∨ (mg x = none ∧ bootBuiltins x = some (E.xc c) ∧ x ≠ "__name__" ∧ ∃ T, E.xc c = .type T)
  rai : ∀ (c : Nat) (x : Str), cls c = some (x, true) → ∃ (D : Addr) (B newId initId : String) (bmB : List Value), E.xc c = .ref D ∧ ExcBaseFacts B newId initId bmB ∧ PySem.W.excIn K D bmB newId = true ∧ mg x = some (.ref D) ∧ PySem.W.keepIn K (.ref D) = true ∧
    PySem.W.subIn K (.ref D) (.type "BaseException") = some true ∧ PySem.W.typeIn K (.ref D) = some (.type "type")
  sub : ∀ k c b, su k c = some b → PySem.W.exmOne K (E.xc k) (E.xc c) = some b ∧ PySem.W.kitOne K (E.xc k) (E.xc c) = some b ∧ ∃ D, E.xc k = .ref D ∧ ExcC K D

theorem fn_ok {P : Program} {w : World} {K : PySem.W.Frag} {mg : Str → Option Value} {base : Heap} {E : Wo} {su : Subs} {Ps : Nat → Option Df} {consts : List (Str × D)} {cls : Nat → Option (Str × Bool)} {m : Nat} (T : Tb K mg E su Ps consts cls m) :
    ∀ (n f : Nat) {df : Df} {st : Stmt} {fa : Addr} {fd : FuncData}, Ps f = some df → FnT K mg (nmOf Ps consts cls) m df st fa fd → FnOk P w K mg base (L2.CX P w) n fa fd (df.N.take df.np) (spD ⟨K, E.fa, E.ca, E.xc⟩ df.io (runD su Ps n f))
  | 0, f, df, st, fa, fd, hf, t => by
    refine ⟨?_, ?_⟩
    · rintro vs H Q E' ⟨F, ds, rest, _, _, h⟩
      exact h.elim
    · rintro A outer s H args us vs Q E' hr he hb hv ⟨F, ds, rest, _, _, h⟩
      exact h.elim
  | n + 1, f, df, st, fa, fd, hf, t => by
    have S := scOk_ok t.S
    have hc := t.c
    unfold cmF at hc
    simp only [Bool.and_eq_true, decide_eq_true_eq, List.all_eq_true] at hc
    obtain ⟨⟨⟨hnp, hio⟩, hnd⟩, hbody⟩ := hc
    have hk : (df.N.take df.np).length = df.np := by rw [List.length_take]; omega
    have hlen : ∀ vs H Q E', spD ⟨K, E.fa, E.ca, E.xc⟩ df.io (runD su Ps (n + 1) f) vs H Q E' → vs.length = df.np := by
      rintro vs H Q E' ⟨F, ds, rest, hl, _, h⟩
      unfold runD at h
      simp only [hf] at h
      by_cases e : ds.length = df.np
      · rw [← hl]; exact e
      · rw [if_neg e] at h; exact h.elim
    refine t.F.okX S (fun vs H Q E' h => by rw [hk]; exact hlen vs H Q E' h) (fun cdv A outer s H vs Q Ex hr hsp => ?_)
    have hvl := hlen vs H Q Ex hsp
    obtain ⟨F, ds, rest, hl, hsep, hrun⟩ := hsp
    let fx : List (Nat × V) := df.io.filterMap fun i => vs[i]?.map fun v => (i, v)
    have hfx : ∀ p ∈ fx, p.1 ∈ df.io ∧ vs[p.1]? = some p.2 := fun p hp => by
      obtain ⟨i, hi, e⟩ := List.mem_filterMap.mp hp
      obtain ⟨v, hv, e2⟩ := Option.map_eq_some_iff.mp e
      subst e2
      exact ⟨hi, hv⟩
    have hfx2 : ∀ i ∈ df.io, ∃ v, vs[i]? = some v ∧ (i, v) ∈ fx := fun i hi => by
      have h1 : i < vs.length := by rw [hvl]; exact hio i hi
      exact ⟨vs[i], List.getElem?_eq_getElem h1, List.mem_filterMap.mpr ⟨i, hi, by rw [List.getElem?_eq_getElem h1]; rfl⟩⟩
    let q : En := ⟨su, runD su Ps n, none⟩
    let X : Cx := cxOf (L2.CX P w) P w K mg base df.N df.name (defScope st) fa cdv A outer s H Ex
    have G : Good (nmOf Ps consts cls) E n none df.io fx q (defScope st) (fun _ => true) X :=
      { nd := S.nd
        hsc := rfl
        knd := S.kind
        fxio := fun p hp => .inl (by rw [List.contains_iff_mem]; exact (hfx p hp).1)
        calm := fun _ => rfl
        room := fun _ => hr
        un := by have := hr.un; show (A.deeper _).units + 200 < cLine; omega
        fnb := fun _ _ => rfl
        fn := fun _ g x io' h1 h2 => by
          have h1 : (Ps g).map (·.name) = some x := h1
          have h2 : (Ps g).map (·.io) = some io' := h2
          obtain ⟨dg, hg, e1⟩ := Option.map_eq_some_iff.mp h1
          rw [hg] at h2
          cases h2
          subst e1
          obtain ⟨st2, ga, gd, t2⟩ := T.fn g dg hg
          exact ⟨ga, gd, _, fn_ok (P := P) (w := w) (base := base) T n g hg t2, t2.g, t2.F.kp, .all t2.b⟩
        blt := T.blt
        cst := T.cst
        cls := T.kls
        rai := fun c x h => by
          obtain ⟨D, B, nI, iI, bmB, a1, a2, a3, a4, a5, a6, a7⟩ := T.rai c x h
          exact ⟨D, B, nI, iI, bmB, a1, a2, a3, a4, a5, raises_own a6 a7⟩
        sub := T.sub
        hx := fun k h => by cases h }
    refine ⟨TSt (cn E X fx q (fun cls d _ H => Ex cls d H)) (evSs q df.body), all_okS (C := cn E X fx q (fun cls d _ H => Ex cls d H)) (fun s st' hh => sndS m hh fx X _ rfl G (takes_of rfl rfl rfl rfl) (passes_of rfl) ⟨rfl, rfl⟩) hbody, ?_⟩
    unfold runD at hrun
    simp only [hf] at hrun
    rw [if_pos (by rw [hl]; exact hvl)] at hrun
    have hsl : (L2.start df.N vs) = vs.map some ++ List.replicate (df.N.length - df.np) none := by unfold L2.start; rw [hvl]
    refine ⟨startR df.io 0 ds ++ List.replicate (df.N.length - df.np) .un, F, rest, ⟨?_, ?_, ?_⟩, ?_, fin_ok (Ex := Ex) hnd hfx2 ?_⟩
    · rw [List.length_append, startR_length, List.length_replicate, hl, hvl]
      show df.np + (df.N.length - df.np) = df.N.length
      omega
    · rw [hsl, List.length_append, List.length_map, List.length_replicate, hvl]
      show df.np + (df.N.length - df.np) = df.N.length
      omega
    · intro p hp
      have h1 := (hfx p hp).2
      have h2 : p.1 < vs.length := (List.getElem?_eq_some_iff.mp h1).1
      rw [hsl, List.getElem?_append_left (by rw [List.length_map]; exact h2), List.getElem?_map, h1]
      rfl
    · rw [hsl]
      exact start_sep _ hl hsep
    · have hrun : (match ((evSs q df.body (startR df.io 0 ds ++ List.replicate (df.N.length - df.np) Sl.un)).fin df.io) with
        | .ok d os => os.length = df.io.length ∧ ∀ v H' F', Sep ⟨K, E.fa, E.ca, E.xc⟩ H' F' ((.fz d, some v) :: (OT df.io vs os ++ rest)) → Q v H'
        | .exc c os => os.length = df.io.length ∧ ∀ H' F', Sep ⟨K, E.fa, E.ca, E.xc⟩ H' F' (OT df.io vs os ++ rest) → Ex (E.xc c) none H'
        | .stuck => False) := hrun
      cases e : ((evSs q df.body (startR df.io 0 ds ++ List.replicate (df.N.length - df.np) Sl.un)).fin df.io) with
      | ok d os => rw [e] at hrun; exact hrun
      | exc c os => rw [e] at hrun; exact hrun
      | stuck => rw [e] at hrun; exact hrun
end Bk

/-! B15: the law's end. -/
namespace Bk
open PySem PySem.Spec PyProof.Rows L2
def xcOf (K : PySem.W.Frag) (cls : Nat → Option (Str × Bool)) (c : Nat) : Value := match cls c with
  | some (x, _) => match PySem.W.nsIn K mainGlobals x with
    | some (some v) => v
    | _ => (bootBuiltins x).getD .none
  | none => .none
def woOf (K : PySem.W.Frag) (cls : Nat → Option (Str × Bool)) : Wo := ⟨fun _ => 0, fun _ => 0, xcOf K cls⟩
/-- the law's promise -/
def spLaw (cls : Nat → Option (Str × Bool)) (r : List D → Rs) (K : PySem.W.Frag) : Sp := spD ⟨K, (woOf K cls).fa, (woOf K cls).ca, (woOf K cls).xc⟩ [] r
theorem sp_law {cls : Nat → Option (Str × Bool)} {r : List D → Rs} {K : PySem.W.Frag} {H : Hp} {a : Addr} {ns : List Int} (hS : SqL K H a (ns.map V.int)) (h : r [.scr ns] = .ok (.bl true) []) : spLaw cls r K [.ref a] H (fun v _ => v = .bl true) fun _ _ _ => False := by
  have fin : ∀ F, Sep ⟨K, (woOf K cls).fa, (woOf K cls).ca, (woOf K cls).xc⟩ H F (PT' [] 0 [.scr ns] [.ref a] ++ []) → spLaw cls r K [.ref a] H (fun v _ => v = .bl true) fun _ _ _ => False := fun F s => by
    refine ⟨F, [.scr ns], [], rfl, s, ?_⟩
    rw [h]
    refine ⟨rfl, fun v H' F' s => ?_⟩
    obtain ⟨w, e, q⟩ := s.val
    cases e
    unfold Val at q
    exact q
  have mk : ∀ F : Addr → Prop, (∀ b, F b → H b ≠ none) → (F a ∧ Rd H a (.lst (ns.map V.int)) ∨ (∀ H', SqL K H' a (ns.map V.int))) → Sep ⟨K, (woOf K cls).fa, (woOf K cls).ca, (woOf K cls).xc⟩ H F (PT' [] 0 [.scr ns] [.ref a] ++ []) := fun F hF hv => by
    have s0 : Sep ⟨K, (woOf K cls).fa, (woOf K cls).ca, (woOf K cls).xc⟩ H F [] := ⟨hF, [], by unfold SepL; rfl, List.nodup_nil, fun _ z => nomatch z⟩
    exact s0.push (by unfold Val; exact ⟨a, rfl, hv⟩)
  rcases hS with r | r
  · refine fin (fun b => b = a) (mk _ (fun b e => ?_) (.inl ⟨rfl, r⟩))
    subst e
    rcases r with r | ⟨o, r⟩ <;> (rw [r]; intro z; cases z)
  · exact fin (fun _ => False) (mk _ (fun b e => e.elim) (.inr fun H' => .inr r))
theorem cx_end {P : Program} {w : World} {H : Hp} {s : Shared} {e : Value} {s' : Shared} (h : L2.CX P w [] H s (fun _ _ _ => False) e s') : False := by
  obtain ⟨_, _, _, _, _, _, _, _, _, _, _, _, z⟩ := h
  exact z

/-! the table, def by def -/
section
variable {K : PySem.W.Frag} {mg : Str → Option Value} {nm : Nm} {m : Nat} {h : Heap}
theorem fnT_mk (X : K.In h) (G : h.Ns mainGlobals mg) {df : Df} {st : Stmt} {f : Addr} {oc : Value} {od an : Option Addr} {osl : Array (Option Value)} {kV doc pm cdv ct : Value}
    (a : PySem.W.nsIn K mainGlobals df.name = some (some (.ref f)))
    (l : K.lookup f = some ⟨oc, od, .func (PySem.W.fnOf df.name df.name (defArgs st) (defBody st) (defScope st) .none kV doc pm an cdv ct), osl⟩)
    (c : PySem.W.codeIn K cdv df.name = true) (k : PySem.W.keepIn K (.ref f) = true) (S : scOk df (defScope st) = true)
    (b : ∀ us : List Value, us.length = (df.N.take df.np).length → bindArgs (PySem.W.fnOf df.name df.name (defArgs st) (defBody st) (defScope st) .none kV doc pm an cdv ct) ⟨us, []⟩ = pure ((df.N.take df.np).zip us)) (cm : cmF nm m df st = true) : ∃ st fa fd, FnT K mg nm m df st fa fd :=
  ⟨st, f, _, fun_mk l c k, S, PySem.W.mg_of X G a, b, cm⟩
def AllT (K : PySem.W.Frag) (mg : Str → Option Value) (nm : Nm) (m : Nat) (l : List (Nat × Df)) : Prop := ∀ p ∈ l, ∃ st fa fd, FnT K mg nm m p.2 st fa fd
theorem all_nil : AllT K mg nm m [] := fun p h => nomatch h
theorem all_cons {i : Nat} {df : Df} {l : List (Nat × Df)} (a : ∃ st fa fd, FnT K mg nm m df st fa fd) (r : AllT K mg nm m l) : AllT K mg nm m ((i, df) :: l) := fun p h => by
  rcases List.mem_cons.mp h with e | e
  · subst e; exact a
  · exact r p e
/-- a table as a list -/
def tbl (l : List (Nat × Df)) : Nat → Option Df := fun f => l.lookup f
theorem tbl_mem {f : Nat} {df : Df} : ∀ {l : List (Nat × Df)}, l.lookup f = some df → (f, df) ∈ l
  | [], h => by cases h
  | (g, dg) :: l, h => by
    rw [List.lookup_cons] at h
    split at h
    · rename_i e
      cases h
      rw [eq_of_beq e]
      exact List.mem_cons_self
    · exact List.mem_cons_of_mem _ (tbl_mem h)
theorem tbl_fn {l : List (Nat × Df)} (a : AllT K mg nm m l) (f : Nat) (df : Df) (h : tbl l f = some df) : ∃ st fa fd, FnT K mg nm m df st fa fd := a (f, df) (tbl_mem h)
/-- the law's def, behind the top -/
theorem law_mk {P : Program} {w : World} {su : Subs} {Ps : Nat → Option Df} {consts : List (Str × D)} {cls : Nat → Option (Str × Bool)} {fa : Addr} {li n : Nat} {df : Df} (T : Tb K mg (woOf K cls) su Ps consts cls m) (hl : Ps li = some df) (hn : mg df.name = some (.ref fa)) (hx : df.N.take df.np = [("script" : Str)]) (hio : df.io = []) :
    ∃ fd : FuncData, (∀ (s : Shared) (v : Value), BindsTo s fd ⟨[v], []⟩ [(("script" : Str), v)]) ∧ ∀ base : Heap, K.In base → base.Ns mainGlobals mg → FnOk P w K mg base (L2.CX P w) n fa fd [("script" : Str)] (spLaw cls (runD su Ps n li) K) := by
  obtain ⟨st, fa', fd, t⟩ := T.fn li df hl
  have e := hn.symm.trans t.g
  cases e
  refine ⟨fd, fun s v => .of_eq ?_, fun base _ _ => ?_⟩
  · have := t.b [v] (by rw [hx]; rfl)
    rw [hx] at this
    exact this
  · have := fn_ok (P := P) (w := w) (base := base) T n li hl t
    rw [hx, hio] at this
    exact this
theorem blts_no (X : K.In h) (G : h.Ns mainGlobals mg) (z : ∀ x ∈ blts, PySem.W.nsIn K mainGlobals x = some none) : ∀ x ∈ blts, mg x = none := fun x hx => PySem.W.mg_none_of X G (z x hx)
end
end Bk

/-! B16: exceptions' classes and constants, behind the top. -/
namespace Bk
open PySem PySem.Spec PyProof.Rows L2
abbrev veMro : List Value := [.type "ValueError", .type "Exception", .type "BaseException", .type "object"]
/-- a class of exceptions of one's own, over ValueError -/
structure ExT (K : PySem.W.Frag) (x : Str) (D : Addr) : Prop where
  e : PySem.W.nsIn K mainGlobals x = some (some (.ref D))
  x : PySem.W.excIn K D veMro "ValueError.__new__" = true
  kp : PySem.W.keepIn K (.ref D) = true
  ci : PySem.W.isClsIn K D = true
  ty : PySem.W.typeIn K (.ref D) = some (.type "type")
  sb : PySem.W.subIn K (.ref D) (.type "BaseException") = some true
  ss : PySem.W.subIn K (.ref D) (.ref D) = some true
  c : ExcC K D
section
variable {K : PySem.W.Frag} {mg : Str → Option Value} {cls : Nat → Option (Str × Bool)} {h : Heap}
theorem xc_own {c : Nat} {x : Str} {b : Bool} {v : Value} (hc : cls c = some (x, b)) (e : PySem.W.nsIn K mainGlobals x = some (some v)) : xcOf K cls c = v := by
  unfold xcOf
  simp only [hc, e]
theorem xc_ve {c : Nat} {x : Str} {b : Bool} {v : Value} (hc : cls c = some (x, b)) (e : PySem.W.nsIn K mainGlobals x = some none) (hb : bootBuiltins x = some v) : xcOf K cls c = v := by
  unfold xcOf
  simp only [hc, e, hb, Option.getD_some]
theorem exm_kit {k : Addr} {c : Value} {b : Bool} (hk : PySem.W.subIn K (.ref k) (.ref k) = some true) (hc : (∃ D, c = .ref D ∧ PySem.W.subIn K (.ref D) (.type "BaseException") = some true ∧ PySem.W.isClsIn K D = true ∧ PySem.W.typeIn K (.ref D) = some (.type "type")) ∨ c = .type "ValueError")
    (hs : PySem.W.subIn K (.ref k) c = some b) : PySem.W.exmOne K (.ref k) c = some b ∧ PySem.W.kitOne K (.ref k) c = some b := by
  have hkit : PySem.W.kitCls K (.ref k) c = some b := by
    rcases hc with ⟨D, rfl, h1, h2, h3⟩ | rfl
    · have h2' : (PySem.W.clsIn K D).isSome = true := h2
      show (if ((PySem.W.clsIn K D).isSome && PySem.W.typeIn K (.ref D) == some (.type "type")) = true then PySem.W.subIn K (.ref k) (.ref D) else none) = _
      rw [if_pos (by rw [h2', h3]; rfl)]
      exact hs
    · show (if PySem.W.kitMeta "ValueError" = true then PySem.W.subIn K (.ref k) (.type "ValueError") else none) = _
      rw [if_pos (by decide +kernel)]
      exact hs
  have hbase : (PySem.W.subIn K c (.type "BaseException") == some true) = true := by
    rcases hc with ⟨D, rfl, h1, h2, h3⟩ | rfl
    · rw [h1]; rfl
    · have : PySem.W.subIn K (.type "ValueError") (.type "BaseException") = some true := by
        show ((fastBuiltinMro "ValueError").map (·.contains (.type "BaseException"))) = some true
        decide +kernel
      rw [this]; rfl
  refine ⟨?_, ?_⟩
  · show (if (PySem.W.subIn K c (.type "BaseException") == some true) = true then PySem.W.kitCls K (.ref k) c else none) = _
    rw [if_pos hbase]
    exact hkit
  · show (if (Value.ref k == c) = true then some true else PySem.W.kitCls K (.ref k) c) = _
    by_cases e : (Value.ref k == c) = true
    · rw [if_pos e]
      have := eq_of_beq e
      rw [← this, hk] at hs
      exact hs
    · rw [if_neg e]
      exact hkit
/-- what the table wants of the c-th class -/
def ClP (K : PySem.W.Frag) (mg : Str → Option Value) (cls : Nat → Option (Str × Bool)) (p : Nat × (Str × Bool)) : Prop :=
  (mg p.2.1 = some (xcOf K cls p.1) ∧ (∃ D, xcOf K cls p.1 = .ref D) ∨ (mg p.2.1 = none ∧ bootBuiltins p.2.1 = some (xcOf K cls p.1) ∧ p.2.1 ≠ "__name__" ∧ ∃ T, xcOf K cls p.1 = .type T)) ∧
  (p.2.2 = true → ∃ (D : Addr) (B newId initId : String) (bmB : List Value), xcOf K cls p.1 = .ref D ∧ ExcBaseFacts B newId initId bmB ∧ PySem.W.excIn K D bmB newId = true ∧ mg p.2.1 = some (.ref D) ∧ PySem.W.keepIn K (.ref D) = true ∧
    PySem.W.subIn K (.ref D) (.type "BaseException") = some true ∧ PySem.W.typeIn K (.ref D) = some (.type "type"))
theorem cl_own (X : K.In h) (G : h.Ns mainGlobals mg) {c : Nat} {x : Str} {b : Bool} {D : Addr} (hc : cls c = some (x, b)) (T : ExT K x D) : ClP K mg cls (c, (x, b)) := by
  have e := xc_own hc T.e
  have g := PySem.W.mg_of X G T.e
  exact ⟨.inl ⟨by rw [e]; exact g, D, e⟩, fun _ => ⟨D, _, _, _, _, e, PySem.F.excBase_ValueError, T.x, g, T.kp, T.sb, T.ty⟩⟩
theorem cl_ve (X : K.In h) (G : h.Ns mainGlobals mg) {c : Nat} (hc : cls c = some (("ValueError" : Str), false)) (z : PySem.W.nsIn K mainGlobals "ValueError" = some none) : ClP K mg cls (c, (("ValueError" : Str), false)) := by
  have hb : bootBuiltins "ValueError" = some (.type "ValueError") := by decide +kernel
  have e := xc_ve hc z hb
  exact ⟨.inr ⟨PySem.W.mg_none_of X G z, by rw [e]; exact hb, (by decide : (Str.ofString "ValueError") ≠ Str.ofString "__name__"), _, e⟩, fun h => by cases h⟩
def SuP (K : PySem.W.Frag) (cls : Nat → Option (Str × Bool)) (p : (Nat × Nat) × Bool) : Prop :=
  PySem.W.exmOne K (xcOf K cls p.1.1) (xcOf K cls p.1.2) = some p.2 ∧ PySem.W.kitOne K (xcOf K cls p.1.1) (xcOf K cls p.1.2) = some p.2 ∧ ∃ D, xcOf K cls p.1.1 = .ref D ∧ ExcC K D
theorem su_own {k c : Nat} {x y : Str} {b1 b2 b : Bool} {D D' : Addr} (hk : cls k = some (x, b1)) (hc : cls c = some (y, b2)) (T : ExT K x D) (T' : ExT K y D') (hs : PySem.W.subIn K (.ref D) (.ref D') = some b) : SuP K cls ((k, c), b) := by
  have e := xc_own hk T.e
  have e' := xc_own hc T'.e
  unfold SuP
  simp only [e, e']
  obtain ⟨h1, h2⟩ := exm_kit T.ss (.inl ⟨D', rfl, T'.sb, T'.ci, T'.ty⟩) hs
  exact ⟨h1, h2, D, rfl, T.c⟩
theorem su_ve {k c : Nat} {x : Str} {b1 b : Bool} {D : Addr} (hk : cls k = some (x, b1)) (hc : cls c = some (("ValueError" : Str), false)) (T : ExT K x D) (z : PySem.W.nsIn K mainGlobals "ValueError" = some none) (hs : PySem.W.subIn K (.ref D) (.type "ValueError") = some b) : SuP K cls ((k, c), b) := by
  have hb : bootBuiltins "ValueError" = some (.type "ValueError") := by decide +kernel
  have e := xc_own hk T.e
  have e' := xc_ve hc z hb
  unfold SuP
  simp only [e, e']
  obtain ⟨h1, h2⟩ := exm_kit T.ss (.inr rfl) hs
  exact ⟨h1, h2, D, rfl, T.c⟩
/-! lists of these -/
theorem lk_mem {α : Type} {c : Nat} {v : α} : ∀ {l : List (Nat × α)}, l.lookup c = some v → (c, v) ∈ l
  | [], h => by cases h
  | (g, dg) :: l, h => by
    rw [List.lookup_cons] at h
    split at h
    · rename_i e
      cases h
      rw [eq_of_beq e]
      exact List.mem_cons_self
    · exact List.mem_cons_of_mem _ (lk_mem h)
theorem lk2_mem {c : Nat × Nat} {v : Bool} : ∀ {l : List ((Nat × Nat) × Bool)}, l.lookup c = some v → (c, v) ∈ l
  | [], h => by cases h
  | (g, dg) :: l, h => by
    rw [List.lookup_cons] at h
    split at h
    · rename_i e
      cases h
      rw [eq_of_beq e]
      exact List.mem_cons_self
    · exact List.mem_cons_of_mem _ (lk2_mem h)
theorem allP_nil {α : Type} {p : α → Prop} : ∀ x ∈ ([] : List α), p x := fun x h => nomatch h
theorem allP_cons {α : Type} {p : α → Prop} {a : α} {l : List α} (h : p a) (r : ∀ x ∈ l, p x) : ∀ x ∈ a :: l, p x := fun x m => by
  rcases List.mem_cons.mp m with rfl | m
  · exact h
  · exact r x m
/-- a constant of the module -/
def CnP (K : PySem.W.Frag) (mg : Str → Option Value) (w : Wo) (p : Str × D) : Prop := ∃ u v, mg p.1 = some u ∧ RelV v u ∧ ∀ H F, Val ⟨K, w.fa, w.ca, w.xc⟩ H F p.2 v
theorem cn_str (X : K.In h) (G : h.Ns mainGlobals mg) {w : Wo} {x s : Str} {t : Tok} (e : PySem.W.nsIn K mainGlobals x = some (some (.str s t))) : CnP K mg w (x, .str s) :=
  ⟨_, .str s, PySem.W.mg_of X G e, ⟨t, rfl⟩, fun H F => by unfold Val; rfl⟩
theorem cn_int (X : K.In h) (G : h.Ns mainGlobals mg) {w : Wo} {x : Str} {i : Int} {t : Tok} (e : PySem.W.nsIn K mainGlobals x = some (some (.int i t))) : CnP K mg w (x, .int i) :=
  ⟨_, .int i, PySem.W.mg_of X G e, ⟨t, rfl⟩, fun H F => by unfold Val; rfl⟩
theorem cn_hole (X : K.In h) (G : h.Ns mainGlobals mg) {w : Wo} {x : Str} {a : Addr} {od : Option Addr} {t : Tok} {n : Nat} {sl : Array (Option Value)} (e : PySem.W.nsIn K mainGlobals x = some (some (.ref a))) (l : K.lookup a = some ⟨.type "tuple", od, .seq #[.str "*" t] n, sl⟩) : CnP K mg w (x, .tup [.str "*"]) :=
  ⟨_, .ref a, PySem.W.mg_of X G e, rfl, fun H F => by
    unfold Val
    refine ⟨a, [.str "*"], rfl, .inr ⟨_, #[.str "*" t], n, l, rfl, rfl, by show 1 ≤ 16777216; omega, ?_⟩, .inl rfl, ?_⟩
    · exact .cons ⟨t, rfl⟩ .nil
    · exact ValL.cons (by unfold Val; rfl) ValL.nil⟩
theorem lks_mem {x : Str} {v : D} : ∀ {l : List (Str × D)}, l.lookup x = some v → (x, v) ∈ l
  | [], h => by cases h
  | (g, dg) :: l, h => by
    rw [List.lookup_cons] at h
    split at h
    · rename_i e
      cases h
      rw [eq_of_beq e]
      exact List.mem_cons_self
    · exact List.mem_cons_of_mem _ (lks_mem h)
end
end Bk

namespace Bk
open PySem
/- 1 -/
def f_law_cell_at : Df := ⟨"_law_cell_at", ["script", "k"], 2, [], [.ifs (.op .lt [.var 1, .op .len [.var 0]])
    [.ret (.op .mod [.op .idx [.var 0, .var 1], .op .pow [.cst (.int 10), .cst (.int 60)]])]
    [],
    .ret (.cst (.int 0))]⟩
/- 2 -/
def f_law_name : Df := ⟨"_law_name", ["base", "n", "letters", "word", "rest", "k", "size", "at", "step"], 2, [], [.asg (.v 2) (.cst (.str "abcdefghijklmnopqrstuvwxyz")),
    .asg (.v 3) (.cst (.str "")),
    .asg (.v 4) (.op .fdiv [.var 0, .cst (.int 112)]),
    .for (.v 5) (.op .rng1 [.cst (.int 8)])
    [.asg (.v 3) (.op .add [.var 3, .op .idx [.var 2, .op .mod [.var 4, .cst (.int 26)]]]),
    .asg (.v 4) (.op .fdiv [.var 4, .cst (.int 26)])],
    .ifs (.op .eq [.op .mod [.var 0, .cst (.int 2)], .cst (.int 1)])
    [.ret (.op (.slc false true) [.var 3, .ent (.op .add [.var 1, .cst (.int 1)])])]
    [],
    .asg (.v 6) (.op .add [.cst (.int 1), .op .mod [.op .fdiv [.var 0, .cst (.int 2)], .cst (.int 8)]]),
    .asg (.v 7) (.op .mod [.op .mod [.op .fdiv [.var 0, .cst (.int 16)], .cst (.int 7)], .var 6]),
    .asg (.v 8) (.op .idx [.var 2, .op .mod [.op .add [.met .sidx (.var 2) [.op .idx [.var 3, .var 7]], .var 1], .cst (.int 26)]]),
    .ret (.op .add [.op .add [.op (.slc false true) [.var 3, .ent (.var 7)], .var 8], .op (.slc true true) [.var 3, .ent (.op .add [.var 7, .cst (.int 1)]), .ent (.var 6)]])]⟩
/- 3 -/
def f_law_kinds : Df := ⟨"_law_kinds", ["cell", "mixed", "many", "rest", "kinds", "k", "at"], 1, [], [.asg (.v 1) (.op .add [.op .mul [.var 0, .cst (.int 1000003)], .cst (.int 4421)]),
    .asg (.v 2) (.op .add [.cst (.int 1), .op .mod [.var 1, .cst (.int 6)]]),
    .asg (.v 3) (.op .fdiv [.var 1, .cst (.int 7)]),
    .own 4 (.op .lst []),
    .for (.v 5) (.op .rng1 [.var 2])
    [.drop (.mut .app ⟨4, none⟩ [.op .tup [.call 2 [.op .fdiv [.var 1, .cst (.int 36)], .var 5], .op .mod [.var 3, .cst (.int 4)]]]),
    .asg (.v 3) (.op .add [.op .fdiv [.var 3, .cst (.int 4)], .var 5])],
    .asg (.v 6) (.op .mod [.op .fdiv [.var 1, .cst (.int 6)], .var 2]),
    .set ⟨4, none⟩ (.var 6) (.op .tup [.op .idx [.op .idx [.bor ⟨4, none⟩, .var 6], .cst (.int 0)], .cst (.int 0)]),
    .ret (.op .tupOf [.bor ⟨4, none⟩])]⟩
/- 13 -/
def f_law_same : Df := ⟨"_law_same", ["found", "due", "k"], 2, [], [.ifs (.op (.isi .tuple) [.var 1])
    [.ifs (.or (.not (.op (.isi .tuple) [.var 0])) (.op .ne [.op .len [.var 0], .op .len [.var 1]]))
    [.ret (.cst (.bl false))]
    [],
    .for (.v 2) (.op .rng1 [.op .len [.var 1]])
    [.ifs (.not (.call 13 [.op .idx [.var 0, .var 2], .op .idx [.var 1, .var 2]]))
    [.ret (.cst (.bl false))]
    []],
    .ret (.cst (.bl true))]
    [],
    .ifs (.op (.isi .str) [.var 1])
    [.ret (.and (.op (.isi .str) [.var 0]) (.op .eq [.var 0, .var 1]))]
    [],
    .ret (.and (.op (.isi .int) [.var 0]) (.and (.not (.op (.isi .bool) [.var 0])) (.op .eq [.var 0, .var 1])))]⟩
/- 78 -/
def f_is_name : Df := ⟨"is_name", ["word", "sign"], 1, [], [.for (.v 1) (.var 0)
    [.ifs (.op .notin [.var 1, .cst (.str "abcdefghijklmnopqrstuvwxyz")])
    [.ret (.cst (.bl false))]
    []],
    .ret (.chain .le .le (.cst (.int 1)) (.op .len [.var 0]) (.cst (.int 8)))]⟩
/- 54 -/
def f_many_of : Df := ⟨"many_of", ["kinds", "name", "known", "many"], 2, [], [.for (.t [2, 3]) (.var 0)
    [.ifs (.op .eq [.var 2, .var 1])
    [.ret (.var 3)]
    []],
    .ret (.op .neg [.cst (.int 1)])]⟩
/- 79 -/
def f_words_of : Df := ⟨"words_of", ["text", "found", "last", "sign"], 1, [], [.own 1 (.op .lst []),
    .asg (.v 2) (.cst (.str "")),
    .for (.v 3) (.var 0)
    [.ifs (.and (.op .inn [.var 3, .cst (.str "abcdefghijklmnopqrstuvwxyz")]) (.and (.op .ne [.var 2, .cst (.str "")]) (.op .inn [.var 2, .cst (.str "abcdefghijklmnopqrstuvwxyz")])))
    [.set ⟨1, none⟩ (.op .sub [.op .len [.bor ⟨1, none⟩], .cst (.int 1)]) (.op .add [.op .idx [.bor ⟨1, none⟩, .op .sub [.op .len [.bor ⟨1, none⟩], .cst (.int 1)]], .var 3])]
    [.ifs (.op .ne [.var 3, .cst (.str " ")])
    [.drop (.mut .app ⟨1, none⟩ [.var 3])]
    []],
    .asg (.v 2) (.var 3)],
    .ret (.var 1)]⟩
/- 80 -/
def f_word_at : Df := ⟨"word_at", ["words", "at"], 2, [], [.ifs (.op .lt [.var 1, .op .len [.var 0]])
    [.ret (.op .idx [.var 0, .var 1])]
    [],
    .ret (.cst (.str ""))]⟩
/- 81 -/
def f_kids_at : Df := ⟨"kids_at", ["kinds", "words", "at", "many", "deep", "kids", "k", "kid"], 5, [], [.asg (.v 5) (.op .tup []),
    .for (.v 6) (.op .rng1 [.var 3])
    [.ifs (.op .ne [.call 80 [.var 1, .var 2], .op .idx [.op .lst [.cst (.str "("), .cst (.str ",")], .op .intOf [.op .gt [.var 6, .cst (.int 0)]]]])
    [.rai 2]
    [],
    .asg (.t [7, 2]) (.call 82 [.var 0, .var 1, .op .add [.var 2, .cst (.int 1)], .op .sub [.var 4, .cst (.int 1)]]),
    .asg (.v 5) (.op .add [.var 5, .op .tup [.var 7]])],
    .ifs (.op .gt [.var 3, .cst (.int 0)])
    [.ifs (.op .ne [.call 80 [.var 1, .var 2], .cst (.str ")")])
    [.rai 2]
    [],
    .asg (.v 2) (.op .add [.var 2, .cst (.int 1)])]
    [],
    .ret (.op .tup [.var 5, .var 2])]⟩
/- 82 -/
def f_tree_at : Df := ⟨"tree_at", ["kinds", "words", "at", "deep", "name", "many", "kids", "stop"], 4, [], [.asg (.v 4) (.call 80 [.var 1, .var 2]),
    .asg (.v 5) (.call 54 [.var 0, .var 4]),
    .ifs (.or (.op .eq [.var 3, .cst (.int 0)]) (.or (.not (.call 78 [.var 4])) (.op .lt [.var 5, .cst (.int 0)])))
    [.rai 2]
    [],
    .asg (.t [6, 7]) (.call 81 [.var 0, .var 1, .op .add [.var 2, .cst (.int 1)], .var 5, .var 3]),
    .ret (.op .tup [.op .add [.op .tup [.var 4], .var 6], .var 7])]⟩
/- 55 -/
def f_fits_pattern : Df := ⟨"fits_pattern", ["kinds", "pattern", "states", "kids", "part"], 4, [], [.ifs (.op .eq [.op .idx [.var 1, .cst (.int 0)], .cst (.str "?")])
    [.ret (.and (.chain .le .lt (.cst (.int 0)) (.op .idx [.var 1, .cst (.int 1)]) (.var 2)) (.chain .le .lt (.cst (.int 0)) (.op .idx [.var 1, .cst (.int 2)]) (.var 3)))]
    [],
    .ifs (.op .ne [.call 54 [.var 0, .op .idx [.var 1, .cst (.int 0)]], .op .sub [.op .len [.var 1], .cst (.int 1)]])
    [.ret (.cst (.bl false))]
    [],
    .for (.v 4) (.op (.slc true false) [.var 1, .ent (.cst (.int 1))])
    [.ifs (.not (.call 55 [.var 0, .var 4, .var 2, .var 3]))
    [.ret (.cst (.bl false))]
    []],
    .ret (.cst (.bl true))]⟩
/- 35 -/
def f_is_knot : Df := ⟨"is_knot", ["thing"], 1, [], [.ret (.and (.op .ne [.op .idx [.var 0, .cst (.int 0)], .cst (.str "?")]) (.op .ne [.op .idx [.var 0, .cst (.int 0)], .cst (.str "*")]))]⟩
/- 56 -/
def f_knots_of : Df := ⟨"knots_of", ["pattern", "part"], 1, [], [.ifs (.not (.call 35 [.var 0]))
    [.ret (.cst (.int 0))]
    [],
    .ret (.op .add [.cst (.int 1), .op .sum [.comp (.call 56 [.var 1]) (.v 1) (.op (.slc true false) [.var 0, .ent (.cst (.int 1))]) none]])]⟩
/- 57 -/
def f_tall_of : Df := ⟨"tall_of", ["pattern", "part"], 1, [], [.ifs (.not (.call 35 [.var 0]))
    [.ret (.cst (.int 1))]
    [],
    .ret (.op .add [.cst (.int 1), .op .maxd [.comp (.call 57 [.var 1]) (.v 1) (.op (.slc true false) [.var 0, .ent (.cst (.int 1))]) none, .cst (.int 0)]])]⟩
/- 58 -/
def f_law_whole : Df := ⟨"_law_whole", ["found"], 1, [], [.ret (.and (.op (.isi .int) [.var 0]) (.not (.op (.isi .bool) [.var 0])))]⟩
/- 59 -/
def f_law_over_5 : Df := ⟨"_law_over", ["name", "parts", "part", "made", "high", "many"], 2, [], [.asg (.v 3) (.op .add [.op .tup [.var 0], .op .tupOf [.comp (.op .idx [.var 2, .cst (.int 0)]) (.v 2) (.var 1) none]]),
    .asg (.v 4) (.op .add [.cst (.int 1), .op .maxl [.comp (.op .idx [.var 2, .cst (.int 1)]) (.v 2) (.var 1) none]]),
    .asg (.v 5) (.op .add [.cst (.int 1), .op .sum [.comp (.op .idx [.var 2, .cst (.int 2)]) (.v 2) (.var 1) none]]),
    .ret (.op .tup [.var 3, .var 4, .var 5, .op .maxl [.comp (.op .idx [.var 2, .cst (.int 3)]) (.v 2) (.var 1) none], .op .maxl [.comp (.op .idx [.var 2, .cst (.int 4)]) (.v 2) (.var 1) none]])]⟩
/- 60 -/
def f_law_leaf_5 : Df := ⟨"_law_leaf", ["kinds", "cell", "pair", "leaves", "call", "leaf"], 2, [], [.asg (.v 3) (.comp (.op .idx [.var 2, .cst (.int 0)]) (.v 2) (.var 0) (some (.op .eq [.op .idx [.var 2, .cst (.int 1)], .cst (.int 0)]))),
    .ifs (.op .gt [.op .mod [.var 1, .cst (.int 3)], .cst (.int 0)])
    [.asg (.v 4) (.op .tup [.cst (.str "?"), .op .mod [.op .fdiv [.var 1, .cst (.int 3)], .cst (.int 20)], .op .mod [.op .fdiv [.var 1, .cst (.int 60)], .cst (.int 3)]]),
    .ret (.op .tup [.var 4, .cst (.int 1), .cst (.int 0), .op .add [.op .idx [.var 4, .cst (.int 1)], .cst (.int 1)], .op .add [.op .idx [.var 4, .cst (.int 2)], .cst (.int 1)]])]
    [],
    .asg (.v 5) (.op .tup [.op .idx [.var 3, .op .mod [.op .fdiv [.var 1, .cst (.int 3)], .op .len [.var 3]]]]),
    .ret (.op .tup [.var 5, .cst (.int 1), .cst (.int 1), .cst (.int 0), .cst (.int 0)])]⟩
/- 61 -/
def f_law_grown_5 : Df := ⟨"_law_grown", ["script", "kinds", "top", "most", "made", "k", "cell", "pair", "parts", "part"], 4, [], [.own 4 (.op .lst [.call 60 [.var 1, .cst (.int 0)]]),
    .for (.v 5) (.op .rng1 [.op .len [.var 0]])
    [.asg (.v 6) (.op .mod [.op .idx [.var 0, .var 5], .op .pow [.cst (.int 10), .cst (.int 60)]]),
    .asg (.v 7) (.op .idx [.var 1, .op .mod [.op .add [.var 6, .var 5], .op .len [.var 1]]]),
    .asg (.v 8) (.op .lst []),
    .ifs (.chain .lt .le (.cst (.int 0)) (.op .idx [.var 7, .cst (.int 1)]) (.op .len [.bor ⟨4, none⟩]))
    [.asg (.v 8) (.op (.slc true false) [.bor ⟨4, none⟩, .ent (.op .sub [.op .len [.bor ⟨4, none⟩], .op .idx [.var 7, .cst (.int 1)]])])]
    [],
    .ifs (.and (.op .gt [.op .len [.var 8], .cst (.int 0)]) (.and (.op .lt [.op .maxl [.comp (.op .idx [.var 9, .cst (.int 1)]) (.v 9) (.var 8) none], .var 2]) (.op .lt [.op .sum [.comp (.op .add [.op .idx [.var 9, .cst (.int 2)], .cst (.int 1)]) (.v 9) (.var 8) none], .var 3])))
    [.for (.v 9) (.var 8)
    [.drop (.mut .pop ⟨4, none⟩ [])],
    .drop (.mut .app ⟨4, none⟩ [.call 59 [.op .idx [.var 7, .cst (.int 0)], .var 8]])]
    [.ifs (.and (.op .eq [.op .mod [.op .fdiv [.var 6, .cst (.int 7)], .cst (.int 5)], .cst (.int 1)]) (.op .lt [.op .mul [.cst (.int 2), .op .sum [.comp (.op .add [.op .idx [.var 9, .cst (.int 2)], .cst (.int 1)]) (.v 9) (.bor ⟨4, none⟩) none]], .var 3]))
    [.drop (.mut .app ⟨4, none⟩ [.op .idx [.bor ⟨4, none⟩, .op .sub [.op .len [.bor ⟨4, none⟩], .cst (.int 1)]]])]
    [.drop (.mut .app ⟨4, none⟩ [.call 60 [.var 1, .op .add [.op .fdiv [.var 6, .cst (.int 35)], .var 5]]])]]],
    .ret (.var 4)]⟩
/- 62 -/
def f_law_spoiled : Df := ⟨"_law_spoiled", ["made", "cell", "kinds", "at", "way"], 3, [], [.ifs (.and (.op .gt [.op .len [.var 0], .cst (.int 1)]) (.and (.op .ne [.op .idx [.var 0, .cst (.int 0)], .cst (.str "?")]) (.op .gt [.op .mod [.var 1, .cst (.int 3)], .cst (.int 0)])))
    [.asg (.v 3) (.op .add [.cst (.int 1), .op .mod [.op .fdiv [.var 1, .cst (.int 3)], .op .sub [.op .len [.var 0], .cst (.int 1)]]]),
    .ret (.op .add [.op .add [.op (.slc false true) [.var 0, .ent (.var 3)], .op .tup [.call 62 [.op .idx [.var 0, .var 3], .op .fdiv [.var 1, .cst (.int 11)], .var 2]]], .op (.slc true false) [.var 0, .ent (.op .add [.var 3, .cst (.int 1)])]])]
    [],
    .asg (.v 4) (.op .mod [.op .fdiv [.var 1, .cst (.int 3)], .cst (.int 4)]),
    .ifs (.op .eq [.op .idx [.var 0, .cst (.int 0)], .cst (.str "?")])
    [.ret (.op .tup [.cst (.str "?"), .op .add [.op .idx [.var 0, .cst (.int 1)], .op .idx [.op .lst [.cst (.int 1), .op .pow [.cst (.int 10), .cst (.int 20)], .op .neg [.cst (.int 21)], .cst (.int 0)], .var 4]], .op .add [.op .idx [.var 0, .cst (.int 2)], .op .idx [.op .lst [.cst (.int 0), .cst (.int 0), .cst (.int 0), .cst (.int 3)], .var 4]]])]
    [],
    .ifs (.op .eq [.var 4, .cst (.int 0)])
    [.ret (.op .add [.var 0, .op .tup [.op .tup [.cst (.str "?"), .cst (.int 0), .cst (.int 0)]]])]
    [],
    .ifs (.op .eq [.var 4, .cst (.int 1)])
    [.ret (.ite (.op .gt [.op .len [.var 0], .cst (.int 1)]) (.op (.slc false true) [.var 0, .ent (.op .neg [.cst (.int 1)])]) (.op .tup [.cst (.str "qqqqqqqq")]))]
    [],
    .ifs (.op .eq [.var 4, .cst (.int 2)])
    [.ret (.op .add [.op .tup [.op .idx [.op .idx [.var 2, .op .mod [.op .fdiv [.var 1, .cst (.int 12)], .op .len [.var 2]]], .cst (.int 0)]], .op (.slc true false) [.var 0, .ent (.cst (.int 1))]])]
    [],
    .ret (.op .tup [.cst (.str "?"), .cst (.int 19), .cst (.int 2)])]⟩
/- 63 -/
def f_law_fits : Df := ⟨"_law_fits", ["made", "kinds", "states", "kids", "part"], 4, [], [.ifs (.op .eq [.op .idx [.var 0, .cst (.int 0)], .cst (.str "?")])
    [.ret (.and (.chain .le .lt (.cst (.int 0)) (.op .idx [.var 0, .cst (.int 1)]) (.var 2)) (.chain .le .lt (.cst (.int 0)) (.op .idx [.var 0, .cst (.int 2)]) (.var 3)))]
    [],
    .ifs (.op .notin [.op .tup [.op .idx [.var 0, .cst (.int 0)], .op .sub [.op .len [.var 0], .cst (.int 1)]], .var 1])
    [.ret (.cst (.bl false))]
    [],
    .ret (.op .all [.comp (.call 63 [.var 4, .var 1, .var 2, .var 3]) (.v 4) (.op (.slc true false) [.var 0, .ent (.cst (.int 1))]) none])]⟩
/- 64 -/
def f_law_told : Df := ⟨"_law_told", ["kinds", "made", "states", "kids", "due", "found"], 5, [], [.asg (.v 5) (.call 55 [.var 0, .var 1, .var 2, .var 3]),
    .ret (.and (.op (.isi .bool) [.var 5]) (.op .eq [.var 5, .var 4]))]⟩
/- 29 -/
def f_calls_in : Df := ⟨"calls_in", ["pattern", "found", "k", "place", "call"], 1, [], [.ifs (.op .eq [.op .idx [.var 0, .cst (.int 0)], .cst (.str "?")])
    [.ret (.op .lst [.op .tup [.op .tup [], .op .tup [.op .idx [.var 0, .cst (.int 1)], .op .idx [.var 0, .cst (.int 2)]]]])]
    [],
    .own 1 (.op .lst []),
    .for (.v 2) (.op .rng2 [.cst (.int 1), .op .len [.var 0]])
    [.drop (.mut .ext ⟨1, none⟩ [.comp (.op .tup [.op .add [.op .tup [.op .sub [.var 2, .cst (.int 1)]], .var 3], .var 4]) (.t [3, 4]) (.call 29 [.op .idx [.var 0, .var 2]]) none])],
    .ret (.var 1)]⟩
/- 30 -/
def f_law_over_4 : Df := ⟨"_law_over", ["name", "parts", "part", "made", "high", "many"], 2, [], [.asg (.v 3) (.op .add [.op .tup [.var 0], .op .tupOf [.comp (.op .idx [.var 2, .cst (.int 0)]) (.v 2) (.var 1) none]]),
    .asg (.v 4) (.op .add [.cst (.int 1), .op .maxl [.comp (.op .idx [.var 2, .cst (.int 1)]) (.v 2) (.var 1) none]]),
    .asg (.v 5) (.op .add [.cst (.int 1), .op .sum [.comp (.op .idx [.var 2, .cst (.int 2)]) (.v 2) (.var 1) none]]),
    .ret (.op .tup [.var 3, .var 4, .var 5])]⟩
/- 31 -/
def f_law_leaf_4 : Df := ⟨"_law_leaf", ["kinds", "cell", "pair", "leaves", "call", "leaf"], 2, [], [.asg (.v 3) (.comp (.op .idx [.var 2, .cst (.int 0)]) (.v 2) (.var 0) (some (.op .eq [.op .idx [.var 2, .cst (.int 1)], .cst (.int 0)]))),
    .ifs (.op .gt [.op .mod [.var 1, .cst (.int 3)], .cst (.int 0)])
    [.asg (.v 4) (.op .tup [.cst (.str "?"), .op .mod [.op .fdiv [.var 1, .cst (.int 3)], .cst (.int 20)], .op .mod [.op .fdiv [.var 1, .cst (.int 60)], .cst (.int 3)]]),
    .ret (.op .tup [.var 4, .cst (.int 1), .cst (.int 0)])]
    [],
    .asg (.v 5) (.op .tup [.op .idx [.var 3, .op .mod [.op .fdiv [.var 1, .cst (.int 3)], .op .len [.var 3]]]]),
    .ret (.op .tup [.var 5, .cst (.int 1), .cst (.int 1)])]⟩
/- 32 -/
def f_law_grown_4 : Df := ⟨"_law_grown", ["script", "kinds", "top", "most", "made", "k", "cell", "pair", "parts", "part"], 4, [], [.own 4 (.op .lst [.call 31 [.var 1, .cst (.int 0)]]),
    .for (.v 5) (.op .rng1 [.op .len [.var 0]])
    [.asg (.v 6) (.op .mod [.op .idx [.var 0, .var 5], .op .pow [.cst (.int 10), .cst (.int 60)]]),
    .asg (.v 7) (.op .idx [.var 1, .op .mod [.op .add [.var 6, .var 5], .op .len [.var 1]]]),
    .asg (.v 8) (.op .lst []),
    .ifs (.chain .lt .le (.cst (.int 0)) (.op .idx [.var 7, .cst (.int 1)]) (.op .len [.bor ⟨4, none⟩]))
    [.asg (.v 8) (.op (.slc true false) [.bor ⟨4, none⟩, .ent (.op .sub [.op .len [.bor ⟨4, none⟩], .op .idx [.var 7, .cst (.int 1)]])])]
    [],
    .ifs (.and (.op .gt [.op .len [.var 8], .cst (.int 0)]) (.and (.op .lt [.op .maxl [.comp (.op .idx [.var 9, .cst (.int 1)]) (.v 9) (.var 8) none], .var 2]) (.op .lt [.op .sum [.comp (.op .add [.op .idx [.var 9, .cst (.int 2)], .cst (.int 1)]) (.v 9) (.var 8) none], .var 3])))
    [.for (.v 9) (.var 8)
    [.drop (.mut .pop ⟨4, none⟩ [])],
    .drop (.mut .app ⟨4, none⟩ [.call 30 [.op .idx [.var 7, .cst (.int 0)], .var 8]])]
    [.ifs (.and (.op .eq [.op .mod [.op .fdiv [.var 6, .cst (.int 7)], .cst (.int 5)], .cst (.int 1)]) (.op .lt [.op .mul [.cst (.int 2), .op .sum [.comp (.op .add [.op .idx [.var 9, .cst (.int 2)], .cst (.int 1)]) (.v 9) (.bor ⟨4, none⟩) none]], .var 3]))
    [.drop (.mut .app ⟨4, none⟩ [.op .idx [.bor ⟨4, none⟩, .op .sub [.op .len [.bor ⟨4, none⟩], .cst (.int 1)]]])]
    [.drop (.mut .app ⟨4, none⟩ [.call 31 [.var 1, .op .add [.op .fdiv [.var 6, .cst (.int 35)], .var 5]]])]]],
    .ret (.var 4)]⟩
/- 33 -/
def f_law_walk_2 : Df := ⟨"_law_walk", ["made", "place", "found", "k"], 2, [], [.ifs (.op .eq [.op .idx [.var 0, .cst (.int 0)], .cst (.str "?")])
    [.ret (.op .lst [.op .tup [.var 1, .op .tup [.op .idx [.var 0, .cst (.int 1)], .op .idx [.var 0, .cst (.int 2)]]]])]
    [],
    .own 2 (.op .lst []),
    .for (.v 3) (.op .rng2 [.cst (.int 1), .op .len [.var 0]])
    [.drop (.mut .ext ⟨2, none⟩ [.call 33 [.op .idx [.var 0, .var 3], .op .add [.var 1, .op .tup [.op .sub [.var 3, .cst (.int 1)]]]]])],
    .ret (.var 2)]⟩
/- 36 -/
def f_like_knots : Df := ⟨"like_knots", ["one", "two"], 2, [], [.ret (.and (.call 35 [.var 0]) (.and (.op .eq [.op .idx [.var 0, .cst (.int 0)], .op .idx [.var 1, .cst (.int 0)]]) (.op .eq [.op .len [.var 0], .op .len [.var 1]])))]⟩
/- 38 -/
def f_common : Df := ⟨"common", ["one", "two", "k"], 2, [], [.ifs (.not (.call 36 [.var 0, .var 1]))
    [.ret (.cst (.tup [(.str "*")]))]
    [],
    .ret (.op .add [.op .tup [.op .idx [.var 0, .cst (.int 0)]], .op .tupOf [.comp (.call 38 [.op .idx [.var 0, .var 2], .op .idx [.var 1, .var 2]]) (.v 2) (.op .rng2 [.cst (.int 1), .op .len [.var 0]]) none]])]⟩
/- 40 -/
def f_law_turned : Df := ⟨"_law_turned", ["thing", "cell", "other", "parts", "k"], 3, [], [.ifs (.op .eq [.op .mod [.var 1, .cst (.int 6)], .cst (.int 0)])
    [.ret (.var 2)]
    [],
    .asg (.v 3) (.op .tup []),
    .ifs (.op .eq [.op .idx [.var 0, .cst (.int 0)], .cst (.str "?")])
    [.ret (.var 0)]
    [],
    .for (.v 4) (.op .rng2 [.cst (.int 1), .op .len [.var 0]])
    [.asg (.v 3) (.op .add [.var 3, .op .tup [.call 40 [.op .idx [.var 0, .var 4], .op .mod [.op .mul [.op .mul [.op .add [.op .fdiv [.var 1, .cst (.int 6)], .cst (.int 1)], .cst (.int 69621)], .var 4], .cst (.int 2147483647)], .var 2]]])],
    .ret (.op .add [.op .tup [.op .idx [.var 0, .cst (.int 0)]], .var 3])]⟩
/- 43 -/
def f_law_more : Df := ⟨"_law_more", ["thing", "cell", "at"], 2, [], [.ifs (.op .eq [.op .idx [.var 0, .cst (.int 0)], .cst (.str "?")])
    [.ret (.var 0)]
    [],
    .ifs (.and (.op .gt [.op .len [.var 0], .cst (.int 1)]) (.op .gt [.op .mod [.var 1, .cst (.int 3)], .cst (.int 0)]))
    [.asg (.v 2) (.op .add [.cst (.int 1), .op .mod [.op .fdiv [.var 1, .cst (.int 3)], .op .sub [.op .len [.var 0], .cst (.int 1)]]]),
    .ret (.op .add [.op .add [.op (.slc false true) [.var 0, .ent (.var 2)], .op .tup [.call 43 [.op .idx [.var 0, .var 2], .op .fdiv [.var 1, .cst (.int 11)]]]], .op (.slc true false) [.var 0, .ent (.op .add [.var 2, .cst (.int 1)])]])]
    [],
    .ifs (.or (.op .eq [.op .mod [.op .fdiv [.var 1, .cst (.int 3)], .cst (.int 2)], .cst (.int 0)]) (.op .eq [.op .len [.var 0], .cst (.int 1)]))
    [.ret (.op .add [.var 0, .op .tup [.op .tup [.cst (.str "qqq")]]])]
    [],
    .ret (.op (.slc false true) [.var 0, .ent (.op .neg [.cst (.int 1)])])]⟩
/- 45 -/
def f_holes_in : Df := ⟨"holes_in", ["front", "found", "k", "place"], 1, [], [.ifs (.op .eq [.var 0, .cst (.tup [(.str "*")])])
    [.ret (.op .lst [.op .tup []])]
    [],
    .own 1 (.op .lst []),
    .for (.v 2) (.op .rng2 [.cst (.int 1), .op .len [.var 0]])
    [.drop (.mut .ext ⟨1, none⟩ [.comp (.op .add [.op .tup [.op .sub [.var 2, .cst (.int 1)]], .var 3]) (.v 3) (.call 45 [.op .idx [.var 0, .var 2]]) none])],
    .ret (.var 1)]⟩
/- 46 -/
def f_parts_at : Df := ⟨"parts_at", ["front", "thing", "found", "k"], 2, [], [.ifs (.op .eq [.var 0, .cst (.tup [(.str "*")])])
    [.ret (.op .lst [.var 1])]
    [],
    .own 2 (.op .lst []),
    .for (.v 3) (.op .rng2 [.cst (.int 1), .op .len [.var 0]])
    [.drop (.mut .ext ⟨2, none⟩ [.call 46 [.op .idx [.var 0, .var 3], .op .idx [.var 1, .var 3]]])],
    .ret (.var 2)]⟩
/- 47 -/
def f_hung_by : Df := ⟨"hung_by", ["front", "parts", "used", "made", "k", "part"], 3, [], [.ifs (.op .eq [.var 0, .cst (.tup [(.str "*")])])
    [.ret (.op .tup [.op .idx [.var 1, .var 2], .op .add [.var 2, .cst (.int 1)]])]
    [],
    .asg (.v 3) (.op .tup [.op .idx [.var 0, .cst (.int 0)]]),
    .for (.v 4) (.op .rng2 [.cst (.int 1), .op .len [.var 0]])
    [.asg (.t [5, 2]) (.call 47 [.op .idx [.var 0, .var 4], .var 1, .var 2]),
    .asg (.v 3) (.op .add [.var 3, .op .tup [.var 5]])],
    .ret (.op .tup [.var 3, .var 2])]⟩
/- 48 -/
def f_hung : Df := ⟨"hung", ["front", "parts"], 2, [], [.ret (.op .idx [.call 47 [.var 0, .var 1, .cst (.int 0)], .cst (.int 0)])]⟩
/- 49 -/
def f_law_part : Df := ⟨"_law_part", ["one", "two"], 2, [], [.ret (.or (.op .ne [.op .idx [.var 0, .cst (.int 0)], .op .idx [.var 1, .cst (.int 0)]]) (.or (.op .ne [.op .len [.var 0], .op .len [.var 1]]) (.op .eq [.op .idx [.var 0, .cst (.int 0)], .cst (.str "?")])))]⟩
/- 66 -/
def f_states_of : Df := ⟨"states_of", ["book"], 1, [], [.ret (.op .len [.op .idx [.var 0, .cst (.int 3)]])]⟩
/- 67 -/
def f_pattern_of : Df := ⟨"pattern_of", ["book", "state", "name", "at"], 3, [], [.asg (.v 3) (.cst (.int 0)),
    .whl 1000000000 (.op .ne [.op .idx [.op .idx [.op .idx [.var 0, .cst (.int 0)], .var 3], .cst (.int 0)], .var 2])
    [.asg (.v 3) (.op .add [.var 3, .cst (.int 1)])],
    .ret (.op .idx [.op .idx [.op .idx [.var 0, .cst (.int 3)], .var 1], .var 3])]⟩
/- 68 -/
def f_law_cell : Df := ⟨"_law_cell", ["script", "k"], 2, [], [.ifs (.op .lt [.var 1, .op .len [.var 0]])
    [.ret (.op .idx [.var 0, .var 1])]
    [],
    .ret (.cst (.int 0))]⟩
/- 69 -/
def f_law_turn : Df := ⟨"_law_turn", ["cell", "k", "near"], 2, [], [.asg (.v 2) (.op .mod [.op .add [.op .add [.op .add [.var 0, .op .mul [.op .mul [.cst (.int 977), .var 1], .var 1]], .op .mul [.cst (.int 31), .var 1]], .cst (.int 1)], .cst (.int 2147483647)]),
    .asg (.v 2) (.op .mod [.op .mul [.var 2, .var 2], .cst (.int 2147483647)]),
    .ret (.op .mod [.op .mul [.op .add [.var 2, .op .mul [.cst (.int 40692), .op .add [.var 1, .cst (.int 3)]]], .cst (.int 69621)], .cst (.int 2147483629)])]⟩
/- 70 -/
def f_law_kinds_2 : Df := ⟨"_law_kinds", ["cell", "letters", "rest", "size", "more", "stem", "at", "leaf", "turn", "begun", "kinds", "k", "many", "pick", "name"], 2, [], [.asg (.v 2) (.call 69 [.var 0, .cst (.int 1)]),
    .asg (.v 3) (.op .add [.cst (.int 1), .op .mod [.var 2, .cst (.int 4)]]),
    .ifs (.op .eq [.op .mod [.op .fdiv [.var 2, .cst (.int 13824)], .cst (.int 4)], .cst (.int 1)])
    [.asg (.v 3) (.op .add [.cst (.int 5), .op .mod [.op .fdiv [.var 2, .cst (.int 55296)], .cst (.int 4)]])]
    [],
    .asg (.v 4) (.op (.slc false true) [.op .add [.var 1, .cst (.str "aeio")], .ent (.op .add [.cst (.int 4), .op .mul [.cst (.int 4), .op .intOf [.op .gt [.var 3, .cst (.int 4)]]]])]),
    .asg (.v 5) (.op (.slc false true) [.cst (.str "gumleafs"), .ent (.op .mod [.op .fdiv [.var 2, .cst (.int 4)], .cst (.int 8)])]),
    .asg (.v 6) (.op .mod [.op .fdiv [.var 2, .cst (.int 32)], .op .add [.op .len [.var 5], .cst (.int 1)]]),
    .asg (.v 7) (.op .mod [.op .fdiv [.var 2, .cst (.int 288)], .var 3]),
    .asg (.v 8) (.op .mod [.op .fdiv [.var 2, .cst (.int 1152)], .cst (.int 4)]),
    .asg (.v 9) (.op .eq [.op .mod [.op .fdiv [.var 2, .cst (.int 4608)], .cst (.int 3)], .cst (.int 1)]),
    .own 10 (.op .lst []),
    .for (.v 11) (.op .rng1 [.var 3])
    [.asg (.v 2) (.call 69 [.var 2, .op .add [.var 11, .cst (.int 2)]]),
    .asg (.v 12) (.op .mul [.op .idx [.op .lst [.cst (.int 0), .cst (.int 2), .cst (.int 1), .cst (.int 3), .cst (.int 2)], .op .mod [.var 2, .cst (.int 5)]], .op .intOf [.op .ne [.var 11, .var 7]]]),
    .asg (.v 13) (.op .mod [.op .add [.op .mul [.cst (.int 3), .var 11], .var 8], .op .len [.var 4]]),
    .asg (.v 14) (.op .add [.op .add [.op (.slc false true) [.var 5, .ent (.var 6)], .op .idx [.var 4, .var 13]], .op (.slc true false) [.var 5, .ent (.var 6)]]),
    .ifs (.var 9)
    [.asg (.v 14) (.op .mul [.op .idx [.var 1, .cst (.int 0)], .op .add [.cst (.int 1), .var 13]])]
    [],
    .drop (.mut .app ⟨10, none⟩ [.op .tup [.var 14, .var 12]])],
    .ret (.op .tupOf [.bor ⟨10, none⟩])]⟩
/- 71 -/
def f_law_leaf_6 : Df := ⟨"_law_leaf", ["kinds", "cell", "kind", "leaves"], 2, [], [.asg (.v 3) (.comp (.var 2) (.v 2) (.var 0) (some (.op .eq [.op .idx [.var 2, .cst (.int 1)], .cst (.int 0)]))),
    .ret (.op .idx [.var 3, .op .mod [.var 1, .op .len [.var 3]]])]⟩
/- 72 -/
def f_law_pattern : Df := ⟨"_law_pattern", ["cell", "outs", "states", "kids", "deep", "rest", "kind", "parts", "k"], 5, [], [.asg (.v 5) (.call 69 [.var 0, .cst (.int 3)]),
    .ifs (.and (.op .gt [.var 2, .cst (.int 0)]) (.and (.op .gt [.var 3, .cst (.int 0)]) (.op .lt [.op .mod [.var 5, .cst (.int 5)], .cst (.int 2)])))
    [.ret (.op .tup [.cst (.str "?"), .op .mod [.op .fdiv [.var 5, .cst (.int 5)], .var 2], .op .mod [.op .fdiv [.var 5, .cst (.int 97)], .var 3]])]
    [],
    .asg (.v 6) (.op .idx [.var 1, .op .mod [.op .fdiv [.var 5, .cst (.int 5)], .op .len [.var 1]]]),
    .ifs (.and (.op .eq [.var 4, .cst (.int 0)]) (.op .gt [.op .idx [.var 6, .cst (.int 1)], .cst (.int 0)]))
    [.asg (.v 6) (.call 71 [.var 1, .op .fdiv [.var 5, .cst (.int 37)]])]
    [],
    .own 7 (.op .lst []),
    .for (.v 8) (.op .rng1 [.op .idx [.var 6, .cst (.int 1)]])
    [.drop (.mut .app ⟨7, none⟩ [.call 72 [.call 69 [.var 5, .op .add [.var 8, .cst (.int 5)]], .var 1, .var 2, .var 3, .op .sub [.var 4, .cst (.int 1)]]])],
    .ret (.op .add [.op .tup [.op .idx [.var 6, .cst (.int 0)]], .op .tupOf [.bor ⟨7, none⟩]])]⟩
/- 73 -/
def f_law_digit : Df := ⟨"_law_digit", ["left", "many", "digit"], 2, [0], [.asg (.v 2) (.op .mod [.op .idx [.bor ⟨0, none⟩, .cst (.int 0)], .var 1]),
    .set ⟨0, none⟩ (.cst (.int 0)) (.op .fdiv [.op .idx [.bor ⟨0, none⟩, .cst (.int 0)], .var 1]),
    .ret (.var 2)]⟩
/- 74 -/
def f_law_by_digits : Df := ⟨"_law_by_digits", ["left", "outs", "states", "kids", "deep", "state", "kind", "some", "parts", "k"], 5, [0], [.ifs (.and (.op .gt [.var 2, .cst (.int 0)]) (.and (.op .gt [.var 3, .cst (.int 0)]) (.op .eq [.call 73 [.io ⟨0, none⟩, .cst (.int 2)], .cst (.int 1)])))
    [.asg (.v 5) (.call 73 [.io ⟨0, none⟩, .var 2]),
    .ret (.op .tup [.cst (.str "?"), .var 5, .call 73 [.io ⟨0, none⟩, .var 3]])]
    [],
    .asg (.v 7) (.comp (.var 6) (.v 6) (.var 1) (some (.or (.op .eq [.op .idx [.var 6, .cst (.int 1)], .cst (.int 0)]) (.op .gt [.var 4, .cst (.int 0)])))),
    .asg (.v 6) (.op .idx [.var 7, .call 73 [.io ⟨0, none⟩, .op .len [.var 7]]]),
    .own 8 (.op .lst []),
    .for (.v 9) (.op .rng1 [.op .idx [.var 6, .cst (.int 1)]])
    [.drop (.mut .app ⟨8, none⟩ [.call 74 [.io ⟨0, none⟩, .var 1, .var 2, .var 3, .op .sub [.var 4, .cst (.int 1)]]])],
    .ret (.op .add [.op .tup [.op .idx [.var 6, .cst (.int 0)]], .op .tupOf [.bor ⟨8, none⟩]])]⟩
/- 75 -/
def f_law_book_by_digits : Df := ⟨"_law_book_by_digits", ["cell", "ins", "outs", "states", "deep", "left", "rules", "state", "row", "k"], 5, [], [.own 5 (.op .lst [.var 0]),
    .own 6 (.op .lst []),
    .for (.v 7) (.op .rng1 [.var 3])
    [.own 8 (.op .lst []),
    .for (.v 9) (.op .rng1 [.op .len [.var 1]])
    [.drop (.mut .app ⟨8, none⟩ [.call 74 [.io ⟨5, none⟩, .var 2, .var 3, .op .idx [.op .idx [.var 1, .var 9], .cst (.int 1)], .var 4]])],
    .drop (.mut .app ⟨6, none⟩ [.op .tupOf [.bor ⟨8, none⟩]])],
    .ret (.op .tup [.var 1, .var 2, .call 74 [.io ⟨5, none⟩, .var 2, .var 3, .cst (.int 1), .cst (.int 1)], .op .tupOf [.bor ⟨6, none⟩]])]⟩
/- 76 -/
def f_law_book : Df := ⟨"_law_book", ["cell", "ins", "outs", "states", "deep", "rules", "state", "row", "k"], 5, [], [.ifs (.op .ge [.var 0, .cst (.int 4294967296)])
    [.ret (.call 75 [.op .fdiv [.var 0, .cst (.int 4294967296)], .var 1, .var 2, .var 3, .var 4])]
    [],
    .own 5 (.op .lst []),
    .for (.v 6) (.op .rng1 [.var 3])
    [.own 7 (.op .lst []),
    .for (.v 8) (.op .rng1 [.op .len [.var 1]])
    [.drop (.mut .app ⟨7, none⟩ [.call 72 [.call 69 [.var 0, .op .add [.op .add [.op .mul [.cst (.int 9), .var 6], .var 8], .cst (.int 11)]], .var 2, .var 3, .op .idx [.op .idx [.var 1, .var 8], .cst (.int 1)], .var 4]])],
    .drop (.mut .app ⟨5, none⟩ [.op .tupOf [.bor ⟨7, none⟩]])],
    .ret (.op .tup [.var 1, .var 2, .call 72 [.call 69 [.var 0, .cst (.int 7)], .var 2, .var 3, .cst (.int 1), .cst (.int 1)], .op .tupOf [.bor ⟨5, none⟩]])]⟩
end Bk

namespace Bk
open PySem
end Bk

namespace Bk
open PySem
end Bk

namespace Bk
open PySem
end Bk

namespace Bk
open PySem
end Bk

namespace Bk
open PySem
/- 176 -/
def f_kinds_of : Df := ⟨"kinds_of", ["pairs", "held", "leaf", "name", "many"], 1, [], [.own 1 (.dnew 0),
    .asg (.v 2) (.cst (.bl false)),
    .for (.t [3, 4]) (.var 0)
    [.ifs (.or (.not (.call 78 [.var 3])) (.or (.op .din [.var 3, .bor ⟨1, none⟩]) (.or (.op .lt [.var 4, .cst (.int 0)]) (.op .gt [.var 4, .cst (.int 3)]))))
    [.rai 1]
    [],
    .set ⟨1, none⟩ (.var 3) (.cst (.bl true)),
    .asg (.v 2) (.or (.var 2) (.op .eq [.var 4, .cst (.int 0)]))],
    .ifs (.or (.not (.var 2)) (.op .gt [.op .len [.var 0], .cst (.int 8)]))
    [.rai 1]
    [],
    .ret (.op .tupOf [.comp (.op .tup [.var 3, .var 4]) (.t [3, 4]) (.var 0) none])]⟩
/- 177 -/
def f_small_pattern : Df := ⟨"small_pattern", ["pattern"], 1, [], [.ifs (.or (.op .gt [.call 57 [.var 0], .cst (.int 20)]) (.op .gt [.call 56 [.var 0], .cst (.int 400)]))
    [.ret (.cst (.bl false))]
    [],
    .ret (.op .le [.op .len [.call 29 [.var 0]], .cst (.int 200)])]⟩
/- 178 -/
def f_good_pattern : Df := ⟨"good_pattern", ["outs", "pattern", "states", "kids"], 4, [], [.ret (.and (.call 55 [.var 0, .var 1, .var 2, .var 3]) (.call 177 [.var 1]))]⟩
/- 179 -/
def f_made_book : Df := ⟨"made_book", ["ins", "outs", "head", "rules", "states", "made", "row", "kind", "pattern"], 4, [], [.asg (.v 0) (.call 176 [.var 0]),
    .asg (.v 1) (.call 176 [.var 1]),
    .asg (.v 4) (.op .len [.var 3]),
    .ifs (.or (.op .gt [.var 4, .cst (.int 20)]) (.not (.call 178 [.var 1, .var 2, .var 4, .cst (.int 1)])))
    [.rai 3]
    [],
    .own 5 (.op .lst []),
    .for (.v 6) (.var 3)
    [.ifs (.op .ne [.op .len [.var 6], .op .len [.var 0]])
    [.rai 3]
    [],
    .for (.t [7, 8]) (.op .zip2 [.var 0, .var 6])
    [.ifs (.not (.call 178 [.var 1, .var 8, .var 4, .op .idx [.var 7, .cst (.int 1)]]))
    [.rai 3]
    []],
    .drop (.mut .app ⟨5, none⟩ [.op .tupOf [.var 6]])],
    .ret (.op .tup [.var 0, .var 1, .var 2, .op .tupOf [.bor ⟨5, none⟩]])]⟩
/- 180 -/
def f_law_row_2 : Df := ⟨"_law_row", ["names", "many", "leaf", "tree", "k"], 3, [], [.asg (.v 3) (.var 2),
    .for (.v 4) (.op .rng1 [.var 1])
    [.asg (.v 3) (.op .tup [.op .idx [.var 0, .cst (.int 1)], .var 3])],
    .ret (.var 3)]⟩
/- 181 -/
def f_law_bush : Df := ⟨"_law_bush", ["names", "many", "leaf", "part"], 3, [], [.ifs (.op .eq [.var 1, .cst (.int 1)])
    [.ret (.var 2)]
    [],
    .ifs (.op .eq [.var 1, .cst (.int 2)])
    [.ret (.op .tup [.op .idx [.var 0, .cst (.int 1)], .var 2])]
    [],
    .asg (.v 3) (.op .fdiv [.op .sub [.var 1, .cst (.int 1)], .cst (.int 2)]),
    .ret (.op .tup [.op .idx [.var 0, .cst (.int 2)], .call 181 [.var 0, .var 3, .var 2], .call 181 [.var 0, .op .sub [.op .sub [.var 1, .cst (.int 1)], .var 3], .var 2]])]⟩
/- 182 -/
def f_law_calls : Df := ⟨"_law_calls", ["names", "many", "call"], 3, [], [.ifs (.op .eq [.var 1, .cst (.int 1)])
    [.ret (.var 2)]
    [],
    .ret (.op .tup [.op .idx [.var 0, .cst (.int 2)], .call 182 [.var 0, .op .fdiv [.var 1, .cst (.int 2)], .var 2], .call 182 [.var 0, .op .sub [.var 1, .op .fdiv [.var 1, .cst (.int 2)]], .var 2]])]⟩
/- 183 -/
def f_law_great : Df := ⟨"_law_great", ["names", "way", "more", "call", "leaf"], 4, [], [.asg (.v 4) (.op .tup [.op .idx [.var 0, .cst (.int 0)]]),
    .ifs (.op .eq [.var 1, .cst (.int 0)])
    [.ret (.call 180 [.var 0, .op .add [.cst (.int 19), .var 2], .var 4])]
    [],
    .ifs (.op .eq [.var 1, .cst (.int 1)])
    [.ret (.call 180 [.var 0, .op .add [.cst (.int 19), .var 2], .var 3])]
    [],
    .ifs (.op .eq [.var 1, .cst (.int 2)])
    [.ret (.call 181 [.var 0, .op .add [.cst (.int 400), .var 2], .var 4])]
    [],
    .ret (.call 182 [.var 0, .op .add [.cst (.int 200), .var 2], .var 3])]⟩
/- 184 -/
def f_law_refusal : Df := ⟨"_law_refusal", ["kinds", "head", "rules", "told", "e"], 3, [], [.asg (.v 3) (.cst .non),
    .trA [.drop (.call 179 [.var 0, .var 0, .var 1, .var 2])] 0 4
    [.asg (.v 3) (.op .lst [.xis 4 3, .xis 4 8, .xis 4 10])],
    .ret (.var 3)]⟩
/- 185 -/
def f_law_one : Df := ⟨"_law_one", ["names", "cell", "k", "kinds", "rest", "leaf", "call", "way", "head", "row", "more", "rules", "at"], 2, [], [.asg (.v 3) (.op .tupOf [.comp (.op .tup [.op .idx [.var 0, .var 2], .var 2]) (.v 2) (.op .rng1 [.cst (.int 3)]) none]),
    .asg (.v 4) (.call 69 [.var 1, .cst (.int 3)]),
    .asg (.v 5) (.op .tup [.op .idx [.var 0, .cst (.int 0)]]),
    .asg (.v 6) (.op .tup [.cst (.str "?"), .cst (.int 0), .cst (.int 0)]),
    .asg (.v 7) (.op .mod [.var 4, .cst (.int 5)]),
    .asg (.v 8) (.var 6),
    .asg (.v 9) (.op .lst [.var 5, .var 5, .var 5]),
    .for (.v 10) (.op .rng1 [.cst (.int 2)])
    [.asg (.v 11) (.op .lst [.var 9]),
    .ifs (.op .eq [.var 7, .cst (.int 4)])
    [.asg (.v 11) (.op .mul [.op .lst [.var 9], .op .add [.cst (.int 20), .var 10]])]
    [.ifs (.op .eq [.op .mod [.op .fdiv [.var 4, .cst (.int 5)], .cst (.int 2)], .cst (.int 0)])
    [.asg (.v 8) (.call 183 [.var 0, .var 7, .var 10, .var 6])]
    [.asg (.v 12) (.op .add [.cst (.int 1), .op .mod [.op .fdiv [.var 4, .cst (.int 10)], .cst (.int 2)]]),
    .asg (.v 11) (.op .lst [.op .add [.op .add [.op (.slc false true) [.var 9, .ent (.var 12)], .op .lst [.call 183 [.var 0, .var 7, .var 10, .var 6]]], .op (.slc true false) [.var 9, .ent (.op .add [.var 12, .cst (.int 1)])]]])]],
    .ifs (.op .ne [.call 184 [.var 3, .var 8, .var 11], .op .idx [.op .lst [.cst .non, .op .lst [.cst (.bl true), .cst (.bl false), .cst (.bl true)]], .var 10]])
    [.ret (.cst (.bl false))]
    [],
    .ifs (.and (.op .eq [.var 10, .cst (.int 0)]) (.op .ne [.call 66 [.call 179 [.var 3, .var 3, .var 8, .var 11]], .op .len [.var 11]]))
    [.ret (.cst (.bl false))]
    []],
    .ret (.cst (.bl true))]⟩
/- 186 -/
def f_law_25 : Df := ⟨"law", ["script", "cell", "letter", "stem", "names"], 1, [], [.for (.v 1) (.op (.slc false true) [.op .add [.op .lst [.cst (.int 0)], .var 0], .ent (.cst (.int 9))])
    [.asg (.v 2) (.op .idx [.cst (.str "abcdefghijklmnopqrstuvwxyz"), .op .mod [.var 1, .cst (.int 26)]]),
    .asg (.v 3) (.op (.slc false true) [.cst (.str "frond"), .ent (.op .mod [.op .fdiv [.var 1, .cst (.int 26)], .cst (.int 6)])]),
    .asg (.v 4) (.op .lst [.op .add [.var 2, .var 3], .op .add [.op .add [.var 2, .var 2], .var 3], .op .add [.op .mul [.var 2, .cst (.int 3)], .var 3]]),
    .ifs (.not (.call 185 [.var 4, .var 1]))
    [.ret (.cst (.bl false))]
    []],
    .ret (.cst (.bl true))]⟩
end Bk

namespace Bk
open PySem
def tabT : List (Nat × Df) := [(78, f_is_name), (176, f_kinds_of), (54, f_many_of), (55, f_fits_pattern), (35, f_is_knot), (56, f_knots_of), (57, f_tall_of), (29, f_calls_in), (177, f_small_pattern), (178, f_good_pattern), (179, f_made_book), (66, f_states_of), (69, f_law_turn), (180, f_law_row_2), (181, f_law_bush), (182, f_law_calls), (183, f_law_great), (184, f_law_refusal), (185, f_law_one), (186, f_law_25)]
def suL : List ((Nat × Nat) × Bool) := [((0, 0), true), ((0, 1), false), ((0, 3), false), ((0, 8), false), ((0, 10), true), ((1, 0), true), ((1, 1), true), ((1, 3), false), ((1, 8), false), ((1, 10), true), ((3, 0), true), ((3, 1), false), ((3, 3), true), ((3, 8), false), ((3, 10), true), ((8, 0), true), ((8, 1), false), ((8, 3), false), ((8, 8), true), ((8, 10), true)]
def suT : Subs := fun k c => suL.lookup (k, c)
def lawI : Nat := 186
end Bk

/-! E1: running the little language by simp. -/
namespace Bk
open PySem
@[simp] theorem kd_cst (d : D) : (P.cst d).kd = .val := (rfl)
@[simp] theorem kd_var (i : Nat) : (P.var i).kd = .val := (rfl)
@[simp] theorem kd_bor_ (p : Pl) : (P.bor p).kd = .bor p := (rfl)
@[simp] theorem kd_io_ (p : Pl) : (P.io p).kd = .io p := (rfl)
@[simp] theorem kd_op (p : Prim) (as : List P) : (P.op p as).kd = .val := (rfl)
@[simp] theorem kd_call (f : Nat) (as : List P) : (P.call f as).kd = .val := (rfl)
@[simp] theorem kd_callT (f : Nat) (l : P) (as : List P) : (P.callT f l as).kd = .val := (rfl)
@[simp] theorem kd_and (a b : P) : (P.and a b).kd = .val := (rfl)
@[simp] theorem kd_or (a b : P) : (P.or a b).kd = .val := (rfl)
@[simp] theorem kd_not (a : P) : (P.not a).kd = .val := (rfl)
@[simp] theorem kd_ent (a : P) : (P.ent a).kd = .val := (rfl)
@[simp] theorem kd_ite (a b c : P) : (P.ite a b c).kd = .val := (rfl)
@[simp] theorem kd_chain (o o' : Prim) (a b c : P) : (P.chain o o' a b c).kd = .val := (rfl)
@[simp] theorem kd_met (m : Met) (r : P) (as : List P) : (P.met m r as).kd = .val := (rfl)
@[simp] theorem kd_mut (m : Mut) (r : Pl) (as : List P) : (P.mut m r as).kd = .val := (rfl)
@[simp] theorem kd_dnew (t : Nat) : (P.dnew t).kd = .val := (rfl)
@[simp] theorem kd_comp (e : P) (t : Tg) (i : P) (c : Option P) : (P.comp e t i c).kd = .val := (rfl)
@[simp] theorem kd_xis (i c : Nat) : (P.xis i c).kd = .val := (rfl)
section
variable (q : En) (ρ : Rho)
/-! what is done with a part's end: no term under a binder -/
def readS (ρ : Rho) (i : Nat) : Option Sl → Ev D
  | some (.fz d) => .ok d ρ
  | some (.own (.lst xs)) => .ok (.lst xs) (ρ.set i (.fz (.lst xs)))
  | some (.own (.dct t ks vs)) => .ok (.dct t ks vs) (ρ.set i (.fz (.dct t ks vs)))
  | _ => .stuck
@[simp] theorem readS_fz (i : Nat) (d : D) : readS ρ i (some (.fz d)) = .ok d ρ := (rfl)
@[simp] theorem readS_own (i : Nat) (xs : List D) : readS ρ i (some (.own (.lst xs))) = .ok (.lst xs) (ρ.set i (.fz (.lst xs))) := (rfl)
@[simp] theorem readS_ownD (i t : Nat) (ks vs : List D) : readS ρ i (some (.own (.dct t ks vs))) = .ok (.dct t ks vs) (ρ.set i (.fz (.dct t ks vs))) := (rfl)
@[simp] theorem readV_eq (i : Nat) : readV ρ i = readS ρ i ρ[i]? := by
  unfold readV
  cases ρ[i]? with
  | none => rfl
  | some s => cases s with
    | un => rfl
    | fz d => rfl
    | own d => cases d <;> rfl
def lookS : Option Sl → R D
  | some (.fz d) => .ok d
  | some (.own d) => .ok d
  | _ => .stuck
@[simp] theorem lookS_fz (d : D) : lookS (some (.fz d)) = .ok d := (rfl)
@[simp] theorem lookS_own (d : D) : lookS (some (.own d)) = .ok d := (rfl)
@[simp] theorem look_eq (i : Nat) : Pl.look ρ ⟨i, none⟩ = lookS ρ[i]? := by
  unfold Pl.look
  cases ρ[i]? with
  | none => rfl
  | some s => cases s <;> rfl
def takeS (ρ : Rho) (i : Nat) : Option Sl → R (D × Rho)
  | some (.own d) => .ok (d, ρ.set i .un)
  | _ => .stuck
@[simp] theorem takeS_own (i : Nat) (d : D) : takeS ρ i (some (.own d)) = .ok (d, ρ.set i .un) := (rfl)
@[simp] theorem take_eq (i : Nat) : Pl.take ρ ⟨i, none⟩ = takeS ρ i ρ[i]? := by
  unfold Pl.take
  cases ρ[i]? with
  | none => rfl
  | some s => cases s <;> rfl
def bndS : Option Sl → Bool
  | some (.fz _) => true
  | some (.own _) => true
  | _ => false
@[simp] theorem bndS_fz (d : D) : bndS (some (.fz d)) = true := (rfl)
@[simp] theorem bndS_own (d : D) : bndS (some (.own d)) = true := (rfl)
@[simp] theorem bound_eq (i : Nat) : Pl.bound ρ ⟨i, none⟩ = bndS ρ[i]? := by
  unfold Pl.bound
  cases ρ[i]? with
  | none => rfl
  | some s => cases s <;> rfl
@[simp] theorem put_eq (i : Nat) (d : D) : Pl.put ρ ⟨i, none⟩ d = .ok (ρ.set i (.own d)) := (rfl)
def opK (p : Prim) : Ev (List D) → Ev D
  | .ok ds ρ => (evPrim p ds).at ρ
  | .exc c ρ => .exc c ρ
  | .stuck => .stuck
@[simp] theorem opK_ok (p : Prim) (ds : List D) (ρ : Rho) : opK p (.ok ds ρ) = (evPrim p ds).at ρ := (rfl)
@[simp] theorem opK_exc (p : Prim) (xc : Nat) (ρ : Rho) : opK p (.exc xc ρ) = .exc xc ρ := (rfl)
def callK (q : En) (f : Nat) (as : List P) : Ev (List D) → Ev D
  | .ok ds ρ => callE as ρ (q.F f ds)
  | .exc c ρ => .exc c ρ
  | .stuck => .stuck
@[simp] theorem callK_ok (q : En) (f : Nat) (as : List P) (ds : List D) (ρ : Rho) : callK q f as (.ok ds ρ) = callE as ρ (q.F f ds) := (rfl)
@[simp] theorem callK_exc (q : En) (f : Nat) (as : List P) (xc : Nat) (ρ : Rho) : callK q f as (.exc xc ρ) = .exc xc ρ := (rfl)
def blR (ρ : Rho) : R Bool → Ev D
  | .ok k => .ok (.bl k) ρ
  | .stuck => .stuck
@[simp] theorem blR_ok (ρ : Rho) (k : Bool) : blR ρ (.ok k) = .ok (.bl k) ρ := (rfl)
def blK  : Ev D → Ev D
  | .ok x ρ => blR ρ (asB x)
  | .exc c ρ => .exc c ρ
  | .stuck => .stuck
@[simp] theorem blK_ok  (x : D) (ρ : Rho) : blK  (.ok x ρ) = blR ρ (asB x) := (rfl)
@[simp] theorem blK_exc  (xc : Nat) (ρ : Rho) : blK  (.exc xc ρ) = .exc xc ρ := (rfl)
def andR (q : En) (b : P) (ρ : Rho) : R Bool → Ev D
  | .ok k => if k then blK (evP q b ρ) else .ok (.bl false) ρ
  | .stuck => .stuck
@[simp] theorem andR_ok (q : En) (b : P) (ρ : Rho) (k : Bool) : andR q b ρ (.ok k) = if k then blK (evP q b ρ) else .ok (.bl false) ρ := (rfl)
def andK (q : En) (b : P) : Ev D → Ev D
  | .ok x ρ => andR q b ρ (asB x)
  | .exc c ρ => .exc c ρ
  | .stuck => .stuck
@[simp] theorem andK_ok (q : En) (b : P) (x : D) (ρ : Rho) : andK q b (.ok x ρ) = andR q b ρ (asB x) := (rfl)
@[simp] theorem andK_exc (q : En) (b : P) (xc : Nat) (ρ : Rho) : andK q b (.exc xc ρ) = .exc xc ρ := (rfl)
def orR (q : En) (b : P) (ρ : Rho) : R Bool → Ev D
  | .ok k => if k then .ok (.bl true) ρ else blK (evP q b ρ)
  | .stuck => .stuck
@[simp] theorem orR_ok (q : En) (b : P) (ρ : Rho) (k : Bool) : orR q b ρ (.ok k) = if k then .ok (.bl true) ρ else blK (evP q b ρ) := (rfl)
def orK (q : En) (b : P) : Ev D → Ev D
  | .ok x ρ => orR q b ρ (asB x)
  | .exc c ρ => .exc c ρ
  | .stuck => .stuck
@[simp] theorem orK_ok (q : En) (b : P) (x : D) (ρ : Rho) : orK q b (.ok x ρ) = orR q b ρ (asB x) := (rfl)
@[simp] theorem orK_exc (q : En) (b : P) (xc : Nat) (ρ : Rho) : orK q b (.exc xc ρ) = .exc xc ρ := (rfl)
def notR_ (ρ : Rho) : R Bool → Ev D
  | .ok k => .ok (.bl (!k)) ρ
  | .stuck => .stuck
@[simp] theorem notR__ok (ρ : Rho) (k : Bool) : notR_ ρ (.ok k) = .ok (.bl (!k)) ρ := (rfl)
def notK  : Ev D → Ev D
  | .ok x ρ => notR_ ρ (asB x)
  | .exc c ρ => .exc c ρ
  | .stuck => .stuck
@[simp] theorem notK_ok  (x : D) (ρ : Rho) : notK  (.ok x ρ) = notR_ ρ (asB x) := (rfl)
@[simp] theorem notK_exc  (xc : Nat) (ρ : Rho) : notK  (.exc xc ρ) = .exc xc ρ := (rfl)
def entR (ρ : Rho) : R Int → Ev D
  | .ok i => .ok (.int i) ρ
  | .stuck => .stuck
@[simp] theorem entR_ok (ρ : Rho) (i : Int) : entR ρ (.ok i) = .ok (.int i) ρ := (rfl)
def entK  : Ev D → Ev D
  | .ok x ρ => entR ρ (asI x)
  | .exc c ρ => .exc c ρ
  | .stuck => .stuck
@[simp] theorem entK_ok  (x : D) (ρ : Rho) : entK  (.ok x ρ) = entR ρ (asI x) := (rfl)
@[simp] theorem entK_exc  (xc : Nat) (ρ : Rho) : entK  (.exc xc ρ) = .exc xc ρ := (rfl)
def iteR (q : En) (a : P) (b : P) (ρ : Rho) : R Bool → Ev D
  | .ok k => if k then evP q a ρ else evP q b ρ
  | .stuck => .stuck
@[simp] theorem iteR_ok (q : En) (a : P) (b : P) (ρ : Rho) (k : Bool) : iteR q a b ρ (.ok k) = if k then evP q a ρ else evP q b ρ := (rfl)
def iteK (q : En) (a : P) (b : P) : Ev D → Ev D
  | .ok x ρ => iteR q a b ρ (asB x)
  | .exc c ρ => .exc c ρ
  | .stuck => .stuck
@[simp] theorem iteK_ok (q : En) (a : P) (b : P) (x : D) (ρ : Rho) : iteK q a b (.ok x ρ) = iteR q a b ρ (asB x) := (rfl)
@[simp] theorem iteK_exc (q : En) (a : P) (b : P) (xc : Nat) (ρ : Rho) : iteK q a b (.exc xc ρ) = .exc xc ρ := (rfl)
def blRR (ρ : Rho) : R D → Ev D
  | .ok z => blR ρ (asB z)
  | .stuck => .stuck
@[simp] theorem blRR_ok (ρ : Rho) (z : D) : blRR ρ (.ok z) = blR ρ (asB z) := (rfl)
def ch4 (o' : Prim) (y : D) : Ev D → Ev D
  | .ok w ρ => blRR ρ (evPrim o' [y, w])
  | .exc c ρ => .exc c ρ
  | .stuck => .stuck
@[simp] theorem ch4_ok (o' : Prim) (y : D) (w : D) (ρ : Rho) : ch4 o' y (.ok w ρ) = blRR ρ (evPrim o' [y, w]) := (rfl)
@[simp] theorem ch4_exc (o' : Prim) (y : D) (xc : Nat) (ρ : Rho) : ch4 o' y (.exc xc ρ) = .exc xc ρ := (rfl)
def ch3 (q : En) (o' : Prim) (c : P) (y : D) (ρ : Rho) : R Bool → Ev D
  | .ok k => if k then ch4 o' y (evP q c ρ) else .ok (.bl false) ρ
  | .stuck => .stuck
@[simp] theorem ch3_ok (q : En) (o' : Prim) (c : P) (y : D) (ρ : Rho) (k : Bool) : ch3 q o' c y ρ (.ok k) = if k then ch4 o' y (evP q c ρ) else .ok (.bl false) ρ := (rfl)
def ch2 (q : En) (o' : Prim) (c : P) (y : D) (ρ : Rho) : R D → Ev D
  | .ok z => ch3 q o' c y ρ (asB z)
  | .stuck => .stuck
@[simp] theorem ch2_ok (q : En) (o' : Prim) (c : P) (y : D) (ρ : Rho) (z : D) : ch2 q o' c y ρ (.ok z) = ch3 q o' c y ρ (asB z) := (rfl)
def ch1 (q : En) (o : Prim) (o' : Prim) (c : P) (x : D) : Ev D → Ev D
  | .ok y ρ => ch2 q o' c y ρ (evPrim o [x, y])
  | .exc c ρ => .exc c ρ
  | .stuck => .stuck
@[simp] theorem ch1_ok (q : En) (o : Prim) (o' : Prim) (c : P) (x : D) (y : D) (ρ : Rho) : ch1 q o o' c x (.ok y ρ) = ch2 q o' c y ρ (evPrim o [x, y]) := (rfl)
@[simp] theorem ch1_exc (q : En) (o : Prim) (o' : Prim) (c : P) (x : D) (xc : Nat) (ρ : Rho) : ch1 q o o' c x (.exc xc ρ) = .exc xc ρ := (rfl)
def ch0 (q : En) (o : Prim) (o' : Prim) (b : P) (c : P) : Ev D → Ev D
  | .ok x ρ => ch1 q o o' c x (evP q b ρ)
  | .exc c ρ => .exc c ρ
  | .stuck => .stuck
@[simp] theorem ch0_ok (q : En) (o : Prim) (o' : Prim) (b : P) (c : P) (x : D) (ρ : Rho) : ch0 q o o' b c (.ok x ρ) = ch1 q o o' c x (evP q b ρ) := (rfl)
@[simp] theorem ch0_exc (q : En) (o : Prim) (o' : Prim) (b : P) (c : P) (xc : Nat) (ρ : Rho) : ch0 q o o' b c (.exc xc ρ) = .exc xc ρ := (rfl)
def mutP (p : Pl) (ρ : Rho) : R (D × D) → Ev D
  | .ok r => ((p.put ρ r.2).at ρ).bind fun ρ _ => .ok r.1 ρ
  | .stuck => .stuck
@[simp] theorem mutP_ok (p : Pl) (ρ : Rho) (r : (D × D)) : mutP p ρ (.ok r) = ((p.put ρ r.2).at ρ).bind fun ρ _ => .ok r.1 ρ := (rfl)
def mutT (m : Mut) (p : Pl) (ds : List D) : R (D × Rho) → Ev D
  | .ok dr => mutP p dr.2 (evMut m dr.1 ds)
  | .stuck => .stuck
@[simp] theorem mutT_ok (m : Mut) (p : Pl) (ds : List D) (dr : (D × Rho)) : mutT m p ds (.ok dr) = mutP p dr.2 (evMut m dr.1 ds) := (rfl)
def mutK (m : Mut) (p : Pl) : Ev (List D) → Ev D
  | .ok ds ρ => mutT m p ds (p.take ρ)
  | .exc c ρ => .exc c ρ
  | .stuck => .stuck
@[simp] theorem mutK_ok (m : Mut) (p : Pl) (ds : List D) (ρ : Rho) : mutK m p (.ok ds ρ) = mutT m p ds (p.take ρ) := (rfl)
@[simp] theorem mutK_exc (m : Mut) (p : Pl) (xc : Nat) (ρ : Rho) : mutK m p (.exc xc ρ) = .exc xc ρ := (rfl)
def mutL (q : En) (m : Mut) (p : Pl) (as : List P) (ρ : Rho) : R D → Ev D
  | .ok x => if isLst x then mutK m p (evAs q as ρ) else .stuck
  | .stuck => .stuck
@[simp] theorem mutL_ok (q : En) (m : Mut) (p : Pl) (as : List P) (ρ : Rho) (x : D) : mutL q m p as ρ (.ok x) = if isLst x then mutK m p (evAs q as ρ) else .stuck := (rfl)
@[simp] theorem mutP_n (i : Nat) (ρ : Rho) (r : D × D) : mutP ⟨i, none⟩ ρ (.ok r) = .ok r.1 (ρ.set i (.own r.2)) := (rfl)
def metK (m : Met) (x : D) : Ev (List D) → Ev D
  | .ok ds ρ => (evMet m (x :: ds)).at ρ
  | .exc c ρ => .exc c ρ
  | .stuck => .stuck
@[simp] theorem metK_ok (m : Met) (x : D) (ds : List D) (ρ : Rho) : metK m x (.ok ds ρ) = (evMet m (x :: ds)).at ρ := (rfl)
@[simp] theorem metK_exc (m : Met) (x : D) (xc : Nat) (ρ : Rho) : metK m x (.exc xc ρ) = .exc xc ρ := (rfl)
def metV (q : En) (m : Met) (as : List P) : Ev D → Ev D
  | .ok x ρ => if recvOk m x then metK m x (evAs q as ρ) else .stuck
  | .exc c ρ => .exc c ρ
  | .stuck => .stuck
@[simp] theorem metV_ok (q : En) (m : Met) (as : List P) (x : D) (ρ : Rho) : metV q m as (.ok x ρ) = if recvOk m x then metK m x (evAs q as ρ) else .stuck := (rfl)
@[simp] theorem metV_exc (q : En) (m : Met) (as : List P) (xc : Nat) (ρ : Rho) : metV q m as (.exc xc ρ) = .exc xc ρ := (rfl)
def metB2 (m : Met) (ds : List D) (ρ : Rho) : R D → Ev D
  | .ok x => (evMet m (x :: ds)).at ρ
  | .stuck => .stuck
@[simp] theorem metB2_ok (m : Met) (ds : List D) (ρ : Rho) (x : D) : metB2 m ds ρ (.ok x) = (evMet m (x :: ds)).at ρ := (rfl)
def metBK (m : Met) (p : Pl) : Ev (List D) → Ev D
  | .ok ds ρ => metB2 m ds ρ (p.look ρ)
  | .exc c ρ => .exc c ρ
  | .stuck => .stuck
@[simp] theorem metBK_ok (m : Met) (p : Pl) (ds : List D) (ρ : Rho) : metBK m p (.ok ds ρ) = metB2 m ds ρ (p.look ρ) := (rfl)
@[simp] theorem metBK_exc (m : Met) (p : Pl) (xc : Nat) (ρ : Rho) : metBK m p (.exc xc ρ) = .exc xc ρ := (rfl)
def metB (q : En) (m : Met) (p : Pl) (as : List P) (ρ : Rho) : R D → Ev D
  | .ok x => if recvOk m x then metBK m p (evAs q as ρ) else .stuck
  | .stuck => .stuck
@[simp] theorem metB_ok (q : En) (m : Met) (p : Pl) (as : List P) (ρ : Rho) (x : D) : metB q m p as ρ (.ok x) = if recvOk m x then metBK m p (evAs q as ρ) else .stuck := (rfl)
def consK2 (d : D) : Ev (List D) → Ev (List D)
  | .ok ds ρ => .ok (d :: ds) ρ
  | .exc c ρ => .exc c ρ
  | .stuck => .stuck
@[simp] theorem consK2_ok (d : D) (ds : List D) (ρ : Rho) : consK2 d (.ok ds ρ) = .ok (d :: ds) ρ := (rfl)
@[simp] theorem consK2_exc (d : D) (xc : Nat) (ρ : Rho) : consK2 d (.exc xc ρ) = .exc xc ρ := (rfl)
def consK (q : En) (es : List P) : Ev D → Ev (List D)
  | .ok x ρ => consK2 x (evAs q es ρ)
  | .exc c ρ => .exc c ρ
  | .stuck => .stuck
@[simp] theorem consK_ok (q : En) (es : List P) (x : D) (ρ : Rho) : consK q es (.ok x ρ) = consK2 x (evAs q es ρ) := (rfl)
@[simp] theorem consK_exc (q : En) (es : List P) (xc : Nat) (ρ : Rho) : consK q es (.exc xc ρ) = .exc xc ρ := (rfl)
def consB (ds : List D) (ρ : Rho) : R D → Ev (List D)
  | .ok d => .ok (d :: ds) ρ
  | .stuck => .stuck
@[simp] theorem consB_ok (ds : List D) (ρ : Rho) (d : D) : consB ds ρ (.ok d) = .ok (d :: ds) ρ := (rfl)
def consBK (p : Pl) : Ev (List D) → Ev (List D)
  | .ok ds ρ => consB ds ρ (p.look ρ)
  | .exc c ρ => .exc c ρ
  | .stuck => .stuck
@[simp] theorem consBK_ok (p : Pl) (ds : List D) (ρ : Rho) : consBK p (.ok ds ρ) = consB ds ρ (p.look ρ) := (rfl)
@[simp] theorem consBK_exc (p : Pl) (xc : Nat) (ρ : Rho) : consBK p (.exc xc ρ) = .exc xc ρ := (rfl)
def consI (ds : List D) : R (D × Rho) → Ev (List D)
  | .ok dr => .ok (dr.1 :: ds) dr.2
  | .stuck => .stuck
@[simp] theorem consI_ok (ds : List D) (dr : (D × Rho)) : consI ds (.ok dr) = .ok (dr.1 :: ds) dr.2 := (rfl)
def consIK (p : Pl) : Ev (List D) → Ev (List D)
  | .ok ds ρ => consI ds (p.take ρ)
  | .exc c ρ => .exc c ρ
  | .stuck => .stuck
@[simp] theorem consIK_ok (p : Pl) (ds : List D) (ρ : Rho) : consIK p (.ok ds ρ) = consI ds (p.take ρ) := (rfl)
@[simp] theorem consIK_exc (p : Pl) (xc : Nat) (ρ : Rho) : consIK p (.exc xc ρ) = .exc xc ρ := (rfl)
def nxR  : R Rho → O
  | .ok ρ => .nx ρ
  | .stuck => .stuck
@[simp] theorem nxR_ok  (ρ : Rho) : nxR  (.ok ρ) = .nx ρ := (rfl)
def asgK (t : Tg) : Ev D → O
  | .ok x ρ => nxR (setT t x ρ)
  | .exc c ρ => .exc c ρ
  | .stuck => .stuck
@[simp] theorem asgK_ok (t : Tg) (x : D) (ρ : Rho) : asgK t (.ok x ρ) = nxR (setT t x ρ) := (rfl)
@[simp] theorem asgK_exc (t : Tg) (xc : Nat) (ρ : Rho) : asgK t (.exc xc ρ) = .exc xc ρ := (rfl)
def ownK (i : Nat) : Ev D → O
  | .ok x ρ => if isCon x then .nx (ρ.set i (.own x)) else .stuck
  | .exc c ρ => .exc c ρ
  | .stuck => .stuck
@[simp] theorem ownK_ok (i : Nat) (x : D) (ρ : Rho) : ownK i (.ok x ρ) = if isCon x then .nx (ρ.set i (.own x)) else .stuck := (rfl)
@[simp] theorem ownK_exc (i : Nat) (xc : Nat) (ρ : Rho) : ownK i (.exc xc ρ) = .exc xc ρ := (rfl)
def setP (p : Pl) (ρ : Rho) : R D → O
  | .ok d => nxR (p.put ρ d)
  | .stuck => .stuck
@[simp] theorem setP_ok (p : Pl) (ρ : Rho) (d : D) : setP p ρ (.ok d) = nxR (p.put ρ d) := (rfl)
def setTk (p : Pl) (k : D) (v : D) : R (D × Rho) → O
  | .ok dr => setP p dr.2 (evSet dr.1 k v)
  | .stuck => .stuck
@[simp] theorem setTk_ok (p : Pl) (k : D) (v : D) (dr : (D × Rho)) : setTk p k v (.ok dr) = setP p dr.2 (evSet dr.1 k v) := (rfl)
def setK2 (p : Pl) (v : D) : Ev D → O
  | .ok k ρ => setTk p k v (p.take ρ)
  | .exc c ρ => .exc c ρ
  | .stuck => .stuck
@[simp] theorem setK2_ok (p : Pl) (v : D) (k : D) (ρ : Rho) : setK2 p v (.ok k ρ) = setTk p k v (p.take ρ) := (rfl)
@[simp] theorem setK2_exc (p : Pl) (v : D) (xc : Nat) (ρ : Rho) : setK2 p v (.exc xc ρ) = .exc xc ρ := (rfl)
def setK (q : En) (p : Pl) (kk : P) : Ev D → O
  | .ok v ρ => if p.bound ρ then setK2 p v (evP q kk ρ) else .stuck
  | .exc c ρ => .exc c ρ
  | .stuck => .stuck
@[simp] theorem setK_ok (q : En) (p : Pl) (kk : P) (v : D) (ρ : Rho) : setK q p kk (.ok v ρ) = if p.bound ρ then setK2 p v (evP q kk ρ) else .stuck := (rfl)
@[simp] theorem setK_exc (q : En) (p : Pl) (kk : P) (xc : Nat) (ρ : Rho) : setK q p kk (.exc xc ρ) = .exc xc ρ := (rfl)
def dropK  : Ev D → O
  | .ok x ρ => .nx ρ
  | .exc c ρ => .exc c ρ
  | .stuck => .stuck
@[simp] theorem dropK_ok  (x : D) (ρ : Rho) : dropK  (.ok x ρ) = .nx ρ := (rfl)
@[simp] theorem dropK_exc  (xc : Nat) (ρ : Rho) : dropK  (.exc xc ρ) = .exc xc ρ := (rfl)
def ifsR (q : En) (a : List S) (b : List S) (ρ : Rho) : R Bool → O
  | .ok k => if k then evSs q a ρ else evSs q b ρ
  | .stuck => .stuck
@[simp] theorem ifsR_ok (q : En) (a : List S) (b : List S) (ρ : Rho) (k : Bool) : ifsR q a b ρ (.ok k) = if k then evSs q a ρ else evSs q b ρ := (rfl)
def ifsK (q : En) (a : List S) (b : List S) : Ev D → O
  | .ok x ρ => ifsR q a b ρ (asB x)
  | .exc c ρ => .exc c ρ
  | .stuck => .stuck
@[simp] theorem ifsK_ok (q : En) (a : List S) (b : List S) (x : D) (ρ : Rho) : ifsK q a b (.ok x ρ) = ifsR q a b ρ (asB x) := (rfl)
@[simp] theorem ifsK_exc (q : En) (a : List S) (b : List S) (xc : Nat) (ρ : Rho) : ifsK q a b (.exc xc ρ) = .exc xc ρ := (rfl)
def forB1 (q : En) (b : List S) : R Rho → O
  | .ok ρ => evSs q b ρ
  | .stuck => .stuck
@[simp] theorem forB1_ok (b : List S) : forB1 q b (.ok ρ) = evSs q b ρ := (rfl)
/-- a for's turn -/
def forB (q : En) (t : Tg) (b : List S) (x : D) (ρ : Rho) : O := forB1 q b (setT t x ρ)
def forI2 (q : En) (t : Tg) (b : List S) (xs : List D) : R (Option (Pl × D) × Rho) → O
  | .ok l => (forL (forB q t b) xs l.2).back l.1
  | .stuck => .stuck
@[simp] theorem forI2_ok (q : En) (t : Tg) (b : List S) (xs : List D) (l : (Option (Pl × D) × Rho)) : forI2 q t b xs (.ok l) = (forL (forB q t b) xs l.2).back l.1 := (rfl)
def forI (q : En) (t : Tg) (it : P) (b : List S) (ρ : Rho) : R (List D) → O
  | .ok xs => forI2 q t b xs (lendI ρ it)
  | .stuck => .stuck
@[simp] theorem forI_ok (q : En) (t : Tg) (it : P) (b : List S) (ρ : Rho) (xs : (List D)) : forI q t it b ρ (.ok xs) = forI2 q t b xs (lendI ρ it) := (rfl)
def forK (q : En) (t : Tg) (it : P) (b : List S) : Ev D → O
  | .ok x ρ => forI q t it b ρ (itemsOf x)
  | .exc c ρ => .exc c ρ
  | .stuck => .stuck
@[simp] theorem forK_ok (q : En) (t : Tg) (it : P) (b : List S) (x : D) (ρ : Rho) : forK q t it b (.ok x ρ) = forI q t it b ρ (itemsOf x) := (rfl)
@[simp] theorem forK_exc (q : En) (t : Tg) (it : P) (b : List S) (xc : Nat) (ρ : Rho) : forK q t it b (.exc xc ρ) = .exc xc ρ := (rfl)
def retK  : Ev D → O
  | .ok x ρ => .ret x ρ
  | .exc c ρ => .exc c ρ
  | .stuck => .stuck
@[simp] theorem retK_ok  (x : D) (ρ : Rho) : retK  (.ok x ρ) = .ret x ρ := (rfl)
@[simp] theorem retK_exc  (xc : Nat) (ρ : Rho) : retK  (.exc xc ρ) = .exc xc ρ := (rfl)
def whlC (q : En) (c : P) (ρ : Rho) : Ev Bool := (evP q c ρ).bind fun d ρ => (asB d).at ρ
def seqK (q : En) (ss : List S) : O → O
  | .nx ρ => evSs q ss ρ
  | .ret d ρ => .ret d ρ
  | .brk ρ => .brk ρ
  | .cont ρ => .cont ρ
  | .exc c ρ => .exc c ρ
  | .stuck => .stuck
@[simp] theorem seqK_nx (ss : List S) : seqK q ss (.nx ρ) = evSs q ss ρ := (rfl)
@[simp] theorem seqK_ret (ss : List S) (d : D) : seqK q ss (.ret d ρ) = .ret d ρ := (rfl)
@[simp] theorem seqK_brk (ss : List S) : seqK q ss (.brk ρ) = .brk ρ := (rfl)
@[simp] theorem seqK_cont (ss : List S) : seqK q ss (.cont ρ) = .cont ρ := (rfl)
@[simp] theorem seqK_exc (ss : List S) (c : Nat) : seqK q ss (.exc c ρ) = .exc c ρ := (rfl)
theorem bl_at {r : R D} {ρ : Rho} : (r.at ρ).bind (fun z ρ => ((asB z).at ρ).bind fun k ρ => Ev.ok (D.bl k) ρ) = blRR ρ r := by
  cases r with
  | stuck => rfl
  | ok z => cases z <;> rfl
theorem blK_eq (x : Ev D) : (x.bind fun y ρ => ((asB y).at ρ).bind fun k ρ => .ok (.bl k) ρ) = blK x := by
  cases x with
  | ok y ρ => cases y <;> rfl
  | exc c ρ => rfl
  | stuck => rfl
@[simp] theorem ev_cst (d : D) : evP q (.cst d) ρ = .ok d ρ := by rw [evP]
@[simp] theorem ev_var (i : Nat) : evP q (.var i) ρ = readV ρ i := by rw [evP]
@[simp] theorem ev_bor (p : Pl) : evP q (.bor p) ρ = (p.look ρ).at ρ := by rw [evP]
@[simp] theorem ev_op (p : Prim) (as : List P) : evP q (.op p as) ρ = opK p (evAs q as ρ) := by
  rw [evP]
  cases evAs q as ρ <;> rfl
@[simp] theorem ev_call (f : Nat) (as : List P) : evP q (.call f as) ρ = callK q f as (evAs q as ρ) := by
  rw [evP]
  cases evAs q as ρ <;> rfl
def callT2 (q : En) (f : Nat) (d : D) : Ev (List D) → Ev D
  | .ok es ρ => callTR (q.F f (d :: es)) ρ
  | .exc c ρ => .exc c ρ
  | .stuck => .stuck
def callT1 (q : En) (f : Nat) (as : List P) : Ev D → Ev D
  | .ok d ρ => if isCon d = true then callT2 q f d (evAs q as ρ) else .stuck
  | .exc c ρ => .exc c ρ
  | .stuck => .stuck
@[simp] theorem callT1_ok (q : En) (f : Nat) (as : List P) (xs : List D) (ρ : Rho) : callT1 q f as (.ok (.lst xs) ρ) = callT2 q f (.lst xs) (evAs q as ρ) := (rfl)
@[simp] theorem callT1_exc (q : En) (f : Nat) (as : List P) (c : Nat) (ρ : Rho) : callT1 q f as (.exc c ρ) = .exc c ρ := (rfl)
@[simp] theorem callT2_ok (q : En) (f : Nat) (d : D) (es : List D) (ρ : Rho) : callT2 q f d (.ok es ρ) = callTR (q.F f (d :: es)) ρ := (rfl)
@[simp] theorem callT2_exc (q : En) (f : Nat) (d : D) (c : Nat) (ρ : Rho) : callT2 q f d (.exc c ρ) = .exc c ρ := (rfl)
@[simp] theorem callTR_ok (d o : D) (ρ : Rho) : callTR (.ok d [o]) ρ = .ok d ρ := (rfl)
@[simp] theorem callTR_exc (c : Nat) (o : D) (ρ : Rho) : callTR (.exc c [o]) ρ = .exc c ρ := (rfl)
@[simp] theorem ev_callT (f : Nat) (l : P) (as : List P) : evP q (.callT f l as) ρ = callT1 q f as (evP q l ρ) := by
  rw [evP]
  cases evP q l ρ with
  | ok d ρ1 =>
    show (if isCon d = true then _ else _) = (if isCon d = true then _ else _)
    split
    · cases evAs q as ρ1 <;> rfl
    · rfl
  | exc c ρ1 => rfl
  | stuck => rfl
@[simp] theorem ev_and (a b : P) : evP q (.and a b) ρ = andK q b (evP q a ρ) := by
  rw [evP]
  cases evP q a ρ with
  | ok x ρ =>
    cases x with
    | bl k =>
      cases k with
      | true => exact blK_eq _
      | false => rfl
    | _ => rfl
  | exc c ρ => rfl
  | stuck => rfl
@[simp] theorem ev_or (a b : P) : evP q (.or a b) ρ = orK q b (evP q a ρ) := by
  rw [evP]
  cases evP q a ρ with
  | ok x ρ =>
    cases x with
    | bl k =>
      cases k with
      | true => rfl
      | false => exact blK_eq _
    | _ => rfl
  | exc c ρ => rfl
  | stuck => rfl
@[simp] theorem ev_not (a : P) : evP q (.not a) ρ = notK (evP q a ρ) := by
  rw [evP]
  cases evP q a ρ with
  | ok x ρ => cases x <;> rfl
  | exc c ρ => rfl
  | stuck => rfl
@[simp] theorem ev_ent (a : P) : evP q (.ent a) ρ = entK (evP q a ρ) := by
  rw [evP]
  cases evP q a ρ with
  | ok x ρ => cases x <;> rfl
  | exc c ρ => rfl
  | stuck => rfl
@[simp] theorem ev_ite (c a b : P) : evP q (.ite c a b) ρ = iteK q a b (evP q c ρ) := by
  rw [evP]
  cases evP q c ρ with
  | ok x ρ =>
    cases x with
    | bl k => cases k <;> rfl
    | _ => rfl
  | exc c ρ => rfl
  | stuck => rfl
@[simp] theorem ev_chain (o o' : Prim) (a b c : P) : evP q (.chain o o' a b c) ρ = ch0 q o o' b c (evP q a ρ) := by
  rw [evP]
  cases evP q a ρ with
  | ok x ρ =>
    show (evP q b ρ).bind _ = ch1 q o o' c x (evP q b ρ)
    cases evP q b ρ with
    | ok y ρ =>
      show ((evPrim o [x, y]).at ρ).bind _ = ch2 q o' c y ρ (evPrim o [x, y])
      cases evPrim o [x, y] with
      | stuck => rfl
      | ok z =>
        cases z with
        | bl k =>
          cases k with
          | false => rfl
          | true =>
            show (evP q c ρ).bind _ = ch4 o' y (evP q c ρ)
            cases evP q c ρ with
            | ok w ρ => exact bl_at
            | exc c ρ => rfl
            | stuck => rfl
        | _ => rfl
    | exc c ρ => rfl
    | stuck => rfl
  | exc c ρ => rfl
  | stuck => rfl
@[simp] theorem ev_dnew (t : Nat) : evP q (.dnew t) ρ = .ok (.dct t [] []) ρ := by rw [evP]
@[simp] theorem ev_xis (i c : Nat) : evP q (.xis i c) ρ = (evXis q c).at ρ := by rw [evP]
@[simp] theorem ev_mut (m : Mut) (p : Pl) (as : List P) : evP q (.mut m p as) ρ = mutL q m p as ρ (p.look ρ) := by
  rw [evP]
  cases p.look ρ with
  | stuck => rfl
  | ok x =>
    show (if isLst x then _ else _) = (if isLst x then _ else _)
    split
    · cases evAs q as ρ with
      | ok ds ρ =>
        show ((p.take ρ).at ρ).bind _ = mutT m p ds (p.take ρ)
        cases p.take ρ with
        | stuck => rfl
        | ok dr =>
          show ((evMut m dr.1 ds).at ρ).bind _ = mutP p dr.2 (evMut m dr.1 ds)
          cases evMut m dr.1 ds with
          | stuck => rfl
          | ok r =>
            show ((p.put dr.2 r.2).at ρ).bind _ = ((p.put dr.2 r.2).at dr.2).bind _
            cases p.put dr.2 r.2 <;> rfl
      | exc c ρ => rfl
      | stuck => rfl
    · rfl
theorem ev_met_v (m : Met) (r : P) (as : List P) (h : r.kd = .val) : evP q (.met m r as) ρ = metV q m as (evP q r ρ) := by
  rw [evP]
  simp only [h]
  cases evP q r ρ with
  | ok x ρ =>
    show (if recvOk m x then _ else _) = (if recvOk m x then _ else _)
    split
    · cases evAs q as ρ <;> rfl
    · rfl
  | exc c ρ => rfl
  | stuck => rfl
@[simp] theorem ev_met_c (m : Met) (d : D) (as : List P) : evP q (.met m (.cst d) as) ρ = metV q m as (.ok d ρ) := by rw [ev_met_v _ _ _ _ _ rfl, ev_cst]
@[simp] theorem ev_met_var (m : Met) (i : Nat) (as : List P) : evP q (.met m (.var i) as) ρ = metV q m as (readV ρ i) := by rw [ev_met_v _ _ _ _ _ rfl, ev_var]
@[simp] theorem ev_met_op (m : Met) (p : Prim) (bs : List P) (as : List P) : evP q (.met m (.op p bs) as) ρ = metV q m as (evP q (.op p bs) ρ) := ev_met_v _ _ _ _ _ rfl
@[simp] theorem ev_met_bor (m : Met) (p : Pl) (as : List P) : evP q (.met m (.bor p) as) ρ = metB q m p as ρ (p.look ρ) := by
  rw [evP]
  show ((p.look ρ).at ρ).bind _ = _
  cases p.look ρ with
  | stuck => rfl
  | ok x =>
    show (if recvOk m x then _ else _) = (if recvOk m x then _ else _)
    split
    · cases evAs q as ρ with
      | ok ds ρ =>
        show ((p.look ρ).at ρ).bind _ = metB2 m ds ρ (p.look ρ)
        cases p.look ρ <;> rfl
      | exc c ρ => rfl
      | stuck => rfl
    · rfl
@[simp] theorem ev_as_nil : evAs q [] ρ = .ok [] ρ := by rw [evAs]
@[simp] theorem ev_as_v (e : P) (es : List P) (h : e.kd = .val) : evAs q (e :: es) ρ = consK q es (evP q e ρ) := by
  rw [evAs]
  simp only [h]
  cases evP q e ρ with
  | ok d ρ =>
    show (evAs q es ρ).bind _ = consK2 d (evAs q es ρ)
    cases evAs q es ρ <;> rfl
  | exc c ρ => rfl
  | stuck => rfl
@[simp] theorem ev_as_b (p : Pl) (es : List P) : evAs q (.bor p :: es) ρ = if p.bound ρ then consBK p (evAs q es ρ) else .stuck := by
  rw [evAs]
  show (if p.bound ρ then _ else _) = _
  split
  · cases evAs q es ρ with
    | ok ds ρ =>
      show ((p.look ρ).at ρ).bind _ = consB ds ρ (p.look ρ)
      cases p.look ρ <;> rfl
    | exc c ρ => rfl
    | stuck => rfl
  · rfl
@[simp] theorem ev_as_i (p : Pl) (es : List P) : evAs q (.io p :: es) ρ = if p.bound ρ then consIK p (evAs q es ρ) else .stuck := by
  rw [evAs]
  show (if p.bound ρ then _ else _) = _
  split
  · cases evAs q es ρ with
    | ok ds ρ =>
      show ((p.take ρ).at ρ).bind _ = consI ds (p.take ρ)
      cases p.take ρ <;> rfl
    | exc c ρ => rfl
    | stuck => rfl
  · rfl
@[simp] theorem ev_s_asg (t : Tg) (e : P) : evS q (.asg t e) ρ = asgK t (evP q e ρ) := by
  rw [evS]
  cases evP q e ρ with
  | ok d ρ =>
    show ((setT t d ρ).at ρ).thn _ = nxR (setT t d ρ)
    cases setT t d ρ <;> rfl
  | exc c ρ => rfl
  | stuck => rfl
@[simp] theorem ev_s_own (i : Nat) (e : P) : evS q (.own i e) ρ = ownK i (evP q e ρ) := by
  rw [evS]
  cases evP q e ρ <;> rfl
def parK (i j : Nat) : Ev (List D) → O
  | .ok ds ρ => parR i j ds ρ
  | .exc c ρ => .exc c ρ
  | .stuck => .stuck
@[simp] theorem parK_ok (i j : Nat) (x y : D) (ρ : Rho) : parK i j (.ok [x, y] ρ) = .nx ((ρ.set i (.fz x)).set j (.fz y)) := (rfl)
@[simp] theorem parK_exc (i j xc : Nat) (ρ : Rho) : parK i j (.exc xc ρ) = .exc xc ρ := (rfl)
@[simp] theorem ev_s_par (i j : Nat) (a b : P) : evS q (.par i j a b) ρ = parK i j (evAs q [a, b] ρ) := by
  rw [evS]
  cases evAs q [a, b] ρ <;> rfl
@[simp] theorem ev_s_set (p : Pl) (k v : P) : evS q (.set p k v) ρ = setK q p k (evP q v ρ) := by
  rw [evS]
  cases evP q v ρ with
  | ok x ρ =>
    show (if p.bound ρ then _ else _) = (if p.bound ρ then _ else _)
    split
    · cases evP q k ρ with
      | ok kd ρ =>
        show ((p.take ρ).at ρ).thn _ = setTk p kd x (p.take ρ)
        cases p.take ρ with
        | stuck => rfl
        | ok dr =>
          show ((evSet dr.1 kd x).at ρ).thn _ = setP p dr.2 (evSet dr.1 kd x)
          cases evSet dr.1 kd x with
          | stuck => rfl
          | ok d =>
            show ((p.put dr.2 d).at ρ).thn _ = nxR (p.put dr.2 d)
            cases p.put dr.2 d <;> rfl
      | exc c ρ => rfl
      | stuck => rfl
    · rfl
  | exc c ρ => rfl
  | stuck => rfl
@[simp] theorem ev_s_drop (e : P) : evS q (.drop e) ρ = dropK (evP q e ρ) := by
  rw [evS]
  cases evP q e ρ <;> rfl
@[simp] theorem ev_s_ifs (c : P) (a b : List S) : evS q (.ifs c a b) ρ = ifsK q a b (evP q c ρ) := by
  rw [evS]
  cases evP q c ρ with
  | ok x ρ => cases x <;> rfl
  | exc c ρ => rfl
  | stuck => rfl
@[simp] theorem ev_s_for (t : Tg) (it : P) (b : List S) : evS q (.for t it b) ρ = forK q t it b (evP q it ρ) := by
  rw [evS]
  cases evP q it ρ with
  | ok x ρ =>
    show ((itemsOf x).at ρ).thn _ = forI q t it b ρ (itemsOf x)
    cases itemsOf x with
    | stuck => rfl
    | ok xs =>
      show ((lendI ρ it).at ρ).thn _ = forI2 q t b xs (lendI ρ it)
      cases lendI ρ it with
      | stuck => rfl
      | ok l =>
        have : (fun x ρ => ((setT t x ρ).at ρ).thn fun ρ _ => evSs q b ρ) = forB q t b := by
          funext x ρ
          unfold forB
          cases setT t x ρ <;> rfl
        show (forL (fun x ρ => ((setT t x ρ).at ρ).thn fun ρ _ => evSs q b ρ) xs l.2).back l.1 = (forL (forB q t b) xs l.2).back l.1
        rw [this]
  | exc c ρ => rfl
  | stuck => rfl
@[simp] theorem ev_s_whl (n : Nat) (c : P) (b : List S) : evS q (.whl n c b) ρ = whlL (whlC q c) (evSs q b) n ρ := by
  rw [evS]
  rfl
@[simp] theorem ev_s_ret (e : P) : evS q (.ret e) ρ = retK (evP q e ρ) := by
  rw [evS]
  cases evP q e ρ <;> rfl
@[simp] theorem ev_s_retN : evS q .retN ρ = .ret .non ρ := by rw [evS]
@[simp] theorem ev_s_brk : evS q .brk ρ = .brk ρ := by rw [evS]
@[simp] theorem ev_s_cont : evS q .cont ρ = .cont ρ := by rw [evS]
@[simp] theorem ev_s_pas : evS q .pas ρ = .nx ρ := by rw [evS]
@[simp] theorem ev_s_rai (c : Nat) : evS q (.rai c) ρ = .exc c ρ := by rw [evS]
@[simp] theorem ev_ss_nil : evSs q [] ρ = .nx ρ := by rw [evSs]
@[simp] theorem ev_ss (s : S) (ss : List S) : evSs q (s :: ss) ρ = seqK q ss (evS q s ρ) := by
  rw [evSs]
  cases evS q s ρ <;> rfl
end
@[simp] theorem setT_v (i : Nat) (d : D) (ρ : Rho) : setT (.v i) d ρ = .ok (ρ.set i (.fz d)) := (rfl)
@[simp] theorem asB_bl (b : Bool) : asB (.bl b) = .ok b := (rfl)
@[simp] theorem asI_int (i : Int) : asI (.int i) = .ok i := (rfl)
@[simp] theorem items_tup (xs : List D) : itemsOf (.tup xs) = .ok xs := (rfl)
@[simp] theorem items_lst (xs : List D) : itemsOf (.lst xs) = .ok xs := (rfl)
@[simp] theorem items_scr (ns : List Int) : itemsOf (.scr ns) = .ok (ns.map D.int) := (rfl)
@[simp] theorem back_none (o : O) : o.back none = o := by cases o <;> rfl
@[simp] theorem lend_val (ρ : Rho) (e : P) (h : e.kd = .val) : lendI ρ e = .ok (none, ρ) := by cases e <;> first | rfl | cases h
/-- no argument is lent -/
def noLend : List P → Bool
  | [] => true
  | .io _ :: _ => false
  | _ :: es => noLend es
@[simp] theorem noLend_nil : noLend [] = true := (rfl)
@[simp] theorem noLend_b (p : Pl) (es : List P) : noLend (.bor p :: es) = noLend es := (rfl)
@[simp] theorem noLend_v (e : P) (es : List P) (h : e.kd = .val) : noLend (e :: es) = noLend es := by
  cases e <;> first | rfl | cases h
@[simp] theorem callE_ok (es : List P) (ρ : Rho) (d : D) (h : noLend es = true) : callE es ρ (.ok d []) = .ok d ρ := by
  have : ∀ es : List P, noLend es = true → ∀ ρ, putBack es [] ρ = .ok ρ := by
    intro es
    induction es with
    | nil => intro _ ρ; rfl
    | cons e es ih =>
      intro h ρ
      cases e <;> first | (simp [noLend] at h; done) | (simp only [noLend] at h; simp only [putBack]; exact ih h ρ)
  simp only [callE, this es h ρ, R.at_ok, Ev.bind_ok]
@[simp] theorem callE_exc (es : List P) (ρ : Rho) (c : Nat) (h : noLend es = true) : callE es ρ (.exc c []) = .exc c ρ := by
  have : ∀ es : List P, noLend es = true → ∀ ρ, putBack es [] ρ = .ok ρ := by
    intro es
    induction es with
    | nil => intro _ ρ; rfl
    | cons e es ih =>
      intro h ρ
      cases e <;> first | (simp [noLend] at h; done) | (simp only [noLend] at h; simp only [putBack]; exact ih h ρ)
  simp only [callE, this es h ρ, R.at_ok, Ev.bind_ok]
@[simp] theorem O.fin_nx (ρ : Rho) : (O.nx ρ).fin [] = .ok .non [] := (rfl)
@[simp] theorem O.fin_ret (d : D) (ρ : Rho) : (O.ret d ρ).fin [] = .ok d [] := (rfl)
@[simp] theorem O.fin_exc (c : Nat) (ρ : Rho) : (O.exc c ρ).fin [] = .exc c [] := (rfl)
/-- a call, unfolded -/
theorem runD_eq {su : Subs} {Ps : Nat → Option Df} {n f : Nat} {df : Df} {ds : List D} (h : Ps f = some df) (hl : ds.length = df.np) :
    runD su Ps (n + 1) f ds = (evSs ⟨su, runD su Ps n, none⟩ df.body (startR df.io 0 ds ++ List.replicate (df.N.length - df.np) Sl.un)).fin df.io := by
  rw [runD]
  simp only [h]
  rw [if_pos hl]
/-! operations, by their kinds -/
theorem len_app (a b : Str) : (a ++ b).length = a.length + b.length := by
  show (a.cps ++ b.cps).size = _
  simp [Str.length]
@[simp] theorem pr_add_int (a b : Int) : evPrim .add [.int a, .int b] = .ok (.int (a + b)) := (rfl)
@[simp] theorem pr_add_str (a b : Str) (h : a.length + b.length ≤ 16777216) : evPrim .add [.str a, .str b] = .ok (.str (a ++ b)) := by
  show okIf (decide (a.length + b.length ≤ sizeLine)) _ = _
  rw [decide_eq_true (show a.length + b.length ≤ sizeLine from h)]; rfl
@[simp] theorem pr_add_tup (a b : List D) (h : a.length + b.length ≤ 16777216) : evPrim .add [.tup a, .tup b] = .ok (.tup (a ++ b)) := by
  show okIf (decide (a.length + b.length ≤ sizeLine)) _ = _
  rw [decide_eq_true (show a.length + b.length ≤ sizeLine from h)]; rfl
@[simp] theorem pr_add_lst (a b : List D) (h : a.length + b.length ≤ 16777216) : evPrim .add [.lst a, .lst b] = .ok (.lst (a ++ b)) := by
  show okIf (decide (a.length + b.length ≤ sizeLine)) _ = _
  rw [decide_eq_true (show a.length + b.length ≤ sizeLine from h)]; rfl
@[simp] theorem pr_sub (a b : Int) : evPrim .sub [.int a, .int b] = .ok (.int (a - b)) := (rfl)
theorem small_of {a : Int} (h : a.natAbs < 2 ^ 250) : small a = true := by
  unfold small
  exact decide_eq_true (Nat.lt_of_lt_of_le h (Nat.pow_le_pow_right (by decide) (by decide)))
@[simp] theorem pr_mul (a b : Int) (ha : a.natAbs < 2 ^ 250) (hb : b.natAbs < 2 ^ 250) : evPrim .mul [.int a, .int b] = .ok (.int (a * b)) := by
  simp only [evPrim, evMul, okIf, small_of ha, small_of hb, Bool.and_self, Bool.true_or, if_true]
@[simp] theorem pr_mulR (a b : Int) (hb : b.natAbs < 2 ^ 60) : evPrim .mul [.int a, .int b] = .ok (.int (a * b)) := by
  simp only [evPrim, evMul, okIf, decide_eq_true hb, Bool.or_true, if_true]
@[simp] theorem pr_lrg (b : Int) (h0 : 0 ≤ b) (h1 : b ≤ 16777216) : evPrim .lrg [.int b] = .ok (.lst (rngD 0 b)) := by
  show okIf (decide (0 ≤ b) && decide (b ≤ 16777216)) (.lst (rngD 0 b)) = _
  rw [decide_eq_true h0, decide_eq_true h1]; rfl
@[simp] theorem pr_zipT (xs ys : List D) : evPrim .zip2 [.tup xs, .tup ys] = .ok (.lst (zipD xs ys)) := (rfl)
@[simp] theorem pr_zipL (xs ys : List D) : evPrim .zip2 [.lst xs, .lst ys] = .ok (.lst (zipD xs ys)) := (rfl)
theorem zipD_map {α : Type} (f g : α → D) : ∀ L : List α, zipD (L.map f) (L.map g) = L.map fun x => .tup [f x, g x]
  | [] => rfl
  | x :: L => by
    have := zipD_map f g L
    unfold zipD at this ⊢
    simp [this]
@[simp] theorem pr_mul_str (z : Str) (k : Int) (h1 : z.length ≤ 1000) (h2 : -1000 ≤ k) (h3 : k ≤ 4000) : evPrim .mul [.str z, .int k] = .ok (.str (Txt.mul z k)) := by
  simp only [evPrim, evMul, okIf, h1, h2, h3, decide_true, Bool.and_self, if_true]
@[simp] theorem pr_mul_lst (xs : List D) (k : Int) (h1 : xs.length ≤ 1000) (h2 : -1000 ≤ k) (h3 : k ≤ 1000) : evPrim .mul [.lst xs, .int k] = .ok (.lst (List.replicate k.toNat xs).flatten) := by
  simp only [evPrim, evMul, okIf, h1, h2, h3, decide_true, Bool.and_self, if_true]
@[simp] theorem pr_mul_tup (xs : List D) (k : Int) (h1 : xs.length ≤ 1000) (h2 : -1000 ≤ k) (h3 : k ≤ 1000) : evPrim .mul [.tup xs, .int k] = .ok (.tup (List.replicate k.toNat xs).flatten) := by
  simp only [evPrim, evMul, okIf, h1, h2, h3, decide_true, Bool.and_self, if_true]
@[simp] theorem pr_fdiv (a b : Int) (h : 0 < b) (hb : b.natAbs < 2 ^ 250) : evPrim .fdiv [.int a, .int b] = .ok (.int (a / b)) := by
  simp only [evPrim, evInt2, okIf, h, small_of hb, decide_true, Bool.and_self, if_true]
@[simp] theorem pr_mod (a b : Int) (h : 0 < b) : evPrim .mod [.int a, .int b] = .ok (.int (a % b)) := by
  show okIf (decide (0 < b)) _ = _
  rw [decide_eq_true h]; rfl
@[simp] theorem pr_pow (a b : Int) (h : 0 ≤ b) (h2 : b ≤ 100000) (h3 : a.natAbs < 2 ^ 64) : evPrim .pow [.int a, .int b] = .ok (.int (a ^ b.toNat)) := by
  show okIf (decide (0 ≤ b) && decide (b ≤ 100000) && decide (a.natAbs < 2 ^ 64)) _ = _
  rw [decide_eq_true h, decide_eq_true h2, decide_eq_true h3]; rfl
@[simp] theorem pr_rng1 (b : Int) (h0 : -4611686018427387904 ≤ b) (h : b < 4611686018427387904) : evPrim .rng1 [.int b] = .ok (.lst (rngD 0 b)) := by
  have : in62 b = true := by unfold in62; rw [decide_eq_true (show -(2 ^ 62) ≤ b by omega), decide_eq_true (show b < 2 ^ 62 by omega)]; rfl
  simp only [evPrim, evRng1, this, okIf, if_true]
@[simp] theorem pr_rng2 (a b : Int) (h1 : -4611686018427387904 ≤ a) (h2 : a < 4611686018427387904) (h0 : -4611686018427387904 ≤ b) (h : b < 4611686018427387904) : evPrim .rng2 [.int a, .int b] = .ok (.lst (rngD a b)) := by
  have e1 : in62 a = true := by unfold in62; rw [decide_eq_true (show -(2 ^ 62) ≤ a by omega), decide_eq_true (show a < 2 ^ 62 by omega)]; rfl
  have e2 : in62 b = true := by unfold in62; rw [decide_eq_true (show -(2 ^ 62) ≤ b by omega), decide_eq_true (show b < 2 ^ 62 by omega)]; rfl
  simp only [evPrim, evInt2, e1, e2, okIf, Bool.and_self, if_true]
/-- 10 ** 60 -/
def p60 : Int := 10 ^ 60
theorem p60_pos : 0 < p60 := by unfold p60; decide
theorem p60_lt : p60 < 2 ^ 200 := by unfold p60; decide
@[simp high] theorem pr_p60 : evPrim .pow [.int 10, .int 60] = .ok (.int p60) := by
  rw [pr_pow _ _ (by decide) (by decide) (by decide)]
  rfl
@[simp] theorem pr_mod60 (a : Int) : evPrim .mod [.int a, .int p60] = .ok (.int (a % p60)) := pr_mod a p60 p60_pos
@[simp] theorem pr_neg (a : Int) : evPrim .neg [.int a] = .ok (.int (-a)) := (rfl)
@[simp] theorem pr_lt (a b : Int) : evPrim .lt [.int a, .int b] = .ok (.bl (decide (a < b))) := (rfl)
@[simp] theorem pr_le (a b : Int) : evPrim .le [.int a, .int b] = .ok (.bl (decide (a ≤ b))) := (rfl)
@[simp] theorem pr_gt (a b : Int) : evPrim .gt [.int a, .int b] = .ok (.bl (decide (a > b))) := (rfl)
@[simp] theorem pr_ge (a b : Int) : evPrim .ge [.int a, .int b] = .ok (.bl (decide (a ≥ b))) := (rfl)
@[simp] theorem pr_eq_int (a b : Int) : evPrim .eq [.int a, .int b] = .ok (.bl (decide (a = b))) := by
  show eqD (.int a) (.int b) = _
  unfold eqD
  simp [D.py, PyData.plain, PyData.depth, PyData.eqv, Bool.beq_eq_decide_eq]
@[simp] theorem pr_ne_int (a b : Int) : evPrim .ne [.int a, .int b] = .ok (.bl (!decide (a = b))) := by
  show notR (evPrim .eq [.int a, .int b]) = _
  rw [pr_eq_int]; rfl
@[simp] theorem pr_eq_str (a b : Str) : evPrim .eq [.str a, .str b] = .ok (.bl (decide (a = b))) := by
  show eqD (.str a) (.str b) = _
  unfold eqD
  simp [D.py, PyData.plain, PyData.depth, PyData.eqv, Bool.beq_eq_decide_eq]
@[simp] theorem pr_ne_str (a b : Str) : evPrim .ne [.str a, .str b] = .ok (.bl (!decide (a = b))) := by
  show notR (evPrim .eq [.str a, .str b]) = _
  rw [pr_eq_str]; rfl
@[simp] theorem pr_len_tup (xs : List D) : evPrim .len [.tup xs] = .ok (.int xs.length) := (rfl)
@[simp] theorem pr_len_lst (xs : List D) : evPrim .len [.lst xs] = .ok (.int xs.length) := (rfl)
@[simp] theorem pr_len_scr (xs : List Int) : evPrim .len [.scr xs] = .ok (.int xs.length) := (rfl)
@[simp] theorem pr_len_str (s : Str) (h : s.length ≤ 16777216) : evPrim .len [.str s] = .ok (.int s.length) := by
  show okIf (decide (s.length ≤ sizeLine)) _ = _
  rw [decide_eq_true (show s.length ≤ sizeLine from h)]; rfl
@[simp] theorem pr_tup (xs : List D) (h : xs.length ≤ 16777216) : evPrim .tup xs = .ok (.tup xs) := by
  show okIf (decide (xs.length ≤ sizeLine)) _ = _
  rw [decide_eq_true (show xs.length ≤ sizeLine from h)]; rfl
@[simp] theorem pr_lst (xs : List D) (h : xs.length ≤ 16777216) : evPrim .lst xs = .ok (.lst xs) := by
  show okIf (decide (xs.length ≤ sizeLine)) _ = _
  rw [decide_eq_true (show xs.length ≤ sizeLine from h)]; rfl
@[simp] theorem pr_tupOf_l (xs : List D) : evPrim .tupOf [.lst xs] = .ok (.tup xs) := (rfl)
@[simp] theorem pr_tupOf_t (xs : List D) : evPrim .tupOf [.tup xs] = .ok (.tup xs) := (rfl)
@[simp] theorem pr_lstOf_l (xs : List D) : evPrim .lstOf [.lst xs] = .ok (.lst xs) := (rfl)
@[simp] theorem pr_lstOf_t (xs : List D) : evPrim .lstOf [.tup xs] = .ok (.lst xs) := (rfl)
@[simp] theorem pr_isi (t : Ty) (x : D) : evPrim (.isi t) [x] = ofOpt ((isTy t x).map D.bl) := (rfl)
@[simp] theorem isLst_lst (xs : List D) : isLst (.lst xs) = true := (rfl)
@[simp] theorem isCon_lst (xs : List D) : isCon (.lst xs) = true := (rfl)
@[simp] theorem isCon_dct (t : Nat) (ks vs : List D) : isCon (.dct t ks vs) = true := (rfl)
@[simp] theorem mu_app (xs : List D) (d : D) (h : xs.length < 16777216) : evMut .app (.lst xs) [d] = .ok (.non, .lst (xs ++ [d])) := by
  show (if xs.length < sizeLine then _ else _) = _
  rw [if_pos (show xs.length < sizeLine from h)]
@[simp] theorem mu_ext (xs ys : List D) (h : xs.length + ys.length ≤ 16777216) : evMut .ext (.lst xs) [.lst ys] = .ok (.non, .lst (xs ++ ys)) := by
  show (if xs.length + ys.length ≤ sizeLine then _ else _) = _
  rw [if_pos (show xs.length + ys.length ≤ sizeLine from h)]
theorem mu_pop {xs : List D} {d : D} (h : xs.getLast? = some d) : evMut .pop (.lst xs) [] = .ok (d, .lst xs.dropLast) := by
  show (match xs.getLast? with | some d => R.ok (d, D.lst xs.dropLast) | none => .stuck) = _
  rw [h]
@[simp] theorem mu_rev (xs : List D) : evMut .rev (.lst xs) [] = .ok (.non, .lst xs.reverse) := (rfl)
@[simp] theorem mu_clr (xs : List D) : evMut .clr (.lst xs) [] = .ok (.non, .lst []) := (rfl)
theorem se_lst {xs : List D} {i : Int} {v : D} (h0 : 0 ≤ i) (h : i.toNat < xs.length) : evSet (.lst xs) (.int i) v = .ok (.lst (xs.set i.toNat v)) := by
  show (match L2.ixN xs.length i with | some j => R.ok (D.lst (xs.set j v)) | none => .stuck) = _
  unfold L2.ixN
  rw [if_pos h0, if_pos (by omega)]
/-- a loop's body -/
def S.loop : S → List S
  | .for _ _ b => b
  | .whl _ _ b => b
  | _ => []
def S.thn : S → List S
  | .ifs _ a _ => a
  | _ => []
def S.els : S → List S
  | .ifs _ _ b => b
  | _ => []
/-- the i-th statement -/
def nth (b : List S) (i : Nat) : S := b.getD i .pas
theorem strsOf_map : ∀ ys : List Str, strsOf (ys.map D.str) = some ys
  | [] => rfl
  | y :: ys => by simp [strsOf, strsOf_map ys]
theorem intsOf_map : ∀ ys : List Int, intsOf (ys.map D.int) = some ys
  | [] => rfl
  | y :: ys => by simp [intsOf, intsOf_map ys]
theorem boolsOf_map : ∀ ys : List Bool, boolsOf (ys.map D.bl) = some ys
  | [] => rfl
  | y :: ys => by simp [boolsOf, boolsOf_map ys]
@[simp] theorem me_join (a : Str) (ys : List Str) (h : (ys.map (·.length)).sum + ys.length * a.length ≤ 16777216) : evMet .join [.str a, .lst (ys.map D.str)] = .ok (.str (Txt.join a ys)) := by
  show evJoin [.str a, .lst (ys.map D.str)] = _
  unfold evJoin
  simp only [strsOf_map, h, decide_true, okIf, if_true]
@[simp] theorem recv_join (s : Str) : recvOk .join (.str s) = true := (rfl)
@[simp] theorem recv_sidx (s : Str) : recvOk .sidx (.str s) = true := (rfl)
@[simp] theorem recv_lidx (s : List D) : recvOk .lidx (.lst s) = true := (rfl)
@[simp] theorem pr_sum (ys : List Int) : evPrim .sum [.lst (ys.map D.int)] = .ok (.int ys.sum) := by
  simp only [evPrim, evSum, intsOf_map]
@[simp] theorem pr_all (ys : List Bool) : evPrim .all [.lst (ys.map D.bl)] = .ok (.bl (ys.all id)) := by
  simp only [evPrim, evAll, boolsOf_map]
@[simp] theorem isTy_str (s : Str) : isTy .str (.str s) = some true := (rfl)
theorem atI_ok {α : Type} {xs : List α} {i : Int} {x : α} (h0 : 0 ≤ i) (h : xs[i.toNat]? = some x) : L2.atI xs i = some x := by
  have hl := (List.getElem?_eq_some_iff.mp h).1
  unfold L2.atI L2.ixN
  rw [if_pos h0, if_pos (by omega)]
  exact h
theorem pr_idx_tup {xs : List D} {i : Int} {x : D} (h0 : 0 ≤ i) (h : xs[i.toNat]? = some x) : evPrim .idx [.tup xs, .int i] = .ok x := by
  show ofOpt (L2.atI xs i) = _
  rw [atI_ok h0 h]; rfl
theorem pr_idx_lst {xs : List D} {i : Int} {x : D} (h0 : 0 ≤ i) (h : xs[i.toNat]? = some x) : evPrim .idx [.lst xs, .int i] = .ok x := by
  show ofOpt (L2.atI xs i) = _
  rw [atI_ok h0 h]; rfl
@[simp] theorem pr_idx_t0 (x : D) (xs : List D) : evPrim .idx [.tup (x :: xs), .int 0] = .ok x := pr_idx_tup (by decide) rfl
@[simp] theorem pr_idx_t1 (x y : D) (xs : List D) : evPrim .idx [.tup (x :: y :: xs), .int 1] = .ok y := pr_idx_tup (by decide) rfl
@[simp] theorem pr_idx_t2 (x y z : D) (xs : List D) : evPrim .idx [.tup (x :: y :: z :: xs), .int 2] = .ok z := pr_idx_tup (by decide) rfl
@[simp] theorem pr_idx_t3 (x y z w : D) (xs : List D) : evPrim .idx [.tup (x :: y :: z :: w :: xs), .int 3] = .ok w := pr_idx_tup (by decide) rfl
@[simp] theorem pr_idx_l0 (x : D) (xs : List D) : evPrim .idx [.lst (x :: xs), .int 0] = .ok x := pr_idx_lst (by decide) rfl
/-- behind the first -/
@[simp] theorem pr_slc_t1 (x : D) (xs : List D) : evPrim (.slc true false) [.tup (x :: xs), .int 1] = .ok (.tup xs) := by
  show R.ok (D.tup (cutD (x :: xs) (some 1) none)) = _
  unfold cutD
  rw [show HT.sIx (x :: xs).length 0 (some 1) = min 1 (x :: xs).length from HT.sIx_nat _ _ 1, HT.sIx_none]
  rw [show min 1 (x :: xs).length = 1 by rw [List.length_cons]; omega]
  simp
/-! loops -/
theorem forL_fold {σ : Type} {f : D → Rho → O} {Rr : σ → Rho} {g : σ → D → σ} : ∀ (xs : List D) (s : σ), (∀ s x, x ∈ xs → f x (Rr s) = .nx (Rr (g s x))) → forL f xs (Rr s) = .nx (Rr (xs.foldl g s))
  | [], _, _ => rfl
  | x :: xs, s, h => by
    unfold forL
    rw [h s x List.mem_cons_self]
    exact forL_fold xs (g s x) fun s y hy => h s y (List.mem_cons_of_mem _ hy)
/-- a loop by its states -/
theorem forL_seq {f : D → Rho → O} : ∀ (xs : List D) (k : Nat) (Rr : Nat → Rho), (∀ i x, xs[i]? = some x → f x (Rr (k + i)) = .nx (Rr (k + i + 1))) → forL f xs (Rr k) = .nx (Rr (k + xs.length))
  | [], k, Rr, _ => rfl
  | x :: xs, k, Rr, h => by
    unfold forL
    have h0 := h 0 x rfl
    rw [Nat.add_zero] at h0
    rw [h0]
    show forL f xs (Rr (k + 1)) = _
    rw [forL_seq xs (k + 1) Rr fun i y hy => by
      have := h (i + 1) y (by simpa using hy)
      rw [show k + 1 + i = k + (i + 1) by omega]
      exact this]
    rw [List.length_cons, show k + 1 + xs.length = k + (xs.length + 1) by omega]
theorem rngD_len (a b : Int) : (rngD a b).length = (b - a).toNat := by simp [rngD]
theorem rngD_get {a b : Int} {i : Nat} {x : D} (h : (rngD a b)[i]? = some x) : x = .int (a + i) ∧ i < (b - a).toNat := by
  unfold rngD at h
  rw [List.getElem?_map, Option.map_eq_some_iff] at h
  obtain ⟨j, hj, rfl⟩ := h
  obtain ⟨hl, e⟩ := List.getElem?_eq_some_iff.mp hj
  simp only [List.length_range] at hl
  simp only [List.getElem_range] at e
  subst e
  exact ⟨rfl, hl⟩
/-- a loop over range(n) by its states -/
theorem forL_rng {f : D → Rho → O} (n : Nat) (Rr : Nat → Rho) (h : ∀ i, i < n → f (.int (i : Nat)) (Rr i) = .nx (Rr (i + 1))) : forL f (rngD 0 n) (Rr 0) = .nx (Rr n) := by
  have := forL_seq (f := f) (rngD 0 n) 0 Rr fun i x hx => by
    obtain ⟨rfl, hi⟩ := rngD_get hx
    rw [Nat.zero_add, Int.zero_add]
    exact h i (by omega)
  rw [rngD_len] at this
  rw [this]
  congr 2
  omega
/-- a loop over range(a, b) by its states -/
theorem forL_rng2 {f : D → Rho → O} (a b : Int) (Rr : Nat → Rho) (h : ∀ i, i < (b - a).toNat → f (.int (a + (i : Nat))) (Rr i) = .nx (Rr (i + 1))) : forL f (rngD a b) (Rr 0) = .nx (Rr (b - a).toNat) := by
  have := forL_seq (f := f) (rngD a b) 0 Rr fun i x hx => by
    obtain ⟨rfl, hi⟩ := rngD_get hx
    rw [Nat.zero_add]
    exact h i hi
  rw [rngD_len] at this
  rw [this, Nat.zero_add]
/-- a loop's name: not there yet, or the last item -/
def lv : Nat → Sl
  | 0 => .un
  | i + 1 => .fz (.int (i : Nat))
/-- a loop by an invariant; it may end by a return -/
theorem forL_inv {f : D → Rho → O} {Q : O → Prop} (I : Nat → Rho → Prop) : ∀ (xs : List D) (k : Nat) (ρ : Rho), I k ρ →
    (∀ i x ρ, xs[i]? = some x → I (k + i) ρ → (∃ ρ', f x ρ = .nx ρ' ∧ I (k + i + 1) ρ') ∨ (∃ ρ', f x ρ = .cont ρ' ∧ I (k + i + 1) ρ') ∨ (∃ ρ', f x ρ = .brk ρ' ∧ Q (.nx ρ')) ∨ (∃ d ρ', f x ρ = .ret d ρ' ∧ Q (.ret d ρ')) ∨ (∃ c ρ', f x ρ = .exc c ρ' ∧ Q (.exc c ρ'))) →
    (∀ ρ, I (k + xs.length) ρ → Q (.nx ρ)) → Q (forL f xs ρ)
  | [], k, ρ, h0, _, hq => hq ρ h0
  | x :: xs, k, ρ, h0, hs, hq => by
    unfold forL
    have rec_ : ∀ ρ', I (k + 1) ρ' → Q (forL f xs ρ') := fun ρ' h' => forL_inv I xs (k + 1) ρ' h' (fun i y ρ2 hy h2 => by
      have := hs (i + 1) y ρ2 (by simpa using hy) (by rw [show k + (i + 1) = k + 1 + i by omega]; exact h2)
      rw [show k + (i + 1) + 1 = k + 1 + i + 1 by omega] at this
      exact this) (fun ρ2 h2 => hq ρ2 (by rw [List.length_cons, show k + (xs.length + 1) = k + 1 + xs.length by omega]; exact h2))
    rcases hs 0 x ρ rfl h0 with ⟨ρ', e, h'⟩ | ⟨ρ', e, h'⟩ | ⟨ρ', e, h'⟩ | ⟨d, ρ', e, h'⟩ | ⟨c, ρ', e, h'⟩
    · rw [e]; exact rec_ ρ' h'
    · rw [e]; exact rec_ ρ' h'
    · rw [e]; exact h'
    · rw [e]; exact h'
    · rw [e]; exact h'
/-! comprehensions -/
theorem compL_map {α : Type} {a g : α → D} {f : D → Rho → Ev (Option D)} {ρ : Rho} : ∀ (xs : List α), (∀ x ∈ xs, f (a x) ρ = .ok (some (g x)) ρ) → compL f (xs.map a) ρ = .ok (xs.map g) ρ
  | [], _ => rfl
  | x :: xs, h => by
    rw [List.map_cons]
    unfold compL
    rw [h x List.mem_cons_self, Ev.bind_ok, compL_map xs fun y hy => h y (List.mem_cons_of_mem _ hy)]
    rfl
theorem compL_filter {α : Type} {a : α → D} {g : α → Option D} {f : D → Rho → Ev (Option D)} {ρ : Rho} : ∀ (xs : List α), (∀ x ∈ xs, f (a x) ρ = .ok (g x) ρ) → compL f (xs.map a) ρ = .ok (xs.filterMap g) ρ
  | [], _ => rfl
  | x :: xs, h => by
    rw [List.map_cons]
    unfold compL
    rw [h x List.mem_cons_self, Ev.bind_ok, compL_filter xs fun y hy => h y (List.mem_cons_of_mem _ hy)]
    cases e : g x with
    | none => simp [List.filterMap_cons, e]
    | some y => simp [List.filterMap_cons, e]
def cmpK3 (ρ : Rho) (vs : List Nat) : Ev D → Ev (Option D)
  | .ok z ρ => .ok (some z) (wipeR ρ vs)
  | _ => .stuck
@[simp] theorem cmpK3_ok (ρ ρ2 : Rho) (vs : List Nat) (z : D) : cmpK3 ρ2 vs (.ok z ρ) = .ok (some z) (wipeR ρ vs) := (rfl)
def cmpB1 (q : En) (elt : P) (vs : List Nat) : R Rho → Ev (Option D)
  | .ok ρ => cmpK3 ρ vs (evP q elt ρ)
  | .stuck => .stuck
@[simp] theorem cmpB1_ok (q : En) (elt : P) (vs : List Nat) (ρ : Rho) : cmpB1 q elt vs (.ok ρ) = cmpK3 ρ vs (evP q elt ρ) := (rfl)
/-- a comprehension's turn -/
def cmpB (q : En) (elt : P) (tg : Tg) (x : D) (ρ : Rho) : Ev (Option D) := cmpB1 q elt tg.slots (setT tg x ρ)
def cmpI3 (q : En) (elt : P) (vs : List Nat) (ρ : Rho) : R Bool → Ev (Option D)
  | .ok k => if k then cmpK3 ρ vs (evP q elt ρ) else .ok none (wipeR ρ vs)
  | .stuck => .stuck
@[simp] theorem cmpI3_ok (q : En) (elt : P) (vs : List Nat) (ρ : Rho) (k : Bool) : cmpI3 q elt vs ρ (.ok k) = if k then cmpK3 ρ vs (evP q elt ρ) else .ok none (wipeR ρ vs) := (rfl)
def cmpI2 (q : En) (elt : P) (vs : List Nat) : Ev D → Ev (Option D)
  | .ok z ρ => cmpI3 q elt vs ρ (asB z)
  | _ => .stuck
@[simp] theorem cmpI2_ok (q : En) (elt : P) (vs : List Nat) (ρ : Rho) (z : D) : cmpI2 q elt vs (.ok z ρ) = cmpI3 q elt vs ρ (asB z) := (rfl)
def cmpI1 (q : En) (elt c : P) (vs : List Nat) : R Rho → Ev (Option D)
  | .ok ρ => cmpI2 q elt vs (evP q c ρ)
  | .stuck => .stuck
@[simp] theorem cmpI1_ok (q : En) (elt c : P) (vs : List Nat) (ρ : Rho) : cmpI1 q elt c vs (.ok ρ) = cmpI2 q elt vs (evP q c ρ) := (rfl)
def cmpI (q : En) (elt c : P) (tg : Tg) (x : D) (ρ : Rho) : Ev (Option D) := cmpI1 q elt c tg.slots (setT tg x ρ)
@[simp] theorem slots_v (i : Nat) : Tg.slots (.v i) = [i] := (rfl)
@[simp] theorem slots_t (is : List Nat) : Tg.slots (.t is) = is := (rfl)
/-- [e for .. in it], where each turn leaves the slots as they were -/
theorem ev_comp {α : Type} {q : En} {elt it : P} {tg : Tg} {ρ : Rho} (xs : List α) (a g : α → D) {x : D} (hk : it.kd = .val) (h1 : evP q it ρ = .ok x ρ) (h2 : itemsOf x = .ok (xs.map a))
    (h3 : ∀ y ∈ xs, cmpB q elt tg (a y) (wipeR ρ tg.slots) = .ok (some (g y)) (wipeR ρ tg.slots))
    (h4 : backR ρ (wipeR ρ tg.slots) tg.slots = ρ) (h5 : xs.length ≤ sizeLine) : evP q (.comp elt tg it none) ρ = .ok (.lst (xs.map g)) ρ := by
  rw [evP, h1, Ev.bind_ok, h2, R.at_ok, Ev.bind_ok, lend_val _ _ hk, R.at_ok, Ev.bind_ok]
  simp only
  have e : (fun y ρ => ((setT tg y ρ).at ρ).bind fun ρ _ => (evP q elt ρ).noX.bind fun z ρ => Ev.ok (some z) (wipeR ρ tg.slots)) = cmpB q elt tg := by
    funext y ρ
    unfold cmpB
    cases setT tg y ρ with
    | stuck => rfl
    | ok ρ2 =>
      show (evP q elt ρ2).noX.bind _ = cmpK3 ρ2 tg.slots (evP q elt ρ2)
      cases evP q elt ρ2 <;> rfl
  rw [e, compL_map xs h3, Ev.bind_ok, h4]
  simp [backI, okIf, h5]
theorem ev_compIf {α : Type} {q : En} {elt it c : P} {tg : Tg} {ρ : Rho} (xs : List α) (a : α → D) (g : α → Option D) {x : D} (hk : it.kd = .val) (h1 : evP q it ρ = .ok x ρ) (h2 : itemsOf x = .ok (xs.map a))
    (h3 : ∀ y ∈ xs, cmpI q elt c tg (a y) (wipeR ρ tg.slots) = .ok (g y) (wipeR ρ tg.slots))
    (h4 : backR ρ (wipeR ρ tg.slots) tg.slots = ρ) (h5 : xs.length ≤ sizeLine) : evP q (.comp elt tg it (some c)) ρ = .ok (.lst (xs.filterMap g)) ρ := by
  rw [evP, h1, Ev.bind_ok, h2, R.at_ok, Ev.bind_ok, lend_val _ _ hk, R.at_ok, Ev.bind_ok]
  simp only
  have e : (fun y ρ => ((setT tg y ρ).at ρ).bind fun ρ _ => (evP q c ρ).noX.bind fun z ρ => ((asB z).at ρ).bind fun k ρ => if k then (evP q elt ρ).noX.bind fun z ρ => Ev.ok (some z) (wipeR ρ tg.slots) else .ok none (wipeR ρ tg.slots)) = cmpI q elt c tg := by
    funext y ρ
    unfold cmpI
    cases setT tg y ρ with
    | stuck => rfl
    | ok ρ2 =>
      show (evP q c ρ2).noX.bind _ = cmpI2 q elt tg.slots (evP q c ρ2)
      cases evP q c ρ2 with
      | ok z ρ3 =>
        cases z with
        | bl k =>
          cases k with
          | false => rfl
          | true =>
            show (evP q elt ρ3).noX.bind _ = cmpK3 ρ3 tg.slots (evP q elt ρ3)
            cases evP q elt ρ3 <;> rfl
        | _ => rfl
      | exc c ρ => rfl
      | stuck => rfl
  rw [e, compL_filter xs h3, Ev.bind_ok, h4]
  have : (xs.filterMap g).length ≤ sizeLine := Nat.le_trans (List.length_filterMap_le _ _) h5
  simp [backI, okIf, this]
theorem set_back {ρ : Rho} {i : Nat} (s : Sl) (h : i < ρ.length) : (ρ.set i s).set i (ρ.getD i .un) = ρ := by
  rw [List.set_set]
  apply List.ext_getElem?
  intro j
  by_cases e : i = j
  · subst e
    rw [List.getElem?_set_self h, List.getD_eq_getElem?_getD, List.getElem?_eq_getElem h]
    rfl
  · rw [List.getElem?_set_ne e]
/-- [x[j] for x in it] -/
theorem ev_fld {α : Type} {q : En} {it : P} {ρ : Rho} (xs : List α) (a g : α → D) {x : D} {s : Nat} {j : Int} (hk : it.kd = .val) (h1 : evP q it ρ = .ok x ρ) (h2 : itemsOf x = .ok (xs.map a)) (hs : s < ρ.length)
    (h3 : ∀ y ∈ xs, evPrim .idx [a y, .int j] = .ok (g y)) (h5 : xs.length ≤ sizeLine) : evP q (.comp (.op .idx [.var s, .cst (.int j)]) (.v s) it none) ρ = .ok (.lst (xs.map g)) ρ := by
  refine ev_comp xs a g hk h1 h2 (fun y hy => ?_) (set_back _ hs) h5
  have e : (ρ.set s (.fz (a y)))[s]? = some (.fz (a y)) := List.getElem?_set_self hs
  simp [cmpB, wipeR, List.set_set, e, h3 y hy]
/-- [x[j] for x in l] -/
theorem ev_fld_v {α : Type} {q : En} {ρ : Rho} (xs : List α) (a g : α → D) {i s : Nat} {j : Int} (h1 : ρ[i]? = some (.fz (.lst (xs.map a)))) (hs : s < ρ.length)
    (h3 : ∀ y ∈ xs, evPrim .idx [a y, .int j] = .ok (g y)) (h5 : xs.length ≤ sizeLine) : evP q (.comp (.op .idx [.var s, .cst (.int j)]) (.v s) (.var i) none) ρ = .ok (.lst (xs.map g)) ρ :=
  ev_fld xs a g rfl (by rw [ev_var, readV_eq, h1]; rfl) rfl hs h3 h5
/-- [.. for .. in it], over one's own -/
theorem ev_comp_b {α : Type} {q : En} {elt : P} {tg : Tg} {p : Nat} {ρ : Rho} (xs : List α) (a g : α → D) {d : D} (h1 : ρ[p]? = some (.own d)) (h2 : itemsOf d = .ok (xs.map a))
    (h3 : ∀ y ∈ xs, cmpB q elt tg (a y) (wipeR (ρ.set p .un) tg.slots) = .ok (some (g y)) (wipeR (ρ.set p .un) tg.slots))
    (h4 : backR (ρ.set p .un) (wipeR (ρ.set p .un) tg.slots) tg.slots = ρ.set p .un) (h5 : xs.length ≤ sizeLine) : evP q (.comp elt tg (.bor ⟨p, none⟩) none) ρ = .ok (.lst (xs.map g)) ρ := by
  have hp : p < ρ.length := (List.getElem?_eq_some_iff.mp h1).1
  have hl : lendI ρ (.bor ⟨p, none⟩) = .ok (some (⟨p, none⟩, d), ρ.set p .un) := by
    have ht : Pl.take ρ ⟨p, none⟩ = .ok (d, ρ.set p .un) := by rw [take_eq, h1]; rfl
    simp only [lendI, ht]
  rw [evP, ev_bor, look_eq, h1, lookS_own, R.at_ok, Ev.bind_ok, h2, R.at_ok, Ev.bind_ok, hl, R.at_ok, Ev.bind_ok]
  simp only
  have e : (fun y ρ => ((setT tg y ρ).at ρ).bind fun ρ _ => (evP q elt ρ).noX.bind fun z ρ => Ev.ok (some z) (wipeR ρ tg.slots)) = cmpB q elt tg := by
    funext y ρ
    unfold cmpB
    cases setT tg y ρ with
    | stuck => rfl
    | ok ρ2 =>
      show (evP q elt ρ2).noX.bind _ = cmpK3 ρ2 tg.slots (evP q elt ρ2)
      cases evP q elt ρ2 <;> rfl
  have hb : (ρ.set p .un).set p (.own d) = ρ := by
    have := set_back (ρ := ρ) .un hp
    rw [List.getD_eq_getElem?_getD, h1] at this
    exact this
  rw [e, compL_map xs h3, Ev.bind_ok, h4]
  simp [backI, okIf, h5, hb]
theorem ev_fld_b {α : Type} {q : En} {p : Nat} {ρ : Rho} (xs : List α) (a g : α → D) {d : D} {s : Nat} {j : Int} (h1 : ρ[p]? = some (.own d)) (h2 : itemsOf d = .ok (xs.map a)) (hs : s < ρ.length)
    (h3 : ∀ y ∈ xs, evPrim .idx [a y, .int j] = .ok (g y)) (h5 : xs.length ≤ sizeLine) : evP q (.comp (.op .idx [.var s, .cst (.int j)]) (.v s) (.bor ⟨p, none⟩) none) ρ = .ok (.lst (xs.map g)) ρ := by
  have hs' : s < (ρ.set p .un).length := by rw [List.length_set]; exact hs
  refine ev_comp_b xs a g h1 h2 (fun y hy => ?_) (set_back _ hs') h5
  have e : ((ρ.set p .un).set s (.fz (a y)))[s]? = some (.fz (a y)) := List.getElem?_set_self hs'
  simp [cmpB, wipeR, List.set_set, e, h3 y hy]
/-- [x[j] for x in it if x[i] == c] -/
theorem ev_fldIf {α : Type} {q : En} {it : P} {ρ : Rho} (xs : List α) (a g : α → D) (v : α → Int) {x : D} {s : Nat} {i j c : Int} (hk : it.kd = .val) (h1 : evP q it ρ = .ok x ρ) (h2 : itemsOf x = .ok (xs.map a)) (hs : s < ρ.length)
    (h3 : ∀ y ∈ xs, evPrim .idx [a y, .int j] = .ok (g y)) (h6 : ∀ y ∈ xs, evPrim .idx [a y, .int i] = .ok (.int (v y))) (h5 : xs.length ≤ sizeLine) :
    evP q (.comp (.op .idx [.var s, .cst (.int j)]) (.v s) it (some (.op .eq [.op .idx [.var s, .cst (.int i)], .cst (.int c)]))) ρ = .ok (.lst ((xs.filter fun y => decide (v y = c)).map g)) ρ := by
  have := ev_compIf (q := q) (elt := .op .idx [.var s, .cst (.int j)]) (it := it) (c := .op .eq [.op .idx [.var s, .cst (.int i)], .cst (.int c)]) (tg := .v s) (ρ := ρ) xs a (fun y => if v y = c then some (g y) else none) hk h1 h2 (fun y hy => ?_) (set_back _ hs) h5
  · rw [this]
    congr 2
    clear this h1 h2 h3 h5 h6
    induction xs with
    | nil => rfl
    | cons y ys ih =>
      by_cases e : v y = c
      · simp [List.filterMap_cons, List.filter_cons, e, ih]
      · simp [List.filterMap_cons, List.filter_cons, e, ih]
  · have e : (ρ.set s (.fz (a y)))[s]? = some (.fz (a y)) := List.getElem?_set_self hs
    by_cases hc : v y = c
    · simp [cmpI, wipeR, List.set_set, e, h3 y hy, h6 y hy, hc]
    · simp [cmpI, wipeR, List.set_set, e, h3 y hy, h6 y hy, hc]
theorem maxOf_le : ∀ (r : List Int) (m b : Int), m ≤ b → (∀ x ∈ r, x ≤ b) → maxOf m r ≤ b
  | [], m, b, h, _ => h
  | x :: r, m, b, h, hx => by
    unfold maxOf
    refine maxOf_le r _ b ?_ fun y hy => hx y (List.mem_cons_of_mem _ hy)
    split
    · exact hx x List.mem_cons_self
    · exact h
theorem le_maxOf : ∀ (r : List Int) (m : Int), m ≤ maxOf m r ∧ ∀ x ∈ r, x ≤ maxOf m r
  | [], m => ⟨Int.le_refl m, fun x h => nomatch h⟩
  | x :: r, m => by
    unfold maxOf
    obtain ⟨h1, h2⟩ := le_maxOf r (if x > m then x else m)
    have h3 : m ≤ (if x > m then x else m) ∧ x ≤ (if x > m then x else m) := by split <;> omega
    refine ⟨Int.le_trans h3.1 h1, fun y hy => ?_⟩
    rcases List.mem_cons.mp hy with rfl | hy
    · exact Int.le_trans h3.2 h1
    · exact h2 y hy
theorem pr_maxl (m : Int) (r : List Int) : evPrim .maxl [.lst ((m :: r).map D.int)] = .ok (.int (maxOf m r)) := by
  simp only [evPrim, evMaxl, intsOf_map]
/-- behind the k-th -/
theorem pr_slc_lfrom {xs : List D} {k : Nat} : evPrim (.slc true false) [.lst xs, .int k] = .ok (.lst (xs.drop k)) := by
  show R.ok (D.lst (cutD xs (some (k : Int)) none)) = _
  unfold cutD
  rw [show HT.sIx xs.length 0 (some (k : Int)) = min k xs.length from HT.sIx_nat _ _ _, HT.sIx_none]
  by_cases h : k ≤ xs.length
  · rw [Nat.min_eq_left h, List.take_of_length_le (by rw [List.length_drop]; exact Nat.le_refl _)]
  · rw [Nat.min_eq_right (by omega), List.drop_length, List.drop_eq_nil_of_le (by omega)]
    simp
end Bk

/-! E2: trees, shown. -/
namespace Bk
open PySem
inductive Tr where | mk (nm : Str) (ks : List Tr)
mutual
def Tr.d : Tr → D
  | .mk nm ks => .tup (.str nm :: Tr.dL ks)
def Tr.dL : List Tr → List D
  | [] => []
  | t :: ts => t.d :: Tr.dL ts
end
mutual
def Tr.high : Tr → Nat
  | .mk _ ks => 1 + Tr.highL ks
def Tr.highL : List Tr → Nat
  | [] => 0
  | t :: ts => max t.high (Tr.highL ts)
end
mutual
def Tr.many : Tr → Nat
  | .mk _ ks => 1 + Tr.manyL ks
def Tr.manyL : List Tr → Nat
  | [] => 0
  | t :: ts => t.many + Tr.manyL ts
end
mutual
/-- names are short -/
def Tr.fit : Tr → Prop
  | .mk nm ks => nm.length ≤ 8 ∧ Tr.fitL ks
def Tr.fitL : List Tr → Prop
  | [] => True
  | t :: ts => t.fit ∧ Tr.fitL ts
end
mutual
def Tr.shown : Tr → Str
  | .mk nm ks => if ks = [] then nm else nm ++ "(" ++ Txt.join "," (Tr.shownL ks) ++ ")"
def Tr.shownL : List Tr → List Str
  | [] => []
  | t :: ts => t.shown :: Tr.shownL ts
end
theorem Tr.dL_map : ∀ ts : List Tr, Tr.dL ts = ts.map Tr.d
  | [] => rfl
  | t :: ts => by simp [Tr.dL, Tr.dL_map ts]
theorem Tr.shownL_map : ∀ ts : List Tr, Tr.shownL ts = ts.map Tr.shown
  | [] => rfl
  | t :: ts => by simp [Tr.shownL, Tr.shownL_map ts]
theorem join_len (a : Str) (ys : List Str) : (Txt.join a ys).length = (ys.map (·.length)).sum + (ys.length - 1) * a.length := size_glued a ys
mutual
theorem Tr.shown_len : ∀ t : Tr, t.fit → t.shown.length + 1 ≤ 11 * t.many
  | .mk nm ks, h => by
    unfold Tr.fit at h
    unfold Tr.shown Tr.many
    split
    · omega
    · have := Tr.shownL_len ks h.2
      have l1 : (Str.ofString "(").length = 1 := rfl
      have l2 : (Str.ofString ")").length = 1 := rfl
      have l3 : (Str.ofString ",").length = 1 := rfl
      rw [len_app, len_app, len_app, join_len, l1, l2, l3]
      omega
theorem Tr.shownL_len : ∀ ts : List Tr, Tr.fitL ts → ((Tr.shownL ts).map (·.length)).sum + (Tr.shownL ts).length ≤ 11 * Tr.manyL ts
  | [], _ => by simp [Tr.shownL, Tr.manyL]
  | t :: ts, h => by
    unfold Tr.fitL at h
    have h1 := Tr.shown_len t h.1
    have h2 := Tr.shownL_len ts h.2
    unfold Tr.shownL Tr.manyL
    simp only [List.map_cons, List.sum_cons, List.length_cons]
    omega
end
theorem Tr.many_len : ∀ ts : List Tr, ts.length ≤ Tr.manyL ts
  | [] => Nat.le_refl _
  | .mk nm ks :: ts => by
    have := Tr.many_len ts
    unfold Tr.manyL Tr.many
    simp only [List.length_cons]
    omega
theorem Tr.high_mem : ∀ {ts : List Tr} {t : Tr}, t ∈ ts → t.high ≤ Tr.highL ts := by
  intro ts
  induction ts with
  | nil => intro t h; cases h
  | cons a ts ih =>
    intro t h
    unfold Tr.highL
    rcases List.mem_cons.mp h with rfl | h
    · omega
    · have := ih h; omega
theorem Tr.fit_mem : ∀ {ts : List Tr} {t : Tr}, Tr.fitL ts → t ∈ ts → t.fit := by
  intro ts
  induction ts with
  | nil => intro t _ h; cases h
  | cons a ts ih =>
    intro t f h
    unfold Tr.fitL at f
    rcases List.mem_cons.mp h with rfl | h
    · exact f.1
    · exact ih f.2 h
theorem Tr.many_mem : ∀ {ts : List Tr} {t : Tr}, t ∈ ts → t.many ≤ Tr.manyL ts := by
  intro ts
  induction ts with
  | nil => intro t h; cases h
  | cons a ts ih =>
    intro t h
    unfold Tr.manyL
    rcases List.mem_cons.mp h with rfl | h
    · omega
    · have := ih h; omega
theorem Tr.highL_max : ∀ (t : Tr) (ts : List Tr), maxOf t.high (ts.map fun t => (t.high : Int)) = (Tr.highL (t :: ts) : Int) := by
  intro t ts
  have up : ∀ (us : List Tr) (b : Int), (∀ x ∈ us, (x.high : Int) ≤ b) → 0 ≤ b → ((Tr.highL us : Nat) : Int) ≤ b := by
    intro us
    induction us with
    | nil => intro b _ h; simpa [Tr.highL] using h
    | cons u us ih =>
      intro b h h0
      unfold Tr.highL
      have h1 := h u List.mem_cons_self
      have h2 := ih b (fun x hx => h x (List.mem_cons_of_mem _ hx)) h0
      omega
  have h1 : maxOf t.high (ts.map fun t => (t.high : Int)) ≤ (Tr.highL (t :: ts) : Int) := maxOf_le _ _ _ (by have := Tr.high_mem (ts := t :: ts) List.mem_cons_self; omega) fun x hx => by
    obtain ⟨u, hu, rfl⟩ := List.mem_map.mp hx
    have := Tr.high_mem (ts := t :: ts) (List.mem_cons_of_mem _ hu)
    omega
  obtain ⟨h2, h3⟩ := le_maxOf (ts.map fun t => (t.high : Int)) t.high
  have h4 := up (t :: ts) (maxOf t.high (ts.map fun t => (t.high : Int))) (fun x hx => by
    rcases List.mem_cons.mp hx with rfl | hx
    · exact h2
    · exact h3 _ (List.mem_map.mpr ⟨x, hx, rfl⟩)) (by omega)
  omega
theorem Tr.manyL_sum : ∀ ts : List Tr, (ts.map fun t => (t.many : Int)).sum = (Tr.manyL ts : Int)
  | [] => rfl
  | t :: ts => by
    have := Tr.manyL_sum ts
    unfold Tr.manyL
    simp only [List.map_cons, List.sum_cons, this]
    omega
end Bk

/-! E3: the laws' names and kinds. -/
namespace Bk
open PySem
abbrev letters : Str := Str.ofString "abcdefghijklmnopqrstuvwxyz"
theorem letters_cps : letters.cps.toList = (List.range 26).map (97 + ·) := by decide
theorem letters_len : letters.length = 26 := by decide
def ltr (j : Int) : Str := ⟨#[97 + (j % 26).toNat]⟩
@[simp] theorem ltr_len (j : Int) : (ltr j).length = 1 := (rfl)
@[simp] theorem elen : (Str.ofString "").length = 0 := (rfl)
@[simp] theorem pr_ltr (r : Int) : evPrim .idx [.str letters, .int (r % 26)] = .ok (.str (ltr r)) := by
  have h0 : 0 ≤ r % 26 := Int.emod_nonneg _ (by decide)
  have h1 : r % 26 < 26 := Int.emod_lt_of_pos _ (by decide)
  show (if letters.length ≤ sizeLine then (match L2.atI letters.cps.toList (r % 26) with | some c => R.ok (D.str ⟨#[c]⟩) | none => .stuck) else .stuck) = _
  rw [if_pos (by rw [letters_len]; decide), atI_ok h0 (x := 97 + (r % 26).toNat)]
  · rfl
  · rw [letters_cps, List.getElem?_map, List.getElem?_range (by omega)]
    rfl
theorem ltr_all : ∀ j ∈ List.range 26, Txt.index0 letters ⟨#[97 + j]⟩ = some j := by decide +kernel
@[simp] theorem me_ltr (r : Int) : evMet .sidx [.str letters, .str (ltr r)] = .ok (.int (r % 26)) := by
  have h0 : 0 ≤ r % 26 := Int.emod_nonneg _ (by decide)
  have h1 : r % 26 < 26 := Int.emod_lt_of_pos _ (by decide)
  have := ltr_all (r % 26).toNat (List.mem_range.mpr (by omega))
  show (match Txt.index0 letters ⟨#[97 + (r % 26).toNat]⟩ with | some k => R.ok (D.int (k : Nat)) | none => .stuck) = _
  rw [this]
  show R.ok (D.int ((r % 26).toNat : Int)) = _
  rw [Int.toNat_of_nonneg h0]
@[simp] theorem len_mk (l : List Nat) : Str.length ⟨l.toArray⟩ = l.length := (rfl)
theorem app_mk (a b : List Nat) : (⟨a.toArray⟩ ++ ⟨b.toArray⟩ : Str) = ⟨(a ++ b).toArray⟩ := by
  show Str.mk (a.toArray ++ b.toArray) = _
  simp
/-- the loop's rest -/
def restAt (b : Int) : Nat → Int
  | 0 => b / 112
  | k + 1 => restAt b k / 26
def wordL (b : Int) : List Nat := (List.range 8).map fun k => 97 + (restAt b k % 26).toNat
def word (b : Int) : Str := ⟨(wordL b).toArray⟩
theorem word_eq (b : Int) : Str.ofString "" ++ ltr (b / 112) ++ ltr (b / 112 / 26) ++ ltr (b / 112 / 26 / 26) ++ ltr (b / 112 / 26 / 26 / 26) ++ ltr (b / 112 / 26 / 26 / 26 / 26) ++ ltr (b / 112 / 26 / 26 / 26 / 26 / 26) ++ ltr (b / 112 / 26 / 26 / 26 / 26 / 26 / 26) ++ ltr (b / 112 / 26 / 26 / 26 / 26 / 26 / 26 / 26) = word b := rfl
@[simp] theorem word_len (b : Int) : (word b).length = 8 := (rfl)
theorem pr_slc_str {s : Str} {i j : Nat} (h : s.length ≤ 16777216) (hi : i ≤ j) (hj : j ≤ s.length) : evPrim (.slc true true) [.str s, .int i, .int j] = .ok (.str ⟨((s.cps.toList.drop i).take (j - i)).toArray⟩) := by
  show okIf (decide (s.length ≤ sizeLine)) (.str (L2.cutS s (some i) (some j))) = _
  rw [decide_eq_true (show s.length ≤ sizeLine from h)]
  unfold L2.cutS
  rw [show HT.sIx s.length 0 (some (i : Int)) = min i s.length from HT.sIx_nat _ _ _, show HT.sIx s.length s.length (some (j : Int)) = min j s.length from HT.sIx_nat _ _ _, Nat.min_eq_left hj, Nat.min_eq_left (Nat.le_trans hi hj)]
  rfl
theorem pr_slc_to {s : Str} {j : Nat} (h : s.length ≤ 16777216) : evPrim (.slc false true) [.str s, .int j] = .ok (.str ⟨(s.cps.toList.take j).toArray⟩) := by
  show okIf (decide (s.length ≤ sizeLine)) (.str (L2.cutS s none (some j))) = _
  rw [decide_eq_true (show s.length ≤ sizeLine from h)]
  unfold L2.cutS
  rw [show HT.sIx s.length s.length (some (j : Int)) = min j s.length from HT.sIx_nat _ _ _, HT.sIx_none]
  show R.ok (D.str ⟨((s.cps.toList.drop 0).take (min j s.length - 0)).toArray⟩) = _
  rw [List.drop_zero, Nat.sub_zero]
  by_cases hj : j ≤ s.length
  · rw [Nat.min_eq_left hj]
  · rw [Nat.min_eq_right (by omega), List.take_of_length_le (show s.cps.toList.length ≤ s.length from Nat.le_refl _), List.take_of_length_le (show s.cps.toList.length ≤ j by show s.length ≤ j; omega)]
theorem pr_idx_str {s : Str} {i c : Nat} (h : s.length ≤ 16777216) (hc : s.cps.toList[i]? = some c) : evPrim .idx [.str s, .int i] = .ok (.str ⟨#[c]⟩) := by
  show (if s.length ≤ sizeLine then (match L2.atI s.cps.toList (i : Int) with | some c => R.ok (D.str ⟨#[c]⟩) | none => .stuck) else .stuck) = _
  rw [if_pos (show s.length ≤ sizeLine from h), atI_ok (x := c) (by omega) (by simpa using hc)]
/-- the place of the letter that differs; the name's size -/
def nmSize (b : Int) : Nat := (1 + b / 2 % 8).toNat
def nmAt (b : Int) : Nat := (b / 16 % 7 % (1 + b / 2 % 8)).toNat
/-- what _law_name tells -/
def nameOf (b : Int) (k : Nat) : Str :=
  if b % 2 = 1 then ⟨((wordL b).take (k + 1)).toArray⟩
  else ⟨((wordL b).take (nmAt b) ++ [97 + ((restAt b (nmAt b) % 26 + k) % 26).toNat] ++ ((wordL b).drop (nmAt b + 1)).take (nmSize b - (nmAt b + 1))).toArray⟩
section
variable {su : Subs} {Ps : Nat → Option Df}
theorem law_name_ok (h2 : Ps 2 = some f_law_name) (n : Nat) (b : Int) (k : Nat) : runD su Ps (n + 1) 2 [.int b, .int k] = .ok (.str (nameOf b k)) [] := by
  rw [runD_eq h2 rfl]
  have e : rngD 0 8 = [.int 0, .int 1, .int 2, .int 3, .int 4, .int 5, .int 6, .int 7] := by rfl
  have s1 : 0 < 1 + b / 2 % 8 := by omega
  have s2 : 0 ≤ b / 16 % 7 % (1 + b / 2 % 8) := Int.emod_nonneg _ (by omega)
  have s3 : b / 16 % 7 % (1 + b / 2 % 8) < 1 + b / 2 % 8 := Int.emod_lt_of_pos _ s1
  have a1 : ((nmAt b : Nat) : Int) = b / 16 % 7 % (1 + b / 2 % 8) := by unfold nmAt; rw [Int.toNat_of_nonneg s2]
  have a2 : ((nmSize b : Nat) : Int) = 1 + b / 2 % 8 := by unfold nmSize; rw [Int.toNat_of_nonneg (by omega)]
  have l1 : nmAt b < nmSize b := by omega
  have l2 : nmSize b ≤ 8 := by omega
  have hx : evPrim .idx [.str (word b), .int (b / 16 % 7 % (1 + b / 2 % 8))] = .ok (.str (ltr (restAt b (nmAt b)))) := by
    rw [← a1]
    refine pr_idx_str (by simp) ?_
    show (wordL b)[nmAt b]? = _
    unfold wordL
    rw [List.getElem?_map, List.getElem?_range (by omega)]
    rfl
  by_cases hb : b % 2 = 1
  · have := pr_slc_to (s := word b) (j := k + 1) (by simp)
    push_cast at this
    simp [f_law_name, startR, e, forL, forB, len_app, word_eq, hb, this]
    unfold nameOf
    rw [if_pos hb]
    rfl
  · have t1 := pr_slc_to (s := word b) (j := nmAt b) (by simp)
    have t2 := pr_slc_str (s := word b) (i := nmAt b + 1) (j := nmSize b) (by simp) (by omega) (by simp; omega)
    push_cast at t1 t2
    rw [a1] at t1
    rw [a1, a2] at t2
    have hw : (word b).cps.toList.length = 8 := rfl
    simp (disch := first | assumption | omega | (simp; done) | (simp only [len_app, len_mk, ltr_len, elen, List.length_take, List.length_drop]; omega)) [f_law_name, startR, e, forL, forB, len_app, word_eq, hb, s1, hx, t1, t2]
    unfold nameOf
    rw [if_neg hb]
    unfold ltr
    rw [show (#[97 + ((restAt b (nmAt b) + (k : Int)) % 26).toNat] : Array Nat) = [97 + ((restAt b (nmAt b) + (k : Int)) % 26).toNat].toArray from rfl, app_mk, app_mk]
    rw [show (restAt b (nmAt b) % 26 + (k : Int)) % 26 = (restAt b (nmAt b) + (k : Int)) % 26 by omega]
    rfl
end
end Bk

/-! E4: the laws' cells and kinds. -/
namespace Bk
open PySem
def cellAt (ns : List Int) (k : Nat) : Int := match ns[k]? with
  | some x => x % p60
  | none => 0
theorem cellAt_lt (ns : List Int) (k : Nat) : 0 ≤ cellAt ns k ∧ cellAt ns k < p60 := by
  unfold cellAt
  split
  · have := p60_pos
    exact ⟨Int.emod_nonneg _ (by omega), Int.emod_lt_of_pos _ this⟩
  · exact ⟨Int.le_refl 0, p60_pos⟩
theorem pr_idx_scr {ns : List Int} {i : Nat} {x : Int} (h : ns[i]? = some x) : evPrim .idx [.scr ns, .int i] = .ok (.int x) := by
  show ofOpt (L2.atI (ns.map D.int) (i : Int)) = _
  rw [atI_ok (x := .int x) (by omega) (by simp [h])]
  rfl
/-- kinds, as values -/
def kD (p : Str × Int) : D := .tup [.str p.1, .int p.2]
def restK (m : Int) : Nat → Int
  | 0 => m / 7
  | k + 1 => restK m k / 4 + k
def kMany (m : Int) : Nat := (1 + m % 6).toNat
def kAt (m : Int) : Nat := (m / 6 % (1 + m % 6)).toNat
def kind0 (m : Int) (k : Nat) : Str × Int := (nameOf (m / 36) k, restK m k % 4)
def kindsOf (m : Int) : List (Str × Int) := ((List.range (kMany m)).map (kind0 m)).set (kAt m) (nameOf (m / 36) (kAt m), 0)
def mixOf (cell : Int) : Int := cell * 1000003 + 4421
section
variable {su : Subs} {Ps : Nat → Option Df}
theorem law_cell_at_ok (h1 : Ps 1 = some f_law_cell_at) (n : Nat) (ns : List Int) (k : Nat) : runD su Ps (n + 1) 1 [.scr ns, .int k] = .ok (.int (cellAt ns k)) [] := by
  rw [runD_eq h1 rfl]
  by_cases hk : k < ns.length
  · have hi := pr_idx_scr (List.getElem?_eq_getElem hk)
    simp [f_law_cell_at, startR, hk, hi, cellAt]
  · simp [f_law_cell_at, startR, hk, cellAt, List.getElem?_eq_none (Nat.le_of_not_lt hk)]
theorem law_kinds_ok (h2 : Ps 2 = some f_law_name) (h3 : Ps 3 = some f_law_kinds) (n : Nat) (c : Int) (hc : 0 ≤ c ∧ c < p60) : runD su Ps (n + 2) 3 [.int c] = .ok (.tup ((kindsOf (mixOf c)).map kD)) [] := by
  rw [runD_eq h3 rfl]
  have b1 : c.natAbs < 2 ^ 250 := by have := p60_lt
                                     omega
  have m1 : (kMany (mixOf c) : Int) = 1 + mixOf c % 6 := by unfold kMany; omega
  have m2 : kMany (mixOf c) ≤ 6 := by omega
  have m3 : ((kAt (mixOf c) : Nat) : Int) = mixOf c / 6 % (1 + mixOf c % 6) := by unfold kAt; rw [Int.toNat_of_nonneg (Int.emod_nonneg _ (by omega))]
  have m4 : kAt (mixOf c) < kMany (mixOf c) := by have := Int.emod_lt_of_pos (mixOf c / 6) (show 0 < 1 + mixOf c % 6 by omega); omega
  have hR := forL_rng (f := forB ⟨su, runD su Ps (n + 1), none⟩ (.v 5) (nth f_law_kinds.body 4).loop) (kMany (mixOf c))
    (fun i => [.fz (.int c), .fz (.int (mixOf c)), .fz (.int (1 + mixOf c % 6)), .fz (.int (restK (mixOf c) i)), .own (.lst ((List.range i).map fun i => kD (kind0 (mixOf c) i))), lv i, .un]) fun i hi => by
    have := law_name_ok (su := su) (Ps := Ps) h2 n (mixOf c / 36) i
    simp (disch := first | assumption | omega | (simp <;> omega) | fail) [forB, nth, f_law_kinds, S.loop, this, List.range_succ, kind0, kD, restK, lv]
  rw [m1] at hR
  have hx : evPrim .idx [.lst ((List.range (kMany (mixOf c))).map fun i => kD (kind0 (mixOf c) i)), .int (mixOf c / 6 % (1 + mixOf c % 6))] = .ok (kD (kind0 (mixOf c) (kAt (mixOf c)))) := by
    rw [← m3]
    exact pr_idx_lst (by omega) (by simp [List.getElem?_map, List.getElem?_range, m4])
  have hs : ∀ v, evSet (.lst ((List.range (kMany (mixOf c))).map fun i => kD (kind0 (mixOf c) i))) (.int (mixOf c / 6 % (1 + mixOf c % 6))) v = .ok (.lst (((List.range (kMany (mixOf c))).map fun i => kD (kind0 (mixOf c) i)).set (kAt (mixOf c)) v)) := fun v => by
    rw [← m3]
    exact se_lst (by omega) (by simp; exact m4)
  simp only [nth, f_law_kinds, S.loop, List.getD_cons_succ, List.getD_cons_zero, List.range_zero, List.map_nil, restK, lv] at hR
  have hm : c * 1000003 + 4421 = mixOf c := rfl
  have hfin : (((List.range (kMany (mixOf c))).map fun i => kD (kind0 (mixOf c) i)).set (kAt (mixOf c)) (.tup [.str (nameOf (mixOf c / 36) (kAt (mixOf c))), .int 0])) = (kindsOf (mixOf c)).map kD := by
    unfold kindsOf
    rw [List.map_set, List.map_map]
    rfl
  have hk0 : kD (kind0 (mixOf c) (kAt (mixOf c))) = .tup [.str (nameOf (mixOf c / 36) (kAt (mixOf c))), .int (restK (mixOf c) (kAt (mixOf c)) % 4)] := rfl
  simp (disch := first | assumption | omega | (simp <;> omega) | fail) [f_law_kinds, startR, b1, hm, hR, hx, hk0, hs, hfin]
end
end Bk

/-! G1: the walk that grows patterns, for any kind of entry. -/
namespace Bk
open PySem
/-- [elt for x in l] -/
theorem ev_elt_v {α : Type} {q : En} {ρ : Rho} {elt : P} (xs : List α) (a g : α → D) {i s : Nat} (h1 : ρ[i]? = some (.fz (.lst (xs.map a)))) (hs : s < ρ.length)
    (h3 : ∀ y ∈ xs, ∀ ρ' : Rho, ρ'[s]? = some (.fz (a y)) → evP q elt ρ' = .ok (g y) ρ') (h5 : xs.length ≤ sizeLine) : evP q (.comp elt (.v s) (.var i) none) ρ = .ok (.lst (xs.map g)) ρ := by
  refine ev_comp xs a g rfl (by rw [ev_var, readV_eq, h1]; rfl) rfl (fun y hy => ?_) (set_back _ hs) h5
  have e : (ρ.set s (.fz (a y)))[s]? = some (.fz (a y)) := List.getElem?_set_self hs
  simp [cmpB, wipeR, List.set_set, h3 y hy _ e]
theorem ev_elt_b {α : Type} {q : En} {ρ : Rho} {elt : P} (xs : List α) (a g : α → D) {p s : Nat} (h1 : ρ[p]? = some (.own (.lst (xs.map a)))) (hs : s < ρ.length)
    (h3 : ∀ y ∈ xs, ∀ ρ' : Rho, ρ'[s]? = some (.fz (a y)) → evP q elt ρ' = .ok (g y) ρ') (h5 : xs.length ≤ sizeLine) : evP q (.comp elt (.v s) (.bor ⟨p, none⟩) none) ρ = .ok (.lst (xs.map g)) ρ := by
  have hs' : s < (ρ.set p .un).length := by rw [List.length_set]; exact hs
  refine ev_comp_b xs a g h1 rfl (fun y hy => ?_) (set_back _ hs') h5
  have e : ((ρ.set p .un).set s (.fz (a y)))[s]? = some (.fz (a y)) := List.getElem?_set_self hs'
  simp [cmpB, wipeR, List.set_set, h3 y hy _ e]
/-- x[2] + 1 -/
theorem ev_plus1 {q : En} {ρ : Rho} {s : Nat} {x : D} {m : Int} (h : ρ[s]? = some (.fz x)) (hx : evPrim .idx [x, .int 2] = .ok (.int m)) : evP q (.op .add [.op .idx [.var s, .cst (.int 2)], .cst (.int 1)]) ρ = .ok (.int (m + 1)) ρ := by
  simp [h, hx]
def grownP (l o : Nat) : Df := ⟨"_law_grown", ["script", "kinds", "top", "most", "made", "k", "cell", "pair", "parts", "part"], 4, [], [.own 4 (.op .lst [.call l [.var 1, .cst (.int 0)]]),
    .for (.v 5) (.op .rng1 [.op .len [.var 0]])
    [.asg (.v 6) (.op .mod [.op .idx [.var 0, .var 5], .op .pow [.cst (.int 10), .cst (.int 60)]]),
    .asg (.v 7) (.op .idx [.var 1, .op .mod [.op .add [.var 6, .var 5], .op .len [.var 1]]]),
    .asg (.v 8) (.op .lst []),
    .ifs (.chain .lt .le (.cst (.int 0)) (.op .idx [.var 7, .cst (.int 1)]) (.op .len [.bor ⟨4, none⟩]))
    [.asg (.v 8) (.op (.slc true false) [.bor ⟨4, none⟩, .ent (.op .sub [.op .len [.bor ⟨4, none⟩], .op .idx [.var 7, .cst (.int 1)]])])]
    [],
    .ifs (.and (.op .gt [.op .len [.var 8], .cst (.int 0)]) (.and (.op .lt [.op .maxl [.comp (.op .idx [.var 9, .cst (.int 1)]) (.v 9) (.var 8) none], .var 2]) (.op .lt [.op .sum [.comp (.op .add [.op .idx [.var 9, .cst (.int 2)], .cst (.int 1)]) (.v 9) (.var 8) none], .var 3])))
    [.for (.v 9) (.var 8)
    [.drop (.mut .pop ⟨4, none⟩ [])],
    .drop (.mut .app ⟨4, none⟩ [.call o [.op .idx [.var 7, .cst (.int 0)], .var 8]])]
    [.ifs (.and (.op .eq [.op .mod [.op .fdiv [.var 6, .cst (.int 7)], .cst (.int 5)], .cst (.int 1)]) (.op .lt [.op .mul [.cst (.int 2), .op .sum [.comp (.op .add [.op .idx [.var 9, .cst (.int 2)], .cst (.int 1)]) (.v 9) (.bor ⟨4, none⟩) none]], .var 3]))
    [.drop (.mut .app ⟨4, none⟩ [.op .idx [.bor ⟨4, none⟩, .op .sub [.op .len [.bor ⟨4, none⟩], .cst (.int 1)]]])]
    [.drop (.mut .app ⟨4, none⟩ [.call l [.var 1, .op .add [.op .fdiv [.var 6, .cst (.int 35)], .var 5]]])]]],
    .ret (.var 4)]⟩
theorem mu_pop2 {xs : List D} (h : xs ≠ []) : ∃ d, evMut .pop (.lst xs) [] = .ok (d, .lst xs.dropLast) := by
  cases e : xs.getLast? with
  | none => exact absurd (List.getLast?_eq_none_iff.mp e) h
  | some d => exact ⟨d, mu_pop e⟩
section
variable {su : Subs} {Ps : Nat → Option Df} {l o : Nat} {α : Type} {ent : α → D} {hi ma : α → Nat} {ns : List Int} {ks : List (Str × Int)} {top most : Nat}
def grpS (ent : α → D) (ns : List Int) (ks : List (Str × Int)) (top most : Nat) (ts : List α) (s5 s6 s7 s8 s9 : Sl) : Rho :=
  [.fz (.scr ns), .fz (.tup (ks.map kD)), .fz (.int top), .fz (.int most), .own (.lst (ts.map ent)), s5, s6, s7, s8, s9]
theorem growP_a {q : En} {s6 s7 s8 s9 : Sl} {ts : List α} {i : Nat} (ss : List S) {x : Int} {nm : Str} {m : Int} (hi : ns[i]? = some x) (hk0 : 0 < ks.length) (hk8 : ks.length ≤ 8) (hts : ts.length ≤ 100)
    (hp : ks[((x % p60 + i) % ks.length).toNat]? = some (nm, m)) (h0 : 0 ≤ m) : ∃ p : Nat, (p = 0 ∨ (p : Int) = m ∧ 0 < p ∧ p ≤ ts.length) ∧
    evSs q ((nth (grownP l o).body 1).loop.take 4 ++ ss) (grpS ent ns ks top most ts (.fz (.int i)) s6 s7 s8 s9) =
      evSs q ss (grpS ent ns ks top most ts (.fz (.int i)) (.fz (.int (x % p60))) (.fz (kD (nm, m))) (.fz (.lst ((ts.drop (ts.length - p)).map ent))) s9) := by
  have hx := pr_idx_scr hi
  have e0 : 0 ≤ (x % p60 + (i : Int)) % (ks.length : Int) := Int.emod_nonneg _ (by omega)
  have hq : evPrim .idx [.tup (ks.map kD), .int ((x % p60 + (i : Int)) % (ks.length : Int))] = .ok (kD (nm, m)) := pr_idx_tup e0 (by rw [List.getElem?_map, hp]; rfl)
  have k0 : evPrim .idx [kD (nm, m), .int 1] = .ok (.int m) := pr_idx_t1 _ _ _
  by_cases hm : 0 < m ∧ m ≤ ts.length
  · refine ⟨m.toNat, .inr (by omega), ?_⟩
    have hs := pr_slc_lfrom (xs := ts.map ent) (k := ts.length - m.toNat)
    rw [show ((ts.length - m.toNat : Nat) : Int) = (ts.length : Int) - m by omega, ← List.map_drop] at hs
    simp (disch := first | assumption | omega | (simp <;> omega) | fail) [nth, grownP, S.loop, grpS, hx, hq, k0, hm.1, hm.2, hs]
  · refine ⟨0, .inl rfl, ?_⟩
    by_cases h1 : 0 < m
    · have h2 : ¬ m ≤ ts.length := fun z => hm ⟨h1, z⟩
      simp (disch := first | assumption | omega | (simp <;> omega) | fail) [nth, grownP, S.loop, grpS, hx, hq, k0, h1, h2]
    · simp (disch := first | assumption | omega | (simp <;> omega) | fail) [nth, grownP, S.loop, grpS, hx, hq, k0, h1]
theorem popsP_ok {q : En} {s5 s6 s7 s9 : Sl} {ts : List α} {p : Nat} (hp : p ≤ ts.length) :
    ∃ s, forL (forB q (.v 9) [.drop (.mut .pop ⟨4, none⟩ [])]) ((ts.drop (ts.length - p)).map ent) (grpS ent ns ks top most ts s5 s6 s7 (.fz (.lst ((ts.drop (ts.length - p)).map ent))) s9) =
      .nx (grpS ent ns ks top most (ts.take (ts.length - p)) s5 s6 s7 (.fz (.lst ((ts.drop (ts.length - p)).map ent))) s) := by
  have h := forL_seq (f := forB q (.v 9) [.drop (.mut .pop ⟨4, none⟩ [])]) ((ts.drop (ts.length - p)).map ent) 0
    (fun k => grpS ent ns ks top most (ts.take (ts.length - k)) s5 s6 s7 (.fz (.lst ((ts.drop (ts.length - p)).map ent))) (match k with | 0 => s9 | k + 1 => .fz (((ts.drop (ts.length - p)).map ent).getD k .non)))
    fun i x hx => by
      have hi : i < p := by
        have := (List.getElem?_eq_some_iff.mp hx).1
        rw [List.length_map, List.length_drop] at this
        omega
      have hne : (ts.take (ts.length - i)).map ent ≠ [] := by
        intro z
        have := congrArg List.length z
        simp only [List.length_map, List.length_take, List.length_nil] at this
        omega
      obtain ⟨d, hd⟩ := mu_pop2 hne
      have e1 : ((ts.take (ts.length - i)).map ent).dropLast = (ts.take (ts.length - (i + 1))).map ent := by
        rw [← List.map_dropLast, List.dropLast_eq_take, List.take_take, List.length_take]
        congr 2
        omega
      rw [e1] at hd
      have e2 : ((ts.drop (ts.length - p)).map ent).getD i .non = x := by
        rw [List.getD_eq_getElem?_getD, hx]
        rfl
      rw [Nat.zero_add]
      show _ = O.nx (grpS ent ns ks top most (ts.take (ts.length - (i + 1))) s5 s6 s7 _ (.fz (((ts.drop (ts.length - p)).map ent).getD i .non)))
      rw [e2]
      simp [forB, grpS, hd, -List.map_take, -List.map_drop]
  have hl : ((ts.drop (ts.length - p)).map ent).length = p := by rw [List.length_map, List.length_drop]; omega
  rw [hl, Nat.zero_add] at h
  have e0 : ts.take (ts.length - 0) = ts := by rw [Nat.sub_zero, List.take_length]
  simp only [e0] at h
  exact ⟨_, h⟩
/-- what makes entries -/
structure GrowP (su : Subs) (Ps : Nat → Option Df) (l o : Nat) (ks : List (Str × Int)) (top most : Nat) (ent : α → D) (hi ma : α → Nat) (Good : α → Prop) : Prop where
  i1 : ∀ t, evPrim .idx [ent t, .int 1] = .ok (.int (hi t))
  i2 : ∀ t, evPrim .idx [ent t, .int 2] = .ok (.int (ma t))
  leaf : ∀ (n : Nat) (c : Int), 0 ≤ c → ∃ a, Good a ∧ runD su Ps (n + 1) l [.tup (ks.map kD), .int c] = .ok (ent a) []
  over : ∀ (n : Nat) (nm : Str) (m : Int) (T : List α), (nm, m) ∈ ks → (T.length : Int) = m → T ≠ [] → (∀ t ∈ T, Good t) → (∀ t ∈ T, hi t < top) → (T.map fun t => (ma t : Int) + 1).sum < most →
    ∃ a, Good a ∧ runD su Ps (n + 1) o [.str nm, .lst (T.map ent)] = .ok (ent a) []
theorem growP_b {Good : α → Prop} (G : GrowP su Ps l o ks top most ent hi ma Good) {n : Nat} {nm : Str} {m c : Int} {i : Nat} {s9 : Sl} {ts : List α} {p : Nat} (hts : ts ≠ []) (hl : ts.length ≤ 100) (hg : ∀ t ∈ ts, Good t) (hma : ∀ t ∈ ts, ma t ≤ 100000)
    (hp : p = 0 ∨ (p : Int) = m ∧ 0 < p ∧ p ≤ ts.length) (hin : (nm, m) ∈ ks) (hc : 0 ≤ c) :
    ∃ ts' s9', ts' ≠ [] ∧ ts'.length ≤ ts.length + 1 ∧ (∀ t ∈ ts', Good t) ∧
      evS ⟨su, runD su Ps (n + 1), none⟩ (nth (nth (grownP l o).body 1).loop 4) (grpS ent ns ks top most ts (.fz (.int i)) (.fz (.int c)) (.fz (kD (nm, m))) (.fz (.lst ((ts.drop (ts.length - p)).map ent))) s9) =
      .nx (grpS ent ns ks top most ts' (.fz (.int i)) (.fz (.int c)) (.fz (kD (nm, m))) (.fz (.lst ((ts.drop (ts.length - p)).map ent))) s9') := by
  obtain ⟨T, hT⟩ : ∃ T, T = ts.drop (ts.length - p) := ⟨_, rfl⟩
  have hTm : ∀ t ∈ T, t ∈ ts := fun t h => by rw [hT] at h; exact List.mem_of_mem_drop h
  have hTl : T.length = p := by rw [hT, List.length_drop]; omega
  rw [← hT]
  have hsmall : ∀ us : List α, (∀ t ∈ us, ma t ≤ 100000) → us.length ≤ 100 → 0 ≤ (us.map fun t => (ma t : Int) + 1).sum ∧ (us.map fun t => (ma t : Int) + 1).sum ≤ us.length * 100001 := by
    intro us
    induction us with
    | nil => intro _ _; simp
    | cons u us ih =>
      intro h h2
      have h3 := h u List.mem_cons_self
      obtain ⟨h4, h5⟩ := ih (fun t ht => h t (List.mem_cons_of_mem _ ht)) (by simp only [List.length_cons] at h2; omega)
      simp only [List.map_cons, List.sum_cons, List.length_cons]
      omega
  obtain ⟨sm0, sm1⟩ := hsmall ts hma hl
  -- a leaf
  have third : (∀ q : En, q.F = runD su Ps (n + 1) → evSs q (nth (nth (grownP l o).body 1).loop 4).els (grpS ent ns ks top most ts (.fz (.int i)) (.fz (.int c)) (.fz (kD (nm, m))) (.fz (.lst (T.map ent))) s9) = seqK q [] (evSs q (nth (nth (nth (grownP l o).body 1).loop 4).els 0).els (grpS ent ns ks top most ts (.fz (.int i)) (.fz (.int c)) (.fz (kD (nm, m))) (.fz (.lst (T.map ent))) s9))) →
      ∃ ts' s9', ts' ≠ [] ∧ ts'.length ≤ ts.length + 1 ∧ (∀ t ∈ ts', Good t) ∧ evSs ⟨su, runD su Ps (n + 1), none⟩ (nth (nth (grownP l o).body 1).loop 4).els (grpS ent ns ks top most ts (.fz (.int i)) (.fz (.int c)) (.fz (kD (nm, m))) (.fz (.lst (T.map ent))) s9) =
        .nx (grpS ent ns ks top most ts' (.fz (.int i)) (.fz (.int c)) (.fz (kD (nm, m))) (.fz (.lst (T.map ent))) s9') := fun hq => by
    obtain ⟨a, ga, ha⟩ := G.leaf n (c / 35 + i) (by omega)
    refine ⟨ts ++ [a], s9, by simp, by simp, fun u hu => ?_, ?_⟩
    · rcases List.mem_append.mp hu with h | h
      · exact hg u h
      · rw [List.mem_singleton.mp h]; exact ga
    · rw [hq _ rfl]
      simp (disch := first | assumption | omega | (simp <;> omega) | fail) [nth, grownP, S.loop, S.els, grpS, ha]
  have second : ∃ ts' s9', ts' ≠ [] ∧ ts'.length ≤ ts.length + 1 ∧ (∀ t ∈ ts', Good t) ∧ evSs ⟨su, runD su Ps (n + 1), none⟩ (nth (nth (grownP l o).body 1).loop 4).els (grpS ent ns ks top most ts (.fz (.int i)) (.fz (.int c)) (.fz (kD (nm, m))) (.fz (.lst (T.map ent))) s9) =
      .nx (grpS ent ns ks top most ts' (.fz (.int i)) (.fz (.int c)) (.fz (kD (nm, m))) (.fz (.lst (T.map ent))) s9') := by
    have hsum : ∀ q : En, evP q (.comp (.op .add [.op .idx [.var 9, .cst (.int 2)], .cst (.int 1)]) (.v 9) (.bor ⟨4, none⟩) none) (grpS ent ns ks top most ts (.fz (.int i)) (.fz (.int c)) (.fz (kD (nm, m))) (.fz (.lst (T.map ent))) s9) = .ok (.lst ((ts.map fun t => (ma t : Int) + 1).map D.int)) (grpS ent ns ks top most ts (.fz (.int i)) (.fz (.int c)) (.fz (kD (nm, m))) (.fz (.lst (T.map ent))) s9) := fun q => by
      have := ev_elt_b (q := q) (p := 4) (s := 9) (elt := .op .add [.op .idx [.var 9, .cst (.int 2)], .cst (.int 1)]) (ρ := grpS ent ns ks top most ts (.fz (.int i)) (.fz (.int c)) (.fz (kD (nm, m))) (.fz (.lst (T.map ent))) s9) ts ent (fun t => .int ((ma t : Int) + 1)) rfl (by simp [grpS]) (fun y _ ρ' h => ev_plus1 h (G.i2 y)) (by show _ ≤ 16777216; omega)
      rw [this, List.map_map]
      rfl
    obtain ⟨L2, e2⟩ : ∃ L, L = (ts.map fun t => (ma t : Int) + 1).map D.int := ⟨_, rfl⟩
    obtain ⟨S2, hS2⟩ : ∃ S, S = (ts.map fun t => (ma t : Int) + 1).sum := ⟨_, rfl⟩
    have hsm := pr_sum (ts.map fun t => (ma t : Int) + 1)
    rw [← e2, ← hS2] at hsm
    rw [← e2] at hsum
    rw [← hS2] at sm0 sm1
    unfold grpS at hsum
    have hsmall2 : S2.natAbs < 2 ^ 250 := by omega
    by_cases c1 : c / 7 % 5 = 1
    · by_cases c2 : 2 * S2 < most
      · have hlen : 0 < ts.length := by cases ts with | nil => exact absurd rfl hts | cons a b => simp
        obtain ⟨t, ht⟩ : ∃ t, ts[ts.length - 1]? = some t := ⟨_, List.getElem?_eq_getElem (show ts.length - 1 < ts.length by omega)⟩
        have hx : evPrim .idx [.lst (ts.map ent), .int ((ts.length : Int) - 1)] = .ok (ent t) := by
          rw [show ((ts.length : Int) - 1) = ((ts.length - 1 : Nat) : Int) by omega]
          exact pr_idx_lst (by omega) (by rw [List.getElem?_map, Int.toNat_natCast, ht]; rfl)
        refine ⟨ts ++ [t], s9, by simp, by simp, fun u hu => ?_, ?_⟩
        · rcases List.mem_append.mp hu with h | h
          · exact hg u h
          · rw [List.mem_singleton.mp h]; exact hg t (List.mem_of_getElem? ht)
        · simp (disch := first | assumption | omega | (simp <;> omega) | fail) [nth, grownP, S.loop, S.els, grpS, c1, c2, hsum, hsm, hx]
      · exact third fun q _ => by
          simp (disch := first | assumption | omega | (simp <;> omega) | fail) [nth, grownP, S.loop, S.els, S.thn, grpS, c1, c2, hsum, hsm]
    · exact third fun q _ => by
        simp (disch := first | assumption | omega | (simp <;> omega) | fail) [nth, grownP, S.loop, S.els, S.thn, grpS, c1]
  by_cases h0 : T = []
  · obtain ⟨ts', s', a1, a2, a3, a4⟩ := second
    refine ⟨ts', s', a1, a2, a3, ?_⟩
    rw [← a4, h0]
    simp (disch := first | assumption | omega | (simp <;> omega) | fail) [nth, grownP, S.loop, S.els, grpS, -ev_ss]
  obtain ⟨t, r, hTr⟩ : ∃ t r, T = t :: r := by
    cases T with
    | nil => exact absurd rfl h0
    | cons t r => exact ⟨t, r, rfl⟩
  have hL : T.length ≤ sizeLine := by show _ ≤ 16777216; omega
  have hp0 : 0 < p := by rw [← hTl, hTr]; simp
  have hpm : (p : Int) = m ∧ p ≤ ts.length := by rcases hp with h | h <;> omega
  have q1 : ∀ q : En, evP q (.comp (.op .idx [.var 9, .cst (.int 1)]) (.v 9) (.var 8) none) (grpS ent ns ks top most ts (.fz (.int i)) (.fz (.int c)) (.fz (kD (nm, m))) (.fz (.lst (T.map ent))) s9) = .ok (.lst (((hi t : Int) :: r.map fun t => (hi t : Int)).map D.int)) (grpS ent ns ks top most ts (.fz (.int i)) (.fz (.int c)) (.fz (kD (nm, m))) (.fz (.lst (T.map ent))) s9) := fun q => by
    have := ev_fld_v (q := q) (i := 8) (ρ := grpS ent ns ks top most ts (.fz (.int i)) (.fz (.int c)) (.fz (kD (nm, m))) (.fz (.lst (T.map ent))) s9) (s := 9) T ent (fun t => .int (hi t : Nat)) rfl (by simp [grpS]) (fun y _ => G.i1 y) hL
    rw [this, hTr]
    simp
  have q2 : ∀ q : En, evP q (.comp (.op .add [.op .idx [.var 9, .cst (.int 2)], .cst (.int 1)]) (.v 9) (.var 8) none) (grpS ent ns ks top most ts (.fz (.int i)) (.fz (.int c)) (.fz (kD (nm, m))) (.fz (.lst (T.map ent))) s9) = .ok (.lst ((T.map fun t => (ma t : Int) + 1).map D.int)) (grpS ent ns ks top most ts (.fz (.int i)) (.fz (.int c)) (.fz (kD (nm, m))) (.fz (.lst (T.map ent))) s9) := fun q => by
    have := ev_elt_v (q := q) (i := 8) (s := 9) (elt := .op .add [.op .idx [.var 9, .cst (.int 2)], .cst (.int 1)]) (ρ := grpS ent ns ks top most ts (.fz (.int i)) (.fz (.int c)) (.fz (kD (nm, m))) (.fz (.lst (T.map ent))) s9) T ent (fun t => .int ((ma t : Int) + 1)) rfl (by simp [grpS]) (fun y _ ρ' h => ev_plus1 h (G.i2 y)) hL
    rw [this, List.map_map]
    rfl
  have hmx := pr_maxl (hi t : Int) (r.map fun t => (hi t : Int))
  have hsm := pr_sum (T.map fun t => (ma t : Int) + 1)
  have hle := le_maxOf (r.map fun t => (hi t : Int)) (hi t : Int)
  obtain ⟨L1, e1⟩ : ∃ L, L = ((hi t : Int) :: r.map fun t => (hi t : Int)).map D.int := ⟨_, rfl⟩
  obtain ⟨L2, e2⟩ : ∃ L, L = (T.map fun t => (ma t : Int) + 1).map D.int := ⟨_, rfl⟩
  obtain ⟨M1, hM1⟩ : ∃ M, M = maxOf (hi t : Int) (r.map fun t => (hi t : Int)) := ⟨_, rfl⟩
  obtain ⟨S1, hS1⟩ : ∃ S, S = (T.map fun t => (ma t : Int) + 1).sum := ⟨_, rfl⟩
  rw [← e1] at q1 hmx
  rw [← e2] at q2 hsm
  rw [← hM1] at hmx hle
  rw [← hS1] at hsm
  have hTp : 0 < T.length := by omega
  by_cases c1 : M1 < top
  · by_cases c2 : S1 < most
    · obtain ⟨s, hpop⟩ := popsP_ok (ent := ent) (q := ⟨su, runD su Ps (n + 1), none⟩) (ns := ns) (ks := ks) (top := top) (most := most) (s5 := .fz (.int i)) (s6 := .fz (.int c)) (s7 := .fz (kD (nm, m))) (s9 := s9) hpm.2
      rw [← hT] at hpop
      obtain ⟨a, ga, ha⟩ := G.over n nm m T hin (by omega) h0 (fun t h => hg t (hTm t h)) (fun u hu => by
        rw [hTr] at hu
        rcases List.mem_cons.mp hu with rfl | hu
        · have := hle.1; omega
        · have := hle.2 _ (List.mem_map.mpr ⟨u, hu, rfl⟩); omega) (by rw [← hS1]; exact c2)
      refine ⟨ts.take (ts.length - p) ++ [a], s, by simp, by rw [List.length_append, List.length_take]; simp <;> omega, fun u hu => ?_, ?_⟩
      · rcases List.mem_append.mp hu with h | h
        · exact hg u (List.mem_of_mem_take h)
        · rw [List.mem_singleton.mp h]; exact ga
      · have k0 : evPrim .idx [kD (nm, m), .int 0] = .ok (.str nm) := pr_idx_t0 _ _
        unfold grpS at hpop q1 q2
        have hlt : ((ts.take (ts.length - p)).map ent).length < 16777216 := by rw [List.length_map, List.length_take]; omega
        generalize ts.take (ts.length - p) = us at *
        simp (disch := first | assumption | omega | (simp <;> omega) | fail) [nth, grownP, S.loop, grpS, q1, q2, hmx, hsm, c1, c2, hTp, hpop, ha, k0]
    · obtain ⟨ts', s', a1, a2, a3, a4⟩ := second
      refine ⟨ts', s', a1, a2, a3, ?_⟩
      rw [← a4]
      unfold grpS at q1 q2
      simp (disch := first | assumption | omega | (simp <;> omega) | fail) [nth, grownP, S.loop, S.els, grpS, q1, q2, hmx, hsm, c1, c2, hTp, -ev_ss]
  · obtain ⟨ts', s', a1, a2, a3, a4⟩ := second
    refine ⟨ts', s', a1, a2, a3, ?_⟩
    rw [← a4]
    unfold grpS at q1 q2
    simp (disch := first | assumption | omega | (simp <;> omega) | fail) [nth, grownP, S.loop, S.els, grpS, q1, q2, hmx, hsm, c1, hTp, -ev_ss]
end
end Bk

/-! G2: what is grown, of patterns. -/
namespace Bk
open PySem
section
variable {su : Subs} {Ps : Nat → Option Df} {l o g : Nat} {α : Type} {ent : α → D} {hi ma : α → Nat} {Good : α → Prop}
theorem law_grownP_ok {ks : List (Str × Int)} {top most : Nat} (G : GrowP su Ps l o ks top most ent hi ma Good) (hma : ∀ t, Good t → ma t ≤ 100000) (h6 : Ps g = some (grownP l o)) (n : Nat) (ns : List Int) (hns : ns.length ≤ 63)
    (hk0 : 0 < ks.length) (hk8 : ks.length ≤ 8) (hk2 : ∀ p ∈ ks, 0 ≤ p.2) :
    ∃ ts : List α, (∀ t ∈ ts, Good t) ∧ ts.length ≤ 64 ∧ runD su Ps (n + 2) g [.scr ns, .tup (ks.map kD), .int top, .int most] = .ok (.lst (ts.map ent)) [] := by
  obtain ⟨a0, ga0, ha0⟩ := G.leaf n 0 (by omega)
  have loop := forL_inv (f := forB ⟨su, runD su Ps (n + 1), none⟩ (.v 5) (nth (grownP l o).body 1).loop) (Q := fun o => ∃ ts s5 s6 s7 s8 s9, (∀ t ∈ ts, Good t) ∧ ts.length ≤ 64 ∧ o = .nx (grpS ent ns ks top most ts s5 s6 s7 s8 s9))
    (fun i ρ => ∃ ts s5 s6 s7 s8 s9, ts ≠ [] ∧ ts.length ≤ i + 1 ∧ (∀ t ∈ ts, Good t) ∧ ρ = grpS ent ns ks top most ts s5 s6 s7 s8 s9) (rngD 0 ns.length) 0
    (grpS ent ns ks top most [a0] .un .un .un .un .un) ⟨_, _, _, _, _, _, by simp, by simp, fun t ht => by rw [List.mem_singleton.mp ht]; exact ga0, rfl⟩
    (fun i x ρ hx hI => by
      obtain ⟨rfl, hi⟩ := rngD_get hx
      obtain ⟨ts, s5, s6, s7, s8, s9, a1, a2, a3, rfl⟩ := hI
      have hi' : i < ns.length := by omega
      left
      have hxi : ns[i]? = some ns[i] := List.getElem?_eq_getElem hi'
      have hj1 := Int.emod_nonneg (ns[i] % p60 + (i : Int)) (show (ks.length : Int) ≠ 0 by omega)
      have hj2 := Int.emod_lt_of_pos (ns[i] % p60 + (i : Int)) (show (0 : Int) < ks.length by omega)
      obtain ⟨⟨nm, m⟩, hp⟩ : ∃ p, ks[((ns[i] % p60 + (i : Int)) % (ks.length : Int)).toNat]? = some p := ⟨_, List.getElem?_eq_getElem (show ((ns[i] % p60 + (i : Int)) % (ks.length : Int)).toNat < ks.length by omega)⟩
      have hpm := List.mem_of_getElem? hp
      obtain ⟨p, hp1, hA⟩ := growP_a (l := l) (o := o) (ent := ent) (q := ⟨su, runD su Ps (n + 1), none⟩) (top := top) (most := most) (s6 := s6) (s7 := s7) (s8 := s8) (s9 := s9) (ts := ts) [nth (nth (grownP l o).body 1).loop 4] hxi hk0 hk8 (by omega) hp (hk2 _ hpm)
      obtain ⟨ts', s9', b1, b2, b3, b4⟩ := growP_b (ns := ns) (i := i) (s9 := s9) G (n := n) a1 (by omega) a3 (fun t ht => hma t (a3 t ht)) hp1 hpm (Int.emod_nonneg ns[i] (show p60 ≠ 0 by have := p60_pos; omega))
      have e1 : forB ⟨su, runD su Ps (n + 1), none⟩ (.v 5) (nth (grownP l o).body 1).loop (.int (0 + (i : Nat))) (grpS ent ns ks top most ts s5 s6 s7 s8 s9) = evSs ⟨su, runD su Ps (n + 1), none⟩ ((nth (grownP l o).body 1).loop.take 4 ++ [nth (nth (grownP l o).body 1).loop 4]) (grpS ent ns ks top most ts (.fz (.int i)) s6 s7 s8 s9) := by
        rw [Int.zero_add]; rfl
      have e3 := (e1.trans (hA.trans ((ev_ss _ _ _ _).trans (congrArg (seqK ⟨su, runD su Ps (n + 1), none⟩ []) b4)))).trans (ev_ss_nil ⟨su, runD su Ps (n + 1), none⟩ _)
      exact ⟨_, e3, ts', _, _, _, _, _, b1, by omega, b3, rfl⟩)
    (fun ρ hI => by
      obtain ⟨ts, s5, s6, s7, s8, s9, a1, a2, a3, rfl⟩ := hI
      rw [rngD_len] at a2
      exact ⟨ts, s5, s6, s7, s8, s9, a3, by omega, rfl⟩)
  obtain ⟨ts, s5, s6, s7, s8, s9, b1, b2, b3⟩ := loop
  refine ⟨ts, b1, b2, ?_⟩
  rw [runD_eq h6 rfl]
  have hlen : (ns.length : Int) < 4611686018427387904 := by omega
  unfold grpS at b3
  simp only [nth, grownP, S.loop, List.getD_cons_succ, List.getD_cons_zero, List.map_cons, List.map_nil] at b3
  simp (disch := first | assumption | omega | (simp <;> omega) | fail) [grownP, startR, ha0, b3]
end
end Bk

/-! G3: patterns. -/
namespace Bk
open PySem
inductive Pt where | call (q k : Nat) | mk (nm : Str) (ks : List Pt)
mutual
def Pt.d : Pt → D
  | .call q k => .tup [.str (Str.ofString "?"), .int q, .int k]
  | .mk nm ks => .tup (.str nm :: Pt.dL ks)
def Pt.dL : List Pt → List D
  | [] => []
  | t :: ts => t.d :: Pt.dL ts
end
mutual
def Pt.high : Pt → Nat
  | .call _ _ => 1
  | .mk _ ks => 1 + Pt.highL ks
def Pt.highL : List Pt → Nat
  | [] => 0
  | t :: ts => max t.high (Pt.highL ts)
end
mutual
def Pt.many : Pt → Nat
  | .call _ _ => 0
  | .mk _ ks => 1 + Pt.manyL ks
def Pt.manyL : List Pt → Nat
  | [] => 0
  | t :: ts => t.many + Pt.manyL ts
end
mutual
/-- knots and calls -/
def Pt.size : Pt → Nat
  | .call _ _ => 1
  | .mk _ ks => 1 + Pt.sizeL ks
def Pt.sizeL : List Pt → Nat
  | [] => 0
  | t :: ts => t.size + Pt.sizeL ts
end
mutual
/-- each knot is of a kind, each call of one of twenty states and three kids -/
def Pt.kin (ks : List (Str × Int)) : Pt → Prop
  | .call q k => q < 20 ∧ k < 3
  | .mk nm us => (nm, (us.length : Int)) ∈ ks ∧ Pt.kinL ks us
def Pt.kinL (ks : List (Str × Int)) : List Pt → Prop
  | [] => True
  | t :: ts => t.kin ks ∧ Pt.kinL ks ts
end
theorem Pt.dL_map : ∀ ts : List Pt, Pt.dL ts = ts.map Pt.d
  | [] => rfl
  | t :: ts => by simp [Pt.dL, Pt.dL_map ts]
theorem Pt.high_mem {t : Pt} : ∀ {ts : List Pt}, t ∈ ts → t.high ≤ Pt.highL ts
  | [], h => by cases h
  | a :: ts, h => by
    rw [Pt.highL]
    rcases List.mem_cons.mp h with rfl | h
    · omega
    · have := Pt.high_mem h; omega
theorem Pt.size_mem {t : Pt} : ∀ {ts : List Pt}, t ∈ ts → t.size ≤ Pt.sizeL ts
  | [], h => by cases h
  | a :: ts, h => by
    rw [Pt.sizeL]
    rcases List.mem_cons.mp h with rfl | h
    · omega
    · have := Pt.size_mem h; omega
theorem Pt.kin_mem {ks : List (Str × Int)} {t : Pt} : ∀ {ts : List Pt}, Pt.kinL ks ts → t ∈ ts → t.kin ks
  | [], _, h => by cases h
  | a :: ts, f, h => by
    rw [Pt.kinL] at f
    rcases List.mem_cons.mp h with rfl | h
    · exact f.1
    · exact Pt.kin_mem f.2 h
theorem Pt.kinL_of {ks : List (Str × Int)} : ∀ {ts : List Pt}, (∀ t ∈ ts, t.kin ks) → Pt.kinL ks ts
  | [], _ => by rw [Pt.kinL]; trivial
  | t :: ts, h => by rw [Pt.kinL]; exact ⟨h t List.mem_cons_self, Pt.kinL_of fun u hu => h u (List.mem_cons_of_mem _ hu)⟩
theorem Pt.size_pos : ∀ t : Pt, 1 ≤ t.size
  | .call _ _ => by rw [Pt.size]; omega
  | .mk _ _ => by rw [Pt.size]; omega
theorem Pt.size_len : ∀ ts : List Pt, ts.length ≤ Pt.sizeL ts
  | [] => Nat.le_refl _
  | t :: ts => by
    have := Pt.size_len ts
    have := Pt.size_pos t
    rw [Pt.sizeL, List.length_cons]; omega
mutual
/-- calls are few where knots are, no knot having more than three kids -/
theorem Pt.size_le {ks : List (Str × Int)} (hk : ∀ p ∈ ks, p.2 ≤ 3) : ∀ t : Pt, t.kin ks → t.size ≤ 3 * t.many + 1
  | .call q k, _ => by rw [Pt.size]; omega
  | .mk nm us, h => by
    rw [Pt.kin] at h
    have h1 := hk _ h.1
    have h2 := Pt.sizeL_le hk us h.2
    have h3 : (us.length : Int) ≤ 3 := h1
    rw [Pt.size, Pt.many]; omega
theorem Pt.sizeL_le {ks : List (Str × Int)} (hk : ∀ p ∈ ks, p.2 ≤ 3) : ∀ ts : List Pt, Pt.kinL ks ts → Pt.sizeL ts ≤ 3 * Pt.manyL ts + ts.length
  | [], _ => by rw [Pt.sizeL]; omega
  | t :: ts, h => by
    rw [Pt.kinL] at h
    have h1 := Pt.size_le hk t h.1
    have h2 := Pt.sizeL_le hk ts h.2
    rw [Pt.sizeL, Pt.manyL, List.length_cons]; omega
end
theorem Pt.manyL_sum : ∀ ts : List Pt, (ts.map fun t => (t.many : Int)).sum = (Pt.manyL ts : Int)
  | [] => rfl
  | t :: ts => by
    have := Pt.manyL_sum ts
    rw [Pt.manyL]
    simp only [List.map_cons, List.sum_cons, this]
    omega
theorem Pt.manyL_sum1 : ∀ ts : List Pt, (ts.map fun t => (t.many : Int) + 1).sum = (Pt.manyL ts : Int) + ts.length
  | [] => rfl
  | t :: ts => by
    have := Pt.manyL_sum1 ts
    rw [Pt.manyL]
    simp only [List.map_cons, List.sum_cons, this, List.length_cons]
    omega
theorem Pt.highL_max (t : Pt) (ts : List Pt) : maxOf t.high (ts.map fun t => (t.high : Int)) = (Pt.highL (t :: ts) : Int) := by
  have up : ∀ (us : List Pt) (b : Int), (∀ x ∈ us, (x.high : Int) ≤ b) → 0 ≤ b → ((Pt.highL us : Nat) : Int) ≤ b := by
    intro us
    induction us with
    | nil => intro b _ h; simpa [Pt.highL] using h
    | cons u us ih =>
      intro b h h0
      rw [Pt.highL]
      have h1 := h u List.mem_cons_self
      have h2 := ih b (fun x hx => h x (List.mem_cons_of_mem _ hx)) h0
      omega
  have h1 : maxOf t.high (ts.map fun t => (t.high : Int)) ≤ (Pt.highL (t :: ts) : Int) := maxOf_le _ _ _ (by have := Pt.high_mem (ts := t :: ts) List.mem_cons_self; omega) fun x hx => by
    obtain ⟨u, hu, rfl⟩ := List.mem_map.mp hx
    have := Pt.high_mem (ts := t :: ts) (List.mem_cons_of_mem _ hu)
    omega
  obtain ⟨h2, h3⟩ := le_maxOf (ts.map fun t => (t.high : Int)) t.high
  have h4 := up (t :: ts) (maxOf t.high (ts.map fun t => (t.high : Int))) (fun x hx => by
    rcases List.mem_cons.mp hx with rfl | hx
    · exact h2
    · exact h3 _ (List.mem_map.mpr ⟨x, hx, rfl⟩)) (by omega)
  omega
theorem Pt.highL_le {b : Nat} : ∀ {ts : List Pt}, (∀ t ∈ ts, t.high ≤ b) → Pt.highL ts ≤ b
  | [], _ => by simp [Pt.highL]
  | t :: ts, h => by
    have h1 := h t List.mem_cons_self
    have h2 := Pt.highL_le (ts := ts) fun u hu => h u (List.mem_cons_of_mem _ hu)
    rw [Pt.highL]
    omega
/-! names are no question mark -/
theorem nameOf_ne (b : Int) (k : Nat) : nameOf b k ≠ Str.ofString "?" := by
  have hq : (Str.ofString "?").cps.toList = [63] := by decide
  have hw : ∀ c ∈ wordL b, 97 ≤ c := fun c hc => by
    unfold wordL at hc
    obtain ⟨i, _, rfl⟩ := List.mem_map.mp hc
    omega
  have hall : ∀ c ∈ (nameOf b k).cps.toList, 97 ≤ c := fun c hc => by
    unfold nameOf at hc
    split at hc
    · exact hw c (List.mem_of_mem_take hc)
    · have hc : c ∈ (wordL b).take (nmAt b) ++ [97 + ((restAt b (nmAt b) % 26 + k) % 26).toNat] ++ ((wordL b).drop (nmAt b + 1)).take (nmSize b - (nmAt b + 1)) := by simpa using hc
      rcases List.mem_append.mp hc with hc | hc
      · rcases List.mem_append.mp hc with hc | hc
        · exact hw c (List.mem_of_mem_take hc)
        · rw [List.mem_singleton.mp hc]; omega
      · exact hw c (List.mem_of_mem_drop (List.mem_of_mem_take hc))
  intro e
  rw [e, hq] at hall
  have := hall 63 (List.mem_singleton.mpr rfl)
  omega
end Bk

/-! G5: entries of patterns without texts. -/
namespace Bk
open PySem
def pT (t : Pt) : D := .tup [t.d, .int t.high, .int t.many]
theorem pT0 (t : Pt) : evPrim .idx [pT t, .int 0] = .ok t.d := pr_idx_t0 _ _
theorem pT1 (t : Pt) : evPrim .idx [pT t, .int 1] = .ok (.int t.high) := pr_idx_t1 _ _ _
theorem pT2 (t : Pt) : evPrim .idx [pT t, .int 2] = .ok (.int t.many) := pr_idx_t2 _ _ _ _
section
variable {su : Subs} {Ps : Nat → Option Df}
theorem leaf4_ok (h26 : Ps 31 = some f_law_leaf_4) {ks : List (Str × Int)} (hk8 : ks.length ≤ 8) (hz : ∃ s, (s, 0) ∈ ks) (n : Nat) (c : Int) (hc : 0 ≤ c) : ∃ t : Pt, (t.kin ks ∧ t.high = 1 ∧ t.many ≤ 1) ∧ runD su Ps (n + 1) 31 [.tup (ks.map kD), .int c] = .ok (pT t) [] := by
  obtain ⟨lf, hlf⟩ : ∃ lf, lf = (ks.filter fun y => decide (y.2 = 0)).map (·.1) := ⟨_, rfl⟩
  have hlf0 : 0 < lf.length := by
    obtain ⟨s, hs⟩ := hz
    have : s ∈ lf := by rw [hlf]; exact List.mem_map.mpr ⟨(s, 0), List.mem_filter.mpr ⟨hs, by simp⟩, rfl⟩
    exact List.length_pos_of_mem this
  have hlk : ∀ s ∈ lf, (s, 0) ∈ ks := fun s hs => by
    rw [hlf] at hs
    obtain ⟨p, hp, rfl⟩ := List.mem_map.mp hs
    obtain ⟨h1, h2⟩ := List.mem_filter.mp hp
    have h3 : p.2 = 0 := of_decide_eq_true h2
    rw [← h3]; exact h1
  have hlc : evP ⟨su, runD su Ps n, none⟩ (.comp (.op .idx [.var 2, .cst (.int 0)]) (.v 2) (.var 0) (some (.op .eq [.op .idx [.var 2, .cst (.int 1)], .cst (.int 0)]))) [.fz (.tup (ks.map kD)), .fz (.int c), .un, .un, .un, .un] = .ok (.lst (lf.map D.str)) [.fz (.tup (ks.map kD)), .fz (.int c), .un, .un, .un, .un] := by
    have := ev_fldIf (q := ⟨su, runD su Ps n, none⟩) (it := .var 0) (ρ := [.fz (.tup (ks.map kD)), .fz (.int c), .un, .un, .un, .un]) (s := 2) (i := 1) (j := 0) (c := 0) ks kD (fun p => .str p.1) (fun p => p.2) (x := .tup (ks.map kD)) rfl (by simp) rfl (by simp) (fun p _ => pr_idx_t0 _ _) (fun p _ => pr_idx_t1 _ _ _) (by show _ ≤ 16777216; omega)
    rw [this, hlf, List.map_map]
    rfl
  rw [runD_eq h26 rfl]
  by_cases c1 : 0 < c % 3
  · obtain ⟨q, hq⟩ : ∃ q : Nat, c / 3 % 20 = (q : Nat) := ⟨_, (Int.toNat_of_nonneg (Int.emod_nonneg _ (by decide))).symm⟩
    obtain ⟨k, hk⟩ : ∃ k : Nat, c / 60 % 3 = (k : Nat) := ⟨_, (Int.toNat_of_nonneg (Int.emod_nonneg _ (by decide))).symm⟩
    have hq2 : q < 20 := by omega
    have hk2 : k < 3 := by omega
    refine ⟨.call q k, ⟨by rw [Pt.kin]; omega, by rw [Pt.high], by rw [Pt.many]; omega⟩, ?_⟩
    simp (disch := first | assumption | omega | (simp <;> omega) | (simp only [len_app] <;> omega) | fail) [f_law_leaf_4, startR, hlc, c1, hq, hk, pT, Pt.d, Pt.high, Pt.many]
  · have m1 := Int.emod_nonneg (c / 3) (show (lf.length : Int) ≠ 0 by omega)
    have m2 := Int.emod_lt_of_pos (c / 3) (show (0 : Int) < lf.length by omega)
    obtain ⟨s, hs⟩ : ∃ s, lf[(c / 3 % (lf.length : Int)).toNat]? = some s := ⟨_, List.getElem?_eq_getElem (show (c / 3 % (lf.length : Int)).toNat < lf.length by omega)⟩
    have hx : evPrim .idx [.lst (lf.map D.str), .int (c / 3 % (lf.length : Int))] = .ok (.str s) := pr_idx_lst m1 (by rw [List.getElem?_map, hs]; rfl)
    refine ⟨.mk s [], ⟨by rw [Pt.kin, Pt.kinL]; exact ⟨hlk s (List.mem_of_getElem? hs), trivial⟩, by rw [Pt.high, Pt.highL], by rw [Pt.many, Pt.manyL]; omega⟩, ?_⟩
    simp (disch := first | assumption | omega | (simp <;> omega) | fail) [f_law_leaf_4, startR, hlc, c1, hx, pT, Pt.d, Pt.dL, Pt.high, Pt.highL, Pt.many, Pt.manyL]
theorem over4_ok (h25 : Ps 30 = some f_law_over_4) {ks : List (Str × Int)} (hk : ∀ p ∈ ks, p.1.length ≤ 8) (n : Nat) (nm : Str) (ts : List Pt) (h0 : ts ≠ []) (hf : Pt.kinL ks ts) (hn : nm.length ≤ 8) (hm : Pt.sizeL ts ≤ 1000) : runD su Ps (n + 1) 30 [.str nm, .lst (ts.map pT)] = .ok (pT (.mk nm ts)) [] := by
  rw [runD_eq h25 rfl]
  obtain ⟨t, r, rfl⟩ : ∃ t r, ts = t :: r := by
    cases ts with
    | nil => exact absurd rfl h0
    | cons t r => exact ⟨t, r, rfl⟩
  have hlen := Pt.size_len (t :: r)
  have hL : (t :: r).length ≤ sizeLine := by show _ ≤ 16777216; omega
  have c0 : ∀ (q : En) (s1 s2 s3 s4 : Sl), evP q (.comp (.op .idx [.var 2, .cst (.int 0)]) (.v 2) (.var 1) none) [.fz (.str nm), .fz (.lst ((t :: r).map pT)), s1, s2, s3, s4] = .ok (.lst (Pt.dL (t :: r))) [.fz (.str nm), .fz (.lst ((t :: r).map pT)), s1, s2, s3, s4] := fun q s1 s2 s3 s4 => by
    rw [Pt.dL_map]
    exact ev_fld_v (t :: r) pT Pt.d rfl (by simp) (fun y _ => pT0 y) hL
  have c1 : ∀ (q : En) (s1 s2 s3 s4 : Sl), evP q (.comp (.op .idx [.var 2, .cst (.int 1)]) (.v 2) (.var 1) none) [.fz (.str nm), .fz (.lst ((t :: r).map pT)), s1, s2, s3, s4] = .ok (.lst (((t.high : Int) :: r.map fun t => (t.high : Int)).map D.int)) [.fz (.str nm), .fz (.lst ((t :: r).map pT)), s1, s2, s3, s4] := fun q s1 s2 s3 s4 => by
    have := ev_fld_v (q := q) (i := 1) (ρ := [.fz (.str nm), .fz (.lst ((t :: r).map pT)), s1, s2, s3, s4]) (s := 2) (t :: r) pT (fun t => .int (t.high : Nat)) rfl (by simp) (fun y _ => pT1 y) hL
    rw [this]
    simp
  have c2 : ∀ (q : En) (s1 s2 s3 s4 : Sl), evP q (.comp (.op .idx [.var 2, .cst (.int 2)]) (.v 2) (.var 1) none) [.fz (.str nm), .fz (.lst ((t :: r).map pT)), s1, s2, s3, s4] = .ok (.lst (((t :: r).map fun t => (t.many : Int)).map D.int)) [.fz (.str nm), .fz (.lst ((t :: r).map pT)), s1, s2, s3, s4] := fun q s1 s2 s3 s4 => by
    have := ev_fld_v (q := q) (i := 1) (ρ := [.fz (.str nm), .fz (.lst ((t :: r).map pT)), s1, s2, s3, s4]) (s := 2) (t :: r) pT (fun t => .int (t.many : Nat)) rfl (by simp) (fun y _ => pT2 y) hL
    rw [this]
    simp
  have hd : (Pt.dL (t :: r)).length = (t :: r).length := by rw [Pt.dL_map, List.length_map]
  have hmx := pr_maxl (t.high : Int) (r.map fun t => (t.high : Int))
  rw [Pt.highL_max] at hmx
  have hsm := pr_sum ((t :: r).map fun t => (t.many : Int))
  rw [Pt.manyL_sum] at hsm
  obtain ⟨L1, e1⟩ : ∃ L, L = ((t.high : Int) :: r.map fun t => (t.high : Int)).map D.int := ⟨_, rfl⟩
  obtain ⟨L2, e2⟩ : ∃ L, L = ((t :: r).map fun t => (t.many : Int)).map D.int := ⟨_, rfl⟩
  rw [← e1] at c1 hmx
  rw [← e2] at c2 hsm
  generalize hT : t :: r = T at *
  simp (disch := first | assumption | omega | (simp <;> omega) | (simp only [len_app] <;> omega) | fail) [f_law_over_4, startR, c0, c1, c2, hmx, hsm, pT, Pt.d, Pt.high, Pt.many, h0]
end
end Bk

/-! E6: the walk of the script. -/
namespace Bk
open PySem
/-- the walk's text: l makes a leaf, o a knot over others -/
def grownD (l o : Nat) : Df := ⟨"_law_grown", ["script", "kinds", "top", "most", "pair", "leaves", "made", "k", "cell", "parts", "part"], 4, [], [.asg (.v 5) (.comp (.op .idx [.var 4, .cst (.int 0)]) (.v 4) (.var 1) (some (.op .eq [.op .idx [.var 4, .cst (.int 1)], .cst (.int 0)]))),
    .own 6 (.op .lst [.call l [.op .idx [.var 5, .cst (.int 0)]]]),
    .for (.v 7) (.op .rng1 [.op .len [.var 0]])
    [.asg (.v 8) (.op .mod [.op .idx [.var 0, .var 7], .op .pow [.cst (.int 10), .cst (.int 60)]]),
    .asg (.v 4) (.op .idx [.var 1, .op .mod [.op .add [.var 8, .var 7], .op .len [.var 1]]]),
    .asg (.v 9) (.op .lst []),
    .ifs (.chain .lt .le (.cst (.int 0)) (.op .idx [.var 4, .cst (.int 1)]) (.op .len [.bor ⟨6, none⟩]))
    [.asg (.v 9) (.op (.slc true false) [.bor ⟨6, none⟩, .ent (.op .sub [.op .len [.bor ⟨6, none⟩], .op .idx [.var 4, .cst (.int 1)]])])]
    [],
    .ifs (.and (.op .gt [.op .len [.var 9], .cst (.int 0)]) (.and (.op .lt [.op .maxl [.comp (.op .idx [.var 10, .cst (.int 1)]) (.v 10) (.var 9) none], .var 2]) (.op .lt [.op .sum [.comp (.op .idx [.var 10, .cst (.int 2)]) (.v 10) (.var 9) none], .var 3])))
    [.for (.v 10) (.var 9)
    [.drop (.mut .pop ⟨6, none⟩ [])],
    .drop (.mut .app ⟨6, none⟩ [.call o [.op .idx [.var 4, .cst (.int 0)], .var 9]])]
    [.ifs (.and (.op .eq [.op .mod [.op .fdiv [.var 8, .cst (.int 7)], .cst (.int 5)], .cst (.int 1)]) (.op .lt [.op .mul [.cst (.int 2), .op .sum [.comp (.op .idx [.var 10, .cst (.int 2)]) (.v 10) (.bor ⟨6, none⟩) none]], .var 3]))
    [.drop (.mut .app ⟨6, none⟩ [.op .idx [.bor ⟨6, none⟩, .op .sub [.op .len [.bor ⟨6, none⟩], .cst (.int 1)]]])]
    [.drop (.mut .app ⟨6, none⟩ [.call l [.op .idx [.var 5, .op .mod [.op .fdiv [.var 8, .cst (.int 35)], .op .len [.var 5]]]]])]]],
    .ret (.var 6)]⟩
mutual
/-- each knot is of a kind -/
def Tr.kin (ks : List (Str × Int)) : Tr → Prop
  | .mk nm us => (nm, (us.length : Int)) ∈ ks ∧ Tr.kinL ks us
def Tr.kinL (ks : List (Str × Int)) : List Tr → Prop
  | [] => True
  | t :: ts => t.kin ks ∧ Tr.kinL ks ts
end
mutual
theorem Tr.kin_fit {ks : List (Str × Int)} (hk : ∀ p ∈ ks, p.1.length ≤ 8) : ∀ t : Tr, t.kin ks → t.fit
  | .mk nm us, h => by
    unfold Tr.kin at h
    unfold Tr.fit
    exact ⟨hk _ h.1, Tr.kinL_fit hk us h.2⟩
theorem Tr.kinL_fit {ks : List (Str × Int)} (hk : ∀ p ∈ ks, p.1.length ≤ 8) : ∀ ts : List Tr, Tr.kinL ks ts → Tr.fitL ts
  | [], _ => by unfold Tr.fitL; trivial
  | t :: ts, h => by
    unfold Tr.kinL at h
    unfold Tr.fitL
    exact ⟨Tr.kin_fit hk t h.1, Tr.kinL_fit hk ts h.2⟩
end
theorem Tr.kinL_of {ks : List (Str × Int)} : ∀ {ts : List Tr}, (∀ t ∈ ts, t.kin ks) → Tr.kinL ks ts
  | [], _ => by unfold Tr.kinL; trivial
  | t :: ts, h => by unfold Tr.kinL; exact ⟨h t List.mem_cons_self, Tr.kinL_of fun u hu => h u (List.mem_cons_of_mem _ hu)⟩
/-- a tree of the pile -/
structure Grn (ks : List (Str × Int)) (top most : Nat) (t : Tr) : Prop where
  kin : t.kin ks
  high : t.high ≤ max 1 top
  many : t.many ≤ max 1 most
theorem Tr.manyL_le {b : Nat} : ∀ {ts : List Tr}, (∀ t ∈ ts, t.many ≤ b) → Tr.manyL ts ≤ ts.length * b
  | [], _ => by simp [Tr.manyL]
  | t :: ts, h => by
    have h1 := h t List.mem_cons_self
    have h2 := Tr.manyL_le (ts := ts) fun u hu => h u (List.mem_cons_of_mem _ hu)
    unfold Tr.manyL
    rw [List.length_cons, Nat.add_mul]
    omega
theorem Tr.highL_le {b : Nat} : ∀ {ts : List Tr}, (∀ t ∈ ts, t.high ≤ b) → Tr.highL ts ≤ b
  | [], _ => by simp [Tr.highL]
  | t :: ts, h => by
    have h1 := h t List.mem_cons_self
    have h2 := Tr.highL_le (ts := ts) fun u hu => h u (List.mem_cons_of_mem _ hu)
    unfold Tr.highL
    omega
theorem mu_pop' {xs : List D} (h : xs ≠ []) : ∃ d, evMut .pop (.lst xs) [] = .ok (d, .lst xs.dropLast) := by
  cases e : xs.getLast? with
  | none => exact absurd (List.getLast?_eq_none_iff.mp e) h
  | some d => exact ⟨d, mu_pop e⟩
section
variable {su : Subs} {Ps : Nat → Option Df} {l o : Nat} {ent : Tr → D} {ns : List Int} {ks : List (Str × Int)} {top most : Nat} {lf : List Str}
/-- the walk's slots -/
def grnS (ent : Tr → D) (ns : List Int) (ks : List (Str × Int)) (top most : Nat) (lf : List Str) (s4 : Sl) (ts : List Tr) (s7 s8 s9 s10 : Sl) : Rho :=
  [.fz (.scr ns), .fz (.tup (ks.map kD)), .fz (.int top), .fz (.int most), s4, .fz (.lst (lf.map D.str)), .own (.lst (ts.map ent)), s7, s8, s9, s10]
/-- the first four statements of a turn -/
theorem grow_a {q : En} {s4 s8 s9 s10 : Sl} {ts : List Tr} {i : Nat} (ss : List S) {x : Int} {nm : Str} {m : Int} (hi : ns[i]? = some x) (hk0 : 0 < ks.length) (hk8 : ks.length ≤ 8) (hts : ts.length ≤ 100)
    (hp : ks[((x % p60 + i) % ks.length).toNat]? = some (nm, m)) (h0 : 0 ≤ m) : ∃ p : Nat, (p = 0 ∨ (p : Int) = m ∧ 0 < p ∧ p ≤ ts.length) ∧
    evSs q ((nth (grownD l o).body 2).loop.take 4 ++ ss) (grnS ent ns ks top most lf s4 ts (.fz (.int i)) s8 s9 s10) =
      evSs q ss (grnS ent ns ks top most lf (.fz (kD (nm, m))) ts (.fz (.int i)) (.fz (.int (x % p60))) (.fz (.lst ((ts.drop (ts.length - p)).map ent))) s10) := by
  have hx := pr_idx_scr hi
  have e0 : 0 ≤ (x % p60 + (i : Int)) % (ks.length : Int) := Int.emod_nonneg _ (by omega)
  have hq : evPrim .idx [.tup (ks.map kD), .int ((x % p60 + (i : Int)) % (ks.length : Int))] = .ok (kD (nm, m)) := pr_idx_tup e0 (by rw [List.getElem?_map, hp]; rfl)
  have k0 : evPrim .idx [kD (nm, m), .int 1] = .ok (.int m) := pr_idx_t1 _ _ _
  by_cases hm : 0 < m ∧ m ≤ ts.length
  · refine ⟨m.toNat, .inr (by omega), ?_⟩
    have hs := pr_slc_lfrom (xs := ts.map ent) (k := ts.length - m.toNat)
    rw [show ((ts.length - m.toNat : Nat) : Int) = (ts.length : Int) - m by omega, ← List.map_drop] at hs
    simp (disch := first | assumption | omega | (simp <;> omega) | fail) [nth, grownD, S.loop, grnS, hx, hq, k0, hm.1, hm.2, hs]
  · refine ⟨0, .inl rfl, ?_⟩
    by_cases h1 : 0 < m
    · have h2 : ¬ m ≤ ts.length := fun z => hm ⟨h1, z⟩
      simp (disch := first | assumption | omega | (simp <;> omega) | fail) [nth, grownD, S.loop, grnS, hx, hq, k0, h1, h2]
    · simp (disch := first | assumption | omega | (simp <;> omega) | fail) [nth, grownD, S.loop, grnS, hx, hq, k0, h1]
end
end Bk

/-! E7: the walk of the script, its turn. -/
namespace Bk
open PySem
section
variable {su : Subs} {Ps : Nat → Option Df} {l o : Nat} {ent : Tr → D} {ns : List Int} {ks : List (Str × Int)} {top most : Nat} {lf : List Str}
theorem pops_ok {q : En} {s4 s7 s8 s10 : Sl} {ts : List Tr} {p : Nat} (hp : p ≤ ts.length) :
    ∃ s, forL (forB q (.v 10) [.drop (.mut .pop ⟨6, none⟩ [])]) ((ts.drop (ts.length - p)).map ent) (grnS ent ns ks top most lf s4 ts s7 s8 (.fz (.lst ((ts.drop (ts.length - p)).map ent))) s10) =
      .nx (grnS ent ns ks top most lf s4 (ts.take (ts.length - p)) s7 s8 (.fz (.lst ((ts.drop (ts.length - p)).map ent))) s) := by
  have h := forL_seq (f := forB q (.v 10) [.drop (.mut .pop ⟨6, none⟩ [])]) ((ts.drop (ts.length - p)).map ent) 0
    (fun k => grnS ent ns ks top most lf s4 (ts.take (ts.length - k)) s7 s8 (.fz (.lst ((ts.drop (ts.length - p)).map ent))) (match k with | 0 => s10 | k + 1 => .fz (((ts.drop (ts.length - p)).map ent).getD k .non)))
    fun i x hx => by
      have hi : i < p := by
        have := (List.getElem?_eq_some_iff.mp hx).1
        rw [List.length_map, List.length_drop] at this
        omega
      have hne : (ts.take (ts.length - i)).map ent ≠ [] := by
        intro z
        have := congrArg List.length z
        simp only [List.length_map, List.length_take, List.length_nil] at this
        omega
      obtain ⟨d, hd⟩ := mu_pop' hne
      have e1 : ((ts.take (ts.length - i)).map ent).dropLast = (ts.take (ts.length - (i + 1))).map ent := by
        rw [← List.map_dropLast, List.dropLast_eq_take, List.take_take, List.length_take]
        congr 2
        omega
      rw [e1] at hd
      have e2 : ((ts.drop (ts.length - p)).map ent).getD i .non = x := by
        rw [List.getD_eq_getElem?_getD, hx]
        rfl
      rw [Nat.zero_add]
      show _ = O.nx (grnS ent ns ks top most lf s4 (ts.take (ts.length - (i + 1))) s7 s8 _ (.fz (((ts.drop (ts.length - p)).map ent).getD i .non)))
      rw [e2]
      simp [forB, grnS, hd, -List.map_take, -List.map_drop]
  have hl : ((ts.drop (ts.length - p)).map ent).length = p := by rw [List.length_map, List.length_drop]; omega
  rw [hl, Nat.zero_add] at h
  have e0 : ts.take (ts.length - 0) = ts := by rw [Nat.sub_zero, List.take_length]
  simp only [e0] at h
  exact ⟨_, h⟩
theorem grow_b (i1 : ∀ t, evPrim .idx [ent t, .int 1] = .ok (.int t.high)) (i2 : ∀ t, evPrim .idx [ent t, .int 2] = .ok (.int t.many)) {n : Nat} (h4 : ∀ (nm : Str) (ts : List Tr), ts ≠ [] → Tr.fitL ts → nm.length ≤ 8 → Tr.manyL ts ≤ 1000 → runD su Ps (n + 1) o [.str nm, .lst (ts.map ent)] = .ok (ent (.mk nm ts)) []) (h5 : ∀ (n : Nat) (nm : Str), nm.length ≤ 8 → runD su Ps (n + 1) l [.str nm] = .ok (ent (.mk nm [])) [])  {nm : Str} {m c : Int} {s7 s10 : Sl} {ts : List Tr} {p : Nat} (hts : ts ≠ []) (hl : ts.length ≤ 100) (hg : ∀ t ∈ ts, Grn ks top most t)
    (htop : top ≤ 200) (hmost : 1 ≤ most ∧ most ≤ 1000) (hk : ∀ p ∈ ks, p.1.length ≤ 8) (hp : p = 0 ∨ (p : Int) = m ∧ 0 < p ∧ p ≤ ts.length) (hin : (nm, m) ∈ ks) (hlf : lf ≠ []) (hlk : ∀ s ∈ lf, (s, 0) ∈ ks) (hll : lf.length ≤ 8) (hc : 0 ≤ c) :
    ∃ ts' s10', ts' ≠ [] ∧ ts'.length ≤ ts.length + 1 ∧ (∀ t ∈ ts', Grn ks top most t) ∧
      evS ⟨su, runD su Ps (n + 1), none⟩ (nth (nth (grownD l o).body 2).loop 4) (grnS ent ns ks top most lf (.fz (kD (nm, m))) ts s7 (.fz (.int c)) (.fz (.lst ((ts.drop (ts.length - p)).map ent))) s10) =
      .nx (grnS ent ns ks top most lf (.fz (kD (nm, m))) ts' s7 (.fz (.int c)) (.fz (.lst ((ts.drop (ts.length - p)).map ent))) s10') := by
  obtain ⟨T, hT⟩ : ∃ T, T = ts.drop (ts.length - p) := ⟨_, rfl⟩
  have hTm : ∀ t ∈ T, t ∈ ts := fun t h => by rw [hT] at h; exact List.mem_of_mem_drop h
  have hTl : T.length = p := by rw [hT, List.length_drop]; omega
  rw [← hT]
  have hfitL : Tr.fitL T := Tr.kinL_fit hk T (Tr.kinL_of fun t h => (hg t (hTm t h)).kin)
  have hnm : nm.length ≤ 8 := hk _ hin
  have hmanyL : Tr.manyL ts ≤ 100 * 1000 := by
    have := Tr.manyL_le (ts := ts) fun t h => (hg t h).many
    have h2 : ts.length * (max 1 most) ≤ 100 * 1000 := Nat.mul_le_mul hl (by omega)
    omega
  -- the second choice
  have second : ∃ ts' s10', ts' ≠ [] ∧ ts'.length ≤ ts.length + 1 ∧ (∀ t ∈ ts', Grn ks top most t) ∧ evSs ⟨su, runD su Ps (n + 1), none⟩ (nth (nth (grownD l o).body 2).loop 4).els (grnS ent ns ks top most lf (.fz (kD (nm, m))) ts s7 (.fz (.int c)) (.fz (.lst (T.map ent))) s10) =
      .nx (grnS ent ns ks top most lf (.fz (kD (nm, m))) ts' s7 (.fz (.int c)) (.fz (.lst (T.map ent))) s10') := by
    have hsum : ∀ q : En, evP q (.comp (.op .idx [.var 10, .cst (.int 2)]) (.v 10) (.bor ⟨6, none⟩) none) (grnS ent ns ks top most lf (.fz (kD (nm, m))) ts s7 (.fz (.int c)) (.fz (.lst (T.map ent))) s10) = .ok (.lst ((ts.map fun t => (t.many : Int)).map D.int)) (grnS ent ns ks top most lf (.fz (kD (nm, m))) ts s7 (.fz (.int c)) (.fz (.lst (T.map ent))) s10) := fun q => by
      have := ev_fld_b (q := q) (p := 6) (ρ := grnS ent ns ks top most lf (.fz (kD (nm, m))) ts s7 (.fz (.int c)) (.fz (.lst (T.map ent))) s10) (s := 10) ts ent (fun t => .int (t.many : Nat)) rfl rfl (by simp [grnS]) (fun y _ => i2 y) (by show _ ≤ 16777216; omega)
      rw [this]
      simp
    obtain ⟨L2, e2⟩ : ∃ L, L = (ts.map fun t => (t.many : Int)).map D.int := ⟨_, rfl⟩
    have hsm := pr_sum (ts.map fun t => (t.many : Int))
    rw [Tr.manyL_sum] at hsm
    rw [← e2] at hsum hsm
    unfold grnS at hsum
    have hsmall : ((Tr.manyL ts : Nat) : Int).natAbs < 2 ^ 250 := by omega
    have hl0 : 0 < lf.length := by cases lf with | nil => exact absurd rfl hlf | cons a b => simp
    have hix : ∀ c : Int, (c / 35 % (lf.length : Int)).toNat < lf.length := fun c => by
      have h1 := Int.emod_nonneg (c / 35) (show (lf.length : Int) ≠ 0 by omega)
      have h2 := Int.emod_lt_of_pos (c / 35) (show (0 : Int) < lf.length by omega)
      omega
    -- a leaf
    have third : ∀ s, lf[(c / 35 % (lf.length : Int)).toNat]? = some s → (∀ q : En, q.F = runD su Ps (n + 1) → evSs q (nth (nth (grownD l o).body 2).loop 4).els (grnS ent ns ks top most lf (.fz (kD (nm, m))) ts s7 (.fz (.int c)) (.fz (.lst (T.map ent))) s10) = seqK q [] (evSs q (nth (nth (nth (grownD l o).body 2).loop 4).els 0).els (grnS ent ns ks top most lf (.fz (kD (nm, m))) ts s7 (.fz (.int c)) (.fz (.lst (T.map ent))) s10))) →
        ∃ ts' s10', ts' ≠ [] ∧ ts'.length ≤ ts.length + 1 ∧ (∀ t ∈ ts', Grn ks top most t) ∧ evSs ⟨su, runD su Ps (n + 1), none⟩ (nth (nth (grownD l o).body 2).loop 4).els (grnS ent ns ks top most lf (.fz (kD (nm, m))) ts s7 (.fz (.int c)) (.fz (.lst (T.map ent))) s10) =
          .nx (grnS ent ns ks top most lf (.fz (kD (nm, m))) ts' s7 (.fz (.int c)) (.fz (.lst (T.map ent))) s10') := fun s hs hq => by
      have hx : evPrim .idx [.lst (lf.map D.str), .int (c / 35 % (lf.length : Int))] = .ok (.str s) := pr_idx_lst (Int.emod_nonneg _ (by omega)) (by rw [List.getElem?_map, hs]; rfl)
      have hle := h5 n s (hk _ (hlk s (List.mem_of_getElem? hs)))
      refine ⟨ts ++ [.mk s []], s10, by simp, by simp, fun u hu => ?_, ?_⟩
      · rcases List.mem_append.mp hu with h | h
        · exact hg u h
        · rw [List.mem_singleton.mp h]
          refine ⟨?_, ?_, ?_⟩
          · unfold Tr.kin Tr.kinL; exact ⟨hlk s (List.mem_of_getElem? hs), trivial⟩
          · unfold Tr.high Tr.highL; omega
          · unfold Tr.many Tr.manyL; omega
      · rw [hq _ rfl]
        simp (disch := first | assumption | omega | (simp <;> omega) | fail) [nth, grownD, S.loop, S.els, grnS, hx, hle]
    by_cases c1 : c / 7 % 5 = 1
    · by_cases c2 : 2 * (Tr.manyL ts : Int) < most
      · obtain ⟨t, ht⟩ : ∃ t, ts[ts.length - 1]? = some t := by
          have : ts.length - 1 < ts.length := by cases ts with | nil => exact absurd rfl hts | cons a b => simp
          exact ⟨_, List.getElem?_eq_getElem this⟩
        have hlen : 0 < ts.length := by cases ts with | nil => exact absurd rfl hts | cons a b => simp
        have hx : evPrim .idx [.lst (ts.map ent), .int ((ts.length : Int) - 1)] = .ok (ent t) := by
          rw [show ((ts.length : Int) - 1) = ((ts.length - 1 : Nat) : Int) by omega]
          exact pr_idx_lst (by omega) (by rw [List.getElem?_map, Int.toNat_natCast, ht]; rfl)
        refine ⟨ts ++ [t], s10, by simp, by simp, fun u hu => ?_, ?_⟩
        · rcases List.mem_append.mp hu with h | h
          · exact hg u h
          · rw [List.mem_singleton.mp h]; exact hg t (List.mem_of_getElem? ht)
        · simp (disch := first | assumption | omega | (simp <;> omega) | fail) [nth, grownD, S.loop, S.els, grnS, c1, c2, hsum, hsm, hx]
      · obtain ⟨s, hs⟩ : ∃ s, lf[(c / 35 % (lf.length : Int)).toNat]? = some s := ⟨_, List.getElem?_eq_getElem (hix c)⟩
        exact third s hs fun q _ => by
          simp (disch := first | assumption | omega | (simp <;> omega) | fail) [nth, grownD, S.loop, S.els, S.thn, grnS, c1, c2, hsum, hsm]
    · obtain ⟨s, hs⟩ : ∃ s, lf[(c / 35 % (lf.length : Int)).toNat]? = some s := ⟨_, List.getElem?_eq_getElem (hix c)⟩
      exact third s hs fun q _ => by
        simp (disch := first | assumption | omega | (simp <;> omega) | fail) [nth, grownD, S.loop, S.els, S.thn, grnS, c1]
  by_cases h0 : T = []
  · obtain ⟨ts', s', a1, a2, a3, a4⟩ := second
    refine ⟨ts', s', a1, a2, a3, ?_⟩
    rw [← a4, h0]
    simp (disch := first | assumption | omega | (simp <;> omega) | fail) [nth, grownD, S.loop, S.els, grnS, -ev_ss]
  obtain ⟨t, r, hTr⟩ : ∃ t r, T = t :: r := by
    cases T with
    | nil => exact absurd rfl h0
    | cons t r => exact ⟨t, r, rfl⟩
  have hL : T.length ≤ sizeLine := by show _ ≤ 16777216; omega
  have hp0 : 0 < p := by rw [← hTl, hTr]; simp
  have hpm : (p : Int) = m ∧ p ≤ ts.length := by rcases hp with h | h <;> omega
  have q1 : ∀ q : En, evP q (.comp (.op .idx [.var 10, .cst (.int 1)]) (.v 10) (.var 9) none) (grnS ent ns ks top most lf (.fz (kD (nm, m))) ts s7 (.fz (.int c)) (.fz (.lst (T.map ent))) s10) = .ok (.lst (((t.high : Int) :: r.map fun t => (t.high : Int)).map D.int)) (grnS ent ns ks top most lf (.fz (kD (nm, m))) ts s7 (.fz (.int c)) (.fz (.lst (T.map ent))) s10) := fun q => by
    have := ev_fld_v (q := q) (i := 9) (ρ := grnS ent ns ks top most lf (.fz (kD (nm, m))) ts s7 (.fz (.int c)) (.fz (.lst (T.map ent))) s10) (s := 10) T ent (fun t => .int (t.high : Nat)) rfl (by simp [grnS]) (fun y _ => i1 y) hL
    rw [this, hTr]
    simp
  have q2 : ∀ q : En, evP q (.comp (.op .idx [.var 10, .cst (.int 2)]) (.v 10) (.var 9) none) (grnS ent ns ks top most lf (.fz (kD (nm, m))) ts s7 (.fz (.int c)) (.fz (.lst (T.map ent))) s10) = .ok (.lst ((T.map fun t => (t.many : Int)).map D.int)) (grnS ent ns ks top most lf (.fz (kD (nm, m))) ts s7 (.fz (.int c)) (.fz (.lst (T.map ent))) s10) := fun q => by
    have := ev_fld_v (q := q) (i := 9) (ρ := grnS ent ns ks top most lf (.fz (kD (nm, m))) ts s7 (.fz (.int c)) (.fz (.lst (T.map ent))) s10) (s := 10) T ent (fun t => .int (t.many : Nat)) rfl (by simp [grnS]) (fun y _ => i2 y) hL
    rw [this]
    simp
  have hmx := pr_maxl (t.high : Int) (r.map fun t => (t.high : Int))
  rw [Tr.highL_max, ← hTr] at hmx
  have hsm := pr_sum (T.map fun t => (t.many : Int))
  rw [Tr.manyL_sum] at hsm
  obtain ⟨L1, e1⟩ : ∃ L, L = ((t.high : Int) :: r.map fun t => (t.high : Int)).map D.int := ⟨_, rfl⟩
  obtain ⟨L2, e2⟩ : ∃ L, L = (T.map fun t => (t.many : Int)).map D.int := ⟨_, rfl⟩
  rw [← e1] at q1 hmx
  rw [← e2] at q2 hsm
  by_cases c1 : Tr.highL T < top
  · by_cases c2 : Tr.manyL T < most
    · -- a knot over the last ones
      obtain ⟨s, hpop⟩ := pops_ok (ent := ent) (q := ⟨su, runD su Ps (n + 1), none⟩) (ns := ns) (ks := ks) (top := top) (most := most) (lf := lf) (s4 := .fz (kD (nm, m))) (s7 := s7) (s8 := .fz (.int c)) (s10 := s10) hpm.2
      rw [← hT] at hpop
      have hov := h4 nm T h0 hfitL hnm (by omega)
      refine ⟨ts.take (ts.length - p) ++ [.mk nm T], s, by simp, by rw [List.length_append, List.length_take]; simp <;> omega, fun u hu => ?_, ?_⟩
      · rcases List.mem_append.mp hu with h | h
        · exact hg u (List.mem_of_mem_take h)
        · rw [List.mem_singleton.mp h]
          refine ⟨?_, ?_, ?_⟩
          · unfold Tr.kin
            refine ⟨?_, Tr.kinL_of fun t h => (hg t (hTm t h)).kin⟩
            rw [hTl, hpm.1]
            exact hin
          · unfold Tr.high; omega
          · unfold Tr.many; omega
      · have k0 : evPrim .idx [kD (nm, m), .int 0] = .ok (.str nm) := pr_idx_t0 _ _
        unfold grnS at hpop q1 q2
        have hlt : ((ts.take (ts.length - p)).map ent).length < 16777216 := by rw [List.length_map, List.length_take]; omega
        have hTp : 0 < T.length := by omega
        generalize ts.take (ts.length - p) = us at *
        simp (disch := first | assumption | omega | (simp <;> omega) | fail) [nth, grownD, S.loop, grnS, q1, q2, hmx, hsm, c1, c2, hTp, hpop, hov, k0]
    · obtain ⟨ts', s', a1, a2, a3, a4⟩ := second
      refine ⟨ts', s', a1, a2, a3, ?_⟩
      rw [← a4]
      have hTp : 0 < T.length := by omega
      unfold grnS at q1 q2
      simp (disch := first | assumption | omega | (simp <;> omega) | fail) [nth, grownD, S.loop, S.els, grnS, q1, q2, hmx, hsm, c1, c2, hTp, -ev_ss]
  · obtain ⟨ts', s', a1, a2, a3, a4⟩ := second
    refine ⟨ts', s', a1, a2, a3, ?_⟩
    rw [← a4]
    have hTp : 0 < T.length := by omega
    unfold grnS at q1 q2
    simp (disch := first | assumption | omega | (simp <;> omega) | fail) [nth, grownD, S.loop, S.els, grnS, q1, q2, hmx, hsm, c1, hTp, -ev_ss]
end
end Bk

/-! E8: what is grown. -/
namespace Bk
open PySem
theorem kinds_in {m : Int} {p : Str × Int} (h : p ∈ kindsOf m) : ∃ k, k < kMany m ∧ p.1 = nameOf (m / 36) k ∧ 0 ≤ p.2 ∧ p.2 ≤ 3 := by
  unfold kindsOf at h
  obtain ⟨i, hi⟩ := List.mem_iff_getElem?.mp h
  rw [List.getElem?_set] at hi
  split at hi
  · split at hi
    · rename_i h3
      cases hi
      rw [List.length_map, List.length_range] at h3
      exact ⟨kAt m, h3, rfl, by simp, by simp⟩
    · cases hi
  · rw [List.getElem?_map, Option.map_eq_some_iff] at hi
    obtain ⟨k, hk, rfl⟩ := hi
    obtain ⟨h1, h2⟩ := List.getElem?_eq_some_iff.mp hk
    rw [List.getElem_range] at h2
    rw [List.length_range] at h1
    subst h2
    exact ⟨i, h1, rfl, Int.emod_nonneg _ (by decide), by show restK m i % 4 ≤ 3; omega⟩
theorem kMany_le (m : Int) : 1 ≤ kMany m ∧ kMany m ≤ 6 := by unfold kMany; omega
theorem kAt_lt (m : Int) : kAt m < kMany m := by
  have h1 := Int.emod_lt_of_pos (m / 6) (show 0 < 1 + m % 6 by omega)
  have h2 := Int.emod_nonneg (m / 6) (show 1 + m % 6 ≠ 0 by omega)
  unfold kAt kMany
  omega
theorem kinds_len (m : Int) : (kindsOf m).length = kMany m := by unfold kindsOf; simp
theorem kinds_leaf (m : Int) : (nameOf (m / 36) (kAt m), 0) ∈ kindsOf m := by
  unfold kindsOf
  exact List.mem_iff_getElem?.mpr ⟨kAt m, List.getElem?_set_self (by rw [List.length_map, List.length_range]; exact kAt_lt m)⟩
theorem nmSize_le (b : Int) : 1 ≤ nmSize b ∧ nmSize b ≤ 8 := by unfold nmSize; omega
theorem nmAt_lt (b : Int) : nmAt b < nmSize b := by
  have h1 := Int.emod_lt_of_pos (b / 16 % 7) (show 0 < 1 + b / 2 % 8 by omega)
  have h2 := Int.emod_nonneg (b / 16 % 7) (show 1 + b / 2 % 8 ≠ 0 by omega)
  unfold nmAt nmSize
  omega
theorem wordL_len (b : Int) : (wordL b).length = 8 := by unfold wordL; simp
theorem nameOf_len (b : Int) (k : Nat) : (nameOf b k).length ≤ 8 := by
  have h1 := nmAt_lt b
  have h2 := nmSize_le b
  unfold nameOf
  split
  · simp only [len_mk, List.length_take, wordL_len]; omega
  · simp only [len_mk, List.length_append, List.length_take, List.length_drop, wordL_len, List.length_cons, List.length_nil]; omega
theorem kinds_name {m : Int} : ∀ p ∈ kindsOf m, p.1.length ≤ 8 := fun p h => by
  obtain ⟨k, _, e, _⟩ := kinds_in h
  rw [e]; exact nameOf_len _ _
section
variable {su : Subs} {Ps : Nat → Option Df} {l o g : Nat} {ent : Tr → D}
theorem law_grown_ok (i1 : ∀ t, evPrim .idx [ent t, .int 1] = .ok (.int t.high)) (i2 : ∀ t, evPrim .idx [ent t, .int 2] = .ok (.int t.many)) {n : Nat} (h4 : ∀ (nm : Str) (ts : List Tr), ts ≠ [] → Tr.fitL ts → nm.length ≤ 8 → Tr.manyL ts ≤ 1000 → runD su Ps (n + 1) o [.str nm, .lst (ts.map ent)] = .ok (ent (.mk nm ts)) []) (h5 : ∀ (n : Nat) (nm : Str), nm.length ≤ 8 → runD su Ps (n + 1) l [.str nm] = .ok (ent (.mk nm [])) []) (h6 : Ps g = some (grownD l o)) (ns : List Int) (ks : List (Str × Int)) (top most : Nat) (hns : ns.length ≤ 63)
    (hk0 : 0 < ks.length) (hk8 : ks.length ≤ 8) (hkn : ∀ p ∈ ks, p.1.length ≤ 8) (hk2 : ∀ p ∈ ks, 0 ≤ p.2) (hz : ∃ s, (s, 0) ∈ ks) (htop : top ≤ 200) (hmost : 1 ≤ most ∧ most ≤ 1000) :
    ∃ ts : List Tr, (∀ t ∈ ts, Grn ks top most t) ∧ ts.length ≤ 64 ∧ runD su Ps (n + 2) g [.scr ns, .tup (ks.map kD), .int top, .int most] = .ok (.lst (ts.map ent)) [] := by
  obtain ⟨lf, hlf⟩ : ∃ lf, lf = (ks.filter fun y => decide (y.2 = 0)).map (·.1) := ⟨_, rfl⟩
  have hlf0 : lf ≠ [] := by
    obtain ⟨s, hs⟩ := hz
    intro z
    have : s ∈ lf := by rw [hlf]; exact List.mem_map.mpr ⟨(s, 0), List.mem_filter.mpr ⟨hs, by simp⟩, rfl⟩
    rw [z] at this; cases this
  have hlk : ∀ s ∈ lf, (s, 0) ∈ ks := fun s hs => by
    rw [hlf] at hs
    obtain ⟨p, hp, rfl⟩ := List.mem_map.mp hs
    obtain ⟨h1, h2⟩ := List.mem_filter.mp hp
    have h3 : p.2 = 0 := of_decide_eq_true h2
    rw [← h3]; exact h1
  have hll : lf.length ≤ 8 := by rw [hlf, List.length_map]; exact Nat.le_trans (List.length_filter_le _ _) hk8
  have hlc : ∀ q : En, evP q (.comp (.op .idx [.var 4, .cst (.int 0)]) (.v 4) (.var 1) (some (.op .eq [.op .idx [.var 4, .cst (.int 1)], .cst (.int 0)]))) [.fz (.scr ns), .fz (.tup (ks.map kD)), .fz (.int top), .fz (.int most), .un, .un, .un, .un, .un, .un, .un] = .ok (.lst (lf.map D.str)) [.fz (.scr ns), .fz (.tup (ks.map kD)), .fz (.int top), .fz (.int most), .un, .un, .un, .un, .un, .un, .un] := fun q => by
    have := ev_fldIf (q := q) (it := .var 1) (ρ := [.fz (.scr ns), .fz (.tup (ks.map kD)), .fz (.int top), .fz (.int most), .un, .un, .un, .un, .un, .un, .un]) (s := 4) (i := 1) (j := 0) (c := 0) ks kD (fun p => .str p.1) (fun p => p.2) (x := .tup (ks.map kD)) rfl (by simp) rfl (by simp) (fun p _ => pr_idx_t0 _ _) (fun p _ => pr_idx_t1 _ _ _) (by show _ ≤ 16777216; omega)
    rw [this, hlf, List.map_map]
    rfl
  obtain ⟨s0, hs0⟩ : ∃ s, lf[0]? = some s := by cases lf with | nil => exact absurd rfl hlf0 | cons a b => exact ⟨a, rfl⟩
  have hx0 : evPrim .idx [.lst (lf.map D.str), .int 0] = .ok (.str s0) := pr_idx_lst (by decide) (by rw [List.getElem?_map]; simp [hs0])
  have hle := h5 n s0 (hkn _ (hlk s0 (List.mem_of_getElem? hs0)))
  -- the loop
  have loop := forL_inv (f := forB ⟨su, runD su Ps (n + 1), none⟩ (.v 7) (nth (grownD l o).body 2).loop) (Q := fun o => ∃ ts s4 s7 s8 s9 s10, (∀ t ∈ ts, Grn ks top most t) ∧ ts.length ≤ 64 ∧ o = .nx (grnS ent ns ks top most lf s4 ts s7 s8 s9 s10))
    (fun i ρ => ∃ ts s4 s7 s8 s9 s10, ts ≠ [] ∧ ts.length ≤ i + 1 ∧ (∀ t ∈ ts, Grn ks top most t) ∧ ρ = grnS ent ns ks top most lf s4 ts s7 s8 s9 s10) (rngD 0 ns.length) 0
    (grnS ent ns ks top most lf .un [.mk s0 []] .un .un .un .un) ⟨_, _, _, _, _, _, by simp, by simp, fun t ht => by
      rw [List.mem_singleton.mp ht]
      refine ⟨?_, ?_, ?_⟩
      · unfold Tr.kin Tr.kinL; exact ⟨hlk s0 (List.mem_of_getElem? hs0), trivial⟩
      · unfold Tr.high Tr.highL; omega
      · unfold Tr.many Tr.manyL; omega, rfl⟩
    (fun i x ρ hx hI => by
      obtain ⟨rfl, hi⟩ := rngD_get hx
      obtain ⟨ts, s4, s7, s8, s9, s10, a1, a2, a3, rfl⟩ := hI
      have hi' : i < ns.length := by omega
      left
      have hxi : ns[i]? = some ns[i] := List.getElem?_eq_getElem hi'
      have hj1 := Int.emod_nonneg (ns[i] % p60 + (i : Int)) (show (ks.length : Int) ≠ 0 by omega)
      have hj2 := Int.emod_lt_of_pos (ns[i] % p60 + (i : Int)) (show (0 : Int) < ks.length by omega)
      obtain ⟨⟨nm, m⟩, hp⟩ : ∃ p, ks[((ns[i] % p60 + (i : Int)) % (ks.length : Int)).toNat]? = some p := ⟨_, List.getElem?_eq_getElem (show ((ns[i] % p60 + (i : Int)) % (ks.length : Int)).toNat < ks.length by omega)⟩
      have hpm := List.mem_of_getElem? hp
      obtain ⟨p, hp1, hA⟩ := grow_a (q := ⟨su, runD su Ps (n + 1), none⟩) (top := top) (most := most) (lf := lf) (s4 := s4) (s8 := s8) (s9 := s9) (s10 := s10) (ts := ts) [nth (nth (grownD l o).body 2).loop 4] hxi hk0 hk8 (by omega) hp (hk2 _ hpm)
      obtain ⟨ts', s10', b1, b2, b3, b4⟩ := grow_b (su := su) (ns := ns) (s7 := .fz (.int (i : Nat))) (s10 := s10) (n := n) i1 i2 h4 h5 a1 (by omega) a3 htop hmost hkn hp1 hpm hlf0 hlk hll (Int.emod_nonneg ns[i] (show p60 ≠ 0 by have := p60_pos; omega))
      have e1 : forB ⟨su, runD su Ps (n + 1), none⟩ (.v 7) (nth (grownD l o).body 2).loop (.int (0 + (i : Nat))) (grnS ent ns ks top most lf s4 ts s7 s8 s9 s10) = evSs ⟨su, runD su Ps (n + 1), none⟩ ((nth (grownD l o).body 2).loop.take 4 ++ [nth (nth (grownD l o).body 2).loop 4]) (grnS ent ns ks top most lf s4 ts (.fz (.int i)) s8 s9 s10) := by
        rw [Int.zero_add]; rfl
      have e3 := (e1.trans (hA.trans ((ev_ss _ _ _ _).trans (congrArg (seqK ⟨su, runD su Ps (n + 1), none⟩ []) b4)))).trans (ev_ss_nil ⟨su, runD su Ps (n + 1), none⟩ _)
      exact ⟨_, e3, ts', _, _, _, _, _, b1, by omega, b3, rfl⟩)
    (fun ρ hI => by
      obtain ⟨ts, s4, s7, s8, s9, s10, a1, a2, a3, rfl⟩ := hI
      rw [rngD_len] at a2
      exact ⟨ts, s4, s7, s8, s9, s10, a3, by omega, rfl⟩)
  obtain ⟨ts, s4, s7, s8, s9, s10, b1, b2, b3⟩ := loop
  refine ⟨ts, b1, b2, ?_⟩
  rw [runD_eq h6 rfl]
  have hlen : (ns.length : Int) < 4611686018427387904 := by omega
  unfold grnS at b3
  simp only [nth, grownD, S.loop, List.getD_cons_succ, List.getD_cons_zero, List.map_cons, List.map_nil] at b3
  simp (disch := first | assumption | omega | (simp <;> omega) | fail) [grownD, startR, hlc, hx0, hle, b3]
end
end Bk

/-! H1: things: patterns with holes. -/
namespace Bk
open PySem
inductive Th where | hole | call (q k : Nat) | mk (nm : Str) (ks : List Th)
mutual
def Th.d : Th → D
  | .hole => .tup [.str (Str.ofString "*")]
  | .call q k => .tup [.str (Str.ofString "?"), .int q, .int k]
  | .mk nm ks => .tup (.str nm :: Th.dL ks)
def Th.dL : List Th → List D
  | [] => []
  | t :: ts => t.d :: Th.dL ts
end
mutual
/-- a front lies on a thing -/
def Th.lies : Th → Th → Bool
  | .hole, _ => true
  | .mk nm us, .mk nm' vs => decide (nm = nm') && Th.liesL us vs
  | _, _ => false
def Th.liesL : List Th → List Th → Bool
  | [], [] => true
  | u :: us, v :: vs => u.lies v && Th.liesL us vs
  | _, _ => false
end
mutual
/-- what two things have in common -/
def Th.com : Th → Th → Th
  | .mk nm us, .mk nm' vs => if nm = nm' ∧ us.length = vs.length then .mk nm (Th.comL us vs) else .hole
  | _, _ => .hole
def Th.comL : List Th → List Th → List Th
  | u :: us, v :: vs => u.com v :: Th.comL us vs
  | _, _ => []
end
theorem Th.liesL_len : ∀ {us vs : List Th}, Th.liesL us vs = true → us.length = vs.length
  | [], [], _ => rfl
  | [], _ :: _, h => by simp [Th.liesL] at h
  | _ :: _, [], h => by simp [Th.liesL] at h
  | u :: us, v :: vs, h => by
    rw [Th.liesL, Bool.and_eq_true] at h
    simp [Th.liesL_len h.2]
theorem Th.comL_len : ∀ {us vs : List Th}, us.length = vs.length → (Th.comL us vs).length = us.length
  | [], [], _ => by simp [Th.comL]
  | [], _ :: _, h => by simp at h
  | _ :: _, [], h => by simp at h
  | u :: us, v :: vs, h => by
    simp only [List.length_cons, Nat.add_right_cancel_iff] at h
    simp [Th.comL, Th.comL_len h]
mutual
/-- the common front is the greatest: a front lies on it just where it lies on both -/
theorem Th.lies_com : ∀ (f a b : Th), f.lies (a.com b) = (f.lies a && f.lies b)
  | .hole, _, _ => by simp [Th.lies]
  | .call _ _, _, _ => by simp [Th.lies]
  | .mk nm us, .mk n1 vs, .mk n2 ws => by
    rw [Th.com]
    by_cases h : n1 = n2 ∧ vs.length = ws.length
    · rw [if_pos h, Th.lies, Th.lies, Th.lies, ← h.1]
      have := Th.liesL_com us vs ws h.2
      rw [this]
      cases decide (nm = n1) <;> simp
    · rw [if_neg h]
      have h0 : Th.lies (.mk nm us) .hole = false := by simp [Th.lies]
      rw [h0]
      symm
      rw [Bool.and_eq_false_iff]
      by_cases h1 : Th.lies (.mk nm us) (.mk n1 vs) = true
      · right
        by_cases h2 : Th.lies (.mk nm us) (.mk n2 ws) = true
        · rw [Th.lies, Bool.and_eq_true, decide_eq_true_eq] at h1 h2
          exact absurd ⟨h1.1.symm.trans h2.1, (Th.liesL_len h1.2).symm.trans (Th.liesL_len h2.2)⟩ h
        · simpa using h2
      · left; simpa using h1
  | .mk nm us, .hole, b => by simp [Th.com, Th.lies]
  | .mk nm us, .call _ _, b => by simp [Th.com, Th.lies]
  | .mk nm us, .mk _ _, .hole => by simp [Th.com, Th.lies]
  | .mk nm us, .mk _ _, .call _ _ => by simp [Th.com, Th.lies]
theorem Th.liesL_com : ∀ (us vs ws : List Th), vs.length = ws.length → Th.liesL us (Th.comL vs ws) = (Th.liesL us vs && Th.liesL us ws)
  | [], [], [], _ => by simp [Th.comL, Th.liesL]
  | u :: us, [], [], _ => by simp [Th.comL, Th.liesL]
  | [], v :: vs, w :: ws, _ => by simp [Th.comL, Th.liesL]
  | u :: us, v :: vs, w :: ws, h => by
    simp only [List.length_cons, Nat.add_right_cancel_iff] at h
    rw [Th.comL, Th.liesL, Th.liesL, Th.liesL, Th.lies_com u v w, Th.liesL_com us vs ws h]
    cases u.lies v <;> cases u.lies w <;> simp
  | _, [], _ :: _, h => by simp at h
  | _, _ :: _, [], h => by simp at h
end
mutual
theorem Th.com_assoc : ∀ (a b c : Th), (a.com b).com c = a.com (b.com c)
  | .hole, _, _ => by simp [Th.com]
  | .call _ _, _, _ => by simp [Th.com]
  | .mk n1 us, .hole, c => by simp [Th.com]
  | .mk n1 us, .call _ _, c => by simp [Th.com]
  | .mk n1 us, .mk n2 vs, .hole => by
    have h : ∀ a : Th, a.com .hole = .hole := fun a => by cases a <;> simp [Th.com]
    rw [h, h, h]
  | .mk n1 us, .mk n2 vs, .call q k => by
    have h : ∀ a : Th, a.com (.call q k) = .hole := fun a => by cases a <;> simp [Th.com]
    have h2 : ∀ a : Th, a.com .hole = .hole := fun a => by cases a <;> simp [Th.com]
    rw [h, h, h2]
  | .mk n1 us, .mk n2 vs, .mk n3 ws => by
    rw [Th.com, Th.com]
    by_cases h1 : n1 = n2 ∧ us.length = vs.length
    · rw [if_pos h1]
      by_cases h2 : n2 = n3 ∧ vs.length = ws.length
      · rw [if_pos h2, Th.com, Th.com, if_pos ⟨h1.1.trans h2.1, by rw [Th.comL_len h1.2]; exact h1.2.trans h2.2⟩, if_pos ⟨h1.1, by rw [Th.comL_len h2.2]; exact h1.2⟩, Th.comL_assoc us vs ws]
      · rw [if_neg h2, Th.com, if_neg (fun z => h2 ⟨h1.1.symm.trans z.1, by have := z.2; rw [Th.comL_len h1.2] at this; omega⟩)]
        simp [Th.com]
    · rw [if_neg h1]
      by_cases h2 : n2 = n3 ∧ vs.length = ws.length
      · rw [if_pos h2, Th.com, if_neg (fun z => h1 ⟨z.1, by have := z.2; rw [Th.comL_len h2.2] at this; exact this⟩)]
        simp [Th.com]
      · rw [if_neg h2]; simp [Th.com]
theorem Th.comL_assoc : ∀ (us vs ws : List Th), Th.comL (Th.comL us vs) ws = Th.comL us (Th.comL vs ws)
  | [], vs, ws => by simp [Th.comL]
  | _ :: _, [], ws => by simp [Th.comL]
  | _ :: _, _ :: _, [] => by simp [Th.comL]
  | u :: us, v :: vs, w :: ws => by
    rw [Th.comL, Th.comL, Th.comL, Th.comL, Th.com_assoc u v w, Th.comL_assoc us vs ws]
end
mutual
/-- holes for calls -/
def Th.bare : Th → Th
  | .mk nm us => .mk nm (Th.bareL us)
  | _ => .hole
def Th.bareL : List Th → List Th
  | [] => []
  | u :: us => u.bare :: Th.bareL us
end
mutual
theorem Th.com_self : ∀ t : Th, t.com t = t.bare
  | .hole => by simp [Th.com, Th.bare]
  | .call _ _ => by simp [Th.com, Th.bare]
  | .mk nm us => by rw [Th.com, if_pos ⟨rfl, rfl⟩, Th.bare, Th.comL_self us]
theorem Th.comL_self : ∀ us : List Th, Th.comL us us = Th.bareL us
  | [] => by simp [Th.comL, Th.bareL]
  | u :: us => by rw [Th.comL, Th.bareL, Th.com_self u, Th.comL_self us]
end
mutual
/-- the common front lies on both -/
theorem Th.com_lies : ∀ a b : Th, (a.com b).lies a = true ∧ (a.com b).lies b = true
  | .hole, _ => by simp [Th.com, Th.lies]
  | .call _ _, _ => by simp [Th.com, Th.lies]
  | .mk _ _, .hole => by simp [Th.com, Th.lies]
  | .mk _ _, .call _ _ => by simp [Th.com, Th.lies]
  | .mk n1 us, .mk n2 vs => by
    rw [Th.com]
    by_cases h : n1 = n2 ∧ us.length = vs.length
    · have := Th.comL_lies us vs h.2
      rw [if_pos h, Th.lies, Th.lies, this.1, this.2, h.1]
      simp
    · rw [if_neg h]; simp [Th.lies]
theorem Th.comL_lies : ∀ us vs : List Th, us.length = vs.length → Th.liesL (Th.comL us vs) us = true ∧ Th.liesL (Th.comL us vs) vs = true
  | [], [], _ => by simp [Th.comL, Th.liesL]
  | u :: us, v :: vs, h => by
    simp only [List.length_cons, Nat.add_right_cancel_iff] at h
    have h1 := Th.com_lies u v
    have h2 := Th.comL_lies us vs h
    rw [Th.comL, Th.liesL, Th.liesL, h1.1, h1.2, h2.1, h2.2]
    simp
  | [], _ :: _, h => by simp at h
  | _ :: _, [], h => by simp at h
end
end Bk

/-! H2: lies_on. -/
namespace Bk
open PySem
mutual
/-- no name is a sign -/
def Th.ok : Th → Prop
  | .mk nm us => nm ≠ Str.ofString "?" ∧ nm ≠ Str.ofString "*" ∧ us.length ≤ 100000 ∧ Th.okL us
  | _ => True
def Th.okL : List Th → Prop
  | [] => True
  | u :: us => u.ok ∧ Th.okL us
end
mutual
def Th.high : Th → Nat
  | .mk _ us => 1 + Th.highL us
  | _ => 1
def Th.highL : List Th → Nat
  | [] => 0
  | u :: us => max u.high (Th.highL us)
end
theorem Th.dL_map : ∀ ts : List Th, Th.dL ts = ts.map Th.d
  | [] => rfl
  | t :: ts => by simp [Th.dL, Th.dL_map ts]
theorem Th.high_mem {t : Th} : ∀ {ts : List Th}, t ∈ ts → t.high ≤ Th.highL ts
  | [], h => by cases h
  | a :: ts, h => by
    rw [Th.highL]
    rcases List.mem_cons.mp h with rfl | h
    · omega
    · have := Th.high_mem h; omega
theorem Th.ok_mem {t : Th} : ∀ {ts : List Th}, Th.okL ts → t ∈ ts → t.ok
  | [], _, h => by cases h
  | a :: ts, f, h => by
    rw [Th.okL] at f
    rcases List.mem_cons.mp h with rfl | h
    · exact f.1
    · exact Th.ok_mem f.2 h
def Th.isMk : Th → Bool
  | .mk _ _ => true
  | _ => false
def Th.isHole : Th → Bool
  | .hole => true
  | _ => false
def Th.like : Th → Th → Bool
  | .mk n us, .mk m vs => decide (n = m) && decide (us.length = vs.length)
  | _, _ => false
theorem Th.liesL_iff : ∀ {us vs : List Th}, us.length = vs.length → (Th.liesL us vs = true ↔ ∀ (i : Nat) (u v : Th), us[i]? = some u → vs[i]? = some v → u.lies v = true)
  | [], [], _ => by simp [Th.liesL]
  | [], _ :: _, h => by simp at h
  | _ :: _, [], h => by simp at h
  | u :: us, v :: vs, h => by
    simp only [List.length_cons, Nat.add_right_cancel_iff] at h
    rw [Th.liesL, Bool.and_eq_true, Th.liesL_iff h]
    constructor
    · rintro ⟨h1, h2⟩ i a b ha hb
      cases i with
      | zero =>
        have e1 : u = a := Option.some.inj ha
        have e2 : v = b := Option.some.inj hb
        rw [← e1, ← e2]; exact h1
      | succ i => exact h2 i a b (by simpa using ha) (by simpa using hb)
    · intro h
      exact ⟨h 0 u v rfl rfl, fun i a b ha hb => h (i + 1) a b (by simpa using ha) (by simpa using hb)⟩
section
variable {su : Subs} {Ps : Nat → Option Df}
theorem is_knot_ok (h35 : Ps 35 = some f_is_knot) (n : Nat) (t : Th) (h : t.ok) : runD su Ps (n + 1) 35 [t.d] = .ok (.bl t.isMk) [] := by
  rw [runD_eq h35 rfl]
  cases t with
  | hole =>
    have e : (Str.ofString "*") ≠ Str.ofString "?" := by decide
    simp [f_is_knot, startR, Th.d, Th.isMk, e]
  | call q k => simp [f_is_knot, startR, Th.d, Th.isMk]
  | mk nm us =>
    rw [Th.ok] at h
    simp [f_is_knot, startR, Th.d, Th.isMk, h.1, h.2.1]
theorem like_ok (h35 : Ps 35 = some f_is_knot) (h36 : Ps 36 = some f_like_knots) (n : Nat) (a b : Th) (ha : a.ok) (hb : b.ok) : runD su Ps (n + 2) 36 [a.d, b.d] = .ok (.bl (a.like b)) [] := by
  have hk := is_knot_ok (su := su) h35 n a ha
  rw [runD_eq h36 rfl]
  cases a with
  | hole =>
    have hk : runD su Ps (n + 1) 35 [Th.hole.d] = .ok (.bl false) [] := hk
    simp [f_like_knots, startR, hk, Th.like]
  | call q k =>
    have hk : runD su Ps (n + 1) 35 [(Th.call q k).d] = .ok (.bl false) [] := hk
    simp [f_like_knots, startR, hk, Th.like]
  | mk nm us =>
    have hk : runD su Ps (n + 1) 35 [(Th.mk nm us).d] = .ok (.bl true) [] := hk
    rw [Th.ok] at ha
    cases b with
    | hole =>
      simp only [Th.d, Th.dL_map] at hk
      simp [f_like_knots, startR, hk, Th.like, Th.d, Th.dL_map, ha.2.1]
    | call q k =>
      simp only [Th.d, Th.dL_map] at hk
      simp [f_like_knots, startR, hk, Th.like, Th.d, Th.dL_map, ha.1]
    | mk n2 vs =>
      simp only [Th.d, Th.dL_map] at hk
      by_cases e1 : nm = n2
      · subst e1
        by_cases e2 : us.length = vs.length
        · have e3 : (us.length : Int) + 1 = (vs.length : Int) + 1 := by omega
          simp [f_like_knots, startR, hk, Th.like, Th.d, Th.dL_map, e2]
        · have e3 : ¬ (us.length : Int) = (vs.length : Int) := by omega
          simp [f_like_knots, startR, hk, Th.like, Th.d, Th.dL_map, e2]
          try omega
      · simp [f_like_knots, startR, hk, Th.like, Th.d, Th.dL_map, e1]
theorem eq_hole (t : Th) (h : t.ok) (hp : t.d.py.plain = true) : evPrim .eq [t.d, .tup [.str (Str.ofString "*")]] = .ok (.bl t.isHole) := by
  show eqD t.d (.tup [.str (Str.ofString "*")]) = _
  unfold eqD
  have h2 : (D.tup [.str (Str.ofString "*")]).py.plain = true := rfl
  have h3 : decide (min t.d.py.depth (D.tup [.str (Str.ofString "*")]).py.depth ≤ 160) = true := decide_eq_true (Nat.le_trans (Nat.min_le_right _ _) (by decide))
  rw [hp, h2, h3, if_pos (by rfl)]
  congr 2
  cases t with
  | hole => rfl
  | call q k => simp [Th.d, D.py, D.pyL, PyData.eqv, PyData.eqvAll, Th.isHole]
  | mk nm us =>
    rw [Th.ok] at h
    cases us with
    | nil =>
      simp [Th.d, Th.dL, D.py, D.pyL, PyData.eqv, PyData.eqvAll, Th.isHole]
      exact h.2.1
    | cons u us => simp [Th.d, Th.dL, D.py, D.pyL, PyData.eqv, PyData.eqvAll, Th.isHole]
end
mutual
theorem Th.plain : ∀ t : Th, t.d.py.plain = true
  | .hole => rfl
  | .call _ _ => rfl
  | .mk nm us => by
    have := Th.plainL us
    simp only [Th.d, D.py, D.pyL, PyData.plain, PyData.plainAll, this, Bool.and_self]
theorem Th.plainL : ∀ us : List Th, PyData.plainAll (D.pyL (Th.dL us)) = true
  | [] => rfl
  | u :: us => by
    have h1 := Th.plain u
    have h2 := Th.plainL us
    simp only [Th.dL, D.pyL, PyData.plainAll, h1, h2, Bool.and_self]
end
end Bk

/-! H3: common, and holes for calls. -/
namespace Bk
open PySem
theorem map_getD {l : List D} : (List.range l.length).map (fun i => l.getD i .non) = l := by
  apply List.ext_getElem?
  intro i
  rw [List.getElem?_map]
  by_cases h : i < l.length
  · rw [List.getElem?_range h, List.getElem?_eq_getElem h]
    simp [List.getD_eq_getElem?_getD, h]
  · rw [List.getElem?_eq_none (by simpa using h), List.getElem?_eq_none (by omega)]
    rfl
theorem Th.comL_get : ∀ {us vs : List Th} {i : Nat} {u v : Th}, us[i]? = some u → vs[i]? = some v → (Th.comL us vs)[i]? = some (u.com v)
  | [], _, i, _, _, h, _ => by simp at h
  | _ :: _, [], i, _, _, _, h => by simp at h
  | u :: us, v :: vs, 0, a, b, ha, hb => by
    have e1 : u = a := Option.some.inj ha
    have e2 : v = b := Option.some.inj hb
    subst e1; subst e2
    rw [Th.comL]; rfl
  | u :: us, v :: vs, i + 1, a, b, ha, hb => by
    rw [Th.comL, List.getElem?_cons_succ]
    exact Th.comL_get (by simpa using ha) (by simpa using hb)
section
variable {su : Subs} {Ps : Nat → Option Df}
theorem common_ok (h35 : Ps 35 = some f_is_knot) (h36 : Ps 36 = some f_like_knots) (h38 : Ps 38 = some f_common) : ∀ (n : Nat) (a b : Th), a.ok → b.ok → a.high + 2 ≤ n → runD su Ps n 38 [a.d, b.d] = .ok (a.com b).d []
  | 0, _, _, _, _, h => by omega
  | 1, f, _, _, _, h => by omega
  | 2, f, t, _, _, h => by cases f <;> simp [Th.high] at h
  | n + 3, f, t, hf, ht, hn => by
    rw [runD_eq h38 rfl]
    have hlk := like_ok (su := su) h35 h36 n f t hf ht
    cases f with
    | hole =>
      have hlk : runD su Ps (n + 2) 36 [Th.hole.d, t.d] = .ok (.bl false) [] := by cases t <;> exact hlk
      simp [f_common, startR, hlk, Th.com, Th.d] <;> (simp only [Th.d] at hlk; simp [hlk])
    | call q k =>
      have hlk : runD su Ps (n + 2) 36 [(Th.call q k).d, t.d] = .ok (.bl false) [] := by cases t <;> exact hlk
      generalize (Th.call q k).d = A at hlk ⊢
      simp [f_common, startR, hlk, Th.com, Th.d]
    | mk nm us =>
      cases t with
      | hole =>
        have hlk : runD su Ps (n + 2) 36 [(Th.mk nm us).d, Th.hole.d] = .ok (.bl false) [] := hlk
        have e : (Th.mk nm us).com .hole = .hole := by simp [Th.com]
        rw [e]
        generalize (Th.mk nm us).d = A at hlk ⊢
        have hd : Th.hole.d = .tup [.str (Str.ofString "*")] := by simp [Th.d]
        rw [hd] at hlk ⊢
        simp [f_common, startR, hlk]
      | call q k =>
        have hlk : runD su Ps (n + 2) 36 [(Th.mk nm us).d, (Th.call q k).d] = .ok (.bl false) [] := hlk
        have e : (Th.mk nm us).com (.call q k) = .hole := by simp [Th.com]
        rw [e]
        generalize (Th.mk nm us).d = A at hlk ⊢
        generalize (Th.call q k).d = B at hlk ⊢
        simp [f_common, startR, hlk, Th.d]
      | mk n2 vs =>
        rw [Th.ok] at hf ht
        by_cases e1 : nm = n2 ∧ us.length = vs.length
        · have hc : (Th.mk nm us).com (.mk n2 vs) = .mk nm (Th.comL us vs) := by rw [Th.com, if_pos e1]
          obtain ⟨rfl, e2⟩ := e1
          have hlk : runD su Ps (n + 2) 36 [(Th.mk nm us).d, (Th.mk nm vs).d] = .ok (.bl true) [] := by rw [hlk]; simp [Th.like, e2]
          have td : (Th.mk nm us).d = .tup (.str nm :: us.map Th.d) := by simp [Th.d, Th.dL_map]
          have td2 : (Th.mk nm vs).d = .tup (.str nm :: vs.map Th.d) := by simp [Th.d, Th.dL_map]
          have td3 : (Th.mk nm (Th.comL us vs)).d = .tup (.str nm :: (Th.comL us vs).map Th.d) := by simp [Th.d, Th.dL_map]
          rw [hc, td3, td, td2]
          rw [td, td2] at hlk
          have hh : (Th.mk nm us).high = 1 + Th.highL us := by rw [Th.high]
          have hcl : ((Th.comL us vs).map Th.d).length = us.length := by rw [List.length_map, Th.comL_len e2]
          have hlen := hf.2.2.1
          have hcmp := ev_comp (q := ⟨su, runD su Ps (n + 2), none⟩) (elt := .call 38 [.op .idx [.var 0, .var 2], .op .idx [.var 1, .var 2]]) (it := .op .rng2 [.cst (.int 1), .op .len [.var 0]]) (tg := .v 2)
            (ρ := [.fz (.tup (.str nm :: us.map Th.d)), .fz (.tup (.str nm :: vs.map Th.d)), .un]) (List.range us.length) (fun i => .int (1 + (i : Nat))) (fun i => ((Th.comL us vs).map Th.d).getD i .non) (x := .lst (rngD 1 ((us.length : Int) + 1))) rfl
            (by simp (disch := first | assumption | omega | (simp <;> omega) | fail)) (by unfold rngD; rw [show ((us.length : Int) + 1 - 1).toNat = us.length by omega]; rfl) (fun i hi => by
              have hi1 : i < us.length := List.mem_range.mp hi
              have hi2 : i < vs.length := by omega
              have hx1 : evPrim .idx [.tup (.str nm :: us.map Th.d), .int (1 + (i : Nat))] = .ok us[i].d := pr_idx_tup (by omega) (by
                rw [show (1 + (i : Nat) : Int).toNat = i + 1 by omega, List.getElem?_cons_succ, List.getElem?_map, List.getElem?_eq_getElem hi1]
                rfl)
              have hx2 : evPrim .idx [.tup (.str nm :: vs.map Th.d), .int (1 + (i : Nat))] = .ok vs[i].d := pr_idx_tup (by omega) (by
                rw [show (1 + (i : Nat) : Int).toNat = i + 1 by omega, List.getElem?_cons_succ, List.getElem?_map, List.getElem?_eq_getElem hi2]
                rfl)
              have m1 := List.getElem_mem hi1
              have m2 := List.getElem_mem hi2
              have hb := Th.high_mem m1
              have ih := common_ok h35 h36 h38 (n + 2) us[i] vs[i] (Th.ok_mem hf.2.2.2 m1) (Th.ok_mem ht.2.2.2 m2) (by omega)
              have hg : ((Th.comL us vs).map Th.d).getD i .non = (us[i].com vs[i]).d := by
                rw [List.getD_eq_getElem?_getD, List.getElem?_map, Th.comL_get (List.getElem?_eq_getElem hi1) (List.getElem?_eq_getElem hi2)]
                rfl
              rw [hg]
              simp [cmpB, wipeR, hx1, hx2, ih]) (by simp [wipeR, backR]) (by rw [List.length_range]; show _ ≤ 16777216; omega)
          rw [← hcl, map_getD] at hcmp
          generalize (Th.comL us vs).map Th.d = C at *
          simp (disch := first | assumption | omega | (simp <;> omega) | fail) [f_common, startR, hlk, hcmp]
        · have hlk : runD su Ps (n + 2) 36 [(Th.mk nm us).d, (Th.mk n2 vs).d] = .ok (.bl false) [] := by
            rw [hlk]
            have : Th.like (.mk nm us) (.mk n2 vs) = false := by
              rw [Th.like]
              by_cases z : nm = n2
              · have : ¬ us.length = vs.length := fun y => e1 ⟨z, y⟩
                simp [this]
              · simp [z]
            rw [this]
          have hc : (Th.mk nm us).com (.mk n2 vs) = .hole := by rw [Th.com, if_neg e1]
          rw [hc]
          generalize (Th.mk nm us).d = A at hlk ⊢
          generalize (Th.mk n2 vs).d = B at hlk ⊢
          simp [f_common, startR, hlk, Th.d]
end
end Bk

/-! H4: holes for calls; a thing as a Th. -/
namespace Bk
open PySem
theorem Th.bareL_map : ∀ ts : List Th, Th.bareL ts = ts.map Th.bare
  | [] => rfl
  | t :: ts => by simp [Th.bareL, Th.bareL_map ts]
mutual
def Pt.th : Pt → Th
  | .call q k => .call q k
  | .mk nm us => .mk nm (Pt.thL us)
def Pt.thL : List Pt → List Th
  | [] => []
  | u :: us => u.th :: Pt.thL us
end
mutual
theorem Pt.th_d : ∀ t : Pt, t.th.d = t.d
  | .call q k => by simp [Pt.th, Th.d, Pt.d]
  | .mk nm us => by simp [Pt.th, Th.d, Pt.d, Pt.thL_d us]
theorem Pt.thL_d : ∀ us : List Pt, Th.dL (Pt.thL us) = Pt.dL us
  | [] => by simp [Pt.thL, Th.dL, Pt.dL]
  | u :: us => by simp [Pt.thL, Th.dL, Pt.dL, Pt.th_d u, Pt.thL_d us]
end
theorem Pt.thL_len : ∀ us : List Pt, (Pt.thL us).length = us.length
  | [] => rfl
  | u :: us => by simp [Pt.thL, Pt.thL_len us]
mutual
theorem Pt.th_high : ∀ t : Pt, t.th.high = t.high
  | .call q k => by simp [Pt.th, Th.high, Pt.high]
  | .mk nm us => by simp [Pt.th, Th.high, Pt.high, Pt.thL_high us]
theorem Pt.thL_high : ∀ us : List Pt, Th.highL (Pt.thL us) = Pt.highL us
  | [] => by simp [Pt.thL, Th.highL, Pt.highL]
  | u :: us => by simp [Pt.thL, Th.highL, Pt.highL, Pt.th_high u, Pt.thL_high us]
end
mutual
theorem Pt.th_ok {ks : List (Str × Int)} (hq : ∀ p ∈ ks, p.1 ≠ Str.ofString "?") (hs : ∀ p ∈ ks, p.1 ≠ Str.ofString "*") (h3 : ∀ p ∈ ks, p.2 ≤ 3) : ∀ t : Pt, t.kin ks → t.th.ok
  | .call q k, _ => by simp [Pt.th, Th.ok]
  | .mk nm us, h => by
    rw [Pt.kin] at h
    have h4 := h3 _ h.1
    have h4 : (us.length : Int) ≤ 3 := h4
    rw [Pt.th, Th.ok]
    exact ⟨hq _ h.1, hs _ h.1, by rw [Pt.thL_len]; omega, Pt.thL_ok hq hs h3 us h.2⟩
theorem Pt.thL_ok {ks : List (Str × Int)} (hq : ∀ p ∈ ks, p.1 ≠ Str.ofString "?") (hs : ∀ p ∈ ks, p.1 ≠ Str.ofString "*") (h3 : ∀ p ∈ ks, p.2 ≤ 3) : ∀ us : List Pt, Pt.kinL ks us → Th.okL (Pt.thL us)
  | [], _ => by rw [Pt.thL, Th.okL]; trivial
  | u :: us, h => by
    rw [Pt.kinL] at h
    rw [Pt.thL, Th.okL]
    exact ⟨Pt.th_ok hq hs h3 u h.1, Pt.thL_ok hq hs h3 us h.2⟩
end
end Bk

/-! E10: the laws' comparison. -/
namespace Bk
open PySem
/-- tuples, texts and whole numbers, at most n deep -/
def tsi : Nat → D → Prop
  | 0, _ => False
  | n + 1, .tup xs => xs.length ≤ 16777216 ∧ ∀ x ∈ xs, tsi n x
  | _ + 1, .str _ => True
  | _ + 1, .int _ => True
  | _ + 1, _ => False
mutual
theorem Tr.d_tsi : ∀ (t : Tr) (n : Nat), t.high < n → t.many ≤ 100000 → tsi n t.d
  | .mk nm us, n + 1, h, hm => by
    unfold Tr.high at h
    unfold Tr.many at hm
    unfold Tr.d
    have := Tr.many_len us
    refine ⟨by rw [List.length_cons, Tr.dL_map, List.length_map]; omega, fun x hx => ?_⟩
    rcases List.mem_cons.mp hx with rfl | hx
    · cases n with
      | zero => omega
      | succ n => trivial
    · exact Tr.dL_tsi us n (by omega) (by omega) x hx
theorem Tr.dL_tsi : ∀ (ts : List Tr) (n : Nat), Tr.highL ts < n → Tr.manyL ts ≤ 100000 → ∀ x ∈ Tr.dL ts, tsi n x
  | [], _, _, _ => fun x hx => by simp [Tr.dL] at hx
  | t :: ts, n, h, hm => fun x hx => by
    unfold Tr.highL at h
    unfold Tr.manyL at hm
    unfold Tr.dL at hx
    rcases List.mem_cons.mp hx with rfl | hx
    · exact Tr.d_tsi t n (by omega) (by omega)
    · exact Tr.dL_tsi ts n (by omega) (by omega) x hx
end
end Bk

/-! E11: places. -/
namespace Bk
open PySem
def pD (p : List Int) : D := .tup (p.map D.int)
mutual
def Tr.places : Tr → List (List Int)
  | .mk _ us => [] :: Tr.placesL 0 us
def Tr.placesL : Nat → List Tr → List (List Int)
  | _, [] => []
  | k, u :: us => u.places.map (fun p => (k : Int) :: p) ++ Tr.placesL (k + 1) us
end
mutual
theorem Tr.places_len : ∀ t : Tr, t.places.length = t.many
  | .mk _ us => by
    unfold Tr.places Tr.many
    rw [List.length_cons, Tr.placesL_len us 0]
    omega
theorem Tr.placesL_len : ∀ (us : List Tr) (k : Nat), (Tr.placesL k us).length = Tr.manyL us
  | [], _ => rfl
  | u :: us, k => by
    unfold Tr.placesL Tr.manyL
    rw [List.length_append, List.length_map, Tr.places_len u, Tr.placesL_len us (k + 1)]
end
theorem Tr.placesL_snoc (u : Tr) : ∀ (us : List Tr) (k : Nat), Tr.placesL k (us ++ [u]) = Tr.placesL k us ++ u.places.map (fun p => ((k + us.length : Nat) : Int) :: p)
  | [], k => by simp [Tr.placesL]
  | v :: us, k => by
    rw [List.cons_append]
    unfold Tr.placesL
    rw [Tr.placesL_snoc u us (k + 1), List.append_assoc, List.length_cons, show k + 1 + us.length = k + (us.length + 1) by omega]
theorem Tr.manyL_take (i : Nat) : ∀ us : List Tr, Tr.manyL (us.take i) ≤ Tr.manyL us := by
  induction i with
  | zero => intro us; simp [Tr.manyL]
  | succ i ih =>
    intro us
    cases us with
    | nil => simp
    | cons u us =>
      rw [List.take_succ_cons]
      unfold Tr.manyL
      have := ih us
      omega
mutual
theorem Tr.place_short : ∀ (t : Tr) (p : List Int), p ∈ t.places → p.length < t.high
  | .mk _ us, p, h => by
    unfold Tr.places at h
    unfold Tr.high
    rcases List.mem_cons.mp h with rfl | h
    · simp only [List.length_nil]; omega
    · have := Tr.placeL_short us 0 p h; omega
theorem Tr.placeL_short : ∀ (us : List Tr) (k : Nat) (p : List Int), p ∈ Tr.placesL k us → p.length ≤ Tr.highL us
  | [], _, p, h => by unfold Tr.placesL at h; cases h
  | u :: us, k, p, h => by
    unfold Tr.placesL at h
    unfold Tr.highL
    rcases List.mem_append.mp h with h | h
    · obtain ⟨q, hq, rfl⟩ := List.mem_map.mp h
      have := Tr.place_short u q hq
      simp only [List.length_cons]; omega
    · have := Tr.placeL_short us (k + 1) p h; omega
end
/-- range(1, n)'s name -/
def lv1 : Nat → Sl
  | 0 => .un
  | i + 1 => .fz (.int (1 + (i : Nat)))
end Bk

/-! H5: things turned and pruned. -/
namespace Bk
open PySem
mutual
def Th.turn (o : Th) : Th → Int → Th
  | .mk nm us, c => if c % 6 = 0 then o else .mk nm (Th.turnL o us 1 c)
  | t, c => if c % 6 = 0 then o else t
def Th.turnL (o : Th) : List Th → Int → Int → List Th
  | [], _, _ => []
  | u :: us, k, c => Th.turn o u ((c / 6 + 1) * 69621 * k % 2147483647) :: Th.turnL o us (k + 1) c
end
theorem Th.turnL_len (o : Th) : ∀ (us : List Th) (k c : Int), (Th.turnL o us k c).length = us.length
  | [], _, _ => rfl
  | u :: us, k, c => by simp [Th.turnL, Th.turnL_len o us (k + 1) c]
theorem Th.turnL_snoc (o u : Th) : ∀ (us : List Th) (k c : Int), Th.turnL o (us ++ [u]) k c = Th.turnL o us k c ++ [Th.turn o u ((c / 6 + 1) * 69621 * (k + us.length) % 2147483647)]
  | [], k, c => by simp [Th.turnL]
  | v :: us, k, c => by
    rw [List.cons_append, Th.turnL, Th.turnL_snoc o u us (k + 1) c, Th.turnL, List.length_cons, show k + 1 + (us.length : Int) = k + ((us.length + 1 : Nat) : Int) by omega]
    rfl
mutual
/-- holes in the place of drawn parts, and of calls -/
def Th.prune : Th → Int → Th
  | .mk nm us, c => if c % 5 = 0 then .hole else .mk nm (Th.pruneL us 1 c)
  | _, _ => .hole
def Th.pruneL : List Th → Int → Int → List Th
  | [], _, _ => []
  | u :: us, k, c => u.prune ((c / 5 + 1) * 48271 * k % 2147483647) :: Th.pruneL us (k + 1) c
end
theorem Th.pruneL_snoc (u : Th) : ∀ (us : List Th) (k c : Int), Th.pruneL (us ++ [u]) k c = Th.pruneL us k c ++ [u.prune ((c / 5 + 1) * 48271 * (k + us.length) % 2147483647)]
  | [], k, c => by simp [Th.pruneL]
  | v :: us, k, c => by
    rw [List.cons_append, Th.pruneL, Th.pruneL_snoc u us (k + 1) c, Th.pruneL, List.length_cons, show k + 1 + (us.length : Int) = k + ((us.length + 1 : Nat) : Int) by omega]
    rfl
theorem Th.pruneL_len : ∀ (us : List Th) (k c : Int), (Th.pruneL us k c).length = us.length
  | [], _, _ => rfl
  | u :: us, k, c => by simp [Th.pruneL, Th.pruneL_len us (k + 1) c]
section
variable {su : Subs} {Ps : Nat → Option Df}
theorem turned_ok (h40 : Ps 40 = some f_law_turned) (o : Th) : ∀ (n : Nat) (t : Th) (c : Int), t.ok → t ≠ .hole → (∀ nm us, t = .mk nm us → ∃ p : Pt, p.th = t) → t.high ≤ n → 0 ≤ c → c < 2 ^ 210 → runD su Ps n 40 [t.d, .int c, o.d] = .ok (Th.turn o t c).d []
  | 0, t, _, _, _, _, h, _, _ => by cases t <;> simp [Th.high] at h
  | n + 1, .hole, _, _, h, _, _, _, _ => absurd rfl h
  | n + 1, .call q k, c, _, _, _, _, h0, h1 => by
    rw [runD_eq h40 rfl]
    by_cases hc : c % 6 = 0
    · simp [f_law_turned, startR, Th.turn, hc]
    · simp [f_law_turned, startR, Th.turn, hc, Th.d]
  | n + 1, .mk nm us, c, hf, _, hpt, hn, h0, h1 => by
    rw [runD_eq h40 rfl]
    by_cases hc : c % 6 = 0
    · have : Th.turn o (.mk nm us) c = o := by rw [Th.turn, if_pos hc]
      rw [this]
      generalize (Th.mk nm us).d = A
      simp [f_law_turned, startR, hc]
    · have htn : Th.turn o (.mk nm us) c = .mk nm (Th.turnL o us 1 c) := by rw [Th.turn, if_neg hc]
      rw [Th.ok] at hf
      rw [Th.high] at hn
      have hlen := hf.2.2.1
      obtain ⟨p, hp⟩ := hpt nm us rfl
      have td : (Th.mk nm us).d = .tup (.str nm :: us.map Th.d) := by simp [Th.d, Th.dL_map]
      have td2 : (Th.mk nm (Th.turnL o us 1 c)).d = .tup (.str nm :: (Th.turnL o us 1 c).map Th.d) := by simp [Th.d, Th.dL_map]
      rw [htn, td2, td]
      have hpts : ∀ u ∈ us, ∃ p : Pt, p.th = u := by
        cases p with
        | call q k => simp [Pt.th] at hp
        | mk nm' ps =>
          simp only [Pt.th, Th.mk.injEq] at hp
          obtain ⟨_, rfl⟩ := hp
          clear hlen hn hc htn td td2 hpt
          have : ∀ ps : List Pt, ∀ u ∈ Pt.thL ps, ∃ p : Pt, p.th = u := by
            intro ps
            induction ps with
            | nil => intro u hu; simp [Pt.thL] at hu
            | cons q ps ih =>
              intro u hu
              rw [Pt.thL] at hu
              rcases List.mem_cons.mp hu with rfl | hu
              · exact ⟨q, rfl⟩
              · exact ih u hu
          exact this ps
      have hR := forL_rng2 (f := forB ⟨su, runD su Ps n, none⟩ (.v 4) (nth f_law_turned.body 3).loop) 1 ((us.length : Int) + 1)
        (fun i => [.fz (.tup (.str nm :: us.map Th.d)), .fz (.int c), .fz o.d, .fz (.tup ((Th.turnL o (us.take i) 1 c).map Th.d)), lv1 i]) fun i hi => by
          have hi' : i < us.length := by omega
          have hx : evPrim .idx [.tup (.str nm :: us.map Th.d), .int (1 + (i : Nat))] = .ok us[i].d := pr_idx_tup (by omega) (by
            rw [show (1 + (i : Nat) : Int).toNat = i + 1 by omega, List.getElem?_cons_succ, List.getElem?_map, List.getElem?_eq_getElem hi']
            rfl)
          have hmem : us[i] ∈ us := List.getElem_mem hi'
          have b1 := Th.high_mem hmem
          obtain ⟨pi, hpi⟩ := hpts us[i] hmem
          have m0 := Int.emod_nonneg ((c / 6 + 1) * 69621 * (1 + (i : Int))) (show (2147483647 : Int) ≠ 0 by decide)
          have m1 := Int.emod_lt_of_pos ((c / 6 + 1) * 69621 * (1 + (i : Int))) (show (0 : Int) < 2147483647 by decide)
          have ih := turned_ok h40 o n us[i] ((c / 6 + 1) * 69621 * (1 + (i : Int)) % 2147483647) (Th.ok_mem hf.2.2.2 hmem) (by rw [← hpi]; cases pi <;> simp [Pt.th]) (fun _ _ _ => ⟨pi, hpi⟩) (by omega) m0 (by omega)
          have e1 : us.take (i + 1) = us.take i ++ [us[i]] := by rw [List.take_add_one, List.getElem?_eq_getElem hi']; rfl
          have e2 : (us.take i).length = i := by rw [List.length_take]; omega
          obtain ⟨A, hA⟩ : ∃ A, A = (Th.turnL o (us.take i) 1 c).map Th.d := ⟨_, rfl⟩
          have hAl : A.length + 1 ≤ 16777216 := by rw [hA, List.length_map, Th.turnL_len, e2]; omega
          have hAB : (Th.turnL o (us.take (i + 1)) 1 c).map Th.d = A ++ [(Th.turn o us[i] ((c / 6 + 1) * 69621 * (1 + (i : Int)) % 2147483647)).d] := by
            rw [e1, Th.turnL_snoc, hA, e2]
            simp
          show forB ⟨su, runD su Ps n, none⟩ (.v 4) (nth f_law_turned.body 3).loop (.int (1 + (i : Nat))) [.fz (.tup (.str nm :: us.map Th.d)), .fz (.int c), .fz o.d, .fz (.tup ((Th.turnL o (us.take i) 1 c).map Th.d)), lv1 i] = O.nx [.fz (.tup (.str nm :: us.map Th.d)), .fz (.int c), .fz o.d, .fz (.tup ((Th.turnL o (us.take (i + 1)) 1 c).map Th.d)), .fz (.int (1 + (i : Nat)))]
          rw [hAB, ← hA]
          have z1 : (c / 6 + 1).natAbs < 2 ^ 250 := by omega
          have z2 : ((c / 6 + 1) * 69621).natAbs < 2 ^ 250 := by omega
          have z3 : (1 + (i : Int)).natAbs < 2 ^ 250 := by omega
          simp (disch := first | assumption | omega | (simp <;> omega) | fail) [forB, nth, f_law_turned, S.loop, hx, ih]
      rw [show ((us.length : Int) + 1 - 1).toNat = us.length by omega, List.take_length] at hR
      simp only [nth, f_law_turned, S.loop, List.getD_cons_succ, List.getD_cons_zero, lv1, List.take_zero, Th.turnL, List.map_nil] at hR
      have hl : ((Th.turnL o us 1 c).map Th.d).length ≤ 100000 := by rw [List.length_map, Th.turnL_len]; exact hlen
      generalize (Th.turnL o us 1 c).map Th.d = C at *
      simp (disch := first | assumption | omega | (simp <;> omega) | fail) [f_law_turned, startR, hc, hf.1, hR]
end
end Bk

/-! W1: what a run ends with, by predicates; rules for loops and comprehensions that fit where simp stops. -/
namespace Bk
open PySem
/-- the call ends with a value such that .. -/
def Ret (r : Rs) (Q : D → Prop) : Prop := ∃ d, r = .ok d [] ∧ Q d
/-- the call raises c -/
def W (K : O → Prop) (o : O) : Prop := K o
/-- a def's end: its value; or the class that it raises -/
def FinK (Q : D → Prop) (X : Nat → Prop) : O → Prop
  | .nx _ => Q .non
  | .ret d _ => Q d
  | .exc c _ => X c
  | _ => False
def TurnK (J : Rho → Prop) (K : O → Prop) : O → Prop
  | .nx ρ => J ρ
  | .cont ρ => J ρ
  | .brk ρ => K (.nx ρ)
  | .ret d ρ => K (.ret d ρ)
  | .exc c ρ => K (.exc c ρ)
  | .stuck => False
def SeqK (q : En) (ss : List S) (K : O → Prop) : O → Prop := fun o => W K (seqK q ss o)
def NxK (J : Rho → Prop) : O → Prop
  | .nx ρ => J ρ
  | _ => False
section
variable (Q : D → Prop) (X : Nat → Prop) (J : Rho → Prop) (K : O → Prop) (ρ : Rho) (d : D) (c : Nat) (q : En) (ss : List S)
@[simp] theorem w_fin_nx : W (FinK Q X) (.nx ρ) = Q .non := (rfl)
@[simp] theorem w_fin_ret : W (FinK Q X) (.ret d ρ) = Q d := (rfl)
@[simp] theorem w_fin_exc : W (FinK Q X) (.exc c ρ) = X c := (rfl)
@[simp] theorem w_turn_nx : W (TurnK J K) (.nx ρ) = J ρ := (rfl)
@[simp] theorem w_turn_cont : W (TurnK J K) (.cont ρ) = J ρ := (rfl)
@[simp] theorem w_turn_brk : W (TurnK J K) (.brk ρ) = W K (.nx ρ) := (rfl)
@[simp] theorem w_turn_ret : W (TurnK J K) (.ret d ρ) = W K (.ret d ρ) := (rfl)
@[simp] theorem w_turn_exc : W (TurnK J K) (.exc c ρ) = W K (.exc c ρ) := (rfl)
@[simp] theorem w_seq_nx : W (SeqK q ss K) (.nx ρ) = W K (evSs q ss ρ) := (rfl)
@[simp] theorem w_seq_ret : W (SeqK q ss K) (.ret d ρ) = W K (.ret d ρ) := (rfl)
@[simp] theorem w_seq_brk : W (SeqK q ss K) (.brk ρ) = W K (.brk ρ) := (rfl)
@[simp] theorem w_seq_cont : W (SeqK q ss K) (.cont ρ) = W K (.cont ρ) := (rfl)
@[simp] theorem w_seq_exc : W (SeqK q ss K) (.exc c ρ) = W K (.exc c ρ) := (rfl)
@[simp] theorem w_nx : W (NxK J) (.nx ρ) = J ρ := (rfl)
end
theorem ret_of {su : Subs} {Ps : Nat → Option Df} {n f : Nat} {df : Df} {ds : List D} {Q : D → Prop} (h : Ps f = some df) (hl : ds.length = df.np) (hio : df.io = [])
    (hw : W (FinK Q fun _ => False) (evSs ⟨su, runD su Ps n, none⟩ df.body (startR df.io 0 ds ++ List.replicate (df.N.length - df.np) Sl.un))) : Ret (runD su Ps (n + 1) f ds) Q := by
  rw [runD_eq h hl, hio] at *
  generalize evSs ⟨su, runD su Ps n, none⟩ df.body _ = o at *
  cases o with
  | nx ρ => exact ⟨_, rfl, hw⟩
  | ret d ρ => exact ⟨_, rfl, hw⟩
  | _ => exact hw.elim
/-- a def that may raise -/
def RetX (r : Rs) (Q : D → Prop) (X : Nat → Prop) : Prop := (∃ d, r = .ok d [] ∧ Q d) ∨ (∃ c, r = .exc c [] ∧ X c)
theorem retX_of {su : Subs} {Ps : Nat → Option Df} {n f : Nat} {df : Df} {ds : List D} {Q : D → Prop} {X : Nat → Prop} (h : Ps f = some df) (hl : ds.length = df.np) (hio : df.io = [])
    (hw : W (FinK Q X) (evSs ⟨su, runD su Ps n, none⟩ df.body (startR df.io 0 ds ++ List.replicate (df.N.length - df.np) Sl.un))) : RetX (runD su Ps (n + 1) f ds) Q X := by
  rw [runD_eq h hl, hio] at *
  generalize evSs ⟨su, runD su Ps n, none⟩ df.body _ = o at *
  cases o with
  | nx ρ => exact .inl ⟨_, rfl, hw⟩
  | ret d ρ => exact .inl ⟨_, rfl, hw⟩
  | exc c ρ => exact .inr ⟨_, rfl, hw⟩
  | _ => exact hw.elim
theorem Ret.eq {r : Rs} {d : D} (h : Ret r (· = d)) : r = .ok d [] := by
  obtain ⟨_, e, rfl⟩ := h
  exact e
theorem Ret.mono {r : Rs} {Q Q' : D → Prop} (h : Ret r Q) (hq : ∀ d, Q d → Q' d) : Ret r Q' := by
  obtain ⟨d, e, h⟩ := h
  exact ⟨d, e, hq d h⟩
/-- a for by an invariant -/
theorem w_for {K : O → Prop} {q : En} {ss : List S} {f : D → Rho → O} {xs : List D} {ρ : Rho} (I : Nat → Rho → Prop) (h0 : I 0 ρ)
    (hs : ∀ i x ρ, xs[i]? = some x → i < xs.length → I i ρ → W (TurnK (I (i + 1)) (SeqK q ss K)) (f x ρ)) (he : ∀ ρ, I xs.length ρ → W K (evSs q ss ρ)) : W K (seqK q ss (forL f xs ρ)) := by
  refine forL_inv (Q := fun o => W K (seqK q ss o)) I xs 0 ρ h0 (fun i x ρ hx hI => ?_) (fun ρ hI => ?_)
  · rw [Nat.zero_add] at hI ⊢
    have := hs i x ρ hx (List.getElem?_eq_some_iff.mp hx).1 hI
    generalize f x ρ = o at *
    cases o with
    | nx ρ => exact .inl ⟨_, rfl, this⟩
    | cont ρ => exact .inr (.inl ⟨_, rfl, this⟩)
    | brk ρ => exact .inr (.inr (.inl ⟨_, rfl, this⟩))
    | ret d ρ => exact .inr (.inr (.inr (.inl ⟨_, _, rfl, this⟩)))
    | exc c ρ => exact .inr (.inr (.inr (.inr ⟨_, _, rfl, this⟩)))
    | stuck => exact this.elim
  · rw [Nat.zero_add] at hI
    exact he ρ hI
/-- a for over list items: the invariant speaks of what is done -/
theorem w_for_l {α : Type} {K : O → Prop} {q : En} {ss : List S} {f : D → Rho → O} {a : α → D} {L : List α} {ρ : Rho} (I : List α → Rho → Prop) (h0 : I [] ρ)
    (hs : ∀ pre x post ρ, L = pre ++ x :: post → I pre ρ → W (TurnK (I (pre ++ [x])) (SeqK q ss K)) (f (a x) ρ)) (he : ∀ ρ, I L ρ → W K (evSs q ss ρ)) : W K (seqK q ss (forL f (L.map a) ρ)) := by
  refine w_for (fun i => I (L.take i)) (by rw [List.take_zero]; exact h0) (fun i x ρ hx hi hI => ?_) (fun ρ hI => ?_)
  · rw [List.length_map] at hi
    rw [List.getElem?_map, List.getElem?_eq_getElem hi] at hx
    cases hx
    have e : L = L.take i ++ L[i] :: L.drop (i + 1) := by rw [List.getElem_cons_drop, List.take_append_drop]
    have := hs _ _ _ ρ e hI
    rw [show L.take (i + 1) = L.take i ++ [L[i]] by rw [List.take_add_one, List.getElem?_eq_getElem hi]; rfl]
    exact this
  · rw [List.length_map, List.take_length] at hI
    exact he ρ hI
/-- a for over range(a, b) -/
theorem w_for_r {K : O → Prop} {q : En} {ss : List S} {f : D → Rho → O} {a b : Int} {ρ : Rho} (I : Nat → Rho → Prop) (h0 : I 0 ρ)
    (hs : ∀ (i : Nat) ρ, i < (b - a).toNat → I i ρ → W (TurnK (I (i + 1)) (SeqK q ss K)) (f (.int (a + (i : Nat))) ρ)) (he : ∀ ρ, I (b - a).toNat ρ → W K (evSs q ss ρ)) : W K (seqK q ss (forL f (rngD a b) ρ)) := by
  refine w_for I h0 (fun i x ρ hx hi hI => ?_) (fun ρ hI => ?_)
  · obtain ⟨rfl, h⟩ := rngD_get hx
    exact hs i ρ h hI
  · rw [rngD_len] at hI
    exact he ρ hI
/-- for k in range(1, len(x)), x a knot's tuple: the items in turn -/
theorem w_for_k {α : Type} {K : O → Prop} {q : En} {ss : List S} {f : D → Rho → O} {L : List α} {b : Int} {ρ : Rho} (hb : b = (L.length : Int) + 1) (I : List α → Rho → Prop) (h0 : I [] ρ)
    (hs : ∀ pre x post ρ, L = pre ++ x :: post → I pre ρ → W (TurnK (I (pre ++ [x])) (SeqK q ss K)) (f (.int (1 + (pre.length : Int))) ρ)) (he : ∀ ρ, I L ρ → W K (evSs q ss ρ)) : W K (seqK q ss (forL f (rngD 1 b) ρ)) := by
  refine w_for_r (fun i => I (L.take i)) (by rw [List.take_zero]; exact h0) (fun i ρ hi hI => ?_) (fun ρ hI => ?_)
  · have hi : i < L.length := by omega
    have e : L = L.take i ++ L[i] :: L.drop (i + 1) := by rw [List.getElem_cons_drop, List.take_append_drop]
    have := hs _ _ _ ρ e hI
    rw [show L.take (i + 1) = L.take i ++ [L[i]] by rw [List.take_add_one, List.getElem?_eq_getElem hi]; rfl]
    rw [List.length_take, Nat.min_eq_left (by omega)] at this
    exact this
  · rw [show (b - 1).toNat = L.length by omega, List.take_length] at hI
    exact he ρ hI
/-- the kid behind pre -/
@[simp] theorem idx_app (x : D) (A B : List D) (y : D) (k : Nat) (h : A.length = k) : evPrim .idx [.tup (x :: (A ++ y :: B)), .int (1 + (k : Int))] = .ok y :=
  pr_idx_tup (by omega) (by rw [show (1 + (k : Int)).toNat = k + 1 by omega, ← h]; simp)
@[simp] theorem idx_app0 (A B : List D) (y : D) (k : Nat) (h : A.length = k) : evPrim .idx [.tup (A ++ y :: B), .int (k : Int)] = .ok y :=
  pr_idx_tup (by omega) (by rw [Int.toNat_natCast, ← h]; simp)
@[simp] theorem idx_appl (A B : List D) (y : D) (k : Nat) (h : A.length = k) : evPrim .idx [.lst (A ++ y :: B), .int (k : Int)] = .ok y :=
  pr_idx_lst (by omega) (by rw [Int.toNat_natCast, ← h]; simp)
/-- the i-th item -/
theorem idx_get {xs : List D} {i : Int} {j : Nat} {x : D} (e : i = (j : Int)) (h : xs[j]? = some x) : evPrim .idx [.tup xs, .int i] = .ok x := pr_idx_tup (by omega) (by rw [e, Int.toNat_natCast]; exact h)
theorem idxl_get {xs : List D} {i : Int} {j : Nat} {x : D} (e : i = (j : Int)) (h : xs[j]? = some x) : evPrim .idx [.lst xs, .int i] = .ok x := pr_idx_lst (by omega) (by rw [e, Int.toNat_natCast]; exact h)
/-! comprehensions, where simp stops -/
def cmpF (q : En) (elt : P) (tg : Tg) : Option P → D → Rho → Ev (Option D)
  | none => cmpB q elt tg
  | some c => cmpI q elt c tg
def cmpEnd (ρ : Rho) (l : Option (Pl × D)) (r : List D) : R Rho → Ev D
  | .ok ρ' => (okIf (decide (r.length ≤ sizeLine)) (.lst r)).at ρ'
  | .stuck => .stuck
def cmpRun2 (q : En) (elt : P) (tg : Tg) (c : Option P) (ρ : Rho) (xs : List D) : R (Option (Pl × D) × Rho) → Ev D
  | .ok l => (compL (cmpF q elt tg c) xs (wipeR l.2 tg.slots)).bind fun r ρ' => cmpEnd ρ l.1 r (backI (backR l.2 ρ' tg.slots) l.1)
  | .stuck => .stuck
def cmpRun1 (q : En) (elt : P) (tg : Tg) (it : P) (c : Option P) (ρ : Rho) : R (List D) → Ev D
  | .ok xs => cmpRun2 q elt tg c ρ xs (lendI ρ it)
  | .stuck => .stuck
@[simp] theorem cmpRun1_ok (q : En) (elt : P) (tg : Tg) (it : P) (c : Option P) (ρ : Rho) (xs : List D) : cmpRun1 q elt tg it c ρ (.ok xs) = cmpRun2 q elt tg c ρ xs (lendI ρ it) := (rfl)
def cmpRun (q : En) (elt : P) (tg : Tg) (it : P) (c : Option P) : Ev D → Ev D
  | .ok x ρ => cmpRun1 q elt tg it c ρ (itemsOf x)
  | .exc k ρ => .exc k ρ
  | .stuck => .stuck
@[simp] theorem cmpRun_ok (q : En) (elt : P) (tg : Tg) (it : P) (c : Option P) (x : D) (ρ : Rho) : cmpRun q elt tg it c (.ok x ρ) = cmpRun1 q elt tg it c ρ (itemsOf x) := (rfl)
@[simp] theorem ev_cmp (q : En) (ρ : Rho) (elt : P) (tg : Tg) (it : P) (c : Option P) : evP q (.comp elt tg it c) ρ = cmpRun q elt tg it c (evP q it ρ) := by
  have fin : ∀ (ρ : Rho) (l : Option (Pl × D) × Rho) (f : D → Rho → Ev (Option D)) (xs : List D), ((compL f xs (wipeR l.2 tg.slots)).bind fun r ρ' =>
        ((backI (backR l.2 ρ' tg.slots) l.1).at ρ).bind fun ρ _ => (okIf (decide (r.length ≤ sizeLine)) (.lst r)).at ρ) = (compL f xs (wipeR l.2 tg.slots)).bind fun r ρ' => cmpEnd ρ l.1 r (backI (backR l.2 ρ' tg.slots) l.1) := by
    intro ρ l f xs
    cases compL f xs (wipeR l.2 tg.slots) with
    | ok r ρ' =>
      simp only [Ev.bind_ok]
      cases backI (backR l.2 ρ' tg.slots) l.1 <;> rfl
    | exc c ρ => rfl
    | stuck => rfl
  cases c with
  | none =>
    rw [evP]
    have e : (fun y ρ => ((setT tg y ρ).at ρ).bind fun ρ _ => (evP q elt ρ).noX.bind fun z ρ => Ev.ok (some z) (wipeR ρ tg.slots)) = cmpB q elt tg := by
      funext y ρ
      unfold cmpB
      cases setT tg y ρ with
      | stuck => rfl
      | ok ρ2 =>
        show (evP q elt ρ2).noX.bind _ = cmpK3 ρ2 tg.slots (evP q elt ρ2)
        cases evP q elt ρ2 <;> rfl
    rw [e]
    cases evP q it ρ with
    | ok x ρ =>
      simp only [Ev.bind_ok, cmpRun_ok]
      cases itemsOf x with
      | ok xs =>
        simp only [Ev.bind_ok, R.at_ok, cmpRun1_ok]
        cases lendI ρ it with
        | ok l => exact fin ρ l _ xs
        | stuck => rfl
      | stuck => rfl
    | exc c ρ => rfl
    | stuck => rfl
  | some c =>
    rw [evP]
    have e : (fun y ρ => ((setT tg y ρ).at ρ).bind fun ρ _ => (evP q c ρ).noX.bind fun z ρ => ((asB z).at ρ).bind fun k ρ => if k then (evP q elt ρ).noX.bind fun z ρ => Ev.ok (some z) (wipeR ρ tg.slots) else .ok none (wipeR ρ tg.slots)) = cmpI q elt c tg := by
      funext y ρ
      unfold cmpI
      cases setT tg y ρ with
      | stuck => rfl
      | ok ρ2 =>
        show (evP q c ρ2).noX.bind _ = cmpI2 q elt tg.slots (evP q c ρ2)
        cases evP q c ρ2 with
        | ok z ρ3 =>
          cases z with
          | bl k =>
            cases k with
            | false => rfl
            | true =>
              show (evP q elt ρ3).noX.bind _ = cmpK3 ρ3 tg.slots (evP q elt ρ3)
              cases evP q elt ρ3 <;> rfl
          | _ => rfl
        | exc c ρ => rfl
        | stuck => rfl
    rw [e]
    cases evP q it ρ with
    | ok x ρ =>
      simp only [Ev.bind_ok, cmpRun_ok]
      cases itemsOf x with
      | ok xs =>
        simp only [Ev.bind_ok, R.at_ok, cmpRun1_ok]
        cases lendI ρ it with
        | ok l => exact fin ρ l _ xs
        | stuck => rfl
      | stuck => rfl
    | exc c ρ => rfl
    | stuck => rfl
/-- one's own is lent -/
@[simp] theorem lend_bor (ρ : Rho) (i : Nat) : lendI ρ (.bor ⟨i, none⟩) = (match takeS ρ i ρ[i]? with | .ok dr => .ok (some (⟨i, none⟩, dr.1), dr.2) | .stuck => .ok (none, ρ)) := by
  simp only [lendI, take_eq]
  cases takeS ρ i ρ[i]? <;> rfl
theorem compL_ex {α : Type} {a : α → D} {f : D → Rho → Ev (Option D)} {ρ : Rho} {P : α → D → Prop} : ∀ (xs : List α), (∀ x ∈ xs, ∃ y, f (a x) ρ = .ok (some y) ρ ∧ P x y) → ∃ ys, compL f (xs.map a) ρ = .ok ys ρ ∧ ys.length = xs.length ∧ ∀ (i : Nat) x y, xs[i]? = some x → ys[i]? = some y → P x y
  | [], _ => ⟨[], rfl, rfl, fun i x y h => by simp at h⟩
  | x :: xs, h => by
    obtain ⟨y, e, hp⟩ := h x List.mem_cons_self
    obtain ⟨ys, e2, hl, hps⟩ := compL_ex xs fun z hz => h z (List.mem_cons_of_mem _ hz)
    refine ⟨y :: ys, ?_, by simp [hl], fun i u v hu hv => ?_⟩
    · rw [List.map_cons]
      unfold compL
      rw [e, Ev.bind_ok, e2]
      rfl
    · cases i with
      | zero =>
        cases hu; cases hv
        exact hp
      | succ i => exact hps i u v (by simpa using hu) (by simpa using hv)
/-- slots wiped and given back -/
theorem back_wipe {ρ : Rho} : ∀ (is : List Nat), (∀ i ∈ is, i < ρ.length) → backR ρ (wipeR ρ is) is = ρ := by
  have hw : ∀ (is : List Nat), (wipeR ρ is).length = ρ.length := by
    intro is
    induction is with
    | nil => rfl
    | cons i is ih => rw [wipeR, List.length_set, ih]
  have hn : ∀ (is : List Nat) (j : Nat), j ∉ is → (wipeR ρ is)[j]? = ρ[j]? := by
    intro is
    induction is with
    | nil => intro j _; rfl
    | cons i is ih =>
      intro j hj
      rw [wipeR, List.getElem?_set_ne (fun h => hj (by rw [h]; exact List.mem_cons_self)), ih j (fun h => hj (List.mem_cons_of_mem _ h))]
  have hb : ∀ (is : List Nat) (σ : Rho), σ.length = ρ.length → (∀ i ∈ is, i < ρ.length) → (backR ρ σ is).length = ρ.length ∧ ∀ j, (backR ρ σ is)[j]? = if j ∈ is then ρ[j]? else σ[j]? := by
    intro is
    induction is with
    | nil => intro σ h _; exact ⟨h, fun j => by simp [backR]⟩
    | cons i is ih =>
      intro σ hl hi
      obtain ⟨e1, e2⟩ := ih σ hl (fun j hj => hi j (List.mem_cons_of_mem _ hj))
      have hil := hi i List.mem_cons_self
      refine ⟨by rw [backR, List.length_set]; exact e1, fun j => ?_⟩
      rw [backR]
      by_cases e : i = j
      · subst e
        rw [List.getElem?_set_self (by omega), if_pos List.mem_cons_self, List.getD_eq_getElem?_getD, List.getElem?_eq_getElem hil]
        rfl
      · rw [List.getElem?_set_ne e, e2 j]
        have : (j ∈ i :: is) = (j ∈ is) := by
          rw [List.mem_cons]
          exact propext ⟨fun h => h.resolve_left (fun z => e z.symm), .inr⟩
        simp only [this]
  intro is hi
  obtain ⟨_, h2⟩ := hb is (wipeR ρ is) (hw is) hi
  refine List.ext_getElem? fun j => ?_
  rw [h2 j]
  by_cases h : j ∈ is
  · rw [if_pos h]
  · rw [if_neg h]
    exact hn is j h
/-- .. for .. in L: where each turn's value is known -/
theorem comp_run {α : Type} {q : En} {elt : P} {tg : Tg} {ρ σ : Rho} (L : List α) (a g : α → D) (hl : L.length ≤ 16777216) (hi : ∀ i ∈ tg.slots, i < ρ.length)
    (h : ∀ y ∈ L, cmpB q elt tg (a y) (wipeR ρ tg.slots) = .ok (some (g y)) (wipeR ρ tg.slots)) : cmpRun2 q elt tg none σ (L.map a) (.ok (none, ρ)) = .ok (.lst (L.map g)) ρ := by
  show (compL (cmpB q elt tg) (L.map a) (wipeR ρ tg.slots)).bind _ = _
  rw [compL_map L h, Ev.bind_ok, back_wipe _ hi]
  show (okIf (decide ((L.map g).length ≤ sizeLine)) (.lst (L.map g))).at ρ = _
  rw [List.length_map, decide_eq_true (show L.length ≤ sizeLine from hl)]
  rfl
theorem comp_runIf {α : Type} {q : En} {elt c : P} {tg : Tg} {ρ σ : Rho} (L : List α) (a : α → D) (g : α → Option D) (hl : L.length ≤ 16777216) (hi : ∀ i ∈ tg.slots, i < ρ.length)
    (h : ∀ y ∈ L, cmpI q elt c tg (a y) (wipeR ρ tg.slots) = .ok (g y) (wipeR ρ tg.slots)) : cmpRun2 q elt tg (some c) σ (L.map a) (.ok (none, ρ)) = .ok (.lst (L.filterMap g)) ρ := by
  show (compL (cmpI q elt c tg) (L.map a) (wipeR ρ tg.slots)).bind _ = _
  rw [compL_filter L h, Ev.bind_ok, back_wipe _ hi]
  show (okIf (decide ((L.filterMap g).length ≤ sizeLine)) (.lst (L.filterMap g))).at ρ = _
  rw [decide_eq_true (show (L.filterMap g).length ≤ sizeLine from Nat.le_trans (List.length_filterMap_le _ _) hl)]
  rfl
theorem comp_runB {α : Type} {q : En} {elt : P} {tg : Tg} {p : Nat} {d : D} {ρ ρ0 σ : Rho} (L : List α) (a g : α → D) (hl : L.length ≤ 16777216) (hi : ∀ i ∈ tg.slots, i < ρ.length)
    (h : ∀ y ∈ L, cmpB q elt tg (a y) (wipeR ρ tg.slots) = .ok (some (g y)) (wipeR ρ tg.slots)) : cmpRun2 q elt tg none σ (L.map a) (.ok (some (⟨p, none⟩, d), ρ)) = .ok (.lst (L.map g)) (ρ.set p (.own d)) := by
  show (compL (cmpB q elt tg) (L.map a) (wipeR ρ tg.slots)).bind _ = _
  rw [compL_map L h, Ev.bind_ok, back_wipe _ hi]
  show (okIf (decide ((L.map g).length ≤ sizeLine)) (.lst (L.map g))).at _ = _
  rw [List.length_map, decide_eq_true (show L.length ≤ sizeLine from hl)]
  rfl
theorem comp_ex {α : Type} {q : En} {elt : P} {tg : Tg} {ρ σ : Rho} (L : List α) (a : α → D) (P : α → D → Prop) (hl : L.length ≤ 16777216) (hi : ∀ i ∈ tg.slots, i < ρ.length)
    (h : ∀ y ∈ L, ∃ z, cmpB q elt tg (a y) (wipeR ρ tg.slots) = .ok (some z) (wipeR ρ tg.slots) ∧ P y z) : ∃ zs, cmpRun2 q elt tg none σ (L.map a) (.ok (none, ρ)) = .ok (.lst zs) ρ ∧ zs.length = L.length ∧ ∀ (i : Nat) x y, L[i]? = some x → zs[i]? = some y → P x y := by
  obtain ⟨zs, e, e2, e3⟩ := compL_ex L h
  refine ⟨zs, ?_, e2, e3⟩
  show (compL (cmpB q elt tg) (L.map a) (wipeR ρ tg.slots)).bind _ = _
  rw [e, Ev.bind_ok, back_wipe _ hi]
  show (okIf (decide (zs.length ≤ sizeLine)) (.lst zs)).at ρ = _
  rw [e2, decide_eq_true (show L.length ≤ sizeLine from hl)]
  rfl
/-! a for over few items, in turn -/
def turnL (f : D → Rho → O) (xs : List D) (o : O) : O := o.turn (forL f xs)
section
variable (f : D → Rho → O) (x : D) (xs : List D) (ρ : Rho) (d : D) (c : Nat)
theorem forL_nil : forL f [] ρ = .nx ρ := (rfl)
theorem forL_cons : forL f (x :: xs) ρ = turnL f xs (f x ρ) := (rfl)
@[simp] theorem turnL_nx : turnL f xs (.nx ρ) = forL f xs ρ := (rfl)
@[simp] theorem turnL_cont : turnL f xs (.cont ρ) = forL f xs ρ := (rfl)
@[simp] theorem turnL_brk : turnL f xs (.brk ρ) = .nx ρ := (rfl)
@[simp] theorem turnL_ret : turnL f xs (.ret d ρ) = .ret d ρ := (rfl)
@[simp] theorem turnL_exc : turnL f xs (.exc c ρ) = .exc c ρ := (rfl)
end
@[simp] theorem pr_eq_bl (a b : Bool) : evPrim .eq [.bl a, .bl b] = .ok (.bl (a == b)) := by
  show eqD (.bl a) (.bl b) = _
  unfold eqD
  simp [D.py, PyData.plain, PyData.depth, PyData.eqv]
@[simp] theorem pr_ne_bl (a b : Bool) : evPrim .ne [.bl a, .bl b] = .ok (.bl (!(a == b))) := by
  show notR (evPrim .eq [.bl a, .bl b]) = _
  rw [pr_eq_bl]; rfl
@[simp] theorem ite_ok {α : Type} (p : Prop) [Decidable p] (a b : α) (ρ : Rho) : (if p then Ev.ok a ρ else Ev.ok b ρ) = Ev.ok (if p then a else b) ρ := by split <;> rfl
@[simp] theorem ite_bl (p : Prop) [Decidable p] (a b : Bool) : (if p then D.bl a else D.bl b) = D.bl (if p then a else b) := by split <;> rfl
@[simp] theorem ite_int (p : Prop) [Decidable p] (a b : Int) : (if p then D.int a else D.int b) = D.int (if p then a else b) := by split <;> rfl
@[simp] theorem setT_t (is : List Nat) (xs : List D) (ρ : Rho) : setT (.t is) (.tup xs) ρ = setL is xs ρ := (rfl)
@[simp] theorem setL_nil (ρ : Rho) : setL [] [] ρ = .ok ρ := (rfl)
@[simp] theorem setL_cons (i : Nat) (is : List Nat) (x : D) (xs : List D) (ρ : Rho) : setL (i :: is) (x :: xs) ρ = setL is xs (ρ.set i (.fz x)) := (rfl)
/-- up to the j-th -/
theorem pr_slc_lto {xs : List D} {j : Nat} : evPrim (.slc false true) [.lst xs, .int j] = .ok (.lst (xs.take j)) := by
  show R.ok (D.lst (cutD xs none (some (j : Int)))) = _
  unfold cutD
  rw [HT.sIx_none, List.drop_zero, Nat.sub_zero, show HT.sIx xs.length xs.length (some (j : Int)) = min j xs.length from HT.sIx_nat _ _ _]
  by_cases h : j ≤ xs.length
  · rw [Nat.min_eq_left h]
  · rw [Nat.min_eq_right (by omega), List.take_length, List.take_of_length_le (by omega)]
/-- [x[j] for x in L] -/
theorem comp_fld {α : Type} {q : En} {ρ σ : Rho} (L : List α) (a g : α → D) (s : Nat) (j : Int) (hl : L.length ≤ 16777216) (hg : ∀ y ∈ L, evPrim .idx [a y, .int j] = .ok (g y)) (hs : s < ρ.length) :
    cmpRun2 q (.op .idx [.var s, .cst (.int j)]) (.v s) none σ (L.map a) (.ok (none, ρ)) = .ok (.lst (L.map g)) ρ :=
  comp_run L a g hl (by simpa using hs) (fun y hy => by
    have e : (ρ.set s (.fz (a y)))[s]? = some (.fz (a y)) := List.getElem?_set_self hs
    simp [cmpB, wipeR, List.set_set, e, hg y hy])
@[simp] theorem pr_intOf_bl (b : Bool) : evPrim .intOf [.bl b] = .ok (.int (if b then 1 else 0)) := (rfl)
@[simp] theorem pr_intOf_int (i : Int) : evPrim .intOf [.int i] = .ok (.int i) := (rfl)
/-- [.. for k in range(1, len(x))], x a knot's tuple -/
theorem comp_k {α : Type} {q : En} {elt : P} {s : Nat} {ρ σ : Rho} (L : List α) (g : α → D) {b : Int} (hb : b = (L.length : Int) + 1) (hl : L.length ≤ 16777216) (hs : s < ρ.length)
    (h : ∀ pre x post, L = pre ++ x :: post → cmpB q elt (.v s) (.int (1 + (pre.length : Int))) (wipeR ρ [s]) = .ok (some (g x)) (wipeR ρ [s])) : cmpRun2 q elt (.v s) none σ (rngD 1 b) (.ok (none, ρ)) = .ok (.lst (L.map g)) ρ := by
  have e : rngD 1 b = (List.range L.length).map (fun k => D.int (1 + (k : Nat))) := by
    unfold rngD
    rw [show (b - 1).toNat = L.length by omega]
  rw [e, comp_run (List.range L.length) _ (fun i => match L[i]? with | some x => g x | none => .non) (by rw [List.length_range]; exact hl) (by simpa using hs) (fun i hi => by
    have hi : i < L.length := List.mem_range.mp hi
    have e2 : L = L.take i ++ L[i] :: L.drop (i + 1) := by rw [List.getElem_cons_drop, List.take_append_drop]
    have := h _ _ _ e2
    rw [List.length_take, Nat.min_eq_left (by omega)] at this
    rw [List.getElem?_eq_getElem hi]
    exact this)]
  congr 2
  apply List.ext_getElem?
  intro i
  rw [List.getElem?_map, List.getElem?_map]
  by_cases hi : i < L.length
  · rw [List.getElem?_range hi, List.getElem?_eq_getElem hi]
    simp [hi]
  · rw [List.getElem?_eq_none (by simpa using hi), List.getElem?_eq_none (by omega)]
    rfl
theorem w_turn_mono {J J' : Rho → Prop} {K : O → Prop} {o : O} (h : ∀ ρ, J' ρ → J ρ) (w : W (TurnK J' K) o) : W (TurnK J K) o := by
  cases o with
  | nx ρ => exact h ρ w
  | cont ρ => exact h ρ w
  | _ => exact w
/-- for k in range(len(L)): the items in turn -/
theorem w_for_p {α : Type} {K : O → Prop} {q : En} {ss : List S} {f : D → Rho → O} (L : List α) {b : Int} {ρ : Rho} (hb : b = (L.length : Int)) (I : List α → Rho → Prop) (h0 : I [] ρ)
    (hs : ∀ pre x post ρ, L = pre ++ x :: post → I pre ρ → W (TurnK (I (pre ++ [x])) (SeqK q ss K)) (f (.int (pre.length : Int)) ρ)) (he : ∀ ρ, I L ρ → W K (evSs q ss ρ)) : W K (seqK q ss (forL f (rngD 0 b) ρ)) := by
  refine w_for_r (fun i => I (L.take i)) (by rw [List.take_zero]; exact h0) (fun i ρ hi hI => ?_) (fun ρ hI => ?_)
  · have hi : i < L.length := by omega
    have e : L = L.take i ++ L[i] :: L.drop (i + 1) := by rw [List.getElem_cons_drop, List.take_append_drop]
    have := hs _ _ _ ρ e hI
    rw [show L.take (i + 1) = L.take i ++ [L[i]] by rw [List.take_add_one, List.getElem?_eq_getElem hi]; rfl]
    rw [List.length_take, Nat.min_eq_left (by omega)] at this
    rw [Int.zero_add]
    exact this
  · rw [show (b - 0).toNat = L.length by omega, List.take_length] at hI
    exact he ρ hI
/-- a prefix's next item -/
theorem idxl_pre {α : Type} (a : α → D) (pre post : List α) (x : α) : evPrim .idx [.lst ((pre ++ x :: post).map a), .int (pre.length : Int)] = .ok (a x) := idxl_get rfl (by simp)
theorem idx_pre {α : Type} (a : α → D) (pre post : List α) (x : α) : evPrim .idx [.tup ((pre ++ x :: post).map a), .int (pre.length : Int)] = .ok (a x) := idx_get rfl (by simp)
end Bk

/-! H9: things made of things are ok, and not too tall. -/
namespace Bk
open PySem
theorem nameOf_ge (b : Int) (k : Nat) : ∀ c ∈ (nameOf b k).cps.toList, 97 ≤ c := by
  have hw : ∀ c ∈ wordL b, 97 ≤ c := fun c hc => by
    unfold wordL at hc
    obtain ⟨i, _, rfl⟩ := List.mem_map.mp hc
    omega
  intro c hc
  unfold nameOf at hc
  split at hc
  · exact hw c (List.mem_of_mem_take hc)
  · have hc : c ∈ (wordL b).take (nmAt b) ++ [97 + ((restAt b (nmAt b) % 26 + k) % 26).toNat] ++ ((wordL b).drop (nmAt b + 1)).take (nmSize b - (nmAt b + 1)) := by simpa using hc
    rcases List.mem_append.mp hc with hc | hc
    · rcases List.mem_append.mp hc with hc | hc
      · exact hw c (List.mem_of_mem_take hc)
      · rw [List.mem_singleton.mp hc]; omega
    · exact hw c (List.mem_of_mem_drop (List.mem_of_mem_take hc))
theorem nameOf_ne2 (b : Int) (k : Nat) : nameOf b k ≠ Str.ofString "*" := by
  have hq : (Str.ofString "*").cps.toList = [42] := by decide
  intro e
  have hall := nameOf_ge b k
  rw [e, hq] at hall
  have := hall 42 (List.mem_singleton.mpr rfl)
  omega
theorem Th.okL_of : ∀ {us : List Th}, (∀ u ∈ us, u.ok) → Th.okL us
  | [], _ => by rw [Th.okL]; trivial
  | u :: us, h => by rw [Th.okL]; exact ⟨h u List.mem_cons_self, Th.okL_of fun v hv => h v (List.mem_cons_of_mem _ hv)⟩
theorem Th.highL_le {b : Nat} : ∀ {us : List Th}, (∀ u ∈ us, u.high ≤ b) → Th.highL us ≤ b
  | [], _ => by simp [Th.highL]
  | u :: us, h => by
    have h1 := h u List.mem_cons_self
    have h2 := Th.highL_le (us := us) fun v hv => h v (List.mem_cons_of_mem _ hv)
    rw [Th.highL]; omega
theorem Th.high_pos : ∀ t : Th, 1 ≤ t.high
  | .hole => by simp [Th.high]
  | .call _ _ => by simp [Th.high]
  | .mk _ _ => by rw [Th.high]; omega
mutual
theorem Th.turn_ok {o : Th} (ho : o.ok) : ∀ (t : Th) (c : Int), t.ok → (Th.turn o t c).ok ∧ (Th.turn o t c).high ≤ t.high + o.high
  | .hole, c, h => by
    simp only [Th.turn]
    split
    · exact ⟨ho, by omega⟩
    · exact ⟨h, by omega⟩
  | .call q k, c, h => by
    simp only [Th.turn]
    split
    · exact ⟨ho, by omega⟩
    · exact ⟨h, by omega⟩
  | .mk nm us, c, h => by
    rw [Th.turn]
    split
    · exact ⟨ho, by omega⟩
    · rw [Th.ok] at h ⊢
      obtain ⟨h1, h2⟩ := Th.turnL_ok ho us 1 c h.2.2.2
      exact ⟨⟨h.1, h.2.1, by rw [Th.turnL_len]; exact h.2.2.1, h1⟩, by rw [Th.high, Th.high]; omega⟩
theorem Th.turnL_ok {o : Th} (ho : o.ok) : ∀ (us : List Th) (k c : Int), Th.okL us → Th.okL (Th.turnL o us k c) ∧ Th.highL (Th.turnL o us k c) ≤ Th.highL us + o.high
  | [], k, c, h => by rw [Th.turnL]; simp [Th.okL, Th.highL]
  | u :: us, k, c, h => by
    rw [Th.okL] at h
    rw [Th.turnL, Th.okL, Th.highL, Th.highL]
    have h1 := Th.turn_ok ho u ((c / 6 + 1) * 69621 * k % 2147483647) h.1
    have h2 := Th.turnL_ok ho us (k + 1) c h.2
    exact ⟨⟨h1.1, h2.1⟩, by omega⟩
end
mutual
theorem Th.prune_ok : ∀ (t : Th) (c : Int), t.ok → (Th.prune t c).ok ∧ (Th.prune t c).high ≤ t.high
  | .hole, c, h => by simp [Th.prune, Th.high, Th.ok]
  | .call q k, c, h => by simp [Th.prune, Th.high, Th.ok]
  | .mk nm us, c, h => by
    rw [Th.prune]
    split
    · simp [Th.ok, Th.high]
    · rw [Th.ok] at h ⊢
      obtain ⟨h1, h2⟩ := Th.pruneL_ok us 1 c h.2.2.2
      exact ⟨⟨h.1, h.2.1, by rw [Th.pruneL_len]; exact h.2.2.1, h1⟩, by rw [Th.high, Th.high]; omega⟩
theorem Th.pruneL_ok : ∀ (us : List Th) (k c : Int), Th.okL us → Th.okL (Th.pruneL us k c) ∧ Th.highL (Th.pruneL us k c) ≤ Th.highL us
  | [], k, c, h => by rw [Th.pruneL]; simp [Th.okL, Th.highL]
  | u :: us, k, c, h => by
    rw [Th.okL] at h
    rw [Th.pruneL, Th.okL, Th.highL, Th.highL]
    have h1 := Th.prune_ok u ((c / 5 + 1) * 48271 * k % 2147483647) h.1
    have h2 := Th.pruneL_ok us (k + 1) c h.2
    exact ⟨⟨h1.1, h2.1⟩, by omega⟩
end
mutual
theorem Th.com_ok : ∀ (a b : Th), a.ok → (a.com b).ok ∧ (a.com b).high ≤ a.high
  | .hole, _, _ => by simp [Th.com, Th.ok, Th.high]
  | .call _ _, _, _ => by simp [Th.com, Th.ok, Th.high]
  | .mk _ _, .hole, _ => by simp [Th.com, Th.ok, Th.high]
  | .mk _ _, .call _ _, _ => by simp [Th.com, Th.ok, Th.high]
  | .mk n1 us, .mk n2 vs, h => by
    rw [Th.com]
    split
    · rename_i e
      rw [Th.ok] at h ⊢
      obtain ⟨h1, h2⟩ := Th.comL_ok us vs h.2.2.2
      exact ⟨⟨h.1, h.2.1, by rw [Th.comL_len e.2]; exact h.2.2.1, h1⟩, by rw [Th.high, Th.high]; omega⟩
    · simp [Th.ok, Th.high]
theorem Th.comL_ok : ∀ (us vs : List Th), Th.okL us → Th.okL (Th.comL us vs) ∧ Th.highL (Th.comL us vs) ≤ Th.highL us
  | [], vs, h => by simp [Th.comL, Th.okL, Th.highL]
  | _ :: _, [], h => by simp [Th.comL, Th.okL, Th.highL]
  | u :: us, v :: vs, h => by
    rw [Th.okL] at h
    rw [Th.comL, Th.okL, Th.highL, Th.highL]
    have h1 := Th.com_ok u v h.1
    have h2 := Th.comL_ok us vs h.2
    exact ⟨⟨h1.1, h2.1⟩, by omega⟩
end
mutual
theorem Th.d_tsi : ∀ (t : Th) (n : Nat), t.high + 1 ≤ n → t.ok → tsi n t.d
  | .hole, n + 2, _, _ => by rw [Th.d]; exact ⟨by decide, fun x hx => by simp at hx; subst hx; trivial⟩
  | .call q k, n + 2, _, _ => by rw [Th.d]; exact ⟨by simp, fun x hx => by simp at hx; rcases hx with rfl | rfl | rfl <;> trivial⟩
  | .hole, 1, h, _ => by simp [Th.high] at h
  | .call q k, 1, h, _ => by simp [Th.high] at h
  | .hole, 0, h, _ => by omega
  | .call _ _, 0, h, _ => by omega
  | .mk nm us, 0, h, _ => by omega
  | .mk nm us, n + 1, h, ho => by
    rw [Th.high] at h
    rw [Th.ok] at ho
    rw [Th.d]
    refine ⟨by rw [List.length_cons, Th.dL_map, List.length_map]; omega, fun x hx => ?_⟩
    rcases List.mem_cons.mp hx with rfl | hx
    · cases n with
      | zero => omega
      | succ n => trivial
    · exact Th.dL_tsi us n (by omega) ho.2.2.2 x hx
theorem Th.dL_tsi : ∀ (us : List Th) (n : Nat), Th.highL us + 1 ≤ n → Th.okL us → ∀ x ∈ Th.dL us, tsi n x
  | [], n, _, _ => fun x hx => by simp [Th.dL] at hx
  | u :: us, n, h, ho => fun x hx => by
    rw [Th.highL] at h
    rw [Th.okL] at ho
    rw [Th.dL] at hx
    rcases List.mem_cons.mp hx with rfl | hx
    · exact Th.d_tsi u n (by omega) ho.1
    · exact Th.dL_tsi us n (by omega) ho.2 x hx
end
theorem Pt.thL_mem {u : Th} : ∀ {ps : List Pt}, u ∈ Pt.thL ps → ∃ p ∈ ps, p.th = u
  | [], h => by simp [Pt.thL] at h
  | q :: ps, h => by
    rw [Pt.thL] at h
    rcases List.mem_cons.mp h with rfl | h
    · exact ⟨q, List.mem_cons_self, rfl⟩
    · obtain ⟨p, hp, e⟩ := Pt.thL_mem h
      exact ⟨p, List.mem_cons_of_mem _ hp, e⟩
end Bk

/-! P4: the pile of patterns (k11, k13, k17, k18). -/
namespace Bk
open PySem
structure KsOk (ks : List (Str × Int)) : Prop where
  len : 1 ≤ ks.length ∧ ks.length ≤ 8
  nm : ∀ p ∈ ks, p.1.length ≤ 8
  lo : ∀ p ∈ ks, 0 ≤ p.2
  hi : ∀ p ∈ ks, p.2 ≤ 3
  q : ∀ p ∈ ks, p.1 ≠ Str.ofString "?"
  st : ∀ p ∈ ks, p.1 ≠ Str.ofString "*"
  lf : ∃ s, (s, 0) ∈ ks
theorem ksOk_mk (c : Int) : KsOk (kindsOf (mixOf c)) := by
  have hk := kMany_le (mixOf c)
  have hl := kinds_len (mixOf c)
  exact {
    len := by omega
    nm := kinds_name
    lo := fun p hp => by obtain ⟨_, _, _, h2, _⟩ := kinds_in hp; exact h2
    hi := fun p hp => by obtain ⟨_, _, _, _, h2⟩ := kinds_in hp; exact h2
    q := fun p hp => by obtain ⟨k, _, e, _⟩ := kinds_in hp; rw [e]; exact nameOf_ne _ _
    st := fun p hp => by obtain ⟨k, _, e, _⟩ := kinds_in hp; rw [e]; exact nameOf_ne2 _ _
    lf := ⟨_, kinds_leaf _⟩ }
section
variable {su : Subs} {Ps : Nat → Option Df}
theorem kinds_run (h1 : Ps 1 = some f_law_cell_at) (h2 : Ps 2 = some f_law_name) (h3 : Ps 3 = some f_law_kinds) (n : Nat) (ns : List Int) : ∃ ks, KsOk ks ∧ runD su Ps (n + 3) 1 [.scr ns, .int 0] = .ok (.int (cellAt ns 0)) [] ∧ runD su Ps (n + 3) 3 [.int (cellAt ns 0)] = .ok (.tup (ks.map kD)) [] :=
  ⟨_, ksOk_mk (cellAt ns 0), law_cell_at_ok h1 _ ns 0, law_kinds_ok h2 h3 _ _ (cellAt_lt ns 0)⟩
theorem pile4 (h30 : Ps 30 = some f_law_over_4) (h31 : Ps 31 = some f_law_leaf_4) (h32 : Ps 32 = some f_law_grown_4) {ks : List (Str × Int)} (K : KsOk ks) (n : Nat) (ns : List Int) (h : ns.length ≤ 63) (top most : Nat) (ht : 1 ≤ top) (hmo : 1 ≤ most ∧ most ≤ 200) :
    ∃ ts : List Pt, (∀ t ∈ ts, t.kin ks ∧ t.high ≤ top ∧ t.many ≤ most) ∧ ts.length ≤ 64 ∧ runD su Ps (n + 3) 32 [.scr ns, .tup (ks.map kD), .int top, .int most] = .ok (.lst (ts.map pT)) [] := by
  have G : GrowP su Ps 31 30 ks top most pT Pt.high Pt.many (fun t => t.kin ks ∧ t.high ≤ top ∧ t.many ≤ most) :=
    { i1 := pT1
      i2 := pT2
      leaf := fun n c hc => by
        obtain ⟨t, ⟨a, b, c'⟩, e⟩ := leaf4_ok (su := su) h31 K.len.2 K.lf n c hc
        exact ⟨t, ⟨a, by omega, by omega⟩, e⟩
      over := fun n nm m T hin hT h0 hg hh hs => by
        have kl : Pt.kinL ks T := Pt.kinL_of fun t ht => (hg t ht).1
        rw [Pt.manyL_sum1] at hs
        have s1 := Pt.sizeL_le K.hi T kl
        have b1 := Pt.highL_le (b := top - 1) (ts := T) fun t ht => by have := hh t ht; omega
        refine ⟨.mk nm T, ⟨by rw [Pt.kin, hT]; exact ⟨hin, kl⟩, by rw [Pt.high]; omega, by rw [Pt.many]; omega⟩, over4_ok h30 K.nm n nm T h0 kl (K.nm _ hin) (by omega)⟩ }
  have := K.len
  exact law_grownP_ok G (fun t ht => by omega) (g := 32) h32 (n + 1) ns h (by omega) (by omega) K.lo
end
end Bk

/-! P5: kinds have unlike names; many_of. -/
namespace Bk
open PySem
theorem str_ext {a b : Str} (h : a.cps.toList = b.cps.toList) : a = b := by
  cases a; cases b
  simp only [Str.mk.injEq]
  exact Array.toList_inj.mp h
theorem nameOf_inj (b : Int) (i j : Nat) (hi : i < 8) (hj : j < 8) (h : nameOf b i = nameOf b j) : i = j := by
  have h := congrArg (fun s : Str => s.cps.toList) h
  simp only [nameOf] at h
  split at h
  · have := congrArg List.length h
    simp only [List.length_take, wordL_len] at this
    omega
  · have ha := nmAt_lt b
    have hs := nmSize_le b
    have hl : ((wordL b).take (nmAt b)).length = nmAt b := by rw [List.length_take, wordL_len]; omega
    have h2 := congrArg (fun l : List Nat => l[nmAt b]?) h
    simp only [List.append_assoc, List.cons_append, List.nil_append] at h2
    rw [List.getElem?_append_right (by omega), List.getElem?_append_right (by omega), hl, Nat.sub_self] at h2
    simp only [List.getElem?_cons_zero, Option.some.injEq] at h2
    omega
/-- how many kids a knot of a name has -/
def manyOf : List (Str × Int) → Str → Int
  | [], _ => -1
  | p :: ks, nm => if p.1 = nm then p.2 else manyOf ks nm
theorem manyOf_mem {nm : Str} {m : Int} : ∀ {ks : List (Str × Int)}, (ks.map (·.1)).Nodup → (nm, m) ∈ ks → manyOf ks nm = m
  | [], _, h => by cases h
  | p :: ks, hd, h => by
    rw [List.map_cons, List.nodup_cons] at hd
    rw [manyOf]
    rcases List.mem_cons.mp h with rfl | h
    · simp
    · rw [if_neg, manyOf_mem hd.2 h]
      intro e
      exact hd.1 (by rw [e]; exact List.mem_map.mpr ⟨_, h, rfl⟩)
theorem manyOf_in {nm : Str} : ∀ {ks : List (Str × Int)}, manyOf ks nm ≠ -1 → (nm, manyOf ks nm) ∈ ks
  | [], h => absurd rfl h
  | p :: ks, h => by
    rw [manyOf] at h ⊢
    split
    · rename_i e; subst e; exact List.mem_cons_self
    · rename_i e
      rw [if_neg e] at h
      exact List.mem_cons_of_mem _ (manyOf_in h)
theorem manyOf_iff {nm : Str} {m : Int} {ks : List (Str × Int)} (hd : (ks.map (·.1)).Nodup) (hm : 0 ≤ m) : (nm, m) ∈ ks ↔ manyOf ks nm = m := by
  refine ⟨manyOf_mem hd, fun h => ?_⟩
  have := manyOf_in (ks := ks) (nm := nm) (by omega)
  rw [h] at this
  exact this
theorem kinds_names (m : Int) : (kindsOf m).map (·.1) = (List.range (kMany m)).map (nameOf (m / 36)) := by
  unfold kindsOf
  rw [List.map_set]
  have h := kAt_lt m
  apply List.ext_getElem?
  intro i
  by_cases e : kAt m = i
  · subst e
    rw [List.getElem?_set_self (by simpa using h)]
    simp [h]
  · rw [List.getElem?_set_ne e]
    simp only [List.map_map, List.getElem?_map]
    rfl
theorem kinds_nodup (m : Int) : ((kindsOf m).map (·.1)).Nodup := by
  rw [kinds_names]
  have hk := kMany_le m
  refine List.pairwise_map.mpr (List.Pairwise.imp_of_mem (R := fun a b => a ≠ b) (fun {a b} ha hb hne h => hne ?_) List.nodup_range)
  exact nameOf_inj _ a b (by have := List.mem_range.mp ha; omega) (by have := List.mem_range.mp hb; omega) h
section
variable {su : Subs} {Ps : Nat → Option Df}
theorem many_of_ok (h54 : Ps 54 = some f_many_of) (n : Nat) (ks : List (Str × Int)) (nm : Str) : runD su Ps (n + 1) 54 [.tup (ks.map kD), .str nm] = .ok (.int (manyOf ks nm)) [] := by
  refine (ret_of h54 rfl rfl ?_).eq
  simp (disch := first | assumption | omega | (simp <;> omega) | fail) [f_many_of, startR]
  refine w_for_l (fun pre ρ => (∀ post, ks = pre ++ post → manyOf ks nm = manyOf post nm) ∧ ∃ s s', ρ = [.fz (.tup (ks.map kD)), .fz (.str nm), s, s']) ⟨fun _ e => by rw [e]; rfl, _, _, rfl⟩ (fun pre p post ρ e hI => ?_) (fun ρ hI => ?_)
  · obtain ⟨h, s, s', rfl⟩ := hI
    have h2 := h _ e
    rw [manyOf] at h2
    by_cases z : p.1 = nm
    · rw [if_pos z] at h2
      simp [forB, kD, z, h2]
    · rw [if_neg z] at h2
      simp [forB, kD, z]
      intro q eq
      have : q = post := by
        rw [e] at eq
        simpa using eq.symm
      rw [this]; exact h2
  · obtain ⟨h, s, s', rfl⟩ := hI
    have := h [] (by simp)
    rw [manyOf] at this
    simp [this]
end
end Bk

/-! W2: defs that change what is lent. -/
namespace Bk
open PySem
/-- the call ends with a value, and what was lent is so then -/
def RetO (r : Rs) (Q : D → List D → Prop) : Prop := ∃ d os, r = .ok d os ∧ Q d os
def outsS (is : List Nat) (ρ : Rho) : Option Sl → R (List D)
  | some (.own d) => (outs is ρ).bind fun ds => .ok (d :: ds)
  | _ => .stuck
@[simp] theorem outs_nil (ρ : Rho) : outs [] ρ = .ok [] := (rfl)
@[simp] theorem outs_cons (i : Nat) (is : List Nat) (ρ : Rho) : outs (i :: is) ρ = outsS is ρ ρ[i]? := by
  rw [outs]
  cases ρ[i]? with
  | none => rfl
  | some s => cases s <;> rfl
@[simp] theorem outsS_own (is : List Nat) (ρ : Rho) (d : D) : outsS is ρ (some (.own d)) = (outs is ρ).bind fun ds => .ok (d :: ds) := (rfl)
def okQ (Q : List D → Prop) : R (List D) → Prop
  | .ok os => Q os
  | .stuck => False
@[simp] theorem okQ_ok (Q : List D → Prop) (os : List D) : okQ Q (.ok os) = Q os := (rfl)
def FinO (io : List Nat) (Q : D → List D → Prop) : O → Prop
  | .nx ρ => okQ (Q .non) (outs io ρ)
  | .ret d ρ => okQ (Q d) (outs io ρ)
  | _ => False
@[simp] theorem w_fino_nx (io : List Nat) (Q : D → List D → Prop) (ρ : Rho) : W (FinO io Q) (.nx ρ) = okQ (Q .non) (outs io ρ) := (rfl)
@[simp] theorem w_fino_ret (io : List Nat) (Q : D → List D → Prop) (d : D) (ρ : Rho) : W (FinO io Q) (.ret d ρ) = okQ (Q d) (outs io ρ) := (rfl)
theorem retO_of {su : Subs} {Ps : Nat → Option Df} {n f : Nat} {df : Df} {ds : List D} {Q : D → List D → Prop} (h : Ps f = some df) (hl : ds.length = df.np)
    (hw : W (FinO df.io Q) (evSs ⟨su, runD su Ps n, none⟩ df.body (startR df.io 0 ds ++ List.replicate (df.N.length - df.np) Sl.un))) : RetO (runD su Ps (n + 1) f ds) Q := by
  rw [runD_eq h hl]
  generalize evSs ⟨su, runD su Ps n, none⟩ df.body _ = o at *
  cases o with
  | nx ρ =>
    have hw : okQ (Q .non) (outs df.io ρ) := hw
    show RetO (match outs df.io ρ with | .ok os => .ok .non os | .stuck => .stuck) Q
    cases e : outs df.io ρ with
    | ok os => rw [e] at hw; exact ⟨_, _, rfl, hw⟩
    | stuck => rw [e] at hw; exact hw.elim
  | ret d ρ =>
    have hw : okQ (Q d) (outs df.io ρ) := hw
    show RetO (match outs df.io ρ with | .ok os => .ok d os | .stuck => .stuck) Q
    cases e : outs df.io ρ with
    | ok os => rw [e] at hw; exact ⟨_, _, rfl, hw⟩
    | stuck => rw [e] at hw; exact hw.elim
  | _ => exact hw.elim
theorem putBack_none : ∀ {es : List P} {ρ : Rho}, noLend es = true → putBack es [] ρ = .ok ρ := by
  intro es
  induction es with
  | nil => intro ρ _; rfl
  | cons e es ih =>
    intro ρ h
    cases e <;> first | (simp [noLend] at h; done) | (simp only [noLend] at h; simp only [putBack]; exact ih h)
/-- one's own lent as the first argument -/
@[simp] theorem callE_io (i : Nat) (es : List P) (ρ : Rho) (d o : D) (h : noLend es = true) : callE (.io ⟨i, none⟩ :: es) ρ (.ok d [o]) = .ok d (ρ.set i (.own o)) := by
  simp only [callE, putBack, putBack_none h, R.bind_ok, put_eq, R.at_ok, Ev.bind_ok]
end Bk

/-! W3: texts. -/
namespace Bk
open PySem
theorem mul_one_char (c n : Nat) (hn : 1 ≤ n) : Txt.mul ⟨#[c]⟩ (n : Int) = ⟨(List.replicate n c).toArray⟩ := by
  unfold Txt.mul
  rw [if_neg (by omega)]
  have hl : (Str.length ⟨#[c]⟩ == 0) = false := rfl
  rw [hl, Bool.or_false]
  split
  · rename_i e
    have : n = 1 := by have := eq_of_beq e; omega
    subst this; rfl
  · rw [Int.toNat_natCast]
    have : ∀ (m : Nat) (a : Array Nat), List.foldl (fun x y => x ++ y) a (List.replicate m #[c]) = a ++ (List.replicate m c).toArray := by
      intro m
      induction m with
      | zero => intro a; simp
      | succ m ih =>
        intro a
        rw [List.replicate_succ, List.foldl_cons, ih]
        apply Array.toList_inj.mp
        simp [List.replicate_succ]
    rw [this n #[]]
    simp
theorem mul_blank (k : Nat) : Txt.mul (Str.ofString " ") (k : Int) = ⟨(List.replicate k 32).toArray⟩ := by
  have e : Str.ofString " " = ⟨#[32]⟩ := by decide
  by_cases h : 1 ≤ k
  · rw [e, mul_one_char 32 k h]
  · have : k = 0 := by omega
    subst this
    rfl
/-- max of mapped numbers -/
theorem maxOf_map {α : Type} (g : α → Nat) (gl : List α → Nat) (h0 : gl [] = 0) (hc : ∀ u us, gl (u :: us) = max (g u) (gl us)) (t : α) (ts : List α) : maxOf (g t) (ts.map fun t => (g t : Int)) = (gl (t :: ts) : Int) := by
  have mem : ∀ (us : List α) (x : α), x ∈ us → g x ≤ gl us := by
    intro us
    induction us with
    | nil => intro x h; cases h
    | cons u us ih =>
      intro x h
      rw [hc]
      rcases List.mem_cons.mp h with rfl | h
      · omega
      · have := ih x h; omega
  have up : ∀ (us : List α) (b : Int), (∀ x ∈ us, (g x : Int) ≤ b) → 0 ≤ b → ((gl us : Nat) : Int) ≤ b := by
    intro us
    induction us with
    | nil => intro b _ h; rw [h0]; simpa using h
    | cons u us ih =>
      intro b h h0
      rw [hc]
      have h1 := h u List.mem_cons_self
      have h2 := ih b (fun x hx => h x (List.mem_cons_of_mem _ hx)) h0
      omega
  have h1 : maxOf (g t) (ts.map fun t => (g t : Int)) ≤ (gl (t :: ts) : Int) := maxOf_le _ _ _ (by have := mem (t :: ts) t List.mem_cons_self; omega) fun x hx => by
    obtain ⟨u, hu, rfl⟩ := List.mem_map.mp hx
    have := mem (t :: ts) u (List.mem_cons_of_mem _ hu)
    omega
  obtain ⟨h2, h3⟩ := le_maxOf (ts.map fun t => (g t : Int)) (g t)
  have h4 := up (t :: ts) (maxOf (g t) (ts.map fun t => (g t : Int))) (fun x hx => by
    rcases List.mem_cons.mp hx with rfl | hx
    · exact h2
    · exact h3 _ (List.mem_map.mpr ⟨x, hx, rfl⟩)) (by omega)
  omega
theorem pr_maxd_map {α : Type} (g : α → Nat) (gl : List α → Nat) (h0 : gl [] = 0) (hc : ∀ u us, gl (u :: us) = max (g u) (gl us)) (us : List α) : evPrim .maxd [.lst (us.map fun u => .int (g u : Nat)), .int 0] = .ok (.int (gl us : Nat)) := by
  cases us with
  | nil => simp [evPrim, evMaxd, intsOf, h0]
  | cons u us =>
    have e : ((u :: us).map fun u => D.int (g u : Nat)) = (((g u : Nat) : Int) :: us.map fun u => ((g u : Nat) : Int)).map D.int := by simp
    rw [e]
    simp only [evPrim, evMaxd, intsOf_map]
    rw [maxOf_map g gl h0 hc u us]
theorem pr_maxl_map {α : Type} (g : α → Nat) (gl : List α → Nat) (h0 : gl [] = 0) (hc : ∀ u us, gl (u :: us) = max (g u) (gl us)) {us : List α} (hu : us ≠ []) : evPrim .maxl [.lst (us.map fun u => .int (g u : Nat))] = .ok (.int (gl us : Nat)) := by
  cases us with
  | nil => exact absurd rfl hu
  | cons u us =>
    have e : ((u :: us).map fun u => D.int (g u : Nat)) = (((g u : Nat) : Int) :: us.map fun u => ((g u : Nat) : Int)).map D.int := by simp
    rw [e, pr_maxl, maxOf_map g gl h0 hc u us]
theorem pr_sum_map {α : Type} (g : α → Nat) (gl : List α → Nat) (h0 : gl [] = 0) (hc : ∀ u us, gl (u :: us) = g u + gl us) (us : List α) : evPrim .sum [.lst (us.map fun u => .int (g u : Nat))] = .ok (.int (gl us : Nat)) := by
  have e : (us.map fun u => D.int (g u : Nat)) = (us.map fun u => ((g u : Nat) : Int)).map D.int := by simp
  rw [e, pr_sum]
  congr 2
  induction us with
  | nil => simp [h0]
  | cons u us ih =>
    rw [List.map_cons, List.sum_cons, ih (by simp), hc]
    omega
end Bk

/-! Q1: the cells, draws and kinds of the laws on books. -/
namespace Bk
open PySem
theorem pr_slc_sfrom {s : Str} {i : Nat} (h : s.length ≤ 16777216) : evPrim (.slc true false) [.str s, .int i] = .ok (.str ⟨(s.cps.toList.drop i).toArray⟩) := by
  show okIf (decide (s.length ≤ sizeLine)) (.str (L2.cutS s (some i) none)) = _
  rw [decide_eq_true (show s.length ≤ sizeLine from h)]
  unfold L2.cutS
  rw [show HT.sIx s.length 0 (some (i : Int)) = min i s.length from HT.sIx_nat _ _ _, HT.sIx_none]
  show R.ok (D.str ⟨((s.cps.toList.drop (min i s.length)).take (s.length - min i s.length)).toArray⟩) = _
  have hl : s.cps.toList.length = s.length := rfl
  by_cases hi : i ≤ s.length
  · rw [Nat.min_eq_left hi, List.take_of_length_le (by rw [List.length_drop, hl]; exact Nat.le_refl _)]
  · rw [Nat.min_eq_right (by omega), List.drop_eq_nil_of_le (show s.cps.toList.length ≤ s.length from Nat.le_refl _), List.drop_eq_nil_of_le (by omega)]
    simp
/-- the letters that tell names apart -/
def moreL (l4 : List Nat) : List Nat := l4 ++ [97, 101, 105, 111]
def stemL : List Nat := [103, 117, 109, 108, 101, 97, 102, 115]
def nm2 (b : Bool) (l4 : List Nat) (st a : Nat) (p : Nat) : Str :=
  if b then ⟨(List.replicate (1 + p) (l4.getD 0 0)).toArray⟩ else ⟨((stemL.take st).take a ++ [(moreL l4).getD p 0] ++ (stemL.take st).drop a).toArray⟩
/-- four letters, none of which stands among the others -/
def Lets (z : Str) (l4 : List Nat) : Prop := z.cps.toList = l4 ∧ l4.length = 4 ∧ (moreL l4).Nodup ∧ ∀ c ∈ moreL l4, 97 ≤ c
theorem lets_b : Lets (Str.ofString "bdhk") [98, 100, 104, 107] := ⟨by decide, rfl, by decide, by decide⟩
theorem lets_n : Lets (Str.ofString "npwz") [110, 112, 119, 122] := ⟨by decide, rfl, by decide, by decide⟩
theorem nm2_inj {z : Str} {l4 : List Nat} (L : Lets z l4) (b : Bool) (st a p p' : Nat) (ha : a ≤ st) (hst : st ≤ 8) (hp : p < 8) (hp' : p' < 8) (h : nm2 b l4 st a p = nm2 b l4 st a p') : p = p' := by
  have h := congrArg (fun s : Str => s.cps.toList) h
  simp only [nm2] at h
  split at h
  · have := congrArg List.length h
    simp only [List.length_replicate] at this
    omega
  · have hl : ((stemL.take st).take a).length = a := by simp [stemL]; omega
    have h2 := congrArg (fun l : List Nat => l[a]?) h
    simp only [List.append_assoc, List.cons_append, List.nil_append] at h2
    rw [List.getElem?_append_right (by omega), List.getElem?_append_right (by omega), hl, Nat.sub_self] at h2
    simp only [List.getElem?_cons_zero, Option.some.injEq] at h2
    have hml : (moreL l4).length = 8 := by simp [moreL, L.2.1]
    rw [List.getD_eq_getElem?_getD, List.getD_eq_getElem?_getD, List.getElem?_eq_getElem (by omega), List.getElem?_eq_getElem (by omega)] at h2
    exact (List.getElem_inj L.2.2.1).mp h2
theorem nm2_facts {z : Str} {l4 : List Nat} (L : Lets z l4) (b : Bool) (st a p : Nat) (ha : a ≤ st) (hst : st ≤ 7) (hp : p < 8) : (nm2 b l4 st a p).length ≤ 8 ∧ (∀ c ∈ (nm2 b l4 st a p).cps.toList, 97 ≤ c) ∧ 1 ≤ (nm2 b l4 st a p).length := by
  have hml : (moreL l4).length = 8 := by simp [moreL, L.2.1]
  have hmem : (moreL l4).getD p 0 ∈ moreL l4 := by
    rw [List.getD_eq_getElem?_getD, List.getElem?_eq_getElem (by omega)]
    exact List.getElem_mem _
  have h0 : l4.getD 0 0 ∈ moreL l4 := by
    rw [List.getD_eq_getElem?_getD, List.getElem?_eq_getElem (by have := L.2.1; omega)]
    exact List.mem_append_left _ (List.getElem_mem _)
  have hs : ∀ c ∈ stemL, 97 ≤ c := by decide
  unfold nm2
  split
  · refine ⟨?_, fun c hc => ?_, ?_⟩
    · rw [len_mk, List.length_replicate]; omega
    · rw [(List.mem_replicate.mp hc).2]; exact L.2.2.2 _ h0
    · rw [len_mk, List.length_replicate]; omega
  · have hsl : (stemL.take st).length = st := by simp [stemL]; omega
    refine ⟨?_, fun c hc => ?_, ?_⟩
    · rw [len_mk]; simp only [List.length_append, List.length_take, List.length_drop, hsl, List.length_cons, List.length_nil]; omega
    · have hc : c ∈ (stemL.take st).take a ++ [(moreL l4).getD p 0] ++ (stemL.take st).drop a := by simpa using hc
      rcases List.mem_append.mp hc with hc | hc
      · rcases List.mem_append.mp hc with hc | hc
        · exact hs c (List.mem_of_mem_take (List.mem_of_mem_take hc))
        · rw [List.mem_singleton.mp hc]; exact L.2.2.2 _ hmem
      · exact hs c (List.mem_of_mem_take (List.mem_of_mem_drop hc))
    · rw [len_mk]; simp only [List.length_append, List.length_cons]; omega
/-- kinds, fit for books -/
structure KsB (ks : List (Str × Int)) : Prop extends KsOk ks where
  nd : (ks.map (·.1)).Nodup
theorem not_letters {s : Str} (h : ∀ c ∈ s.cps.toList, 97 ≤ c) : s ≠ Str.ofString "?" ∧ s ≠ Str.ofString "*" := by
  have hq : (Str.ofString "?").cps.toList = [63] := by decide
  have hs : (Str.ofString "*").cps.toList = [42] := by decide
  constructor
  · intro e
    rw [e, hq] at h
    have := h 63 (List.mem_singleton.mpr rfl)
    omega
  · intro e
    rw [e, hs] at h
    have := h 42 (List.mem_singleton.mpr rfl)
    omega
section
variable {su : Subs} {Ps : Nat → Option Df}
def cell2 (ns : List Int) (k : Nat) : Int := ns.getD k 0
theorem law_cell_ok (h68 : Ps 68 = some f_law_cell) (n : Nat) (ns : List Int) (k : Nat) : runD su Ps (n + 1) 68 [.scr ns, .int k] = .ok (.int (cell2 ns k)) [] := by
  rw [runD_eq h68 rfl]
  unfold cell2
  by_cases hk : k < ns.length
  · have hi := pr_idx_scr (List.getElem?_eq_getElem hk)
    simp [f_law_cell, startR, hk, hi]
  · simp [f_law_cell, startR, hk]
theorem law_turn_ok (h69 : Ps 69 = some f_law_turn) (n : Nat) (c : Int) (k : Nat) (hk : k ≤ 100000) : ∃ r : Nat, r < 2147483629 ∧ runD su Ps (n + 1) 69 [.int c, .int k] = .ok (.int r) [] := by
  have hii : (977 * (k : Int)) * k = ((977 * k * k : Nat) : Int) := by simp
  have hib : 977 * k * k ≤ 977 * 100000 * 100000 := Nat.mul_le_mul (by omega) (by omega)
  obtain ⟨a, ha⟩ : ∃ a, a = (c + 977 * k * k + 31 * k + 1) % 2147483647 := ⟨_, rfl⟩
  have a0 := Int.emod_nonneg (c + 977 * k * k + 31 * k + 1) (show (2147483647 : Int) ≠ 0 by decide)
  have a1 := Int.emod_lt_of_pos (c + 977 * k * k + 31 * k + 1) (show (0 : Int) < 2147483647 by decide)
  rw [← ha] at a0 a1
  obtain ⟨b, hb⟩ : ∃ b, b = a * a % 2147483647 := ⟨_, rfl⟩
  have b0 := Int.emod_nonneg (a * a) (show (2147483647 : Int) ≠ 0 by decide)
  have b1 := Int.emod_lt_of_pos (a * a) (show (0 : Int) < 2147483647 by decide)
  rw [← hb] at b0 b1
  obtain ⟨d, hd⟩ : ∃ d, d = (b + 40692 * ((k : Int) + 3)) * 69621 % 2147483629 := ⟨_, rfl⟩
  have d0 := Int.emod_nonneg ((b + 40692 * ((k : Int) + 3)) * 69621) (show (2147483629 : Int) ≠ 0 by decide)
  have d1 := Int.emod_lt_of_pos ((b + 40692 * ((k : Int) + 3)) * 69621) (show (0 : Int) < 2147483629 by decide)
  rw [← hd] at d0 d1
  refine ⟨d.toNat, by omega, ?_⟩
  rw [runD_eq h69 rfl, Int.toNat_of_nonneg d0]
  have z0 : ((k : Int)).natAbs < 2 ^ 250 := by omega
  have z1 : (977 * (k : Int)).natAbs < 2 ^ 250 := by omega
  have z2 : a.natAbs < 2 ^ 250 := by omega
  have z3 : (b + 40692 * ((k : Int) + 3)).natAbs < 2 ^ 250 := by omega
  have z4 : ((k : Int) + 3).natAbs < 2 ^ 250 := by omega
  simp (disch := first | assumption | omega | (simp <;> omega) | fail) [f_law_turn, startR, ← ha, ← hb, ← hd]
set_option maxHeartbeats 4000000 in
theorem law_kinds2_ok (h69 : Ps 69 = some f_law_turn) (h70 : Ps 70 = some f_law_kinds_2) (n : Nat) (c : Int) {z : Str} {l4 : List Nat} (L : Lets z l4) : ∃ ks, KsB ks ∧ runD su Ps (n + 2) 70 [.int c, .str z] = .ok (.tup (ks.map kD)) [] := by
  obtain ⟨r, hr, R1⟩ := law_turn_ok (su := su) h69 n c 1 (by omega)
  have e1 : ((1 : Nat) : Int) = 1 := rfl
  rw [e1] at R1
  have gum : (Str.ofString "gumleafs").cps.toList = stemL := by decide
  have gl : (Str.ofString "gumleafs").length = 8 := by decide
  have al : (Str.ofString "aeio").cps.toList = [97, 101, 105, 111] := by decide
  have all4 : (Str.ofString "aeio").length = 4 := by decide
  have zl : z.length = 4 := by
    have := L.2.1
    rw [← L.1] at this
    exact this
  have hml : (moreL l4).length = 8 := by simp [moreL, L.2.1]
  have zap : z ++ Str.ofString "aeio" = ⟨(moreL l4).toArray⟩ := str_ext (by
    show (z.cps ++ (Str.ofString "aeio").cps).toList = _
    rw [Array.toList_append, L.1, al]; rfl)
  -- the numbers
  obtain ⟨sz, hsz0, hsz⟩ : ∃ sz : Nat, (1 ≤ sz ∧ sz ≤ 8) ∧ (if ((r : Int) / 13824 % 4 = 1) then (5 + (r : Int) / 55296 % 4) else 1 + (r : Int) % 4) = (sz : Int) := by
    split
    · exact ⟨(5 + (r : Int) / 55296 % 4).toNat, by omega, by omega⟩
    · exact ⟨(1 + (r : Int) % 4).toNat, by omega, by omega⟩
  obtain ⟨ml, hml0, hmle, hmls⟩ : ∃ ml : Nat, (ml = 4 ∨ ml = 8) ∧ ((4 : Int) + 4 * (if (4 : Int) < (sz : Int) then 1 else 0)) = (ml : Int) ∧ sz ≤ ml := by
    by_cases e : (4 : Int) < (sz : Int)
    · exact ⟨8, .inr rfl, by rw [if_pos e]; rfl, by omega⟩
    · exact ⟨4, .inl rfl, by rw [if_neg e]; rfl, by omega⟩
  obtain ⟨st, hst0, hst⟩ : ∃ st : Nat, st ≤ 7 ∧ (r : Int) / 4 % 8 = (st : Int) := ⟨((r : Int) / 4 % 8).toNat, by omega, by omega⟩
  have hstl : (stemL.take st).length = st := by simp [stemL]; omega
  have at0 := Int.emod_nonneg ((r : Int) / 32) (show ((st : Int) + 1) ≠ 0 by omega)
  have at1 := Int.emod_lt_of_pos ((r : Int) / 32) (show (0 : Int) < (st : Int) + 1 by omega)
  obtain ⟨a, ha0, ha⟩ : ∃ a : Nat, a ≤ st ∧ (r : Int) / 32 % ((st : Int) + 1) = (a : Int) := ⟨((r : Int) / 32 % ((st : Int) + 1)).toNat, by omega, by omega⟩
  have lf0 := Int.emod_nonneg ((r : Int) / 288) (show (sz : Int) ≠ 0 by omega)
  have lf1 := Int.emod_lt_of_pos ((r : Int) / 288) (show (0 : Int) < (sz : Int) by omega)
  obtain ⟨lf, hlf0, hlf⟩ : ∃ lf : Nat, lf < sz ∧ (r : Int) / 288 % (sz : Int) = (lf : Int) := ⟨((r : Int) / 288 % (sz : Int)).toNat, by omega, by omega⟩
  obtain ⟨tn, htn0, htn⟩ : ∃ tn : Nat, tn ≤ 3 ∧ (r : Int) / 1152 % 4 = (tn : Int) := ⟨((r : Int) / 1152 % 4).toNat, by omega, by omega⟩
  obtain ⟨bg, hbg⟩ : ∃ bg : Bool, bg = decide ((r : Int) / 4608 % 3 = 1) := ⟨_, rfl⟩
  -- the texts
  have sm := pr_slc_to (s := ⟨(moreL l4).toArray⟩) (j := ml) (by rw [len_mk]; omega)
  have ss := pr_slc_to (s := Str.ofString "gumleafs") (j := st) (by omega)
  rw [gum] at ss
  have sM : Str.length ⟨((moreL l4).take ml).toArray⟩ = ml := by rw [len_mk, List.length_take]; omega
  have sS : Str.length ⟨(stemL.take st).toArray⟩ = st := by rw [len_mk]; exact hstl
  have s1 := pr_slc_to (s := ⟨(stemL.take st).toArray⟩) (j := a) (by rw [sS]; omega)
  have s2 := pr_slc_sfrom (s := ⟨(stemL.take st).toArray⟩) (i := a) (by rw [sS]; omega)
  obtain ⟨MS, hMS⟩ : ∃ x, x = (⟨((moreL l4).take ml).toArray⟩ : Str) := ⟨_, rfl⟩
  obtain ⟨SS, hSS⟩ : ∃ x, x = (⟨(stemL.take st).toArray⟩ : Str) := ⟨_, rfl⟩
  obtain ⟨SA, hSA⟩ : ∃ x, x = (⟨((stemL.take st).take a).toArray⟩ : Str) := ⟨_, rfl⟩
  obtain ⟨SB, hSB⟩ : ∃ x, x = (⟨((stemL.take st).drop a).toArray⟩ : Str) := ⟨_, rfl⟩
  have s1 : evPrim (.slc false true) [.str SS, .int a] = .ok (.str SA) := by rw [hSS, hSA]; exact s1
  have s2 : evPrim (.slc true false) [.str SS, .int a] = .ok (.str SB) := by rw [hSS, hSB]; exact s2
  rw [← hMS] at sm sM
  rw [← hSS] at ss sS
  have z0 : evPrim .idx [.str z, .int 0] = .ok (.str ⟨#[l4.getD 0 0]⟩) := by
    have := pr_idx_str (s := z) (i := 0) (c := l4.getD 0 0) (by omega) (by
      rw [L.1, List.getD_eq_getElem?_getD]
      cases l4 with
      | nil => have := L.2.1; simp at this
      | cons x l => rfl)
    exact this
  obtain ⟨Z0, hZ0⟩ : ∃ x, x = (⟨#[l4.getD 0 0]⟩ : Str) := ⟨_, rfl⟩
  rw [← hZ0] at z0
  have pick : ∀ k : Nat, ∃ p : Nat, p < ml ∧ p = (3 * k + tn) % ml ∧ (3 * (k : Int) + (tn : Int)) % (ml : Int) = (p : Int) := fun k => ⟨(3 * k + tn) % ml, Nat.mod_lt _ (by omega), rfl, by rcases hml0 with rfl | rfl <;> omega⟩
  obtain ⟨nf, hnf⟩ : ∃ nf : Nat → Str, nf = fun k => nm2 bg l4 st a ((3 * k + tn) % ml) := ⟨_, rfl⟩
  suffices hw : RetO (runD su Ps (n + 2) 70 [.int c, .str z]) (fun d os => os = [] ∧ ∃ l : List (Str × Int), d = .tup (l.map kD) ∧ l.length = sz ∧ ∀ (j : Nat) (p : Str × Int), l[j]? = some p → p.1 = nf j ∧ 0 ≤ p.2 ∧ p.2 ≤ 3 ∧ (j = lf → p.2 = 0)) by
    obtain ⟨d, os, e, rfl, l, rfl, hl, hp⟩ := hw
    refine ⟨l, ?_, e⟩
    have hmem : ∀ p ∈ l, ∃ j, j < sz ∧ p.1 = nf j ∧ 0 ≤ p.2 ∧ p.2 ≤ 3 := fun p h => by
      obtain ⟨j, hj⟩ := List.getElem?_of_mem h
      obtain ⟨a1, a2, a3, _⟩ := hp j p hj
      exact ⟨j, by have := (List.getElem?_eq_some_iff.mp hj).1; omega, a1, a2, a3⟩
    have hf : ∀ j, (nf j).length ≤ 8 ∧ (∀ c ∈ (nf j).cps.toList, 97 ≤ c) := fun j => by
      rw [hnf]
      have := Nat.mod_lt (3 * j + tn) (show 0 < ml by omega)
      have := nm2_facts L bg st a ((3 * j + tn) % ml) ha0 hst0 (by omega)
      exact ⟨this.1, this.2.1⟩
    have hnames : l.map (·.1) = (List.range sz).map nf := by
      apply List.ext_getElem?
      intro i
      rw [List.getElem?_map, List.getElem?_map]
      by_cases hi : i < sz
      · obtain ⟨p, hpi⟩ : ∃ p, l[i]? = some p := ⟨_, List.getElem?_eq_getElem (by omega)⟩
        rw [hpi, List.getElem?_range hi]
        simp [(hp i p hpi).1]
      · rw [List.getElem?_eq_none (by omega), List.getElem?_eq_none (by simpa using hi)]
        rfl
    exact {
      len := by omega
      nm := fun p h => by obtain ⟨j, _, e, _⟩ := hmem p h; rw [e]; exact (hf j).1
      lo := fun p h => by obtain ⟨_, _, _, e, _⟩ := hmem p h; exact e
      hi := fun p h => by obtain ⟨_, _, _, _, e⟩ := hmem p h; exact e
      q := fun p h => by obtain ⟨j, _, e, _⟩ := hmem p h; rw [e]; exact (not_letters (hf j).2).1
      st := fun p h => by obtain ⟨j, _, e, _⟩ := hmem p h; rw [e]; exact (not_letters (hf j).2).2
      lf := by
        obtain ⟨p, hpi⟩ : ∃ p, l[lf]? = some p := ⟨_, List.getElem?_eq_getElem (by omega)⟩
        have := (hp lf p hpi).2.2.2 rfl
        exact ⟨p.1, by rw [← this]; exact List.mem_of_getElem? hpi⟩
      nd := by
        rw [hnames]
        refine List.pairwise_map.mpr (List.Pairwise.imp_of_mem (R := fun a b => a ≠ b) (fun {x y} hx hy hne h => hne ?_) List.nodup_range)
        have hx := List.mem_range.mp hx
        have hy := List.mem_range.mp hy
        rw [hnf] at h
        have b1 := Nat.mod_lt (3 * x + tn) (show 0 < ml by omega)
        have b2 := Nat.mod_lt (3 * y + tn) (show 0 < ml by omega)
        have := nm2_inj L bg st a _ _ ha0 (by omega) (by omega) (by omega) h
        rcases hml0 with rfl | rfl <;> omega }
  refine retO_of (df := f_law_kinds_2) h70 rfl ?_
  by_cases c1 : (r : Int) / 13824 % 4 = 1
  all_goals
    simp only [c1, if_true, if_false] at hsz
    simp (disch := first | assumption | omega | (simp <;> omega) | fail) [f_law_kinds_2, startR, R1, c1, hsz, zap, hmle, sm, hst, ss, sS, ha, hlf, htn, zl, all4, ← hbg]
    refine w_for_r (fun i ρ => ∃ (l : List (Str × Int)) (rr : Nat) (s11 s12 s13 s14 : Sl), (l.length = i ∧ ∀ (j : Nat) (p : Str × Int), l[j]? = some p → p.1 = nf j ∧ 0 ≤ p.2 ∧ p.2 ≤ 3 ∧ (j = lf → p.2 = 0)) ∧
      ρ = [.fz (.int c), .fz (.str z), .fz (.int rr), .fz (.int sz), .fz (.str MS), .fz (.str SS), .fz (.int a), .fz (.int lf), .fz (.int tn), .fz (.bl bg), .own (.lst (l.map kD)), s11, s12, s13, s14]) ⟨[], r, _, _, _, _, ⟨rfl, fun j p h => by simp at h⟩, rfl⟩ (fun i ρ hi hI => ?_) (fun ρ hI => ?_)
    · obtain ⟨l, rr, s11, s12, s13, s14, ⟨hll, hlp⟩, rfl⟩ := hI
      have hi' : i < sz := by omega
      obtain ⟨r2, hr2, R2⟩ := law_turn_ok (su := su) h69 n (rr : Int) (i + 2) (by omega)
      rw [show ((i + 2 : Nat) : Int) = (i : Int) + 2 by omega] at R2
      obtain ⟨v, hv0, hv1, hv⟩ : ∃ v : Int, 0 ≤ v ∧ v ≤ 3 ∧ evPrim .idx [.lst [.int 0, .int 2, .int 1, .int 3, .int 2], .int ((r2 : Int) % 5)] = .ok (.int v) := by
        have m0 : (r2 : Int) % 5 = 0 ∨ (r2 : Int) % 5 = 1 ∨ (r2 : Int) % 5 = 2 ∨ (r2 : Int) % 5 = 3 ∨ (r2 : Int) % 5 = 4 := by omega
        rcases m0 with e | e | e | e | e <;> rw [e]
        · exact ⟨0, by decide, by decide, idxl_get (j := 0) rfl rfl⟩
        · exact ⟨2, by decide, by decide, idxl_get (j := 1) rfl rfl⟩
        · exact ⟨1, by decide, by decide, idxl_get (j := 2) rfl rfl⟩
        · exact ⟨3, by decide, by decide, idxl_get (j := 3) rfl rfl⟩
        · exact ⟨2, by decide, by decide, idxl_get (j := 4) rfl rfl⟩
      obtain ⟨p, hp0, hpe, hp⟩ := pick i
      have hp8 : p < 8 := by omega
      have hc : ((moreL l4).take ml)[p]? = some ((moreL l4).getD p 0) := by
        rw [List.getElem?_take_of_lt hp0, List.getD_eq_getElem?_getD, List.getElem?_eq_getElem (by omega)]; rfl
      obtain ⟨CH, hCH⟩ : ∃ x, x = (⟨#[(moreL l4).getD p 0]⟩ : Str) := ⟨_, rfl⟩
      have mi : evPrim .idx [.str MS, .int (p : Nat)] = .ok (.str CH) := by
        rw [hMS, hCH]
        exact pr_idx_str (by rw [← hMS]; omega) hc
      obtain ⟨N1, hN1⟩ : ∃ x, x = (⟨((stemL.take st).take a ++ [(moreL l4).getD p 0]).toArray⟩ : Str) := ⟨_, rfl⟩
      have a1 : evPrim .add [.str SA, .str CH] = .ok (.str N1) := by
        rw [pr_add_str _ _ (by rw [hSA, hCH, len_mk, show (⟨#[(moreL l4).getD p 0]⟩ : Str).length = 1 from rfl, List.length_take]; omega)]
        congr 2
        rw [hSA, hCH, hN1]
        exact str_ext (by show (_ ++ _ : Array Nat).toList = _; simp)
      obtain ⟨NF, hNF⟩ : ∃ x, x = nm2 false l4 st a p := ⟨_, rfl⟩
      obtain ⟨NT, hNT⟩ : ∃ x, x = nm2 true l4 st a p := ⟨_, rfl⟩
      have a2 : evPrim .add [.str N1, .str SB] = .ok (.str NF) := by
        rw [pr_add_str _ _ (by rw [hN1, hSB, len_mk, len_mk, List.length_append, List.length_take, List.length_drop]; simp only [List.length_cons, List.length_nil]; omega)]
        congr 2
        rw [hN1, hSB, hNF]
        exact str_ext (by show (_ ++ _ : Array Nat).toList = _; simp [nm2])
      have a3 : evPrim .mul [.str Z0, .int (1 + (p : Int))] = .ok (.str NT) := by
        rw [hZ0, pr_mul_str _ _ (by rw [show (⟨#[l4.getD 0 0]⟩ : Str).length = 1 from rfl]; omega) (by omega) (by omega), show (1 + (p : Int)) = ((1 + p : Nat) : Int) by omega, mul_one_char _ _ (by omega), hNT]
        rfl
      have hnm : nf i = if bg then NT else NF := by
        rw [hNT, hNF, hpe, hnf]
        cases bg <;> rfl
      have hmi : ((i : Int)).natAbs < 2 ^ 250 := by omega
      have hlc : (l.map kD).length < 16777216 := by rw [List.length_map]; omega
      have kc : ∀ (m : Int), 0 ≤ m → m ≤ 3 → (i = lf → m = 0) → ∀ σ : Rho, (∃ s11 s12 s13 s14, σ = [.fz (.int c), .fz (.str z), .fz (.int r2), .fz (.int sz), .fz (.str MS), .fz (.str SS), .fz (.int a), .fz (.int lf), .fz (.int tn), .fz (.bl bg), .own (.lst (l.map kD ++ [kD (nf i, m)])), s11, s12, s13, s14]) →
          ∃ (l : List (Str × Int)) (rr : Nat) (s11 s12 s13 s14 : Sl), (l.length = i + 1 ∧ ∀ (j : Nat) (p : Str × Int), l[j]? = some p → p.1 = nf j ∧ 0 ≤ p.2 ∧ p.2 ≤ 3 ∧ (j = lf → p.2 = 0)) ∧
            σ = [.fz (.int c), .fz (.str z), .fz (.int rr), .fz (.int sz), .fz (.str MS), .fz (.str SS), .fz (.int a), .fz (.int lf), .fz (.int tn), .fz (.bl bg), .own (.lst (l.map kD)), s11, s12, s13, s14] := fun m m0 m1 m2 σ ⟨s11, s12, s13, s14, e⟩ => by
        refine ⟨l ++ [(nf i, m)], r2, s11, s12, s13, s14, ⟨by simp [hll], fun j p h => ?_⟩, by rw [e]; simp⟩
        by_cases hj : j < l.length
        · rw [List.getElem?_append_left hj] at h; exact hlp j p h
        · rw [List.getElem?_append_right (by omega)] at h
          have hj2 : j = i := by
            have := (List.getElem?_eq_some_iff.mp h).1
            simp at this; omega
          subst hj2
          rw [hll, Nat.sub_self] at h
          simp only [List.getElem?_cons_zero, Option.some.injEq] at h
          subst h
          exact ⟨rfl, m0, m1, m2⟩
      have hii : ((i : Int) = (lf : Int)) ↔ i = lf := by omega
      have hmlp : (0 : Int) < (ml : Int) := by omega
      by_cases el : i = lf
      · refine w_turn_mono (kc 0 (by omega) (by omega) (fun _ => rfl)) ?_
        rw [hnm]
        cases bg
        · simp (disch := first | assumption | omega | (simp <;> omega) | fail) [forB, R2, hv, hii, el.symm, sM, hp, s1, s2, mi, a1, a2, kD, hlc]
        · simp (disch := first | assumption | omega | (simp <;> omega) | fail) [forB, R2, hv, hii, el.symm, sM, hp, s1, s2, mi, a1, a2, z0, a3, kD, hlc]
      · refine w_turn_mono (kc v hv0 hv1 (fun e => absurd e el)) ?_
        rw [hnm]
        cases bg
        · simp (disch := first | assumption | omega | (simp <;> omega) | fail) [forB, R2, hv, hii, el, sM, hp, s1, s2, mi, a1, a2, kD, hlc]
        · simp (disch := first | assumption | omega | (simp <;> omega) | fail) [forB, R2, hv, hii, el, sM, hp, s1, s2, mi, a1, a2, z0, a3, kD, hlc]
    · obtain ⟨l, rr, s11, s12, s13, s14, ⟨hll, hlp⟩, rfl⟩ := hI
      simp
      exact ⟨l, rfl, by omega, fun j a b h => hlp j (a, b) h⟩
end
end Bk

/-! K1: holes, the parts that stand at them, what is hung. -/
namespace Bk
open PySem
mutual
/-- how many holes -/
def Th.nh : Th → Nat
  | .hole => 1
  | .call _ _ => 0
  | .mk _ us => Th.nhL us
def Th.nhL : List Th → Nat
  | [] => 0
  | u :: us => u.nh + Th.nhL us
end
mutual
/-- what stands in a thing at the holes of a front -/
def Th.parts : Th → Th → List Th
  | .hole, t => [t]
  | .mk _ us, .mk _ vs => Th.partsL us vs
  | _, _ => []
def Th.partsL : List Th → List Th → List Th
  | u :: us, v :: vs => u.parts v ++ Th.partsL us vs
  | _, _ => []
end
mutual
/-- parts put in for holes; those that are left -/
def Th.hang : Th → List Th → Th × List Th
  | .hole, p :: ps => (p, ps)
  | .hole, [] => (.hole, [])
  | .call q k, ps => (.call q k, ps)
  | .mk nm us, ps => (.mk nm (Th.hangL us ps).1, (Th.hangL us ps).2)
def Th.hangL : List Th → List Th → List Th × List Th
  | [], ps => ([], ps)
  | u :: us, ps => ((u.hang ps).1 :: (Th.hangL us (u.hang ps).2).1, (Th.hangL us (u.hang ps).2).2)
end
mutual
/-- no calls -/
def Th.front : Th → Prop
  | .call _ _ => False
  | .hole => True
  | .mk _ us => Th.frontL us
def Th.frontL : List Th → Prop
  | [] => True
  | u :: us => u.front ∧ Th.frontL us
end
mutual
/-- no holes -/
def Th.noh : Th → Prop
  | .call _ _ => True
  | .hole => False
  | .mk _ us => Th.nohL us
def Th.nohL : List Th → Prop
  | [] => True
  | u :: us => u.noh ∧ Th.nohL us
end
mutual
theorem Th.parts_len : ∀ {f t : Th}, f.lies t = true → (f.parts t).length = f.nh
  | .hole, t, _ => by simp [Th.parts, Th.nh]
  | .call _ _, t, h => by simp [Th.lies] at h
  | .mk _ us, .mk _ vs, h => by
    rw [Th.lies, Bool.and_eq_true] at h
    rw [Th.parts, Th.nh]
    exact Th.partsL_len h.2
  | .mk _ us, .hole, h => by simp [Th.lies] at h
  | .mk _ us, .call _ _, h => by simp [Th.lies] at h
theorem Th.partsL_len : ∀ {us vs : List Th}, Th.liesL us vs = true → (Th.partsL us vs).length = Th.nhL us
  | [], [], _ => by simp [Th.partsL, Th.nhL]
  | [], _ :: _, h => by simp [Th.liesL] at h
  | _ :: _, [], h => by simp [Th.liesL] at h
  | u :: us, v :: vs, h => by
    rw [Th.liesL, Bool.and_eq_true] at h
    rw [Th.partsL, Th.nhL, List.length_append, Th.parts_len h.1, Th.partsL_len h.2]
end
mutual
theorem Th.hang_parts : ∀ {f t : Th} (r : List Th), f.lies t = true → f.hang (f.parts t ++ r) = (t, r)
  | .hole, t, r, _ => by simp [Th.parts, Th.hang]
  | .call _ _, t, r, h => by simp [Th.lies] at h
  | .mk n1 us, .mk n2 vs, r, h => by
    rw [Th.lies, Bool.and_eq_true, decide_eq_true_eq] at h
    rw [Th.parts, Th.hang, Th.hangL_parts r h.2, h.1]
  | .mk _ us, .hole, r, h => by simp [Th.lies] at h
  | .mk _ us, .call _ _, r, h => by simp [Th.lies] at h
theorem Th.hangL_parts : ∀ {us vs : List Th} (r : List Th), Th.liesL us vs = true → Th.hangL us (Th.partsL us vs ++ r) = (vs, r)
  | [], [], r, _ => by simp [Th.partsL, Th.hangL]
  | [], _ :: _, r, h => by simp [Th.liesL] at h
  | _ :: _, [], r, h => by simp [Th.liesL] at h
  | u :: us, v :: vs, r, h => by
    rw [Th.liesL, Bool.and_eq_true] at h
    rw [Th.partsL, Th.hangL, List.append_assoc, Th.hang_parts _ h.1, Th.hangL_parts r h.2]
end
mutual
theorem Th.hang_rest : ∀ (f : Th) (ps : List Th), f.nh ≤ ps.length → (f.hang ps).2 = ps.drop f.nh
  | .hole, [], h => by simp [Th.nh] at h
  | .hole, p :: ps, h => by simp [Th.hang, Th.nh]
  | .call _ _, ps, h => by simp [Th.hang, Th.nh]
  | .mk nm us, ps, h => by
    rw [Th.nh] at h
    rw [Th.hang, Th.nh]
    exact Th.hangL_rest us ps h
theorem Th.hangL_rest : ∀ (us : List Th) (ps : List Th), Th.nhL us ≤ ps.length → (Th.hangL us ps).2 = ps.drop (Th.nhL us)
  | [], ps, h => by simp [Th.hangL, Th.nhL]
  | u :: us, ps, h => by
    rw [Th.nhL] at h
    have h1 := Th.hang_rest u ps (by omega)
    have h2 := Th.hangL_rest us (ps.drop u.nh) (by rw [List.length_drop]; omega)
    rw [Th.hangL, Th.nhL, h1, h2, List.drop_drop]
end
theorem Th.hangL_len : ∀ (us : List Th) (ps : List Th), (Th.hangL us ps).1.length = us.length
  | [], ps => by simp [Th.hangL]
  | u :: us, ps => by simp [Th.hangL, Th.hangL_len us]
mutual
theorem Th.parts_hang : ∀ (f : Th) (ps : List Th), f.nh ≤ ps.length → f.parts (f.hang ps).1 = ps.take f.nh
  | .hole, [], h => by simp [Th.nh] at h
  | .hole, p :: ps, h => by simp [Th.hang, Th.nh, Th.parts]
  | .call _ _, ps, h => by simp [Th.hang, Th.nh, Th.parts]
  | .mk nm us, ps, h => by
    rw [Th.nh] at h
    rw [Th.hang, Th.nh, Th.parts]
    exact Th.partsL_hang us ps h
theorem Th.partsL_hang : ∀ (us : List Th) (ps : List Th), Th.nhL us ≤ ps.length → Th.partsL us (Th.hangL us ps).1 = ps.take (Th.nhL us)
  | [], ps, h => by simp [Th.hangL, Th.nhL, Th.partsL]
  | u :: us, ps, h => by
    rw [Th.nhL] at h
    rw [Th.hangL, Th.nhL, Th.partsL, Th.parts_hang u ps (by omega), Th.hang_rest u ps (by omega), Th.partsL_hang us (ps.drop u.nh) (by rw [List.length_drop]; omega), List.take_add]
end
mutual
theorem Th.lies_hang : ∀ (f : Th) (ps : List Th), f.front → f.lies (f.hang ps).1 = true
  | .hole, ps, _ => by simp [Th.lies]
  | .call _ _, ps, h => by simp [Th.front] at h
  | .mk nm us, ps, h => by
    rw [Th.front] at h
    rw [Th.hang, Th.lies, Th.liesL_hang us ps h]
    simp
theorem Th.liesL_hang : ∀ (us : List Th) (ps : List Th), Th.frontL us → Th.liesL us (Th.hangL us ps).1 = true
  | [], ps, h => by simp [Th.hangL, Th.liesL]
  | u :: us, ps, h => by
    rw [Th.frontL] at h
    rw [Th.hangL, Th.liesL, Th.lies_hang u ps h.1, Th.liesL_hang us _ h.2]
    simp
end
mutual
theorem Th.front_com : ∀ a b : Th, (a.com b).front
  | .hole, _ => by simp [Th.com, Th.front]
  | .call _ _, _ => by simp [Th.com, Th.front]
  | .mk _ _, .hole => by simp [Th.com, Th.front]
  | .mk _ _, .call _ _ => by simp [Th.com, Th.front]
  | .mk n1 us, .mk n2 vs => by
    rw [Th.com]
    split
    · rw [Th.front]; exact Th.frontL_com us vs
    · simp [Th.front]
theorem Th.frontL_com : ∀ us vs : List Th, Th.frontL (Th.comL us vs)
  | [], _ => by simp [Th.comL, Th.frontL]
  | _ :: _, [] => by simp [Th.comL, Th.frontL]
  | u :: us, v :: vs => by rw [Th.comL, Th.frontL]; exact ⟨Th.front_com u v, Th.frontL_com us vs⟩
end
mutual
theorem Th.parts_noh : ∀ (f : Th) {t : Th}, t.noh → ∀ a ∈ f.parts t, a.noh
  | .hole, t, h => fun a ha => by simp [Th.parts] at ha; rw [ha]; exact h
  | .call _ _, t, h => fun a ha => by simp [Th.parts] at ha
  | .mk _ us, .mk _ vs, h => fun a ha => by
    rw [Th.noh] at h
    rw [Th.parts] at ha
    exact Th.partsL_noh us h a ha
  | .mk _ us, .hole, h => fun a ha => by simp [Th.parts] at ha
  | .mk _ us, .call _ _, h => fun a ha => by simp [Th.parts] at ha
theorem Th.partsL_noh : ∀ (us : List Th) {vs : List Th}, Th.nohL vs → ∀ a ∈ Th.partsL us vs, a.noh
  | [], vs, h => fun a ha => by simp [Th.partsL] at ha
  | u :: us, [], h => fun a ha => by simp [Th.partsL] at ha
  | u :: us, v :: vs, h => fun a ha => by
    rw [Th.nohL] at h
    rw [Th.partsL] at ha
    rcases List.mem_append.mp ha with ha | ha
    · exact Th.parts_noh u h.1 a ha
    · exact Th.partsL_noh us h.2 a ha
end
mutual
/-- few holes where few knots are -/
def Th.size : Th → Nat
  | .mk _ us => 1 + Th.sizeL us
  | _ => 1
def Th.sizeL : List Th → Nat
  | [] => 0
  | u :: us => u.size + Th.sizeL us
end
mutual
theorem Th.nh_com : ∀ a b : Th, (a.com b).nh ≤ a.size
  | .hole, _ => by simp [Th.com, Th.nh, Th.size]
  | .call _ _, _ => by simp [Th.com, Th.nh, Th.size]
  | .mk _ _, .hole => by rw [Th.com, Th.nh, Th.size]; omega; all_goals simp
  | .mk _ _, .call _ _ => by rw [Th.com, Th.nh, Th.size]; omega; all_goals simp
  | .mk n1 us, .mk n2 vs => by
    rw [Th.com]
    split
    · rw [Th.nh, Th.size]; have := Th.nhL_com us vs; omega
    · rw [Th.nh, Th.size]; omega
theorem Th.nhL_com : ∀ us vs : List Th, Th.nhL (Th.comL us vs) ≤ Th.sizeL us
  | [], _ => by simp [Th.comL, Th.nhL]
  | _ :: _, [] => by simp [Th.comL, Th.nhL]
  | u :: us, v :: vs => by
    rw [Th.comL, Th.nhL, Th.sizeL]
    have h1 := Th.nh_com u v
    have h2 := Th.nhL_com us vs
    omega
end
theorem Th.partsL_zip : ∀ L : List (Th × Th), Th.partsL (L.map (·.1)) (L.map (·.2)) = L.flatMap fun p => p.1.parts p.2
  | [] => by simp [Th.partsL]
  | p :: L => by simp [Th.partsL, Th.partsL_zip L]
theorem zip_of {α β : Type} : ∀ {us : List α} {vs : List β}, us.length = vs.length → ∃ L : List (α × β), us = L.map (·.1) ∧ vs = L.map (·.2)
  | [], [], _ => ⟨[], rfl, rfl⟩
  | u :: us, v :: vs, h => by
    obtain ⟨L, rfl, rfl⟩ := zip_of (us := us) (vs := vs) (by simpa using h)
    exact ⟨(u, v) :: L, rfl, rfl⟩
  | [], _ :: _, h => by simp at h
  | _ :: _, [], h => by simp at h
theorem Th.liesL_zip : ∀ L : List (Th × Th), Th.liesL (L.map (·.1)) (L.map (·.2)) = true ↔ ∀ p ∈ L, p.1.lies p.2 = true
  | [] => by simp [Th.liesL]
  | p :: L => by simp [Th.liesL, Th.liesL_zip L]
theorem Th.nh_mem {t : Th} : ∀ {ts : List Th}, t ∈ ts → t.nh ≤ Th.nhL ts
  | [], h => by cases h
  | a :: ts, h => by
    rw [Th.nhL]
    rcases List.mem_cons.mp h with rfl | h
    · omega
    · have := Th.nh_mem h; omega
theorem Th.nhL_app : ∀ us vs : List Th, Th.nhL (us ++ vs) = Th.nhL us + Th.nhL vs
  | [], vs => by simp [Th.nhL]
  | u :: us, vs => by rw [List.cons_append, Th.nhL, Th.nhL_app us vs, Th.nhL]; omega
theorem Th.hangL_app : ∀ us vs ps : List Th, (Th.hangL (us ++ vs) ps).1 = (Th.hangL us ps).1 ++ (Th.hangL vs (Th.hangL us ps).2).1
  | [], vs, ps => by simp [Th.hangL]
  | u :: us, vs, ps => by rw [List.cons_append, Th.hangL, Th.hangL_app us vs, Th.hangL]; rfl
end Bk

/-! K2: holes_in, parts_at, hung_by, hung. -/
namespace Bk
open PySem
mutual
def Th.holes : Th → List (List Int)
  | .hole => [[]]
  | .call _ _ => []
  | .mk _ us => Th.holesL 0 us
def Th.holesL : Nat → List Th → List (List Int)
  | _, [] => []
  | k, u :: us => u.holes.map (fun p => (k : Int) :: p) ++ Th.holesL (k + 1) us
end
mutual
theorem Th.holes_len : ∀ t : Th, t.holes.length = t.nh
  | .hole => by simp [Th.holes, Th.nh]
  | .call _ _ => by simp [Th.holes, Th.nh]
  | .mk _ us => by rw [Th.holes, Th.nh, Th.holesL_len]
theorem Th.holesL_len : ∀ (us : List Th) (k : Nat), (Th.holesL k us).length = Th.nhL us
  | [], _ => by simp [Th.holesL, Th.nhL]
  | u :: us, k => by rw [Th.holesL, Th.nhL, List.length_append, List.length_map, Th.holes_len u, Th.holesL_len us]
end
theorem Th.holesL_snoc (u : Th) : ∀ (us : List Th) (k : Nat), Th.holesL k (us ++ [u]) = Th.holesL k us ++ u.holes.map (fun p => ((k + us.length : Nat) : Int) :: p)
  | [], k => by simp [Th.holesL]
  | v :: us, k => by
    rw [List.cons_append, Th.holesL, Th.holesL, Th.holesL_snoc u us (k + 1), List.append_assoc, List.length_cons, show k + 1 + us.length = k + (us.length + 1) by omega]
mutual
theorem Th.hole_short : ∀ (t : Th) (p : List Int), p ∈ t.holes → p.length ≤ t.high
  | .hole, p, h => by simp [Th.holes] at h; simp [h]
  | .call _ _, p, h => by simp [Th.holes] at h
  | .mk _ us, p, h => by
    rw [Th.holes] at h
    have := Th.holeL_short us 0 p h
    rw [Th.high]; omega
theorem Th.holeL_short : ∀ (us : List Th) (k : Nat) (p : List Int), p ∈ Th.holesL k us → p.length ≤ Th.highL us + 1
  | [], _, p, h => by simp [Th.holesL] at h
  | u :: us, k, p, h => by
    rw [Th.holesL] at h
    rw [Th.highL]
    rcases List.mem_append.mp h with h | h
    · obtain ⟨q, hq, rfl⟩ := List.mem_map.mp h
      have := Th.hole_short u q hq
      simp only [List.length_cons]; omega
    · have := Th.holeL_short us (k + 1) p h; omega
end
theorem Th.d_mk (nm : Str) (us : List Th) : (Th.mk nm us).d = .tup (.str nm :: us.map Th.d) := by simp [Th.d, Th.dL_map]
theorem Th.nhL_split (a : List Th) (u : Th) (b : List Th) : Th.nhL (a ++ u :: b) = Th.nhL a + u.nh + Th.nhL b := by rw [Th.nhL_app, Th.nhL]; omega
section
variable {su : Subs} {Ps : Nat → Option Df}
theorem holes_in_ok (h45 : Ps 45 = some f_holes_in) : ∀ (n : Nat) (t : Th), t.ok → t.front → t.high ≤ n → t.nh ≤ 10000 → t.high ≤ 1000 → runD su Ps n 45 [t.d] = .ok (.lst (t.holes.map pD)) []
  | 0, t, _, _, h, _, _ => by have : 1 ≤ t.high := (by cases t <;> simp [Th.high]); omega
  | n + 1, .call q k, _, h, _, _, _ => by simp [Th.front] at h
  | n + 1, .hole, ho, _, _, _, _ => by
    rw [runD_eq h45 rfl]
    have he := eq_hole .hole ho (Th.plain _)
    rw [Th.d] at he ⊢
    simp [f_holes_in, startR, he, Th.isHole, Th.holes, pD]
  | n + 1, .mk nm us, ho, hf, hn, hm, hh => by
    have he := eq_hole _ ho (Th.plain _)
    rw [Th.ok] at ho
    rw [Th.front] at hf
    rw [Th.high] at hn hh
    rw [Th.nh] at hm
    rw [Th.d_mk] at he ⊢
    refine (ret_of h45 rfl rfl ?_).eq
    have hl := ho.2.2.1
    simp (disch := first | assumption | omega | (simp <;> omega) | fail) [f_holes_in, startR, he, Th.isHole]
    refine w_for_k (L := us) rfl (fun pre ρ => ∃ s, ρ = [.fz (.tup (.str nm :: us.map Th.d)), .own (.lst ((Th.holesL 0 pre).map pD)), s, .un]) ⟨_, rfl⟩ (fun pre u post ρ e hI => ?_) (fun ρ hI => ?_)
    · obtain ⟨s, rfl⟩ := hI
      subst e
      rw [Th.nhL_split] at hm
      have mu : u ∈ pre ++ u :: post := by simp
      have b1 := Th.high_mem mu
      have fu : u.front := by
        have : ∀ a : List Th, Th.frontL (a ++ u :: post) → u.front := by
          intro a
          induction a with
          | nil => intro h; rw [List.nil_append, Th.frontL] at h; exact h.1
          | cons b a ih => intro h; rw [List.cons_append, Th.frontL] at h; exact ih h.2
        exact this pre hf
      have ih := holes_in_ok h45 n u (Th.ok_mem ho.2.2.2 mu) fu (by omega) (by omega) (by omega)
      have l1 := Th.holesL_len pre 0
      have l2 := Th.holes_len u
      simp (disch := first | assumption | omega | (simp <;> omega) | fail) [forB, ih]
      rw [comp_run u.holes pD (fun p => pD ((pre.length : Int) :: p)) (by omega) (by simp) (fun p hp => by
        have := Th.hole_short u p hp
        have e : (1 + (pre.length : Int) - 1) = pre.length := by omega
        simp (disch := first | assumption | omega | (simp <;> omega) | fail) [cmpB, wipeR, pD, e])]
      rw [Th.holesL_snoc]
      simp (disch := first | assumption | omega | (simp <;> omega) | fail) [Function.comp_def, l1, l2]
    · obtain ⟨s, rfl⟩ := hI
      simp [Th.holes]
theorem parts_at_ok (h46 : Ps 46 = some f_parts_at) : ∀ (n : Nat) (f t : Th), f.ok → f.lies t = true → f.high ≤ n → f.nh ≤ 10000 → runD su Ps n 46 [f.d, t.d] = .ok (.lst ((f.parts t).map Th.d)) []
  | 0, t, _, _, _, h, _ => by have : 1 ≤ t.high := (by cases t <;> simp [Th.high]); omega
  | n + 1, .call q k, _, _, h, _, _ => by simp [Th.lies] at h
  | n + 1, .hole, t, ho, _, _, _ => by
    rw [runD_eq h46 rfl]
    have he := eq_hole .hole ho (Th.plain _)
    rw [Th.d] at he ⊢
    simp [f_parts_at, startR, he, Th.isHole, Th.parts]
  | n + 1, .mk nm us, .hole, ho, hf, _, _ => by simp [Th.lies] at hf
  | n + 1, .mk nm us, .call _ _, ho, hf, _, _ => by simp [Th.lies] at hf
  | n + 1, .mk nm us, .mk n2 vs, ho, hf, hn, hm => by
    have he := eq_hole _ ho (Th.plain _)
    rw [Th.ok] at ho
    rw [Th.lies, Bool.and_eq_true] at hf
    rw [Th.high] at hn
    rw [Th.nh] at hm
    obtain ⟨L, e1, e2⟩ := zip_of (Th.liesL_len hf.2)
    subst e1 e2
    have hz := (Th.liesL_zip L).mp hf.2
    rw [Th.d_mk] at he ⊢
    rw [Th.d_mk, Th.parts, Th.partsL_zip]
    refine (ret_of h46 rfl rfl ?_).eq
    have hl := ho.2.2.1
    rw [List.length_map] at hl
    rw [List.map_map, List.map_map] at *
    simp (disch := first | assumption | omega | (simp <;> omega) | fail) [f_parts_at, startR, he, Th.isHole]
    refine w_for_k (L := L) rfl (fun pre ρ => ∃ s, ρ = [.fz (.tup (.str nm :: L.map (Th.d ∘ (·.1)))), .fz (.tup (.str n2 :: L.map (Th.d ∘ (·.2)))), .own (.lst ((pre.flatMap fun p => p.1.parts p.2).map Th.d)), s]) ⟨_, rfl⟩ (fun pre u post ρ e hI => ?_) (fun ρ hI => ?_)
    · obtain ⟨s, rfl⟩ := hI
      subst e
      have mu : u ∈ pre ++ u :: post := by simp
      have mu1 : u.1 ∈ (pre ++ u :: post).map (·.1) := List.mem_map.mpr ⟨u, mu, rfl⟩
      have b1 := Th.high_mem mu1
      have b2 := Th.nh_mem mu1
      have ih := parts_at_ok h46 n u.1 u.2 (Th.ok_mem ho.2.2.2 mu1) (hz u mu) (by omega) (by omega)
      have l1 := Th.parts_len (hz u mu)
      have l2 : (pre.flatMap fun p => p.1.parts p.2).length ≤ 10000 := by
        rw [← Th.partsL_zip, Th.partsL_len ((Th.liesL_zip pre).mpr fun p hp => hz p (List.mem_append_left _ hp))]
        rw [List.map_append, Th.nhL_app] at hm
        omega
      generalize hA : (pre.flatMap fun p => p.1.parts p.2).map Th.d = A at *
      have hAl : A.length ≤ 10000 := by rw [← hA, List.length_map]; exact l2
      obtain ⟨B, hB⟩ : ∃ B, B = (u.1.parts u.2).map Th.d := ⟨_, rfl⟩
      have hBl : B.length ≤ 10000 := by rw [hB, List.length_map]; omega
      rw [← hB] at ih
      have hAB : ((pre ++ [u]).flatMap fun p => p.1.parts p.2).map Th.d = A ++ B := by rw [hB, ← hA]; simp
      simp only [hAB]
      simp (disch := first | assumption | omega | (simp <;> omega) | fail) [forB, ih]
    · obtain ⟨s, rfl⟩ := hI
      simp
theorem hung_by_ok (h47 : Ps 47 = some f_hung_by) : ∀ (n : Nat) (f : Th) (ps : List Th) (k : Nat), f.ok → f.front → f.high ≤ n → k + f.nh ≤ ps.length → ps.length ≤ 10000 → runD su Ps n 47 [f.d, .lst (ps.map Th.d), .int k] = .ok (.tup [(f.hang (ps.drop k)).1.d, .int ((k + f.nh : Nat) : Int)]) []
  | 0, t, _, _, _, _, h, _, _ => by have : 1 ≤ t.high := (by cases t <;> simp [Th.high]); omega
  | n + 1, .call q k, _, _, _, h, _, _, _ => by simp [Th.front] at h
  | n + 1, .hole, ps, k, ho, _, _, hk, hl => by
    rw [Th.nh] at hk
    rw [runD_eq h47 rfl]
    have he := eq_hole .hole ho (Th.plain _)
    have e : ps.drop k = ps[k] :: ps.drop (k + 1) := by rw [List.drop_eq_getElem_cons]
    have hx : evPrim .idx [.lst (ps.map Th.d), .int (k : Int)] = .ok ps[k].d := idxl_get rfl (by rw [List.getElem?_map, List.getElem?_eq_getElem (by omega)]; rfl)
    rw [Th.d] at he ⊢
    rw [e, Th.hang, Th.nh]
    simp [f_hung_by, startR, he, Th.isHole, hx]
  | n + 1, .mk nm us, ps, k, ho, hf, hn, hk, hl => by
    have he := eq_hole _ ho (Th.plain _)
    rw [Th.ok] at ho
    rw [Th.front] at hf
    rw [Th.high] at hn
    rw [Th.nh] at hk
    rw [Th.hang, Th.nh, Th.d_mk]
    rw [Th.d_mk] at he ⊢
    refine (ret_of h47 rfl rfl ?_).eq
    have hll := ho.2.2.1
    simp (disch := first | assumption | omega | (simp <;> omega) | fail) [f_hung_by, startR, he, Th.isHole]
    refine w_for_k (L := us) rfl (fun pre ρ => ∃ s s' m, m = k + Th.nhL pre ∧ ρ = [.fz (.tup (.str nm :: us.map Th.d)), .fz (.lst (ps.map Th.d)), .fz (.int (m : Nat)), .fz (.tup (.str nm :: ((Th.hangL pre (ps.drop k)).1.map Th.d))), s, s']) ⟨.un, .un, k, by simp [Th.nhL], by simp [Th.hangL]⟩ (fun pre u post ρ e hI => ?_) (fun ρ hI => ?_)
    · obtain ⟨s, s', m, hmk, rfl⟩ := hI
      subst e
      rw [Th.nhL_split] at hk
      have mu : u ∈ pre ++ u :: post := by simp
      have b1 := Th.high_mem mu
      have fu : u.front := by
        have : ∀ a : List Th, Th.frontL (a ++ u :: post) → u.front := by
          intro a
          induction a with
          | nil => intro h; rw [List.nil_append, Th.frontL] at h; exact h.1
          | cons b a ih => intro h; rw [List.cons_append, Th.frontL] at h; exact ih h.2
        exact this pre hf
      have ih := hung_by_ok h47 n u ps m (Th.ok_mem ho.2.2.2 mu) fu (by omega) (by omega) hl
      have hr := Th.hangL_rest pre (ps.drop k) (by rw [List.length_drop]; omega)
      rw [List.drop_drop, ← hmk] at hr
      have l1 := Th.hangL_len pre (ps.drop k)
      rw [List.length_append, List.length_cons] at hll
      have happ := Th.hangL_app pre [u] (ps.drop k)
      rw [hr, Th.hangL, Th.hangL] at happ
      obtain ⟨m2, hm2⟩ : ∃ m2, m2 = m + u.nh := ⟨_, rfl⟩
      rw [← hm2] at ih
      have hm3 : m2 = k + Th.nhL (pre ++ [u]) := by rw [Th.nhL_app, Th.nhL, Th.nhL]; omega
      simp (disch := first | assumption | omega | (simp <;> omega) | fail) [forB, ih, happ, hm3.symm]
    · obtain ⟨s, s', m, hmk, rfl⟩ := hI
      simp
      omega
theorem hung_ok (h47 : Ps 47 = some f_hung_by) (h48 : Ps 48 = some f_hung) (n : Nat) (f : Th) (ps : List Th) (ho : f.ok) (hf : f.front) (hn : f.high ≤ n) (hk : f.nh ≤ ps.length) (hl : ps.length ≤ 10000) : runD su Ps (n + 1) 48 [f.d, .lst (ps.map Th.d)] = .ok (f.hang ps).1.d [] := by
  have := hung_by_ok (su := su) h47 n f ps 0 ho hf hn (by omega) hl
  rw [List.drop_zero] at this
  rw [runD_eq h48 rfl]
  have e : ((0 : Nat) : Int) = 0 := rfl
  rw [e] at this
  simp [f_hung, startR, this]
end
end Bk

/-! K3: what stands at the holes of a common front is unlike. -/
namespace Bk
open PySem
mutual
theorem Th.parts_ok : ∀ (f : Th) {t : Th}, t.ok → ∀ a ∈ f.parts t, a.ok ∧ a.high ≤ t.high
  | .hole, t, h => fun a ha => by simp [Th.parts] at ha; rw [ha]; exact ⟨h, by omega⟩
  | .call _ _, t, h => fun a ha => by simp [Th.parts] at ha
  | .mk _ us, .mk _ vs, h => fun a ha => by
    rw [Th.ok] at h
    rw [Th.parts] at ha
    rw [Th.high]
    have := Th.partsL_ok us h.2.2.2 a ha
    exact ⟨this.1, by omega⟩
  | .mk _ us, .hole, h => fun a ha => by simp [Th.parts] at ha
  | .mk _ us, .call _ _, h => fun a ha => by simp [Th.parts] at ha
theorem Th.partsL_ok : ∀ (us : List Th) {vs : List Th}, Th.okL vs → ∀ a ∈ Th.partsL us vs, a.ok ∧ a.high ≤ Th.highL vs
  | [], vs, h => fun a ha => by simp [Th.partsL] at ha
  | u :: us, [], h => fun a ha => by simp [Th.partsL] at ha
  | u :: us, v :: vs, h => fun a ha => by
    rw [Th.okL] at h
    rw [Th.partsL] at ha
    rw [Th.highL]
    rcases List.mem_append.mp ha with ha | ha
    · have := Th.parts_ok u h.1 a ha; exact ⟨this.1, by omega⟩
    · have := Th.partsL_ok us h.2 a ha; exact ⟨this.1, by omega⟩
end
mutual
theorem Th.com_unlike : ∀ (x y : Th), ∀ p ∈ ((x.com y).parts x).zip ((x.com y).parts y), p.1.like p.2 = false
  | .hole, y => fun p hp => by simp [Th.com, Th.parts] at hp; rw [hp]; simp [Th.like]
  | .call _ _, y => fun p hp => by simp [Th.com, Th.parts] at hp; rw [hp]; simp [Th.like]
  | .mk _ _, .hole => fun p hp => by simp [Th.com, Th.parts] at hp; rw [hp]; simp [Th.like]
  | .mk _ _, .call _ _ => fun p hp => by simp [Th.com, Th.parts] at hp; rw [hp]; simp [Th.like]
  | .mk n1 us, .mk n2 vs => fun p hp => by
    rw [Th.com] at hp
    by_cases e : n1 = n2 ∧ us.length = vs.length
    · rw [if_pos e, Th.parts, Th.parts] at hp
      exact Th.comL_unlike us vs e.2 p hp
    · rw [if_neg e] at hp
      simp [Th.parts] at hp
      rw [hp]
      simp only [Th.like]
      by_cases z : n1 = n2
      · have : ¬ us.length = vs.length := fun y => e ⟨z, y⟩
        simp [this]
      · simp [z]
theorem Th.comL_unlike : ∀ (us vs : List Th), us.length = vs.length → ∀ p ∈ (Th.partsL (Th.comL us vs) us).zip (Th.partsL (Th.comL us vs) vs), p.1.like p.2 = false
  | [], _, _ => fun p hp => by simp [Th.comL, Th.partsL] at hp
  | _ :: _, [], _ => fun p hp => by simp [Th.comL, Th.partsL] at hp
  | u :: us, v :: vs, h => fun p hp => by
    rw [Th.comL, Th.partsL, Th.partsL] at hp
    have cl := Th.com_lies u v
    rw [List.zip_append (by rw [Th.parts_len cl.1, Th.parts_len cl.2])] at hp
    rcases List.mem_append.mp hp with hp | hp
    · exact Th.com_unlike u v p hp
    · exact Th.comL_unlike us vs (by simpa using h) p hp
end
section
variable {su : Subs} {Ps : Nat → Option Df}
theorem law_part_ok (h49 : Ps 49 = some f_law_part) (n : Nat) (a b : Th) (ha : a.ok) (hb : b.ok) (hn : a.noh) (hl : a.like b = false) : runD su Ps (n + 1) 49 [a.d, b.d] = .ok (.bl true) [] := by
  rw [runD_eq h49 rfl]
  have e : (Str.ofString "*") ≠ Str.ofString "?" := by decide
  cases a with
  | hole => simp [Th.noh] at hn
  | call q k =>
    cases b with
    | hole => simp [f_law_part, startR, Th.d, e.symm]
    | call q k => simp [f_law_part, startR, Th.d]
    | mk nm us =>
      rw [Th.ok] at hb
      simp [f_law_part, startR, Th.d, hb.1.symm]
  | mk nm us =>
    rw [Th.ok] at ha
    cases b with
    | hole => simp [f_law_part, startR, Th.d, ha.2.1]
    | call q k => simp [f_law_part, startR, Th.d, ha.1]
    | mk n2 vs =>
      rw [Th.like] at hl
      by_cases z : nm = n2
      · have : ¬ us.length = vs.length := by simpa [z] using hl
        have h2 : ¬ (us.length : Int) = vs.length := by omega
        simp [f_law_part, startR, Th.d_mk, z, h2, this]
      · simp [f_law_part, startR, Th.d_mk, z]
end
mutual
theorem Pt.th_noh : ∀ t : Pt, t.th.noh
  | .call _ _ => by simp [Pt.th, Th.noh]
  | .mk _ us => by rw [Pt.th, Th.noh]; exact Pt.thL_noh us
theorem Pt.thL_noh : ∀ us : List Pt, Th.nohL (Pt.thL us)
  | [] => by simp [Pt.thL, Th.nohL]
  | u :: us => by rw [Pt.thL, Th.nohL]; exact ⟨Pt.th_noh u, Pt.thL_noh us⟩
end
mutual
theorem Pt.th_size : ∀ t : Pt, t.th.size = t.size
  | .call _ _ => by simp [Pt.th, Th.size, Pt.size]
  | .mk _ us => by rw [Pt.th, Th.size, Pt.size, Pt.thL_size us]
theorem Pt.thL_size : ∀ us : List Pt, Th.sizeL (Pt.thL us) = Pt.sizeL us
  | [] => by simp [Pt.thL, Th.sizeL, Pt.sizeL]
  | u :: us => by rw [Pt.thL, Th.sizeL, Pt.sizeL, Pt.th_size u, Pt.thL_size us]
end
end Bk

/-! Z1: patterns whose calls name any numbers. -/
namespace Bk
open PySem
inductive Pz where | call (a b : Int) | mk (nm : Str) (us : List Pz)
mutual
def Pz.d : Pz → D
  | .call a b => .tup [.str (Str.ofString "?"), .int a, .int b]
  | .mk nm us => .tup (.str nm :: Pz.dL us)
def Pz.dL : List Pz → List D
  | [] => []
  | u :: us => u.d :: Pz.dL us
end
theorem Pz.dL_map : ∀ us : List Pz, Pz.dL us = us.map Pz.d
  | [] => rfl
  | u :: us => by simp [Pz.dL, Pz.dL_map us]
theorem Pz.d_mk (nm : Str) (us : List Pz) : (Pz.mk nm us).d = .tup (.str nm :: us.map Pz.d) := by simp [Pz.d, Pz.dL_map]
mutual
def Pz.ok : Pz → Prop
  | .call _ _ => True
  | .mk nm us => nm ≠ Str.ofString "?" ∧ us.length ≤ 100000 ∧ Pz.okL us
def Pz.okL : List Pz → Prop
  | [] => True
  | u :: us => u.ok ∧ Pz.okL us
end
mutual
def Pz.high : Pz → Nat
  | .call _ _ => 1
  | .mk _ us => 1 + Pz.highL us
def Pz.highL : List Pz → Nat
  | [] => 0
  | u :: us => max u.high (Pz.highL us)
end
mutual
/-- is it a pattern over kinds -/
def Pz.fits (ks : List (Str × Int)) (st ki : Int) : Pz → Bool
  | .call a b => (decide (0 ≤ a) && decide (a < st)) && (decide (0 ≤ b) && decide (b < ki))
  | .mk nm us => decide (manyOf ks nm = us.length) && Pz.fitsL ks st ki us
def Pz.fitsL (ks : List (Str × Int)) (st ki : Int) : List Pz → Bool
  | [] => true
  | u :: us => u.fits ks st ki && Pz.fitsL ks st ki us
end
theorem Pz.fitsL_all (ks : List (Str × Int)) (st ki : Int) : ∀ us : List Pz, Pz.fitsL ks st ki us = us.all (Pz.fits ks st ki)
  | [] => rfl
  | u :: us => by simp [Pz.fitsL, Pz.fitsL_all ks st ki us]
theorem Pz.ok_mem {t : Pz} : ∀ {ts : List Pz}, Pz.okL ts → t ∈ ts → t.ok
  | [], _, h => by cases h
  | a :: ts, f, h => by
    rw [Pz.okL] at f
    rcases List.mem_cons.mp h with rfl | h
    · exact f.1
    · exact Pz.ok_mem f.2 h
theorem Pz.okL_of : ∀ {us : List Pz}, (∀ u ∈ us, u.ok) → Pz.okL us
  | [], _ => by rw [Pz.okL]; trivial
  | u :: us, h => by rw [Pz.okL]; exact ⟨h u List.mem_cons_self, Pz.okL_of fun v hv => h v (List.mem_cons_of_mem _ hv)⟩
theorem Pz.high_mem {t : Pz} : ∀ {ts : List Pz}, t ∈ ts → t.high ≤ Pz.highL ts
  | [], h => by cases h
  | a :: ts, h => by
    rw [Pz.highL]
    rcases List.mem_cons.mp h with rfl | h
    · omega
    · have := Pz.high_mem h; omega
theorem Pz.highL_le {b : Nat} : ∀ {us : List Pz}, (∀ u ∈ us, u.high ≤ b) → Pz.highL us ≤ b
  | [], _ => by simp [Pz.highL]
  | u :: us, h => by
    have h1 := h u List.mem_cons_self
    have h2 := Pz.highL_le (us := us) fun v hv => h v (List.mem_cons_of_mem _ hv)
    rw [Pz.highL]; omega
mutual
def Pt.z : Pt → Pz
  | .call q k => .call q k
  | .mk nm us => .mk nm (Pt.zL us)
def Pt.zL : List Pt → List Pz
  | [] => []
  | u :: us => u.z :: Pt.zL us
end
theorem Pt.zL_map : ∀ us : List Pt, Pt.zL us = us.map Pt.z
  | [] => rfl
  | u :: us => by simp [Pt.zL, Pt.zL_map us]
mutual
theorem Pt.z_d : ∀ t : Pt, t.z.d = t.d
  | .call q k => by simp [Pt.z, Pz.d, Pt.d]
  | .mk nm us => by simp [Pt.z, Pz.d, Pt.d, Pt.zL_d us]
theorem Pt.zL_d : ∀ us : List Pt, Pz.dL (Pt.zL us) = Pt.dL us
  | [] => by simp [Pt.zL, Pz.dL, Pt.dL]
  | u :: us => by simp [Pt.zL, Pz.dL, Pt.dL, Pt.z_d u, Pt.zL_d us]
end
mutual
theorem Pt.z_high : ∀ t : Pt, t.z.high = t.high
  | .call q k => by simp [Pt.z, Pz.high, Pt.high]
  | .mk nm us => by simp [Pt.z, Pz.high, Pt.high, Pt.zL_high us]
theorem Pt.zL_high : ∀ us : List Pt, Pz.highL (Pt.zL us) = Pt.highL us
  | [] => by simp [Pt.zL, Pz.highL, Pt.highL]
  | u :: us => by simp [Pt.zL, Pz.highL, Pt.highL, Pt.z_high u, Pt.zL_high us]
end
mutual
theorem Pt.z_ok {ks : List (Str × Int)} (K : KsOk ks) : ∀ t : Pt, t.kin ks → t.z.ok
  | .call q k, _ => by simp [Pt.z, Pz.ok]
  | .mk nm us, h => by
    rw [Pt.kin] at h
    have h4 : (us.length : Int) ≤ 3 := K.hi _ h.1
    rw [Pt.z, Pz.ok]
    exact ⟨K.q _ h.1, by rw [Pt.zL_map, List.length_map]; omega, Pt.zL_ok K us h.2⟩
theorem Pt.zL_ok {ks : List (Str × Int)} (K : KsOk ks) : ∀ us : List Pt, Pt.kinL ks us → Pz.okL (Pt.zL us)
  | [], _ => by rw [Pt.zL, Pz.okL]; trivial
  | u :: us, h => by
    rw [Pt.kinL] at h
    rw [Pt.zL, Pz.okL]
    exact ⟨Pt.z_ok K u h.1, Pt.zL_ok K us h.2⟩
end
mutual
/-- so many states, so many kids do calls want -/
def Pt.sts : Pt → Nat
  | .call q _ => q + 1
  | .mk _ us => Pt.stsL us
def Pt.stsL : List Pt → Nat
  | [] => 0
  | u :: us => max u.sts (Pt.stsL us)
end
mutual
def Pt.kds : Pt → Nat
  | .call _ k => k + 1
  | .mk _ us => Pt.kdsL us
def Pt.kdsL : List Pt → Nat
  | [] => 0
  | u :: us => max u.kds (Pt.kdsL us)
end
mutual
theorem Pt.z_fits {ks : List (Str × Int)} (hd : (ks.map (·.1)).Nodup) (a b : Nat) : ∀ t : Pt, t.kin ks → t.z.fits ks a b = (decide (t.sts ≤ a) && decide (t.kds ≤ b))
  | .call q k, _ => by
    rw [Pt.z, Pz.fits, Pt.sts, Pt.kds]
    have e1 : decide ((0 : Int) ≤ (q : Int)) = true := by simp
    have e2 : decide ((0 : Int) ≤ (k : Int)) = true := by simp
    have e3 : decide ((q : Int) < (a : Int)) = decide (q + 1 ≤ a) := decide_eq_decide.mpr (by omega)
    have e4 : decide ((k : Int) < (b : Int)) = decide (k + 1 ≤ b) := decide_eq_decide.mpr (by omega)
    rw [e1, e2, e3, e4]
    simp
  | .mk nm us, h => by
    rw [Pt.kin] at h
    have hm := manyOf_mem hd h.1
    rw [Pt.z, Pz.fits, Pt.sts, Pt.kds, Pt.zL_fits hd a b us h.2, hm]
    simp [Pt.zL_map]
theorem Pt.zL_fits {ks : List (Str × Int)} (hd : (ks.map (·.1)).Nodup) (a b : Nat) : ∀ us : List Pt, Pt.kinL ks us → Pz.fitsL ks a b (Pt.zL us) = (decide (Pt.stsL us ≤ a) && decide (Pt.kdsL us ≤ b))
  | [], _ => by simp [Pt.zL, Pz.fitsL, Pt.stsL, Pt.kdsL]
  | u :: us, h => by
    rw [Pt.kinL] at h
    rw [Pt.zL, Pz.fitsL, Pt.z_fits hd a b u h.1, Pt.zL_fits hd a b us h.2, Pt.stsL, Pt.kdsL]
    simp only [Nat.max_le, Bool.decide_and]
    generalize decide (u.sts ≤ a) = x1
    generalize decide (u.kds ≤ b) = x2
    generalize decide (Pt.stsL us ≤ a) = x3
    generalize decide (Pt.kdsL us ≤ b) = x4
    cases x1 <;> cases x2 <;> cases x3 <;> cases x4 <;> rfl
end
mutual
theorem Pt.sts_le {ks : List (Str × Int)} : ∀ t : Pt, t.kin ks → t.sts ≤ 20 ∧ t.kds ≤ 3
  | .call q k, h => by rw [Pt.kin] at h; rw [Pt.sts, Pt.kds]; omega
  | .mk nm us, h => by rw [Pt.kin] at h; rw [Pt.sts, Pt.kds]; exact Pt.stsL_le us h.2
theorem Pt.stsL_le {ks : List (Str × Int)} : ∀ us : List Pt, Pt.kinL ks us → Pt.stsL us ≤ 20 ∧ Pt.kdsL us ≤ 3
  | [], _ => by simp [Pt.stsL, Pt.kdsL]
  | u :: us, h => by
    rw [Pt.kinL] at h
    have h1 := Pt.sts_le u h.1
    have h2 := Pt.stsL_le us h.2
    rw [Pt.stsL, Pt.kdsL]; omega
end
section
variable {su : Subs} {Ps : Nat → Option Df}
theorem fits_pattern_ok (h54 : Ps 54 = some f_many_of) (h55 : Ps 55 = some f_fits_pattern) (ks : List (Str × Int)) (st ki : Int) : ∀ (n : Nat) (t : Pz), t.ok → t.high + 1 ≤ n → runD su Ps n 55 [.tup (ks.map kD), t.d, .int st, .int ki] = .ok (.bl (t.fits ks st ki)) []
  | 0, t, _, h => by omega
  | 1, t, _, h => by have : 1 ≤ t.high := (by cases t <;> simp [Pz.high]); omega
  | n + 2, .call a b, _, _ => by
    rw [runD_eq h55 rfl]
    by_cases c1 : 0 ≤ a <;> by_cases c2 : a < st <;> by_cases c3 : 0 ≤ b <;> by_cases c4 : b < ki <;> simp [f_fits_pattern, startR, Pz.d, Pz.fits, c1, c2, c3, c4]
  | n + 2, .mk nm us, ho, hn => by
    rw [Pz.ok] at ho
    rw [Pz.high] at hn
    rw [Pz.d_mk, Pz.fits]
    have hm := many_of_ok (su := su) h54 n ks nm
    have hl := ho.2.1
    refine (ret_of h55 rfl rfl ?_).eq
    by_cases e : manyOf ks nm = us.length
    · simp (disch := first | assumption | omega | (simp <;> omega) | fail) [f_fits_pattern, startR, ho.1, hm, e]
      refine w_for_l (fun pre ρ => Pz.fitsL ks st ki pre = true ∧ ∃ s, ρ = [.fz (.tup (ks.map kD)), .fz (.tup (.str nm :: us.map Pz.d)), .fz (.int st), .fz (.int ki), s]) ⟨rfl, _, rfl⟩ (fun pre u post ρ e hI => ?_) (fun ρ hI => ?_)
      · obtain ⟨h, s, rfl⟩ := hI
        have mu : u ∈ us := by rw [e]; simp
        have b1 := Pz.high_mem mu
        have ih := fits_pattern_ok h54 h55 ks st ki (n + 1) u (Pz.ok_mem ho.2.2 mu) (by omega)
        rw [Pz.fitsL_all] at h ⊢
        cases hf : u.fits ks st ki with
        | true =>
          rw [hf] at ih
          simp (disch := first | assumption | omega | (simp <;> omega) | fail) [forB, ih, hf, h]
        | false =>
          rw [hf] at ih
          simp (disch := first | assumption | omega | (simp <;> omega) | fail) [forB, ih]
          rw [Pz.fitsL_all, e]
          simp [hf]
      · obtain ⟨h, s, rfl⟩ := hI
        simp [h]
    · simp (disch := first | assumption | omega | (simp <;> omega) | fail) [f_fits_pattern, startR, ho.1, hm, e]
theorem pr_notin_kinds {ks : List (Str × Int)} {nm : Str} {m : Int} : evPrim .notin [.tup [.str nm, .int m], .tup (ks.map kD)] = .ok (.bl (!decide ((nm, m) ∈ ks))) := by
  show notR (evIn [.tup [.str nm, .int m], .tup (ks.map kD)]) = _
  have hp : PyData.plainAll (D.pyL (ks.map kD)) = true := by
    induction ks with
    | nil => rfl
    | cons p ks ih => simp [D.pyL, PyData.plainAll, kD, D.py, PyData.plain, ih]
  have hdp : (D.tup [.str nm, .int m]).py.depth ≤ 160 := by simp [D.py, D.pyL, PyData.depth, PyData.depthAll]
  have hx : ((D.pyL (ks.map kD)).any fun y => PyData.eqv y (D.tup [.str nm, .int m]).py) = decide ((nm, m) ∈ ks) := by
    clear hp
    induction ks with
    | nil => rfl
    | cons p ks ih =>
      rw [List.map_cons, D.pyL, List.any_cons, ih]
      obtain ⟨a, b⟩ := p
      simp only [kD, D.py, D.pyL, PyData.eqv, PyData.eqvAll, List.mem_cons, Prod.mk.injEq, Bool.decide_or, Bool.decide_and, Bool.and_true]
      congr 1
      by_cases e1 : a = nm
      · by_cases e2 : b = m
        · simp [e1, e2]
        · have e2' : ¬ m = b := fun z => e2 z.symm
          simp [e1, e2, e2']
      · have e1' : ¬ nm = a := fun z => e1 z.symm
        simp [e1, e1']
  unfold evIn
  have h0 : (D.tup [.str nm, .int m]).py.plain = true := rfl
  simp only [h0, hp, Bool.true_and, decide_eq_true (Nat.le_trans (Nat.min_le_right _ _) hdp), okIf, if_true, hx, notR, R.bind_ok]
theorem law_fits_ok (h63 : Ps 63 = some f_law_fits) (ks : List (Str × Int)) (hd : (ks.map (·.1)).Nodup) (st ki : Int) : ∀ (n : Nat) (t : Pz), t.ok → t.high ≤ n → runD su Ps n 63 [t.d, .tup (ks.map kD), .int st, .int ki] = .ok (.bl (t.fits ks st ki)) []
  | 0, t, _, h => by have : 1 ≤ t.high := (by cases t <;> simp [Pz.high]); omega
  | n + 1, .call a b, _, _ => by
    rw [runD_eq h63 rfl]
    by_cases c1 : 0 ≤ a <;> by_cases c2 : a < st <;> by_cases c3 : 0 ≤ b <;> by_cases c4 : b < ki <;> simp [f_law_fits, startR, Pz.d, Pz.fits, c1, c2, c3, c4]
  | n + 1, .mk nm us, ho, hn => by
    rw [Pz.ok] at ho
    rw [Pz.high] at hn
    rw [Pz.d_mk, Pz.fits]
    have hl := ho.2.1
    have hin := manyOf_iff (ks := ks) (nm := nm) (m := us.length) hd (by omega)
    have hni := pr_notin_kinds (ks := ks) (nm := nm) (m := us.length)
    refine (ret_of h63 rfl rfl ?_).eq
    by_cases e : manyOf ks nm = us.length
    · rw [decide_eq_true (hin.mpr e)] at hni
      simp (disch := first | assumption | omega | (simp <;> omega) | fail) [f_law_fits, startR, ho.1, hni, e]
      rw [comp_run us Pz.d (fun u => .bl (u.fits ks st ki)) (by omega) (by simp) (fun u hu => by
        have b1 := Pz.high_mem hu
        have ih := law_fits_ok h63 ks hd st ki n u (Pz.ok_mem ho.2.2 hu) (by omega)
        simp (disch := first | assumption | omega | (simp <;> omega) | fail) [cmpB, wipeR, ih])]
      have := pr_all (us.map (Pz.fits ks st ki))
      rw [List.map_map] at this
      simp only [Function.comp_def] at this
      simp (disch := first | assumption | omega | (simp <;> omega) | fail) [this, Pz.fitsL_all]
    · rw [decide_eq_false (fun h => e (hin.mp h))] at hni
      simp (disch := first | assumption | omega | (simp <;> omega) | fail) [f_law_fits, startR, ho.1, hni, e]
end
end Bk

/-! E12: what stands at places. -/
namespace Bk
open PySem
def Tr.kids : Tr → List Tr
  | .mk _ us => us
/-- what stands there -/
def Tr.at : Tr → List Int → Option Tr
  | t, [] => some t
  | t, k :: p => if 0 ≤ k then (match t.kids[k.toNat]? with | some u => u.at p | none => none) else none
def wD (x : List Int × Tr) : D := .tup [pD x.1, x.2.d]
mutual
def Tr.walk : Tr → List Int → List (List Int × Tr)
  | .mk nm us, p => (p, .mk nm us) :: Tr.walkL 0 us p
def Tr.walkL : Nat → List Tr → List Int → List (List Int × Tr)
  | _, [], _ => []
  | k, u :: us, p => u.walk (p ++ [(k : Int)]) ++ Tr.walkL (k + 1) us p
end
mutual
theorem Tr.walk_fst : ∀ (t : Tr) (p : List Int), (t.walk p).map (·.1) = t.places.map (fun q => p ++ q)
  | .mk nm us, p => by
    unfold Tr.walk Tr.places
    rw [List.map_cons, List.map_cons, List.append_nil, Tr.walkL_fst us 0 p]
theorem Tr.walkL_fst : ∀ (us : List Tr) (k : Nat) (p : List Int), (Tr.walkL k us p).map (·.1) = (Tr.placesL k us).map (fun q => p ++ q)
  | [], _, _ => by simp [Tr.walkL, Tr.placesL]
  | u :: us, k, p => by
    unfold Tr.walkL Tr.placesL
    rw [List.map_append, List.map_append, Tr.walk_fst u _, Tr.walkL_fst us (k + 1) p, List.map_map]
    congr 1
    apply List.map_congr_left
    intro q _
    simp
end
mutual
theorem Tr.walk_at : ∀ (t : Tr) (p : List Int) (x : List Int × Tr), x ∈ t.walk p → ∃ r, x.1 = p ++ r ∧ t.at r = some x.2
  | .mk nm us, p, x, h => by
    unfold Tr.walk at h
    rcases List.mem_cons.mp h with rfl | h
    · exact ⟨[], by simp, rfl⟩
    · obtain ⟨j, u, r, h1, h2, h3⟩ := Tr.walkL_at us 0 p x h
      refine ⟨(j : Int) :: r, ?_, ?_⟩
      · rw [h2, Nat.zero_add]
      · unfold Tr.at
        rw [if_pos (by omega)]
        show (match us[(j : Int).toNat]? with | some u => u.at r | none => none) = _
        rw [Int.toNat_natCast, h1]
        exact h3
theorem Tr.walkL_at : ∀ (us : List Tr) (k : Nat) (p : List Int) (x : List Int × Tr), x ∈ Tr.walkL k us p → ∃ (j : Nat) (u : Tr) (r : List Int), us[j]? = some u ∧ x.1 = p ++ ((k + j : Nat) : Int) :: r ∧ u.at r = some x.2
  | [], _, _, _, h => by unfold Tr.walkL at h; cases h
  | u :: us, k, p, x, h => by
    unfold Tr.walkL at h
    rcases List.mem_append.mp h with h | h
    · obtain ⟨r, h1, h2⟩ := Tr.walk_at u _ x h
      exact ⟨0, u, r, rfl, by rw [h1]; simp, h2⟩
    · obtain ⟨j, v, r, h1, h2, h3⟩ := Tr.walkL_at us (k + 1) p x h
      exact ⟨j + 1, v, r, by simpa using h1, by rw [h2, show k + 1 + j = k + (j + 1) by omega], h3⟩
end
theorem Tr.at_le : ∀ {p : List Int} {t u : Tr}, t.at p = some u → u.high ≤ t.high ∧ u.many ≤ t.many
  | [], t, u, h => by cases h; omega
  | k :: p, .mk nm us, u, h => by
    unfold Tr.at at h
    split at h
    · split at h
      · rename_i v hv
        have hm := List.mem_of_getElem? (show us[k.toNat]? = some v from hv)
        have h1 := Tr.at_le h
        have h2 := Tr.high_mem hm
        have h3 := Tr.many_mem hm
        have h4 : (Tr.mk nm us).high = 1 + Tr.highL us := by rw [Tr.high]
        have h5 : (Tr.mk nm us).many = 1 + Tr.manyL us := by rw [Tr.many]
        omega
      · cases h
    · cases h
mutual
theorem Tr.walk_len : ∀ (t : Tr) (p : List Int), (t.walk p).length = t.many
  | .mk nm us, p => by
    unfold Tr.walk Tr.many
    rw [List.length_cons, Tr.walkL_len us 0 p]
    omega
theorem Tr.walkL_len : ∀ (us : List Tr) (k : Nat) (p : List Int), (Tr.walkL k us p).length = Tr.manyL us
  | [], _, _ => rfl
  | u :: us, k, p => by
    unfold Tr.walkL Tr.manyL
    rw [List.length_append, Tr.walk_len u _, Tr.walkL_len us (k + 1) p]
end
theorem Tr.walkL_snoc (u : Tr) : ∀ (us : List Tr) (k : Nat) (p : List Int), Tr.walkL k (us ++ [u]) p = Tr.walkL k us p ++ u.walk (p ++ [((k + us.length : Nat) : Int)])
  | [], k, p => by simp [Tr.walkL]
  | v :: us, k, p => by
    rw [List.cons_append]
    unfold Tr.walkL
    rw [Tr.walkL_snoc u us (k + 1) p, List.append_assoc, List.length_cons, show k + 1 + us.length = k + (us.length + 1) by omega]
end Bk

/-! E13: knots counted, trees put, ways drawn. -/
namespace Bk
open PySem
theorem plainAll_ints : ∀ p : List Int, PyData.plainAll (D.pyL (p.map D.int)) = true
  | [] => rfl
  | x :: p => by
    have := plainAll_ints p
    simp only [List.map_cons, D.pyL, PyData.plainAll, D.py, PyData.plain, this, Bool.and_self]
theorem pD_eq0 (p : List Int) : evPrim .eq [pD p, .tup []] = .ok (.bl (decide (p = []))) := by
  show eqD (pD p) (.tup []) = _
  unfold eqD
  have h1 : (pD p).py.plain = true := by
    show PyData.plainAll (D.pyL (p.map D.int)) = true
    exact plainAll_ints p
  have h2 : (D.tup []).py.plain = true := rfl
  have h3 : decide (min (pD p).py.depth (D.tup []).py.depth ≤ 160) = true := decide_eq_true (Nat.le_trans (Nat.min_le_right _ _) (by decide))
  rw [h1, h2, h3]
  cases p with
  | nil => rfl
  | cons x p =>
    have : PyData.eqv (pD (x :: p)).py (D.tup []).py = false := by
      show PyData.eqv (.tuple _) (.tuple []) = false
      simp [PyData.eqv, D.pyL, PyData.eqvAll]
    rw [if_pos (by rfl), this]
    rfl
theorem pr_slc_tto {xs : List D} {j : Nat} : evPrim (.slc false true) [.tup xs, .int j] = .ok (.tup (xs.take j)) := by
  show R.ok (D.tup (cutD xs none (some (j : Int)))) = _
  unfold cutD
  rw [HT.sIx_none, show HT.sIx xs.length xs.length (some (j : Int)) = min j xs.length from HT.sIx_nat _ _ _, List.drop_zero, Nat.sub_zero]
  by_cases h : j ≤ xs.length
  · rw [Nat.min_eq_left h]
  · rw [Nat.min_eq_right (by omega), List.take_of_length_le (Nat.le_refl _), List.take_of_length_le (by omega)]
theorem pr_slc_tfrom {xs : List D} {k : Nat} : evPrim (.slc true false) [.tup xs, .int k] = .ok (.tup (xs.drop k)) := by
  show R.ok (D.tup (cutD xs (some (k : Int)) none)) = _
  unfold cutD
  rw [show HT.sIx xs.length 0 (some (k : Int)) = min k xs.length from HT.sIx_nat _ _ _, HT.sIx_none]
  by_cases h : k ≤ xs.length
  · rw [Nat.min_eq_left h, List.take_of_length_le (by rw [List.length_drop]; exact Nat.le_refl _)]
  · rw [Nat.min_eq_right (by omega), List.drop_length, List.drop_eq_nil_of_le (by omega)]
    simp
def Tr.put : Tr → List Int → Tr → Tr
  | _, [], o => o
  | .mk nm us, k :: p, o => match us[k.toNat]? with
    | some u => .mk nm (us.set k.toNat (u.put p o))
    | none => .mk nm us
theorem set_split {α : Type} {x : α} : ∀ {l : List α} {i : Nat}, i < l.length → l.take i ++ x :: l.drop (i + 1) = l.set i x
  | [], i, h => by simp at h
  | a :: l, 0, h => by simp
  | a :: l, i + 1, h => by
    have := set_split (x := x) (l := l) (i := i) (by simpa using h)
    simp [this]
end Bk

/-! H8: a kid more or less. -/
namespace Bk
open PySem
theorem pr_slc_init {xs : List D} (h : xs ≠ []) : evPrim (.slc false true) [.tup xs, .int (-1)] = .ok (.tup xs.dropLast) := by
  have hl : 0 < xs.length := List.length_pos_iff.mpr h
  show R.ok (D.tup (cutD xs none (some (-1)))) = _
  unfold cutD
  rw [HT.sIx_none, List.drop_zero, Nat.sub_zero]
  have : HT.sIx xs.length xs.length (some (-1)) = xs.length - 1 := by
    show (if (-1 : Int) < 0 then ((-1 : Int) + (xs.length : Int)).toNat else min (-1 : Int).toNat xs.length) = _
    rw [if_pos (by decide)]
    omega
  rw [this, List.dropLast_eq_take]
def qqq : Th := .mk (Str.ofString "qqq") []
def Th.more : Nat → Th → Int → Th
  | n + 1, .mk nm us, c =>
    if 0 < us.length ∧ 0 < c % 3 then (match us[(c / 3 % (us.length : Int)).toNat]? with
      | some u => .mk nm (us.set (c / 3 % (us.length : Int)).toNat (Th.more n u (c / 11)))
      | none => .mk nm us)
    else if c / 3 % 2 = 0 ∨ us.length = 0 then .mk nm (us ++ [qqq]) else .mk nm us.dropLast
  | _, t, _ => t
section
variable {su : Subs} {Ps : Nat → Option Df}
theorem more_ok (h43 : Ps 43 = some f_law_more) : ∀ (n : Nat) (t : Th) (c : Int), t.ok → t ≠ .hole → (∀ nm us, t = .mk nm us → ∃ p : Pt, p.th = t) → t.high ≤ n → 0 ≤ c → runD su Ps n 43 [t.d, .int c] = .ok (Th.more n t c).d []
  | 0, t, _, _, _, _, h, _ => by cases t <;> simp [Th.high] at h
  | n + 1, .hole, _, _, h, _, _, _ => absurd rfl h
  | n + 1, .call q k, c, _, _, _, _, h0 => by
    rw [runD_eq h43 rfl]
    simp [f_law_more, startR, Th.more, Th.d]
  | n + 1, .mk nm us, c, hf, _, hpt, hn, h0 => by
    rw [Th.ok] at hf
    rw [Th.high] at hn
    have hlen := hf.2.2.1
    have td : (Th.mk nm us).d = .tup (.str nm :: us.map Th.d) := by simp [Th.d, Th.dL_map]
    obtain ⟨p, hp⟩ := hpt nm us rfl
    have hpts : ∀ u ∈ us, ∃ p : Pt, p.th = u := by
      cases p with
      | call q k => simp [Pt.th] at hp
      | mk nm' ps =>
        simp only [Pt.th, Th.mk.injEq] at hp
        obtain ⟨_, rfl⟩ := hp
        have : ∀ ps : List Pt, ∀ u ∈ Pt.thL ps, ∃ p : Pt, p.th = u := by
          intro ps
          induction ps with
          | nil => intro u hu; simp [Pt.thL] at hu
          | cons q ps ih =>
            intro u hu
            rw [Pt.thL] at hu
            rcases List.mem_cons.mp hu with rfl | hu
            · exact ⟨q, rfl⟩
            · exact ih u hu
        exact this ps
    rw [runD_eq h43 rfl, td]
    by_cases c1 : 0 < us.length ∧ 0 < c % 3
    · have e0 : 0 ≤ c / 3 % (us.length : Int) := Int.emod_nonneg _ (by omega)
      have e1 : c / 3 % (us.length : Int) < us.length := Int.emod_lt_of_pos _ (by omega)
      obtain ⟨j, hj⟩ : ∃ j : Nat, c / 3 % (us.length : Int) = (j : Nat) := ⟨_, (Int.toNat_of_nonneg e0).symm⟩
      have hjl : j < us.length := by omega
      have hmem := List.getElem_mem hjl
      obtain ⟨pi, hpi⟩ := hpts us[j] hmem
      have b1 := Th.high_mem hmem
      have ih := more_ok h43 n us[j] (c / 11) (Th.ok_mem hf.2.2.2 hmem) (by rw [← hpi]; cases pi <;> simp [Pt.th]) (fun _ _ _ => ⟨pi, hpi⟩) (by omega) (by omega)
      have hm : Th.more (n + 1) (.mk nm us) c = .mk nm (us.set j (Th.more n us[j] (c / 11))) := by
        rw [Th.more, if_pos c1, hj, Int.toNat_natCast, List.getElem?_eq_getElem hjl]
      rw [hm]
      have td2 : (Th.mk nm (us.set j (Th.more n us[j] (c / 11)))).d = .tup (.str nm :: ((us.map Th.d).take j ++ (Th.more n us[j] (c / 11)).d :: (us.map Th.d).drop (j + 1))) := by
        rw [set_split (by rw [List.length_map]; exact hjl), ← List.map_set]
        simp [Th.d, Th.dL_map]
      rw [td2]
      have hx : evPrim .idx [.tup (.str nm :: us.map Th.d), .int (1 + (j : Nat))] = .ok us[j].d := pr_idx_tup (by omega) (by
        rw [show (1 + (j : Nat) : Int).toNat = j + 1 by omega, List.getElem?_cons_succ, List.getElem?_map, List.getElem?_eq_getElem hjl]
        rfl)
      have s1 := pr_slc_tto (xs := .str nm :: us.map Th.d) (j := j + 1)
      have s2 := pr_slc_tfrom (xs := .str nm :: us.map Th.d) (k := j + 2)
      rw [show ((j + 1 : Nat) : Int) = 1 + (j : Int) by omega, List.take_succ_cons] at s1
      rw [show ((j + 2 : Nat) : Int) = 1 + (j : Int) + 1 by omega, List.drop_succ_cons] at s2
      have l1 : ((us.map Th.d).take j).length ≤ 100000 := by rw [List.length_take, List.length_map]; omega
      have l2 : ((us.map Th.d).drop (j + 1)).length ≤ 100000 := by rw [List.length_drop, List.length_map]; omega
      have d1 : (1 : Int) < (us.length : Int) + 1 := by omega
      have d2 := c1.2
      generalize (us.map Th.d).take j = A at *
      generalize (us.map Th.d).drop (j + 1) = B at *
      simp (disch := first | assumption | omega | (simp <;> omega) | fail) [f_law_more, startR, hf.1, d1, d2, hj, hx, ih, s1, s2]
    · have hcond : ¬ ((1 : Int) < (us.length : Int) + 1 ∧ 0 < c % 3) := fun z => c1 ⟨by omega, z.2⟩
      by_cases c2 : c / 3 % 2 = 0 ∨ us.length = 0
      · have hm : Th.more (n + 1) (.mk nm us) c = .mk nm (us ++ [qqq]) := by rw [Th.more, if_neg c1, if_pos c2]
        have td2 : (Th.mk nm (us ++ [qqq])).d = .tup (.str nm :: (us.map Th.d ++ [.tup [.str (Str.ofString "qqq")]])) := by simp [Th.d, Th.dL_map, qqq, Th.dL]
        rw [hm, td2]
        have l1 : (us.map Th.d).length = us.length := List.length_map _
        by_cases d1 : (1 : Int) < (us.length : Int) + 1
        · have d2 : ¬ 0 < c % 3 := fun z => hcond ⟨d1, z⟩
          have d3 : ¬ (us.length : Int) + 1 = 1 := by omega
          have d4 : us.length ≠ 0 := by omega
          have d5 : c / 3 % 2 = 0 := by omega
          simp (disch := first | assumption | omega | (simp <;> omega) | fail) [f_law_more, startR, hf.1, d1, d2, d5]
        · have d3 : us = [] := List.eq_nil_of_length_eq_zero (by omega)
          subst d3
          by_cases d5 : c / 3 % 2 = 0
          · simp [f_law_more, startR, hf.1, d5]
          · simp [f_law_more, startR, hf.1, d5]
      · have hm : Th.more (n + 1) (.mk nm us) c = .mk nm us.dropLast := by rw [Th.more, if_neg c1, if_neg c2]
        have d1 : (1 : Int) < (us.length : Int) + 1 := by omega
        have d2 : ¬ 0 < c % 3 := fun z => hcond ⟨d1, z⟩
        have d4 : us ≠ [] := fun z => by rw [z] at d1; simp at d1
        have d5 : ¬ c / 3 % 2 = 0 := by omega
        have d6 : ¬ (us.length : Int) + 1 = 1 := by omega
        have td2 : (Th.mk nm us.dropLast).d = .tup (.str nm :: us.map Th.d).dropLast := by
          rw [List.dropLast_cons_of_ne_nil (by simpa using d4)]
          simp [Th.d, Th.dL_map]
        have s1 := pr_slc_init (xs := .str nm :: us.map Th.d) (by simp)
        rw [hm, td2]
        generalize (D.str nm :: us.map Th.d).dropLast = A at *
        simp (disch := first | assumption | omega | (simp <;> omega) | fail) [f_law_more, startR, hf.1, d1, d2, d5, d6, s1]
end
end Bk

/-! Z2: knots_of, tall_of; what k10 spoils; its pile. -/
namespace Bk
open PySem
mutual
def Th.knots : Th → Nat
  | .mk _ us => 1 + Th.knotsL us
  | _ => 0
def Th.knotsL : List Th → Nat
  | [] => 0
  | u :: us => u.knots + Th.knotsL us
end
theorem Th.knotsL_sum : ∀ us : List Th, (us.map fun u => (u.knots : Int)).sum = (Th.knotsL us : Int)
  | [] => rfl
  | u :: us => by
    have := Th.knotsL_sum us
    rw [Th.knotsL]
    simp only [List.map_cons, List.sum_cons, this]
    omega
theorem Th.highL_max (t : Th) (ts : List Th) : maxOf t.high (ts.map fun t => (t.high : Int)) = (Th.highL (t :: ts) : Int) := by
  have up : ∀ (us : List Th) (b : Int), (∀ x ∈ us, (x.high : Int) ≤ b) → 0 ≤ b → ((Th.highL us : Nat) : Int) ≤ b := by
    intro us
    induction us with
    | nil => intro b _ h; simpa [Th.highL] using h
    | cons u us ih =>
      intro b h h0
      rw [Th.highL]
      have h1 := h u List.mem_cons_self
      have h2 := ih b (fun x hx => h x (List.mem_cons_of_mem _ hx)) h0
      omega
  have h1 : maxOf t.high (ts.map fun t => (t.high : Int)) ≤ (Th.highL (t :: ts) : Int) := maxOf_le _ _ _ (by have := Th.high_mem (ts := t :: ts) List.mem_cons_self; omega) fun x hx => by
    obtain ⟨u, hu, rfl⟩ := List.mem_map.mp hx
    have := Th.high_mem (ts := t :: ts) (List.mem_cons_of_mem _ hu)
    omega
  obtain ⟨h2, h3⟩ := le_maxOf (ts.map fun t => (t.high : Int)) t.high
  have h4 := up (t :: ts) (maxOf t.high (ts.map fun t => (t.high : Int))) (fun x hx => by
    rcases List.mem_cons.mp hx with rfl | hx
    · exact h2
    · exact h3 _ (List.mem_map.mpr ⟨x, hx, rfl⟩)) (by omega)
  omega
mutual
theorem Pt.th_knots : ∀ t : Pt, t.th.knots = t.many
  | .call q k => by simp [Pt.th, Th.knots, Pt.many]
  | .mk nm us => by simp [Pt.th, Th.knots, Pt.many, Pt.thL_knots us]
theorem Pt.thL_knots : ∀ us : List Pt, Th.knotsL (Pt.thL us) = Pt.manyL us
  | [] => by simp [Pt.thL, Th.knotsL, Pt.manyL]
  | u :: us => by simp [Pt.thL, Th.knotsL, Pt.manyL, Pt.th_knots u, Pt.thL_knots us]
end
section
variable {su : Subs} {Ps : Nat → Option Df}
theorem knots_of_ok (h35 : Ps 35 = some f_is_knot) (h56 : Ps 56 = some f_knots_of) : ∀ (n : Nat) (t : Th), t.ok → t.high + 1 ≤ n → runD su Ps n 56 [t.d] = .ok (.int (t.knots : Nat)) []
  | 0, t, _, h => by omega
  | 1, t, _, h => by have := Th.high_pos t; omega
  | n + 2, .hole, ho, _ => by
    have hk := is_knot_ok (su := su) h35 n .hole ho
    rw [runD_eq h56 rfl]
    rw [Th.d] at hk ⊢
    simp [f_knots_of, startR, hk, Th.isMk, Th.knots]
  | n + 2, .call q k, ho, _ => by
    have hk := is_knot_ok (su := su) h35 n (.call q k) ho
    rw [runD_eq h56 rfl]
    rw [Th.d] at hk ⊢
    simp [f_knots_of, startR, hk, Th.isMk, Th.knots]
  | n + 2, .mk nm us, ho, hn => by
    have hk := is_knot_ok (su := su) h35 n (.mk nm us) ho
    rw [Th.ok] at ho
    rw [Th.high] at hn
    rw [Th.d_mk] at hk ⊢
    rw [Th.knots]
    have hl := ho.2.2.1
    have hs := pr_sum_map Th.knots Th.knotsL rfl (fun u us => by rw [Th.knotsL]) us
    refine (ret_of h56 rfl rfl ?_).eq
    simp (disch := first | assumption | omega | (simp <;> omega) | fail) [f_knots_of, startR, hk, Th.isMk]
    rw [comp_run us Th.d (fun u => .int (u.knots : Nat)) (by omega) (by simp) (fun u hu => by
      have b1 := Th.high_mem hu
      have ih := knots_of_ok h35 h56 (n + 1) u (Th.ok_mem ho.2.2.2 hu) (by omega)
      simp (disch := first | assumption | omega | (simp <;> omega) | fail) [cmpB, wipeR, ih])]
    simp (disch := first | assumption | omega | (simp <;> omega) | fail) [hs]
theorem tall_of_ok (h35 : Ps 35 = some f_is_knot) (h57 : Ps 57 = some f_tall_of) : ∀ (n : Nat) (t : Th), t.ok → t.high + 1 ≤ n → runD su Ps n 57 [t.d] = .ok (.int (t.high : Nat)) []
  | 0, t, _, h => by omega
  | 1, t, _, h => by have := Th.high_pos t; omega
  | n + 2, .hole, ho, _ => by
    have hk := is_knot_ok (su := su) h35 n .hole ho
    rw [runD_eq h57 rfl]
    rw [Th.d] at hk ⊢
    simp [f_tall_of, startR, hk, Th.isMk, Th.high]
  | n + 2, .call q k, ho, _ => by
    have hk := is_knot_ok (su := su) h35 n (.call q k) ho
    rw [runD_eq h57 rfl]
    rw [Th.d] at hk ⊢
    simp [f_tall_of, startR, hk, Th.isMk, Th.high]
  | n + 2, .mk nm us, ho, hn => by
    have hk := is_knot_ok (su := su) h35 n (.mk nm us) ho
    rw [Th.ok] at ho
    rw [Th.high] at hn
    rw [Th.d_mk] at hk ⊢
    rw [Th.high]
    have hl := ho.2.2.1
    have hs := pr_maxd_map Th.high Th.highL rfl (fun u us => by rw [Th.highL]) us
    refine (ret_of h57 rfl rfl ?_).eq
    simp (disch := first | assumption | omega | (simp <;> omega) | fail) [f_tall_of, startR, hk, Th.isMk]
    rw [comp_run us Th.d (fun u => .int (u.high : Nat)) (by omega) (by simp) (fun u hu => by
      have b1 := Th.high_mem hu
      have ih := tall_of_ok h35 h57 (n + 1) u (Th.ok_mem ho.2.2.2 hu) (by omega)
      simp (disch := first | assumption | omega | (simp <;> omega) | fail) [cmpB, wipeR, ih])]
    simp (disch := first | assumption | omega | (simp <;> omega) | fail) [hs]
theorem law_whole_ok (h58 : Ps 58 = some f_law_whole) (n : Nat) (i : Int) : runD su Ps (n + 1) 58 [.int i] = .ok (.bl true) [] := by
  rw [runD_eq h58 rfl]
  simp [f_law_whole, startR, isTy, ofOpt]
theorem law_told_ok (h54 : Ps 54 = some f_many_of) (h55 : Ps 55 = some f_fits_pattern) (h64 : Ps 64 = some f_law_told) (ks : List (Str × Int)) (n : Nat) (t : Pz) (st ki : Int) (due : Bool) (ho : t.ok) (hh : t.high + 1 ≤ n) : runD su Ps (n + 1) 64 [.tup (ks.map kD), t.d, .int st, .int ki, .bl due] = .ok (.bl (t.fits ks st ki == due)) [] := by
  have hf := fits_pattern_ok (su := su) h54 h55 ks st ki n t ho hh
  rw [runD_eq h64 rfl]
  simp [f_law_told, startR, isTy, ofOpt, hf]
theorem set_app {α : Type} {xs : List α} {j : Nat} (h : j < xs.length) (y : α) : xs.take j ++ y :: xs.drop (j + 1) = xs.set j y := by
  apply List.ext_getElem?
  intro i
  by_cases e : j = i
  · subst e
    rw [List.getElem?_set_self h, List.getElem?_append_right (by rw [List.length_take]; omega), List.length_take, Nat.min_eq_left (by omega), Nat.sub_self]
    rfl
  · rw [List.getElem?_set_ne e]
    by_cases h2 : i < j
    · rw [List.getElem?_append_left (by rw [List.length_take]; omega), List.getElem?_take_of_lt h2]
    · rw [List.getElem?_append_right (by rw [List.length_take]; omega), List.length_take, Nat.min_eq_left (by omega)]
      obtain ⟨m, hm⟩ : ∃ m, i - j = m + 1 := ⟨i - j - 1, by omega⟩
      rw [hm, List.getElem?_cons_succ, List.getElem?_drop, show j + 1 + m = i by omega]
theorem spoiled_ok (h62 : Ps 62 = some f_law_spoiled) {ks : List (Str × Int)} (K : KsOk ks) : ∀ (n : Nat) (t : Pt) (c : Int), t.kin ks → t.high ≤ n → 0 ≤ c → ∃ z : Pz, z.ok ∧ z.high ≤ t.high + 1 ∧ runD su Ps n 62 [t.d, .int c, .tup (ks.map kD)] = .ok z.d []
  | 0, t, _, _, h, _ => by have : 1 ≤ t.high := (by cases t <;> simp [Pt.high]); omega
  | n + 1, .call q k, c, _, _, h0 => by
    have m0 := Int.emod_nonneg (c / 3) (show (4 : Int) ≠ 0 by decide)
    have m1 := Int.emod_lt_of_pos (c / 3) (show (0 : Int) < 4 by decide)
    have e20 : evPrim .pow [.int 10, .int 20] = .ok (.int (10 ^ 20)) := by rw [pr_pow _ _ (by decide) (by decide) (by decide)]; rfl
    obtain ⟨j, hj⟩ : ∃ j : Nat, c / 3 % 4 = (j : Nat) := ⟨_, (Int.toNat_of_nonneg m0).symm⟩
    obtain ⟨a, ha⟩ : ∃ a, [1, 100000000000000000000, -21, (0 : Int)][j]? = some a := ⟨_, List.getElem?_eq_getElem (by simp; omega)⟩
    obtain ⟨b, hb⟩ : ∃ b, [0, 0, 0, (3 : Int)][j]? = some b := ⟨_, List.getElem?_eq_getElem (by simp; omega)⟩
    have x1 : evPrim .idx [.lst [.int 1, .int 100000000000000000000, .int (-21), .int 0], .int (j : Nat)] = .ok (.int a) := idxl_get rfl (by
      have := congrArg (Option.map D.int) ha
      rw [← List.getElem?_map] at this
      exact this)
    have x2 : evPrim .idx [.lst [.int 0, .int 0, .int 0, .int 3], .int (j : Nat)] = .ok (.int b) := idxl_get rfl (by
      have := congrArg (Option.map D.int) hb
      rw [← List.getElem?_map] at this
      exact this)
    refine ⟨.call (q + a) (k + b), by simp [Pz.ok], by simp [Pz.high], ?_⟩
    rw [runD_eq h62 rfl]
    simp (disch := first | assumption | omega | (simp <;> omega) | fail) [f_law_spoiled, startR, Pt.d, Pz.d, hj, x1, x2]
  | n + 1, .mk nm us, c, hk, hn, h0 => by
    have hz := Pt.z_ok K _ hk
    have hzh := Pt.z_high (.mk nm us)
    rw [Pt.kin] at hk
    rw [Pt.high] at hn
    have h4 : (us.length : Int) ≤ 3 := K.hi _ hk.1
    have hq := K.q _ hk.1
    have td : (Pt.mk nm us).d = .tup (.str nm :: us.map Pt.d) := by simp [Pt.d, Pt.dL_map]
    rw [Pt.z, Pz.ok, Pt.zL_map] at hz
    rw [Pt.z, Pz.high, Pt.zL_map] at hzh
    have hd : ∀ u, (Pz.d ∘ Pt.z) u = Pt.d u := fun u => Pt.z_d u
    have hud : us.map Pt.d = (us.map Pt.z).map Pz.d := by rw [List.map_map]; exact List.map_congr_left fun u _ => (hd u).symm
    rw [runD_eq h62 rfl, td]
    by_cases c1 : 0 < us.length ∧ 0 < c % 3
    · have e0 : 0 ≤ c / 3 % (us.length : Int) := Int.emod_nonneg _ (by omega)
      have e1 : c / 3 % (us.length : Int) < us.length := Int.emod_lt_of_pos _ (by omega)
      obtain ⟨j, hj⟩ : ∃ j : Nat, c / 3 % (us.length : Int) = (j : Nat) := ⟨_, (Int.toNat_of_nonneg e0).symm⟩
      have hjl : j < us.length := by omega
      have hmem := List.getElem_mem hjl
      have b1 := Pt.high_mem hmem
      obtain ⟨z, zo, zh, ih⟩ := spoiled_ok h62 K n us[j] (c / 11) (Pt.kin_mem hk.2 hmem) (by omega) (by omega)
      refine ⟨.mk nm ((us.map Pt.z).set j z), ?_, ?_, ?_⟩
      · rw [Pz.ok]
        refine ⟨hz.1, by rw [List.length_set]; exact hz.2.1, Pz.okL_of fun v hv => ?_⟩
        rcases List.mem_or_eq_of_mem_set hv with hv | rfl
        · exact Pz.ok_mem hz.2.2 hv
        · exact zo
      · rw [Pz.high, Pt.high]
        have : Pz.highL ((us.map Pt.z).set j z) ≤ Pt.highL us + 1 := Pz.highL_le fun v hv => by
          rcases List.mem_or_eq_of_mem_set hv with hv | rfl
          · obtain ⟨w, hw, rfl⟩ := List.mem_map.mp hv
            have := Pt.high_mem hw
            rw [Pt.z_high]; omega
          · omega
        omega
      · have td2 : (Pz.mk nm ((us.map Pt.z).set j z)).d = .tup (.str nm :: ((us.map Pt.d).take j ++ z.d :: (us.map Pt.d).drop (j + 1))) := by
          rw [Pz.d_mk, List.map_set, hud, set_app (by simpa using hjl)]
        rw [td2]
        have hx : evPrim .idx [.tup (.str nm :: us.map Pt.d), .int (1 + (j : Nat))] = .ok us[j].d := idx_get (j := j + 1) (by omega) (by
          rw [List.getElem?_cons_succ, List.getElem?_map, List.getElem?_eq_getElem hjl]; rfl)
        have s1 := pr_slc_tto (xs := .str nm :: us.map Pt.d) (j := j + 1)
        have s2 := pr_slc_tfrom (xs := .str nm :: us.map Pt.d) (k := j + 2)
        rw [show ((j + 1 : Nat) : Int) = 1 + (j : Int) by omega, List.take_succ_cons] at s1
        rw [show ((j + 2 : Nat) : Int) = 1 + (j : Int) + 1 by omega, List.drop_succ_cons] at s2
        have l1 : ((us.map Pt.d).take j).length ≤ 100000 := by rw [List.length_take, List.length_map]; omega
        have l2 : ((us.map Pt.d).drop (j + 1)).length ≤ 100000 := by rw [List.length_drop, List.length_map]; omega
        have d1 : (1 : Int) < (us.length : Int) + 1 := by omega
        have d2 := c1.2
        generalize (us.map Pt.d).take j = A at *
        generalize (us.map Pt.d).drop (j + 1) = B at *
        simp (disch := first | assumption | omega | (simp <;> omega) | fail) [f_law_spoiled, startR, hq, d1, d2, hj, hx, ih, s1, s2]
    · have m0 := Int.emod_nonneg (c / 3) (show (4 : Int) ≠ 0 by decide)
      have m1 := Int.emod_lt_of_pos (c / 3) (show (0 : Int) < 4 by decide)
      have hdd : (¬ (1 : Int) < (us.length : Int) + 1) ∨ ((1 : Int) < (us.length : Int) + 1 ∧ ¬ 0 < c % 3) := by
        by_cases d1 : (1 : Int) < (us.length : Int) + 1
        · exact .inr ⟨d1, fun z => c1 ⟨by omega, z⟩⟩
        · exact .inl d1
      have hcall : (Pz.call 0 0).d = .tup [.str (Str.ofString "?"), .int 0, .int 0] := by simp [Pz.d]
      obtain ⟨w, hw⟩ : ∃ w, w = c / 3 % 4 := ⟨_, rfl⟩
      rw [← hw] at m0 m1
      have hl1 : (us.map Pt.d).length ≤ 3 := by rw [List.length_map]; omega
      by_cases w0 : w = 0
      · refine ⟨.mk nm (us.map Pt.z ++ [.call 0 0]), ?_, ?_, ?_⟩
        · rw [Pz.ok]
          refine ⟨hz.1, by simp; omega, Pz.okL_of fun v hv => ?_⟩
          rcases List.mem_append.mp hv with hv | hv
          · exact Pz.ok_mem hz.2.2 hv
          · rw [List.mem_singleton.mp hv]; simp [Pz.ok]
        · rw [Pz.high, Pt.high]
          have : Pz.highL (us.map Pt.z ++ [.call 0 0]) ≤ Pt.highL us + 1 := Pz.highL_le fun v hv => by
            rcases List.mem_append.mp hv with hv | hv
            · obtain ⟨w, hw, rfl⟩ := List.mem_map.mp hv
              have := Pt.high_mem hw
              rw [Pt.z_high]; omega
            · rw [List.mem_singleton.mp hv]; simp [Pz.high]
          omega
        · rcases hdd with d1 | ⟨d1, d2⟩
          · first | (exfalso; omega) | (simp (disch := first | assumption | omega | (simp <;> omega) | fail) [f_law_spoiled, startR, d1, ← hw, w0, hq, Pz.d_mk, hcall, Pt.z_d])
          · first | (exfalso; omega) | (simp (disch := first | assumption | omega | (simp <;> omega) | fail) [f_law_spoiled, startR, d1, d2, ← hw, w0, hq, Pz.d_mk, hcall, Pt.z_d])
      · by_cases w1 : w = 1
        · by_cases d1 : (1 : Int) < (us.length : Int) + 1
          · have hne : us ≠ [] := fun z => by rw [z] at d1; simp at d1
            refine ⟨.mk nm (us.map Pt.z).dropLast, ?_, ?_, ?_⟩
            · rw [Pz.ok]
              exact ⟨hz.1, by rw [List.length_dropLast]; omega, Pz.okL_of fun v hv => Pz.ok_mem hz.2.2 ((List.dropLast_sublist _).subset hv)⟩
            · rw [Pz.high, Pt.high]
              have : Pz.highL (us.map Pt.z).dropLast ≤ Pt.highL us := Pz.highL_le fun v hv => by
                obtain ⟨w, hw, rfl⟩ := List.mem_map.mp ((List.dropLast_sublist _).subset hv)
                have := Pt.high_mem hw
                rw [Pt.z_high]; omega
              omega
            · have s1 := pr_slc_init (xs := .str nm :: us.map Pt.d) (by simp)
              rw [List.dropLast_cons_of_ne_nil (by simpa using hne)] at s1
              rw [Pz.d_mk, List.map_dropLast, ← hud]
              generalize (us.map Pt.d).dropLast = A at *
              rcases hdd with d1 | ⟨d1, d2⟩
              · first | (exfalso; omega) | (simp (disch := first | assumption | omega | (simp <;> omega) | fail) [f_law_spoiled, startR, d1, ← hw, w1, hq, s1, d1])
              · first | (exfalso; omega) | (simp (disch := first | assumption | omega | (simp <;> omega) | fail) [f_law_spoiled, startR, d1, d2, ← hw, w1, hq, s1, d1])
          · have d3 : us = [] := List.eq_nil_of_length_eq_zero (by omega)
            subst d3
            refine ⟨.mk (Str.ofString "qqqqqqqq") [], by rw [Pz.ok, Pz.okL]; exact ⟨by decide, by simp, trivial⟩, by simp [Pz.high, Pz.highL, Pt.high], ?_⟩
            rcases hdd with d1 | ⟨d1, d2⟩
            · first | (exfalso; omega) | (simp (disch := first | assumption | omega | (simp <;> omega) | fail) [f_law_spoiled, startR, d1, ← hw, w1, hq, Pz.d, Pz.dL])
            · first | (exfalso; omega) | (simp (disch := first | assumption | omega | (simp <;> omega) | fail) [f_law_spoiled, startR, d1, d2, ← hw, w1, hq, Pz.d, Pz.dL])
        · by_cases w2 : w = 2
          · have k0 := K.len
            have e0 : 0 ≤ c / 12 % (ks.length : Int) := Int.emod_nonneg _ (by omega)
            have e1 : c / 12 % (ks.length : Int) < ks.length := Int.emod_lt_of_pos _ (by omega)
            obtain ⟨j, hj⟩ : ∃ j : Nat, c / 12 % (ks.length : Int) = (j : Nat) := ⟨_, (Int.toNat_of_nonneg e0).symm⟩
            have hjl : j < ks.length := by omega
            have hx : evPrim .idx [.tup (ks.map kD), .int (j : Nat)] = .ok (kD ks[j]) := idx_get rfl (by rw [List.getElem?_map, List.getElem?_eq_getElem hjl]; rfl)
            refine ⟨.mk ks[j].1 (us.map Pt.z), ?_, ?_, ?_⟩
            · rw [Pz.ok]
              exact ⟨K.q _ (List.getElem_mem hjl), hz.2.1, hz.2.2⟩
            · rw [Pz.high, Pt.high, ← Pt.zL_map, Pt.zL_high]; omega
            · rcases hdd with d1 | ⟨d1, d2⟩
              · first | (exfalso; omega) | (simp (disch := first | assumption | omega | (simp <;> omega) | fail) [f_law_spoiled, startR, d1, ← hw, w2, hq, hj, hx, kD, Pz.d_mk, Pt.z_d])
              · first | (exfalso; omega) | (simp (disch := first | assumption | omega | (simp <;> omega) | fail) [f_law_spoiled, startR, d1, d2, ← hw, w2, hq, hj, hx, kD, Pz.d_mk, Pt.z_d])
          · refine ⟨.call 19 2, by simp [Pz.ok], by simp [Pz.high, Pt.high], ?_⟩
            rcases hdd with d1 | ⟨d1, d2⟩
            · first | (exfalso; omega) | (simp (disch := first | assumption | omega | (simp <;> omega) | fail) [f_law_spoiled, startR, d1, ← hw, w0, w1, w2, hq, Pz.d])
            · first | (exfalso; omega) | (simp (disch := first | assumption | omega | (simp <;> omega) | fail) [f_law_spoiled, startR, d1, d2, ← hw, w0, w1, w2, hq, Pz.d])
end
end Bk

/-! Z3: k10's pile. -/
namespace Bk
open PySem
def pT5 (t : Pt) : D := .tup [t.d, .int t.high, .int t.many, .int t.sts, .int t.kds]
theorem pT5_0 (t : Pt) : evPrim .idx [pT5 t, .int 0] = .ok t.d := pr_idx_t0 _ _
theorem pT5_1 (t : Pt) : evPrim .idx [pT5 t, .int 1] = .ok (.int t.high) := pr_idx_t1 _ _ _
theorem pT5_2 (t : Pt) : evPrim .idx [pT5 t, .int 2] = .ok (.int t.many) := pr_idx_t2 _ _ _ _
theorem pT5_3 (t : Pt) : evPrim .idx [pT5 t, .int 3] = .ok (.int t.sts) := pr_idx_t3 _ _ _ _ _
theorem pT5_4 (t : Pt) : evPrim .idx [pT5 t, .int 4] = .ok (.int t.kds) := pr_idx_tup (by decide) rfl
/-- names of kinds without kids -/
def lfOf (ks : List (Str × Int)) : List Str := (ks.filter fun y => decide (y.2 = 0)).map (·.1)
theorem lfOf_mem {ks : List (Str × Int)} : ∀ s ∈ lfOf ks, (s, 0) ∈ ks := fun s hs => by
  obtain ⟨p, hp, rfl⟩ := List.mem_map.mp hs
  obtain ⟨h1, h2⟩ := List.mem_filter.mp hp
  have h3 : p.2 = 0 := of_decide_eq_true h2
  rw [← h3]; exact h1
theorem lfOf_pos {ks : List (Str × Int)} (hz : ∃ s, (s, 0) ∈ ks) : 0 < (lfOf ks).length := by
  obtain ⟨s, hs⟩ := hz
  have : s ∈ lfOf ks := List.mem_map.mpr ⟨(s, 0), List.mem_filter.mpr ⟨hs, by simp⟩, rfl⟩
  exact List.length_pos_of_mem this
/-- [pair[0] for pair in kinds if pair[1] == 0] -/
theorem comp_leaves {q : En} {ρ σ : Rho} {ks : List (Str × Int)} (s : Nat) (hl : ks.length ≤ 8) (hs : s < ρ.length) :
    cmpRun2 q (.op .idx [.var s, .cst (.int 0)]) (.v s) (some (.op .eq [.op .idx [.var s, .cst (.int 1)], .cst (.int 0)])) σ (ks.map kD) (.ok (none, ρ)) = .ok (.lst ((lfOf ks).map D.str)) ρ := by
  rw [comp_runIf ks kD (fun p => if p.2 = 0 then some (.str p.1) else none) (by omega) (by simpa using hs) (fun p hp => by
    have e : (ρ.set s (.fz (kD p)))[s]? = some (.fz (kD p)) := List.getElem?_set_self hs
    have k0 : evPrim .idx [kD p, .int 0] = .ok (.str p.1) := pr_idx_t0 _ _
    have k1 : evPrim .idx [kD p, .int 1] = .ok (.int p.2) := pr_idx_t1 _ _ _
    by_cases hc : p.2 = 0 <;> simp [cmpI, wipeR, List.set_set, e, k0, k1, hc])]
  congr 2
  unfold lfOf
  clear hl
  induction ks with
  | nil => rfl
  | cons p ks ih =>
    by_cases e : p.2 = 0
    · simp [List.filterMap_cons, List.filter_cons, e, ih]
    · simp [List.filterMap_cons, List.filter_cons, e, ih]
section
variable {su : Subs} {Ps : Nat → Option Df}
theorem leaf5_ok (h60 : Ps 60 = some f_law_leaf_5) {ks : List (Str × Int)} (K : KsOk ks) (n : Nat) (c : Int) (hc : 0 ≤ c) : ∃ t : Pt, (t.kin ks ∧ t.high = 1 ∧ t.many ≤ 1) ∧ runD su Ps (n + 1) 60 [.tup (ks.map kD), .int c] = .ok (pT5 t) [] := by
  have hlf0 := lfOf_pos K.lf
  have cl := fun (q : En) (ρ σ : Rho) (h : 2 < ρ.length) => comp_leaves (q := q) (ρ := ρ) (σ := σ) (ks := ks) 2 K.len.2 h
  obtain ⟨lf, hlf⟩ : ∃ lf, lf = lfOf ks := ⟨_, rfl⟩
  have hlk := lfOf_mem (ks := ks)
  rw [← hlf] at hlf0 hlk cl
  rw [runD_eq h60 rfl]
  by_cases c1 : 0 < c % 3
  · obtain ⟨q, hq⟩ : ∃ q : Nat, c / 3 % 20 = (q : Nat) := ⟨_, (Int.toNat_of_nonneg (Int.emod_nonneg _ (by decide))).symm⟩
    obtain ⟨k, hk⟩ : ∃ k : Nat, c / 60 % 3 = (k : Nat) := ⟨_, (Int.toNat_of_nonneg (Int.emod_nonneg _ (by decide))).symm⟩
    refine ⟨.call q k, ⟨by rw [Pt.kin]; omega, by rw [Pt.high], by rw [Pt.many]; omega⟩, ?_⟩
    simp (disch := first | assumption | omega | (simp <;> omega) | fail) [f_law_leaf_5, startR, cl, c1, hq, hk, pT5, Pt.d, Pt.high, Pt.many, Pt.sts, Pt.kds]
  · have m1 := Int.emod_nonneg (c / 3) (show (lf.length : Int) ≠ 0 by omega)
    have m2 := Int.emod_lt_of_pos (c / 3) (show (0 : Int) < lf.length by omega)
    obtain ⟨s, hs⟩ : ∃ s, lf[(c / 3 % (lf.length : Int)).toNat]? = some s := ⟨_, List.getElem?_eq_getElem (show (c / 3 % (lf.length : Int)).toNat < lf.length by omega)⟩
    have hx : evPrim .idx [.lst (lf.map D.str), .int (c / 3 % (lf.length : Int))] = .ok (.str s) := pr_idx_lst m1 (by rw [List.getElem?_map, hs]; rfl)
    refine ⟨.mk s [], ⟨by rw [Pt.kin, Pt.kinL]; exact ⟨hlk s (List.mem_of_getElem? hs), trivial⟩, by rw [Pt.high, Pt.highL], by rw [Pt.many, Pt.manyL]; omega⟩, ?_⟩
    simp (disch := first | assumption | omega | (simp <;> omega) | fail) [f_law_leaf_5, startR, cl, c1, hx, pT5, Pt.d, Pt.dL, Pt.high, Pt.highL, Pt.many, Pt.manyL, Pt.sts, Pt.stsL, Pt.kds, Pt.kdsL]
theorem over5_ok (h59 : Ps 59 = some f_law_over_5) (n : Nat) (nm : Str) (ts : List Pt) (h0 : ts ≠ []) (hm : ts.length ≤ 1000) : runD su Ps (n + 1) 59 [.str nm, .lst (ts.map pT5)] = .ok (pT5 (.mk nm ts)) [] := by
  have g1 := pr_maxl_map Pt.high Pt.highL rfl (fun u us => by rw [Pt.highL]) h0
  have g2 := pr_sum_map Pt.many Pt.manyL rfl (fun u us => by rw [Pt.manyL]) ts
  have g3 := pr_maxl_map Pt.sts Pt.stsL rfl (fun u us => by rw [Pt.stsL]) h0
  have g4 := pr_maxl_map Pt.kds Pt.kdsL rfl (fun u us => by rw [Pt.kdsL]) h0
  have td : (Pt.mk nm ts).d = .tup (.str nm :: ts.map Pt.d) := by simp [Pt.d, Pt.dL_map]
  have fld : ∀ (j : Int) (g : Pt → D), (∀ t, evPrim .idx [pT5 t, .int j] = .ok (g t)) → ∀ (q : En) (ρ σ : Rho), 2 < ρ.length → cmpRun2 q (.op .idx [.var 2, .cst (.int j)]) (.v 2) none σ (ts.map pT5) (.ok (none, ρ)) = .ok (.lst (ts.map g)) ρ := fun j g hg q ρ σ hρ =>
    comp_run ts pT5 g (by omega) (by simpa using hρ) (fun t _ => by
      have e : (ρ.set 2 (.fz (pT5 t)))[2]? = some (.fz (pT5 t)) := List.getElem?_set_self hρ
      simp [cmpB, wipeR, List.set_set, e, hg])
  have f0 := fld 0 _ pT5_0
  have f1 := fld 1 _ pT5_1
  have f2 := fld 2 _ pT5_2
  have f3 := fld 3 _ pT5_3
  have f4 := fld 4 _ pT5_4
  rw [runD_eq h59 rfl]
  simp (disch := first | assumption | omega | (simp <;> omega) | fail) [f_law_over_5, startR, f0, f1, f2, f3, f4, g1, g2, g3, g4, pT5, td, Pt.high, Pt.many, Pt.sts, Pt.kds]
theorem pile5 (h59 : Ps 59 = some f_law_over_5) (h60 : Ps 60 = some f_law_leaf_5) (h61 : Ps 61 = some f_law_grown_5) {ks : List (Str × Int)} (K : KsOk ks) (n : Nat) (ns : List Int) (h : ns.length ≤ 63) (top most : Nat) (ht : 1 ≤ top) (hmo : 1 ≤ most ∧ most ≤ 200) :
    ∃ ts : List Pt, (∀ t ∈ ts, t.kin ks ∧ t.high ≤ top ∧ t.many ≤ most) ∧ ts.length ≤ 64 ∧ runD su Ps (n + 3) 61 [.scr ns, .tup (ks.map kD), .int top, .int most] = .ok (.lst (ts.map pT5)) [] := by
  have G : GrowP su Ps 60 59 ks top most pT5 Pt.high Pt.many (fun t => t.kin ks ∧ t.high ≤ top ∧ t.many ≤ most) :=
    { i1 := pT5_1
      i2 := pT5_2
      leaf := fun n c hc => by
        obtain ⟨t, ⟨a, b, c'⟩, e⟩ := leaf5_ok (su := su) h60 K n c hc
        exact ⟨t, ⟨a, by omega, by omega⟩, e⟩
      over := fun n nm m T hin hT h0 hg hh hs => by
        have kl : Pt.kinL ks T := Pt.kinL_of fun t ht => (hg t ht).1
        rw [Pt.manyL_sum1] at hs
        have h3 := K.hi _ hin
        have b1 := Pt.highL_le (b := top - 1) (ts := T) fun t ht => by have := hh t ht; omega
        refine ⟨.mk nm T, ⟨by rw [Pt.kin, hT]; exact ⟨hin, kl⟩, by rw [Pt.high]; omega, by rw [Pt.many]; omega⟩, over5_ok h59 n nm T h0 (by simp only at h3; omega)⟩ }
  have := K.len
  exact law_grownP_ok G (fun t ht => by omega) (g := 61) h61 (n + 1) ns h (by omega) (by omega) K.lo
end
end Bk

/-! E10p: what is compared with itself. -/
namespace Bk
open PySem
theorem tsi_plain : ∀ (n : Nat) (d : D), tsi n d → d.py.plain = true ∧ d.py.depth ≤ n
  | 0, _, h => h.elim
  | n + 1, .str s, _ => ⟨rfl, Nat.zero_le _⟩
  | n + 1, .int s, _ => ⟨rfl, Nat.zero_le _⟩
  | n + 1, .tup xs, h => by
    have hall : PyData.plainAll (D.pyL xs) = true ∧ PyData.depthAll (D.pyL xs) ≤ n := by
      have h2 := h.2
      clear h
      induction xs with
      | nil => exact ⟨rfl, Nat.zero_le _⟩
      | cons x xs ih =>
        obtain ⟨a, b⟩ := tsi_plain n x (h2 x List.mem_cons_self)
        obtain ⟨c, d⟩ := ih fun y hy => h2 y (List.mem_cons_of_mem _ hy)
        constructor
        · simp only [D.pyL, PyData.plainAll, a, c, Bool.and_self]
        · simp only [D.pyL, PyData.depthAll]; omega
    refine ⟨hall.1, ?_⟩
    show PyData.depth (.tuple (D.pyL xs)) ≤ n + 1
    have := hall.2
    simp only [PyData.depth]
    omega
  | n + 1, .non, h => h.elim
  | n + 1, .bl _, h => h.elim
  | n + 1, .lst _, h => h.elim
  | n + 1, .dct _ _ _, h => h.elim
  | n + 1, .fn _, h => h.elim
  | n + 1, .obj _ _ _, h => h.elim
  | n + 1, .box _, h => h.elim
  | n + 1, .gone, h => h.elim
  | n + 1, .scr _, h => h.elim
theorem eq_same {n : Nat} {d : D} (h : tsi n d) (hn : n ≤ 160) : evPrim .eq [d, d] = .ok (.bl true) := by
  obtain ⟨a, b⟩ := tsi_plain n d h
  show eqD d d = _
  unfold eqD
  rw [a, PySem.SeqAt.eqv_refl_plain _ a, decide_eq_true (show min d.py.depth d.py.depth ≤ 160 by omega)]
  rfl
theorem ne_same {n : Nat} {d : D} (h : tsi n d) (hn : n ≤ 160) : evPrim .ne [d, d] = .ok (.bl false) := by
  show notR (evPrim .eq [d, d]) = _
  rw [eq_same h hn]
  rfl
end Bk

/-! Q2: patterns by draws and by digits. -/
namespace Bk
open PySem
mutual
/-- a pattern over kinds, its calls of so many states and kids -/
def Pt.fit (ks : List (Str × Int)) (st ki : Nat) : Pt → Prop
  | .call q k => q < st ∧ k < ki
  | .mk nm us => (nm, (us.length : Int)) ∈ ks ∧ Pt.fitL ks st ki us
def Pt.fitL (ks : List (Str × Int)) (st ki : Nat) : List Pt → Prop
  | [] => True
  | u :: us => u.fit ks st ki ∧ Pt.fitL ks st ki us
end
theorem Pt.fitL_of {ks : List (Str × Int)} {st ki : Nat} : ∀ {us : List Pt}, (∀ u ∈ us, u.fit ks st ki) → Pt.fitL ks st ki us
  | [], _ => by rw [Pt.fitL]; trivial
  | u :: us, h => by rw [Pt.fitL]; exact ⟨h u List.mem_cons_self, Pt.fitL_of fun v hv => h v (List.mem_cons_of_mem _ hv)⟩
theorem Pt.fit_mem {ks : List (Str × Int)} {st ki : Nat} {u : Pt} : ∀ {us : List Pt}, Pt.fitL ks st ki us → u ∈ us → u.fit ks st ki
  | [], _, h => by cases h
  | a :: us, f, h => by
    rw [Pt.fitL] at f
    rcases List.mem_cons.mp h with rfl | h
    · exact f.1
    · exact Pt.fit_mem f.2 h
theorem Pt.d_mk (nm : Str) (us : List Pt) : (Pt.mk nm us).d = .tup (.str nm :: us.map Pt.d) := by simp [Pt.d, Pt.dL_map]
section
variable {su : Subs} {Ps : Nat → Option Df}
theorem law_leaf6_ok (h71 : Ps 71 = some f_law_leaf_6) {ks : List (Str × Int)} (K : KsB ks) (n : Nat) (c : Nat) : ∃ s, (s, 0) ∈ ks ∧ runD su Ps (n + 1) 71 [.tup (ks.map kD), .int c] = .ok (kD (s, 0)) [] := by
  have hlc := fun (q : En) (ρ σ : Rho) (hs : 2 < ρ.length) => comp_runIf (q := q) (ρ := ρ) (σ := σ) (elt := .var 2) (c := .op .eq [.op .idx [.var 2, .cst (.int 1)], .cst (.int 0)]) (tg := .v 2) ks kD (fun p => if p.2 = 0 then some (kD p) else none) (by have := K.len; omega) (by simpa using hs) (fun p hp => by
    have e : (ρ.set 2 (.fz (kD p)))[2]? = some (.fz (kD p)) := List.getElem?_set_self hs
    have k1 : evPrim .idx [kD p, .int 1] = .ok (.int p.2) := pr_idx_t1 _ _ _
    by_cases hc : p.2 = 0 <;> simp [cmpI, wipeR, List.set_set, e, k1, hc])
  have hfm : ks.filterMap (fun p => if p.2 = 0 then some (kD p) else none) = (lfOf ks).map (fun s => kD (s, 0)) := by
    unfold lfOf
    clear hlc K
    induction ks with
    | nil => rfl
    | cons p ks ih =>
      obtain ⟨a, b⟩ := p
      by_cases e : b = 0
      · subst e; simp [List.filterMap_cons, List.filter_cons, ih]
      · simp [List.filterMap_cons, List.filter_cons, e, ih]
  rw [hfm] at hlc
  have h0 := lfOf_pos K.lf
  have hm := lfOf_mem (ks := ks)
  generalize lfOf ks = lf at *
  have m1 := Nat.mod_lt c h0
  obtain ⟨s, hs⟩ : ∃ s, lf[c % lf.length]? = some s := ⟨_, List.getElem?_eq_getElem m1⟩
  refine ⟨s, hm s (List.mem_of_getElem? hs), ?_⟩
  have hx : evPrim .idx [.lst (lf.map fun s => kD (s, 0)), .int ((c : Int) % (lf.length : Int))] = .ok (kD (s, 0)) := idxl_get (j := c % lf.length) (by omega) (by rw [List.getElem?_map, hs]; rfl)
  rw [runD_eq h71 rfl]
  have hl : (0 : Int) < (lf.length : Int) := by omega
  simp (disch := first | assumption | omega | (simp <;> omega) | fail) [f_law_leaf_6, startR, hlc, hx]
theorem kind_at {ks : List (Str × Int)} (K : KsB ks) (r : Nat) : ∃ p, p ∈ ks ∧ evPrim .idx [.tup (ks.map kD), .int ((r : Int) % (ks.length : Int))] = .ok (kD p) := by
  have h0 : 0 < ks.length := by have := K.len; omega
  have m1 := Nat.mod_lt r h0
  obtain ⟨p, hp⟩ : ∃ p, ks[r % ks.length]? = some p := ⟨_, List.getElem?_eq_getElem m1⟩
  exact ⟨p, List.mem_of_getElem? hp, idx_get (j := r % ks.length) (by omega) (by rw [List.getElem?_map, hp]; rfl)⟩
theorem law_pattern_ok (h69 : Ps 69 = some f_law_turn) (h71 : Ps 71 = some f_law_leaf_6) (h72 : Ps 72 = some f_law_pattern) {ks : List (Str × Int)} (K : KsB ks) (st ki : Nat) : ∀ (n : Nat) (c : Int) (d : Nat), d + 2 ≤ n →
    ∃ p : Pt, p.fit ks st ki ∧ p.high ≤ d + 1 ∧ runD su Ps n 72 [.int c, .tup (ks.map kD), .int st, .int ki, .int d] = .ok p.d []
  | 0, _, _, h => by omega
  | 1, _, _, h => by omega
  | n + 2, c, d, hn => by
    obtain ⟨r, hr, R⟩ := law_turn_ok (su := su) h69 n c 3 (by omega)
    have e3 : ((3 : Nat) : Int) = 3 := rfl
    rw [e3] at R
    have k0 := K.len
    by_cases c1 : (0 < st ∧ 0 < ki) ∧ (r : Int) % 5 < 2
    · have h1 := Nat.mod_lt (r / 5) c1.1.1
      have h2 := Nat.mod_lt (r / 97) c1.1.2
      refine ⟨.call (r / 5 % st) (r / 97 % ki), by rw [Pt.fit]; exact ⟨h1, h2⟩, by rw [Pt.high]; omega, ?_⟩
      have z1 : (0 : Int) < (st : Int) := by omega
      have z2 : (0 : Int) < (ki : Int) := by omega
      have c2 := c1.2
      rw [runD_eq h72 rfl]
      simp (disch := first | assumption | omega | (simp <;> omega) | fail) [f_law_pattern, startR, R, c1.1.1, c1.1.2, c2, Pt.d]
    · suffices hw : RetO (runD su Ps (n + 2) 72 [.int c, .tup (ks.map kD), .int st, .int ki, .int d]) (fun x os => os = [] ∧ ∃ p : Pt, p.fit ks st ki ∧ p.high ≤ d + 1 ∧ x = p.d) by
        obtain ⟨x, os, e, rfl, p, h1, h2, rfl⟩ := hw
        exact ⟨p, h1, h2, e⟩
      obtain ⟨kd, hk, X⟩ := kind_at K (r / 5)
      have e5 : (((r / 5 : Nat)) : Int) = (r : Int) / 5 := by omega
      rw [e5] at X
      obtain ⟨s, hs, LF⟩ := law_leaf6_ok (su := su) h71 K n (r / 37)
      have e37 : (((r / 37 : Nat)) : Int) = (r : Int) / 37 := by omega
      rw [e37] at LF
      have kl : (0 : Int) < (ks.length : Int) := by omega
      have k1 : ∀ p : Str × Int, evPrim .idx [kD p, .int 1] = .ok (.int p.2) := fun p => pr_idx_t1 _ _ _
      have k2 : ∀ p : Str × Int, evPrim .idx [kD p, .int 0] = .ok (.str p.1) := fun p => pr_idx_t0 _ _
      -- the kind that is taken
      have body : ∀ (kd : Str × Int), kd ∈ ks → (kd.2 = 0 ∨ 0 < d) → W (FinO [] fun x os => os = [] ∧ ∃ p : Pt, p.fit ks st ki ∧ p.high ≤ d + 1 ∧ x = p.d) (seqK ⟨su, runD su Ps (n + 1), none⟩ [nth f_law_pattern.body 6] (forL (forB ⟨su, runD su Ps (n + 1), none⟩ (.v 8) (nth f_law_pattern.body 5).loop) (rngD 0 kd.2) [.fz (.int c), .fz (.tup (ks.map kD)), .fz (.int st), .fz (.int ki), .fz (.int d), .fz (.int r), .fz (kD kd), .own (.lst []), .un])) := fun kd hk hd => by
        have lo := K.lo kd hk
        have hi := K.hi kd hk
        simp only [f_law_pattern, nth, S.loop, List.getD_cons_succ, List.getD_cons_zero]
        refine w_for_r (fun i ρ => ∃ (us : List Pt) (s8 : Sl), us.length = i ∧ (∀ u ∈ us, u.fit ks st ki ∧ u.high ≤ d) ∧ ρ = [.fz (.int c), .fz (.tup (ks.map kD)), .fz (.int st), .fz (.int ki), .fz (.int d), .fz (.int r), .fz (kD kd), .own (.lst (us.map Pt.d)), s8]) ⟨[], _, rfl, (fun u h => nomatch h), rfl⟩ (fun i ρ hi2 hI => ?_) (fun ρ hI => ?_)
        · obtain ⟨us, s8, hl, hu, rfl⟩ := hI
          have hd1 : 0 < d := by omega
          obtain ⟨r2, hr2, R2⟩ := law_turn_ok (su := su) h69 n (r : Int) (i + 5) (by omega)
          rw [show ((i + 5 : Nat) : Int) = (i : Int) + 5 by omega] at R2
          obtain ⟨p, p1, p2, P1⟩ := law_pattern_ok h69 h71 h72 K st ki (n + 1) (r2 : Int) (d - 1) (by omega)
          rw [show ((d - 1 : Nat) : Int) = (d : Int) - 1 by omega] at P1
          have hlm : (us.map Pt.d).length < 16777216 := by rw [List.length_map]; omega
          refine w_turn_mono (J' := fun ρ => ∃ s8, ρ = [.fz (.int c), .fz (.tup (ks.map kD)), .fz (.int st), .fz (.int ki), .fz (.int d), .fz (.int r), .fz (kD kd), .own (.lst (us.map Pt.d ++ [p.d])), s8]) (fun ρ ⟨s8, e⟩ => ⟨us ++ [p], s8, by simp [hl], fun u hu2 => ?_, by rw [e]; simp⟩) ?_
          · rcases List.mem_append.mp hu2 with h | h
            · exact hu u h
            · rw [List.mem_singleton.mp h]; exact ⟨p1, by omega⟩
          · simp (disch := first | assumption | omega | (simp <;> omega) | fail) [forB, R2, P1]
        · obtain ⟨us, s8, hl, hu, rfl⟩ := hI
          have hlm : (us.map Pt.d).length ≤ 3 := by rw [List.length_map]; omega
          simp (disch := first | assumption | omega | (simp <;> omega) | fail) [k2]
          refine ⟨.mk kd.1 us, ?_, ?_, by rw [Pt.d_mk]⟩
          · rw [Pt.fit]
            refine ⟨?_, Pt.fitL_of fun u h => (hu u h).1⟩
            have : (us.length : Int) = kd.2 := by omega
            rw [this]; exact hk
          · rw [Pt.high]
            have := Pt.highL_le (b := d) (ts := us) fun u h => (hu u h).2
            omega
      refine retO_of (df := f_law_pattern) h72 rfl ?_
      have c1' : ¬ (0 < st ∧ 0 < ki ∧ (r : Int) % 5 < 2) := fun z => c1 ⟨⟨z.1, z.2.1⟩, z.2.2⟩
      have pre : ∀ K : O → Prop, W K (evSs ⟨su, runD su Ps (n + 1), none⟩ (f_law_pattern.body.drop 2) [.fz (.int c), .fz (.tup (ks.map kD)), .fz (.int st), .fz (.int ki), .fz (.int d), .fz (.int r), .un, .un, .un]) → W K (evSs ⟨su, runD su Ps (n + 1), none⟩ f_law_pattern.body [.fz (.int c), .fz (.tup (ks.map kD)), .fz (.int st), .fz (.int ki), .fz (.int d), .un, .un, .un, .un]) := fun K h => by
        have e : evSs ⟨su, runD su Ps (n + 1), none⟩ f_law_pattern.body [.fz (.int c), .fz (.tup (ks.map kD)), .fz (.int st), .fz (.int ki), .fz (.int d), .un, .un, .un, .un] = evSs ⟨su, runD su Ps (n + 1), none⟩ (f_law_pattern.body.drop 2) [.fz (.int c), .fz (.tup (ks.map kD)), .fz (.int st), .fz (.int ki), .fz (.int d), .fz (.int r), .un, .un, .un] := by
          simp only [f_law_pattern, List.drop_succ_cons, List.drop_zero]
          rw [ev_ss, ev_s_asg]
          have a1 : evP ⟨su, runD su Ps (n + 1), none⟩ (.call 69 [.var 0, .cst (.int 3)]) [.fz (.int c), .fz (.tup (ks.map kD)), .fz (.int st), .fz (.int ki), .fz (.int d), .un, .un, .un, .un] = .ok (.int r) [.fz (.int c), .fz (.tup (ks.map kD)), .fz (.int st), .fz (.int ki), .fz (.int d), .un, .un, .un, .un] := by simp (disch := first | assumption | omega | (simp <;> omega) | fail) [R]
          rw [a1, asgK_ok, setT_v, nxR_ok, seqK_nx, ev_ss]
          have a2 : evS ⟨su, runD su Ps (n + 1), none⟩ (nth f_law_pattern.body 1) [.fz (.int c), .fz (.tup (ks.map kD)), .fz (.int st), .fz (.int ki), .fz (.int d), .fz (.int r), .un, .un, .un] = .nx [.fz (.int c), .fz (.tup (ks.map kD)), .fz (.int st), .fz (.int ki), .fz (.int d), .fz (.int r), .un, .un, .un] := by
            by_cases z1 : 0 < st
            · by_cases z2 : 0 < ki
              · have z3 : ¬ (r : Int) % 5 < 2 := fun z => c1' ⟨z1, z2, z⟩
                simp (disch := first | assumption | omega | (simp <;> omega) | fail) [nth, f_law_pattern, z1, z2, z3]
              · have z2' : ki = 0 := by omega
                simp (disch := first | assumption | omega | (simp <;> omega) | fail) [nth, f_law_pattern, z1, z2']
            · have z1' : st = 0 := by omega
              simp (disch := first | assumption | omega | (simp <;> omega) | fail) [nth, f_law_pattern, z1']
          exact (congrArg (seqK _ _) a2).trans rfl
        rw [e]; exact h
      refine pre _ ?_
      by_cases c3 : (d : Int) = 0 ∧ 0 < kd.2
      · have b := body (s, 0) hs (.inl rfl)
        simp only [f_law_pattern, nth, S.loop, List.getD_cons_succ, List.getD_cons_zero] at b
        simp only [f_law_pattern, List.drop_succ_cons, List.drop_zero]
        have c4 := c3.1
        have c5 : d = 0 := by omega
        have e0 : ((0 : Nat) : Int) = 0 := rfl
        rw [c5] at b ⊢
        rw [e0] at b ⊢
        simp (disch := first | assumption | omega | (simp <;> omega) | fail) [X, k1, c3.2, LF]
        exact b
      · have b := body kd hk (by have := K.lo kd hk; omega)
        simp only [f_law_pattern, nth, S.loop, List.getD_cons_succ, List.getD_cons_zero] at b
        simp only [f_law_pattern, List.drop_succ_cons, List.drop_zero]
        have lo := K.lo kd hk
        have hi := K.hi kd hk
        by_cases c5 : d = 0
        · have c6 : ¬ 0 < kd.2 := fun z => c3 ⟨by omega, z⟩
          simp (disch := first | assumption | omega | (simp <;> omega) | fail) [X, k1, c5, c6]
          rw [c5] at b
          exact b
        · simp (disch := first | assumption | omega | (simp <;> omega) | fail) [X, k1, c5]
          exact b
end
end Bk

/-! Q3: patterns by digits; books. -/
namespace Bk
open PySem
def bkD (ins outs : List (Str × Int)) (head : Pt) (rules : List (List Pt)) : D :=
  .tup [.tup (ins.map kD), .tup (outs.map kD), head.d, .tup (rules.map fun row => .tup (row.map Pt.d))]
/-- a book: patterns over outs, their calls of so many states and of the kind's kids; at most h tall -/
structure BkOk (ins outs : List (Str × Int)) (head : Pt) (rules : List (List Pt)) (h : Nat) : Prop where
  hd : head.fit outs rules.length 1
  hh : head.high ≤ h
  len : ∀ row ∈ rules, row.length = ins.length
  fit : ∀ row ∈ rules, ∀ (j : Nat) (k : Str × Int) (p : Pt), ins[j]? = some k → row[j]? = some p → p.fit outs rules.length k.2.toNat ∧ p.high ≤ h
section
variable {su : Subs} {Ps : Nat → Option Df}
theorem law_digit_ok (h73 : Ps 73 = some f_law_digit) (n : Nat) (x : Int) (m : Nat) (hm : 0 < m ∧ m ≤ 1000) : runD su Ps (n + 1) 73 [.lst [.int x], .int m] = .ok (.int (x % (m : Int))) [.lst [.int (x / (m : Int))]] := by
  have hw : RetO (runD su Ps (n + 1) 73 [.lst [.int x], .int m]) (fun d os => d = .int (x % (m : Int)) ∧ os = [.lst [.int (x / (m : Int))]]) := by
    refine retO_of (df := f_law_digit) h73 rfl ?_
    have h0 : (0 : Int) < (m : Int) := by omega
    have hb : ((m : Int)).natAbs < 2 ^ 250 := by omega
    have hs : ∀ v, evSet (.lst [.int x]) (.int 0) v = .ok (.lst [v]) := fun v => se_lst (by decide) (by simp)
    simp (disch := first | assumption | omega | (simp <;> omega) | fail) [f_law_digit, startR, hs]
  obtain ⟨d, os, e, rfl, rfl⟩ := hw
  exact e
theorem by_digits_ok (h73 : Ps 73 = some f_law_digit) (h74 : Ps 74 = some f_law_by_digits) {ks : List (Str × Int)} (K : KsB ks) (st ki : Nat) (hst : st ≤ 1000) (hki : ki ≤ 1000) : ∀ (n : Nat) (x : Int) (d : Nat), d + 2 ≤ n →
    ∃ (p : Pt) (y : Int), p.fit ks st ki ∧ p.high ≤ d + 1 ∧ runD su Ps n 74 [.lst [.int x], .tup (ks.map kD), .int st, .int ki, .int d] = .ok p.d [.lst [.int y]]
  | 0, _, _, h => by omega
  | 1, _, _, h => by omega
  | n + 2, x, d, hn => by
    have k0 := K.len
    suffices hw : RetO (runD su Ps (n + 2) 74 [.lst [.int x], .tup (ks.map kD), .int st, .int ki, .int d]) (fun z os => ∃ (p : Pt) (y : Int), p.fit ks st ki ∧ p.high ≤ d + 1 ∧ z = p.d ∧ os = [.lst [.int y]]) by
      obtain ⟨z, os, e, p, y, h1, h2, rfl, rfl⟩ := hw
      exact ⟨p, y, h1, h2, e⟩
    have dg := fun (x : Int) (m : Nat) (hm : 0 < m ∧ m ≤ 1000) => law_digit_ok (su := su) h73 n x m hm
    have d2 := fun x : Int => dg x 2 (by omega)
    have e2 : ((2 : Nat) : Int) = 2 := rfl
    rw [e2] at d2
    have k1 : ∀ p : Str × Int, evPrim .idx [kD p, .int 1] = .ok (.int p.2) := fun p => pr_idx_t1 _ _ _
    have k2 : ∀ p : Str × Int, evPrim .idx [kD p, .int 0] = .ok (.str p.1) := fun p => pr_idx_t0 _ _
    -- the kinds that may be taken
    obtain ⟨so, hso⟩ : ∃ so, so = ks.filter fun y => decide (y.2 = 0) || decide (0 < d) := ⟨_, rfl⟩
    have hsm : ∀ p ∈ so, p ∈ ks ∧ (p.2 = 0 ∨ 0 < d) := fun p h => by
      rw [hso] at h
      obtain ⟨a, b⟩ := List.mem_filter.mp h
      simp only [Bool.or_eq_true, decide_eq_true_eq] at b
      exact ⟨a, b⟩
    have hs0 : 0 < so.length := by
      obtain ⟨s, hs⟩ := K.lf
      have : (s, (0 : Int)) ∈ so := by rw [hso]; exact List.mem_filter.mpr ⟨hs, by simp⟩
      exact List.length_pos_of_mem this
    have hs8 : so.length ≤ 8 := by rw [hso]; exact Nat.le_trans (List.length_filter_le _ _) k0.2
    have cso := fun (q : En) (ρ σ : Rho) (hs : 6 < ρ.length) (h4 : ρ[4]? = some (.fz (.int d))) => comp_runIf (q := q) (ρ := ρ) (σ := σ) (elt := .var 6) (c := .or (.op .eq [.op .idx [.var 6, .cst (.int 1)], .cst (.int 0)]) (.op .gt [.var 4, .cst (.int 0)])) (tg := .v 6) ks kD (fun p => if p.2 = 0 ∨ 0 < d then some (kD p) else none) (by omega) (by simpa using hs) (fun p hp => by
      have e : (ρ.set 6 (.fz (kD p)))[6]? = some (.fz (kD p)) := List.getElem?_set_self hs
      have e4 : (ρ.set 6 (.fz (kD p)))[4]? = some (.fz (.int d)) := by rw [List.getElem?_set_ne (by decide)]; exact h4
      by_cases hc : p.2 = 0
      · simp [cmpI, wipeR, List.set_set, e, k1, hc]
      · by_cases hd : 0 < d <;> simp [cmpI, wipeR, List.set_set, e, e4, k1, hc, hd])
    have hfm : ks.filterMap (fun p => if p.2 = 0 ∨ 0 < d then some (kD p) else none) = so.map kD := by
      rw [hso]
      clear cso hs8 hs0 hsm hso k0 K
      induction ks with
      | nil => rfl
      | cons p ks ih =>
        by_cases e : p.2 = 0 ∨ 0 < d
        · rw [List.filterMap_cons, if_pos e, List.filter_cons, if_pos (by simpa using e), ih]; rfl
        · rw [List.filterMap_cons, if_neg e, List.filter_cons, if_neg (by simpa using e), ih]
    rw [hfm] at cso
    -- behind the draw of a call
    have body : ∀ x : Int, W (FinO [0] fun z os => ∃ (p : Pt) (y : Int), p.fit ks st ki ∧ p.high ≤ d + 1 ∧ z = p.d ∧ os = [.lst [.int y]]) (evSs ⟨su, runD su Ps (n + 1), none⟩ (f_law_by_digits.body.drop 1) [.own (.lst [.int x]), .fz (.tup (ks.map kD)), .fz (.int st), .fz (.int ki), .fz (.int d), .un, .un, .un, .un, .un]) := fun x => by
      have ds := dg x so.length (by omega)
      have m0 := Int.emod_nonneg x (show (so.length : Int) ≠ 0 by omega)
      have m1 := Int.emod_lt_of_pos x (show (0 : Int) < (so.length : Int) by omega)
      obtain ⟨kd, hkd⟩ : ∃ kd, so[(x % (so.length : Int)).toNat]? = some kd := ⟨_, List.getElem?_eq_getElem (show (x % (so.length : Int)).toNat < so.length by omega)⟩
      have X : evPrim .idx [.lst (so.map kD), .int (x % (so.length : Int))] = .ok (kD kd) := pr_idx_lst m0 (by rw [List.getElem?_map, hkd]; rfl)
      obtain ⟨hk, hd⟩ := hsm kd (List.mem_of_getElem? hkd)
      have lo := K.lo kd hk
      have hi := K.hi kd hk
      simp only [f_law_by_digits, List.drop_succ_cons, List.drop_zero]
      simp (disch := first | assumption | omega | (simp <;> omega) | fail) [cso, ds, X, k1]
      refine w_for_r (fun i ρ => ∃ (us : List Pt) (y : Int) (s9 : Sl), us.length = i ∧ (∀ u ∈ us, u.fit ks st ki ∧ u.high ≤ d) ∧ ρ = [.own (.lst [.int y]), .fz (.tup (ks.map kD)), .fz (.int st), .fz (.int ki), .fz (.int d), .un, .fz (kD kd), .fz (.lst (so.map kD)), .own (.lst (us.map Pt.d)), s9]) ⟨[], _, _, rfl, (fun u h => nomatch h), rfl⟩ (fun i ρ hi2 hI => ?_) (fun ρ hI => ?_)
      · obtain ⟨us, y, s9, hl, hu, rfl⟩ := hI
        have hd1 : 0 < d := by omega
        obtain ⟨p, y2, p1, p2, P1⟩ := by_digits_ok h73 h74 K st ki hst hki (n + 1) y (d - 1) (by omega)
        rw [show ((d - 1 : Nat) : Int) = (d : Int) - 1 by omega] at P1
        have hlm : (us.map Pt.d).length < 16777216 := by rw [List.length_map]; omega
        refine w_turn_mono (J' := fun ρ => ∃ s9, ρ = [.own (.lst [.int y2]), .fz (.tup (ks.map kD)), .fz (.int st), .fz (.int ki), .fz (.int d), .un, .fz (kD kd), .fz (.lst (so.map kD)), .own (.lst (us.map Pt.d ++ [p.d])), s9]) (fun ρ ⟨s9, e⟩ => ⟨us ++ [p], y2, s9, by simp [hl], fun u hu2 => ?_, by rw [e]; simp⟩) ?_
        · rcases List.mem_append.mp hu2 with h | h
          · exact hu u h
          · rw [List.mem_singleton.mp h]; exact ⟨p1, by omega⟩
        · simp (disch := first | assumption | omega | (simp <;> omega) | fail) [forB, P1]
      · obtain ⟨us, y, s9, hl, hu, rfl⟩ := hI
        have hlm : (us.map Pt.d).length ≤ 3 := by rw [List.length_map]; omega
        simp (disch := first | assumption | omega | (simp <;> omega) | fail) [k2]
        refine ⟨.mk kd.1 us, ?_, ?_, by rw [Pt.d_mk]⟩
        · rw [Pt.fit]
          refine ⟨?_, Pt.fitL_of fun u h => (hu u h).1⟩
          have : (us.length : Int) = kd.2 := by omega
          rw [this]; exact hk
        · rw [Pt.high]
          have := Pt.highL_le (b := d) (ts := us) fun u h => (hu u h).2
          omega
    refine retO_of (df := f_law_by_digits) h74 rfl ?_
    by_cases z1 : 0 < st ∧ 0 < ki
    · by_cases z3 : x % 2 = 1
      · have s1 := dg (x / 2) st (by omega)
        have s2 := dg (x / 2 / (st : Int)) ki (by omega)
        have m0 := Int.emod_nonneg (x / 2) (show (st : Int) ≠ 0 by omega)
        have m1 := Int.emod_lt_of_pos (x / 2) (show (0 : Int) < (st : Int) by omega)
        have m2 := Int.emod_nonneg (x / 2 / (st : Int)) (show (ki : Int) ≠ 0 by omega)
        have m3 := Int.emod_lt_of_pos (x / 2 / (st : Int)) (show (0 : Int) < (ki : Int) by omega)
        obtain ⟨a, ha⟩ : ∃ a : Nat, x / 2 % (st : Int) = (a : Nat) := ⟨_, (Int.toNat_of_nonneg m0).symm⟩
        obtain ⟨b, hb⟩ : ∃ b : Nat, x / 2 / (st : Int) % (ki : Int) = (b : Nat) := ⟨_, (Int.toNat_of_nonneg m2).symm⟩
        simp (disch := first | assumption | omega | (simp <;> omega) | fail) [f_law_by_digits, startR, z1.1, z1.2, d2, z3, s1, s2, ha, hb]
        exact ⟨.call a b, by rw [Pt.fit]; omega, by rw [Pt.high]; omega, by simp [Pt.d]⟩
      · have a2 : evS ⟨su, runD su Ps (n + 1), none⟩ (nth f_law_by_digits.body 0) [.own (.lst [.int x]), .fz (.tup (ks.map kD)), .fz (.int st), .fz (.int ki), .fz (.int d), .un, .un, .un, .un, .un] = .nx [.own (.lst [.int (x / 2)]), .fz (.tup (ks.map kD)), .fz (.int st), .fz (.int ki), .fz (.int d), .un, .un, .un, .un, .un] := by
          simp (disch := first | assumption | omega | (simp <;> omega) | fail) [nth, f_law_by_digits, z1.1, z1.2, d2, z3]
        have e : evSs ⟨su, runD su Ps (n + 1), none⟩ f_law_by_digits.body [.own (.lst [.int x]), .fz (.tup (ks.map kD)), .fz (.int st), .fz (.int ki), .fz (.int d), .un, .un, .un, .un, .un] = evSs ⟨su, runD su Ps (n + 1), none⟩ (f_law_by_digits.body.drop 1) [.own (.lst [.int (x / 2)]), .fz (.tup (ks.map kD)), .fz (.int st), .fz (.int ki), .fz (.int d), .un, .un, .un, .un, .un] := (ev_ss _ _ (nth f_law_by_digits.body 0) (f_law_by_digits.body.drop 1)).trans (congrArg (seqK _ _) a2)
        have b := body (x / 2)
        rw [← e] at b
        exact b
    · have a2 : evS ⟨su, runD su Ps (n + 1), none⟩ (nth f_law_by_digits.body 0) [.own (.lst [.int x]), .fz (.tup (ks.map kD)), .fz (.int st), .fz (.int ki), .fz (.int d), .un, .un, .un, .un, .un] = .nx [.own (.lst [.int x]), .fz (.tup (ks.map kD)), .fz (.int st), .fz (.int ki), .fz (.int d), .un, .un, .un, .un, .un] := by
        by_cases z2 : 0 < st
        · have z3 : ki = 0 := by omega
          simp (disch := first | assumption | omega | (simp <;> omega) | fail) [nth, f_law_by_digits, z2, z3]
        · have z3 : st = 0 := by omega
          simp (disch := first | assumption | omega | (simp <;> omega) | fail) [nth, f_law_by_digits, z3]
      have e : evSs ⟨su, runD su Ps (n + 1), none⟩ f_law_by_digits.body [.own (.lst [.int x]), .fz (.tup (ks.map kD)), .fz (.int st), .fz (.int ki), .fz (.int d), .un, .un, .un, .un, .un] = evSs ⟨su, runD su Ps (n + 1), none⟩ (f_law_by_digits.body.drop 1) [.own (.lst [.int x]), .fz (.tup (ks.map kD)), .fz (.int st), .fz (.int ki), .fz (.int d), .un, .un, .un, .un, .un] := (ev_ss _ _ (nth f_law_by_digits.body 0) (f_law_by_digits.body.drop 1)).trans (congrArg (seqK _ _) a2)
      have b := body x
      rw [← e] at b
      exact b
end
end Bk

/-! Q4: books by draws and by digits; what is asked of them. -/
namespace Bk
open PySem
def RowOk (ins outs : List (Str × Int)) (st h : Nat) (us : List Pt) : Prop := ∀ (j : Nat) (k : Str × Int) (p : Pt), ins[j]? = some k → us[j]? = some p → p.fit outs st k.2.toNat ∧ p.high ≤ h
theorem RowOk.snoc {ins outs : List (Str × Int)} {st h : Nat} {us : List Pt} {p : Pt} (r : RowOk ins outs st h us) {k : Str × Int} (hk : ins[us.length]? = some k) (hp : p.fit outs st k.2.toNat ∧ p.high ≤ h) : RowOk ins outs st h (us ++ [p]) := by
  intro j k' p' hj hp'
  by_cases e : j < us.length
  · rw [List.getElem?_append_left e] at hp'
    exact r j k' p' hj hp'
  · rw [List.getElem?_append_right (by omega)] at hp'
    have hj2 : j = us.length := by
      have := (List.getElem?_eq_some_iff.mp hp').1
      simp at this; omega
    subst hj2
    rw [Nat.sub_self] at hp'
    simp only [List.getElem?_cons_zero, Option.some.injEq] at hp'
    subst hp'
    rw [hk] at hj
    cases hj
    exact hp
def rwD (us : List Pt) : D := .tup (us.map Pt.d)
theorem kd0 (p : Str × Int) : evPrim .idx [kD p, .int 0] = .ok (.str p.1) := pr_idx_t0 _ _
theorem kd1 (p : Str × Int) : evPrim .idx [kD p, .int 1] = .ok (.int p.2) := pr_idx_t1 _ _ _
section
variable {su : Subs} {Ps : Nat → Option Df}
theorem book_by_digits_ok (h73 : Ps 73 = some f_law_digit) (h74 : Ps 74 = some f_law_by_digits) (h75 : Ps 75 = some f_law_book_by_digits) {ins outs : List (Str × Int)} (KI : KsB ins) (KO : KsB outs) (n : Nat) (x : Int) (st d : Nat) (hst : st ≤ 100) (hd : 1 ≤ d) (hn : d + 2 ≤ n) :
    ∃ head rules, BkOk ins outs head rules (d + 1) ∧ rules.length = st ∧ runD su Ps (n + 1) 75 [.int x, .tup (ins.map kD), .tup (outs.map kD), .int st, .int d] = .ok (bkD ins outs head rules) [] := by
  have il := KI.len
  suffices hw : RetO (runD su Ps (n + 1) 75 [.int x, .tup (ins.map kD), .tup (outs.map kD), .int st, .int d]) (fun z os => os = [] ∧ ∃ head rules, BkOk ins outs head rules (d + 1) ∧ rules.length = st ∧ z = bkD ins outs head rules) by
    obtain ⟨z, os, e, rfl, head, rules, h1, h2, rfl⟩ := hw
    exact ⟨head, rules, h1, h2, e⟩
  refine retO_of (df := f_law_book_by_digits) h75 rfl ?_
  have e1 : ((1 : Nat) : Int) = 1 := rfl
  simp (disch := first | assumption | omega | (simp <;> omega) | fail) [f_law_book_by_digits, startR]
  obtain ⟨J, hJ⟩ : ∃ J : Nat → Rho → Prop, ∀ i ρ, J i ρ ↔ ∃ (rules : List (List Pt)) (y : Int) (s7 s8 s9 : Sl), rules.length = i ∧ (∀ row ∈ rules, row.length = ins.length ∧ RowOk ins outs st (d + 1) row) ∧
    ρ = [.fz (.int x), .fz (.tup (ins.map kD)), .fz (.tup (outs.map kD)), .fz (.int st), .fz (.int d), .own (.lst [.int y]), .own (.lst (rules.map rwD)), s7, s8, s9] := ⟨_, fun _ _ => Iff.rfl⟩
  refine w_for_r J ((hJ _ _).mpr ⟨[], x, _, _, _, rfl, (fun r h => nomatch h), rfl⟩) (fun i ρ hi hI => ?_) (fun ρ hI => ?_)
  · obtain ⟨rules, y, s7, s8, s9, hl, hr, rfl⟩ := (hJ _ _).mp hI
    have hlm : (rules.map rwD).length < 16777216 := by rw [List.length_map]; omega
    simp (disch := first | assumption | omega | (simp <;> omega) | fail) [forB]
    refine w_for_r (fun j ρ => ∃ (us : List Pt) (y : Int) (s9 : Sl), us.length = j ∧ RowOk ins outs st (d + 1) us ∧
      ρ = [.fz (.int x), .fz (.tup (ins.map kD)), .fz (.tup (outs.map kD)), .fz (.int st), .fz (.int d), .own (.lst [.int y]), .own (.lst (rules.map rwD)), .fz (.int i), .own (.lst (us.map Pt.d)), s9]) ⟨[], y, _, rfl, (fun j k p _ h => by simp at h), rfl⟩ (fun j ρ hj hI => ?_) (fun ρ hI => ?_)
    · obtain ⟨us, y, s9, hul, hu, rfl⟩ := hI
      have hj' : j < ins.length := by omega
      obtain ⟨k, hk⟩ : ∃ k, ins[j]? = some k := ⟨_, List.getElem?_eq_getElem hj'⟩
      have lo := KI.lo k (List.mem_of_getElem? hk)
      have hi3 := KI.hi k (List.mem_of_getElem? hk)
      have X : evPrim .idx [.tup (ins.map kD), .int (j : Nat)] = .ok (kD k) := idx_get rfl (by rw [List.getElem?_map, hk]; rfl)
      obtain ⟨p, y2, p1, p2, P1⟩ := by_digits_ok (su := su) h73 h74 KO st k.2.toNat (by omega) (by omega) n y d hn
      rw [Int.toNat_of_nonneg lo] at P1
      have hlm : (us.map Pt.d).length < 16777216 := by rw [List.length_map]; omega
      refine w_turn_mono (J' := fun ρ => ∃ s9, ρ = [.fz (.int x), .fz (.tup (ins.map kD)), .fz (.tup (outs.map kD)), .fz (.int st), .fz (.int d), .own (.lst [.int y2]), .own (.lst (rules.map rwD)), .fz (.int i), .own (.lst (us.map Pt.d ++ [p.d])), s9]) (fun ρ ⟨s9, e⟩ => ⟨us ++ [p], y2, s9, by simp [hul], hu.snoc (by rw [hul]; exact hk) ⟨p1, p2⟩, by rw [e]; simp⟩) ?_
      simp (disch := first | assumption | omega | (simp <;> omega) | fail) [forB, X, kd1, P1]
    · obtain ⟨us, y, s9, hul, hu, rfl⟩ := hI
      refine w_turn_mono (J' := fun ρ => ∃ s7 s8 s9, ρ = [.fz (.int x), .fz (.tup (ins.map kD)), .fz (.tup (outs.map kD)), .fz (.int st), .fz (.int d), .own (.lst [.int y]), .own (.lst (rules.map rwD ++ [rwD us])), s7, s8, s9]) (fun ρ ⟨s7, s8, s9, e⟩ => (hJ _ _).mpr ⟨rules ++ [us], y, s7, s8, s9, by simp [hl], fun row hrow => ?_, by rw [e]; simp⟩) ?_
      · rcases List.mem_append.mp hrow with h | h
        · exact hr row h
        · rw [List.mem_singleton.mp h]; exact ⟨by omega, hu⟩
      · have hrd : D.tup (us.map Pt.d) = rwD us := rfl
        simp (disch := first | assumption | omega | (simp <;> omega) | fail) [hrd]
  · obtain ⟨rules, y, s7, s8, s9, hl, hr, rfl⟩ := (hJ _ _).mp hI
    have hl2 : rules.length = st := by omega
    obtain ⟨p, y2, p1, p2, P1⟩ := by_digits_ok (su := su) h73 h74 KO st 1 (by omega) (by omega) n y 1 (by omega)
    rw [e1] at P1
    simp (disch := first | assumption | omega | (simp <;> omega) | fail) [P1]
    exact ⟨p, rules, ⟨by rw [hl2]; exact p1, by omega, fun row h => (hr row h).1, fun row h j k p hk hp => by rw [hl2]; exact (hr row h).2 j k p hk hp⟩, hl2, rfl⟩
theorem law_book_ok (h69 : Ps 69 = some f_law_turn) (h71 : Ps 71 = some f_law_leaf_6) (h72 : Ps 72 = some f_law_pattern) (h73 : Ps 73 = some f_law_digit) (h74 : Ps 74 = some f_law_by_digits) (h75 : Ps 75 = some f_law_book_by_digits) (h76 : Ps 76 = some f_law_book)
    {ins outs : List (Str × Int)} (KI : KsB ins) (KO : KsB outs) (n : Nat) (x : Int) (st d : Nat) (hst : st ≤ 100) (hd : 1 ≤ d) (hn : d + 2 ≤ n) :
    ∃ head rules, BkOk ins outs head rules (d + 1) ∧ rules.length = st ∧ runD su Ps (n + 2) 76 [.int x, .tup (ins.map kD), .tup (outs.map kD), .int st, .int d] = .ok (bkD ins outs head rules) [] := by
  have il := KI.len
  by_cases c : x ≥ 4294967296
  · obtain ⟨head, rules, h1, h2, B⟩ := book_by_digits_ok (su := su) h73 h74 h75 KI KO n (x / 4294967296) st d hst hd hn
    refine ⟨head, rules, h1, h2, ?_⟩
    rw [runD_eq h76 rfl]
    simp (disch := first | assumption | omega | (simp <;> omega) | fail) [f_law_book, startR, c, B]
  suffices hw : RetO (runD su Ps (n + 2) 76 [.int x, .tup (ins.map kD), .tup (outs.map kD), .int st, .int d]) (fun z os => os = [] ∧ ∃ head rules, BkOk ins outs head rules (d + 1) ∧ rules.length = st ∧ z = bkD ins outs head rules) by
    obtain ⟨z, os, e, rfl, head, rules, h1, h2, rfl⟩ := hw
    exact ⟨head, rules, h1, h2, e⟩
  refine retO_of (df := f_law_book) h76 rfl ?_
  have e1 : ((1 : Nat) : Int) = 1 := rfl
  simp (disch := first | assumption | omega | (simp <;> omega) | fail) [f_law_book, startR, c]
  obtain ⟨J, hJ⟩ : ∃ J : Nat → Rho → Prop, ∀ i ρ, J i ρ ↔ ∃ (rules : List (List Pt)) (s6 s7 s8 : Sl), rules.length = i ∧ (∀ row ∈ rules, row.length = ins.length ∧ RowOk ins outs st (d + 1) row) ∧
    ρ = [.fz (.int x), .fz (.tup (ins.map kD)), .fz (.tup (outs.map kD)), .fz (.int st), .fz (.int d), .own (.lst (rules.map rwD)), s6, s7, s8] := ⟨_, fun _ _ => Iff.rfl⟩
  refine w_for_r J ((hJ _ _).mpr ⟨[], _, _, _, rfl, (fun r h => nomatch h), rfl⟩) (fun i ρ hi hI => ?_) (fun ρ hI => ?_)
  · obtain ⟨rules, s6, s7, s8, hl, hr, rfl⟩ := (hJ _ _).mp hI
    have hlm : (rules.map rwD).length < 16777216 := by rw [List.length_map]; omega
    simp (disch := first | assumption | omega | (simp <;> omega) | fail) [forB]
    refine w_for_r (fun j ρ => ∃ (us : List Pt) (s8 : Sl), us.length = j ∧ RowOk ins outs st (d + 1) us ∧
      ρ = [.fz (.int x), .fz (.tup (ins.map kD)), .fz (.tup (outs.map kD)), .fz (.int st), .fz (.int d), .own (.lst (rules.map rwD)), .fz (.int i), .own (.lst (us.map Pt.d)), s8]) ⟨[], _, rfl, (fun j k p _ h => by simp at h), rfl⟩ (fun j ρ hj hI => ?_) (fun ρ hI => ?_)
    · obtain ⟨us, s8, hul, hu, rfl⟩ := hI
      have hj' : j < ins.length := by omega
      obtain ⟨k, hk⟩ : ∃ k, ins[j]? = some k := ⟨_, List.getElem?_eq_getElem hj'⟩
      have lo := KI.lo k (List.mem_of_getElem? hk)
      have hi3 := KI.hi k (List.mem_of_getElem? hk)
      have X : evPrim .idx [.tup (ins.map kD), .int (j : Nat)] = .ok (kD k) := idx_get rfl (by rw [List.getElem?_map, hk]; rfl)
      obtain ⟨r, hr2, R⟩ := law_turn_ok (su := su) h69 n x (9 * i + j + 11) (by omega)
      rw [show ((9 * i + j + 11 : Nat) : Int) = 9 * (i : Int) + j + 11 by omega] at R
      obtain ⟨p, p1, p2, P1⟩ := law_pattern_ok (su := su) h69 h71 h72 KO st k.2.toNat (n + 1) (r : Int) d (by omega)
      rw [Int.toNat_of_nonneg lo] at P1
      have hlm : (us.map Pt.d).length < 16777216 := by rw [List.length_map]; omega
      have hmi : ((i : Int)).natAbs < 2 ^ 250 := by omega
      refine w_turn_mono (J' := fun ρ => ∃ s8, ρ = [.fz (.int x), .fz (.tup (ins.map kD)), .fz (.tup (outs.map kD)), .fz (.int st), .fz (.int d), .own (.lst (rules.map rwD)), .fz (.int i), .own (.lst (us.map Pt.d ++ [p.d])), s8]) (fun ρ ⟨s8, e⟩ => ⟨us ++ [p], s8, by simp [hul], hu.snoc (by rw [hul]; exact hk) ⟨p1, p2⟩, by rw [e]; simp⟩) ?_
      simp (disch := first | assumption | omega | (simp <;> omega) | fail) [forB, X, kd1, R, P1]
    · obtain ⟨us, s8, hul, hu, rfl⟩ := hI
      refine w_turn_mono (J' := fun ρ => ∃ s6 s7 s8, ρ = [.fz (.int x), .fz (.tup (ins.map kD)), .fz (.tup (outs.map kD)), .fz (.int st), .fz (.int d), .own (.lst (rules.map rwD ++ [rwD us])), s6, s7, s8]) (fun ρ ⟨s6, s7, s8, e⟩ => (hJ _ _).mpr ⟨rules ++ [us], s6, s7, s8, by simp [hl], fun row hrow => ?_, by rw [e]; simp⟩) ?_
      · rcases List.mem_append.mp hrow with h | h
        · exact hr row h
        · rw [List.mem_singleton.mp h]; exact ⟨by omega, hu⟩
      · have hrd : D.tup (us.map Pt.d) = rwD us := rfl
        simp (disch := first | assumption | omega | (simp <;> omega) | fail) [hrd]
  · obtain ⟨rules, s6, s7, s8, hl, hr, rfl⟩ := (hJ _ _).mp hI
    have hl2 : rules.length = st := by omega
    obtain ⟨r, hr2, R⟩ := law_turn_ok (su := su) h69 n x 7 (by omega)
    have e7 : ((7 : Nat) : Int) = 7 := rfl
    rw [e7] at R
    obtain ⟨p, p1, p2, P1⟩ := law_pattern_ok (su := su) h69 h71 h72 KO st 1 (n + 1) (r : Int) 1 (by omega)
    rw [e1] at P1
    simp (disch := first | assumption | omega | (simp <;> omega) | fail) [R, P1]
    exact ⟨p, rules, ⟨by rw [hl2]; exact p1, by omega, fun row h => (hr row h).1, fun row h j k p hk hp => by rw [hl2]; exact (hr row h).2 j k p hk hp⟩, hl2, rfl⟩
theorem states_of_ok (h66 : Ps 66 = some f_states_of) (n : Nat) (ins outs : List (Str × Int)) (head : Pt) (rules : List (List Pt)) : runD su Ps (n + 1) 66 [bkD ins outs head rules] = .ok (.int (rules.length : Nat)) [] := by
  rw [runD_eq h66 rfl]
  have i3 : evPrim .idx [bkD ins outs head rules, .int 3] = .ok (.tup (rules.map rwD)) := pr_idx_t3 _ _ _ _ _
  simp (disch := first | assumption | omega | (simp <;> omega) | fail) [f_states_of, startR, i3]
theorem whl_step {c : Rho → Ev Bool} {b : Rho → O} {n : Nat} {ρ ρ' : Rho} {o : O} (hc : c ρ = .ok true ρ') (hb : b ρ' = o) : whlL c b (n + 1) ρ = o.turn (whlL c b n) := by
  unfold whlL
  rw [hc]
  simp [hb]
theorem whl_stop {c : Rho → Ev Bool} {b : Rho → O} {n : Nat} {ρ ρ' : Rho} (hc : c ρ = .ok false ρ') : whlL c b (n + 1) ρ = .nx ρ' := by
  unfold whlL
  rw [hc]
  simp
theorem pattern_of_ok (h67 : Ps 67 = some f_pattern_of) (n : Nat) {ins : List (Str × Int)} (outs : List (Str × Int)) (head : Pt) {rules : List (List Pt)} (nd : (ins.map (·.1)).Nodup) (hl8 : ins.length ≤ 1000) {s j : Nat} {row : List Pt} {k : Str × Int} {p : Pt} (hr : rules[s]? = some row) (hk : ins[j]? = some k) (hp : row[j]? = some p) :
    runD su Ps (n + 1) 67 [bkD ins outs head rules, .int s, .str k.1] = .ok p.d [] := by
  rw [runD_eq h67 rfl]
  have i0 : evPrim .idx [bkD ins outs head rules, .int 0] = .ok (.tup (ins.map kD)) := pr_idx_t0 _ _
  have i3 : evPrim .idx [bkD ins outs head rules, .int 3] = .ok (.tup (rules.map rwD)) := pr_idx_t3 _ _ _ _ _
  have hjl := (List.getElem?_eq_some_iff.mp hk).1
  have X : ∀ i : Nat, ∀ p, ins[i]? = some p → evPrim .idx [.tup (ins.map kD), .int (i : Nat)] = .ok (kD p) := fun i p hp => idx_get rfl (by rw [List.getElem?_map, hp]; rfl)
  have hloop : ∀ (m i : Nat), i + m = j → whlL (whlC ⟨su, runD su Ps n, none⟩ (.op .ne [.op .idx [.op .idx [.op .idx [.var 0, .cst (.int 0)], .var 3], .cst (.int 0)], .var 2])) (evSs ⟨su, runD su Ps n, none⟩ [.asg (.v 3) (.op .add [.var 3, .cst (.int 1)])]) (1000000000 - i) [.fz (bkD ins outs head rules), .fz (.int s), .fz (.str k.1), .fz (.int (i : Nat))] = .nx [.fz (bkD ins outs head rules), .fz (.int s), .fz (.str k.1), .fz (.int (j : Nat))] := by
    intro m
    induction m with
    | zero =>
      intro i hi
      have : i = j := by omega
      subst this
      rw [show 1000000000 - i = (1000000000 - i - 1) + 1 by omega]
      refine whl_stop ?_
      unfold whlC
      simp (disch := first | assumption | omega | (simp <;> omega) | fail) [i0, X i k hk, kd0]
    | succ m ih =>
      intro i hi
      obtain ⟨q, hq⟩ : ∃ q, ins[i]? = some q := ⟨_, List.getElem?_eq_getElem (by omega)⟩
      have hne : ¬ q.1 = k.1 := fun e => by
        have hi1 : (ins.map (·.1))[i]? = some q.1 := by rw [List.getElem?_map, hq]; rfl
        have hj1 : (ins.map (·.1))[j]? = some k.1 := by rw [List.getElem?_map, hk]; rfl
        obtain ⟨l1, g1⟩ := List.getElem?_eq_some_iff.mp hi1
        obtain ⟨l2, g2⟩ := List.getElem?_eq_some_iff.mp hj1
        have := (List.getElem_inj nd).mp (g1.trans (e.trans g2.symm))
        omega
      rw [show 1000000000 - i = (1000000000 - (i + 1)) + 1 by omega]
      rw [whl_step (ρ' := [.fz (bkD ins outs head rules), .fz (.int s), .fz (.str k.1), .fz (.int (i : Nat))]) (o := .nx [.fz (bkD ins outs head rules), .fz (.int s), .fz (.str k.1), .fz (.int ((i + 1 : Nat) : Int))])]
      · exact ih (i + 1) (by omega)
      · unfold whlC
        simp (disch := first | assumption | omega | (simp <;> omega) | fail) [i0, X i q hq, kd0, hne]
      · simp (disch := first | assumption | omega | (simp <;> omega) | fail) []
  have hl := hloop j 0 (by omega)
  have e0 : ((0 : Nat) : Int) = 0 := rfl
  rw [e0, Nat.sub_zero] at hl
  have r1 : evPrim .idx [.tup (rules.map rwD), .int (s : Nat)] = .ok (rwD row) := idx_get rfl (by rw [List.getElem?_map, hr]; rfl)
  have r2 : evPrim .idx [rwD row, .int (j : Nat)] = .ok p.d := idx_get rfl (by rw [List.getElem?_map, hp]; rfl)
  simp (disch := first | assumption | omega | (simp <;> omega) | fail) [f_pattern_of, startR, hl, i3, r1, r2]
end
end Bk

/-! R1: signs, names, words of a text. -/
namespace Bk
open PySem
def isL (c : Nat) : Bool := decide (97 ≤ c) && decide (c < 123)
@[simp] theorem items_str (s : Str) : itemsOf (.str s) = .ok (s.cps.toList.map fun c => D.str ⟨#[c]⟩) := (rfl)
abbrev abc : Str := Str.ofString "abcdefghijklmnopqrstuvwxyz"
theorem abc_cps : abc.cps.toList = (List.range 26).map (97 + ·) := by decide
theorem abc_mem (c : Nat) : decide (c ∈ abc.cps.toList) = isL c := by
  rw [abc_cps]
  unfold isL
  by_cases h : 97 ≤ c ∧ c < 123
  · rw [decide_eq_true h.1, decide_eq_true h.2, Bool.and_self, decide_eq_true]
    exact List.mem_map.mpr ⟨c - 97, List.mem_range.mpr (by omega), by omega⟩
  · have : c ∉ (List.range 26).map (97 + ·) := fun z => by
      obtain ⟨i, hi, e⟩ := List.mem_map.mp z
      have := List.mem_range.mp hi
      omega
    rw [decide_eq_false this]
    by_cases h1 : 97 ≤ c
    · have h2 : ¬ c < 123 := fun z => h ⟨h1, z⟩
      rw [decide_eq_false h2, Bool.and_false]
    · rw [decide_eq_false h1, Bool.false_and]
@[simp] theorem pr_in_abc (c : Nat) : evPrim .inn [.str ⟨#[c]⟩, .str (Str.ofString "abcdefghijklmnopqrstuvwxyz")] = .ok (.bl (isL c)) := by
  show R.ok (D.bl (decide (c ∈ abc.cps.toList))) = _
  rw [abc_mem]
@[simp] theorem pr_notin_abc (c : Nat) : evPrim .notin [.str ⟨#[c]⟩, .str (Str.ofString "abcdefghijklmnopqrstuvwxyz")] = .ok (.bl (!isL c)) := by
  show notR (evPrim .inn [.str ⟨#[c]⟩, .str (Str.ofString "abcdefghijklmnopqrstuvwxyz")]) = _
  rw [pr_in_abc]; rfl
/-- is a text a name -/
def isWd (s : Str) : Bool := s.cps.toList.all isL && (decide (1 ≤ s.length) && decide (s.length ≤ 8))
def lastL : Option Nat → Bool
  | some l => isL l
  | none => false
def lastD : Option Nat → D
  | some l => .str ⟨#[l]⟩
  | none => .str (Str.ofString "")
theorem one_ne (l : Nat) : ¬ (⟨#[l]⟩ : Str) = Str.ofString "" := fun z => by
  have := congrArg Str.length z
  have e1 : (Str.ofString "").length = 0 := rfl
  have e2 : (⟨#[l]⟩ : Str).length = 1 := rfl
  omega
/-- one sign more: the words so far, and the last sign -/
def wStep (w : List (List Nat) × Option Nat) (c : Nat) : List (List Nat) × Option Nat :=
  (if isL c && lastL w.2 then w.1.dropLast ++ [w.1.getLastD [] ++ [c]] else if c = 32 then w.1 else w.1 ++ [[c]], some c)
def wordsL (cs : List Nat) : List (List Nat) := (cs.foldl wStep ([], none)).1
def stL (l : List Nat) : D := .str ⟨l.toArray⟩
section
variable {su : Subs} {Ps : Nat → Option Df}
theorem is_name_ok (h78 : Ps 78 = some f_is_name) (n : Nat) (s : Str) (hs : s.length ≤ 16777216) : runD su Ps (n + 1) 78 [.str s] = .ok (.bl (isWd s)) [] := by
  refine (ret_of h78 rfl rfl ?_).eq
  simp (disch := first | assumption | omega | (simp <;> omega) | fail) [f_is_name, startR]
  refine w_for_l (fun pre ρ => pre.all isL = true ∧ ∃ s1, ρ = [.fz (.str s), s1]) ⟨rfl, _, rfl⟩ (fun pre c post ρ e hI => ?_) (fun ρ hI => ?_)
  · obtain ⟨h, s1, rfl⟩ := hI
    cases hc : isL c with
    | true =>
      simp (disch := first | assumption | omega | (simp <;> omega) | fail) [forB, hc]
      simpa using h
    | false =>
      simp (disch := first | assumption | omega | (simp <;> omega) | fail) [forB, hc]
      unfold isWd
      rw [e]
      simp [hc]
  · obtain ⟨h, s1, rfl⟩ := hI
    by_cases h1 : 1 ≤ s.length
    · have h2 : (1 : Int) ≤ (s.length : Int) := by omega
      have h3 : decide ((s.length : Int) ≤ 8) = decide (s.length ≤ 8) := decide_eq_decide.mpr (by omega)
      simp (disch := first | assumption | omega | (simp <;> omega) | fail) [h2, isWd, h, h1, h3]
    · have h2 : ¬ (1 : Int) ≤ (s.length : Int) := by omega
      simp (disch := first | assumption | omega | (simp <;> omega) | fail) [h2, isWd, h, h1]
theorem words_of_ok (h79 : Ps 79 = some f_words_of) (n : Nat) (s : Str) (hs : s.length ≤ 1000000) : runD su Ps (n + 1) 79 [.str s] = .ok (.lst ((wordsL s.cps.toList).map stL)) [] := by
  refine (ret_of h79 rfl rfl ?_).eq
  simp (disch := first | assumption | omega | (simp <;> omega) | fail) [f_words_of, startR]
  obtain ⟨J, hJ⟩ : ∃ J : List Nat → Rho → Prop, ∀ pre ρ, J pre ρ ↔ ∃ (w : List (List Nat) × Option Nat) (s3 : Sl), w = pre.foldl wStep ([], none) ∧ (∀ l, w.2 = some l → isL l = true → w.1 ≠ []) ∧ w.1.length ≤ pre.length ∧ (∀ x ∈ w.1, x.length ≤ pre.length) ∧
    ρ = [.fz (.str s), .own (.lst (w.1.map stL)), .fz (lastD w.2), s3] := ⟨_, fun _ _ => Iff.rfl⟩
  refine w_for_l J ((hJ _ _).mpr ⟨([], none), _, rfl, (fun l h => by cases h), Nat.le_refl _, (fun x h => nomatch h), rfl⟩) (fun pre c post ρ e hI => ?_) (fun ρ hI => ?_)
  · obtain ⟨w, s3, hw, hne, hl, hx, rfl⟩ := (hJ _ _).mp hI
    have hpl : pre.length < s.length := by
      have := congrArg List.length e
      rw [List.length_append, List.length_cons] at this
      have h2 : s.cps.toList.length = s.length := rfl
      omega
    have hfold : (pre ++ [c]).foldl wStep ([], none) = wStep w c := by rw [List.foldl_append, ← hw]; rfl
    obtain ⟨ws, last⟩ := w
    simp only at hne hl hx
    by_cases hc : isL c = true ∧ ∃ l, last = some l ∧ isL l = true
    · obtain ⟨c1, l, rfl, c2⟩ := hc
      have hn := hne l rfl c2
      obtain ⟨A, b, rfl⟩ : ∃ A b, ws = A ++ [b] := ⟨ws.dropLast, ws.getLast hn, (List.dropLast_concat_getLast hn).symm⟩
      have hst : wStep (A ++ [b], some l) c = (A ++ [b ++ [c]], some c) := by simp [wStep, lastL, c1, c2]
      have hl1 := one_ne l
      have il : ((A.map stL ++ [stL b]).length : Int) - 1 = (A.length : Nat) := by rw [List.length_append, List.length_map]; simp
      have X : evPrim .idx [.lst (A.map stL ++ [stL b]), .int (A.length : Nat)] = .ok (stL b) := idxl_get rfl (by rw [List.getElem?_append_right (by simp)]; simp)
      have bl := hx b (by simp)
      have ad : evPrim .add [stL b, .str ⟨#[c]⟩] = .ok (stL (b ++ [c])) := by
        unfold stL
        rw [pr_add_str _ _ (by rw [len_mk, show (⟨#[c]⟩ : Str).length = 1 from rfl]; omega)]
        congr 2
        exact str_ext (by show (_ ++ _ : Array Nat).toList = _; simp)
      have se : evSet (.lst (A.map stL ++ [stL b])) (.int (A.length : Nat)) (stL (b ++ [c])) = .ok (.lst (A.map stL ++ [stL (b ++ [c])])) := by
        rw [se_lst (by omega) (by rw [Int.toNat_natCast]; simp)]
        congr 2
        rw [Int.toNat_natCast]
        rw [List.set_append_right _ _ (by simp)]
        simp
      refine w_turn_mono (J' := fun ρ => ρ = [.fz (.str s), .own (.lst (A.map stL ++ [stL (b ++ [c])])), .fz (.str ⟨#[c]⟩), .fz (.str ⟨#[c]⟩)]) (fun ρ h => (hJ _ _).mpr ⟨(A ++ [b ++ [c]], some c), .fz (.str ⟨#[c]⟩), by rw [hfold, hst], fun l h1 _ => by simp, by simp only [List.length_append, List.length_cons, List.length_nil] at hl ⊢; omega, fun x h1 => ?_, by rw [h]; simp [lastD]⟩) ?_
      · rw [List.length_append]
        rcases List.mem_append.mp h1 with h1 | h1
        · have := hx x (List.mem_append_left _ h1); simp only [List.length_cons, List.length_nil]; omega
        · rw [List.mem_singleton.mp h1, List.length_append]; simp only [List.length_cons, List.length_nil]; omega
      · have ml : (A.map stL ++ [stL b]) = (A ++ [b]).map stL := by simp
        rw [ml] at il X se
        simp (disch := first | assumption | omega | (simp <;> omega) | fail) [forB, c1, c2, hl1, lastD]
        simp only [List.map_append, List.map_cons, List.map_nil] at il X se
        simp (disch := first | assumption | omega | (simp <;> omega) | fail) [il, X, ad, se]
    · have hcond : (isL c && lastL last) = false := by
        cases h1 : isL c with
        | false => rfl
        | true =>
          cases last with
          | none => rfl
          | some l =>
            cases h2 : isL l with
            | false => simp [lastL, h2]
            | true => exact absurd ⟨h1, l, rfl, h2⟩ hc
      have hml : (ws.map stL).length < 16777216 := by rw [List.length_map]; omega
      have c32 : ((⟨#[c]⟩ : Str) = Str.ofString " ") ↔ c = 32 := by
        constructor
        · intro z
          have h0 : (Str.ofString " ").cps = #[32] := by decide
          have := congrArg Str.cps z
          rw [h0] at this
          simpa using this
        · rintro rfl; decide
      have fin : ∀ ws2, ws2 = (wStep (ws, last) c).1 → ws2.length ≤ ws.length + 1 → (∀ x ∈ ws2, x ∈ ws ∨ x = [c]) → (isL c = true → ws2 ≠ []) → ∀ ρ, ρ = [.fz (.str s), .own (.lst (ws2.map stL)), .fz (.str ⟨#[c]⟩), .fz (.str ⟨#[c]⟩)] → J (pre ++ [c]) ρ := fun ws2 h1 h2 h3 h4 ρ h => (hJ _ _).mpr ⟨(ws2, some c), .fz (.str ⟨#[c]⟩), by rw [hfold, h1]; rfl, fun l hl hll => by cases hl; exact h4 hll, by simp only [List.length_append, List.length_cons, List.length_nil]; omega, fun x hxm => by
        rw [List.length_append]
        rcases h3 x hxm with h | h
        · have := hx x h; omega
        · rw [h]; simp only [List.length_cons, List.length_nil]; omega, by rw [h]; rfl⟩
      by_cases h32 : c = 32
      · have hc0 : isL c = false := by rw [h32]; rfl
        have hw2 : (wStep (ws, last) c).1 = ws := by
          show (if (isL c && lastL last) = true then _ else if c = 32 then ws else _) = ws
          rw [hcond, if_neg (by simp), if_pos h32]
        have hsp : (⟨#[c]⟩ : Str) = Str.ofString " " := c32.mpr h32
        refine w_turn_mono (fin ws hw2.symm (by omega) (fun x h => .inl h) (fun h => by rw [hc0] at h; cases h)) ?_
        simp (disch := first | assumption | omega | (simp <;> omega) | fail) [forB, hc0]
        rw [if_pos hsp]
        simp
      · have hw2 : (wStep (ws, last) c).1 = ws ++ [[c]] := by
          unfold wStep
          simp only [hcond, h32, if_false]
          simp
        have hsp : ¬ (⟨#[c]⟩ : Str) = Str.ofString " " := fun z => h32 (c32.mp z)
        refine w_turn_mono (fin (ws ++ [[c]]) hw2.symm (by simp) (fun x h => by simpa using h) (fun _ => by simp)) ?_
        cases h1 : isL c with
        | false =>
          simp (disch := first | assumption | omega | (simp <;> omega) | fail) [forB, h1]
          rw [if_neg hsp]
          simp [stL]
        | true =>
          cases last with
          | none =>
            simp (disch := first | assumption | omega | (simp <;> omega) | fail) [forB, h1, lastD, hsp]
            simp [stL]
          | some l =>
            have h2 : isL l = false := by simpa [h1, lastL] using hcond
            have hl1 := one_ne l
            simp (disch := first | assumption | omega | (simp <;> omega) | fail) [forB, h1, h2, hl1, lastD, hsp]
            simp [stL]
  · obtain ⟨w, s3, hw, hne, hl, hx, rfl⟩ := (hJ _ _).mp hI
    simp (disch := first | assumption | omega | (simp <;> omega) | fail) []
    unfold wordsL
    rw [← hw]
end
end Bk

/-! R2: trees read from words. -/
namespace Bk
open PySem
/-- the word at a place -/
def wAt (ws : List Str) (i : Nat) : Str := ws.getD i (Str.ofString "")
def sgn (b : Bool) : Str := if b then Str.ofString "(" else Str.ofString ","
/-- so many trees, each behind a sign -/
def lpK (ws : List Str) (f : Nat → Option (Tr × Nat)) : Nat → Bool → Nat → Option (List Tr × Nat)
  | 0, _, a => some ([], a)
  | m + 1, b, a => if wAt ws a = sgn b then (match f (a + 1) with
      | some (t, a2) => (match lpK ws f m false a2 with | some (ts, e) => some (t :: ts, e) | none => none)
      | none => none) else none
def kdK (ws : List Str) (f : Nat → Option (Tr × Nat)) (m a : Nat) : Option (List Tr × Nat) := match lpK ws f m true a with
  | some (ts, e) => if 0 < m then (if wAt ws e = Str.ofString ")" then some (ts, e + 1) else none) else some (ts, e)
  | none => none
/-- the tree at a place, at most so tall -/
def trK (ks : List (Str × Int)) (ws : List Str) : Nat → Nat → Option (Tr × Nat)
  | 0, _ => none
  | d + 1, a => if isWd (wAt ws a) = true ∧ 0 ≤ manyOf ks (wAt ws a) then (match kdK ws (trK ks ws d) (manyOf ks (wAt ws a)).toNat (a + 1) with
      | some (us, e) => some (.mk (wAt ws a) us, e)
      | none => none) else none
def rsK : Option (Tr × Nat) → Rs
  | some (t, e) => .ok (.tup [t.d, .int (e : Nat)]) []
  | none => .exc 2 []
def rsL : Option (List Tr × Nat) → Rs
  | some (ts, e) => .ok (.tup [.tup (ts.map Tr.d), .int (e : Nat)]) []
  | none => .exc 2 []
theorem lpK_bound {ws : List Str} {f : Nat → Option (Tr × Nat)} (hf : ∀ a t e, f a = some (t, e) → e ≤ ws.length) : ∀ (m : Nat) (b : Bool) (a : Nat) (ts : List Tr) (e : Nat), a ≤ ws.length → lpK ws f m b a = some (ts, e) → e ≤ ws.length ∧ ts.length = m
  | 0, b, a, ts, e, ha, h => by
    rw [lpK] at h
    cases h
    exact ⟨ha, rfl⟩
  | m + 1, b, a, ts, e, ha, h => by
    rw [lpK] at h
    split at h
    · split at h
      · rename_i t a2 hfa
        split at h
        · rename_i ts2 e2 hl
          cases h
          have := lpK_bound hf m false a2 ts2 e (hf _ _ _ hfa) hl
          exact ⟨this.1, by simp [this.2]⟩
        · cases h
      · cases h
    · cases h
theorem empty_ne : Str.ofString "" ≠ Str.ofString "(" ∧ Str.ofString "" ≠ Str.ofString "," ∧ Str.ofString "" ≠ Str.ofString ")" := by decide
theorem wAt_lt {ws : List Str} {i : Nat} {s : Str} (h : wAt ws i = s) (hs : s ≠ Str.ofString "") : i < ws.length := by
  by_cases hi : i < ws.length
  · exact hi
  · exfalso
    unfold wAt at h
    rw [List.getD_eq_getElem?_getD, List.getElem?_eq_none (by omega)] at h
    exact hs h.symm
theorem trK_bound {ks : List (Str × Int)} {ws : List Str} : ∀ (d a : Nat) (t : Tr) (e : Nat), trK ks ws d a = some (t, e) → e ≤ ws.length
  | 0, a, t, e, h => by cases h
  | d + 1, a, t, e, h => by
    rw [trK] at h
    split at h
    · rename_i hc
      have ha : a < ws.length := wAt_lt (s := wAt ws a) rfl (fun z => by
        have := hc.1
        rw [z] at this
        revert this; decide)
      split at h
      · rename_i us e2 hk
        cases h
        unfold kdK at hk
        split at hk
        · rename_i ts e3 hl
          have b := (lpK_bound (fun a t e h => trK_bound d a t e h) _ _ _ _ _ (by omega) hl).1
          split at hk
          · split at hk
            · rename_i hp
              cases hk
              have := wAt_lt hp (by decide)
              omega
            · cases hk
          · cases hk; exact b
        · cases hk
      · cases h
    · cases h
section
variable {su : Subs} {Ps : Nat → Option Df}
theorem word_at_ok (h80 : Ps 80 = some f_word_at) (n : Nat) (ws : List Str) (a : Nat) : runD su Ps (n + 1) 80 [.lst (ws.map D.str), .int a] = .ok (.str (wAt ws a)) [] := by
  rw [runD_eq h80 rfl]
  unfold wAt
  by_cases h : a < ws.length
  · have h2 : (a : Int) < (ws.length : Int) := by omega
    have X : evPrim .idx [.lst (ws.map D.str), .int (a : Nat)] = .ok (.str ws[a]) := idxl_get rfl (by rw [List.getElem?_map, List.getElem?_eq_getElem h]; rfl)
    simp (disch := first | assumption | omega | (simp <;> omega) | fail) [f_word_at, startR, h, X]
  · have h2 : ¬ (a : Int) < (ws.length : Int) := by omega
    have h3 : ws.getD a (Str.ofString "") = Str.ofString "" := by rw [List.getD_eq_getElem?_getD, List.getElem?_eq_none (by omega)]; rfl
    rw [h3]
    simp (disch := first | assumption | omega | (simp <;> omega) | fail) [f_word_at, startR, h]
theorem kids_at_ok (h80 : Ps 80 = some f_word_at) (h81 : Ps 81 = some f_kids_at) (n : Nat) (ks : List (Str × Int)) (ws : List Str) (hws : ∀ w ∈ ws, w.length ≤ 16777216) (d : Nat)
    (ih : ∀ a, runD su Ps n 82 [.tup (ks.map kD), .lst (ws.map D.str), .int (a : Nat), .int d] = rsK (trK ks ws d a)) (m : Nat) (hm : m ≤ 100) (a : Nat) (h1 : 1 ≤ n) :
    runD su Ps (n + 1) 81 [.tup (ks.map kD), .lst (ws.map D.str), .int (a : Nat), .int (m : Nat), .int ((d : Int) + 1)] = rsL (kdK ws (trK ks ws d) m a) := by
  obtain ⟨n', rfl⟩ : ∃ n', n = n' + 1 := ⟨n - 1, by omega⟩
  have wa := word_at_ok (su := su) h80 n' ws
  suffices hw : RetX (runD su Ps (n' + 1 + 1) 81 [.tup (ks.map kD), .lst (ws.map D.str), .int (a : Nat), .int (m : Nat), .int ((d : Int) + 1)]) (fun x => ∃ ts e, kdK ws (trK ks ws d) m a = some (ts, e) ∧ x = .tup [.tup (ts.map Tr.d), .int (e : Nat)]) (fun c => c = 2 ∧ kdK ws (trK ks ws d) m a = none) by
    rcases hw with ⟨x, e, ts, z, h, rfl⟩ | ⟨c, e, rfl, h⟩
    · rw [e, h]; rfl
    · rw [e, h]; rfl
  refine retX_of h81 rfl rfl ?_
  simp (disch := first | assumption | omega | (simp <;> omega) | fail) [f_kids_at, startR]
  obtain ⟨KR, hKR⟩ : ∃ x, x = kdK ws (trK ks ws d) m a := ⟨_, rfl⟩
  rw [← hKR]
  refine w_for_r (fun i ρ => ∃ (us : List Tr) (a2 : Nat) (s6 s7 : Sl), us.length = i ∧
    KR = (match lpK ws (trK ks ws d) (m - i) (decide (i = 0)) a2 with | some (ts, e) => (if 0 < m then (if wAt ws e = Str.ofString ")" then some (us ++ ts, e + 1) else none) else some (us ++ ts, e)) | none => none) ∧
    ρ = [.fz (.tup (ks.map kD)), .fz (.lst (ws.map D.str)), .fz (.int (a2 : Nat)), .fz (.int (m : Nat)), .fz (.int ((d : Int) + 1)), .fz (.tup (us.map Tr.d)), s6, s7]) ⟨[], a, _, _, rfl, by rw [hKR]; simp [kdK], rfl⟩ (fun i ρ hi hI => ?_) (fun ρ hI => ?_)
  · obtain ⟨us, a2, s6, s7, hl, hK, rfl⟩ := hI
    have hi' : i < m := by omega
    obtain ⟨r, hr⟩ : ∃ r, m - i = r + 1 := ⟨m - i - 1, by omega⟩
    rw [hr, lpK] at hK
    have sg : evPrim .idx [.lst [.str (Str.ofString "("), .str (Str.ofString ",")], .int (if 0 < i then 1 else 0)] = .ok (.str (sgn (decide (i = 0)))) := by
      unfold sgn
      by_cases z : i = 0
      · subst z; exact idxl_get (j := 0) rfl rfl
      · rw [if_pos (by omega), if_neg (by simpa using z)]; exact idxl_get (j := 1) rfl rfl
    obtain ⟨SG, hSG⟩ : ∃ x, x = sgn (decide (i = 0)) := ⟨_, rfl⟩
    rw [← hSG] at hK sg
    by_cases c : wAt ws a2 = SG
    · rw [if_pos c] at hK
      have iha := ih (a2 + 1)
      rw [show ((a2 + 1 : Nat) : Int) = (a2 : Int) + 1 by omega] at iha
      cases ht : trK ks ws d (a2 + 1) with
      | none =>
        rw [ht] at hK iha
        simp only [rsK] at iha
        simp only at hK
        simp (disch := first | assumption | omega | (simp <;> omega) | fail) [forB, wa, sg, c, iha]
        exact hK
      | some p =>
        obtain ⟨t, a3⟩ := p
        rw [ht] at hK iha
        simp only [rsK] at iha
        simp only at hK
        have hlm : (us.map Tr.d).length ≤ 100 := by rw [List.length_map]; omega
        refine w_turn_mono (J' := fun ρ => ∃ s6 s7, ρ = [.fz (.tup (ks.map kD)), .fz (.lst (ws.map D.str)), .fz (.int (a3 : Nat)), .fz (.int (m : Nat)), .fz (.int ((d : Int) + 1)), .fz (.tup (us.map Tr.d ++ [t.d])), s6, s7]) (fun ρ ⟨s6, s7, e⟩ => ⟨us ++ [t], a3, s6, s7, by simp [hl], ?_, by rw [e]; simp⟩) ?_
        · rw [hK, show m - (i + 1) = r by omega, show decide (i + 1 = 0) = false by simp]
          cases lpK ws (trK ks ws d) r false a3 with
          | none => rfl
          | some q => simp
        · simp (disch := first | assumption | omega | (simp <;> omega) | fail) [forB, wa, sg, c, iha]
    · rw [if_neg c] at hK
      simp only at hK
      simp (disch := first | assumption | omega | (simp <;> omega) | fail) [forB, wa, sg, c]
      exact hK
  · obtain ⟨us, a2, s6, s7, hl, hK, rfl⟩ := hI
    have e0 : m - us.length = 0 := by omega
    rw [hl] at e0
    rw [e0, lpK] at hK
    simp only [List.append_nil] at hK
    by_cases hm0 : 0 < m
    · rw [if_pos hm0] at hK
      by_cases c : wAt ws a2 = Str.ofString ")"
      · rw [if_pos c] at hK
        have hmi : (0 : Int) < (m : Int) := by omega
        simp (disch := first | assumption | omega | (simp <;> omega) | fail) [wa, c, hm0]
        exact ⟨us, a2 + 1, hK, by simp⟩
      · rw [if_neg c] at hK
        simp (disch := first | assumption | omega | (simp <;> omega) | fail) [wa, c, hm0]
        exact hK
    · rw [if_neg hm0] at hK
      have : m = 0 := by omega
      simp (disch := first | assumption | omega | (simp <;> omega) | fail) [this]
      exact ⟨us, a2, hK, by simp⟩
theorem tree_at_ok (h54 : Ps 54 = some f_many_of) (h78 : Ps 78 = some f_is_name) (h80 : Ps 80 = some f_word_at) (h81 : Ps 81 = some f_kids_at) (h82 : Ps 82 = some f_tree_at) (ks : List (Str × Int)) (h3 : ∀ p ∈ ks, p.2 ≤ 3) (ws : List Str) (hws : ∀ w ∈ ws, w.length ≤ 16777216) : ∀ (d n a : Nat), 2 * d + 2 ≤ n →
    runD su Ps n 82 [.tup (ks.map kD), .lst (ws.map D.str), .int (a : Nat), .int d] = rsK (trK ks ws d a)
  | d, 0, a, h => by omega
  | d, 1, a, h => by omega
  | d, n + 2, a, h => by
    have wa := word_at_ok (su := su) h80 n ws a
    have mo := many_of_ok (su := su) h54 n ks (wAt ws a)
    have wl : (wAt ws a).length ≤ 16777216 := by
      unfold wAt
      rw [List.getD_eq_getElem?_getD]
      cases e : ws[a]? with
      | none => exact (by decide : (Str.ofString "").length ≤ 16777216)
      | some w => exact hws w (List.mem_of_getElem? e)
    have nmk := is_name_ok (su := su) h78 n (wAt ws a) wl
    rw [runD_eq h82 rfl]
    cases d with
    | zero =>
      rw [trK]
      simp (disch := first | assumption | omega | (simp <;> omega) | fail) [f_tree_at, startR, wa, mo, rsK]
    | succ d =>
      rw [trK]
      have hd : ¬ ((d : Int) + 1 = 0) := by omega
      by_cases c1 : isWd (wAt ws a) = true
      · by_cases c2 : 0 ≤ manyOf ks (wAt ws a)
        · rw [if_pos ⟨c1, c2⟩]
          have hm3 : manyOf ks (wAt ws a) ≤ 3 := h3 _ (manyOf_in (by omega))
          have kk := kids_at_ok (su := su) h80 h81 n ks ws hws d (fun a => tree_at_ok h54 h78 h80 h81 h82 ks h3 ws hws d n a (by omega)) (manyOf ks (wAt ws a)).toNat (by omega) (a + 1) (by omega)
          rw [Int.toNat_of_nonneg c2, show ((a + 1 : Nat) : Int) = (a : Int) + 1 by omega] at kk
          have c3 : ¬ manyOf ks (wAt ws a) < 0 := by omega
          cases hk : kdK ws (trK ks ws d) (manyOf ks (wAt ws a)).toNat (a + 1) with
          | none =>
            rw [hk] at kk
            simp only [rsL] at kk
            simp (disch := first | assumption | omega | (simp <;> omega) | fail) [f_tree_at, startR, wa, mo, nmk, hd, c1, c3, kk, rsK]
          | some p =>
            obtain ⟨us, e⟩ := p
            rw [hk] at kk
            simp only [rsL] at kk
            have hul : us.length ≤ 3 := by
              unfold kdK at hk
              split at hk
              · rename_i ts e3 hl
                have := (lpK_bound (fun a t e h => trK_bound d a t e h) _ _ _ _ _ (by
                  have := wAt_lt (ws := ws) (i := a) (s := wAt ws a) rfl (fun z => by
                    rw [z] at c1
                    revert c1; decide)
                  omega) hl).2
                split at hk
                · split at hk
                  · cases hk; omega
                  · cases hk
                · cases hk; omega
              · cases hk
            have hlm : (us.map Tr.d).length ≤ 3 := by rw [List.length_map]; exact hul
            simp (disch := first | assumption | omega | (simp <;> omega) | fail) [f_tree_at, startR, wa, mo, nmk, hd, c1, c3, kk, rsK, Tr.d, Tr.dL_map]
        · rw [if_neg (fun z => c2 z.2)]
          have c3 : manyOf ks (wAt ws a) < 0 := by omega
          simp (disch := first | assumption | omega | (simp <;> omega) | fail) [f_tree_at, startR, wa, mo, nmk, hd, c1, c3, rsK]
      · rw [if_neg (fun z => c1 z.1)]
        simp (disch := first | assumption | omega | (simp <;> omega) | fail) [f_tree_at, startR, wa, mo, nmk, hd, c1, rsK]
end
end Bk

namespace Bk
open PySem
section
variable {su : Subs} {Ps : Nat → Option Df}
theorem law_same_ok (h13 : Ps 13 = some f_law_same) : ∀ (n : Nat) (d : D), tsi n d → runD su Ps n 13 [d, d] = .ok (.bl true) []
  | 0, _, h => h.elim
  | n + 1, .str s, _ => by
    rw [runD_eq h13 rfl]
    simp [f_law_same, startR, isTy, ofOpt]
  | n + 1, .int s, _ => by
    rw [runD_eq h13 rfl]
    simp [f_law_same, startR, isTy, ofOpt]
  | n + 1, .tup xs, h => by
    rw [runD_eq h13 rfl]
    have hR := forL_rng (f := forB ⟨su, runD su Ps n, none⟩ (.v 2) (nth (nth f_law_same.body 0).thn 1).loop) xs.length (fun i => [.fz (.tup xs), .fz (.tup xs), lv i]) fun i hi => by
      have hx : evPrim .idx [.tup xs, .int (i : Nat)] = .ok xs[i] := pr_idx_tup (by omega) (by simp [hi])
      have ih := law_same_ok h13 n xs[i] (h.2 _ (List.getElem_mem hi))
      simp [forB, nth, f_law_same, S.loop, S.thn, hx, ih, lv]
    simp only [nth, f_law_same, S.loop, S.thn, List.getD_cons_succ, List.getD_cons_zero, lv] at hR
    have hl := h.1
    simp (disch := first | assumption | omega | (simp <;> omega) | fail) [f_law_same, startR, isTy, ofOpt, hR]
  | n + 1, .non, h => h.elim
  | n + 1, .bl _, h => h.elim
  | n + 1, .lst _, h => h.elim
  | n + 1, .dct _ _ _, h => h.elim
  | n + 1, .fn _, h => h.elim
  | n + 1, .obj _ _ _, h => h.elim
  | n + 1, .box _, h => h.elim
  | n + 1, .gone, h => h.elim
  | n + 1, .scr _, h => h.elim
end
end Bk

/-! G6: calls listed. -/
namespace Bk
open PySem
/-- a place, and what is called there -/
abbrev Cl := List Int × (Nat × Nat)
def clD (x : Cl) : D := .tup [pD x.1, .tup [.int x.2.1, .int x.2.2]]
mutual
def Pt.calls : Pt → List Cl
  | .call q k => [([], (q, k))]
  | .mk _ us => Pt.callsL 0 us
def Pt.callsL : Nat → List Pt → List Cl
  | _, [] => []
  | k, u :: us => u.calls.map (fun x => ((k : Int) :: x.1, x.2)) ++ Pt.callsL (k + 1) us
end
mutual
theorem Pt.calls_len : ∀ t : Pt, t.calls.length ≤ t.size
  | .call q k => by rw [Pt.calls, Pt.size]; exact Nat.le_refl _
  | .mk nm us => by
    have := Pt.callsL_len us 0
    rw [Pt.calls, Pt.size]; omega
theorem Pt.callsL_len : ∀ (us : List Pt) (k : Nat), (Pt.callsL k us).length ≤ Pt.sizeL us
  | [], _ => by rw [Pt.callsL]; exact Nat.zero_le _
  | u :: us, k => by
    have h1 := Pt.calls_len u
    have h2 := Pt.callsL_len us (k + 1)
    rw [Pt.callsL, Pt.sizeL, List.length_append, List.length_map]; omega
end
theorem Pt.callsL_snoc (u : Pt) : ∀ (us : List Pt) (k : Nat), Pt.callsL k (us ++ [u]) = Pt.callsL k us ++ u.calls.map (fun x => (((k + us.length : Nat) : Int) :: x.1, x.2))
  | [], k => by simp [Pt.callsL]
  | v :: us, k => by
    rw [List.cons_append, Pt.callsL, Pt.callsL_snoc u us (k + 1), Pt.callsL, List.append_assoc, List.length_cons, show k + 1 + us.length = k + (us.length + 1) by omega]
theorem Pt.sizeL_take (i : Nat) : ∀ us : List Pt, Pt.sizeL (us.take i) ≤ Pt.sizeL us := by
  induction i with
  | zero => intro us; simp [Pt.sizeL]
  | succ i ih =>
    intro us
    cases us with
    | nil => simp
    | cons u us =>
      rw [List.take_succ_cons, Pt.sizeL, Pt.sizeL]
      have := ih us
      omega
mutual
theorem Pt.call_short : ∀ (t : Pt) (x : Cl), x ∈ t.calls → x.1.length < t.high
  | .call q k, x, h => by
    rw [Pt.calls] at h
    rw [List.mem_singleton.mp h, Pt.high]
    simp
  | .mk nm us, x, h => by
    rw [Pt.calls] at h
    have := Pt.callL_short us 0 x h
    rw [Pt.high]; omega
theorem Pt.callL_short : ∀ (us : List Pt) (k : Nat) (x : Cl), x ∈ Pt.callsL k us → x.1.length ≤ Pt.highL us
  | [], _, x, h => by rw [Pt.callsL] at h; cases h
  | u :: us, k, x, h => by
    rw [Pt.callsL] at h
    rw [Pt.highL]
    rcases List.mem_append.mp h with h | h
    · obtain ⟨q, hq, rfl⟩ := List.mem_map.mp h
      have := Pt.call_short u q hq
      simp only [List.length_cons]; omega
    · have := Pt.callL_short us (k + 1) x h; omega
end
section
variable {su : Subs} {Ps : Nat → Option Df}
theorem calls_in_ok (h29 : Ps 29 = some f_calls_in) {ks : List (Str × Int)} (hne : ∀ p ∈ ks, p.1 ≠ Str.ofString "?") : ∀ (n : Nat) (t : Pt), t.high ≤ n → t.kin ks → t.size ≤ 1000 → t.high ≤ 1000 → runD su Ps n 29 [t.d] = .ok (.lst (t.calls.map clD)) []
  | 0, .mk nm us, h, _, _, _ => by rw [Pt.high] at h; omega
  | 0, .call q k, h, _, _, _ => by rw [Pt.high] at h; omega
  | n + 1, .call q k, h, hf, hm, hh => by
    rw [runD_eq h29 rfl]
    simp [f_calls_in, startR, Pt.d, Pt.calls, clD, pD]
  | n + 1, .mk nm us, h, hf, hm, hh => by
    rw [Pt.high] at h hh
    rw [Pt.kin] at hf
    rw [Pt.size] at hm
    have hn : nm ≠ Str.ofString "?" := hne _ hf.1
    have hlen := Pt.size_len us
    rw [runD_eq h29 rfl]
    have hR := forL_rng2 (f := forB ⟨su, runD su Ps n, none⟩ (.v 2) (nth f_calls_in.body 2).loop) 1 ((us.length : Int) + 1)
      (fun i => [.fz (.tup (.str nm :: us.map Pt.d)), .own (.lst ((Pt.callsL 0 (us.take i)).map clD)), lv1 i, .un, .un]) fun i hi => by
        have hi' : i < us.length := by omega
        have hx : evPrim .idx [.tup (.str nm :: us.map Pt.d), .int (1 + (i : Nat))] = .ok us[i].d := pr_idx_tup (by omega) (by
          rw [show (1 + (i : Nat) : Int).toNat = i + 1 by omega, List.getElem?_cons_succ, List.getElem?_map, List.getElem?_eq_getElem hi']
          rfl)
        have hmem : us[i] ∈ us := List.getElem_mem hi'
        have b1 := Pt.high_mem hmem
        have b2 := Pt.size_mem hmem
        have ih := calls_in_ok h29 hne n us[i] (by omega) (Pt.kin_mem hf.2 hmem) (by omega) (by omega)
        have e5 := Pt.calls_len us[i]
        have hc := ev_comp (q := ⟨su, runD su Ps n, none⟩) (elt := .op .tup [.op .add [.op .tup [.op .sub [.var 2, .cst (.int 1)]], .var 3], .var 4]) (it := .call 29 [.op .idx [.var 0, .var 2]]) (tg := .t [3, 4])
          (ρ := [.fz (.tup (.str nm :: us.map Pt.d)), .own (.lst ((Pt.callsL 0 (us.take i)).map clD)), .fz (.int (1 + (i : Nat))), .un, .un]) us[i].calls clD (fun x => clD ((i : Int) :: x.1, x.2)) (x := .lst (us[i].calls.map clD)) rfl (by simp [hx, ih]) rfl (fun x hp => by
            have hps := Pt.call_short us[i] x hp
            have e : (1 + (i : Int) - 1) = i := by omega
            simp (disch := first | assumption | omega | (simp <;> omega) | fail) [cmpB, wipeR, pD, clD, e]) (by simp [wipeR, backR]) (by show _ ≤ 16777216; omega)
        have e1 : us.take (i + 1) = us.take i ++ [us[i]] := by rw [List.take_add_one, List.getElem?_eq_getElem hi']; rfl
        have e2 : (us.take i).length = i := by rw [List.length_take]; omega
        have e3 := Pt.sizeL_take i us
        have e4 := Pt.callsL_len (us.take i) 0
        obtain ⟨A, hA⟩ : ∃ A, A = (Pt.callsL 0 (us.take i)).map clD := ⟨_, rfl⟩
        obtain ⟨B, hB⟩ : ∃ B, B = us[i].calls.map (fun x => clD ((i : Int) :: x.1, x.2)) := ⟨_, rfl⟩
        have hAl : A.length ≤ 2000 := by rw [hA, List.length_map]; omega
        have hBl : B.length ≤ 2000 := by rw [hB, List.length_map]; omega
        have hAB : (Pt.callsL 0 (us.take (i + 1))).map clD = A ++ B := by
          rw [e1, Pt.callsL_snoc, hA, hB, e2]
          simp [Function.comp_def]
        show forB ⟨su, runD su Ps n, none⟩ (.v 2) (nth f_calls_in.body 2).loop (.int (1 + (i : Nat))) [.fz (.tup (.str nm :: us.map Pt.d)), .own (.lst ((Pt.callsL 0 (us.take i)).map clD)), lv1 i, .un, .un] = O.nx [.fz (.tup (.str nm :: us.map Pt.d)), .own (.lst ((Pt.callsL 0 (us.take (i + 1))).map clD)), .fz (.int (1 + (i : Nat))), .un, .un]
        rw [hAB]
        rw [← hA] at hc ⊢
        rw [← hB] at hc
        simp (disch := first | assumption | omega | (simp <;> omega) | fail) [forB, nth, f_calls_in, S.loop, hc]
    rw [show ((us.length : Int) + 1 - 1).toNat = us.length by omega, List.take_length] at hR
    simp only [nth, f_calls_in, S.loop, List.getD_cons_succ, List.getD_cons_zero, lv1, List.take_zero, Pt.callsL, List.map_nil] at hR
    simp (disch := first | assumption | omega | (simp <;> omega) | fail) [f_calls_in, startR, Pt.d, Pt.dL_map, hR, Pt.calls, hn]
theorem call_walk_ok (h33 : Ps 33 = some f_law_walk_2) {ks : List (Str × Int)} (hne : ∀ p ∈ ks, p.1 ≠ Str.ofString "?") : ∀ (n : Nat) (t : Pt) (p : List Int), t.high ≤ n → t.kin ks → t.size ≤ 1000 → t.high + p.length ≤ 1000 → runD su Ps n 33 [t.d, pD p] = .ok (.lst (t.calls.map fun x => clD (p ++ x.1, x.2))) []
  | 0, .mk nm us, _, h, _, _, _ => by rw [Pt.high] at h; omega
  | 0, .call q k, _, h, _, _, _ => by rw [Pt.high] at h; omega
  | n + 1, .call q k, p, h, hf, hm, hh => by
    rw [runD_eq h33 rfl]
    simp [f_law_walk_2, startR, Pt.d, Pt.calls, clD, pD]
  | n + 1, .mk nm us, p, h, hf, hm, hh => by
    rw [Pt.high] at h hh
    rw [Pt.kin] at hf
    rw [Pt.size] at hm
    have hn : nm ≠ Str.ofString "?" := hne _ hf.1
    have hlen := Pt.size_len us
    rw [runD_eq h33 rfl]
    have hR := forL_rng2 (f := forB ⟨su, runD su Ps n, none⟩ (.v 3) (nth f_law_walk_2.body 2).loop) 1 ((us.length : Int) + 1)
      (fun i => [.fz (.tup (.str nm :: us.map Pt.d)), .fz (.tup (p.map D.int)), .own (.lst ((Pt.callsL 0 (us.take i)).map fun x => clD (p ++ x.1, x.2))), lv1 i]) fun i hi => by
        have hi' : i < us.length := by omega
        have hx : evPrim .idx [.tup (.str nm :: us.map Pt.d), .int (1 + (i : Nat))] = .ok us[i].d := pr_idx_tup (by omega) (by
          rw [show (1 + (i : Nat) : Int).toNat = i + 1 by omega, List.getElem?_cons_succ, List.getElem?_map, List.getElem?_eq_getElem hi']
          rfl)
        have hmem : us[i] ∈ us := List.getElem_mem hi'
        have b1 := Pt.high_mem hmem
        have b2 := Pt.size_mem hmem
        have ih := call_walk_ok h33 hne n us[i] (p ++ [(i : Int)]) (by omega) (Pt.kin_mem hf.2 hmem) (by omega) (by rw [List.length_append]; simp only [List.length_cons, List.length_nil]; omega)
        have e0 : (1 + (i : Int) - 1) = i := by omega
        have e1 : us.take (i + 1) = us.take i ++ [us[i]] := by rw [List.take_add_one, List.getElem?_eq_getElem hi']; rfl
        have e2 : (us.take i).length = i := by rw [List.length_take]; omega
        have e3 := Pt.sizeL_take i us
        have e4 := Pt.callsL_len (us.take i) 0
        have e5 := Pt.calls_len us[i]
        obtain ⟨A, hA⟩ : ∃ A, A = (Pt.callsL 0 (us.take i)).map (fun x => clD (p ++ x.1, x.2)) := ⟨_, rfl⟩
        obtain ⟨B, hB⟩ : ∃ B, B = us[i].calls.map (fun x => clD ((p ++ [(i : Int)]) ++ x.1, x.2)) := ⟨_, rfl⟩
        have hAl : A.length ≤ 2000 := by rw [hA, List.length_map]; omega
        have hBl : B.length ≤ 2000 := by rw [hB, List.length_map]; omega
        have hAB : (Pt.callsL 0 (us.take (i + 1))).map (fun x => clD (p ++ x.1, x.2)) = A ++ B := by
          rw [e1, Pt.callsL_snoc, hA, hB, e2]
          simp [Function.comp_def]
        show forB ⟨su, runD su Ps n, none⟩ (.v 3) (nth f_law_walk_2.body 2).loop (.int (1 + (i : Nat))) [.fz (.tup (.str nm :: us.map Pt.d)), .fz (.tup (p.map D.int)), .own (.lst ((Pt.callsL 0 (us.take i)).map fun x => clD (p ++ x.1, x.2))), lv1 i] = O.nx [.fz (.tup (.str nm :: us.map Pt.d)), .fz (.tup (p.map D.int)), .own (.lst ((Pt.callsL 0 (us.take (i + 1))).map fun x => clD (p ++ x.1, x.2))), .fz (.int (1 + (i : Nat)))]
        rw [hAB, ← hA]
        rw [← hB] at ih
        simp only [pD, List.map_append, List.map_cons, List.map_nil] at ih
        simp (disch := first | assumption | omega | (simp <;> omega) | fail) [forB, nth, f_law_walk_2, S.loop, hx, ih, e0]
    rw [show ((us.length : Int) + 1 - 1).toNat = us.length by omega, List.take_length] at hR
    simp only [nth, f_law_walk_2, S.loop, List.getD_cons_succ, List.getD_cons_zero, lv1, List.take_zero, Pt.callsL, List.map_nil] at hR
    rw [Pt.calls]
    generalize (Pt.callsL 0 us).map (fun x => clD (p ++ x.1, x.2)) = A at *
    simp (disch := first | assumption | omega | (simp <;> omega) | fail) [f_law_walk_2, startR, Pt.d, Pt.dL_map, hR, hn, pD]
end
end Bk

/-! M1: kinds_of, good_pattern, made_book. -/
namespace Bk
open PySem
/-- kinds whose names are names -/
structure KsW (ks : List (Str × Int)) : Prop extends KsB ks where
  wd : ∀ p ∈ ks, isWd p.1 = true
theorem dLook_app {k : D} : ∀ {ks vs : List D}, (∀ x ∈ ks, D.beq x k = false) → dLook k ks vs = none
  | [], vs, _ => rfl
  | x :: ks, [], _ => rfl
  | x :: ks, v :: vs, h => by
    rw [dLook, h x List.mem_cons_self]
    exact dLook_app fun y hy => h y (List.mem_cons_of_mem _ hy)
theorem dHas_app {k : D} {ks : List D} (h : ∀ x ∈ ks, D.beq x k = false) : dHas k ks = false := by
  unfold dHas
  rw [List.any_eq_false]
  intro x hx
  rw [h x hx]
  exact Bool.false_ne_true
def trues (ks : List (Str × Int)) : List D := ks.map fun _ => D.bl true
def nmsD (ks : List (Str × Int)) : List D := ks.map fun p => D.str p.1
theorem nmsD_not {ks : List (Str × Int)} {s : Str} (h : s ∉ ks.map (·.1)) : ∀ x ∈ nmsD ks, D.beq x (.str s) = false := by
  intro x hx
  obtain ⟨p, hp, rfl⟩ := List.mem_map.mp hx
  rw [D.beq]
  refine decide_eq_false fun e => h ?_
  rw [← e]
  exact List.mem_map.mpr ⟨p, hp, rfl⟩
theorem pr_din_nms {ks : List (Str × Int)} {s : Str} (h : s ∉ ks.map (·.1)) : evPrim .din [.str s, .dct 0 (nmsD ks) (trues ks)] = .ok (.bl false) := by
  show evDin (.dct 0 (nmsD ks) (trues ks)) (.str s) = _
  simp only [evDin, dLook_app (nmsD_not h)]
  rfl
theorem se_nms {ks : List (Str × Int)} {s : Str} {m : Int} (h : s ∉ ks.map (·.1)) (hl : ks.length ≤ 1000) : evSet (.dct 0 (nmsD ks) (trues ks)) (.str s) (.bl true) = .ok (.dct 0 (nmsD (ks ++ [(s, m)])) (trues (ks ++ [(s, m)]))) := by
  unfold evSet
  have h1 : (nmsD ks).length < sizeLine := by
    unfold nmsD
    rw [List.length_map]
    exact Nat.lt_of_le_of_lt hl (by decide)
  have h2 : isKey 0 (.str s) = true := rfl
  simp only [h1, h2, decide_true, Bool.and_self, if_true]
  unfold dPutK dPutV
  rw [dHas_app (nmsD_not h)]
  simp [nmsD, trues]
section
variable {su : Subs} {Ps : Nat → Option Df}
theorem kinds_of_ok (h78 : Ps 78 = some f_is_name) (h176 : Ps 176 = some f_kinds_of) {ks : List (Str × Int)} (K : KsW ks) (n : Nat) {x : D} (hx : x = .tup (ks.map kD) ∨ x = .lst (ks.map kD)) : runD su Ps (n + 2) 176 [x] = .ok (.tup (ks.map kD)) [] := by
  have kl := K.len
  have hi : itemsOf x = .ok (ks.map kD) := by rcases hx with rfl | rfl <;> rfl
  have hln : evPrim .len [x] = .ok (.int (ks.length : Nat)) := by
    rcases hx with rfl | rfl
    · show R.ok (D.int ((ks.map kD).length : Nat)) = _
      rw [List.length_map]
    · show R.ok (D.int ((ks.map kD).length : Nat)) = _
      rw [List.length_map]
  clear hx
  refine (ret_of h176 rfl rfl ?_).eq
  simp (disch := first | assumption | omega | (simp <;> omega) | fail) [f_kinds_of, startR, hi]
  obtain ⟨J, hJ⟩ : ∃ J : List (Str × Int) → Rho → Prop, ∀ pre ρ, J pre ρ ↔ ∃ s3 s4, ρ = [.fz x, .own (.dct 0 (nmsD pre) (trues pre)), .fz (.bl (pre.any fun p => decide (p.2 = 0))), s3, s4] := ⟨_, fun _ _ => Iff.rfl⟩
  refine w_for_l J ((hJ _ _).mpr ⟨_, _, rfl⟩) (fun pre p post ρ e hI => ?_) (fun ρ hI => ?_)
  · obtain ⟨s3, s4, rfl⟩ := (hJ _ _).mp hI
    obtain ⟨nm, m⟩ := p
    have hp : (nm, m) ∈ ks := by rw [e]; simp
    have w := K.wd _ hp
    have lo := K.lo _ hp
    have hi3 := K.hi _ hp
    have nm8 := K.nm _ hp
    simp only at w lo hi3 nm8
    have nn : nm ∉ pre.map (·.1) := by
      have := K.nd
      rw [e, List.map_append, List.map_cons, List.nodup_append] at this
      intro hm
      exact this.2.2 nm hm nm (by simp) rfl
    have ok := is_name_ok (su := su) h78 n nm (by omega)
    rw [w] at ok
    have d1 := pr_din_nms nn
    have hpl : pre.length ≤ 1000 := by
      have := congrArg List.length e
      rw [List.length_append] at this; omega
    have d2 := se_nms (m := m) nn hpl
    have c1 : ¬ m < 0 := by omega
    have c2 : ¬ m > 3 := by omega
    refine w_turn_mono (J' := fun ρ => ρ = [.fz x, .own (.dct 0 (nmsD (pre ++ [(nm, m)])) (trues (pre ++ [(nm, m)]))), .fz (.bl ((pre ++ [(nm, m)]).any fun p => decide (p.2 = 0))), .fz (.str nm), .fz (.int m)]) (fun ρ h => (hJ _ _).mpr ⟨_, _, h⟩) ?_
    cases h0 : pre.any fun p => decide (p.2 = 0) with
    | true =>
      simp (disch := first | assumption | omega | (simp <;> omega) | fail) [forB, kD, ok, d1, d2, c1, c2, h0]
    | false =>
      simp (disch := first | assumption | omega | (simp <;> omega) | fail) [forB, kD, ok, d1, d2, c1, c2, h0]
  · obtain ⟨s3, s4, rfl⟩ := (hJ _ _).mp hI
    have hz : (ks.any fun p => decide (p.2 = 0)) = true := by
      obtain ⟨s, hs⟩ := K.lf
      rw [List.any_eq_true]
      exact ⟨_, hs, rfl⟩
    have c8 : ¬ ((ks.length : Nat) : Int) > 8 := by omega
    have hcr : ∀ (q : En) (σ : Rho), cmpRun2 q (.op .tup [.var 3, .var 4]) (.t [3, 4]) none σ (ks.map kD) (.ok (none, [.fz x, .own (.dct 0 (nmsD ks) (trues ks)), .fz (.bl true), s3, s4])) = .ok (.lst (ks.map kD)) [.fz x, .own (.dct 0 (nmsD ks) (trues ks)), .fz (.bl true), s3, s4] := fun q σ =>
      comp_run ks kD kD (by omega) (by simp) (fun y hy => by simp [cmpB, wipeR, kD])
    simp (disch := first | assumption | omega | (simp <;> omega) | fail) [hz, hln, c8, hi, hcr]
/-- may a pattern stand there -/
def Pt.smallP (t : Pt) : Bool := decide (t.high ≤ 20) && decide (t.many ≤ 400) && decide (t.calls.length ≤ 200)
theorem small_pattern_ok (h29 : Ps 29 = some f_calls_in) (h35 : Ps 35 = some f_is_knot) (h56 : Ps 56 = some f_knots_of) (h57 : Ps 57 = some f_tall_of) (h177 : Ps 177 = some f_small_pattern) {ks : List (Str × Int)} (K : KsOk ks) (n : Nat) (t : Pt) (hk : t.kin ks) (hs : t.size ≤ 1000) (hh : t.high ≤ 1000) (hn : t.high + 1 ≤ n) :
    runD su Ps (n + 1) 177 [t.d] = .ok (.bl t.smallP) [] := by
  have ok := Pt.th_ok K.q K.st K.hi t hk
  have h1 := tall_of_ok (su := su) h35 h57 n t.th ok (by rw [Pt.th_high]; exact hn)
  have h2 := knots_of_ok (su := su) h35 h56 n t.th ok (by rw [Pt.th_high]; exact hn)
  have h3 := calls_in_ok (su := su) h29 K.q n t (by omega) hk hs hh
  rw [Pt.th_d, Pt.th_high] at h1
  rw [Pt.th_d, Pt.th_knots] at h2
  have hl : (t.calls.map clD).length = t.calls.length := List.length_map ..
  unfold Pt.smallP
  refine (ret_of h177 rfl rfl ?_).eq
  by_cases c1 : t.high ≤ 20
  · have e1 : ¬ ((t.high : Nat) : Int) > 20 := by omega
    by_cases c2 : t.many ≤ 400
    · have e2 : ¬ ((t.many : Nat) : Int) > 400 := by omega
      have e3 : decide (((t.calls.length : Nat) : Int) ≤ 200) = decide (t.calls.length ≤ 200) := decide_eq_decide.mpr (by omega)
      simp (disch := first | assumption | omega | (simp <;> omega) | fail) [f_small_pattern, startR, h1, h2, h3, e1, e2, c1, c2, e3]
    · have e2 : ((t.many : Nat) : Int) > 400 := by omega
      simp (disch := first | assumption | omega | (simp <;> omega) | fail) [f_small_pattern, startR, h1, h2, h3, e1, e2, c1, c2]
  · have e1 : ((t.high : Nat) : Int) > 20 := by omega
    simp (disch := first | assumption | omega | (simp <;> omega) | fail) [f_small_pattern, startR, h1, h2, h3, e1, c1]
end
end Bk

/-! M2: made_book, for patterns whose calls name any numbers. -/
namespace Bk
open PySem
mutual
def Pz.many : Pz → Nat
  | .call _ _ => 0
  | .mk _ us => 1 + Pz.manyL us
def Pz.manyL : List Pz → Nat
  | [] => 0
  | u :: us => u.many + Pz.manyL us
end
mutual
def Pz.ncl : Pz → Nat
  | .call _ _ => 1
  | .mk _ us => Pz.nclL us
def Pz.nclL : List Pz → Nat
  | [] => 0
  | u :: us => u.ncl + Pz.nclL us
end
def Pz.smallP (t : Pz) : Bool := decide (t.high ≤ 20) && decide (t.many ≤ 400) && decide (t.ncl ≤ 200)
mutual
theorem Pt.z_many : ∀ t : Pt, t.z.many = t.many
  | .call _ _ => by simp [Pt.z, Pz.many, Pt.many]
  | .mk _ us => by simp [Pt.z, Pz.many, Pt.many, Pt.zL_many us]
theorem Pt.zL_many : ∀ us : List Pt, Pz.manyL (Pt.zL us) = Pt.manyL us
  | [] => by simp [Pt.zL, Pz.manyL, Pt.manyL]
  | u :: us => by simp [Pt.zL, Pz.manyL, Pt.manyL, Pt.z_many u, Pt.zL_many us]
end
mutual
theorem Pt.z_ncl : ∀ t : Pt, t.z.ncl = t.calls.length
  | .call _ _ => by simp [Pt.z, Pz.ncl, Pt.calls]
  | .mk _ us => by rw [Pt.z, Pz.ncl, Pt.calls, Pt.zL_ncl us 0]
theorem Pt.zL_ncl : ∀ (us : List Pt) (k : Nat), Pz.nclL (Pt.zL us) = (Pt.callsL k us).length
  | [], k => by simp [Pt.zL, Pz.nclL, Pt.callsL]
  | u :: us, k => by simp [Pt.zL, Pz.nclL, Pt.callsL, Pt.z_ncl u, Pt.zL_ncl us (k + 1)]
end
theorem Pt.z_small (t : Pt) : t.z.smallP = t.smallP := by unfold Pz.smallP Pt.smallP; rw [Pt.z_high, Pt.z_many, Pt.z_ncl]
mutual
theorem Pz.of_fits {ks : List (Str × Int)} {st ki : Int} (h1 : st ≤ 20) (h2 : ki ≤ 3) : ∀ t : Pz, t.fits ks st ki = true → ∃ p : Pt, p.z = t ∧ p.kin ks
  | .call a b, h => by
    rw [Pz.fits] at h
    simp only [Bool.and_eq_true, decide_eq_true_eq] at h
    refine ⟨.call a.toNat b.toNat, ?_, by rw [Pt.kin]; omega⟩
    rw [Pt.z, Int.toNat_of_nonneg h.1.1, Int.toNat_of_nonneg h.2.1]
  | .mk nm us, h => by
    rw [Pz.fits] at h
    simp only [Bool.and_eq_true, decide_eq_true_eq] at h
    obtain ⟨ps, e, k⟩ := Pz.of_fitsL h1 h2 us h.2
    have hl : ps.length = us.length := by rw [← e, Pt.zL_map, List.length_map]
    refine ⟨.mk nm ps, by rw [Pt.z, e], ?_⟩
    rw [Pt.kin]
    refine ⟨?_, k⟩
    rw [hl, ← h.1]
    exact manyOf_in (by omega)
theorem Pz.of_fitsL {ks : List (Str × Int)} {st ki : Int} (h1 : st ≤ 20) (h2 : ki ≤ 3) : ∀ us : List Pz, Pz.fitsL ks st ki us = true → ∃ ps : List Pt, Pt.zL ps = us ∧ Pt.kinL ks ps
  | [], _ => ⟨[], by rw [Pt.zL], by rw [Pt.kinL]; trivial⟩
  | u :: us, h => by
    rw [Pz.fitsL] at h
    simp only [Bool.and_eq_true] at h
    obtain ⟨p, e1, k1⟩ := Pz.of_fits h1 h2 u h.1
    obtain ⟨ps, e2, k2⟩ := Pz.of_fitsL h1 h2 us h.2
    exact ⟨p :: ps, by rw [Pt.zL, e1, e2], by rw [Pt.kinL]; exact ⟨k1, k2⟩⟩
end
/-- is it small enough to be looked at -/
structure Pz.fine (t : Pz) (h : Nat) : Prop where
  ok : t.ok
  hi : t.high ≤ h
  sz : ∀ p : Pt, p.z = t → p.size ≤ 1000
def Pz.good (ks : List (Str × Int)) (st ki : Int) (t : Pz) : Bool := t.fits ks st ki && t.smallP
structure MbF (Ps : Nat → Option Df) : Prop where
  h29 : Ps 29 = some f_calls_in
  h35 : Ps 35 = some f_is_knot
  h54 : Ps 54 = some f_many_of
  h55 : Ps 55 = some f_fits_pattern
  h56 : Ps 56 = some f_knots_of
  h57 : Ps 57 = some f_tall_of
  h78 : Ps 78 = some f_is_name
  h176 : Ps 176 = some f_kinds_of
  h177 : Ps 177 = some f_small_pattern
  h178 : Ps 178 = some f_good_pattern
  h179 : Ps 179 = some f_made_book
section
variable {su : Subs} {Ps : Nat → Option Df}
theorem good_pattern_ok (M : MbF Ps) {ks : List (Str × Int)} (K : KsOk ks) (n : Nat) (t : Pz) (st ki : Int) (h1 : st ≤ 20) (h2 : ki ≤ 3) (ft : t.fine n) (hh : t.high ≤ 1000) :
    runD su Ps (n + 3) 178 [.tup (ks.map kD), t.d, .int st, .int ki] = .ok (.bl (t.good ks st ki)) [] := by
  have f1 := fits_pattern_ok (su := su) M.h54 M.h55 ks st ki (n + 2) t ft.ok (by have := ft.hi; omega)
  refine (ret_of M.h178 rfl rfl ?_).eq
  unfold Pz.good
  cases hf : t.fits ks st ki with
  | false =>
    rw [hf] at f1
    simp (disch := first | assumption | omega | (simp <;> omega) | fail) [f_good_pattern, startR, f1]
  | true =>
    rw [hf] at f1
    obtain ⟨p, rfl, hk⟩ := Pz.of_fits h1 h2 t hf
    have f2 := small_pattern_ok (su := su) M.h29 M.h35 M.h56 M.h57 M.h177 K (n + 1) p hk (ft.sz p rfl) (by rw [← Pt.z_high]; exact hh) (by have := ft.hi; rw [Pt.z_high] at this; omega)
    rw [← Pt.z_small] at f2
    rw [Pt.z_d] at f1 ⊢
    simp (disch := first | assumption | omega | (simp <;> omega) | fail) [f_good_pattern, startR, f1, f2]
/-- a row of rules, as a tuple or a list -/
def rwZ (r : Bool × List Pz) : D := if r.1 then .tup (r.2.map Pz.d) else .lst (r.2.map Pz.d)
def rowGood (ins outs : List (Str × Int)) (st : Int) (us : List Pz) : Bool := decide (us.length = ins.length) && (ins.zip us).all fun kp => kp.2.good outs st kp.1.2
def mbGood (ins outs : List (Str × Int)) (head : Pz) (rows : List (Bool × List Pz)) : Bool :=
  decide (rows.length ≤ 20) && head.good outs rows.length 1 && rows.all fun r => rowGood ins outs rows.length r.2
def mbD (ins outs : List (Str × Int)) (head : Pz) (rows : List (Bool × List Pz)) : D :=
  .tup [.tup (ins.map kD), .tup (outs.map kD), head.d, .tup (rows.map fun r => .tup (r.2.map Pz.d))]
theorem zipD_kd (ins : List (Str × Int)) (us : List Pz) : zipD (ins.map kD) (us.map Pz.d) = (ins.zip us).map fun kp => .tup [kD kp.1, kp.2.d] := by
  unfold zipD
  rw [List.zipWith_map, List.zip, List.map_zipWith]
theorem zip_row (ins : List (Str × Int)) (r : Bool × List Pz) : evPrim .zip2 [.tup (ins.map kD), rwZ r] = .ok (.lst ((ins.zip r.2).map fun kp => .tup [kD kp.1, kp.2.d])) := by
  unfold rwZ
  cases r.1 with
  | true => exact congrArg (fun l => R.ok (D.lst l)) (zipD_kd ins r.2)
  | false => exact congrArg (fun l => R.ok (D.lst l)) (zipD_kd ins r.2)
theorem len_row (r : Bool × List Pz) : evPrim .len [rwZ r] = .ok (.int (r.2.length : Nat)) := by
  unfold rwZ
  cases r.1 with
  | true => exact congrArg (fun k : Nat => R.ok (D.int k)) (List.length_map ..)
  | false => exact congrArg (fun k : Nat => R.ok (D.int k)) (List.length_map ..)
theorem tup_row (r : Bool × List Pz) : evPrim .tupOf [rwZ r] = .ok (.tup (r.2.map Pz.d)) := by
  unfold rwZ
  cases r.1 <;> rfl
theorem made_book_ok (M : MbF Ps) {ins outs : List (Str × Int)} (KI : KsW ins) (KO : KsW outs) (n : Nat) {x0 x1 x3 : D} (hx0 : x0 = .tup (ins.map kD) ∨ x0 = .lst (ins.map kD)) (hx1 : x1 = .tup (outs.map kD) ∨ x1 = .lst (outs.map kD))
    (head : Pz) (rows : List (Bool × List Pz)) (hx3 : x3 = .tup (rows.map rwZ) ∨ x3 = .lst (rows.map rwZ)) (hl : rows.length ≤ 100000) (hh : head.fine n) (hr : ∀ r ∈ rows, ∀ u ∈ r.2, u.fine n) (hn : n ≤ 1000) :
    runD su Ps (n + 4) 179 [x0, x1, head.d, x3] = if mbGood ins outs head rows then .ok (mbD ins outs head rows) [] else .exc 3 [] := by
  have k0 := kinds_of_ok (su := su) M.h78 M.h176 KI (n + 1) hx0
  have k1 := kinds_of_ok (su := su) M.h78 M.h176 KO (n + 1) hx1
  have hi : itemsOf x3 = .ok (rows.map rwZ) := by rcases hx3 with rfl | rfl <;> rfl
  have hln : evPrim .len [x3] = .ok (.int (rows.length : Nat)) := by
    rcases hx3 with rfl | rfl
    · exact congrArg (fun k : Nat => R.ok (D.int k)) (List.length_map ..)
    · exact congrArg (fun k : Nat => R.ok (D.int k)) (List.length_map ..)
  clear hx0 hx1 hx3
  suffices hw : RetX (runD su Ps (n + 4) 179 [x0, x1, head.d, x3]) (fun x => mbGood ins outs head rows = true ∧ x = mbD ins outs head rows) (fun c => c = 3 ∧ mbGood ins outs head rows = false) by
    rcases hw with ⟨x, e, h, rfl⟩ | ⟨c, e, rfl, h⟩
    · rw [e, h]; rfl
    · rw [e, h]; rfl
  refine retX_of M.h179 rfl rfl ?_
  have ilen : evPrim .len [.tup (ins.map kD)] = .ok (.int (ins.length : Nat)) := congrArg (fun k : Nat => R.ok (D.int k)) (List.length_map ..)
  by_cases c20 : rows.length ≤ 20
  case neg =>
    have e1 : ((rows.length : Nat) : Int) > 20 := by omega
    simp (disch := first | assumption | omega | (simp <;> omega) | fail) [f_made_book, startR, k0, k1, hln, e1]
    unfold mbGood
    rw [decide_eq_false c20]
    rfl
  have e1 : ¬ ((rows.length : Nat) : Int) > 20 := by omega
  have g0 := good_pattern_ok (su := su) M KO.toKsOk n head (rows.length : Nat) 1 (by omega) (by decide) hh (by have := hh.hi; omega)
  cases hg : head.good outs (rows.length : Nat) 1 with
  | false =>
    rw [hg] at g0
    simp (disch := first | assumption | omega | (simp <;> omega) | fail) [f_made_book, startR, k0, k1, hln, e1, g0]
    unfold mbGood
    rw [hg, Bool.and_false]
    rfl
  | true =>
    rw [hg] at g0
    have mb : mbGood ins outs head rows = rows.all fun r => rowGood ins outs rows.length r.2 := by
      unfold mbGood
      rw [hg, decide_eq_true c20]
      rfl
    rw [mb]
    obtain ⟨GB, hGB⟩ : ∃ b, b = (rows.all fun r => rowGood ins outs rows.length r.2) := ⟨_, rfl⟩
    obtain ⟨MB, hMB⟩ : ∃ b, b = mbD ins outs head rows := ⟨_, rfl⟩
    rw [← hGB, ← hMB]
    simp (disch := first | assumption | omega | (simp <;> omega) | fail) [f_made_book, startR, k0, k1, hln, e1, g0, hi]
    obtain ⟨J, hJ⟩ : ∃ J : List (Bool × List Pz) → Rho → Prop, ∀ pre ρ, J pre ρ ↔ (pre.all fun r => rowGood ins outs rows.length r.2) = true ∧ ∃ s6 s7 s8, ρ = [.fz (.tup (ins.map kD)), .fz (.tup (outs.map kD)), .fz head.d, .fz x3, .fz (.int (rows.length : Nat)), .own (.lst (pre.map fun r => .tup (r.2.map Pz.d))), s6, s7, s8] := ⟨_, fun _ _ => Iff.rfl⟩
    refine w_for_l J ((hJ _ _).mpr ⟨rfl, _, _, _, rfl⟩) (fun pre r post ρ e hI => ?_) (fun ρ hI => ?_)
    · obtain ⟨hp, s6, s7, s8, rfl⟩ := (hJ _ _).mp hI
      have hrm : r ∈ rows := by rw [e]; simp
      have lr := len_row r
      have zr := zip_row ins r
      have tr := tup_row r
      have hpl : pre.length < 16777216 := by
        have := congrArg List.length e
        rw [List.length_append, List.length_cons] at this; omega
      have bad : rowGood ins outs rows.length r.2 = false → GB = false := fun h => by
        rw [hGB, List.all_eq_false]
        exact ⟨r, hrm, by rw [h]; exact Bool.false_ne_true⟩
      by_cases cl : r.2.length = ins.length
      case neg =>
        have e2 : ¬ ((r.2.length : Nat) : Int) = ((ins.length : Nat) : Int) := by omega
        simp (disch := first | assumption | omega | (simp <;> omega) | fail) [forB, lr, ilen, e2]
        exact bad (by unfold rowGood; rw [decide_eq_false cl]; rfl)
      have e2 : ((r.2.length : Nat) : Int) = ((ins.length : Nat) : Int) := by omega
      obtain ⟨RW, hRW⟩ : ∃ x, x = rwZ r := ⟨_, rfl⟩
      rw [← hRW] at lr zr tr ⊢
      simp (disch := first | assumption | omega | (simp <;> omega) | fail) [forB, lr, ilen, e2, zr]
      obtain ⟨J2, hJ2⟩ : ∃ J2 : List ((Str × Int) × Pz) → Rho → Prop, ∀ pr ρ, J2 pr ρ ↔ (pr.all fun kp => kp.2.good outs rows.length kp.1.2) = true ∧ ∃ s7 s8, ρ = [.fz (.tup (ins.map kD)), .fz (.tup (outs.map kD)), .fz head.d, .fz x3, .fz (.int (rows.length : Nat)), .own (.lst (pre.map fun r => .tup (r.2.map Pz.d))), .fz RW, s7, s8] := ⟨_, fun _ _ => Iff.rfl⟩
      refine w_for_l J2 ((hJ2 _ _).mpr ⟨rfl, _, _, rfl⟩) (fun pr kp po ρ e3 hI2 => ?_) (fun ρ hI2 => ?_)
      · obtain ⟨hp2, s7, s8, rfl⟩ := (hJ2 _ _).mp hI2
        have hkm : kp ∈ ins.zip r.2 := by rw [e3]; simp
        obtain ⟨kd, u⟩ := kp
        have hk := (List.of_mem_zip hkm).1
        have hu := hr r hrm u (List.of_mem_zip hkm).2
        have hi3 := KI.hi _ hk
        have g := good_pattern_ok (su := su) M KO.toKsOk n u (rows.length : Nat) kd.2 (by omega) hi3 hu (by have := hu.hi; omega)
        have k1' := kd1 kd
        refine w_turn_mono (J' := fun ρ => u.good outs rows.length kd.2 = true ∧ ρ = [.fz (.tup (ins.map kD)), .fz (.tup (outs.map kD)), .fz head.d, .fz x3, .fz (.int (rows.length : Nat)), .own (.lst (pre.map fun r => .tup (r.2.map Pz.d))), .fz RW, .fz (kD kd), .fz u.d]) (fun ρ h => (hJ2 _ _).mpr ⟨by rw [List.all_append, hp2]; simpa using h.1, _, _, h.2⟩) ?_
        cases hgu : u.good outs (rows.length : Nat) kd.2 with
        | true =>
          rw [hgu] at g
          simp (disch := first | assumption | omega | (simp <;> omega) | fail) [forB, k1', g]
        | false =>
          rw [hgu] at g
          simp (disch := first | assumption | omega | (simp <;> omega) | fail) [forB, k1', g]
          refine bad ?_
          unfold rowGood
          rw [Bool.and_eq_false_iff]
          right
          rw [List.all_eq_false]
          exact ⟨_, hkm, by rw [hgu]; exact Bool.false_ne_true⟩
      · obtain ⟨hp2, s7, s8, rfl⟩ := (hJ2 _ _).mp hI2
        have rg : rowGood ins outs rows.length r.2 = true := by
          unfold rowGood
          rw [decide_eq_true cl]
          simpa using hp2
        refine w_turn_mono (J' := fun ρ => ρ = [.fz (.tup (ins.map kD)), .fz (.tup (outs.map kD)), .fz head.d, .fz x3, .fz (.int (rows.length : Nat)), .own (.lst ((pre.map fun r => .tup (r.2.map Pz.d)) ++ [.tup (r.2.map Pz.d)])), .fz RW, s7, s8]) (fun ρ h => by
          subst h
          exact (hJ _ _).mpr ⟨by rw [List.all_append, hp]; simpa using rg, .fz RW, s7, s8, by simp⟩) ?_
        simp (disch := first | assumption | omega | (simp <;> omega) | fail) [tr, hpl]
    · obtain ⟨hp, s6, s7, s8, rfl⟩ := (hJ _ _).mp hI
      rw [hp] at hGB
      have fin : D.tup [.tup (ins.map kD), .tup (outs.map kD), head.d, .tup (rows.map fun r => .tup (r.2.map Pz.d))] = MB := hMB.symm
      simp (disch := first | assumption | omega | (simp <;> omega) | fail) [hGB, fin]
end
end Bk

/-! W4: try. -/
namespace Bk
open PySem
def trMK (q : En) (cs : List Nat) (hs : List (List S)) : O → O
  | .exc k ρ => pick q.su k cs (evHs { q with hx := some k } hs) ρ
  | o => o
def trAK (q : En) (c i : Nat) (h : List S) : O → O
  | .exc k ρ => match q.su k c with
    | some true => (evSs { q with hx := some k } h (ρ.set i .un)).unN i
    | some false => .exc k ρ
    | none => .stuck
  | o => o
def pickK (su : Subs) (k : Nat) (cs : List Nat) (h : Rho → O) (hs : List (Rho → O)) (ρ : Rho) : Option Bool → O
  | some true => (h ρ).noX
  | some false => pick su k cs hs ρ
  | none => .stuck
@[simp] theorem pr_min2 (a b : Int) : evPrim .min2 [.int a, .int b] = .ok (.int (if b < a then b else a)) := (rfl)
@[simp] theorem pr_max2 (a b : Int) : evPrim .max2 [.int a, .int b] = .ok (.int (if b > a then b else a)) := (rfl)
section
variable (q : En) (cs : List Nat) (hs : List (List S)) (ρ : Rho) (d : D) (c i k : Nat) (h b : List S) (su : Subs) (h1 : Rho → O) (hs1 : List (Rho → O))
@[simp] theorem ev_s_trM : evS q (.trM b cs hs) ρ = trMK q cs hs (evSs q b ρ) := by
  rw [evS]; cases evSs q b ρ <;> rfl
@[simp] theorem ev_s_trA : evS q (.trA b c i h) ρ = trAK q c i h (evSs q b ρ) := by
  rw [evS]; cases evSs q b ρ <;> rfl
@[simp] theorem trMK_nx : trMK q cs hs (.nx ρ) = .nx ρ := (rfl)
@[simp] theorem trMK_ret : trMK q cs hs (.ret d ρ) = .ret d ρ := (rfl)
@[simp] theorem trMK_brk : trMK q cs hs (.brk ρ) = .brk ρ := (rfl)
@[simp] theorem trMK_cont : trMK q cs hs (.cont ρ) = .cont ρ := (rfl)
@[simp] theorem trMK_exc : trMK q cs hs (.exc k ρ) = pick q.su k cs (evHs { q with hx := some k } hs) ρ := (rfl)
@[simp] theorem trAK_nx : trAK q c i h (.nx ρ) = .nx ρ := (rfl)
@[simp] theorem trAK_ret : trAK q c i h (.ret d ρ) = .ret d ρ := (rfl)
@[simp] theorem trAK_brk : trAK q c i h (.brk ρ) = .brk ρ := (rfl)
@[simp] theorem trAK_cont : trAK q c i h (.cont ρ) = .cont ρ := (rfl)
@[simp] theorem trAK_exc : trAK q c i h (.exc k ρ) = (match q.su k c with
    | some true => (evSs { q with hx := some k } h (ρ.set i .un)).unN i
    | some false => .exc k ρ
    | none => .stuck) := (rfl)
@[simp] theorem pick_cons : pick su k (c :: cs) (h1 :: hs1) ρ = pickK su k cs h1 hs1 ρ (su k c) := by
  rw [pick]
  cases su k c with
  | none => rfl
  | some b => cases b <;> rfl
@[simp] theorem pick_nil : pick su k [] hs1 ρ = .exc k ρ := by unfold pick; rfl
@[simp] theorem pickK_t : pickK su k cs h1 hs1 ρ (some true) = (h1 ρ).noX := (rfl)
@[simp] theorem pickK_f : pickK su k cs h1 hs1 ρ (some false) = pick su k cs hs1 ρ := (rfl)
@[simp] theorem evHs_nil : evHs q [] = [] := by rw [evHs]
@[simp] theorem evHs_cons : evHs q (h :: hs) = (fun ρ => evSs q h ρ) :: evHs q hs := by rw [evHs]
@[simp] theorem noX_nx : (O.nx ρ).noX = .nx ρ := (rfl)
@[simp] theorem noX_ret : (O.ret d ρ).noX = .ret d ρ := (rfl)
@[simp] theorem noX_brk : (O.brk ρ).noX = .brk ρ := (rfl)
@[simp] theorem noX_cont : (O.cont ρ).noX = .cont ρ := (rfl)
@[simp] theorem unN_nx : (O.nx ρ).unN i = .nx (ρ.set i .un) := (rfl)
@[simp] theorem unN_ret : (O.ret d ρ).unN i = .ret d (ρ.set i .un) := (rfl)
@[simp] theorem unN_brk : (O.brk ρ).unN i = .brk (ρ.set i .un) := (rfl)
@[simp] theorem unN_cont : (O.cont ρ).unN i = .cont (ρ.set i .un) := (rfl)
end
end Bk

/-! k20: great books. -/
namespace Bk
open PySem
mutual
theorem Pt.size_eq : ∀ t : Pt, t.size = t.many + t.calls.length
  | .call _ _ => by simp [Pt.size, Pt.many, Pt.calls]
  | .mk _ us => by
    have := Pt.sizeL_eq us 0
    rw [Pt.size, Pt.many, Pt.calls]; omega
theorem Pt.sizeL_eq : ∀ (us : List Pt) (k : Nat), Pt.sizeL us = Pt.manyL us + (Pt.callsL k us).length
  | [], k => by simp [Pt.sizeL, Pt.manyL, Pt.callsL]
  | u :: us, k => by
    have h1 := Pt.size_eq u
    have h2 := Pt.sizeL_eq us (k + 1)
    rw [Pt.sizeL, Pt.manyL, Pt.callsL, List.length_append, List.length_map]; omega
end
theorem Pz.fine_of {t : Pz} {h : Nat} (ok : t.ok) (hi : t.high ≤ h) (sz : t.many + t.ncl ≤ 1000) : t.fine h := ⟨ok, hi, fun p e => by
  subst e
  rw [Pt.z_many, Pt.z_ncl] at sz
  rw [Pt.size_eq]; exact sz⟩
section
variable (a b c : Str)
def lfZ : Pz := .mk a []
def rowZ (x : Pz) : Nat → Pz
  | 0 => x
  | m + 1 => .mk b [rowZ x m]
def bushZ : Nat → Nat → Pz
  | 0, _ => lfZ a
  | f + 1, m => if m = 1 then lfZ a else if m = 2 then .mk b [lfZ a] else .mk c [bushZ f ((m - 1) / 2), bushZ f (m - 1 - (m - 1) / 2)]
def callsZ : Nat → Nat → Pz
  | 0, _ => .call 0 0
  | f + 1, m => if m = 1 then .call 0 0 else .mk c [callsZ f (m / 2), callsZ f (m - m / 2)]
end
structure Nm3 (a b c : Str) : Prop where
  qa : a ≠ Str.ofString "?"
  qb : b ≠ Str.ofString "?"
  qc : c ≠ Str.ofString "?"
  ab : a ≠ b
  ac : a ≠ c
  bc : b ≠ c
def ks3 (a b c : Str) : List (Str × Int) := [(a, 0), (b, 1), (c, 2)]
section
variable {a b c : Str} (N : Nm3 a b c)
include N
theorem ks3_0 : manyOf (ks3 a b c) a = 0 := by simp [ks3, manyOf]
theorem ks3_1 : manyOf (ks3 a b c) b = 1 := by simp [ks3, manyOf, N.ab]
theorem ks3_2 : manyOf (ks3 a b c) c = 2 := by simp [ks3, manyOf, N.ac, N.bc]
theorem lfZ_fits (st ki : Int) : (lfZ a).fits (ks3 a b c) st ki = true := by simp [lfZ, Pz.fits, Pz.fitsL, ks3_0 N]
theorem rowZ_fits {x : Pz} {st ki : Int} (h : x.fits (ks3 a b c) st ki = true) : ∀ m, (rowZ b x m).fits (ks3 a b c) st ki = true
  | 0 => h
  | m + 1 => by simp [rowZ, Pz.fits, Pz.fitsL, ks3_1 N, rowZ_fits h m]
theorem bushZ_fits (st ki : Int) : ∀ f m, (bushZ a b c f m).fits (ks3 a b c) st ki = true
  | 0, m => lfZ_fits N st ki
  | f + 1, m => by
    rw [bushZ]
    split
    · exact lfZ_fits N st ki
    · split
      · simp [Pz.fits, Pz.fitsL, ks3_1 N, lfZ_fits N st ki]
      · simp [Pz.fits, Pz.fitsL, ks3_2 N, bushZ_fits st ki f]
theorem callsZ_fits {st ki : Int} (h1 : 0 < st) (h2 : 0 < ki) : ∀ f m, (callsZ c f m).fits (ks3 a b c) st ki = true
  | 0, m => by simp [callsZ, Pz.fits, h1, h2]
  | f + 1, m => by
    rw [callsZ]
    split
    · simp [Pz.fits, h1, h2]
    · simp [Pz.fits, Pz.fitsL, ks3_2 N, callsZ_fits h1 h2 f]
theorem lfZ_ok : (lfZ a).ok := by simp [lfZ, Pz.ok, Pz.okL, N.qa]
theorem rowZ_ok {x : Pz} (h : x.ok) : ∀ m, (rowZ b x m).ok
  | 0 => h
  | m + 1 => by simp [rowZ, Pz.ok, Pz.okL, N.qb, rowZ_ok h m]
theorem bushZ_ok : ∀ f m, (bushZ a b c f m).ok
  | 0, m => lfZ_ok N
  | f + 1, m => by
    rw [bushZ]
    split
    · exact lfZ_ok N
    · split
      · simp [Pz.ok, Pz.okL, N.qb, lfZ_ok N]
      · simp [Pz.ok, Pz.okL, N.qc, bushZ_ok f]
theorem callsZ_ok : ∀ f m, (callsZ c f m).ok
  | 0, m => by simp [callsZ, Pz.ok]
  | f + 1, m => by
    rw [callsZ]
    split
    · simp [Pz.ok]
    · simp [Pz.ok, Pz.okL, N.qc, callsZ_ok f]
end
section
variable {a b c : Str}
theorem lfZ_size : (lfZ a).many = 1 ∧ (lfZ a).ncl = 0 ∧ (lfZ a).high = 1 := by simp [lfZ, Pz.many, Pz.manyL, Pz.ncl, Pz.nclL, Pz.high, Pz.highL]
theorem rowZ_size {x : Pz} : ∀ m, (rowZ b x m).many = m + x.many ∧ (rowZ b x m).ncl = x.ncl ∧ (rowZ b x m).high = m + x.high
  | 0 => by simp [rowZ]
  | m + 1 => by
    obtain ⟨h1, h2, h3⟩ := rowZ_size (x := x) m
    simp only [rowZ, Pz.many, Pz.manyL, Pz.ncl, Pz.nclL, Pz.high, Pz.highL]
    omega
theorem bushZ_size : ∀ f m, 1 ≤ m → m < 2 ^ f → (bushZ a b c f m).many = m ∧ (bushZ a b c f m).ncl = 0 ∧ (bushZ a b c f m).high ≤ f + 1
  | 0, m, h1, h2 => by simp at h2; omega
  | f + 1, m, h1, h2 => by
    rw [bushZ]
    have l := lfZ_size (a := a)
    split
    · rename_i e; subst e; omega
    · split
      · rename_i e; subst e
        simp only [Pz.many, Pz.manyL, Pz.ncl, Pz.nclL, Pz.high, Pz.highL]
        have : 1 ≤ f := by
          cases f with
          | zero => simp at h2
          | succ f => omega
        omega
      · rw [Nat.pow_succ] at h2
        obtain ⟨x1, x2, x3⟩ := bushZ_size f ((m - 1) / 2) (by omega) (by omega)
        obtain ⟨y1, y2, y3⟩ := bushZ_size f (m - 1 - (m - 1) / 2) (by omega) (by omega)
        simp only [Pz.many, Pz.manyL, Pz.ncl, Pz.nclL, Pz.high, Pz.highL]
        omega
theorem callsZ_size : ∀ f m, 1 ≤ m → m ≤ 2 ^ f → (callsZ c f m).many = m - 1 ∧ (callsZ c f m).ncl = m ∧ (callsZ c f m).high ≤ f + 1
  | 0, m, h1, h2 => by
    simp at h2
    have : m = 1 := by omega
    subst this
    simp [callsZ, Pz.many, Pz.ncl, Pz.high]
  | f + 1, m, h1, h2 => by
    rw [callsZ]
    split
    · rename_i e; subst e; simp [Pz.many, Pz.ncl, Pz.high]
    · rw [Nat.pow_succ] at h2
      obtain ⟨x1, x2, x3⟩ := callsZ_size f (m / 2) (by omega) (by omega)
      obtain ⟨y1, y2, y3⟩ := callsZ_size f (m - m / 2) (by omega) (by omega)
      simp only [Pz.many, Pz.manyL, Pz.ncl, Pz.nclL, Pz.high, Pz.highL]
      omega
end
def nm3D (a b c : Str) : D := .lst [.str a, .str b, .str c]
theorem nx0 (x y z : D) : evPrim .idx [.lst [x, y, z], .int 0] = .ok x := idxl_get (j := 0) rfl rfl
theorem nx1 (x y z : D) : evPrim .idx [.lst [x, y, z], .int 1] = .ok y := idxl_get (j := 1) rfl rfl
theorem nx2 (x y z : D) : evPrim .idx [.lst [x, y, z], .int 2] = .ok z := idxl_get (j := 2) rfl rfl
section
variable {su : Subs} {Ps : Nat → Option Df} {a b c : Str}
theorem lr_ok (h : Ps 180 = some f_law_row_2) (n : Nat) (x : Pz) (m : Nat) (hm : m ≤ 1000) : runD su Ps (n + 1) 180 [nm3D a b c, .int m, x.d] = .ok (rowZ b x m).d [] := by
  refine (ret_of h rfl rfl ?_).eq
  simp (disch := first | assumption | omega | (simp <;> omega) | fail) [f_law_row_2, startR, nm3D]
  refine w_for_r (fun i ρ => ∃ s4, ρ = [.fz (nm3D a b c), .fz (.int m), .fz x.d, .fz (rowZ b x i).d, s4]) ⟨_, rfl⟩ (fun i ρ hi hI => ?_) (fun ρ hI => ?_)
  · obtain ⟨s4, rfl⟩ := hI
    have hd : (rowZ b x (i + 1)).d = .tup [.str b, (rowZ b x i).d] := by rw [rowZ, Pz.d_mk]; rfl
    simp (disch := first | assumption | omega | (simp <;> omega) | fail) [forB, nm3D, hd, nx1]
  · obtain ⟨s4, rfl⟩ := hI
    simp
theorem lb_ok (h : Ps 181 = some f_law_bush) : ∀ (f n m : Nat), f + 1 ≤ n → 1 ≤ m → m < 2 ^ f → runD su Ps n 181 [nm3D a b c, .int m, (lfZ a).d] = .ok (bushZ a b c f m).d []
  | f, 0, m, h0, _, _ => by omega
  | 0, n + 1, m, _, h1, h2 => by simp at h2; omega
  | f + 1, n + 1, m, h0, h1, h2 => by
    refine (ret_of h rfl rfl ?_).eq
    rw [bushZ]
    by_cases e1 : m = 1
    · have e1' : (m : Int) = 1 := by omega
      simp (disch := first | assumption | omega | (simp <;> omega) | fail) [f_law_bush, startR, nx0, nx1, nx2, nm3D, e1]
    · have e1' : ¬ (m : Int) = 1 := by omega
      by_cases e2 : m = 2
      · have e2' : (m : Int) = 2 := by omega
        have hd : (Pz.mk b [lfZ a]).d = .tup [.str b, (lfZ a).d] := by rw [Pz.d_mk]; rfl
        simp (disch := first | assumption | omega | (simp <;> omega) | fail) [f_law_bush, startR, nx0, nx1, nx2, nm3D, e2, hd]
      · have e2' : ¬ (m : Int) = 2 := by omega
        rw [Nat.pow_succ] at h2
        have r1 := lb_ok h f n ((m - 1) / 2) (by omega) (by omega) (by omega)
        have r2 := lb_ok h f n (m - 1 - (m - 1) / 2) (by omega) (by omega) (by omega)
        rw [show (((m - 1) / 2 : Nat) : Int) = ((m : Int) - 1) / 2 by omega] at r1
        rw [show ((m - 1 - (m - 1) / 2 : Nat) : Int) = (m : Int) - 1 - ((m : Int) - 1) / 2 by omega] at r2
        rw [if_neg e1, if_neg e2]
        have hd : (Pz.mk c [bushZ a b c f ((m - 1) / 2), bushZ a b c f (m - 1 - (m - 1) / 2)]).d = .tup [.str c, (bushZ a b c f ((m - 1) / 2)).d, (bushZ a b c f (m - 1 - (m - 1) / 2)).d] := by rw [Pz.d_mk]; rfl
        rw [hd]
        unfold nm3D at r1 r2 ⊢
        simp (disch := first | assumption | omega | (simp <;> omega) | fail) [f_law_bush, startR, nx0, nx1, nx2, e1', e2', r1, r2]
theorem lc_ok (h : Ps 182 = some f_law_calls) : ∀ (f n m : Nat), f + 1 ≤ n → 1 ≤ m → m ≤ 2 ^ f → runD su Ps n 182 [nm3D a b c, .int m, (Pz.call 0 0).d] = .ok (callsZ c f m).d []
  | f, 0, m, h0, _, _ => by omega
  | 0, n + 1, m, _, h1, h2 => by
    simp at h2
    have : m = 1 := by omega
    subst this
    refine (ret_of h rfl rfl ?_).eq
    simp (disch := first | assumption | omega | (simp <;> omega) | fail) [f_law_calls, startR, nx0, nx1, nx2, nm3D, callsZ]
  | f + 1, n + 1, m, h0, h1, h2 => by
    refine (ret_of h rfl rfl ?_).eq
    rw [callsZ]
    by_cases e1 : m = 1
    · have e1' : (m : Int) = 1 := by omega
      simp (disch := first | assumption | omega | (simp <;> omega) | fail) [f_law_calls, startR, nx0, nx1, nx2, nm3D, e1]
    · have e1' : ¬ (m : Int) = 1 := by omega
      rw [Nat.pow_succ] at h2
      have r1 := lc_ok h f n (m / 2) (by omega) (by omega) (by omega)
      have r2 := lc_ok h f n (m - m / 2) (by omega) (by omega) (by omega)
      rw [show ((m / 2 : Nat) : Int) = (m : Int) / 2 by omega] at r1
      rw [show ((m - m / 2 : Nat) : Int) = (m : Int) - (m : Int) / 2 by omega] at r2
      rw [if_neg e1]
      have hd : (Pz.mk c [callsZ c f (m / 2), callsZ c f (m - m / 2)]).d = .tup [.str c, (callsZ c f (m / 2)).d, (callsZ c f (m - m / 2)).d] := by rw [Pz.d_mk]; rfl
      rw [hd]
      unfold nm3D at r1 r2 ⊢
      simp (disch := first | assumption | omega | (simp <;> omega) | fail) [f_law_calls, startR, nx0, nx1, nx2, e1', r1, r2]
/-- a great pattern: just small enough, or one more -/
def greatZ (a b c : Str) (way more : Nat) : Pz := if way = 0 then rowZ b (lfZ a) (19 + more) else if way = 1 then rowZ b (.call 0 0) (19 + more) else if way = 2 then bushZ a b c 10 (400 + more) else callsZ c 10 (200 + more)
theorem greatZ_fine (N : Nm3 a b c) (way more : Nat) (hm : more < 2) : (greatZ a b c way more).fine 60 := by
  unfold greatZ
  have l := lfZ_size (a := a)
  split
  · have := rowZ_size (b := b) (x := lfZ a) (19 + more)
    exact Pz.fine_of (rowZ_ok N (lfZ_ok N) _) (by omega) (by omega)
  · split
    · have := rowZ_size (b := b) (x := .call 0 0) (19 + more)
      simp only [Pz.many, Pz.ncl, Pz.high] at this
      exact Pz.fine_of (rowZ_ok N (by simp [Pz.ok]) _) (by omega) (by omega)
    · split
      · have := bushZ_size (a := a) (b := b) (c := c) 10 (400 + more) (by omega) (by omega)
        exact Pz.fine_of (bushZ_ok N _ _) (by omega) (by omega)
      · have := callsZ_size (c := c) 10 (200 + more) (by omega) (by omega)
        exact Pz.fine_of (callsZ_ok N _ _) (by omega) (by omega)
theorem greatZ_good (N : Nm3 a b c) (way more : Nat) (hw : way < 4) (hm : more < 2) {st ki : Int} (h1 : 0 < st) (h2 : 0 < ki) : (greatZ a b c way more).good (ks3 a b c) st ki = decide (more = 0) := by
  unfold greatZ Pz.good Pz.smallP
  have l := lfZ_size (a := a)
  split
  · have := rowZ_size (b := b) (x := lfZ a) (19 + more)
    rw [rowZ_fits N (lfZ_fits N st ki)]
    by_cases e : more = 0
    · subst e
      rw [decide_eq_true (by omega), decide_eq_true (by omega), decide_eq_true (by omega)]; rfl
    · rw [decide_eq_false (p := _ ≤ 20) (by omega), decide_eq_false e]; rfl
  · split
    · have := rowZ_size (b := b) (x := .call 0 0) (19 + more)
      simp only [Pz.many, Pz.ncl, Pz.high] at this
      rw [rowZ_fits N (by simp [Pz.fits, h1, h2])]
      by_cases e : more = 0
      · subst e
        rw [decide_eq_true (by omega), decide_eq_true (by omega), decide_eq_true (by omega)]; rfl
      · rw [decide_eq_false (p := _ ≤ 20) (by omega), decide_eq_false e]; rfl
    · split
      · have := bushZ_size (a := a) (b := b) (c := c) 10 (400 + more) (by omega) (by omega)
        rw [bushZ_fits N]
        by_cases e : more = 0
        · subst e
          rw [decide_eq_true (by omega), decide_eq_true (by omega), decide_eq_true (by omega)]; rfl
        · rw [decide_eq_false (p := _ ≤ 400) (by omega), decide_eq_false e, Bool.and_false]; rfl
      · have := callsZ_size (c := c) 10 (200 + more) (by omega) (by omega)
        rw [callsZ_fits N h1 h2]
        by_cases e : more = 0
        · subst e
          rw [decide_eq_true (by omega), decide_eq_true (by omega), decide_eq_true (by omega)]; rfl
        · rw [decide_eq_false (p := _ ≤ 200) (by omega), decide_eq_false e, Bool.and_false]; rfl
theorem lg_ok (h1 : Ps 180 = some f_law_row_2) (h2 : Ps 181 = some f_law_bush) (h3 : Ps 182 = some f_law_calls) (h4 : Ps 183 = some f_law_great) (n : Nat) (way more : Nat) (hw : way < 4) (hm : more < 2) :
    runD su Ps (n + 20) 183 [nm3D a b c, .int way, .int more, (Pz.call 0 0).d] = .ok (greatZ a b c way more).d [] := by
  have r1 := lr_ok (su := su) (a := a) (b := b) (c := c) h1 (n + 18) (lfZ a) (19 + more) (by omega)
  have r2 := lr_ok (su := su) (a := a) (b := b) (c := c) h1 (n + 18) (.call 0 0) (19 + more) (by omega)
  have r3 := lb_ok (su := su) (a := a) (b := b) (c := c) h2 10 (n + 19) (400 + more) (by omega) (by omega) (by omega)
  have r4 := lc_ok (su := su) (a := a) (b := b) (c := c) h3 10 (n + 19) (200 + more) (by omega) (by omega) (by omega)
  rw [show ((19 + more : Nat) : Int) = 19 + (more : Int) by omega] at r1 r2
  rw [show ((400 + more : Nat) : Int) = 400 + (more : Int) by omega] at r3
  rw [show ((200 + more : Nat) : Int) = 200 + (more : Int) by omega] at r4
  have ld : (lfZ a).d = .tup [.str a] := by rw [lfZ, Pz.d_mk]; rfl
  rw [ld] at r1 r3
  unfold nm3D at r1 r2 r3 r4 ⊢
  refine (ret_of h4 rfl rfl ?_).eq
  unfold greatZ
  have hw' : way = 0 ∨ way = 1 ∨ way = 2 ∨ way = 3 := by omega
  rcases hw' with rfl | rfl | rfl | rfl
  · simp (disch := first | assumption | omega | (simp <;> omega) | fail) [f_law_great, startR, nx0, nx1, nx2, r1]
  · simp (disch := first | assumption | omega | (simp <;> omega) | fail) [f_law_great, startR, nx0, nx1, nx2, r2]
  · simp (disch := first | assumption | omega | (simp <;> omega) | fail) [f_law_great, startR, nx0, nx1, nx2, r3]
  · simp (disch := first | assumption | omega | (simp <;> omega) | fail) [f_law_great, startR, nx0, nx1, nx2, r4]
theorem refusal_ok (M : MbF Ps) (h : Ps 184 = some f_law_refusal) (a0 : su 3 0 = some true) (a1 : su 3 3 = some true) (a2 : su 3 8 = some false) (a3 : su 3 10 = some true) {ks : List (Str × Int)} (K : KsW ks) (n : Nat)
    (head : Pz) (rows : List (Bool × List Pz)) (hl : rows.length ≤ 100000) (hh : head.fine n) (hr : ∀ r ∈ rows, ∀ u ∈ r.2, u.fine n) (hn : n ≤ 1000) :
    runD su Ps (n + 5) 184 [.tup (ks.map kD), head.d, .lst (rows.map rwZ)] = .ok (if mbGood ks ks head rows then .non else .lst [.bl true, .bl false, .bl true]) [] := by
  have mb := made_book_ok (su := su) M K K n (.inl rfl) (.inl rfl) head rows (x3 := .lst (rows.map rwZ)) (.inr rfl) hl hh hr hn
  obtain ⟨KD, hKD⟩ : ∃ x, x = D.tup (ks.map kD) := ⟨_, rfl⟩
  obtain ⟨HD, hHD⟩ : ∃ x, x = head.d := ⟨_, rfl⟩
  obtain ⟨RD, hRD⟩ : ∃ x, x = D.lst (rows.map rwZ) := ⟨_, rfl⟩
  rw [← hKD, ← hHD, ← hRD] at mb ⊢
  refine (ret_of h rfl rfl ?_).eq
  cases hg : mbGood ks ks head rows with
  | true =>
    rw [hg] at mb
    simp only [if_true] at mb
    simp (disch := first | assumption | omega | (simp <;> omega) | fail) [f_law_refusal, startR, mb]
  | false =>
    rw [hg] at mb
    simp only [Bool.false_eq_true, if_false] at mb
    simp (disch := first | assumption | omega | (simp <;> omega) | fail) [f_law_refusal, startR, mb, evXis, a0, a1, a2, a3]
theorem made_len {ks : List (Str × Int)} {head : Pz} {rows : List (Bool × List Pz)} (h : Ps 66 = some f_states_of) (n : Nat) : runD su Ps (n + 1) 66 [mbD ks ks head rows] = .ok (.int (rows.length : Nat)) [] := by
  refine (ret_of h rfl rfl ?_).eq
  have e3 : evPrim .idx [mbD ks ks head rows, .int 3] = .ok (.tup (rows.map fun r => .tup (r.2.map Pz.d))) := idx_get (j := 3) rfl rfl
  simp (disch := first | assumption | omega | (simp <;> omega) | fail) [f_states_of, startR, e3]
theorem rowGood3 (outs : List (Str × Int)) (st : Int) (u v w : Pz) : rowGood (ks3 a b c) outs st [u, v, w] = (u.good outs st 0 && (v.good outs st 1 && w.good outs st 2)) := by simp [rowGood, ks3]
/-- what the two turns want -/
structure Two (su : Subs) (Ps : Nat → Option Df) (n : Nat) (KD H0 R0 H1 R1 : D) : Prop where
  r0 : runD su Ps n 184 [KD, H0, R0] = .ok .non []
  m0 : ∃ BK L, runD su Ps n 179 [KD, KD, H0, R0] = .ok BK [] ∧ runD su Ps n 66 [BK] = .ok (.int L) [] ∧ evPrim .len [R0] = .ok (.int L)
  r1 : runD su Ps n 184 [KD, H1, R1] = .ok (.lst [.bl true, .bl false, .bl true]) []
theorem two_mk (M : MbF Ps) (h : Ps 184 = some f_law_refusal) (h66 : Ps 66 = some f_states_of) (a0 : su 3 0 = some true) (a1 : su 3 3 = some true) (a2 : su 3 8 = some false) (a3 : su 3 10 = some true) {ks : List (Str × Int)} (K : KsW ks) (n : Nat) (hn : n ≤ 900)
    (h0 h1 : Pz) (r0 r1 : List (Bool × List Pz)) (l0 : r0.length ≤ 100000) (l1 : r1.length ≤ 100000) (f0 : h0.fine n) (f1 : h1.fine n) (g0 : ∀ r ∈ r0, ∀ u ∈ r.2, u.fine n) (g1 : ∀ r ∈ r1, ∀ u ∈ r.2, u.fine n) (b0 : mbGood ks ks h0 r0 = true) (b1 : mbGood ks ks h1 r1 = false) :
    Two su Ps (n + 5) (.tup (ks.map kD)) h0.d (.lst (r0.map rwZ)) h1.d (.lst (r1.map rwZ)) := by
  have up : ∀ t : Pz, t.fine n → t.fine (n + 1) := fun t f => ⟨f.ok, by have := f.hi; omega, f.sz⟩
  refine ⟨?_, ?_, ?_⟩
  · have := refusal_ok (su := su) M h a0 a1 a2 a3 K n h0 r0 l0 f0 g0 (by omega)
    rw [b0] at this
    exact this
  · have := made_book_ok (su := su) M K K (n + 1) (.inl rfl) (.inl rfl) h0 r0 (x3 := .lst (r0.map rwZ)) (.inr rfl) l0 (up _ f0) (fun r hr u hu => up _ (g0 r hr u hu)) (by omega)
    rw [b0] at this
    exact ⟨_, _, this, made_len h66 _, congrArg (fun k : Nat => R.ok (D.int k)) (List.length_map ..)⟩
  · have := refusal_ok (su := su) M h a0 a1 a2 a3 K n h1 r1 l1 f1 g1 (by omega)
    rw [b1] at this
    exact this
theorem law_one_ok (M : MbF Ps) (h180 : Ps 180 = some f_law_row_2) (h181 : Ps 181 = some f_law_bush) (h182 : Ps 182 = some f_law_calls) (h183 : Ps 183 = some f_law_great) (h : Ps 184 = some f_law_refusal) (h66 : Ps 66 = some f_states_of) (h69 : Ps 69 = some f_law_turn) (h185 : Ps 185 = some f_law_one)
    (a0 : su 3 0 = some true) (a1 : su 3 3 = some true) (a2 : su 3 8 = some false) (a3 : su 3 10 = some true) (N : Nm3 a b c) (K : KsW (ks3 a b c)) (x : Int) :
    runD su Ps 229 185 [nm3D a b c, .int x] = .ok (.bl true) [] := by
  obtain ⟨r, hr, R⟩ := law_turn_ok (su := su) h69 227 x 3 (by decide)
  have e3 : ((3 : Nat) : Int) = 3 := rfl
  rw [e3] at R
  have l := lfZ_size (a := a)
  have lfine : (lfZ a).fine 223 := Pz.fine_of (lfZ_ok N) (by omega) (by omega)
  have cfine : (Pz.call 0 0).fine 223 := Pz.fine_of (by simp [Pz.ok]) (by simp [Pz.high]) (by simp [Pz.many, Pz.ncl])
  have lgood : ∀ st ki, (lfZ a).good (ks3 a b c) st ki = true := fun st ki => by
    unfold Pz.good Pz.smallP
    rw [lfZ_fits N, decide_eq_true (by omega), decide_eq_true (by omega), decide_eq_true (by omega)]; rfl
  have cgood : ∀ st : Int, 0 < st → (Pz.call 0 0).good (ks3 a b c) st 1 = true := fun st h => by simp [Pz.good, Pz.smallP, Pz.fits, Pz.high, Pz.many, Pz.ncl, h]
  have hc : ∀ (q : En) (σ : Rho) (ρ0 : Rho), ρ0 = [.fz (nm3D a b c), .fz (.int x), .un, .un, .un, .un, .un, .un, .un, .un, .un, .un, .un] → cmpRun2 q (.op .tup [.op .idx [.var 0, .var 2], .var 2]) (.v 2) none σ (rngD 0 3) (.ok (none, ρ0)) = .ok (.lst ((ks3 a b c).map kD)) ρ0 := fun q σ ρ0 hρ => by
    subst hρ
    refine comp_run (ks3 a b c) (fun p => .int p.2) kD (by simp [ks3]) (by simp) (fun y hy => ?_)
    simp only [ks3, List.mem_cons, List.not_mem_nil, or_false] at hy
    rcases hy with rfl | rfl | rfl
    · simp [cmpB, wipeR, nm3D, nx0, kD]
    · simp [cmpB, wipeR, nm3D, nx1, kD]
    · simp [cmpB, wipeR, nm3D, nx2, kD]
  have hc := fun q σ => hc q σ _ rfl
  have two : ∀ h0 h1 r0 r1, r0.length ≤ 100000 → r1.length ≤ 100000 → h0.fine 223 → h1.fine 223 → (∀ r ∈ r0, ∀ u ∈ r.2, u.fine 223) → (∀ r ∈ r1, ∀ u ∈ r.2, u.fine 223) → mbGood (ks3 a b c) (ks3 a b c) h0 r0 = true → mbGood (ks3 a b c) (ks3 a b c) h1 r1 = false → _ :=
    fun h0 h1 r0 r1 l0 l1 f0 f1 g0 g1 b0 b1 => two_mk (su := su) M h h66 a0 a1 a2 a3 K 223 (by omega) h0 h1 r0 r1 l0 l1 f0 f1 g0 g1 b0 b1
  have ne1 : evPrim .ne [.non, .non] = .ok (.bl false) := by rfl
  have ne2 : evPrim .ne [.lst [.bl true, .bl false, .bl true], .lst [.bl true, .bl false, .bl true]] = .ok (.bl false) := by rfl
  have ix0 : evPrim .idx [.lst [.non, .lst [.bl true, .bl false, .bl true]], .int 0] = .ok .non := idxl_get (j := 0) rfl rfl
  have ix1 : evPrim .idx [.lst [.non, .lst [.bl true, .bl false, .bl true]], .int 1] = .ok (.lst [.bl true, .bl false, .bl true]) := idxl_get (j := 1) rfl rfl
  have e2 : rngD 0 2 = [.int 0, .int 1] := rfl
  obtain ⟨ND, hND⟩ : ∃ d, d = nm3D a b c := ⟨_, rfl⟩
  have nd0 : evPrim .idx [ND, .int 0] = .ok (.str a) := by rw [hND]; exact nx0 _ _ _
  obtain ⟨KD, hKD⟩ : ∃ d, d = D.tup ((ks3 a b c).map kD) := ⟨_, rfl⟩
  have tk : evPrim .tupOf [.lst ((ks3 a b c).map kD)] = .ok KD := by rw [hKD]; rfl
  obtain ⟨LD, hLD⟩ : ∃ d, d = (lfZ a).d := ⟨_, rfl⟩
  have ld : LD = .tup [.str a] := by rw [hLD, lfZ, Pz.d_mk]; rfl
  have cd : D.tup [.str (Str.ofString "?"), .int 0, .int 0] = (Pz.call 0 0).d := rfl
  have g : ∀ more : Nat, more < 2 → (r % 5 < 4) → runD su Ps 228 183 [ND, .int ((r : Int) % 5), .int more, (Pz.call 0 0).d] = .ok (greatZ a b c (r % 5) more).d [] := fun more hm hw => by
    have := lg_ok (su := su) (a := a) (b := b) (c := c) h180 h181 h182 h183 208 (r % 5) more hw hm
    rw [show ((r % 5 : Nat) : Int) = (r : Int) % 5 by omega] at this
    rw [hND]; exact this
  have gfine : ∀ more, more < 2 → (greatZ a b c (r % 5) more).fine 223 := fun more hm => by
    have := greatZ_fine N (r % 5) more hm
    exact ⟨this.ok, by have := this.hi; omega, this.sz⟩
  rw [← hND] at hc ⊢
  refine (ret_of (su := su) (n := 228) h185 rfl rfl ?_).eq
  obtain ⟨RW, hRW⟩ : ∃ d, d = D.lst [LD, LD, LD] := ⟨_, rfl⟩
  have rwl : ∀ us : List Pz, rwZ (false, us) = .lst (us.map Pz.d) := fun us => rfl
  by_cases w4 : r % 5 = 4
  · -- many states
    have w4' : (r : Int) % 5 = 4 := by omega
    have T := two (.call 0 0) (.call 0 0) (List.replicate 20 (false, [lfZ a, lfZ a, lfZ a])) (List.replicate 21 (false, [lfZ a, lfZ a, lfZ a])) (by simp) (by simp) cfine cfine
      (fun r hr u hu => by rw [(List.mem_replicate.mp hr).2] at hu; simp at hu; rw [hu]; exact lfine) (fun r hr u hu => by rw [(List.mem_replicate.mp hr).2] at hu; simp at hu; rw [hu]; exact lfine)
      (by
        unfold mbGood
        rw [cgood _ (by simp), List.all_replicate]
        simp [rowGood3, lgood]) (by unfold mbGood; simp)
    rw [List.map_replicate, List.map_replicate, rwl] at T
    simp only [List.map_cons, List.map_nil] at T
    rw [← hLD, ← hRW, ← hKD] at T
    obtain ⟨BK, L, m1, m2, m3⟩ := T.m0
    have t0 := T.r0
    have t1 := T.r1
    have x0 : evPrim .mul [.lst [RW], .int 20] = .ok (.lst (List.replicate 20 RW)) := by rw [pr_mul_lst _ _ (by simp) (by decide) (by decide)]; rfl
    have x1 : evPrim .mul [.lst [RW], .int 21] = .ok (.lst (List.replicate 21 RW)) := by rw [pr_mul_lst _ _ (by simp) (by decide) (by decide)]; rfl
    generalize D.lst (List.replicate 20 RW) = RA at *
    generalize D.lst (List.replicate 21 RW) = RB at *
    simp (disch := first | assumption | omega | (simp <;> omega) | fail) [f_law_one, startR, hc, tk, R, nd0, ← ld, cd, w4', ← hRW, e2, forL_cons, forL_nil, forB, -pr_mul_lst, x0, x1, t0, t1, m1, m2, m3, ne1, ne2, ix0, ix1]
  · have w4' : ¬ (r : Int) % 5 = 4 := by omega
    have hw : r % 5 < 4 := by omega
    have g0 := g 0 (by decide) hw
    have g1 := g 1 (by decide) hw
    have z0 : ((0 : Nat) : Int) = 0 := rfl
    have z1 : ((1 : Nat) : Int) = 1 := rfl
    rw [z0] at g0
    rw [z1] at g1
    have gg : ∀ more, more < 2 → ∀ st ki : Int, 0 < st → 0 < ki → (greatZ a b c (r % 5) more).good (ks3 a b c) st ki = decide (more = 0) := fun more hm st ki h1 h2 => greatZ_good N (r % 5) more hw hm h1 h2
    have gf0 := gfine 0 (by decide)
    have gf1 := gfine 1 (by decide)
    have gg0 := gg 0 (by decide)
    have gg1 := gg 1 (by decide)
    generalize greatZ a b c (r % 5) 0 = G0 at *
    generalize greatZ a b c (r % 5) 1 = G1 at *
    by_cases par : r / 5 % 2 = 0
    · -- the head
      have par' : (r : Int) / 5 % 2 = 0 := by omega
      have T := two G0 G1 [(false, [lfZ a, lfZ a, lfZ a])] [(false, [lfZ a, lfZ a, lfZ a])] (by simp) (by simp) gf0 gf1
        (fun r hr u hu => by simp at hr; rw [hr] at hu; simp at hu; rw [hu]; exact lfine) (fun r hr u hu => by simp at hr; rw [hr] at hu; simp at hu; rw [hu]; exact lfine)
        (by
          unfold mbGood
          rw [gg0 _ _ (by simp) (by decide)]
          simp [rowGood3, lgood]) (by
          unfold mbGood
          rw [gg1 _ _ (by simp) (by decide)]
          simp)
      simp only [List.map_cons, List.map_nil, rwl] at T
      rw [← hLD, ← hRW, ← hKD] at T
      obtain ⟨BK, L, m1, m2, m3⟩ := T.m0
      have t0 := T.r0
      have t1 := T.r1
      simp (disch := first | assumption | omega | (simp <;> omega) | fail) [f_law_one, startR, hc, tk, R, nd0, ← ld, cd, w4', par', ← hRW, e2, forL_cons, forL_nil, forB, g0, g1, t0, t1, m1, m2, m3, ne1, ne2, ix0, ix1]
    · -- a state's pattern
      have par' : ¬ (r : Int) / 5 % 2 = 0 := by omega
      have big : ∀ (U0 U1 : List Pz) (P1 P2 : D), (∀ u ∈ U0, u.fine 223) → (∀ u ∈ U1, u.fine 223) → rowGood (ks3 a b c) (ks3 a b c) 1 U0 = true → rowGood (ks3 a b c) (ks3 a b c) 1 U1 = false → P1 = .lst (U0.map Pz.d) → P2 = .lst (U1.map Pz.d) →
          Two su Ps 228 KD (Pz.call 0 0).d (.lst [P1]) (Pz.call 0 0).d (.lst [P2]) := fun U0 U1 P1 P2 f0 f1 b0 b1 e1 e2 => by
        have T := two (.call 0 0) (.call 0 0) [(false, U0)] [(false, U1)] (by simp) (by simp) cfine cfine
          (fun r hr u hu => by simp at hr; rw [hr] at hu; exact f0 u hu) (fun r hr u hu => by simp at hr; rw [hr] at hu; exact f1 u hu)
          (by
            unfold mbGood
            rw [cgood _ (by simp)]
            simpa using b0) (by
            unfold mbGood
            rw [cgood _ (by simp)]
            simpa using b1)
        simp only [List.map_cons, List.map_nil, rwl] at T
        rw [← hKD, ← e1, ← e2] at T
        exact T
      by_cases a1' : r / 10 % 2 = 0
      · have a2' : (r : Int) / 10 % 2 = 0 := by omega
        have T := big [lfZ a, G0, lfZ a] [lfZ a, G1, lfZ a] (.lst [LD, G0.d, LD]) (.lst [LD, G1.d, LD]) (fun u hu => by simp at hu; rcases hu with rfl | rfl | rfl <;> assumption) (fun u hu => by simp at hu; rcases hu with rfl | rfl | rfl <;> assumption)
          (by rw [rowGood3, lgood, lgood, gg0 1 1 (by decide) (by decide)]; rfl) (by rw [rowGood3, gg1 1 1 (by decide) (by decide)]; simp) (by rw [hLD]; rfl) (by rw [hLD]; rfl)
        obtain ⟨BK, L, m1, m2, m3⟩ := T.m0
        have t0 := T.r0
        have t1 := T.r1
        have s1 : evPrim (.slc false true) [RW, .int 1] = .ok (.lst [LD]) := by rw [hRW]; rfl
        have s2 : evPrim (.slc true false) [RW, .int 2] = .ok (.lst [LD]) := by rw [hRW]; rfl
        simp (disch := first | assumption | omega | (simp <;> omega) | fail) [f_law_one, startR, hc, tk, R, nd0, ← ld, cd, w4', par', a2', ← hRW, e2, forL_cons, forL_nil, forB, g0, g1, s1, s2, t0, t1, m1, m2, m3, ne1, ne2, ix0, ix1]
      · have a2' : (r : Int) / 10 % 2 = 1 := by omega
        have T := big [lfZ a, lfZ a, G0] [lfZ a, lfZ a, G1] (.lst [LD, LD, G0.d]) (.lst [LD, LD, G1.d]) (fun u hu => by simp at hu; rcases hu with rfl | rfl | rfl <;> assumption) (fun u hu => by simp at hu; rcases hu with rfl | rfl | rfl <;> assumption)
          (by rw [rowGood3, lgood, lgood, gg0 1 2 (by decide) (by decide)]; rfl) (by rw [rowGood3, gg1 1 2 (by decide) (by decide)]; simp) (by rw [hLD]; rfl) (by rw [hLD]; rfl)
        obtain ⟨BK, L, m1, m2, m3⟩ := T.m0
        have t0 := T.r0
        have t1 := T.r1
        have s1 : evPrim (.slc false true) [RW, .int 2] = .ok (.lst [LD, LD]) := by rw [hRW]; rfl
        have s2 : evPrim (.slc true false) [RW, .int 3] = .ok (.lst []) := by rw [hRW]; rfl
        simp (disch := first | assumption | omega | (simp <;> omega) | fail) [f_law_one, startR, hc, tk, R, nd0, ← ld, cd, w4', par', a2', ← hRW, e2, forL_cons, forL_nil, forB, g0, g1, s1, s2, t0, t1, m1, m2, m3, ne1, ne2, ix0, ix1]
/-! names -/
def frL : List Nat := [102, 114, 111, 110, 100]
def stemS (j : Nat) : Str := ⟨(frL.take j).toArray⟩
def nmS (k L j : Nat) : Str := ⟨(List.replicate k L ++ frL.take j).toArray⟩
theorem nmS_len (k L j : Nat) : (nmS k L j).length = k + min j 5 := by
  unfold nmS
  rw [len_mk, List.length_append, List.length_replicate, List.length_take]; rfl
theorem nmS_all {k L j : Nat} (h : 97 ≤ L ∧ L < 123) : ∀ x ∈ (nmS k L j).cps.toList, 97 ≤ x ∧ x < 123 := fun x hx => by
  have hx : x ∈ List.replicate k L ++ frL.take j := by simpa [nmS] using hx
  rcases List.mem_append.mp hx with hx | hx
  · rw [(List.mem_replicate.mp hx).2]; exact h
  · have := List.mem_of_mem_take hx
    simp [frL] at this
    omega
theorem nmS_wd {k L j : Nat} (h : 97 ≤ L ∧ L < 123) (hk : 1 ≤ k ∧ k ≤ 3) : isWd (nmS k L j) = true := by
  unfold isWd
  have h1 := nmS_len k L j
  have h2 : (nmS k L j).cps.toList.all isL = true := List.all_eq_true.mpr fun x hx => by
    have := nmS_all h x hx
    unfold isL
    simp [this.1, this.2]
  rw [h2, decide_eq_true (by omega), decide_eq_true (by omega)]; rfl
theorem nmS_ne {k k' L j : Nat} (h : k ≠ k') : nmS k L j ≠ nmS k' L j := fun e => by
  have := congrArg Str.length e
  rw [nmS_len, nmS_len] at this
  omega
theorem nm3_mk {L j : Nat} (h : 97 ≤ L ∧ L < 123) : Nm3 (nmS 1 L j) (nmS 2 L j) (nmS 3 L j) ∧ KsW (ks3 (nmS 1 L j) (nmS 2 L j) (nmS 3 L j)) := by
  have q := fun k => not_letters (s := nmS k L j) fun x hx => (nmS_all h x hx).1
  have ln := nmS_len (L := L) (j := j)
  refine ⟨⟨(q 1).1, (q 2).1, (q 3).1, nmS_ne (by decide), nmS_ne (by decide), nmS_ne (by decide)⟩, ?_⟩
  have hm : ∀ p ∈ ks3 (nmS 1 L j) (nmS 2 L j) (nmS 3 L j), ∃ k, (1 ≤ k ∧ k ≤ 3) ∧ p.1 = nmS k L j ∧ 0 ≤ p.2 ∧ p.2 ≤ 3 := fun p hp => by
    simp [ks3] at hp
    rcases hp with rfl | rfl | rfl
    · exact ⟨1, by decide, rfl, by simp, by simp⟩
    · exact ⟨2, by decide, rfl, by simp, by simp⟩
    · exact ⟨3, by decide, rfl, by simp, by simp⟩
  refine { len := by simp [ks3], nm := fun p hp => ?_, lo := fun p hp => ?_, hi := fun p hp => ?_, q := fun p hp => ?_, st := fun p hp => ?_, lf := ⟨nmS 1 L j, by simp [ks3]⟩, nd := ?_, wd := fun p hp => ?_ }
  · obtain ⟨k, hk, e, _⟩ := hm p hp
    rw [e, ln]; omega
  · obtain ⟨k, hk, _, e, _⟩ := hm p hp; exact e
  · obtain ⟨k, hk, _, _, e⟩ := hm p hp; exact e
  · obtain ⟨k, hk, e, _⟩ := hm p hp
    rw [e]; exact (q k).1
  · obtain ⟨k, hk, e, _⟩ := hm p hp
    rw [e]; exact (q k).2
  · simp [ks3]
    exact ⟨⟨nmS_ne (by decide), nmS_ne (by decide)⟩, nmS_ne (by decide)⟩
  · obtain ⟨k, hk, e, _⟩ := hm p hp
    rw [e]; exact nmS_wd h hk
end
theorem plain (ns : List Int) (h : ns.length ≤ 63) : runD suT (tbl tabT) 230 lawI [.scr ns] = .ok (.bl true) [] := by
  have M : MbF (tbl tabT) := ⟨rfl, rfl, rfl, rfl, rfl, rfl, rfl, rfl, rfl, rfl, rfl⟩
  refine (ret_of (su := suT) (Ps := tbl tabT) (n := 229) (f := lawI) (df := f_law_25) rfl rfl rfl ?_).eq
  have ad : evPrim .add [.lst [.int 0], .scr ns] = .ok (.lst ((0 :: ns).map D.int)) := by
    show okIf (decide (1 + ns.length ≤ sizeLine)) (.lst ([.int 0] ++ ns.map D.int)) = _
    have h2 : (64 : Nat) ≤ sizeLine := by decide
    rw [decide_eq_true (show 1 + ns.length ≤ sizeLine by omega)]
    rfl
  have sl := pr_slc_lto (xs := (0 :: ns).map D.int) (j := 9)
  rw [← List.map_take] at sl
  have e9 : ((9 : Nat) : Int) = 9 := rfl
  rw [e9] at sl
  have fr : (Str.ofString "frond").cps.toList = frL := by decide
  obtain ⟨CL, hCL⟩ : ∃ l, l = (0 :: ns).take 9 := ⟨_, rfl⟩
  rw [← hCL] at sl
  simp only [List.map_cons] at sl ad
  simp (disch := first | assumption | omega | (simp <;> omega) | fail) [f_law_25, startR, ad, sl]
  refine w_for_l (fun pre ρ => ∃ s1 s2 s3 s4, ρ = [.fz (.scr ns), s1, s2, s3, s4]) ⟨_, _, _, _, rfl⟩ (fun pre x post ρ e hI => ?_) (fun ρ hI => ?_)
  · obtain ⟨s1, s2, s3, s4, rfl⟩ := hI
    obtain ⟨L, hL⟩ : ∃ L, L = 97 + (x % 26).toNat := ⟨_, rfl⟩
    have hLb : 97 ≤ L ∧ L < 123 := by omega
    obtain ⟨j, hj⟩ : ∃ j, j = (x / 26 % 6).toNat := ⟨_, rfl⟩
    obtain ⟨N, K⟩ := nm3_mk (j := j) hLb
    have one := law_one_ok (su := suT) (Ps := tbl tabT) M rfl rfl rfl rfl rfl rfl rfl rfl rfl rfl rfl rfl N K x
    unfold nm3D at one
    have lt : evPrim .idx [.str (Str.ofString "abcdefghijklmnopqrstuvwxyz"), .int (x % 26)] = .ok (.str ⟨#[L]⟩) := by
      have := pr_ltr x
      unfold ltr at this
      rw [← hL] at this
      exact this
    have st := pr_slc_to (s := Str.ofString "frond") (j := j) (by decide)
    rw [show ((j : Nat) : Int) = x / 26 % 6 by omega, fr] at st
    have l1 : (⟨#[L]⟩ : Str).length = 1 := rfl
    have l5 : (⟨(frL.take j).toArray⟩ : Str).length ≤ 5 := by rw [len_mk, List.length_take]; exact Nat.min_le_right _ _
    have ap : ∀ (p q : List Nat), (⟨p.toArray⟩ : Str) ++ ⟨q.toArray⟩ = ⟨(p ++ q).toArray⟩ := app_mk
    have b1 : evPrim .add [.str ⟨#[L]⟩, .str ⟨(frL.take j).toArray⟩] = .ok (.str (nmS 1 L j)) := by
      rw [pr_add_str _ _ (by omega), ap [L]]; rfl
    have b2 : evPrim .add [.str ⟨#[L]⟩, .str ⟨#[L]⟩] = .ok (.str ⟨#[L, L]⟩) := by
      rw [pr_add_str _ _ (by omega), ap [L] [L]]; rfl
    have b3 : evPrim .add [.str ⟨#[L, L]⟩, .str ⟨(frL.take j).toArray⟩] = .ok (.str (nmS 2 L j)) := by
      rw [pr_add_str _ _ (by rw [show (⟨#[L, L]⟩ : Str).length = 2 from rfl]; omega), ap [L, L]]; rfl
    have b4 : evPrim .mul [.str ⟨#[L]⟩, .int 3] = .ok (.str ⟨#[L, L, L]⟩) := by
      rw [pr_mul_str _ _ (by omega) (by decide) (by decide)]
      have := mul_one_char L 3 (by decide)
      rw [show ((3 : Nat) : Int) = 3 from rfl] at this
      rw [this]; rfl
    have b5 : evPrim .add [.str ⟨#[L, L, L]⟩, .str ⟨(frL.take j).toArray⟩] = .ok (.str (nmS 3 L j)) := by
      rw [pr_add_str _ _ (by rw [show (⟨#[L, L, L]⟩ : Str).length = 3 from rfl]; omega), ap [L, L, L]]; rfl
    generalize nmS 1 L j = n1 at *
    generalize nmS 2 L j = n2 at *
    generalize nmS 3 L j = n3 at *
    generalize (⟨(frL.take j).toArray⟩ : Str) = fs at *
    generalize (⟨#[L, L, L]⟩ : Str) = t3 at *
    generalize (⟨#[L, L]⟩ : Str) = t2 at *
    generalize (⟨#[L]⟩ : Str) = t1 at *
    simp (disch := first | assumption | omega | (simp <;> omega) | fail) [forB, -pr_ltr, -pr_add_str, -pr_mul_str, lt, st, b1, b2, b3, b4, b5, one]
  · obtain ⟨s1, s2, s3, s4, rfl⟩ := hI
    simp
end Bk

namespace Bk
open PySem PySem.Spec PyProof.Rows L2
def topS (i : Nat) : Stmt := PySem.Challenge.pw_boughbook_k20_great_books.main.body.getD i (.Pass ⟨0, 0, 0, 0⟩)
def cnT : List (Str × D) := [("LETTERS", (.str "abcdefghijklmnopqrstuvwxyz")), ("CALL", (.str "?")), ("MOST_STATES", (.int 20)), ("MOST_KNOTS", (.int 400)), ("MOST_CALLS", (.int 200)), ("TALLEST", (.int 20))]
def clL : List (Nat × (Str × Bool)) := [(0, ("BookError", true)), (1, ("NoKinds", true)), (3, ("NoBook", true)), (8, ("Great", true)), (10, ("ValueError", false))]
def clT : Nat → Option (Str × Bool) := fun c => clL.lookup c
def nmT : Nm := nmOf (tbl tabT) cnT clT
theorem sc_f_is_name : scOk f_is_name (defScope (topS 7)) = true := by decide +kernel
theorem cm_f_is_name : cmF nmT 1000 f_is_name (topS 7) = true := by decide +kernel
theorem sc_f_kinds_of : scOk f_kinds_of (defScope (topS 8)) = true := by decide +kernel
theorem cm_f_kinds_of : cmF nmT 1000 f_kinds_of (topS 8) = true := by decide +kernel
theorem sc_f_many_of : scOk f_many_of (defScope (topS 9)) = true := by decide +kernel
theorem cm_f_many_of : cmF nmT 1000 f_many_of (topS 9) = true := by decide +kernel
theorem sc_f_fits_pattern : scOk f_fits_pattern (defScope (topS 12)) = true := by decide +kernel
theorem cm_f_fits_pattern : cmF nmT 1000 f_fits_pattern (topS 12) = true := by decide +kernel
theorem sc_f_is_knot : scOk f_is_knot (defScope (topS 13)) = true := by decide +kernel
theorem cm_f_is_knot : cmF nmT 1000 f_is_knot (topS 13) = true := by decide +kernel
theorem sc_f_knots_of : scOk f_knots_of (defScope (topS 14)) = true := by decide +kernel
theorem cm_f_knots_of : cmF nmT 1000 f_knots_of (topS 14) = true := by decide +kernel
theorem sc_f_tall_of : scOk f_tall_of (defScope (topS 15)) = true := by decide +kernel
theorem cm_f_tall_of : cmF nmT 1000 f_tall_of (topS 15) = true := by decide +kernel
theorem sc_f_calls_in : scOk f_calls_in (defScope (topS 16)) = true := by decide +kernel
theorem cm_f_calls_in : cmF nmT 1000 f_calls_in (topS 16) = true := by decide +kernel
theorem sc_f_small_pattern : scOk f_small_pattern (defScope (topS 22)) = true := by decide +kernel
theorem cm_f_small_pattern : cmF nmT 1000 f_small_pattern (topS 22) = true := by decide +kernel
theorem sc_f_good_pattern : scOk f_good_pattern (defScope (topS 23)) = true := by decide +kernel
theorem cm_f_good_pattern : cmF nmT 1000 f_good_pattern (topS 23) = true := by decide +kernel
theorem sc_f_made_book : scOk f_made_book (defScope (topS 24)) = true := by decide +kernel
theorem cm_f_made_book : cmF nmT 1000 f_made_book (topS 24) = true := by decide +kernel
theorem sc_f_states_of : scOk f_states_of (defScope (topS 25)) = true := by decide +kernel
theorem cm_f_states_of : cmF nmT 1000 f_states_of (topS 25) = true := by decide +kernel
theorem sc_f_law_turn : scOk f_law_turn (defScope (topS 28)) = true := by decide +kernel
theorem cm_f_law_turn : cmF nmT 1000 f_law_turn (topS 28) = true := by decide +kernel
theorem sc_f_law_row_2 : scOk f_law_row_2 (defScope (topS 29)) = true := by decide +kernel
theorem cm_f_law_row_2 : cmF nmT 1000 f_law_row_2 (topS 29) = true := by decide +kernel
theorem sc_f_law_bush : scOk f_law_bush (defScope (topS 30)) = true := by decide +kernel
theorem cm_f_law_bush : cmF nmT 1000 f_law_bush (topS 30) = true := by decide +kernel
theorem sc_f_law_calls : scOk f_law_calls (defScope (topS 31)) = true := by decide +kernel
theorem cm_f_law_calls : cmF nmT 1000 f_law_calls (topS 31) = true := by decide +kernel
theorem sc_f_law_great : scOk f_law_great (defScope (topS 32)) = true := by decide +kernel
theorem cm_f_law_great : cmF nmT 1000 f_law_great (topS 32) = true := by decide +kernel
theorem sc_f_law_refusal : scOk f_law_refusal (defScope (topS 33)) = true := by decide +kernel
theorem cm_f_law_refusal : cmF nmT 1000 f_law_refusal (topS 33) = true := by decide +kernel
theorem sc_f_law_one : scOk f_law_one (defScope (topS 34)) = true := by decide +kernel
theorem cm_f_law_one : cmF nmT 1000 f_law_one (topS 34) = true := by decide +kernel
theorem sc_f_law_25 : scOk f_law_25 (defScope (topS 35)) = true := by decide +kernel
theorem cm_f_law_25 : cmF nmT 1000 f_law_25 (topS 35) = true := by decide +kernel
section
theorem all_mk {P : Program} {w : World} {K : PySem.W.Frag} {h : Heap} {mg : Str → Option Value} {fa : Addr} (X : K.In h) (G : h.Ns mainGlobals mg) (hfa : mg "law" = some (.ref fa)) {f0 f1 f2 f3 f4 f5 f6 f7 f8 f9 f10 f11 f12 f13 f14 f15 f16 f17 f18 f19 C0 C1 C2 C3 : Addr}
    {od0 an0 od1 an1 od2 an2 od3 an3 od4 an4 od5 an5 od6 an6 od7 an7 od8 an8 od9 an9 od10 an10 od11 an11 od12 an12 od13 an13 od14 an14 od15 an15 od16 an16 od17 an17 od18 an18 od19 an19 : Option Addr} {sl0 sl1 sl2 sl3 sl4 sl5 sl6 sl7 sl8 sl9 sl10 sl11 sl12 sl13 sl14 sl15 sl16 sl17 sl18 sl19 : Array (Option Value)}
    {t0 t1 t2 t3 t4 t5 : Tok}
    {oc0 kV0 dc0 pm0 cd0 ct0 oc1 kV1 dc1 pm1 cd1 ct1 oc2 kV2 dc2 pm2 cd2 ct2 oc3 kV3 dc3 pm3 cd3 ct3 oc4 kV4 dc4 pm4 cd4 ct4 oc5 kV5 dc5 pm5 cd5 ct5 oc6 kV6 dc6 pm6 cd6 ct6 oc7 kV7 dc7 pm7 cd7 ct7 oc8 kV8 dc8 pm8 cd8 ct8 oc9 kV9 dc9 pm9 cd9 ct9 oc10 kV10 dc10 pm10 cd10 ct10 oc11 kV11 dc11 pm11 cd11 ct11 oc12 kV12 dc12 pm12 cd12 ct12 oc13 kV13 dc13 pm13 cd13 ct13 oc14 kV14 dc14 pm14 cd14 ct14 oc15 kV15 dc15 pm15 cd15 ct15 oc16 kV16 dc16 pm16 cd16 ct16 oc17 kV17 dc17 pm17 cd17 ct17 oc18 kV18 dc18 pm18 cd18 ct18 oc19 kV19 dc19 pm19 cd19 ct19 : Value}
    (a0 : PySem.W.nsIn K mainGlobals "is_name" = some (some (.ref f0))) (l0 : K.lookup f0 = some ⟨oc0, od0, .func (PySem.W.fnOf "is_name" "is_name" (defArgs (topS 7)) (defBody (topS 7)) (defScope (topS 7)) .none kV0 dc0 pm0 an0 cd0 ct0), sl0⟩) (c0 : PySem.W.codeIn K cd0 "is_name" = true) (k0 : PySem.W.keepIn K (.ref f0) = true)
    (a1 : PySem.W.nsIn K mainGlobals "kinds_of" = some (some (.ref f1))) (l1 : K.lookup f1 = some ⟨oc1, od1, .func (PySem.W.fnOf "kinds_of" "kinds_of" (defArgs (topS 8)) (defBody (topS 8)) (defScope (topS 8)) .none kV1 dc1 pm1 an1 cd1 ct1), sl1⟩) (c1 : PySem.W.codeIn K cd1 "kinds_of" = true) (k1 : PySem.W.keepIn K (.ref f1) = true)
    (a2 : PySem.W.nsIn K mainGlobals "many_of" = some (some (.ref f2))) (l2 : K.lookup f2 = some ⟨oc2, od2, .func (PySem.W.fnOf "many_of" "many_of" (defArgs (topS 9)) (defBody (topS 9)) (defScope (topS 9)) .none kV2 dc2 pm2 an2 cd2 ct2), sl2⟩) (c2 : PySem.W.codeIn K cd2 "many_of" = true) (k2 : PySem.W.keepIn K (.ref f2) = true)
    (a3 : PySem.W.nsIn K mainGlobals "fits_pattern" = some (some (.ref f3))) (l3 : K.lookup f3 = some ⟨oc3, od3, .func (PySem.W.fnOf "fits_pattern" "fits_pattern" (defArgs (topS 12)) (defBody (topS 12)) (defScope (topS 12)) .none kV3 dc3 pm3 an3 cd3 ct3), sl3⟩) (c3 : PySem.W.codeIn K cd3 "fits_pattern" = true) (k3 : PySem.W.keepIn K (.ref f3) = true)
    (a4 : PySem.W.nsIn K mainGlobals "is_knot" = some (some (.ref f4))) (l4 : K.lookup f4 = some ⟨oc4, od4, .func (PySem.W.fnOf "is_knot" "is_knot" (defArgs (topS 13)) (defBody (topS 13)) (defScope (topS 13)) .none kV4 dc4 pm4 an4 cd4 ct4), sl4⟩) (c4 : PySem.W.codeIn K cd4 "is_knot" = true) (k4 : PySem.W.keepIn K (.ref f4) = true)
    (a5 : PySem.W.nsIn K mainGlobals "knots_of" = some (some (.ref f5))) (l5 : K.lookup f5 = some ⟨oc5, od5, .func (PySem.W.fnOf "knots_of" "knots_of" (defArgs (topS 14)) (defBody (topS 14)) (defScope (topS 14)) .none kV5 dc5 pm5 an5 cd5 ct5), sl5⟩) (c5 : PySem.W.codeIn K cd5 "knots_of" = true) (k5 : PySem.W.keepIn K (.ref f5) = true)
    (a6 : PySem.W.nsIn K mainGlobals "tall_of" = some (some (.ref f6))) (l6 : K.lookup f6 = some ⟨oc6, od6, .func (PySem.W.fnOf "tall_of" "tall_of" (defArgs (topS 15)) (defBody (topS 15)) (defScope (topS 15)) .none kV6 dc6 pm6 an6 cd6 ct6), sl6⟩) (c6 : PySem.W.codeIn K cd6 "tall_of" = true) (k6 : PySem.W.keepIn K (.ref f6) = true)
    (a7 : PySem.W.nsIn K mainGlobals "calls_in" = some (some (.ref f7))) (l7 : K.lookup f7 = some ⟨oc7, od7, .func (PySem.W.fnOf "calls_in" "calls_in" (defArgs (topS 16)) (defBody (topS 16)) (defScope (topS 16)) .none kV7 dc7 pm7 an7 cd7 ct7), sl7⟩) (c7 : PySem.W.codeIn K cd7 "calls_in" = true) (k7 : PySem.W.keepIn K (.ref f7) = true)
    (a8 : PySem.W.nsIn K mainGlobals "small_pattern" = some (some (.ref f8))) (l8 : K.lookup f8 = some ⟨oc8, od8, .func (PySem.W.fnOf "small_pattern" "small_pattern" (defArgs (topS 22)) (defBody (topS 22)) (defScope (topS 22)) .none kV8 dc8 pm8 an8 cd8 ct8), sl8⟩) (c8 : PySem.W.codeIn K cd8 "small_pattern" = true) (k8 : PySem.W.keepIn K (.ref f8) = true)
    (a9 : PySem.W.nsIn K mainGlobals "good_pattern" = some (some (.ref f9))) (l9 : K.lookup f9 = some ⟨oc9, od9, .func (PySem.W.fnOf "good_pattern" "good_pattern" (defArgs (topS 23)) (defBody (topS 23)) (defScope (topS 23)) .none kV9 dc9 pm9 an9 cd9 ct9), sl9⟩) (c9 : PySem.W.codeIn K cd9 "good_pattern" = true) (k9 : PySem.W.keepIn K (.ref f9) = true)
    (a10 : PySem.W.nsIn K mainGlobals "made_book" = some (some (.ref f10))) (l10 : K.lookup f10 = some ⟨oc10, od10, .func (PySem.W.fnOf "made_book" "made_book" (defArgs (topS 24)) (defBody (topS 24)) (defScope (topS 24)) .none kV10 dc10 pm10 an10 cd10 ct10), sl10⟩) (c10 : PySem.W.codeIn K cd10 "made_book" = true) (k10 : PySem.W.keepIn K (.ref f10) = true)
    (a11 : PySem.W.nsIn K mainGlobals "states_of" = some (some (.ref f11))) (l11 : K.lookup f11 = some ⟨oc11, od11, .func (PySem.W.fnOf "states_of" "states_of" (defArgs (topS 25)) (defBody (topS 25)) (defScope (topS 25)) .none kV11 dc11 pm11 an11 cd11 ct11), sl11⟩) (c11 : PySem.W.codeIn K cd11 "states_of" = true) (k11 : PySem.W.keepIn K (.ref f11) = true)
    (a12 : PySem.W.nsIn K mainGlobals "_law_turn" = some (some (.ref f12))) (l12 : K.lookup f12 = some ⟨oc12, od12, .func (PySem.W.fnOf "_law_turn" "_law_turn" (defArgs (topS 28)) (defBody (topS 28)) (defScope (topS 28)) .none kV12 dc12 pm12 an12 cd12 ct12), sl12⟩) (c12 : PySem.W.codeIn K cd12 "_law_turn" = true) (k12 : PySem.W.keepIn K (.ref f12) = true)
    (a13 : PySem.W.nsIn K mainGlobals "_law_row" = some (some (.ref f13))) (l13 : K.lookup f13 = some ⟨oc13, od13, .func (PySem.W.fnOf "_law_row" "_law_row" (defArgs (topS 29)) (defBody (topS 29)) (defScope (topS 29)) .none kV13 dc13 pm13 an13 cd13 ct13), sl13⟩) (c13 : PySem.W.codeIn K cd13 "_law_row" = true) (k13 : PySem.W.keepIn K (.ref f13) = true)
    (a14 : PySem.W.nsIn K mainGlobals "_law_bush" = some (some (.ref f14))) (l14 : K.lookup f14 = some ⟨oc14, od14, .func (PySem.W.fnOf "_law_bush" "_law_bush" (defArgs (topS 30)) (defBody (topS 30)) (defScope (topS 30)) .none kV14 dc14 pm14 an14 cd14 ct14), sl14⟩) (c14 : PySem.W.codeIn K cd14 "_law_bush" = true) (k14 : PySem.W.keepIn K (.ref f14) = true)
    (a15 : PySem.W.nsIn K mainGlobals "_law_calls" = some (some (.ref f15))) (l15 : K.lookup f15 = some ⟨oc15, od15, .func (PySem.W.fnOf "_law_calls" "_law_calls" (defArgs (topS 31)) (defBody (topS 31)) (defScope (topS 31)) .none kV15 dc15 pm15 an15 cd15 ct15), sl15⟩) (c15 : PySem.W.codeIn K cd15 "_law_calls" = true) (k15 : PySem.W.keepIn K (.ref f15) = true)
    (a16 : PySem.W.nsIn K mainGlobals "_law_great" = some (some (.ref f16))) (l16 : K.lookup f16 = some ⟨oc16, od16, .func (PySem.W.fnOf "_law_great" "_law_great" (defArgs (topS 32)) (defBody (topS 32)) (defScope (topS 32)) .none kV16 dc16 pm16 an16 cd16 ct16), sl16⟩) (c16 : PySem.W.codeIn K cd16 "_law_great" = true) (k16 : PySem.W.keepIn K (.ref f16) = true)
    (a17 : PySem.W.nsIn K mainGlobals "_law_refusal" = some (some (.ref f17))) (l17 : K.lookup f17 = some ⟨oc17, od17, .func (PySem.W.fnOf "_law_refusal" "_law_refusal" (defArgs (topS 33)) (defBody (topS 33)) (defScope (topS 33)) .none kV17 dc17 pm17 an17 cd17 ct17), sl17⟩) (c17 : PySem.W.codeIn K cd17 "_law_refusal" = true) (k17 : PySem.W.keepIn K (.ref f17) = true)
    (a18 : PySem.W.nsIn K mainGlobals "_law_one" = some (some (.ref f18))) (l18 : K.lookup f18 = some ⟨oc18, od18, .func (PySem.W.fnOf "_law_one" "_law_one" (defArgs (topS 34)) (defBody (topS 34)) (defScope (topS 34)) .none kV18 dc18 pm18 an18 cd18 ct18), sl18⟩) (c18 : PySem.W.codeIn K cd18 "_law_one" = true) (k18 : PySem.W.keepIn K (.ref f18) = true)
    (a19 : PySem.W.nsIn K mainGlobals "law" = some (some (.ref f19))) (l19 : K.lookup f19 = some ⟨oc19, od19, .func (PySem.W.fnOf "law" "law" (defArgs (topS 35)) (defBody (topS 35)) (defScope (topS 35)) .none kV19 dc19 pm19 an19 cd19 ct19), sl19⟩) (c19 : PySem.W.codeIn K cd19 "law" = true) (k19 : PySem.W.keepIn K (.ref f19) = true)
    (z0 : PySem.W.nsIn K mainGlobals "len" = some none)
    (z1 : PySem.W.nsIn K mainGlobals "sum" = some none)
    (z2 : PySem.W.nsIn K mainGlobals "max" = some none)
    (z3 : PySem.W.nsIn K mainGlobals "min" = some none)
    (z4 : PySem.W.nsIn K mainGlobals "tuple" = some none)
    (z5 : PySem.W.nsIn K mainGlobals "list" = some none)
    (z6 : PySem.W.nsIn K mainGlobals "str" = some none)
    (z7 : PySem.W.nsIn K mainGlobals "int" = some none)
    (z8 : PySem.W.nsIn K mainGlobals "all" = some none)
    (z9 : PySem.W.nsIn K mainGlobals "range" = some none)
    (z10 : PySem.W.nsIn K mainGlobals "isinstance" = some none)
    (z11 : PySem.W.nsIn K mainGlobals "bool" = some none)
    (z12 : PySem.W.nsIn K mainGlobals "ValueError" = some none)
    (z13 : PySem.W.nsIn K mainGlobals "zip" = some none)
    (q0 : PySem.W.nsIn K mainGlobals "LETTERS" = some (some (.str "abcdefghijklmnopqrstuvwxyz" t0)))
    (q1 : PySem.W.nsIn K mainGlobals "CALL" = some (some (.str "?" t1)))
    (q2 : PySem.W.nsIn K mainGlobals "MOST_STATES" = some (some (.int 20 t2)))
    (q3 : PySem.W.nsIn K mainGlobals "MOST_KNOTS" = some (some (.int 400 t3)))
    (q4 : PySem.W.nsIn K mainGlobals "MOST_CALLS" = some (some (.int 200 t4)))
    (q5 : PySem.W.nsIn K mainGlobals "TALLEST" = some (some (.int 20 t5)))
    (e0 : PySem.W.nsIn K mainGlobals "BookError" = some (some (.ref C0))) (x0 : PySem.W.excIn K C0 veMro "ValueError.__new__" = true) (kp0 : PySem.W.keepIn K (.ref C0) = true) (ci0 : PySem.W.isClsIn K C0 = true) (ty0 : PySem.W.typeIn K (.ref C0) = some (.type "type")) (sb0 : PySem.W.subIn K (.ref C0) (.type "BaseException") = some true) (gg0 : PySem.W.findIn K (.ref C0) "__getattribute__" = some (some (.builtin "BaseException.__getattribute__"))) (hh0 : PySem.W.findIn K (.ref C0) "__getattr__" = some none) (hd0 : PySem.W.hasDictIn K C0 = true) (ha0 : PySem.W.findIn K (.ref C0) "__class__" = some (some (.builtin "object.__class__"))) (hm0 : PySem.W.mroIn K C0 (.type "object") = some true)
    (e1 : PySem.W.nsIn K mainGlobals "NoKinds" = some (some (.ref C1))) (x1 : PySem.W.excIn K C1 veMro "ValueError.__new__" = true) (kp1 : PySem.W.keepIn K (.ref C1) = true) (ci1 : PySem.W.isClsIn K C1 = true) (ty1 : PySem.W.typeIn K (.ref C1) = some (.type "type")) (sb1 : PySem.W.subIn K (.ref C1) (.type "BaseException") = some true) (gg1 : PySem.W.findIn K (.ref C1) "__getattribute__" = some (some (.builtin "BaseException.__getattribute__"))) (hh1 : PySem.W.findIn K (.ref C1) "__getattr__" = some none) (hd1 : PySem.W.hasDictIn K C1 = true) (ha1 : PySem.W.findIn K (.ref C1) "__class__" = some (some (.builtin "object.__class__"))) (hm1 : PySem.W.mroIn K C1 (.type "object") = some true)
    (e2 : PySem.W.nsIn K mainGlobals "NoBook" = some (some (.ref C2))) (x2 : PySem.W.excIn K C2 veMro "ValueError.__new__" = true) (kp2 : PySem.W.keepIn K (.ref C2) = true) (ci2 : PySem.W.isClsIn K C2 = true) (ty2 : PySem.W.typeIn K (.ref C2) = some (.type "type")) (sb2 : PySem.W.subIn K (.ref C2) (.type "BaseException") = some true) (gg2 : PySem.W.findIn K (.ref C2) "__getattribute__" = some (some (.builtin "BaseException.__getattribute__"))) (hh2 : PySem.W.findIn K (.ref C2) "__getattr__" = some none) (hd2 : PySem.W.hasDictIn K C2 = true) (ha2 : PySem.W.findIn K (.ref C2) "__class__" = some (some (.builtin "object.__class__"))) (hm2 : PySem.W.mroIn K C2 (.type "object") = some true)
    (e3 : PySem.W.nsIn K mainGlobals "Great" = some (some (.ref C3))) (x3 : PySem.W.excIn K C3 veMro "ValueError.__new__" = true) (kp3 : PySem.W.keepIn K (.ref C3) = true) (ci3 : PySem.W.isClsIn K C3 = true) (ty3 : PySem.W.typeIn K (.ref C3) = some (.type "type")) (sb3 : PySem.W.subIn K (.ref C3) (.type "BaseException") = some true) (gg3 : PySem.W.findIn K (.ref C3) "__getattribute__" = some (some (.builtin "BaseException.__getattribute__"))) (hh3 : PySem.W.findIn K (.ref C3) "__getattr__" = some none) (hd3 : PySem.W.hasDictIn K C3 = true) (ha3 : PySem.W.findIn K (.ref C3) "__class__" = some (some (.builtin "object.__class__"))) (hm3 : PySem.W.mroIn K C3 (.type "object") = some true)
    (hn : PySem.W.specialIn K (.builtin "object.__class__") "__get__" = some (some (.builtin "getset_descriptor.__get__"))) (ht : PySem.W.takesIn K (.builtin "object.__class__") = some true)
    (s0_0 : PySem.W.subIn K (.ref C0) (.ref C0) = some true)
    (s0_1 : PySem.W.subIn K (.ref C0) (.ref C1) = some false)
    (s0_2 : PySem.W.subIn K (.ref C0) (.ref C2) = some false)
    (s0_3 : PySem.W.subIn K (.ref C0) (.ref C3) = some false)
    (sv0 : PySem.W.subIn K (.ref C0) (.type "ValueError") = some true)
    (s1_0 : PySem.W.subIn K (.ref C1) (.ref C0) = some true)
    (s1_1 : PySem.W.subIn K (.ref C1) (.ref C1) = some true)
    (s1_2 : PySem.W.subIn K (.ref C1) (.ref C2) = some false)
    (s1_3 : PySem.W.subIn K (.ref C1) (.ref C3) = some false)
    (sv1 : PySem.W.subIn K (.ref C1) (.type "ValueError") = some true)
    (s2_0 : PySem.W.subIn K (.ref C2) (.ref C0) = some true)
    (s2_1 : PySem.W.subIn K (.ref C2) (.ref C1) = some false)
    (s2_2 : PySem.W.subIn K (.ref C2) (.ref C2) = some true)
    (s2_3 : PySem.W.subIn K (.ref C2) (.ref C3) = some false)
    (sv2 : PySem.W.subIn K (.ref C2) (.type "ValueError") = some true)
    (s3_0 : PySem.W.subIn K (.ref C3) (.ref C0) = some true)
    (s3_1 : PySem.W.subIn K (.ref C3) (.ref C1) = some false)
    (s3_2 : PySem.W.subIn K (.ref C3) (.ref C2) = some false)
    (s3_3 : PySem.W.subIn K (.ref C3) (.ref C3) = some true)
    (sv3 : PySem.W.subIn K (.ref C3) (.type "ValueError") = some true)
    : ∃ fd : FuncData, (∀ (s : Shared) (v : Value), BindsTo s fd ⟨[v], []⟩ [(("script" : Str), v)]) ∧ ∀ base : Heap, K.In base → base.Ns mainGlobals mg → FnOk P w K mg base (L2.CX P w) 230 fa fd [("script" : Str)] (spLaw clT (runD suT (tbl tabT) 230 lawI) K) := by
  have T0 : ExT K "BookError" C0 := ⟨e0, x0, kp0, ci0, ty0, sb0, s0_0, ⟨gg0, hh0, sb0, hd0, ha0, hn, ht, hm0⟩⟩
  have T1 : ExT K "NoKinds" C1 := ⟨e1, x1, kp1, ci1, ty1, sb1, s1_1, ⟨gg1, hh1, sb1, hd1, ha1, hn, ht, hm1⟩⟩
  have T2 : ExT K "NoBook" C2 := ⟨e2, x2, kp2, ci2, ty2, sb2, s2_2, ⟨gg2, hh2, sb2, hd2, ha2, hn, ht, hm2⟩⟩
  have T3 : ExT K "Great" C3 := ⟨e3, x3, kp3, ci3, ty3, sb3, s3_3, ⟨gg3, hh3, sb3, hd3, ha3, hn, ht, hm3⟩⟩
  have hcl : ∀ p ∈ clL, ClP K mg clT p := allP_cons (cl_own X G rfl T0) (allP_cons (cl_own X G rfl T1) (allP_cons (cl_own X G rfl T2) (allP_cons (cl_own X G rfl T3) (allP_cons (cl_ve X G rfl z12) (allP_nil)))))
  have hsu : ∀ p ∈ suL, SuP K clT p := allP_cons (su_own rfl rfl T0 T0 s0_0) (allP_cons (su_own rfl rfl T0 T1 s0_1) (allP_cons (su_own rfl rfl T0 T2 s0_2) (allP_cons (su_own rfl rfl T0 T3 s0_3) (allP_cons (su_ve rfl rfl T0 z12 sv0) (allP_cons (su_own rfl rfl T1 T0 s1_0) (allP_cons (su_own rfl rfl T1 T1 s1_1) (allP_cons (su_own rfl rfl T1 T2 s1_2) (allP_cons (su_own rfl rfl T1 T3 s1_3) (allP_cons (su_ve rfl rfl T1 z12 sv1) (allP_cons (su_own rfl rfl T2 T0 s2_0) (allP_cons (su_own rfl rfl T2 T1 s2_1) (allP_cons (su_own rfl rfl T2 T2 s2_2) (allP_cons (su_own rfl rfl T2 T3 s2_3) (allP_cons (su_ve rfl rfl T2 z12 sv2) (allP_cons (su_own rfl rfl T3 T0 s3_0) (allP_cons (su_own rfl rfl T3 T1 s3_1) (allP_cons (su_own rfl rfl T3 T2 s3_2) (allP_cons (su_own rfl rfl T3 T3 s3_3) (allP_cons (su_ve rfl rfl T3 z12 sv3) (allP_nil))))))))))))))))))))
  have hcn : ∀ p ∈ cnT, CnP K mg (woOf K clT) p := allP_cons (cn_str X G q0) (allP_cons (cn_str X G q1) (allP_cons (cn_int X G q2) (allP_cons (cn_int X G q3) (allP_cons (cn_int X G q4) (allP_cons (cn_int X G q5) (allP_nil))))))
  have T : Tb K mg (woOf K clT) suT (tbl tabT) cnT clT 1000 := {
    fn := tbl_fn (
      all_cons (fnT_mk (st := topS 7) X G a0 l0 c0 k0 sc_f_is_name (fun us hl => match us, hl with | [_], _ => rfl) cm_f_is_name) (
      all_cons (fnT_mk (st := topS 8) X G a1 l1 c1 k1 sc_f_kinds_of (fun us hl => match us, hl with | [_], _ => rfl) cm_f_kinds_of) (
      all_cons (fnT_mk (st := topS 9) X G a2 l2 c2 k2 sc_f_many_of (fun us hl => match us, hl with | [_, _], _ => rfl) cm_f_many_of) (
      all_cons (fnT_mk (st := topS 12) X G a3 l3 c3 k3 sc_f_fits_pattern (fun us hl => match us, hl with | [_, _, _, _], _ => rfl) cm_f_fits_pattern) (
      all_cons (fnT_mk (st := topS 13) X G a4 l4 c4 k4 sc_f_is_knot (fun us hl => match us, hl with | [_], _ => rfl) cm_f_is_knot) (
      all_cons (fnT_mk (st := topS 14) X G a5 l5 c5 k5 sc_f_knots_of (fun us hl => match us, hl with | [_], _ => rfl) cm_f_knots_of) (
      all_cons (fnT_mk (st := topS 15) X G a6 l6 c6 k6 sc_f_tall_of (fun us hl => match us, hl with | [_], _ => rfl) cm_f_tall_of) (
      all_cons (fnT_mk (st := topS 16) X G a7 l7 c7 k7 sc_f_calls_in (fun us hl => match us, hl with | [_], _ => rfl) cm_f_calls_in) (
      all_cons (fnT_mk (st := topS 22) X G a8 l8 c8 k8 sc_f_small_pattern (fun us hl => match us, hl with | [_], _ => rfl) cm_f_small_pattern) (
      all_cons (fnT_mk (st := topS 23) X G a9 l9 c9 k9 sc_f_good_pattern (fun us hl => match us, hl with | [_, _, _, _], _ => rfl) cm_f_good_pattern) (
      all_cons (fnT_mk (st := topS 24) X G a10 l10 c10 k10 sc_f_made_book (fun us hl => match us, hl with | [_, _, _, _], _ => rfl) cm_f_made_book) (
      all_cons (fnT_mk (st := topS 25) X G a11 l11 c11 k11 sc_f_states_of (fun us hl => match us, hl with | [_], _ => rfl) cm_f_states_of) (
      all_cons (fnT_mk (st := topS 28) X G a12 l12 c12 k12 sc_f_law_turn (fun us hl => match us, hl with | [_, _], _ => rfl) cm_f_law_turn) (
      all_cons (fnT_mk (st := topS 29) X G a13 l13 c13 k13 sc_f_law_row_2 (fun us hl => match us, hl with | [_, _, _], _ => rfl) cm_f_law_row_2) (
      all_cons (fnT_mk (st := topS 30) X G a14 l14 c14 k14 sc_f_law_bush (fun us hl => match us, hl with | [_, _, _], _ => rfl) cm_f_law_bush) (
      all_cons (fnT_mk (st := topS 31) X G a15 l15 c15 k15 sc_f_law_calls (fun us hl => match us, hl with | [_, _, _], _ => rfl) cm_f_law_calls) (
      all_cons (fnT_mk (st := topS 32) X G a16 l16 c16 k16 sc_f_law_great (fun us hl => match us, hl with | [_, _, _, _], _ => rfl) cm_f_law_great) (
      all_cons (fnT_mk (st := topS 33) X G a17 l17 c17 k17 sc_f_law_refusal (fun us hl => match us, hl with | [_, _, _], _ => rfl) cm_f_law_refusal) (
      all_cons (fnT_mk (st := topS 34) X G a18 l18 c18 k18 sc_f_law_one (fun us hl => match us, hl with | [_, _], _ => rfl) cm_f_law_one) (
      all_cons (fnT_mk (st := topS 35) X G a19 l19 c19 k19 sc_f_law_25 (fun us hl => match us, hl with | [_], _ => rfl) cm_f_law_25) (
      all_nil)))))))))))))))))))))
    blt := fun x hx => by
      simp only [blts, List.mem_cons, List.not_mem_nil, or_false] at hx
      rcases hx with rfl | rfl | rfl | rfl | rfl | rfl | rfl | rfl | rfl | rfl | rfl | rfl | rfl | rfl
      · exact PySem.W.mg_none_of X G z0
      · exact PySem.W.mg_none_of X G z1
      · exact PySem.W.mg_none_of X G z2
      · exact PySem.W.mg_none_of X G z3
      · exact PySem.W.mg_none_of X G z4
      · exact PySem.W.mg_none_of X G z5
      · exact PySem.W.mg_none_of X G z6
      · exact PySem.W.mg_none_of X G z7
      · exact PySem.W.mg_none_of X G z8
      · exact PySem.W.mg_none_of X G z9
      · exact PySem.W.mg_none_of X G z10
      · exact PySem.W.mg_none_of X G z11
      · exact PySem.W.mg_none_of X G z12
      · exact PySem.W.mg_none_of X G z13
    cst := fun x d hx => hcn (x, d) (lks_mem hx)
    kls := fun c x b hx => (hcl (c, (x, b)) (lk_mem hx)).1
    rai := fun c x hx => (hcl (c, (x, true)) (lk_mem hx)).2 rfl
    sub := fun k c b hx => hsu ((k, c), b) (lk2_mem hx) }
  exact law_mk T (df := f_law_25) (by rfl) hfa (by rfl) (by rfl)
end
end Bk
open PySem PySem.W PyProof.Rows
set_option maxHeartbeats 0 in
theorem PySem.Challenge.cw_boughbook_k20_great_books_holds : PySem.Challenge.rw_boughbook_k20_great_books.Holds := by
  w_on; o_law; k_head; (case hw => w_witness2)
  k_fill
  refine L2.walk_of (l := PySem.Challenge.rw_boughbook_k20_great_books) (n := 63) (k := 230) (x := "script") (CX := fun w => L2.CX PySem.Challenge.rw_boughbook_k20_great_books.prog w) (sp := fun w => Bk.spLaw Bk.clT (Bk.runD Bk.suT (Bk.tbl Bk.tabT) 230 Bk.lawI) _) rfl (by decide) rfl ⟨rfl, by decide, by decide⟩ (fun w h Y => PySem.W.kIn_of Y) ?F (fun _ _ a ns hl _ hS => Bk.sp_law hS (Bk.plain ns hl)) (fun _ _ _ _ _ h => Bk.cx_end h)
  case F =>
    intro w mg fa h KX G hmg
    refine' Bk.all_mk KX G hmg ?a0 ?l0 ?c0 ?k0 ?a1 ?l1 ?c1 ?k1 ?a2 ?l2 ?c2 ?k2 ?a3 ?l3 ?c3 ?k3 ?a4 ?l4 ?c4 ?k4 ?a5 ?l5 ?c5 ?k5 ?a6 ?l6 ?c6 ?k6 ?a7 ?l7 ?c7 ?k7 ?a8 ?l8 ?c8 ?k8 ?a9 ?l9 ?c9 ?k9 ?a10 ?l10 ?c10 ?k10 ?a11 ?l11 ?c11 ?k11 ?a12 ?l12 ?c12 ?k12 ?a13 ?l13 ?c13 ?k13 ?a14 ?l14 ?c14 ?k14 ?a15 ?l15 ?c15 ?k15 ?a16 ?l16 ?c16 ?k16 ?a17 ?l17 ?c17 ?k17 ?a18 ?l18 ?c18 ?k18 ?a19 ?l19 ?c19 ?k19 ?z0 ?z1 ?z2 ?z3 ?z4 ?z5 ?z6 ?z7 ?z8 ?z9 ?z10 ?z11 ?z12 ?z13 ?q0 ?q1 ?q2 ?q3 ?q4 ?q5 ?e0 ?x0 ?kp0 ?ci0 ?ty0 ?sb0 ?gg0 ?hh0 ?hd0 ?ha0 ?hm0 ?e1 ?x1 ?kp1 ?ci1 ?ty1 ?sb1 ?gg1 ?hh1 ?hd1 ?ha1 ?hm1 ?e2 ?x2 ?kp2 ?ci2 ?ty2 ?sb2 ?gg2 ?hh2 ?hd2 ?ha2 ?hm2 ?e3 ?x3 ?kp3 ?ci3 ?ty3 ?sb3 ?gg3 ?hh3 ?hd3 ?ha3 ?hm3 ?hn ?ht ?s0_0 ?s0_1 ?s0_2 ?s0_3 ?sv0 ?s1_0 ?s1_1 ?s1_2 ?s1_3 ?sv1 ?s2_0 ?s2_1 ?s2_2 ?s2_3 ?sv2 ?s3_0 ?s3_1 ?s3_2 ?s3_3 ?sv3
    (case a0 => k_is); (case l0 => k_is); (case c0 => k_is); (case k0 => k_is); (case a1 => k_is); (case l1 => k_is); (case c1 => k_is); (case k1 => k_is); (case a2 => k_is); (case l2 => k_is); (case c2 => k_is); (case k2 => k_is); (case a3 => k_is); (case l3 => k_is); (case c3 => k_is); (case k3 => k_is); (case a4 => k_is); (case l4 => k_is); (case c4 => k_is); (case k4 => k_is); (case a5 => k_is); (case l5 => k_is); (case c5 => k_is); (case k5 => k_is); (case a6 => k_is); (case l6 => k_is); (case c6 => k_is); (case k6 => k_is); (case a7 => k_is); (case l7 => k_is); (case c7 => k_is); (case k7 => k_is); (case a8 => k_is); (case l8 => k_is); (case c8 => k_is); (case k8 => k_is); (case a9 => k_is); (case l9 => k_is); (case c9 => k_is); (case k9 => k_is); (case a10 => k_is); (case l10 => k_is); (case c10 => k_is); (case k10 => k_is); (case a11 => k_is); (case l11 => k_is); (case c11 => k_is); (case k11 => k_is); (case a12 => k_is); (case l12 => k_is); (case c12 => k_is); (case k12 => k_is); (case a13 => k_is); (case l13 => k_is); (case c13 => k_is); (case k13 => k_is); (case a14 => k_is); (case l14 => k_is); (case c14 => k_is); (case k14 => k_is); (case a15 => k_is); (case l15 => k_is); (case c15 => k_is); (case k15 => k_is); (case a16 => k_is); (case l16 => k_is); (case c16 => k_is); (case k16 => k_is); (case a17 => k_is); (case l17 => k_is); (case c17 => k_is); (case k17 => k_is); (case a18 => k_is); (case l18 => k_is); (case c18 => k_is); (case k18 => k_is); (case a19 => k_is); (case l19 => k_is); (case c19 => k_is); (case k19 => k_is); (case z0 => k_is); (case z1 => k_is); (case z2 => k_is); (case z3 => k_is); (case z4 => k_is); (case z5 => k_is); (case z6 => k_is); (case z7 => k_is); (case z8 => k_is); (case z9 => k_is); (case z10 => k_is); (case z11 => k_is); (case z12 => k_is); (case z13 => k_is); (case q0 => k_is); (case q1 => k_is); (case q2 => k_is); (case q3 => k_is); (case q4 => k_is); (case q5 => k_is); (case e0 => k_is); (case x0 => k_exc); (case kp0 => k_is); (case ci0 => k_is); (case ty0 => k_is); (case sb0 => k_is); (case gg0 => k_is); (case hh0 => k_is); (case hd0 => k_is); (case ha0 => k_is); (case hm0 => k_is); (case e1 => k_is); (case x1 => k_exc); (case kp1 => k_is); (case ci1 => k_is); (case ty1 => k_is); (case sb1 => k_is); (case gg1 => k_is); (case hh1 => k_is); (case hd1 => k_is); (case ha1 => k_is); (case hm1 => k_is); (case e2 => k_is); (case x2 => k_exc); (case kp2 => k_is); (case ci2 => k_is); (case ty2 => k_is); (case sb2 => k_is); (case gg2 => k_is); (case hh2 => k_is); (case hd2 => k_is); (case ha2 => k_is); (case hm2 => k_is); (case e3 => k_is); (case x3 => k_exc); (case kp3 => k_is); (case ci3 => k_is); (case ty3 => k_is); (case sb3 => k_is); (case gg3 => k_is); (case hh3 => k_is); (case hd3 => k_is); (case ha3 => k_is); (case hm3 => k_is); (case hn => k_is); (case ht => k_is); (case s0_0 => k_is); (case s0_1 => k_is); (case s0_2 => k_is); (case s0_3 => k_is); (case sv0 => k_is); (case s1_0 => k_is); (case s1_1 => k_is); (case s1_2 => k_is); (case s1_3 => k_is); (case sv1 => k_is); (case s2_0 => k_is); (case s2_1 => k_is); (case s2_2 => k_is); (case s2_3 => k_is); (case sv2 => k_is); (case s3_0 => k_is); (case s3_1 => k_is); (case s3_2 => k_is); (case s3_3 => k_is); (case sv3 => k_is)

