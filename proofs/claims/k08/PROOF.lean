import PyProof.Rows.All
import Wide.All
import OpenK.AllK
import Wide.FinOn
import HandS.ForMost
import HandS.Conv
import HandS.ForExc
import HandS.Wide
import HandS.TupAny
import HandS.IsInst
import HandS.More
import HandS.StrMore
import HandS.ExcIs
import HandS.TryMany
import HandS.Small
import KE.DataMinMax
import KE.DataEq
import KE.KeyNested
import HandS.NestedK
import HandS.ExcOwn
import HandS.Dict
import HandS.TupLen
import HandS.WordsDict
import HandS.TupMul
import HandS.Style
import HandS.SortKw
import HandS.Strs
import HandS.SetFor
import HandS.ReplaceLit
import HandS.Zip
import KE.GoesZip
import KE.GoesMore
import HandS.Iter
import HandS.WordsExc
import PyProof.ExcBaseAll.ValueError
import PySem.Challenge.RW_boughbook_k08_whole_no_other_text
set_option Elab.async false
set_option linter.all false
set_option maxRecDepth 100000
/-! B1: data, the little language and its evaluator. -/
namespace Bk
open PySem PySem.Spec PyProof.Rows L2

/-! ### data -/
/-- dct t: a dict, its keys of the t-th kind (0 whole numbers and texts, 1 tuples of these); fn: a def; obj: an instance of a class of one's own;
box: a field's own container; gone: one that is lent; scr: the script, that no one changes -/
inductive D where
  | non | bl (b : Bool) | int (i : Int) | str (s : Str) | tup (xs : List D) | lst (xs : List D)
  | dct (t : Nat) (ks vs : List D) | fn (i : Nat) | obj (c : Nat) (ns : List Str) (vs : List D) | box (d : D) | gone | scr (ns : List Int)

mutual
def D.py : D → PyData
  | .non => .none
  | .bl b => .bool b
  | .int i => .int i
  | .str s => .str s
  | .tup xs => .tuple (D.pyL xs)
  | .lst xs => .list (D.pyL xs)
  | .dct _ _ _ => .dict []
  | .fn _ => .dict []
  | .obj _ _ _ => .dict []
  | .box _ => .dict []
  | .gone => .dict []
  | .scr _ => .dict []
def D.pyL : List D → List PyData
  | [] => []
  | x :: xs => D.py x :: D.pyL xs
end
mutual
def D.beq : D → D → Bool
  | .non, .non => true
  | .bl a, .bl b => a == b
  | .int a, .int b => decide (a = b)
  | .str a, .str b => decide (a = b)
  | .tup a, .tup b => D.beqL a b
  | .lst a, .lst b => D.beqL a b
  | .fn a, .fn b => decide (a = b)
  | _, _ => false
def D.beqL : List D → List D → Bool
  | [], [] => true
  | x :: xs, y :: ys => D.beq x y && D.beqL xs ys
  | _, _ => false
end
mutual
theorem D.eq_of_beq : ∀ {a b : D}, D.beq a b = true → a = b
  | .non, b, h => by cases b <;> simp [D.beq] at h ⊢
  | .bl _, b, h => by cases b <;> simp [D.beq] at h ⊢; exact h
  | .int _, b, h => by cases b <;> simp [D.beq] at h ⊢; exact h
  | .str _, b, h => by cases b <;> simp [D.beq] at h ⊢; exact h
  | .fn _, b, h => by cases b <;> simp [D.beq] at h ⊢; exact h
  | .dct _ _ _, b, h => by cases b <;> simp [D.beq] at h
  | .obj _ _ _, b, h => by cases b <;> simp [D.beq] at h
  | .box _, b, h => by cases b <;> simp [D.beq] at h
  | .gone, b, h => by cases b <;> simp [D.beq] at h
  | .scr _, b, h => by cases b <;> simp [D.beq] at h
  | .tup xs, b, h => by
    cases b <;> simp only [D.beq] at h <;> first | exact absurd h Bool.false_ne_true | rw [D.eq_of_beqL h]
  | .lst xs, b, h => by
    cases b <;> simp only [D.beq] at h <;> first | exact absurd h Bool.false_ne_true | rw [D.eq_of_beqL h]
theorem D.eq_of_beqL : ∀ {a b : List D}, D.beqL a b = true → a = b
  | [], b, h => by cases b <;> simp [D.beqL] at h ⊢
  | x :: xs, b, h => by
    cases b with
    | nil => simp [D.beqL] at h
    | cons y ys =>
      simp only [D.beqL, Bool.and_eq_true] at h
      rw [D.eq_of_beq h.1, D.eq_of_beqL h.2]
end

/-- an operation's result -/
inductive R (α : Type) where
  | ok (a : α) | stuck
def R.bind {α β : Type} : R α → (α → R β) → R β
  | .ok a, f => f a
  | .stuck, _ => .stuck
@[simp] theorem R.bind_ok {α β : Type} (a : α) (f : α → R β) : (R.ok a).bind f = f a := rfl
@[simp] theorem R.bind_stuck {α β : Type} (f : α → R β) : (R.stuck : R α).bind f = .stuck := rfl

/-- a slot: not set, a value that no one changes, a container that only this slot holds -/
inductive Sl where
  | un | fz (d : D) | own (d : D)
abbrev Rho := List Sl

mutual
/-- no function handed in stands in it -/
def D.nb : D → Bool
  | .tup xs => D.nbL xs
  | .lst xs => D.nbL xs
  | .dct _ _ xs => D.nbL xs
  | .obj _ _ xs => D.nbL xs
  | .box (.lst xs) => D.nbL xs
  | .box _ => false
  | _ => true
def D.nbL : List D → Bool
  | [] => true
  | d :: ds => D.nb d && D.nbL ds
end
def Sl.nb : Sl → Bool
  | .fz d => d.nb
  | .own d => d.nb
  | _ => true

inductive Ty where | int | str | tuple | list | bool

inductive Prim where
  | add | sub | mul | fdiv | mod | pow | neg
  | eq | ne | lt | le | gt | ge | inn | notin | isN | notN
  | idx | slc (lo hi : Bool)
  | len | sum | maxl | maxd | minl | max2 | min2 | tupOf | lstOf | strOf | intOf | isi (t : Ty) | all
  | tup | lst | rng1 | rng2 | lrg | zip2 | dget | din | dnin | lens | lstD | isB | notB

/-- a whole number that is far from the bounds of size -/
def small (i : Int) : Bool := decide (i.natAbs < 2 ^ 9000)

def intsOf : List D → Option (List Int)
  | [] => some []
  | .int i :: r => (intsOf r).map (i :: ·)
  | _ => none
def boolsOf : List D → Option (List Bool)
  | [] => some []
  | .bl i :: r => (boolsOf r).map (i :: ·)
  | _ => none
def strsOf : List D → Option (List Str)
  | [] => some []
  | .str i :: r => (strsOf r).map (i :: ·)
  | _ => none
def maxOf : Int → List Int → Int
  | m, [] => m
  | m, x :: r => maxOf (if x > m then x else m) r
def minOf : Int → List Int → Int
  | m, [] => m
  | m, x :: r => minOf (if x < m then x else m) r
def cutD {α : Type} (xs : List α) (lo hi : Option Int) : List α := (xs.drop (HT.sIx xs.length 0 lo)).take (HT.sIx xs.length xs.length hi - HT.sIx xs.length 0 lo)
def rngD (a b : Int) : List D := (List.range (b - a).toNat).map fun k => D.int (a + (k : Nat))
def isTy : Ty → D → Option Bool
  | .int, .int _ => some true | .int, .bl _ => some true
  | .str, .str _ => some true | .tuple, .tup _ => some true | .list, .lst _ => some true | .bool, .bl _ => some true
  | _, .fn _ => none | _, .dct _ _ _ => none | _, .obj _ _ _ => none | _, .box _ => none | _, .gone => none | _, .scr _ => none
  | _, _ => some false
def eqD (a b : D) : R D :=
  if a.py.plain && b.py.plain && decide (min a.py.depth b.py.depth ≤ 160) then .ok (.bl (PyData.eqv a.py b.py)) else .stuck
def notR : R D → R D := fun r => r.bind fun b => match b with | .bl k => .ok (.bl (!k)) | _ => .stuck

def okIf (c : Bool) (d : D) : R D := if c then .ok d else .stuck
def ofOpt : Option D → R D
  | some d => .ok d
  | none => .stuck
def evSlc (d : D) (lo hi : Option Int) : R D := match d with
  | .tup xs => .ok (.tup (cutD xs lo hi))
  | .lst xs => .ok (.lst (cutD xs lo hi))
  | .scr xs => .ok (.lst (cutD (xs.map D.int) lo hi))
  | .str s => okIf (decide (s.length ≤ sizeLine)) (.str (cutS s lo hi))
  | _ => .stuck

def evInt2 (f : Int → Int → R D) : List D → R D
  | [.int a, .int b] => f a b
  | _ => .stuck
def evAdd : List D → R D
  | [.int a, .int b] => .ok (.int (a + b))
  | [.str a, .str b] => okIf (decide (a.length + b.length ≤ sizeLine)) (.str (a ++ b))
  | [.tup a, .tup b] => okIf (decide (a.length + b.length ≤ sizeLine)) (.tup (a ++ b))
  | [.lst a, .lst b] => okIf (decide (a.length + b.length ≤ sizeLine)) (.lst (a ++ b))
  | [.scr a, .lst b] => okIf (decide (a.length + b.length ≤ sizeLine)) (.lst (a.map D.int ++ b))
  | [.lst a, .scr b] => okIf (decide (a.length + b.length ≤ sizeLine)) (.lst (a ++ b.map D.int))
  | _ => .stuck
def evIn : List D → R D
  | [.str a, .str b] => match a.cps.toList with | [c] => .ok (.bl (decide (c ∈ b.cps.toList))) | _ => .stuck
  | [x, .tup xs] => okIf (x.py.plain && PyData.plainAll (D.pyL xs) && decide (min (PyData.depthAll (D.pyL xs)) x.py.depth ≤ 160)) (.bl ((D.pyL xs).any fun y => PyData.eqv y x.py))
  | [x, .lst xs] => okIf (x.py.plain && PyData.plainAll (D.pyL xs) && decide (min (PyData.depthAll (D.pyL xs)) x.py.depth ≤ 160)) (.bl ((D.pyL xs).any fun y => PyData.eqv y x.py))
  | _ => .stuck
def evNeg : List D → R D
  | [.int a] => .ok (.int (-a))
  | _ => .stuck
def evEq : List D → R D
  | [a, b] => eqD a b
  | _ => .stuck
def isNon : D → Bool
  | .non => true
  | _ => false
def evIsN : List D → R D
  | [a] => .ok (.bl (isNon a))
  | _ => .stuck
def evIsB : List D → R D
  | [.bl a, .bl b] => .ok (.bl (decide (a = b)))
  | _ => .stuck
def evIdx : List D → R D
  | [.tup xs, .int i] => ofOpt (atI xs i)
  | [.lst xs, .int i] => ofOpt (atI xs i)
  | [.scr xs, .int i] => ofOpt (atI (xs.map D.int) i)
  | [.str s, .int i] => if s.length ≤ sizeLine then (match atI s.cps.toList i with | some c => .ok (.str ⟨#[c]⟩) | none => .stuck) else .stuck
  | _ => .stuck
def evSlice : Bool → Bool → List D → R D
  | false, false, [x] => evSlc x none none
  | true, false, [x, .int i] => evSlc x (some i) none
  | false, true, [x, .int j] => evSlc x none (some j)
  | true, true, [x, .int i, .int j] => evSlc x (some i) (some j)
  | _, _, _ => .stuck
def evLen : List D → R D
  | [.tup xs] => .ok (.int xs.length)
  | [.lst xs] => .ok (.int xs.length)
  | [.scr xs] => .ok (.int xs.length)
  | [.str s] => okIf (decide (s.length ≤ sizeLine)) (.int s.length)
  | [.dct t ks _] => okIf (decide (t < 2)) (.int ks.length)
  | [.box (.lst xs)] => .ok (.int xs.length)
  | _ => .stuck
def evSum : List D → R D
  | [.lst xs] => match intsOf xs with | some ns => .ok (.int ns.sum) | none => .stuck
  | _ => .stuck
def evMaxl : List D → R D
  | [.lst xs] => match intsOf xs with | some (n :: ns) => .ok (.int (maxOf n ns)) | _ => .stuck
  | _ => .stuck
def evMaxd : List D → R D
  | [.lst xs, .int d] => match intsOf xs with | some (n :: ns) => .ok (.int (maxOf n ns)) | some [] => .ok (.int d) | _ => .stuck
  | _ => .stuck
def evMinl : List D → R D
  | [.lst xs] => match intsOf xs with | some (n :: ns) => .ok (.int (minOf n ns)) | _ => .stuck
  | _ => .stuck
def evTupOf : List D → R D
  | [.lst xs] => .ok (.tup xs)
  | [.tup xs] => .ok (.tup xs)
  | _ => .stuck
def evLstOf : List D → R D
  | [.scr xs] => .ok (.lst (xs.map D.int))
  | [.lst xs] => .ok (.lst xs)
  | [.tup xs] => .ok (.lst xs)
  | _ => .stuck
/-- the keys of a dict -/
def evLstD : List D → R D
  | [.dct t ks _] => okIf (decide (t < 2)) (.lst ks)
  | _ => .stuck
def evStrOf : List D → R D
  | [.int i] => okIf (decide (i.natAbs.log2 < 1920)) (.str (toString i))
  | _ => .stuck
/-- each text once -/
def uniq (xs : List Str) : List Str := xs.foldl (fun acc x => if acc.any (· == x) then acc else acc ++ [x]) []
def evLens : List D → R D
  | [.lst xs] => match strsOf xs with | some ys => okIf (decide (ys.length ≤ 1000)) (.int (uniq ys).length) | none => .stuck
  | _ => .stuck
def evIntOf : List D → R D
  | [.int i] => .ok (.int i)
  | [.bl b] => .ok (.int (if b then 1 else 0))
  | [.str a] => match intText? a with | some n => okIf (decide (a.length ≤ 640)) (.int n) | none => .stuck
  | _ => .stuck
def evIsi (t : Ty) : List D → R D
  | [x] => ofOpt ((isTy t x).map D.bl)
  | _ => .stuck
def evAll : List D → R D
  | [.lst xs] => match boolsOf xs with | some bs => .ok (.bl (bs.all id)) | none => .stuck
  | _ => .stuck
def evJoin : List D → R D
  | [.str a, .lst xs] => match strsOf xs with
    | some ys => okIf (decide ((ys.map (·.length)).sum + ys.length * a.length ≤ 16777216)) (.str (Txt.join a ys))
    | none => .stuck
  | _ => .stuck
def in62 (i : Int) : Bool := decide (-(2 ^ 62) ≤ i) && decide (i < 2 ^ 62)
def evRng1 : List D → R D
  | [.int b] => okIf (in62 b) (.lst (rngD 0 b))
  | _ => .stuck

/-- list(range(b)) -/
def evLrg : List D → R D
  | [.int b] => okIf (decide (0 ≤ b) && decide (b ≤ 16777216)) (.lst (rngD 0 b))
  | _ => .stuck
/-- zip of two tuples, of two lists -/
def zipD (xs ys : List D) : List D := List.zipWith (fun x y => D.tup [x, y]) xs ys
def evZip : List D → R D
  | [.tup xs, .tup ys] => .ok (.lst (zipD xs ys))
  | [.lst xs, .lst ys] => .ok (.lst (zipD xs ys))
  | [.tup xs, .lst ys] => .ok (.lst (zipD xs ys))
  | _ => .stuck
/-- times: of numbers; of a text or a list and a number -/
def evMul : List D → R D
  | [.int a, .int b] => okIf (small a && small b || decide (b.natAbs < 2 ^ 60)) (.int (a * b))
  | [.str z, .int k] => okIf (decide (z.length ≤ 1000) && decide (-1000 ≤ k) && decide (k ≤ 4000)) (.str (Txt.mul z k))
  | [.lst xs, .int k] => okIf (decide (xs.length ≤ 1000) && decide (-1000 ≤ k) && decide (k ≤ 1000)) (.lst (List.replicate k.toNat xs).flatten)
  | [.tup xs, .int k] => okIf (decide (xs.length ≤ 1000) && decide (-1000 ≤ k) && decide (k ≤ 1000)) (.tup (List.replicate k.toNat xs).flatten)
  | _ => .stuck
/-! ### dicts -/
def keyOf : D → Option Key
  | .int i => some (.inl i)
  | .str s => some (.inr s)
  | _ => none
def keysOf : List D → Option (List Key)
  | [] => some []
  | d :: r => match keyOf d, keysOf r with | some k, some l => some (k :: l) | _, _ => none
def keyTOf : D → Option (List Key)
  | .tup xs => match xs with
    | [.str z] => if z = "*" then none else some [.inr z]
    | xs => keysOf xs
  | _ => none
/-- a tuple that may be written in the text -/
def cstL : List D → Bool
  | [.str z] => decide (z = "*")
  | _ => false
mutual
/-- data that may stand in a key -/
def nkOf : D → Option NestedKey
  | .int i => some (.num i)
  | .str s => some (.text s)
  | .tup xs => if cstL xs then none else (nkOfL xs).map .tup
  | _ => none
def nkOfL : List D → Option (List NestedKey)
  | [] => some []
  | d :: ds => match nkOf d, nkOfL ds with
    | some k, some l => some (k :: l)
    | _, _ => none
end
/-- a key of tuples within tuples -/
def keyNOf : D → Option NestedKey
  | .tup xs => match nkOf (.tup xs) with
    | some k => if k.depth ≤ 8 then some k else none
    | none => none
  | _ => none
/-- may it be a key of the t-th kind -/
def isKey (t : Nat) (d : D) : Bool := match t with
  | 0 => (keyOf d).isSome
  | 1 => (keyTOf d).isSome
  | 2 => (keyNOf d).isSome
  | _ => false
def dLook (k : D) : List D → List D → Option D
  | x :: ks, v :: vs => if D.beq x k then some v else dLook k ks vs
  | _, _ => none
def dHas (k : D) (ks : List D) : Bool := ks.any fun x => D.beq x k
def dRepl (k v : D) : List D → List D → List D
  | x :: ks, w :: vs => (if D.beq x k then v else w) :: dRepl k v ks vs
  | _, _ => []
def dPutV (k v : D) (ks vs : List D) : List D := if dHas k ks then dRepl k v ks vs else vs ++ [v]
def dPutK (k : D) (ks : List D) : List D := if dHas k ks then ks else ks ++ [k]

def evDget : D → D → R D
  | .dct t ks vs, k => if isKey t k then (match dLook k ks vs with | some v => .ok v | none => .stuck) else
      -- a dict that is walked
      if decide (10 ≤ t) && isKey (t - 10) k then (match dLook k ks vs with | some v => .ok v | none => .stuck) else .stuck
  | _, _ => .stuck
def evDin : D → D → R D
  | .dct t ks vs, k => if isKey t k then .ok (.bl (dLook k ks vs).isSome) else .stuck
  | _, _ => .stuck

def ev2 (f : D → D → R D) : List D → R D
  | [a, b] => f a b
  | _ => .stuck

def evPrim (p : Prim) (ds : List D) : R D := match p with
  | .add => evAdd ds
  | .sub => evInt2 (fun a b => .ok (.int (a - b))) ds
  | .mul => evMul ds
  | .fdiv => evInt2 (fun a b => okIf (decide (0 < b) && small b) (.int (a / b))) ds
  | .mod => evInt2 (fun a b => okIf (decide (0 < b)) (.int (a % b))) ds
  | .pow => evInt2 (fun a b => okIf (decide (0 ≤ b) && decide (b ≤ 100000) && decide (a.natAbs < 2 ^ 64)) (.int (a ^ b.toNat))) ds
  | .neg => evNeg ds
  | .eq => evEq ds
  | .ne => notR (evEq ds)
  | .lt => evInt2 (fun a b => .ok (.bl (decide (a < b)))) ds
  | .le => evInt2 (fun a b => .ok (.bl (decide (a ≤ b)))) ds
  | .gt => evInt2 (fun a b => .ok (.bl (decide (a > b)))) ds
  | .ge => evInt2 (fun a b => .ok (.bl (decide (a ≥ b)))) ds
  | .inn => evIn ds
  | .notin => notR (evIn ds)
  | .isN => evIsN ds
  | .notN => notR (evIsN ds)
  | .isB => evIsB ds
  | .notB => notR (evIsB ds)
  | .idx => evIdx ds
  | .slc lo hi => evSlice lo hi ds
  | .len => evLen ds
  | .sum => evSum ds
  | .maxl => evMaxl ds
  | .maxd => evMaxd ds
  | .minl => evMinl ds
  | .max2 => evInt2 (fun a b => .ok (.int (if b > a then b else a))) ds
  | .min2 => evInt2 (fun a b => .ok (.int (if b < a then b else a))) ds
  | .tupOf => evTupOf ds
  | .lstOf => evLstOf ds
  | .strOf => evStrOf ds
  | .intOf => evIntOf ds
  | .isi t => evIsi t ds
  | .all => evAll ds
  | .tup => okIf (decide (ds.length ≤ sizeLine)) (.tup ds)
  | .lst => okIf (decide (ds.length ≤ sizeLine)) (.lst ds)
  | .rng1 => evRng1 ds
  | .lrg => evLrg ds
  | .lens => evLens ds
  | .lstD => evLstD ds
  | .zip2 => evZip ds
  | .dget => ev2 evDget ds
  | .din => ev2 (fun k d => evDin d k) ds
  | .dnin => notR (ev2 (fun k d => evDin d k) ds)
  | .rng2 => evInt2 (fun a b => okIf (in62 a && in62 b) (.lst (rngD a b))) ds

/-! ### the little language -/
/-- methods that are asked of a value -/
inductive Met where | join | sidx | lidx | split | words
/-- methods that change their own -/
inductive Mut where | app | ext | pop | popAt | ins | rev | clr
inductive Tg where | v (i : Nat) | t (is : List Nat)
/-- a place: a slot, or a field of what a slot holds -/
structure Pl where
  i : Nat
  f : Option Str := none
inductive P where
  | cst (d : D)
  | var (i : Nat)
  /-- looked at, at its own place -/
  | bor (p : Pl)
  /-- lent to a def, that may change it -/
  | io (p : Pl)
  | op (p : Prim) (as : List P)
  | call (f : Nat) (as : List P)
  /-- a call whose first argument is a new container that is lent and then left -/
  | callT (f : Nat) (l : P) (as : List P)
  /-- a def as a value -/
  | fnv (f : Nat)
  /-- a call of the def that a slot holds, one of these -/
  | callV (i : Nat) (gs : List Nat) (as : List P)
  /-- a call whose argument behind as is a new container that is lent and then left -/
  | callU (f : Nat) (as : List P) (l : P) (bs : List P)
  /-- a row's methods -/
  | rput (p : Pl) (e : P)
  | rtold (p : Pl)
  /-- own lists within an own list (slot i): x[a][b], len(x), x as a value that is shared from then on -/
  | llG (i j k : Nat) | llV (i : Nat)
  /-- text.replace(y, z).replace(y2, z2) -/
  | rep (e : P) (y z y2 z2 : Str)
  | and (a b : P) | or (a b : P) | not (a : P)
  /-- a whole number, for sure -/
  | ent (a : P)
  | ite (c a b : P)
  | chain (o o' : Prim) (a b c : P)
  | met (m : Met) (r : P) (as : List P)
  | mut (m : Mut) (p : Pl) (as : List P)
  | dnew (t : Nat)
  | comp (elt : P) (tg : Tg) (it : P) (cond : Option P)
  /-- isinstance of the handled exception in a slot -/
  | xis (i : Nat) (c : Nat)

def Tg.slots : Tg → List Nat
  | .v i => [i]
  | .t is => is
def setL : List Nat → List D → Rho → R Rho
  | [], [], ρ => .ok ρ
  | i :: is, d :: ds, ρ => setL is ds (ρ.set i (.fz d))
  | _, _, _ => .stuck
def setT : Tg → D → Rho → R Rho
  | .v i, d, ρ => .ok (ρ.set i (.fz d))
  | .t is, .tup xs, ρ => setL is xs ρ
  | _, _, _ => .stuck
def itemsOf : D → R (List D)
  | .tup xs => .ok xs
  | .lst xs => .ok xs
  | .scr ns => .ok (ns.map D.int)
  | .str s => .ok (s.cps.toList.map fun c => D.str ⟨#[c]⟩)
  | _ => .stuck
def wipeR (ρ : Rho) : List Nat → Rho
  | [] => ρ
  | v :: vs => (wipeR ρ vs).set v .un
/-- the slots that were wiped come again -/
def backR (ρ₀ ρ : Rho) : List Nat → Rho
  | [] => ρ
  | v :: vs => (backR ρ₀ ρ vs).set v (ρ₀.getD v .un)
def asB : D → R Bool
  | .bl b => .ok b
  | _ => .stuck
def asI : D → R Int
  | .int i => .ok i
  | _ => .stuck
/-- is it of the method's type -/
def recvOk : Met → D → Bool
  | .join, .str _ => true
  | .sidx, .str _ => true
  | .split, .str _ => true
  | .words, .str _ => true
  | .lidx, .lst _ => true
  | _, _ => false
def evSidx : List D → R D
  | [.str a, .str b] => match Txt.index0 a b with | some k => .ok (.int (k : Nat)) | none => .stuck
  | _ => .stuck
/-- the place of the first like it -/
def findD (x : PyData) : Nat → List PyData → Option Nat
  | _, [] => none
  | n, y :: ys => if PyData.eqv y x then some n else findD x (n + 1) ys
def evLidx : List D → R D
  | [.lst xs, x] => if x.py.plain && PyData.plainAll (D.pyL xs) && decide (min (PyData.depthAll (D.pyL xs)) x.py.depth ≤ 160) then
      (match findD x.py 0 (D.pyL xs) with | some k => .ok (.int (k : Nat)) | none => .stuck) else .stuck
  | _ => .stuck
/-- s.split(sep), s.split() -/
def evSplit : List D → R D
  | [.str a, .str b] => okIf (!(b.length == 0) && decide (a.length + 2 ≤ sizeLine)) (.lst ((Txt.split a b).map D.str))
  | _ => .stuck
def evWords : List D → R D
  | [.str a] => okIf (decide (a.length + 2 ≤ sizeLine)) (.lst ((Txt.words a).map D.str))
  | _ => .stuck
def evMet (m : Met) (ds : List D) : R D := match m with
  | .join => evJoin ds
  | .sidx => evSidx ds
  | .lidx => evLidx ds
  | .split => evSplit ds
  | .words => evWords ds
def isLst : D → Bool
  | .lst _ => true
  | _ => false
/-- what a method hands back, and its own behind it -/
def evMut : Mut → D → List D → R (D × D)
  | .app, .lst xs, [d] => if xs.length < sizeLine then .ok (.non, .lst (xs ++ [d])) else .stuck
  | .ext, .lst xs, [.lst ys] => if xs.length + ys.length ≤ sizeLine then .ok (.non, .lst (xs ++ ys)) else .stuck
  | .pop, .lst xs, [] => match xs.getLast? with | some d => .ok (d, .lst xs.dropLast) | none => .stuck
  | .popAt, .lst xs, [.int k] => if 0 ≤ k then (match xs[k.toNat]? with | some d => .ok (d, .lst (xs.eraseIdx k.toNat)) | none => .stuck) else .stuck
  | .rev, .lst xs, [] => .ok (.non, .lst xs.reverse)
  | .clr, .lst _, [] => .ok (.non, .lst [])
  | .ins, .lst xs, [.int k, d] => if xs.length < sizeLine then (if 0 ≤ k ∧ k ≤ xs.length then .ok (.non, .lst (xs.take k.toNat ++ d :: xs.drop k.toNat)) else .stuck) else .stuck
  | _, _, _ => .stuck
/-- d[k] = v -/
def evSet : D → D → D → R D
  | .lst xs, .int k, v => match ixN xs.length k with | some j => .ok (.lst (xs.set j v)) | none => .stuck
  | .dct t ks vs, k, v => if isKey t k && decide (ks.length < sizeLine) then .ok (.dct t (dPutK k ks) (dPutV k v ks vs)) else .stuck
  | _, _, _ => .stuck
/-- how an expression ends -/
inductive Ev (α : Type) where
  | ok (a : α) (ρ : Rho) | exc (c : Nat) (ρ : Rho) | stuck
def Ev.bind {α β : Type} : Ev α → (α → Rho → Ev β) → Ev β
  | .ok a ρ, f => f a ρ
  | .exc c ρ, _ => .exc c ρ
  | .stuck, _ => .stuck
@[simp] theorem Ev.bind_ok {α β : Type} (a : α) (ρ : Rho) (f : α → Rho → Ev β) : (Ev.ok a ρ).bind f = f a ρ := rfl
@[simp] theorem Ev.bind_exc {α β : Type} (c : Nat) (ρ : Rho) (f : α → Rho → Ev β) : (Ev.exc c ρ : Ev α).bind f = .exc c ρ := rfl
@[simp] theorem Ev.bind_stuck {α β : Type} (f : α → Rho → Ev β) : (Ev.stuck : Ev α).bind f = .stuck := rfl
/-- an operation's result at slots -/
def R.at {α : Type} (ρ : Rho) : R α → Ev α
  | .ok a => .ok a ρ
  | .stuck => .stuck
@[simp] theorem R.at_ok {α : Type} (ρ : Rho) (a : α) : (R.ok a).at ρ = .ok a ρ := rfl
@[simp] theorem R.at_stuck {α : Type} (ρ : Rho) : (R.stuck : R α).at ρ = .stuck := rfl
/-- in a comprehension nothing is raised -/
def Ev.noX {α : Type} : Ev α → Ev α
  | .ok a ρ => .ok a ρ
  | _ => .stuck
@[simp] theorem Ev.noX_ok {α : Type} (a : α) (ρ : Rho) : (Ev.ok a ρ).noX = .ok a ρ := rfl
@[simp] theorem Ev.noX_stuck {α : Type} : (Ev.stuck : Ev α).noX = .stuck := rfl
/-- how a call ends: its value, or the class of the exception; and what is lent, as it is then -/
inductive Rs where
  | ok (d : D) (os : List D) | exc (c : Nat) (os : List D) | stuck

/-! places -/
def Pl.bound (ρ : Rho) (p : Pl) : Bool := match p.f, ρ[p.i]? with
  | none, some (.fz _) => true
  | none, some (.own _) => true
  | _, _ => false
/-- what is looked at -/
def Pl.look (ρ : Rho) (p : Pl) : R D := match p.f, ρ[p.i]? with
  | none, some (.fz d) => .ok d
  | none, some (.own d) => .ok d
  | _, _ => .stuck
/-- what is one's own, taken out -/
def Pl.take (ρ : Rho) (p : Pl) : R (D × Rho) := match p.f, ρ[p.i]? with
  | none, some (.own d) => .ok (d, ρ.set p.i .un)
  | _, _ => .stuck
/-- .. and put back -/
def Pl.put (ρ : Rho) (p : Pl) (d : D) : R Rho := match p.f with
  | none => .ok (ρ.set p.i (.own d))
  | _ => .stuck

def isEnt : P → Bool
  | .ent _ => true
  | _ => false
inductive Kd where | val | bor (p : Pl) | io (p : Pl)
def P.kd : P → Kd
  | .bor p => .bor p
  | .io p => .io p
  | _ => .val
/-- what was lent comes back -/
def putBack : List P → List D → Rho → R Rho
  | [], [], ρ => .ok ρ
  | .io p :: es, d :: ds, ρ => (putBack es ds ρ).bind fun ρ => p.put ρ d
  | .io _ :: _, [], _ => .stuck
  | _ :: es, ds, ρ => putBack es ds ρ
  | [], _ :: _, _ => .stuck
def callE (es : List P) (ρ : Rho) : Rs → Ev D
  | .ok d os => (putBack es os ρ).at ρ |>.bind fun ρ' _ => .ok d ρ'
  | .exc c os => (putBack es os ρ).at ρ |>.bind fun ρ' _ => .exc c ρ'
  | .stuck => .stuck
/-- a walk over one's own: it is taken out meanwhile -/
def lendI (ρ : Rho) : P → R (Option (Pl × D) × Rho)
  | .bor p => match p.take ρ with
    | .ok (d, ρ') => .ok (some (p, d), ρ')
    | .stuck => .ok (none, ρ)
  | _ => .ok (none, ρ)
def backI (ρ : Rho) : Option (Pl × D) → R Rho
  | some (p, d) => p.put ρ d
  | none => .ok ρ

/-- a comprehension's turns: f of an item and the slots -/
def compL (f : D → Rho → Ev (Option D)) : List D → Rho → Ev (List D)
  | [], ρ => .ok [] ρ
  | x :: xs, ρ => (f x ρ).bind fun o ρ => (compL f xs ρ).bind fun r ρ => .ok (match o with | some y => y :: r | none => r) ρ
/-- a slot's value; one's own is shared from then on -/
def readV (ρ : Rho) (i : Nat) : Ev D := match ρ[i]? with
  | some (.fz d) => .ok d ρ
  | some (.own (.lst xs)) => .ok (.lst xs) (ρ.set i (.fz (.lst xs)))
  | some (.own (.dct t ks vs)) => .ok (.dct t ks vs) (ρ.set i (.fz (.dct t ks vs)))
  | _ => .stuck
/-- is the class c the class k or beneath it -/
abbrev Subs := Nat → Nat → Option Bool
/-- what a text runs under: the classes, the defs, the class of the exception that is handled -/
structure En where
  su : Subs
  F : Nat → List D → Rs
  hx : Option Nat := none
def evXis (q : En) (c : Nat) : R D := match q.hx with
  | some k => match q.su k c with | some b => .ok (.bl b) | none => .stuck
  | none => .stuck

/-- a container of one's own -/
def isCon : D → Bool
  | .lst _ => true
  | .dct _ _ _ => true
  | _ => false
def isObj : D → Bool
  | .obj _ _ _ => true
  | _ => false
/-- row.put(d): its number, and the row behind it -/
def evRput : D → D → R (D × D)
  | .obj c ns xs, d => if isKey 1 d && decide (xs.length < 1000000) then
      (match dLook d xs (rngD 0 xs.length) with
        | some v => .ok (v, .obj c ns xs)
        | none => .ok (.int xs.length, .obj c ns (xs ++ [d])))
    else .stuck
  | _, _ => .stuck
def evRtold : D → R D
  | .obj _ _ xs => .ok (.tup xs)
  | _ => .stuck
/-! own lists within an own list -/
def slI : Option Sl → Option Int
  | some (.fz (.int k)) => some k
  | _ => none
def llD : Option Sl → Option (List D)
  | some (.own (.box (.lst xs))) => some xs
  | _ => none
def llIx (xs : List D) (a : Int) : Option (Nat × List D) := match ixN xs.length a with
  | some i => match xs[i]? with
    | some (.lst ys) => some (i, ys)
    | _ => none
  | none => none
def llAt (xs : List D) (a b : Int) : R D := match llIx xs a with
  | some p => match ixN p.2.length b with
    | some j => match p.2[j]? with | some d => .ok d | none => .stuck
    | none => .stuck
  | none => .stuck
def llPut (xs : List D) (a b : Int) (d : D) : R (List D) := match llIx xs a with
  | some p => match ixN p.2.length b with
    | some j => .ok (xs.set p.1 (.lst (p.2.set j d)))
    | none => .stuck
  | none => .stuck
/-- x[a] = x[a][:-1] -/
def llDel (xs : List D) (a : Int) : R (List D) := match llIx xs a with
  | some p => .ok (xs.set p.1 (.lst (cutD p.2 none (some (-1)))))
  | none => .stuck
/-- x[a].append(x[a][0]) -/
def llApn (xs : List D) (a : Int) : R (List D) := match llIx xs a with
  | some p => match ixN p.2.length 0 with
    | some j => match p.2[j]? with
      | some d => if p.2.length < sizeLine then .ok (xs.set p.1 (.lst (p.2 ++ [d]))) else .stuck
      | none => .stuck
    | none => .stuck
  | none => .stuck
def evLlG (ρ : Rho) (i j k : Nat) : R D := match llD ρ[i]?, slI ρ[j]?, slI ρ[k]? with
  | some xs, some a, some b => llAt xs a b
  | _, _, _ => .stuck
def evLlV (ρ : Rho) (i : Nat) : Ev D := match llD ρ[i]? with
  | some xs => .ok (.lst xs) (ρ.set i (.fz (.lst xs)))
  | none => .stuck
def isLstD : D → Bool
  | .lst _ => true
  | _ => false
def evRep1 (y z : Str) : D → R D
  | .str x => okIf (decide (x.length + (x.length + 1) * z.length ≤ 16777216) && !(y == z)) (.str (Txt.replace x y z))
  | _ => .stuck
def evRep2 (y z y2 z2 : Str) (d : D) : R D := match evRep1 y z d with
  | .ok d => evRep1 y2 z2 d
  | .stuck => .stuck
def callTR : Rs → Rho → Ev D
  | .ok d [_], ρ => .ok d ρ
  | .exc c [_], ρ => .exc c ρ
  | _, _ => .stuck
mutual
def evP (q : En) : P → Rho → Ev D
  | .cst d, ρ => .ok d ρ
  | .var i, ρ => readV ρ i
  | .bor p, ρ => (p.look ρ).at ρ
  | .io _, _ => .stuck
  | .op p as, ρ => (evAs q as ρ).bind fun ds ρ => (evPrim p ds).at ρ
  | .call f as, ρ => (evAs q as ρ).bind fun ds ρ => callE as ρ (q.F f ds)
  | .callT f l as, ρ => (evP q l ρ).bind fun d ρ => if isCon d then (evAs q as ρ).bind fun es ρ => callTR (q.F f (d :: es)) ρ else .stuck
  | .fnv f, ρ => .ok (.fn f) ρ
  | .callV i gs as, ρ => match ρ[i]? with
    | some (.fz (.fn g)) => if gs.contains g then (evAs q as ρ).bind fun ds ρ => callE as ρ (q.F g ds) else .stuck
    | _ => .stuck
  | .callU f as l bs, ρ => (evAs q as ρ).bind fun ds ρ => (evP q l ρ).bind fun d ρ => if isCon d then (evAs q bs ρ).bind fun es ρ => callTR (q.F f (ds ++ d :: es)) ρ else .stuck
  | .rput p e, ρ => ((p.look ρ).at ρ).bind fun x ρ => if isObj x then (evP q e ρ).bind fun d ρ => ((p.take ρ).at ρ).bind fun dr _ => ((evRput dr.1 d).at ρ).bind fun r _ => ((p.put dr.2 r.2).at ρ).bind fun ρ _ => .ok r.1 ρ else .stuck
  | .rtold p, ρ => ((p.look ρ).at ρ).bind fun x ρ => (evRtold x).at ρ
  | .llG i j k, ρ => (evLlG ρ i j k).at ρ
  | .llV i, ρ => evLlV ρ i
  | .rep e y z y2 z2, ρ => (evP q e ρ).bind fun d ρ => (evRep2 y z y2 z2 d).at ρ
  | .and a b, ρ => (evP q a ρ).bind fun x ρ => ((asB x).at ρ).bind fun k ρ => if k then (evP q b ρ).bind fun y ρ => ((asB y).at ρ).bind fun k ρ => .ok (.bl k) ρ else .ok (.bl false) ρ
  | .or a b, ρ => (evP q a ρ).bind fun x ρ => ((asB x).at ρ).bind fun k ρ => if k then .ok (.bl true) ρ else (evP q b ρ).bind fun y ρ => ((asB y).at ρ).bind fun k ρ => .ok (.bl k) ρ
  | .not a, ρ => (evP q a ρ).bind fun x ρ => ((asB x).at ρ).bind fun k ρ => .ok (.bl (!k)) ρ
  | .ent a, ρ => (evP q a ρ).bind fun x ρ => ((asI x).at ρ).bind fun i ρ => .ok (.int i) ρ
  | .ite c a b, ρ => (evP q c ρ).bind fun x ρ => ((asB x).at ρ).bind fun k ρ => if k then evP q a ρ else evP q b ρ
  | .chain o o' a b c, ρ => (evP q a ρ).bind fun x ρ => (evP q b ρ).bind fun y ρ => ((evPrim o [x, y]).at ρ).bind fun z ρ => ((asB z).at ρ).bind fun k ρ =>
      if k then (evP q c ρ).bind fun w ρ => ((evPrim o' [y, w]).at ρ).bind fun z ρ => ((asB z).at ρ).bind fun k ρ => .ok (.bl k) ρ else .ok (.bl false) ρ
  | .met m r as, ρ => match r.kd with
    | .bor p => ((p.look ρ).at ρ).bind fun x ρ => if recvOk m x then (evAs q as ρ).bind fun ds ρ => ((p.look ρ).at ρ).bind fun x ρ => (evMet m (x :: ds)).at ρ else .stuck
    | _ => (evP q r ρ).bind fun x ρ => if recvOk m x then (evAs q as ρ).bind fun ds ρ => (evMet m (x :: ds)).at ρ else .stuck
  | .mut m p as, ρ => ((p.look ρ).at ρ).bind fun x ρ => if isLst x then (evAs q as ρ).bind fun ds ρ => ((p.take ρ).at ρ).bind fun dr _ => ((evMut m dr.1 ds).at ρ).bind fun r _ => ((p.put dr.2 r.2).at ρ).bind fun ρ _ => .ok r.1 ρ else .stuck
  | .dnew t, ρ => .ok (.dct t [] []) ρ
  | .comp elt tg it none, ρ => (evP q it ρ).bind fun x ρ => ((itemsOf x).at ρ).bind fun xs ρ => ((lendI ρ it).at ρ).bind fun l _ =>
      (compL (fun y ρ => ((setT tg y ρ).at ρ).bind fun ρ _ => (evP q elt ρ).noX.bind fun z ρ => .ok (some z) (wipeR ρ tg.slots)) xs (wipeR l.2 tg.slots)).bind fun r ρ' =>
        ((backI (backR l.2 ρ' tg.slots) l.1).at ρ).bind fun ρ _ => (okIf (decide (r.length ≤ sizeLine)) (.lst r)).at ρ
  | .comp elt tg it (some c), ρ => (evP q it ρ).bind fun x ρ => ((itemsOf x).at ρ).bind fun xs ρ => ((lendI ρ it).at ρ).bind fun l _ =>
      (compL (fun y ρ => ((setT tg y ρ).at ρ).bind fun ρ _ => (evP q c ρ).noX.bind fun z ρ => ((asB z).at ρ).bind fun k ρ =>
        if k then (evP q elt ρ).noX.bind fun z ρ => .ok (some z) (wipeR ρ tg.slots) else .ok none (wipeR ρ tg.slots)) xs (wipeR l.2 tg.slots)).bind fun r ρ' =>
        ((backI (backR l.2 ρ' tg.slots) l.1).at ρ).bind fun ρ _ => (okIf (decide (r.length ≤ sizeLine)) (.lst r)).at ρ
  | .xis _ c, ρ => (evXis q c).at ρ
/-- arguments: what is looked at is looked at when all are there, and what is lent is taken out then -/
def evAs (q : En) : List P → Rho → Ev (List D)
  | [], ρ => .ok [] ρ
  | e :: es, ρ => match e.kd with
    | .val => (evP q e ρ).bind fun d ρ => (evAs q es ρ).bind fun ds ρ => .ok (d :: ds) ρ
    | .bor p => if p.bound ρ then (evAs q es ρ).bind fun ds ρ => ((p.look ρ).at ρ).bind fun d ρ => .ok (d :: ds) ρ else .stuck
    | .io p => if p.bound ρ then (evAs q es ρ).bind fun ds ρ => ((p.take ρ).at ρ).bind fun dr _ => .ok (dr.1 :: ds) dr.2 else .stuck
end

inductive S where
  | asg (t : Tg) (e : P)
  | own (i : Nat) (e : P)
  /-- x = Row() -/
  | rnew (i : Nat)
  /-- x = [list(y) for y in ..], each its own; x[a][b] = e -/
  | llN (i : Nat) (e : P) | llS (i j k : Nat) (e : P) | lcut (i j : Nat) | lapp (i j : Nat)
  /-- x, y = a, b: both sides written -/
  | par (i j : Nat) (a b : P)
  | set (p : Pl) (k v : P)
  | drop (e : P)
  | ifs (c : P) (a b : List S)
  | for (t : Tg) (it : P) (b : List S)
  | whl (n : Nat) (c : P) (b : List S)
  | ret (e : P) | retN | brk | cont | pas
  | rai (c : Nat)
  /-- try: b, except C as (slot i) -/
  | trA (b : List S) (c : Nat) (i : Nat) (h : List S)
  /-- try: b, except C1: .. except C2: .. -/
  | trM (b : List S) (cs : List Nat) (hs : List (List S))
  /-- x, y = e: e a call of a def that hands its own list over -/
  | asgT (i j : Nat) (e : P)
  /-- a whole body: b, return x, e: x one's own list, handed over -/
  | tw (b : List S) (i : Nat) (e : P)
  /-- x = e: e a call of a def that hands its own container over -/
  | asgV (i : Nat) (e : P)
  /-- x = f(e): f a function that was handed in (slot i), x the slot p -/
  | asgC (p i : Nat) (e : P)
  /-- for t in x: b, x one's own dict, walked by its keys -/
  | forD (i : Nat) (t : Tg) (b : List S)
  /-- a, def f (number j, its cells from the slots caps), x, y = h(e, f, m), b -/
  | nb (a : List S) (fi j : Nat) (caps : List Nat) (h i1 i2 : Nat) (e m : P) (b : List S)
  /-- a whole body: b, return x: x one's own container, handed over -/
  | tv (b : List S) (i : Nat)

/-- how a statement ends -/
inductive O where
  | nx (ρ : Rho) | ret (d : D) (ρ : Rho) | brk (ρ : Rho) | cont (ρ : Rho) | exc (c : Nat) (ρ : Rho) | stuck
def O.seq : O → (Rho → O) → O
  | .nx ρ, k => k ρ
  | .ret d ρ, _ => .ret d ρ
  | .brk ρ, _ => .brk ρ
  | .cont ρ, _ => .cont ρ
  | .exc c ρ, _ => .exc c ρ
  | .stuck, _ => .stuck
@[simp] theorem O.seq_nx (ρ : Rho) (k : Rho → O) : (O.nx ρ).seq k = k ρ := rfl
@[simp] theorem O.seq_ret (d : D) (ρ : Rho) (k : Rho → O) : (O.ret d ρ).seq k = .ret d ρ := rfl
@[simp] theorem O.seq_brk (ρ : Rho) (k : Rho → O) : (O.brk ρ).seq k = .brk ρ := rfl
@[simp] theorem O.seq_cont (ρ : Rho) (k : Rho → O) : (O.cont ρ).seq k = .cont ρ := rfl
@[simp] theorem O.seq_exc (c : Nat) (ρ : Rho) (k : Rho → O) : (O.exc c ρ).seq k = .exc c ρ := rfl
@[simp] theorem O.seq_stuck (k : Rho → O) : (O.stuck).seq k = .stuck := rfl
/-- behind an expression -/
def Ev.thn {α : Type} : Ev α → (α → Rho → O) → O
  | .ok a ρ, f => f a ρ
  | .exc c ρ, _ => .exc c ρ
  | .stuck, _ => .stuck
@[simp] theorem Ev.thn_ok {α : Type} (ρ : Rho) (a : α) (f : α → Rho → O) : (Ev.ok a ρ).thn f = f a ρ := rfl
@[simp] theorem Ev.thn_exc {α : Type} (ρ : Rho) (c : Nat) (f : α → Rho → O) : (Ev.exc c ρ : Ev α).thn f = .exc c ρ := rfl
@[simp] theorem Ev.thn_stuck {α : Type} (f : α → Rho → O) : (Ev.stuck : Ev α).thn f = .stuck := rfl
/-- behind a loop's turn: go on, or leave -/
def O.turn : O → (Rho → O) → O
  | .nx ρ, k => k ρ
  | .cont ρ, k => k ρ
  | .brk ρ, _ => .nx ρ
  | .ret d ρ, _ => .ret d ρ
  | .exc c ρ, _ => .exc c ρ
  | .stuck, _ => .stuck
@[simp] theorem O.turn_nx (ρ : Rho) (k : Rho → O) : (O.nx ρ).turn k = k ρ := rfl
@[simp] theorem O.turn_cont (ρ : Rho) (k : Rho → O) : (O.cont ρ).turn k = k ρ := rfl
@[simp] theorem O.turn_brk (ρ : Rho) (k : Rho → O) : (O.brk ρ).turn k = .nx ρ := rfl
@[simp] theorem O.turn_ret (d : D) (ρ : Rho) (k : Rho → O) : (O.ret d ρ).turn k = .ret d ρ := rfl
@[simp] theorem O.turn_exc (c : Nat) (ρ : Rho) (k : Rho → O) : (O.exc c ρ).turn k = .exc c ρ := rfl
@[simp] theorem O.turn_stuck (k : Rho → O) : (O.stuck).turn k = .stuck := rfl
def forL (f : D → Rho → O) : List D → Rho → O
  | [], ρ => .nx ρ
  | x :: xs, ρ => (f x ρ).turn (forL f xs)
def whlL (c : Rho → Ev Bool) (b : Rho → O) : Nat → Rho → O
  | 0, _ => .stuck
  | n + 1, ρ => (c ρ).thn fun k ρ => if k then (b ρ).turn (whlL c b n) else .nx ρ
/-- what a loop walked over comes back, however the loop ends -/
def O.back (l : Option (Pl × D)) : O → O
  | .nx ρ => match backI ρ l with | .ok ρ => .nx ρ | .stuck => .stuck
  | .ret d ρ => match backI ρ l with | .ok ρ => .ret d ρ | .stuck => .stuck
  | .brk ρ => match backI ρ l with | .ok ρ => .brk ρ | .stuck => .stuck
  | .cont ρ => match backI ρ l with | .ok ρ => .cont ρ | .stuck => .stuck
  | .exc c ρ => match backI ρ l with | .ok ρ => .exc c ρ | .stuck => .stuck
  | .stuck => .stuck
/-- behind an except suite its name is no more -/
def O.unN (i : Nat) : O → O
  | .nx ρ => .nx (ρ.set i .un)
  | .ret d ρ => .ret d (ρ.set i .un)
  | .brk ρ => .brk (ρ.set i .un)
  | .cont ρ => .cont (ρ.set i .un)
  | .exc _ _ => .stuck
  | .stuck => .stuck
def O.noX : O → O
  | .exc _ _ => .stuck
  | o => o
/-- the first clause that takes the exception -/
def pick (su : Subs) (k : Nat) : List Nat → List (Rho → O) → Rho → O
  | c :: cs, h :: hs, ρ => match su k c with
    | some true => (h ρ).noX
    | some false => pick su k cs hs ρ
    | none => .stuck
  | _, _, ρ => .exc k ρ

def parR (i j : Nat) (ds : List D) (ρ : Rho) : O := match ds with
  | [x, y] => .nx ((ρ.set i (.fz x)).set j (.fz y))
  | _ => .stuck
def twR (i j : Nat) (d : D) (ρ : Rho) : O := match d with
  | .tup [.lst xs, x] => .nx ((ρ.set i (.own (.lst xs))).set j (.fz x))
  | _ => .stuck
def twE (i : Nat) (d : D) (ρ : Rho) : O := match ρ[i]? with
  | some (.own (.lst xs)) => .ret (.tup [.lst xs, d]) (ρ.set i .un)
  | _ => .stuck
def tvR (i : Nat) (d : D) (ρ : Rho) : O := if isCon d then .nx (ρ.set i (.own d)) else .stuck
def tvE (i : Nat) (ρ : Rho) : O := match ρ[i]? with
  | some (.own d) => if isCon d then .ret d (ρ.set i .un) else .stuck
  | _ => .stuck
def asgCR (p : Nat) (r : Rs) (ρ : Rho) : O := match r with
  | .ok d [] => .nx (ρ.set p (.fz d))
  | .exc c [] => .exc c ρ
  | _ => .stuck
def isBox : Option Sl → Bool
  | some (.fz (.box (.tup _))) => true
  | _ => false
def evC (q : En) (p i : Nat) (d : D) (ρ : Rho) : O := match ρ[i]? with
  | some (.fz (.box (.tup (.int j :: caps)))) => asgCR p (q.F j.toNat (d :: caps)) ρ
  | _ => .stuck
/-- what the cells hold -/
def capsV (ρ : Rho) : List Nat → Option (List D)
  | [] => some []
  | i :: is => match ρ[i]?, capsV ρ is with
    | some (.fz d), some ds => some (d :: ds)
    | _, _ => none
def nbR (i1 i2 : Nat) (r : Rs) (ρ : Rho) : O := match r with
  | .ok (.tup [x, y]) [] => if x.nb && y.nb then .nx ((ρ.set i1 (.fz x)).set i2 (.fz y)) else .stuck
  | .exc c [] => .exc c ρ
  | _ => .stuck
def noOwn (ρ : Rho) : Bool := ρ.all fun s => match s with
  | .own _ => false
  | _ => true
def evNb (q : En) (j : Nat) (caps : List Nat) (h i1 i2 : Nat) (r : Ev (List D)) (ρ : Rho) : O := if noOwn ρ then (match capsV ρ caps with
  | some ds => (match r with
    | .ok [de, dm] _ => nbR i1 i2 (q.F h [de, .box (.tup (.int (j : Nat) :: ds)), dm]) ρ
    | .exc c _ => .exc c ρ
    | _ => .stuck)
  | none => .stuck) else .stuck
/-- behind the walk of a dict -/
def unlk (i t : Nat) : O → O
  | .nx ρ => match ρ[i]? with
    | some (.own (.dct t' ks vs)) => if t' = t + 10 then .nx (ρ.set i (.own (.dct t ks vs))) else .stuck
    | _ => .stuck
  | _ => .stuck
def evLlN (i : Nat) (d : D) (ρ : Rho) : O := match d with
  | .lst xs => if xs.all isLstD then .nx (ρ.set i (.own (.box (.lst xs)))) else .stuck
  | _ => .stuck
def llSR (i : Nat) (ρ : Rho) : R (List D) → O
  | .ok xs => .nx (ρ.set i (.own (.box (.lst xs))))
  | .stuck => .stuck
def evLlS (ρ : Rho) (i j k : Nat) (d : D) : O := match llD ρ[i]?, slI ρ[j]?, slI ρ[k]? with
  | some xs, some a, some b => llSR i ρ (llPut xs a b d)
  | _, _, _ => .stuck
def evLcut (ρ : Rho) (i j : Nat) : O := match llD ρ[i]?, slI ρ[j]? with
  | some xs, some a => llSR i ρ (llDel xs a)
  | _, _ => .stuck
def evLapp (ρ : Rho) (i j : Nat) : O := match llD ρ[i]?, slI ρ[j]? with
  | some xs, some a => llSR i ρ (llApn xs a)
  | _, _ => .stuck
mutual
def evS (q : En) : S → Rho → O
  | .asg t e, ρ => (evP q e ρ).thn fun d ρ => ((setT t d ρ).at ρ).thn fun ρ _ => .nx ρ
  | .own i e, ρ => (evP q e ρ).thn fun d ρ => if isCon d then .nx (ρ.set i (.own d)) else .stuck
  | .rnew i, ρ => .nx (ρ.set i (.own (.obj 0 [] [])))
  | .llN i e, ρ => (evP q e ρ).thn fun d ρ => evLlN i d ρ
  | .llS i j k e, ρ => (evP q e ρ).thn fun d ρ => evLlS ρ i j k d
  | .lcut i j, ρ => evLcut ρ i j
  | .lapp i j, ρ => evLapp ρ i j
  | .par i j a b, ρ => (evAs q [a, b] ρ).thn fun ds ρ => parR i j ds ρ
  | .set p k v, ρ => (evP q v ρ).thn fun v ρ => if p.bound ρ then (evP q k ρ).thn fun k ρ => ((p.take ρ).at ρ).thn fun dr _ => ((evSet dr.1 k v).at ρ).thn fun d' _ => ((p.put dr.2 d').at ρ).thn fun ρ _ => .nx ρ else .stuck
  | .drop e, ρ => (evP q e ρ).thn fun _ ρ => .nx ρ
  | .ifs c a b, ρ => (evP q c ρ).thn fun d ρ => ((asB d).at ρ).thn fun k ρ => if k then evSs q a ρ else evSs q b ρ
  | .for t it b, ρ => (evP q it ρ).thn fun x ρ => ((itemsOf x).at ρ).thn fun xs ρ => ((lendI ρ it).at ρ).thn fun l _ => (forL (fun x ρ => ((setT t x ρ).at ρ).thn fun ρ _ => evSs q b ρ) xs l.2).back l.1
  | .whl n c b, ρ => whlL (fun ρ => (evP q c ρ).bind fun d ρ => (asB d).at ρ) (evSs q b) n ρ
  | .ret e, ρ => (evP q e ρ).thn fun d ρ => .ret d ρ
  | .retN, ρ => .ret .non ρ
  | .brk, ρ => .brk ρ
  | .cont, ρ => .cont ρ
  | .pas, ρ => .nx ρ
  | .rai c, ρ => .exc c ρ
  | .trA b c i h, ρ => match evSs q b ρ with
    | .exc k ρ => match q.su k c with
      | some true => (evSs { q with hx := some k } h (ρ.set i .un)).unN i
      | some false => .exc k ρ
      | none => .stuck
    | o => o
  | .trM b cs hs, ρ => match evSs q b ρ with
    | .exc k ρ => pick q.su k cs (evHs { q with hx := some k } hs) ρ
    | o => o
  | .asgT i j e, ρ => (evP q e ρ).thn fun d ρ => twR i j d ρ
  | .tw b i e, ρ => match evSs q b ρ with
    | .nx ρ => if (Pl.mk i none).bound ρ then (evP q e ρ).thn fun d ρ => twE i d ρ else .stuck
    | .exc c ρ => .exc c ρ
    | _ => .stuck
  | .asgV i e, ρ => (evP q e ρ).thn fun d ρ => tvR i d ρ
  | .asgC p i e, ρ => if isBox ρ[i]? then (evP q e ρ).thn fun d ρ => evC q p i d ρ else .stuck
  | .forD i t b, ρ => match ρ[i]? with
    | some (.own (.dct k ks vs)) => if k < 2 then unlk i k (forL (fun x ρ => ((setT t x ρ).at ρ).thn fun ρ _ => evSs q b ρ) ks (ρ.set i (.own (.dct (k + 10) ks vs)))) else .stuck
    | _ => .stuck
  | .nb a fi j caps h i1 i2 e m b, ρ => (evSs q a ρ).seq fun ρ => (evNb q j caps h i1 i2 (evAs q [e, m] (ρ.set fi .un)) (ρ.set fi .un)).seq (evSs q b)
  | .tv b i, ρ => match evSs q b ρ with
    | .nx ρ => tvE i ρ
    | .exc c ρ => .exc c ρ
    | _ => .stuck
def evSs (q : En) : List S → Rho → O
  | [], ρ => .nx ρ
  | s :: ss, ρ => (evS q s ρ).seq (evSs q ss)
def evHs (q : En) : List (List S) → List (Rho → O)
  | [] => []
  | h :: hs => (fun ρ => evSs q h ρ) :: evHs q hs
end

/-- a def: its names by slot, parameters first; which parameters are lent; its body -/
structure Df where
  name : Str
  N : List Str
  np : Nat
  io : List Nat
  body : List S
/-- what was lent, as it is at the end -/
def outs : List Nat → Rho → R (List D)
  | [], _ => .ok []
  | i :: is, ρ => match ρ[i]? with
    | some (.own d) => (outs is ρ).bind fun ds => .ok (d :: ds)
    | _ => .stuck
def O.fin (io : List Nat) : O → Rs
  | .nx ρ => match outs io ρ with | .ok os => .ok .non os | .stuck => .stuck
  | .ret d ρ => match outs io ρ with | .ok os => .ok d os | .stuck => .stuck
  | .exc c ρ => match outs io ρ with | .ok os => .exc c os | .stuck => .stuck
  | _ => .stuck
/-- the slots at a call -/
def startR (io : List Nat) : Nat → List D → Rho
  | _, [] => []
  | i, d :: ds => (if io.contains i then Sl.own d else Sl.fz d) :: startR io (i + 1) ds
/-- the f-th def called with values, at most n calls one in another -/
def runD (su : Subs) (Ps : Nat → Option Df) : Nat → Nat → List D → Rs
  | 0, _, _ => .stuck
  | n + 1, f, ds => match Ps f with
    | none => .stuck
    | some df => if ds.length = df.np then (evSs ⟨su, runD su Ps n, none⟩ df.body (startR df.io 0 ds ++ List.replicate (df.N.length - df.np) Sl.un)).fin df.io else .stuck
theorem maxOf_spec : ∀ (ns : List Int) (m : Int), maxOf m ns ∈ m :: ns ∧ ∀ y ∈ m :: ns, y ≤ maxOf m ns
  | [], m => by simp [maxOf]
  | x :: r, m => by
    have h := maxOf_spec r (if x > m then x else m)
    unfold maxOf
    constructor
    · rcases List.mem_cons.mp h.1 with e | e
      · rw [e]; split <;> simp
      · exact List.mem_cons_of_mem _ (List.mem_cons_of_mem _ e)
    · intro y hy
      have h0 := h.2 _ List.mem_cons_self
      rcases List.mem_cons.mp hy with rfl | hy
      · refine Int.le_trans ?_ h0; split <;> omega
      · rcases List.mem_cons.mp hy with rfl | hy
        · refine Int.le_trans ?_ h0; split <;> omega
        · exact h.2 y (List.mem_cons_of_mem _ hy)
theorem minOf_spec : ∀ (ns : List Int) (m : Int), minOf m ns ∈ m :: ns ∧ ∀ y ∈ m :: ns, minOf m ns ≤ y
  | [], m => by simp [minOf]
  | x :: r, m => by
    have h := minOf_spec r (if x < m then x else m)
    unfold minOf
    constructor
    · rcases List.mem_cons.mp h.1 with e | e
      · rw [e]; split <;> simp
      · exact List.mem_cons_of_mem _ (List.mem_cons_of_mem _ e)
    · intro y hy
      have h0 := h.2 _ List.mem_cons_self
      rcases List.mem_cons.mp hy with rfl | hy
      · refine Int.le_trans h0 ?_; split <;> omega
      · rcases List.mem_cons.mp hy with rfl | hy
        · refine Int.le_trans h0 ?_; split <;> omega
        · exact h.2 y (List.mem_cons_of_mem _ hy)
theorem any_snoc (ys : List Str) (x k : Str) : ((ys ++ [x]).any (· == k)) = (ys.any (· == k) || decide (k = x)) := by
  rw [List.any_append, List.any_cons, List.any_nil, Bool.or_false, Bool.beq_eq_decide_eq]
  congr 1
  exact decide_eq_decide.mpr eq_comm
theorem uniq_snoc (ys : List Str) (x : Str) : uniq (ys ++ [x]) = if (uniq ys).any (· == x) then uniq ys else uniq ys ++ [x] := by
  unfold uniq
  rw [List.foldl_append]
  rfl
theorem uniq_any (k : Str) (ys : List Str) : (uniq ys).any (· == k) = ys.any (· == k) := by
  have h : ∀ zs : List Str, (uniq zs.reverse).any (· == k) = zs.reverse.any (· == k) := fun zs => by
    induction zs with
    | nil => rfl
    | cons x zs ih =>
      rw [List.reverse_cons, uniq_snoc, any_snoc]
      split
      · rename_i h
        rw [ih]
        by_cases e : k = x
        · subst e
          rw [ih] at h
          rw [h]; rfl
        · rw [decide_eq_false e, Bool.or_false]
      · rw [any_snoc, ih]
  have := h ys.reverse
  rwa [List.reverse_reverse] at this
theorem uniq_le (ys : List Str) : (uniq ys).length ≤ ys.length := by
  have h : ∀ zs : List Str, (uniq zs.reverse).length ≤ zs.reverse.length := fun zs => by
    induction zs with
    | nil => exact Nat.le_refl _
    | cons x zs ih =>
      rw [List.reverse_cons, uniq_snoc, List.length_append, List.length_singleton]
      split
      · omega
      · rw [List.length_append]; simp only [List.length_singleton]; omega
  have := h ys.reverse
  rwa [List.reverse_reverse] at this
end Bk

set_option maxHeartbeats 2000000
/-! Bc: a nested function handed to a def of the module. -/
namespace NdefX
open PySem PySem.Spec PyProof.Rows L2 LamX
/-- what a def promises that is handed the function F, whose captured cells hold ws -/
structure FnOkC (P : Program) (w : World) (K : PySem.W.Frag) (mg : Str → Option Value) (base : Heap) (CX : CXT) (k : Nat) (f : Addr) (fd : FuncData) (ps : List Str) (F : NF) (fr : List Str) (sp : List (Option V) → Sp) : Prop where
  len : ∀ cells vals H Q E, sp cells vals H Q E → vals.length = ps.length
  run : ∀ (A : Around) (outer : List Env) (s : Shared) (H : Hp) (args : Args) (us : List Value) (vs : List V) (ws : List (Option V)) (Q : VK) (E : XK), Room k A → Env0 P w K mg base A outer s H → BindsTo s fd args (ps.zip us) → Vals vs us →
    CellsAt F.cl fr ws s.heap H → (∀ y c, F.cl.lookup y = some c → c ∉ frs outer) → sp ws vs H Q E → codeAny (model P w) A (.call (.ref f) args) (CR CX outer P w H s Q E) s
/-- THE RULE: such a def by its body; what the cells hold when the frame begins is handed to the body's proof -/
theorem fn_ofC {CX : CXT} {P : Program} {w : World} {K : PySem.W.Frag} {mg : Str → Option Value} {base : Heap} {k : Nat} {f : Addr} {name qual : Str} {params : Arguments} {body : List Stmt} {scope : Scope} {dV kV doc pm cdv ct oc : Value} {an od : Option Addr}
    {osl : Array (Option Value)} {N ps : List Str} {F : NF} {fr : List Str} {sp : List (Option V) → Sp} (lk : K.lookup f = some ⟨oc, od, .func (PySem.W.fnOf name qual params body scope dV kV doc pm an cdv ct), osl⟩) (hcd : PySem.W.codeIn K cdv qual = true) (S : FnScope N ps scope)
    (len : ∀ ws vs H Q E, sp ws vs H Q E → vs.length = ps.length)
    (hbody : ∀ (A : Around) (outer : List Env) (s : Shared) (H : Hp) (vs : List V) (ws : List (Option V)) (Q : VK) (E : XK), Room k (A.deeper (envOfC qual scope s.heap.objs.size f cdv)) → CellsAt F.cl fr ws s.heap H → (∀ y c, F.cl.lookup y = some c → c ∉ frs outer) → sp ws vs H Q E →
      ∃ tx, PSs (cxOf CX P w K mg base N qual scope f cdv A outer s H E) body tx ∧ tx { nx := fun _ H2 => Q .non H2, rt := Q } (start N vs) H) :
    FnOkC P w K mg base CX (k + 1) f (PySem.W.fnOf name qual params body scope dV kV doc pm an cdv ct) ps F fr sp := by
  constructor
  · exact len
  intro A outer s H args us vs ws Q E room env0 hbind rel cells apart told
  have kin : K.In s.heap := PySem.W.Frag.In.keeps env0.mod.kin fun b o e => And.left (env0.bs b o e)
  have nolim : s.heap.NoLimit := env0.mod.nolimit.keeps fun b o e => And.left (env0.bs b o e)
  have us_len : us.length ≤ ps.length := by have := len _ _ _ _ _ told; have := rel.length; omega
  -- what is bound lies in a local name or in a cell
  have slots : ∀ y ∈ ps.zip us, scope.names.lookup y.1 = some .local ∨ (scope.names.lookup y.1 = some .cell ∧ ((cellsFrom (s.heap.objs.size + 1) scope.names []).lookup y.1).isSome = true) := by
    rintro ⟨y, u⟩ hy
    have hp : y ∈ ps := And.left (List.of_mem_zip hy)
    cases S.par y hp with
    | inl loc => exact Or.inl loc
    | inr cel => exact Or.inr (And.intro cel (PySem.W.cellsFrom_some _ _ _ (Or.inl cel)))
  refine codeAny_call_function (Room.depth room) (kin _ _ lk) rfl S.co S.gen rfl (PySem.W.codeRec_of kin hcd) ?_
  apply hbind
  apply wpAny_newFunctionEnv_cells S.kind slots
  rintro env rfl s1 laid
  constructor
  · exact nolim.keeps laid.toInCall.keep
  apply codeAny_func
  have hB := hbody A outer s H vs ws Q E (room.deeper _) cells apart told
  obtain ⟨tx, walk, post⟩ := hB
  have inv := inv_start S room.hd env0 (len _ _ _ _ _ told) rel laid (CX := CX) (f := f) (qual := qual) (cd := cdv) (E := E)
  have ran := PSs.run walk [] s1 (start N vs) H _ inv post
  apply wpAny_mono ran
  · intro flow s2 done
    match flow, done with
    | .ret u, ⟨v, σ2, H2, J, rv, q⟩ => exact ⟨v, H2, J.os, J.bare, J.base, J.hok, rv, q⟩
    | .next, ⟨σ2, H2, J, q⟩ => exact ⟨V.non, H2, J.os, J.bare, J.base, J.hok, rfl, q⟩
    | .brk, ⟨_, _, _, no⟩ => exact no.elim
    | .cont, ⟨_, _, _, no⟩ => exact no.elim
  · intro e s2 raised
    exact raised
/-- f(..), f a name that holds the function F that was handed in -/
def tCallC (f : Addr) (F : NF) (ws : List (Option V)) (i : Nat) (sp : List (Option V) → Sp) (E : L2.St → XK) (t : TA) : TE := fun σ H Q => σ[i]? = some (some (.ref f)) ∧ H f = some (FnO f F) ∧
  t σ H fun vs H1 => H1 f = some (FnO f F) ∧ H1 F.c = some (CodeO F.c F.qual) ∧ sp ws vs H1 Q (E σ)
section
variable {X : Cx} {CX : CXT} {F : NF} {ps fr : List Str} {ws : List (Option V)} {i j k : Nat} {x : Str} {f : Addr} {sp : List (Option V) → Sp} {E : XK} {t : TA} {e : Expr} {es : List Expr} {p pos : Pos}
theorem run_nC {pins : List (Addr × Obj)} {σ : L2.St} {H : Hp} {s : Shared} {Q : VK} {us : List Value} {vs : List V} (Fn : NOk X.prog X.w X.K X.mg X.base CX k f F ps fr sp) (hr : Room j X.A) (hk : k ≤ j) (hx : PassesAt CX X σ E) (I : Inv X pins σ H s)
    (hf : H f = some (FnO f F)) (hc : H F.c = some (CodeO F.c F.qual)) (C : CellsAt F.cl fr ws s.heap H) (r : Vals vs us) (q : sp ws vs H Q E) : wpAny (model X.prog X.w) X.A (call (.ref f) us) (EP X pins σ Q) X.xe s := by
  have promise := Fn.run X.A X.stack s H us vs ws Q E (Room.mono hr hk) (Inv.env0 I) hf hc C r q
  apply wpAny_call
  apply codeAny_mono promise
  intro res s2 told
  match res, told with
  | .error e, raised => exact hx pins H s e s2 I raised
  | .ok (.ret u), came => exact Inv.after I came
/-- the call of a function that was handed in -/
theorem pe_callC {EE : L2.St → XK} (Fn : NOk X.prog X.w X.K X.mg X.base CX k f F ps fr sp) (C0 : CellsAt F.cl fr ws X.s_0.heap X.H_0) (nf : ∀ y c, F.cl.lookup y = some c → c ∉ X.fs) (nx : X.ex = []) (hr : Room j X.A) (hk : k ≤ j) (hx : ∀ σ, PassesAt CX X σ (EE σ)) (hN : X.N[i]? = some x) (hv : Vis X.env.scope x) (ha : PA X (e :: es) t)
    (hd : (x == ("__debug__" : Str)) = false) (hcd : (x == ("__classdict__" : Str)) = false)
    (he : starEach (e :: es) X.env = (false, eval e X.env) :: starEach es X.env) (hpl : (backTo pos (starEach es X.env)).any (·.1) = false) :
    PE X (.Call (.Name x p) (e :: es) [] pos) (tCallC f F ws i sp EE t) := by
  constructor
  intro pins s σ H Q I ready
  rcases ready with ⟨slot, obj, args⟩
  have look := (pe_var (pos := p) hN hv hd hcd).run pins s σ H (fun v H1 => v = .ref f ∧ H1 = H) I ⟨.ref f, slot, rfl, rfl⟩
  apply wpAny_Call_Name_kw
  apply thn look
  rintro u s1 ⟨v, H1, I1, rv, rfl, rfl⟩
  cases (show u = Value.ref f from rv)
  have given := ha.run pos pins s1 σ H1 _ I1 args
  apply PySem.W.callWith_F (first := []) (fnAt_of I1 obj) _ he hpl
  apply thn given
  rintro us s2 ⟨vs, H2, I2, rel, obj2, code2, told⟩
  refine ⟨fnAt_of I2 obj2, ?_⟩
  have cells := CellsAt.later C0 nf (fun y c _ => by rw [nx]; exact List.not_mem_nil) I2
  exact run_nC Fn hr hk (hx σ) I2 obj2 code2 cells rel told
/-- a frame's cells are no frames -/
theorem cells_nf {pins : List (Addr × Obj)} {σ : L2.St} {H : Hp} {s : Shared} (I : Inv X pins σ H s) (hfn : ∀ y, X.fn y = true) {y : Str} {c : Addr} (h : X.env.cells.lookup y = some c) : c ∉ frs X.stack := by
  have out : c ∉ frs X.outer := fun hc => by
    obtain ⟨_, o, e, _⟩ := I.ok.funs.mem hc
    have h1 := Heap.lt_size e
    have h2 := I.ok.cab y c (hfn y) h
    exact Nat.lt_irrefl _ (Nat.lt_of_lt_of_le h1 h2)
  rcases (I.ok.stk) with e | ⟨e, hf⟩
  · rw [e]; exact out
  · rw [e]
    intro hc
    unfold frs at hc
    rw [List.filterMap_cons, hf] at hc
    rcases List.mem_cons.mp hc with z | z
    · exact I.cne y c h z
    · exact out z
/-- h(..), h a def of the module that is handed the function F made here, among its arguments -/
def tCallH (js : List Nat) (sp : List (Option V) → Sp) (E : XK) (t : TA) : TE := fun σ H Q => t σ H fun vs H1 => sp (js.map (slotAt σ)) vs H1 Q E
theorem pe_callH1 {fd : FuncData} {js : List Nat} (Fn : FnOkC X.prog X.w X.K X.mg X.base CX k f fd ps F fr sp) (cp : X.Ok → Caps X F.cl fr js) (hr : Room k X.A) (hg : Gl X x) (hm : X.mg x = some (.ref f)) (hk : PySem.W.keepIn X.K (.ref f) = true) (hb : Binds X.K fd ps []) (hx : Passes CX X E) (hfn : ∀ y, X.fn y = true)
    (ha : PA X (e :: es) t) (hdb : (x == ("__debug__" : Str)) = false) (he : starEach (e :: es) X.env = (false, eval e X.env) :: starEach es X.env) (hpl : (backTo pos (starEach es X.env)).any (·.1) = false) :
    PE X (.Call (.Name x p) (e :: es) [] pos) (tCallH js sp E t) := by
  constructor
  intro pins s σ H Q I ready
  apply wpAny_Call_Name_kw
  apply ld_glob I hg hm _ hdb
  have given := ha.run pos pins s σ H _ I ready
  apply PySem.W.callWith_K (h₀ := X.base) I.ok.mod.kin hk _ he hpl
  apply thn given
  rintro us s1 ⟨vs, H1, I1, rel, told⟩
  refine ⟨I1.kIn, ?_⟩
  have n : us.length = ps.length := by
    have h1 := Fn.len _ _ _ _ _ told
    have h2 := rel.length
    omega
  have bound := hb s1 us I1.kIn (by rw [List.append_nil, n])
  rw [List.append_nil] at bound
  have caps := cp I1.ok
  have promise := Fn.run X.A X.stack s1 H1 ⟨us, []⟩ us vs (js.map (slotAt σ)) Q E hr (Inv.env0 I1) bound rel (cells_of I1 caps) (fun y c e => cells_nf I1 hfn (caps.sub y c e)) told
  apply wpAny_call
  apply codeAny_mono promise
  intro res s2 done
  match res, done with
  | .error e, raised => exact hx pins σ H1 s1 e s2 I1 raised
  | .ok (.ret u), came => exact Inv.after I1 came
end
end NdefX

/-! Bd: a dict whose keys are tuples within tuples. -/
namespace Bk
open PySem PySem.Spec PyProof.Rows L2

abbrev NEn := NestedKey × Addr × V
abbrev nKV (es : List NEn) : List (NestedKey × V) := es.map fun x => (x.1, x.2.2)
/-- the same entries, by values -/
abbrev NRel : List NEn → List (NestedKey × Addr × Value) → Prop := Paired fun p q => p.1 = q.1 ∧ p.2.1 = q.2.1 ∧ RelV p.2.2 q.2.2
def nEnt (w : World) (x : NestedKey × Addr × Value) : DictEntry := ⟨x.1.hash w, .ref x.2.1, x.2.2⟩
/-- the dict at a has these entries -/
def NDictP (w : World) (a : Addr) (es : List NEn) (h : Heap) : Prop := es.length ≤ sizeLine ∧ (a == sysModules) = false ∧ (es.map (·.1)).Nodup ∧ ∃ xs, NRel es xs ∧ ∃ o ds ep, h.get? a = some o ∧ o.ExactDict ∧ o.data = .dict ds ep ∧ ds.toList = xs.map (nEnt w)
def NDict (w : World) (a : Addr) (es : List NEn) : HO := .ext (NDictP w a es)
mutual
/-- the value is this key, its tuples tracked -/
def KAt (H : Hp) : NestedKey → V → Prop
  | .none, v => v = .non
  | .num i, v => v = .int i
  | .text s, v => v = .str s
  | .tup ks, v => ∃ a vs, v = .ref a ∧ H a = some (.tup vs) ∧ KAtL H ks vs
def KAtL (H : Hp) : List NestedKey → List V → Prop
  | [], vs => vs = []
  | k :: ks, vs => ∃ v r, vs = v :: r ∧ KAt H k v ∧ KAtL H ks r
end
section
variable {H H' : Hp}
mutual
theorem KAt.keep (t : ∀ b xs, H b = some (.tup xs) → H' b = some (.tup xs)) : ∀ {k : NestedKey} {v : V}, KAt H k v → KAt H' k v
  | .none, _, h => by unfold KAt at h ⊢; exact h
  | .num _, _, h => by unfold KAt at h ⊢; exact h
  | .text _, _, h => by unfold KAt at h ⊢; exact h
  | .tup ks, _, h => by
    unfold KAt at h ⊢
    obtain ⟨a, vs, e, ha, l⟩ := h
    exact ⟨a, vs, e, t a vs ha, KAtL.keep t l⟩
theorem KAtL.keep (t : ∀ b xs, H b = some (.tup xs) → H' b = some (.tup xs)) : ∀ {ks : List NestedKey} {vs : List V}, KAtL H ks vs → KAtL H' ks vs
  | [], _, h => by unfold KAtL at h ⊢; exact h
  | k :: ks, _, h => by
    unfold KAtL at h ⊢
    obtain ⟨v, r, e, a, b⟩ := h
    exact ⟨v, r, e, KAt.keep t a, KAtL.keep t b⟩
end
variable {P : Program} {w : World} {h : Heap}
mutual
theorem KAt.is (ok : HOk P w H h) : ∀ {k : NestedKey} {v : V} {u : Value}, KAt H k v → RelV v u → NestedIs h k u
  | .none, _, _, q, r => by
    unfold KAt at q
    subst q
    cases (show _ = Value.none from r)
    exact .none
  | .num i, _, _, q, r => by
    unfold KAt at q
    subst q
    obtain ⟨t, rfl⟩ := (show ∃ t, _ = Value.int i t from r)
    exact .int _ _
  | .text s, _, _, q, r => by
    unfold KAt at q
    subst q
    obtain ⟨t, rfl⟩ := (show ∃ t, _ = Value.str s t from r)
    exact .text _ _
  | .tup ks, _, _, q, r => by
    unfold KAt at q
    obtain ⟨a, vs, rfl, ha, l⟩ := q
    cases (show _ = Value.ref a from r)
    obtain ⟨_, its, rel, o, h1, h2, n, h3⟩ := (show ObjOk P w H h a (.tup vs) from ok a _ ha)
    exact .tup h1 h2 h3 (by simpa using KAtL.is ok l rel)
theorem KAtL.is (ok : HOk P w H h) : ∀ {ks : List NestedKey} {vs : List V} {us : List Value}, KAtL H ks vs → Vals vs us → NestedAll h ks us
  | [], _, _, q, r => by
    unfold KAtL at q
    subst q
    cases r
    exact .nil
  | k :: ks, _, _, q, r => by
    unfold KAtL at q
    obtain ⟨v, vs, rfl, a, b⟩ := q
    cases r with
    | cons r1 r2 => exact .cons (KAt.is ok a r1) (KAtL.is ok b r2)
end
end
theorem NRel.val {es : List NEn} {xs : List (NestedKey × Addr × Value)} (r : NRel es xs) (k : NestedKey) : RelO (valV (nKV es) k) ((atKey xs k).map (·.2)) := by
  induction r with
  | nil => exact True.intro
  | @cons p q ps qs hp t ih =>
    obtain ⟨e1, _, e2⟩ := hp
    by_cases e : q.1 = k
    · rw [show nKV (p :: ps) = (p.1, p.2.2) :: nKV ps from rfl, valV_pos (e1.trans e)]
      have z : atKey (q :: qs) k = some q.2 := by simp [atKey, e]
      rw [z]
      exact e2
    · rw [show nKV (p :: ps) = (p.1, p.2.2) :: nKV ps from rfl, valV_neg (fun z => e (e1.symm.trans z))]
      simpa [atKey, e] using ih
/-- the entry k: its value changed, or a new one behind -/
def nPut (es : List NEn) (k : NestedKey) (b : Addr) (v : V) : List NEn := if (valV (nKV es) k).isSome = true then es.map (fun x => if x.1 = k then (x.1, x.2.1, v) else x) else es ++ [(k, b, v)]
theorem nPut_len {es : List NEn} {k : NestedKey} {b : Addr} {v : V} : (nPut es k b v).length ≤ es.length + 1 := by
  unfold nPut
  split <;> simp
theorem nPut_kv {es : List NEn} {k : NestedKey} {b : Addr} {v : V} : nKV (nPut es k b v) = putK (nKV es) k v := by
  unfold nPut putK
  rw [valV_any]
  split
  · simp only [nKV, List.map_map]
    refine List.map_congr_left (fun x _ => ?_)
    by_cases e : x.1 = k <;> simp [e]
  · simp [nKV]
theorem nPut_all {es : List NEn} {k : NestedKey} {b : Addr} {v : V} {R : NestedKey → Addr → Prop} (h : ∀ x ∈ es, R x.1 x.2.1) (hk : R k b) : ∀ x ∈ nPut es k b v, R x.1 x.2.1 := by
  unfold nPut
  split
  · intro x hx
    rcases List.mem_map.mp hx with ⟨y, hy, rfl⟩
    by_cases e : y.1 = k
    · rw [if_pos e]; exact h y hy
    · rw [if_neg e]; exact h y hy
  · intro x hx
    cases (List.mem_append.mp hx) with
    | inl hx => exact h x hx
    | inr hx =>
      obtain rfl : x = (k, b, v) := by simpa using hx
      exact hk
theorem NRel.put {es : List NEn} {xs : List (NestedKey × Addr × Value)} (r : NRel es xs) (k : NestedKey) (b : Addr) {v : V} {u : Value} (rv : RelV v u) : NRel (nPut es k b v) (storedH xs k b u) := by
  have e : (atKey xs k).isSome = (valV (nKV es) k).isSome := by
    have := (r.val k).isSome_eq
    rw [Option.isSome_map] at this
    exact this.symm
  unfold nPut storedH
  rw [e]
  split
  · clear e
    rename_i z
    clear z
    induction r with
    | nil => exact .nil
    | @cons p q ps qs hp t ih =>
      obtain ⟨e1, e2, e3⟩ := hp
      refine .cons ?_ ih
      unfold putAt
      show (if p.1 = k then (p.1, p.2.1, v) else p).1 = _ ∧ (if p.1 = k then (p.1, p.2.1, v) else p).2.1 = _ ∧ L2.RelV (if p.1 = k then (p.1, p.2.1, v) else p).2.2 _
      by_cases e : q.1 = k
      · rw [if_pos (e1.trans e), if_pos e]; exact ⟨e1, e2, rv⟩
      · rw [if_neg (fun z => e (e1.symm.trans z)), if_neg e]; exact ⟨e1, e2, e3⟩
  · exact Paired.snoc r ⟨rfl, rfl, rv⟩
theorem NRel.keys {es : List NEn} {xs : List (NestedKey × Addr × Value)} (r : NRel es xs) : xs.map (fun x => (x.1, x.2.1)) = es.map fun x => (x.1, x.2.1) := by
  induction r with
  | nil => rfl
  | cons hp t ih => rw [List.map_cons, List.map_cons, ih, hp.1, hp.2.1]
theorem NRel.key1 {es : List NEn} {xs : List (NestedKey × Addr × Value)} (r : NRel es xs) : xs.map (·.1) = es.map (·.1) := by
  have := congrArg (List.map Prod.fst) r.keys
  simpa [List.map_map, Function.comp_def] using this
section
variable {P : Program} {w : World} {H : Hp} {h : Heap} {a : Addr} {es : List NEn}
/-- its keys are keys -/
def NKeys (H : Hp) (es : List NEn) : Prop := ∀ x ∈ es, KAt H x.1 (.ref x.2.1) ∧ x.1.depth ≤ 8
theorem nd_of (ok : HOk P w H h) (e : H a = some (NDict w a es)) (ke : NKeys H es) : es.length ≤ sizeLine ∧ (a == sysModules) = false ∧ ∃ xs, NRel es xs ∧ h.DictOfH (nestedKind P w) a xs := by
  obtain ⟨⟨l, z, nd, xs, r, o, ds, ep, h1, h2, h3, h4⟩, _, _⟩ := (show ObjOk P w H h a (.ext (NDictP w a es)) from ok a _ e)
  refine ⟨l, z, xs, r, o, ds, ep, h1, h2, h3, h4, fun x hx => ?_, by rw [r.key1]; exact nd⟩
  have hm : (x.1, x.2.1) ∈ es.map fun x => (x.1, x.2.1) := by rw [← r.keys]; exact List.mem_map.mpr ⟨x, hx, rfl⟩
  obtain ⟨y, hy, e2⟩ := List.mem_map.mp hm
  obtain ⟨k1, k2⟩ := ke y hy
  injection e2 with e3 e4
  rw [← e3, ← e4]
  exact ⟨KAt.is ok k1 rfl, k2⟩
theorem nd_ok {H' : Hp} {h' : Heap} {xs : List (NestedKey × Addr × Value)} (l : es.length ≤ sizeLine) (z : (a == sysModules) = false) (r : NRel es xs) (d : h'.DictOfH (nestedKind P w) a xs) : ObjOk P w H' h' a (NDict w a es) := by
  obtain ⟨o, ds, ep, h1, h2, h3, h4, _, h5⟩ := d
  refine ⟨⟨l, z, by rw [← r.key1]; exact h5, xs, r, o, ds, ep, h1, h2, h3, h4⟩, ⟨o, h1⟩, fun g1 g2 q k => ?_⟩
  obtain ⟨l, z, nd, xs, r, o, ds, ep, h1, h2, h3, h4⟩ := q
  exact ⟨l, z, nd, xs, r, o, ds, ep, k _ h1, h2, h3, h4⟩
end
/-- what such a dict holds at the key y -/
def NGet (w : World) (H : Hp) (a : Addr) (y : V) (r : Option V) : Prop := ∃ es k b, H a = some (NDict w a es) ∧ NKeys H es ∧ y = .ref b ∧ KAt H k (.ref b) ∧ k.depth ≤ 8 ∧ r = valV (nKV es) k
def NPut (w : World) (H : Hp) (a : Addr) (y v : V) (H' : Hp) : Prop := ∃ es k b, H a = some (NDict w a es) ∧ NKeys H es ∧ y = .ref b ∧ KAt H k (.ref b) ∧ k.depth ≤ 8 ∧ es.length < sizeLine ∧ H' = upd H a (NDict w a (nPut es k b v))
def DGetX (w : World) (H : Hp) (a : Addr) (y : V) (r : Option V) : Prop := DGet H a y r ∨ NGet w H a y r
def DPutX (w : World) (H : Hp) (a : Addr) (y v : V) (H' : Hp) : Prop := DPut H a y v H' ∨ NPut w H a y v H'
section
variable {X : Cx} {pins : List (Addr × Obj)} {σ : L2.St} {H : Hp} {s : Shared} {a : Addr} {y v : V} {u r : Value} {o : Option V} {A : Around} {E : Value → Shared → Prop}
theorem nk_room (hu : A.units + 20 < cLine) : (nestedKind X.prog X.w).room A.in1 := by
  show A.in1.units + 8 < cLine
  rw [Around.in1_units]
  omega
theorem dx_get {Q : Value → Shared → Prop} (hu : A.units + 20 < cLine) (I : Inv X pins σ H s) (g : DGetX X.w H a y (some v)) (ry : RelV y u) (h : ∀ w' s', Inv X pins σ H s' → RelV v w' → Q w' s') : wpAny (model X.prog X.w) A (getItem (.ref a) u) Q E s := by
  rcases g with g | ⟨es, k, b, e, ke, rfl, kb, kd, l⟩
  · exact d_getItem (by omega) I g ry h
  · cases (show u = Value.ref b from ry)
    obtain ⟨_, _, xs, rel, dd⟩ := nd_of I.hok e ke
    have q := rel.val k
    rw [← l] at q
    cases hk : atKey xs k with
    | none => rw [hk] at q; exact (show False from q).elim
    | some p =>
      rw [hk] at q
      exact wpAny_getItem_heap (nk_room hu) ⟨KAt.is I.hok kb rfl, kd⟩ dd hk (h _ _ (I.tok _) q)
theorem dx_in {Q : Value → Shared → Prop} (hu : A.units + 20 < cLine) (I : Inv X pins σ H s) (g : DGetX X.w H a y o) (ry : RelV y u) (h : ∀ s', Inv X pins σ H s' → Q (.bool o.isSome) s') : wpAny (model X.prog X.w) A (compareOp .In u (.ref a)) Q E s := by
  rcases g with g | ⟨es, k, b, e, ke, rfl, kb, kd, l⟩
  · exact d_in (by omega) I g ry h
  · cases (show u = Value.ref b from ry)
    obtain ⟨_, z, xs, rel, dd⟩ := nd_of I.hok e ke
    refine wpAny_in_heap (nk_room hu) ⟨KAt.is I.hok kb rfl, kd⟩ z dd ?_
    have same := (rel.val k).isSome_eq
    rw [Option.isSome_map] at same
    rw [← same, ← l]
    exact h _ (I.tok _)
theorem dx_notIn {Q : Value → Shared → Prop} (hu : A.units + 20 < cLine) (I : Inv X pins σ H s) (g : DGetX X.w H a y o) (ry : RelV y u) (h : ∀ s', Inv X pins σ H s' → Q (.bool (!o.isSome)) s') : wpAny (model X.prog X.w) A (compareOp .NotIn u (.ref a)) Q E s := by
  rcases g with g | ⟨es, k, b, e, ke, rfl, kb, kd, l⟩
  · exact d_notIn (by omega) I g ry h
  · cases (show u = Value.ref b from ry)
    obtain ⟨_, z, xs, rel, dd⟩ := nd_of I.hok e ke
    refine wpAny_notIn_heap (nk_room hu) ⟨KAt.is I.hok kb rfl, kd⟩ z dd ?_
    have same := (rel.val k).isSome_eq
    rw [Option.isSome_map] at same
    rw [← same, ← l]
    exact h _ (I.tok _)
theorem dx_set {H' : Hp} {Q : Unit → Shared → Prop} (hu : A.units + 20 < cLine) (I : Inv X pins σ H s) (g : DPutX X.w H a y v H') (ry : RelV y u) (rv : RelV v r) (h : ∀ s', Inv X pins σ H' s' → Q () s') : wpAny (model X.prog X.w) A (setItem (.ref a) u r) Q E s := by
  rcases g with g | ⟨es, k, b, e, ke, rfl, kb, kd, l, rfl⟩
  · exact d_setItem (by omega) I g ry rv h
  · cases (show u = Value.ref b from ry)
    obtain ⟨z, hd, xs, rel, dd⟩ := nd_of I.hok e ke
    have hz : xs.length ≤ sizeLine := (Paired.length rel) ▸ z
    refine wpAny_setItem_heap (hsz := hz) (nk_room hu) ⟨KAt.is I.hok kb rfl, kd⟩ dd fun h' dd' hs => h _ ?_
    have hl : (nPut es k b v).length ≤ sizeLine := by have := nPut_len (es := es) (k := k) (b := b) (v := v); omega
    have ok := nd_ok (H' := upd H a (NDict X.w a (nPut es k b v))) hl hd (rel.put k b rv) dd'
    obtain ⟨q, _, _, hq, _⟩ := dd'
    exact d_write I (by rw [e]; exact True.intro) hs ⟨q, hq⟩ ok
end
section
variable {X : Cx}
def tDGetX (w : World) (td ty : TE) : TE := fun σ H Q => td σ H fun x H1 => ty σ H1 fun y H2 => ∃ a v, x = .ref a ∧ DGetX w H2 a y (some v) ∧ Q v H2
theorem dx_type {pins : List (Addr × Obj)} {σ : L2.St} {H : Hp} {s : Shared} {a : Addr} {y : V} {o : Option V} (I : Inv X pins σ H s) (g : DGetX X.w H a y o) : s.TypeIs (.ref a) "dict" := by
  rcases g with g | ⟨es, k, b, e, ke, _⟩
  · exact dict_typeIs I g
  · obtain ⟨_, _, xs, _, dd⟩ := nd_of I.hok e ke
    exact dd.typeIs
theorem pe_dgetX {o i : Expr} {pos : Pos} {td ty : TE} (hu : X.A.units + 20 < cLine) (ho : PE X o td) (hi : PE X i ty) (hs : NoSl i) : PE X (.Subscript o i pos) (tDGetX X.w td ty) := by
  constructor
  intro pins s σ H Q I h
  apply subD_of PySem.F.slot_dict_getitem.lookup hs
  refine thn (ho.run pins s σ H _ I h) ?_
  rintro u s1 ⟨x, H1, I1, rx, q1⟩
  refine thn (hi.run pins s1 σ H1 _ I1 q1) ?_
  rintro iv s2 ⟨y, H2, I2, ry, a, v, rfl, g, q2⟩
  obtain rfl := (show u = Value.ref a from rx)
  exact ⟨dx_type I2 g, dx_get hu I2 g ry fun w' s3 I3 rw' => ⟨v, H2, I3, rw', q2⟩⟩
def rSetX (w : World) : TSet := fun o i v H Q => ∃ a H', o = .ref a ∧ DPutX w H a i v H' ∧ Q H'
theorem set_dictX (hu : X.A.units + 20 < cLine) : PSet X (rSetX X.w) := by
  rintro pins s σ H o i v ov iv u Q I ro ri rv ⟨a, H', rfl, g, q⟩
  obtain rfl := (show ov = Value.ref a from ro)
  exact dx_set hu I g ri rv fun s' I' => ⟨H', I', q⟩
/-- an empty dict, its keys to be tuples within tuples -/
theorem nd_new {pins : List (Addr × Obj)} {σ : L2.St} {H : Hp} {s : Shared} {a : Addr} (I : Inv X pins σ H s) (e : H a = some (.dK [])) : Inv X pins σ (upd H a (NDict X.w a [])) s := by
  obtain ⟨z, y, vs, rel, dd⟩ := dk_of I.hok e
  cases rel
  obtain ⟨o, ds, ep, h1, h2, h3, _, h4, _⟩ := dd
  have h5 : ds.toList = [] := List.eq_nil_of_length_eq_zero h4.length
  have ok : ObjOk X.prog X.w (upd H a (NDict X.w a [])) s.heap a (NDict X.w a []) := by
    refine ⟨⟨Nat.zero_le _, y, List.nodup_nil, [], .nil, o, ds, ep, h1, h2, h3, h5⟩, ⟨o, h1⟩, fun g1 g2 q k => ?_⟩
    obtain ⟨l, z, nd, xs, r, o, ds, ep, h1, h2, h3, h4⟩ := q
    exact ⟨l, z, nd, xs, r, o, ds, ep, k _ h1, h2, h3, h4⟩
  have := I.write (t' := s.toks) (h' := s.heap) (x := a) (e := a) (o := NDict X.w a []) (by rw [e]; exact True.intro) (.inl rfl) (fun b q hb z => z) ⟨o, h1⟩ ok
  exact this
def tDNewN (w : World) : TE := fun σ H Q => ∀ p, H p = none → Q (.ref p) (upd H p (NDict w p []))
theorem pe_dnewN {pos : Pos} : PE X (.Dict [] [] pos) (tDNewN X.w) := by
  constructor
  intro pins s σ H Q I h
  refine thn ((pe_dnewK (X := X) (pos := pos)).run pins s σ H (fun v H1 => ∃ p, v = .ref p ∧ H p = none ∧ H1 = upd H p (.dK [])) I (fun p hp => ⟨p, rfl, hp, rfl⟩)) ?_
  rintro u s1 ⟨v, H1, I1, rv, p, rfl, hp, rfl⟩
  have I2 := nd_new I1 (a := p) upd_same
  rw [upd_upd] at I2
  exact ⟨.ref p, _, I2, rv, h p hp⟩
end
/-! such a dict is no code object -/
def fillH : Nat → Heap
  | 0 => {}
  | n + 1 => (fillH n).push { cls := .none, data := .fields #[.none, .none] }
theorem fill_size : ∀ n, (fillH n).objs.size = n
  | 0 => rfl
  | n + 1 => by
    show ((fillH n).push _).objs.size = _
    rw [Heap.size_push, fill_size n]
theorem fill_all : ∀ n b o, (fillH n).get? b = some o → ∃ vs, o.data = .fields vs
  | 0, b, o, e => absurd (Heap.lt_size e) (Nat.not_lt_zero _)
  | n + 1, b, o, e => by
    rcases Heap.get?_push_cases (show ((fillH n).push _).get? b = some o from e) with ⟨_, rfl⟩ | e
    · exact ⟨_, rfl⟩
    · exact fill_all n b o e
theorem fill_at (n : Nat) (q : Str) (t : Tok) : ∃ h : Heap, (∃ o, h.get? n = some o ∧ o.data = .fields #[.none, .str q t]) ∧ ∀ b o, h.get? b = some o → ∃ vs, o.data = .fields vs := by
  refine ⟨(fillH n).push { cls := .none, data := .fields #[.none, .str q t] }, ⟨{ cls := .none, data := .fields #[.none, .str q t] }, ?_, rfl⟩, fun b o e => ?_⟩
  · have := Heap.get?_push_size (fillH n) (o := { cls := .none, data := .fields #[.none, .str q t] }) rfl
    rw [fill_size] at this
    exact this
  · rcases Heap.get?_push_cases e with ⟨_, rfl⟩ | e
    · exact ⟨_, rfl⟩
    · exact fill_all n b o e
theorem nd_ne {w : World} {a c : Addr} {es : List NEn} {q : Str} : NDict w a es ≠ LamX.CodeO c q := by
  intro z
  unfold NDict LamX.CodeO at z
  injection z with z
  obtain ⟨h, ⟨o, e1, e2⟩, al⟩ := fill_at c q 0
  have : NDictP w a es h := by
    rw [z]
    exact ⟨o, _, 0, e1, e2, rfl⟩
  obtain ⟨_, _, _, xs, _, o2, ds, ep, h1, _, h3, _⟩ := this
  obtain ⟨vs, e3⟩ := al a o2 h1
  rw [h3] at e3
  cases e3
end Bk

/-! B2: how data lies in the tracked heap; what is held apart. -/
namespace Bk
open PySem PySem.Spec PyProof.Rows L2

/-- the run around: what is written, where the defs and the classes stand, the exceptions' classes -/
structure Clo where
  f : Addr
  F : NdefX.NF
  j : Nat
  ws : List V
structure Wd where
  K : PySem.W.Frag
  fa : Nat → Addr
  ca : Nat → Addr
  xc : Nat → Value
  /-- the function that was handed in, and what it holds -/
  cf : Option Clo
  /-- the tables of code objects -/
  T : List NdefX.NTab
  /-- the world (texts' hashes) -/
  w : World
/-- a dict of the t-th kind, with these keys and values -/
def DAt (w : World) (H : Hp) (a : Addr) (t : Nat) (ks : List D) (vs : List V) : Prop := ks.length = vs.length ∧ match t with
  | 0 => ∃ kk : List Key, ks.map keyOf = kk.map some ∧ H a = some (.dK (kk.zip vs))
  | 1 => ∃ kk : List (List Key), ks.map keyTOf = kk.map some ∧ H a = some (.dT (kk.zip vs))
  | 2 => ∃ es : List NEn, ks.map keyNOf = (es.map (·.1)).map some ∧ vs = es.map (·.2.2) ∧ H a = some (NDict w a es) ∧ NKeys H es
  | 10 => ∃ kk : List Key, ks.map keyOf = kk.map some ∧ ∃ od, H a = some (.frz od (.dK (kk.zip vs)))
  | 11 => ∃ kk : List (List Key), ks.map keyTOf = kk.map some ∧ ∃ od, H a = some (.frz od (.dT (kk.zip vs)))
  | _ => False
/-- a tuple that is written in the text, not made: never a key -/
def isCst : List D → Bool
  | [.str z] => decide (z = "*")
  | _ => false
section
variable (K : Wd) (H : Hp) (F : Addr → Prop)
mutual
def Val : D → V → Prop
  | .non, v => v = .non
  | .bl b, v => v = .bl b
  | .int i, v => v = .int i
  | .str s, v => v = .str s
  | .tup xs, v => ∃ a vs, v = .ref a ∧ SqT K.K H a vs ∧ (isCst xs = true ∨ H a = some (.tup vs)) ∧ ValL xs vs
  | .lst xs, v => ∃ a vs, v = .ref a ∧ F a ∧ H a = some (.lst vs) ∧ ValL xs vs
  | .scr ns, v => ∃ a, v = .ref a ∧ (F a ∧ Rd H a (.lst (ns.map V.int)) ∨ (∀ H', SqL K.K H' a (ns.map V.int)))
  | .dct t ks xs, v => ∃ a vs, v = .ref a ∧ F a ∧ DAt K.w H a t ks vs ∧ ValL xs vs
  | .fn i, v => ∃ a, K.fa i = a + 1 ∧ v = .ref a
  | .obj _ _ _, _ => False
  | .box (.tup xs), v => ∃ c, K.cf = some c ∧ v = .ref c.f ∧ F c.f ∧ H c.f = some (NdefX.FnO c.f c.F) ∧ F c.F.c ∧ H c.F.c = some (LamX.CodeO c.F.c c.F.qual) ∧ ValL xs (.int (c.j : Nat) :: c.ws)
  | .box _, _ => False
  | .gone, _ => False
def ValL : List D → List V → Prop
  | [], vs => vs = []
  | d :: ds, vs => ∃ v r, vs = v :: r ∧ Val d v ∧ ValL ds r
end
/-- the fields of a row -/
def rowF (a1 a2 : Addr) : List (Str × V) := [("entries", .ref a1), ("numbers", .ref a2)]
/-- a row of these entries stands at a: its own dict, its list, its numbers -/
def RowAt (xs : List D) (a : Addr) (fp : List Addr) : Prop := ∃ C dx a1 a2 vs, K.xc 100 = .ref C ∧ H a = some (.ins C dx (rowF a1 a2)) ∧ H dx = some (.own a) ∧ H a1 = some (.lst vs) ∧ ValL K H F xs vs ∧ DAt K.w H a2 1 xs (rgV 0 xs.length) ∧ fp = [a, dx, a1, a2]
/-- lists of one's own, one behind another -/
def LLs : List D → List V → List Addr → Prop
  | [], vs, fp => vs = [] ∧ fp = []
  | .lst ys :: xs, vs, fp => ∃ b g ws vr, vs = .ref b :: vr ∧ fp = b :: g ∧ H b = some (.lst ws) ∧ ValL K H F ys ws ∧ LLs xs vr g
  | _ :: _, _, _ => False
/-- .. in a list of one's own -/
def LLAt (xs : List D) (a : Addr) (fp : List Addr) : Prop := ∃ vs g, H a = some (.lst vs) ∧ LLs K H F xs vs g ∧ fp = a :: g
/-- a container of one's own, and the addresses that are held alone -/
def OwnD : D → Option V → List Addr → Prop
  | .obj _ _ xs, o, fp => ∃ a, o = some (.ref a) ∧ RowAt K H F xs a fp
  | .box (.lst xs), o, fp => ∃ a, o = some (.ref a) ∧ LLAt K H F xs a fp
  | .lst xs, o, fp => ∃ a vs, o = some (.ref a) ∧ H a = some (.lst vs) ∧ ValL K H F xs vs ∧ fp = [a]
  | .dct t ks xs, o, fp => ∃ a vs, o = some (.ref a) ∧ DAt K.w H a t ks vs ∧ ValL K H F xs vs ∧ fp = [a]
  | _, _, _ => False
/-- what a slot holds, and the addresses that it holds alone -/
def Own : Sl → Option V → List Addr → Prop
  | .un, _, fp => fp = []
  | .fz d, o, fp => fp = [] ∧ ∃ v, o = some v ∧ Val K H F d v
  | .own d, o, fp => OwnD K H F d o fp
abbrev Things := List (Sl × Option V)
def SepL : Things → List Addr → Prop
  | [], fp => fp = []
  | t :: ts, fp => ∃ f g, fp = f ++ g ∧ Own K H F t.1 t.2 f ∧ SepL ts g
/-- what is shared is there; the tables of code objects -/
def Fk : Prop := (∀ a, F a → H a ≠ none ∧ ∀ ps, H a ≠ some (.tbl ps)) ∧ NdefX.TabsN K.T H
def Sep (ts : Things) : Prop := Fk K H F ∧ ∃ fp, SepL K H F ts fp ∧ fp.Nodup ∧ ∀ a ∈ fp, ¬ F a
end
/-- what may be changed -/
def Wr : HO → Prop
  | .lst _ => True
  | .dK _ => True
  | .dT _ => True
  | .ins _ _ _ => True
  | .own _ => True
  | .frz _ (.dK _) => True
  | .frz _ (.dT _) => True
  | .ext φ => ∃ w a es, φ = NDictP w a es
  | _ => False
/-- what no one changes is as it was -/
def Pres (F : Addr → Prop) (H H' : Hp) : Prop := ∀ a o, H a = some o → (F a ∨ (∃ xs, o = .tup xs) ∨ ∃ ob xs, o = .frz ob (.tup xs)) → H' a = some o

section
variable {K : Wd} {H H' : Hp} {F F' : Addr → Prop}
theorem Rd.presT {a : Addr} {xs : List V} (p : Pres F H H') (r : Rd H a (.tup xs)) : Rd H' a (.tup xs) := by
  rcases r with r | ⟨o, r⟩
  · exact .inl (p _ _ r (.inr (.inl ⟨xs, rfl⟩)))
  · exact .inr ⟨o, p _ _ r (.inr (.inr ⟨o, _, rfl⟩))⟩
theorem Rd.presL {a : Addr} {xs : List V} (p : Pres F H H') (f : F a) (r : Rd H a (.lst xs)) : Rd H' a (.lst xs) := by
  rcases r with r | ⟨o, r⟩
  · exact .inl (p _ _ r (.inl f))
  · exact .inr ⟨o, p _ _ r (.inl f)⟩
theorem SqT.pres {a : Addr} {xs : List V} (p : Pres F H H') (r : SqT K.K H a xs) : SqT K.K H' a xs := by
  rcases r with r | r
  · exact .inl (Rd.presT p r)
  · exact .inr r
theorem DAt.pres {w : World} {a : Addr} {t : Nat} {ks : List D} {vs : List V} (p : ∀ o, H a = some o → H' a = some o) (pt : ∀ b xs, H b = some (.tup xs) → H' b = some (.tup xs)) (h : DAt w H a t ks vs) : DAt w H' a t ks vs := by
  refine ⟨h.1, ?_⟩
  have h2 := h.2
  match t, h2 with
  | 0, ⟨kk, e1, e2⟩ => exact ⟨kk, e1, p _ e2⟩
  | 1, ⟨kk, e1, e2⟩ => exact ⟨kk, e1, p _ e2⟩
  | 2, ⟨es, e1, e2, e3, e4⟩ => exact ⟨es, e1, e2, p _ e3, fun x hx => ⟨(e4 x hx).1.keep pt, (e4 x hx).2⟩⟩
  | 10, ⟨kk, e1, od, e2⟩ => exact ⟨kk, e1, od, p _ e2⟩
  | 11, ⟨kk, e1, od, e2⟩ => exact ⟨kk, e1, od, p _ e2⟩
theorem DAt.there {w : World} {a : Addr} {t : Nat} {ks : List D} {vs : List V} (h : DAt w H a t ks vs) : ∃ o, H a = some o ∧ Wr o := by
  have h2 := h.2
  match t, h2 with
  | 0, ⟨kk, e1, e2⟩ => exact ⟨_, e2, trivial⟩
  | 1, ⟨kk, e1, e2⟩ => exact ⟨_, e2, trivial⟩
  | 2, ⟨es, e1, e2, e3, e4⟩ => exact ⟨_, e3, w, a, es, rfl⟩
  | 10, ⟨kk, e1, od, e2⟩ => exact ⟨_, e2, trivial⟩
  | 11, ⟨kk, e1, od, e2⟩ => exact ⟨_, e2, trivial⟩
mutual
theorem Val.mono (hf : ∀ a, F a → F' a) (p : Pres F H H') : ∀ {d : D} {v : V}, Val K H F d v → Val K H' F' d v
  | .non, _, h => h
  | .bl _, _, h => h
  | .int _, _, h => h
  | .str _, _, h => h
  | .tup xs, v, h => by
    unfold Val at h ⊢
    obtain ⟨a, vs, e, t, c, l⟩ := h
    exact ⟨a, vs, e, SqT.pres p t, c.imp id fun c => p _ _ c (.inr (.inl ⟨_, rfl⟩)), ValL.mono hf p l⟩
  | .lst xs, v, h => by
    unfold Val at h ⊢
    obtain ⟨a, vs, e, f, t, l⟩ := h
    exact ⟨a, vs, e, hf a f, p _ _ t (.inl f), ValL.mono hf p l⟩
  | .scr ns, v, h => by
    unfold Val at h ⊢
    obtain ⟨a, e, ⟨f, t⟩ | t⟩ := h
    · exact ⟨a, e, .inl ⟨hf a f, Rd.presL p f t⟩⟩
    · exact ⟨a, e, .inr t⟩
  | .dct _ _ _, _, h => by
    unfold Val at h ⊢
    obtain ⟨a, vs, e, f, t, l⟩ := h
    exact ⟨a, vs, e, hf a f, t.pres (fun o q => p _ _ q (.inl f)) (fun b xs q => p _ _ q (.inr (.inl ⟨xs, rfl⟩))), ValL.mono hf p l⟩
  | .fn _, _, h => by unfold Val at h ⊢; exact h
  | .obj _ _ _, _, h => by unfold Val at h; exact h.elim
  | .box (.tup xs), v, h => by
    unfold Val at h ⊢
    obtain ⟨c, e, e2, f, t, f2, t2, l⟩ := h
    exact ⟨c, e, e2, hf _ f, p _ _ t (.inl f), hf _ f2, p _ _ t2 (.inl f2), ValL.mono hf p l⟩
  | .box .non, _, h => by unfold Val at h; exact h.elim
  | .box (.bl _), _, h => by unfold Val at h; exact h.elim
  | .box (.int _), _, h => by unfold Val at h; exact h.elim
  | .box (.str _), _, h => by unfold Val at h; exact h.elim
  | .box (.lst _), _, h => by unfold Val at h; exact h.elim
  | .box (.scr _), _, h => by unfold Val at h; exact h.elim
  | .box (.dct _ _ _), _, h => by unfold Val at h; exact h.elim
  | .box (.fn _), _, h => by unfold Val at h; exact h.elim
  | .box (.obj _ _ _), _, h => by unfold Val at h; exact h.elim
  | .box (.box _), _, h => by unfold Val at h; exact h.elim
  | .box .gone, _, h => by unfold Val at h; exact h.elim
  | .gone, _, h => by unfold Val at h; exact h.elim
theorem ValL.mono (hf : ∀ a, F a → F' a) (p : Pres F H H') : ∀ {ds : List D} {vs : List V}, ValL K H F ds vs → ValL K H' F' ds vs
  | [], _, h => h
  | d :: ds, vs, h => by
    unfold ValL at h ⊢
    obtain ⟨v, r, e, a, b⟩ := h
    exact ⟨v, r, e, Val.mono hf p a, ValL.mono hf p b⟩
end
theorem ValL.nil : ValL K H F [] [] := by unfold ValL; rfl
theorem ValL.cons {d : D} {v : V} {ds : List D} {vs : List V} (a : Val K H F d v) (b : ValL K H F ds vs) : ValL K H F (d :: ds) (v :: vs) := by
  unfold ValL; exact ⟨v, vs, rfl, a, b⟩
theorem ValL.length : ∀ {ds : List D} {vs : List V}, ValL K H F ds vs → ds.length = vs.length
  | [], _, h => by unfold ValL at h; subst h; rfl
  | d :: ds, _, h => by
    unfold ValL at h
    obtain ⟨v, r, rfl, _, b⟩ := h
    simp [b.length]
theorem ValL.append : ∀ {ds es : List D} {vs us : List V}, ValL K H F ds vs → ValL K H F es us → ValL K H F (ds ++ es) (vs ++ us)
  | [], _, _, _, h, q => by unfold ValL at h; subst h; exact q
  | d :: ds, _, _, _, h, q => by
    unfold ValL at h
    obtain ⟨v, r, rfl, a, b⟩ := h
    exact ValL.cons a (b.append q)
theorem ValL.get : ∀ {ds : List D} {vs : List V} {i : Nat} {d : D}, ValL K H F ds vs → ds[i]? = some d → ∃ v, vs[i]? = some v ∧ Val K H F d v
  | [], _, i, d, _, e => by simp at e
  | x :: ds, _, i, d, h, e => by
    unfold ValL at h
    obtain ⟨v, r, rfl, a, b⟩ := h
    cases i with
    | zero => simp at e; subst e; exact ⟨v, rfl, a⟩
    | succ i => simpa using b.get (by simpa using e)
theorem ValL.take : ∀ {ds : List D} {vs : List V} (n : Nat), ValL K H F ds vs → ValL K H F (ds.take n) (vs.take n)
  | [], _, n, h => by unfold ValL at h; subst h; simpa using ValL.nil
  | d :: ds, _, 0, h => by simpa using ValL.nil
  | d :: ds, _, n + 1, h => by
    unfold ValL at h
    obtain ⟨v, r, rfl, a, b⟩ := h
    exact ValL.cons a (b.take n)
theorem ValL.drop : ∀ {ds : List D} {vs : List V} (n : Nat), ValL K H F ds vs → ValL K H F (ds.drop n) (vs.drop n)
  | [], _, n, h => by unfold ValL at h; subst h; simpa using ValL.nil
  | d :: ds, _, 0, h => h
  | d :: ds, _, n + 1, h => by
    unfold ValL at h
    obtain ⟨v, r, rfl, a, b⟩ := h
    exact b.drop n
theorem ValL.set {d : D} {v : V} (q : Val K H F d v) : ∀ {ds : List D} {vs : List V} (i : Nat), ValL K H F ds vs → ValL K H F (ds.set i d) (vs.set i v)
  | [], _, i, h => by unfold ValL at h; subst h; simpa using ValL.nil
  | x :: ds, _, 0, h => by
    unfold ValL at h
    obtain ⟨v, r, rfl, a, b⟩ := h
    exact ValL.cons q b
  | x :: ds, _, i + 1, h => by
    unfold ValL at h
    obtain ⟨w, r, rfl, a, b⟩ := h
    exact ValL.cons a (b.set q i)
theorem ValL.reverse : ∀ {ds : List D} {vs : List V}, ValL K H F ds vs → ValL K H F ds.reverse vs.reverse
  | [], _, h => by unfold ValL at h; subst h; exact ValL.nil
  | x :: ds, _, h => by
    unfold ValL at h
    obtain ⟨v, r, rfl, a, b⟩ := h
    rw [List.reverse_cons, List.reverse_cons]
    exact b.reverse.append (ValL.cons a ValL.nil)
theorem ValL.dropLast {ds : List D} {vs : List V} (h : ValL K H F ds vs) : ValL K H F ds.dropLast vs.dropLast := by
  rw [List.dropLast_eq_take, List.dropLast_eq_take, h.length]
  exact h.take _
theorem ValL.ints : ∀ {ds : List D} {vs : List V} {ns : List Int}, ValL K H F ds vs → intsOf ds = some ns → vs = ns.map V.int
  | [], _, ns, h, e => by unfold ValL at h; simp [intsOf] at e; subst e h; rfl
  | d :: ds, _, ns, h, e => by
    unfold ValL at h
    obtain ⟨v, r, rfl, a, b⟩ := h
    cases d with
    | int i =>
      simp only [intsOf, Option.map_eq_some_iff] at e
      obtain ⟨ms, e1, rfl⟩ := e
      unfold Val at a
      rw [a, b.ints e1]; rfl
    | _ => simp [intsOf] at e
theorem ValL.bools : ∀ {ds : List D} {vs : List V} {ns : List Bool}, ValL K H F ds vs → boolsOf ds = some ns → vs = ns.map V.bl
  | [], _, ns, h, e => by unfold ValL at h; simp [boolsOf] at e; subst e h; rfl
  | d :: ds, _, ns, h, e => by
    unfold ValL at h
    obtain ⟨v, r, rfl, a, b⟩ := h
    cases d with
    | bl i =>
      simp only [boolsOf, Option.map_eq_some_iff] at e
      obtain ⟨ms, e1, rfl⟩ := e
      unfold Val at a
      rw [a, b.bools e1]; rfl
    | _ => simp [boolsOf] at e
theorem ValL.strs : ∀ {ds : List D} {vs : List V} {ns : List Str}, ValL K H F ds vs → strsOf ds = some ns → vs = ns.map V.str
  | [], _, ns, h, e => by unfold ValL at h; simp [strsOf] at e; subst e h; rfl
  | d :: ds, _, ns, h, e => by
    unfold ValL at h
    obtain ⟨v, r, rfl, a, b⟩ := h
    cases d with
    | str i =>
      simp only [strsOf, Option.map_eq_some_iff] at e
      obtain ⟨ms, e1, rfl⟩ := e
      unfold Val at a
      rw [a, b.strs e1]; rfl
    | _ => simp [strsOf] at e

/-! ### what is held apart -/
theorem LLs.cons_inv {d : D} {xs : List D} {vs : List V} {fp : List Addr} (h : LLs K H F (d :: xs) vs fp) : ∃ ys b g ws vr, d = .lst ys ∧ vs = .ref b :: vr ∧ fp = b :: g ∧ H b = some (.lst ws) ∧ ValL K H F ys ws ∧ LLs K H F xs vr g := by
  cases d with
  | lst ys =>
    unfold LLs at h
    obtain ⟨b, g, ws, vr, h⟩ := h
    exact ⟨ys, b, g, ws, vr, rfl, h⟩
  | _ => unfold LLs at h; exact h.elim
theorem LLs.cons {ys xs : List D} {b : Addr} {g : List Addr} {ws vr : List V} (h1 : H b = some (.lst ws)) (h2 : ValL K H F ys ws) (h3 : LLs K H F xs vr g) : LLs K H F (.lst ys :: xs) (.ref b :: vr) (b :: g) := by
  unfold LLs
  exact ⟨b, g, ws, vr, rfl, rfl, h1, h2, h3⟩
theorem LLs.mono (hf : ∀ a, F a → F' a) (p : Pres F H H') : ∀ {xs : List D} {vs : List V} {fp : List Addr}, LLs K H F xs vs fp → (∀ b ∈ fp, H' b = H b) → LLs K H' F' xs vs fp
  | [], _, _, h, _ => by unfold LLs at h ⊢; exact h
  | d :: xs, vs, fp, h, hk => by
    obtain ⟨ys, b, g, ws, vr, rfl, rfl, rfl, h1, h2, h3⟩ := h.cons_inv
    exact LLs.cons (by rw [hk b (by simp)]; exact h1) (h2.mono hf p) (h3.mono hf p fun c hc => hk c (List.mem_cons_of_mem _ hc))
theorem LLs.there : ∀ {xs : List D} {vs : List V} {fp : List Addr}, LLs K H F xs vs fp → ∀ b ∈ fp, ∃ ws, H b = some (.lst ws)
  | [], _, _, h, b, hb => by unfold LLs at h; rw [h.2] at hb; cases hb
  | d :: xs, vs, fp, h, b, hb => by
    obtain ⟨ys, c, g, ws, vr, rfl, rfl, rfl, h1, h2, h3⟩ := h.cons_inv
    rcases List.mem_cons.mp hb with rfl | hb
    · exact ⟨ws, h1⟩
    · exact h3.there b hb
theorem OwnD.mono {d : D} {o : Option V} {fp : List Addr} (hf : ∀ a, F a → F' a) (p : Pres F H H') (hk : ∀ a ∈ fp, H' a = H a) (h : OwnD K H F d o fp) : OwnD K H' F' d o fp := by
  cases d with
  | lst xs =>
    unfold OwnD at h ⊢
    obtain ⟨a, vs, e, ha, l, rfl⟩ := h
    exact ⟨a, vs, e, by rw [hk a (by simp)]; exact ha, l.mono hf p, rfl⟩
  | dct t ks xs =>
    unfold OwnD at h ⊢
    obtain ⟨a, vs, e, ha, l, rfl⟩ := h
    exact ⟨a, vs, e, ha.pres (fun o q => by rw [hk a (by simp)]; exact q) (fun b xs q => p _ _ q (.inr (.inl ⟨xs, rfl⟩))), l.mono hf p, rfl⟩
  | obj c ns xs =>
    unfold OwnD at h ⊢
    obtain ⟨a, e, C, dx, a1, a2, vs, hC, h1, h2, h3, l, h4, rfl⟩ := h
    exact ⟨a, e, C, dx, a1, a2, vs, hC, by rw [hk a (by simp)]; exact h1, by rw [hk dx (by simp)]; exact h2, by rw [hk a1 (by simp)]; exact h3, l.mono hf p, h4.pres (fun o q => by rw [hk a2 (by simp)]; exact q) (fun b xs q => p _ _ q (.inr (.inl ⟨xs, rfl⟩))), rfl⟩
  | box d =>
    cases d with
    | lst xs =>
      unfold OwnD at h ⊢
      obtain ⟨a, e, vs, g, h1, h2, rfl⟩ := h
      exact ⟨a, e, vs, g, by rw [hk a (by simp)]; exact h1, h2.mono hf p fun b hb => hk b (List.mem_cons_of_mem _ hb), rfl⟩
    | _ => unfold OwnD at h; exact h.elim
  | _ => unfold OwnD at h; exact h.elim
theorem Own.mono {s : Sl} {o : Option V} {fp : List Addr} (hf : ∀ a, F a → F' a) (p : Pres F H H') (hk : ∀ a ∈ fp, H' a = H a) (h : Own K H F s o fp) : Own K H' F' s o fp := by
  cases s with
  | un => exact h
  | fz d =>
    unfold Own at h ⊢
    obtain ⟨e, v, ev, q⟩ := h
    exact ⟨e, v, ev, q.mono hf p⟩
  | own d => exact OwnD.mono hf p hk h
theorem SepL.mono (hf : ∀ a, F a → F' a) (p : Pres F H H') : ∀ {ts : Things} {fp : List Addr}, (∀ a ∈ fp, H' a = H a) → SepL K H F ts fp → SepL K H' F' ts fp
  | [], _, _, h => h
  | t :: ts, fp, hk, h => by
    unfold SepL at h ⊢
    obtain ⟨f, g, rfl, a, b⟩ := h
    exact ⟨f, g, rfl, a.mono hf p fun x hx => hk x (List.mem_append_left _ hx), b.mono hf p fun x hx => hk x (List.mem_append_right _ hx)⟩
theorem OwnD.there {d : D} {o : Option V} {fp : List Addr} (h : OwnD K H F d o fp) : ∀ a ∈ fp, ∃ o, H a = some o ∧ Wr o := by
  cases d with
  | lst xs =>
    unfold OwnD at h
    obtain ⟨a, vs, e, ha, l, rfl⟩ := h
    intro b hb
    obtain rfl : b = a := by simpa using hb
    exact ⟨_, ha, trivial⟩
  | dct t ks xs =>
    unfold OwnD at h
    obtain ⟨a, vs, e, ha, l, rfl⟩ := h
    intro b hb
    obtain rfl : b = a := by simpa using hb
    exact ha.there
  | obj c ns xs =>
    unfold OwnD at h
    obtain ⟨a, e, C, dx, a1, a2, vs, hC, h1, h2, h3, l, h4, rfl⟩ := h
    intro b hb
    simp only [List.mem_cons, List.not_mem_nil, or_false] at hb
    rcases hb with rfl | rfl | rfl | rfl
    · exact ⟨_, h1, trivial⟩
    · exact ⟨_, h2, trivial⟩
    · exact ⟨_, h3, trivial⟩
    · exact h4.there
  | box d =>
    cases d with
    | lst xs =>
      unfold OwnD at h
      obtain ⟨a, e, vs, g, h1, h2, rfl⟩ := h
      intro b hb
      rcases List.mem_cons.mp hb with rfl | hb
      · exact ⟨_, h1, trivial⟩
      · obtain ⟨ws, hw⟩ := h2.there b hb
        exact ⟨_, hw, trivial⟩
    | _ => unfold OwnD at h; exact h.elim
  | _ => unfold OwnD at h; exact h.elim
theorem Own.there {s : Sl} {o : Option V} {fp : List Addr} (h : Own K H F s o fp) : ∀ a ∈ fp, ∃ o, H a = some o ∧ Wr o := by
  cases s with
  | un => unfold Own at h; subst h; simp
  | fz d => unfold Own at h; obtain ⟨rfl, _⟩ := h; simp
  | own d => exact OwnD.there h
theorem SepL.there : ∀ {ts : Things} {fp : List Addr}, SepL K H F ts fp → ∀ a ∈ fp, ∃ o, H a = some o ∧ Wr o
  | [], fp, h => by unfold SepL at h; subst h; simp
  | t :: ts, fp, h => by
    unfold SepL at h
    obtain ⟨f, g, rfl, a, b⟩ := h
    intro x hx
    rcases List.mem_append.mp hx with z | z
    · exact a.there x z
    · exact b.there x z
theorem SepL.perm {ts us : Things} (p : ts.Perm us) : ∀ {fp : List Addr}, SepL K H F ts fp → ∃ fp', SepL K H F us fp' ∧ fp.Perm fp' := by
  induction p with
  | nil => exact fun h => ⟨_, h, List.Perm.refl _⟩
  | cons t _ ih =>
    intro fp h
    unfold SepL at h
    obtain ⟨f, g, rfl, a, b⟩ := h
    obtain ⟨g', b', q⟩ := ih b
    refine ⟨f ++ g', ?_, q.append_left f⟩
    unfold SepL
    exact ⟨f, g', rfl, a, b'⟩
  | swap t u ts =>
    intro fp h
    unfold SepL at h
    obtain ⟨f, g, rfl, a, b⟩ := h
    unfold SepL at b
    obtain ⟨f2, g2, rfl, a2, b2⟩ := b
    refine ⟨f2 ++ (f ++ g2), ?_, ?_⟩
    · unfold SepL
      refine ⟨f2, f ++ g2, rfl, a2, ?_⟩
      unfold SepL
      exact ⟨f, g2, rfl, a, b2⟩
    · rw [← List.append_assoc, ← List.append_assoc]
      exact List.perm_append_comm.append_right g2
  | trans _ _ ih1 ih2 =>
    intro fp h
    obtain ⟨g, a, p⟩ := ih1 h
    obtain ⟨g', a', p'⟩ := ih2 a
    exact ⟨g', a', p.trans p'⟩
theorem Sep.perm {ts us : Things} (h : Sep K H F ts) (p : ts.Perm us) : Sep K H F us := by
  obtain ⟨a, fp, b, c, d⟩ := h
  obtain ⟨fp', b', q⟩ := b.perm p
  exact ⟨a, fp', b', q.nodup_iff.mp c, fun x hx => d x (q.mem_iff.mpr hx)⟩
theorem Sep.tail {t : Sl × Option V} {ts : Things} (h : Sep K H F (t :: ts)) : Sep K H F ts := by
  obtain ⟨a, fp, b, c, d⟩ := h
  unfold SepL at b
  obtain ⟨f, g, rfl, _, b⟩ := b
  exact ⟨a, g, b, (List.nodup_append.mp c).2.1, fun x hx => d x (List.mem_append_right _ hx)⟩
theorem Sep.right : ∀ {ts us : Things}, Sep K H F (ts ++ us) → Sep K H F us
  | [], _, h => h
  | _ :: ts, us, h => Sep.right (ts := ts) h.tail
theorem Sep.push {d : D} {v : V} {ts : Things} (h : Sep K H F ts) (q : Val K H F d v) : Sep K H F ((.fz d, some v) :: ts) := by
  obtain ⟨a, fp, b, c, e⟩ := h
  refine ⟨a, fp, ?_, c, e⟩
  unfold SepL
  refine ⟨[], fp, rfl, ?_, b⟩
  unfold Own
  exact ⟨rfl, v, rfl, q⟩
theorem Sep.val {d : D} {o : Option V} {ts : Things} (h : Sep K H F ((.fz d, o) :: ts)) : ∃ v, o = some v ∧ Val K H F d v := by
  obtain ⟨_, fp, b, _, _⟩ := h
  unfold SepL at b
  obtain ⟨f, g, _, o, _⟩ := b
  unfold Own at o
  exact o.2
theorem Sep.mem_val {d : D} {o : Option V} {ts : Things} (h : Sep K H F ts) (m : (Sl.fz d, o) ∈ ts) : ∃ v, o = some v ∧ Val K H F d v := by
  obtain ⟨us, p⟩ : ∃ us, ts.Perm ((Sl.fz d, o) :: us) := by
    obtain ⟨x, y, rfl⟩ := List.append_of_mem m
    exact ⟨x ++ y, List.perm_middle⟩
  exact (h.perm p).val
theorem Sep.head_own {xs : List D} {o : Option V} {ts : Things} (h : Sep K H F ((.own (.lst xs), o) :: ts)) : ∃ a vs, o = some (.ref a) ∧ H a = some (.lst vs) ∧ ValL K H F xs vs := by
  obtain ⟨_, fp, b, _, _⟩ := h
  unfold SepL at b
  obtain ⟨f, g, _, o, _⟩ := b
  unfold Own OwnD at o
  obtain ⟨a, vs, e, ha, l, _⟩ := o
  exact ⟨a, vs, e, ha, l⟩
theorem Sep.head_ownD {t : Nat} {ks xs : List D} {o : Option V} {ts : Things} (h : Sep K H F ((.own (.dct t ks xs), o) :: ts)) : ∃ a vs, o = some (.ref a) ∧ DAt K.w H a t ks vs ∧ ValL K H F xs vs := by
  obtain ⟨_, fp, b, _, _⟩ := h
  unfold SepL at b
  obtain ⟨f, g, _, o, _⟩ := b
  unfold Own OwnD at o
  obtain ⟨a, vs, e, ha, l, _⟩ := o
  exact ⟨a, vs, e, ha, l⟩
theorem Sep.head_obj {c : Nat} {ns : List Str} {xs : List D} {o : Option V} {ts : Things} (h : Sep K H F ((.own (.obj c ns xs), o) :: ts)) : ∃ a fp, o = some (.ref a) ∧ RowAt K H F xs a fp := by
  obtain ⟨_, fp, b, _, _⟩ := h
  unfold SepL at b
  obtain ⟨f, g, _, o, _⟩ := b
  unfold Own OwnD at o
  obtain ⟨a, e, r⟩ := o
  exact ⟨a, f, e, r⟩
theorem Sep.head_ll {xs : List D} {o : Option V} {ts : Things} (h : Sep K H F ((.own (.box (.lst xs)), o) :: ts)) : ∃ a fp, o = some (.ref a) ∧ LLAt K H F xs a fp := by
  obtain ⟨_, fp, b, _, _⟩ := h
  unfold SepL at b
  obtain ⟨f, g, _, o, _⟩ := b
  unfold Own OwnD at o
  obtain ⟨a, e, r⟩ := o
  exact ⟨a, f, e, r⟩
theorem Sep.own_con {d : D} {o : Option V} {ts : Things} (h : Sep K H F ((.own d, o) :: ts)) : (∃ xs, d = .lst xs) ∨ (∃ t ks xs, d = .dct t ks xs) ∨ (∃ c ns xs, d = .obj c ns xs) ∨ ∃ xs, d = .box (.lst xs) := by
  obtain ⟨_, fp, b, _, _⟩ := h
  unfold SepL at b
  obtain ⟨f, g, _, o, _⟩ := b
  unfold Own at o
  cases d with
  | lst xs => exact .inl ⟨xs, rfl⟩
  | dct t ks xs => exact .inr (.inl ⟨t, ks, xs, rfl⟩)
  | obj c ns xs => exact .inr (.inr (.inl ⟨c, ns, xs, rfl⟩))
  | box d =>
    cases d with
    | lst xs => exact .inr (.inr (.inr ⟨xs, rfl⟩))
    | _ => unfold OwnD at o; exact o.elim
  | _ => unfold OwnD at o; exact o.elim
theorem Sep.own_ref {d : D} {o : Option V} {ts : Things} (h : Sep K H F ((.own d, o) :: ts)) : ∃ a, o = some (.ref a) := by
  rcases h.own_con with ⟨xs, rfl⟩ | ⟨t, ks, xs, rfl⟩ | ⟨c, ns, xs, rfl⟩ | ⟨xs, rfl⟩
  · obtain ⟨a, _, e, _⟩ := h.head_own; exact ⟨a, e⟩
  · obtain ⟨a, _, e, _⟩ := h.head_ownD; exact ⟨a, e⟩
  · obtain ⟨a, _, e, _⟩ := h.head_obj; exact ⟨a, e⟩
  · obtain ⟨a, _, e, _⟩ := h.head_ll; exact ⟨a, e⟩
theorem mem_perm {t : Sl × Option V} {ts : Things} (m : t ∈ ts) : ∃ us, ts.Perm (t :: us) := by
  obtain ⟨x, y, rfl⟩ := List.append_of_mem m
  exact ⟨x ++ y, List.perm_middle⟩
theorem Pres.new {p : Addr} {o : HO} (hp : H p = none) : Pres F H (upd H p o) := fun a ob e _ => by
  rw [upd_ne (ne_of_none e hp)]; exact e
theorem SepL.new {ts : Things} {fp : List Addr} {p : Addr} {o : HO} (hf : ∀ a, F a → F' a) (hp : H p = none) (h : SepL K H F ts fp) : SepL K (upd H p o) F' ts fp :=
  h.mono hf (Pres.new hp) fun a ha => by
    obtain ⟨vs, e, _⟩ := h.there a ha
    exact upd_ne (ne_of_none e hp)
theorem tab_wr {T : List NdefX.NTab} (t : NdefX.TabsN T H) (k : ∀ b o, H b = some o → ¬ Wr o → H' b = some o) : NdefX.TabsN T H' := fun p hp => by
  obtain ⟨ps, h1, h2, h3⟩ := t p hp
  refine ⟨ps, k _ _ h1 (fun z => z), h2, fun pos cv hc => ?_⟩
  obtain ⟨c, e1, e2⟩ := h3 pos cv hc
  refine ⟨c, e1, k _ _ e2 fun z => ?_⟩
  unfold LamX.CodeO at z
  obtain ⟨w, a, es, e⟩ := z
  have := nd_ne (w := w) (a := a) (es := es) (c := c) (q := p.2 pos.line pos.col)
  unfold NDict LamX.CodeO at this
  exact this (congrArg HO.ext e.symm)
theorem Fk.wr (h : Fk K H F) (k : ∀ b o, H b = some o → (Wr o → F b) → H' b = some o) : Fk K H' F := by
  refine ⟨fun a ha => ?_, tab_wr h.2 fun b o e n => k b o e fun z => (n z).elim⟩
  obtain ⟨h1, h2⟩ := h.1 a ha
  cases e : H a with
  | none => exact (h1 e).elim
  | some o =>
    rw [k a o e fun _ => ha]
    exact ⟨fun z => (by cases z), fun ps z => h2 ps (by rw [e]; exact z)⟩
theorem Fk.ext (h : Fk K H F) (k : ∀ b o, H b = some o → H' b = some o) : Fk K H' F := h.wr fun b o e _ => k b o e
theorem Fk.new {p : Addr} {o : HO} (h : Fk K H F) (hp : H p = none) : Fk K (upd H p o) F := h.ext fun b u e => by
  rw [upd_ne (ne_of_none e hp)]; exact e
/-- a new object -/
theorem Sep.new {ts : Things} {p : Addr} {o : HO} (h : Sep K H F ts) (hp : H p = none) : Sep K (upd H p o) F ts := by
  obtain ⟨a, fp, b, c, d⟩ := h
  exact ⟨a.new hp, fp, b.new (fun _ z => z) hp, c, d⟩
theorem Sep.tupNew {ts : Things} {p : Addr} {ds : List D} {vs : List V} (h : Sep K H F ts) (hp : H p = none) (l : ValL K H F ds vs) :
    Sep K (upd H p (.tup vs)) F ts ∧ Val K (upd H p (.tup vs)) F (.tup ds) (.ref p) := by
  refine ⟨h.new hp, ?_⟩
  unfold Val
  exact ⟨p, vs, rfl, .inl (.inl upd_same), .inr upd_same, l.mono (fun _ z => z) (Pres.new hp)⟩
/-- a new container of one's own -/
theorem Sep.conNew {ts : Things} {p : Addr} {d : D} {o : HO} (h : Sep K H F ts) (hp : H p = none) (q : OwnD K (upd H p o) F d (some (.ref p)) [p]) : Sep K (upd H p o) F ((.own d, some (.ref p)) :: ts) := by
  obtain ⟨a, fp, b, c, e⟩ := h
  refine ⟨a.new hp, p :: fp, ?_, ?_, fun x hx => ?_⟩
  · unfold SepL
    exact ⟨[p], fp, rfl, q, b.new (fun _ z => z) hp⟩
  · refine List.nodup_cons.mpr ⟨fun m => ?_, c⟩
    obtain ⟨us, e, _⟩ := b.there p m
    rw [hp] at e; cases e
  · rcases List.mem_cons.mp hx with rfl | hx
    · exact fun z => (a.1 _ z).1 hp
    · exact e x hx
theorem Sep.lstNew {ts : Things} {p : Addr} {ds : List D} {vs : List V} (h : Sep K H F ts) (hp : H p = none) (l : ValL K H F ds vs) :
    Sep K (upd H p (.lst vs)) F ((.own (.lst ds), some (.ref p)) :: ts) := by
  refine h.conNew hp ?_
  unfold OwnD
  exact ⟨p, vs, rfl, upd_same, l.mono (fun _ z => z) (Pres.new hp), rfl⟩
theorem Sep.dctNew0 {ts : Things} {p : Addr} (h : Sep K H F ts) (hp : H p = none) : Sep K (upd H p (.dK [])) F ((.own (.dct 0 [] []), some (.ref p)) :: ts) := by
  refine h.conNew hp ?_
  unfold OwnD
  exact ⟨p, [], rfl, ⟨rfl, [], rfl, upd_same⟩, ValL.nil, rfl⟩
theorem Sep.dctNew1 {ts : Things} {p : Addr} (h : Sep K H F ts) (hp : H p = none) : Sep K (upd H p (.dT [])) F ((.own (.dct 1 [] []), some (.ref p)) :: ts) := by
  refine h.conNew hp ?_
  unfold OwnD
  exact ⟨p, [], rfl, ⟨rfl, [], rfl, upd_same⟩, ValL.nil, rfl⟩
/-- what a slot held alone is shared from now on -/
theorem Sep.freeze {ts : Things} {d : D} {o : Option V} (h : Sep K H F ((.own d, o) :: ts)) (hcon : isCon d = true) : ∃ F' v, o = some v ∧ (∀ a, F a → F' a) ∧ Sep K H F' ts ∧ Val K H F' d v := by
  have hc := h.own_con
  obtain ⟨t, fp, b, c, e⟩ := h
  unfold SepL at b
  obtain ⟨f, g, rfl, ow, b⟩ := b
  have pr : Pres F H H := fun _ _ e _ => e
  have key : ∀ a, f = [a] → (H a ≠ none ∧ ∀ ps, H a ≠ some (.tbl ps)) → Sep K H (fun x => F x ∨ x = a) ts := fun a hfa ha => by
    subst hfa
    refine ⟨⟨fun x hx => ?_, t.2⟩, g, b.mono (fun _ z => .inl z) pr fun _ _ => rfl, (List.nodup_append.mp c).2.1, fun x hx => ?_⟩
    · rcases hx with hx | rfl
      · exact t.1 x hx
      · exact ha
    · rintro (z | rfl)
      · exact e x (List.mem_append_right _ hx) z
      · exact (List.nodup_append.mp c).2.2 x (by simp) x hx rfl
  rcases hc with ⟨xs, rfl⟩ | ⟨tt, ks, xs, rfl⟩ | ⟨_, _, _, rfl⟩ | ⟨_, rfl⟩
  · unfold Own OwnD at ow
    obtain ⟨a, vs, rfl, ha, l, rfl⟩ := ow
    refine ⟨fun x => F x ∨ x = a, .ref a, rfl, fun _ z => .inl z, key a rfl ⟨by rw [ha]; simp, fun ps z => by rw [ha] at z; cases z⟩, ?_⟩
    unfold Val
    exact ⟨a, vs, rfl, .inr rfl, ha, l.mono (fun _ z => .inl z) pr⟩
  · unfold Own OwnD at ow
    obtain ⟨a, vs, rfl, ha, l, rfl⟩ := ow
    obtain ⟨_, ha', wr⟩ := ha.there
    refine ⟨fun x => F x ∨ x = a, .ref a, rfl, fun _ z => .inl z, key a rfl ⟨by rw [ha']; simp, fun ps z => by rw [ha'] at z; cases z; exact wr⟩, ?_⟩
    unfold Val
    exact ⟨a, vs, rfl, .inr rfl, ha, l.mono (fun _ z => .inl z) pr⟩
  · cases hcon
  · cases hcon
/-- a container that a slot holds alone is changed -/
theorem Sep.writeD {ts : Things} {d d' : D} {a : Addr} {o : HO} (h : Sep K H F ((.own d, some (.ref a)) :: ts)) (q : Sep K H F ((.own d, some (.ref a)) :: ts) → Pres F H (upd H a o) → OwnD K (upd H a o) F d' (some (.ref a)) [a]) (hcon : isCon d = true := by rfl) :
    Sep K (upd H a o) F ((.own d', some (.ref a)) :: ts) := by
  have h0 := h
  have hc := h.own_con
  obtain ⟨t, fp, b, c, e⟩ := h
  unfold SepL at b
  obtain ⟨f, g, rfl, ow, b⟩ := b
  obtain ⟨hfa, ha⟩ : f = [a] ∧ ∃ o, H a = some o ∧ Wr o := by
    rcases hc with ⟨xs, rfl⟩ | ⟨tt, ks, xs, rfl⟩ | ⟨_, _, _, rfl⟩ | ⟨_, rfl⟩
    rotate_left 2
    · cases hcon
    · cases hcon
    · unfold Own OwnD at ow
      obtain ⟨a', vs', e1, ha', l', rfl⟩ := ow
      cases e1
      exact ⟨rfl, _, ha', trivial⟩
    · unfold Own OwnD at ow
      obtain ⟨a', vs', e1, ha', l', rfl⟩ := ow
      cases e1
      exact ⟨rfl, ha'.there⟩
  subst hfa
  obtain ⟨o0, ha', wr⟩ := ha
  have na : ¬ F a := e a (by simp)
  have pr : Pres F H (upd H a o) := fun x o2 q2 z => by
    by_cases ex : x = a
    · subst ex
      rw [ha'] at q2; cases q2
      rcases z with z | ⟨_, z⟩ | ⟨_, _, z⟩
      · exact (na z).elim
      · subst z; exact wr.elim
      · subst z; exact wr.elim
    · rw [upd_ne ex]; exact q2
  refine ⟨t.wr fun b u hb hw => ?_, [a] ++ g, ?_, c, e⟩
  · by_cases ex : b = a
    · subst ex
      rw [ha'] at hb; cases hb
      exact (na (hw wr)).elim
    · rw [upd_ne ex]; exact hb
  · unfold SepL
    refine ⟨[a], g, rfl, q h0 pr, b.mono (fun _ z => z) pr fun x hx => upd_ne fun z => ?_⟩
    subst z
    exact (List.nodup_append.mp c).2.2 x (by simp) x hx rfl
theorem Sep.write {ts : Things} {xs ys : List D} {a : Addr} {vs : List V} (h : Sep K H F ((.own (.lst xs), some (.ref a)) :: ts)) (l : ValL K H F ys vs) :
    Sep K (upd H a (.lst vs)) F ((.own (.lst ys), some (.ref a)) :: ts) :=
  h.writeD fun _ pr => by
    unfold OwnD
    exact ⟨a, vs, rfl, upd_same, l.mono (fun _ z => z) pr, rfl⟩

/-- what a slot holds alone is changed, at its own places -/
theorem Sep.change {ts : Things} {d d' : D} {o : Option V} {H' : Hp} (h : Sep K H F ((.own d, o) :: ts)) (q : ∀ f, OwnD K H F d o f → f.Nodup → (∀ b, b ∉ f → H' b = H b) ∧ (Pres F H H' → OwnD K H' F d' o f)) : Sep K H' F ((.own d', o) :: ts) := by
  obtain ⟨t, fp, b, c, e⟩ := h
  unfold SepL at b
  obtain ⟨f, g, rfl, ow, b⟩ := b
  have ow : OwnD K H F d o f := ow
  have hn := List.nodup_append.mp c
  obtain ⟨k1, k2⟩ := q f ow hn.1
  have pr : Pres F H H' := fun x o2 q2 z => by
    by_cases ex : x ∈ f
    · obtain ⟨o3, e3, wr⟩ := OwnD.there ow x ex
      rw [q2] at e3; cases e3
      rcases z with z | ⟨_, z⟩ | ⟨_, _, z⟩
      · exact (e x (List.mem_append_left _ ex) z).elim
      · subst z; exact wr.elim
      · subst z; exact wr.elim
    · rw [k1 x ex]; exact q2
  refine ⟨t.wr fun x u hx hw => ?_, f ++ g, ?_, c, e⟩
  · by_cases ex : x ∈ f
    · obtain ⟨o3, e3, wr⟩ := OwnD.there ow x ex
      rw [hx] at e3; cases e3
      exact (e x (List.mem_append_left _ ex) (hw wr)).elim
    · rw [k1 x ex]; exact hx
  · unfold SepL
    exact ⟨f, g, rfl, k2 pr, b.mono (fun _ z => z) pr fun x hx => k1 x fun m => hn.2.2 x m x hx rfl⟩
/-- a new thing of one's own, at several new places -/
theorem Sep.conNewL {ts : Things} {d : D} {o : Option V} {H' : Hp} {f : List Addr} (h : Sep K H F ts) (hk : ∀ b o, H b = some o → H' b = some o) (hf : ∀ a ∈ f, H a = none) (hn : f.Nodup) (q : OwnD K H' F d o f) : Sep K H' F ((.own d, o) :: ts) := by
  obtain ⟨a, fp, b, c, e⟩ := h
  refine ⟨a.ext hk, f ++ fp, ?_, ?_, fun x hx => ?_⟩
  · unfold SepL
    exact ⟨f, fp, rfl, q, b.mono (fun _ z => z) (fun x o e _ => hk x o e) fun x hx => by
      obtain ⟨o2, e2, _⟩ := b.there x hx
      rw [e2, hk x o2 e2]⟩
  · refine List.nodup_append.mpr ⟨hn, c, fun x hx y hy e => ?_⟩
    subst e
    obtain ⟨o2, e2, _⟩ := b.there x hy
    rw [hf x hx] at e2; cases e2
  · rcases List.mem_append.mp hx with hx | hx
    · exact fun z => (a.1 _ z).1 (hf x hx)
    · exact e x hx

/-! ### what may be looked at: shared data, or a slot's own container -/
def Bor (K : Wd) (H : Hp) (F : Addr → Prop) (d : D) (v : V) : Prop :=
  Val K H F d v ∨ (∃ xs a vs, d = .lst xs ∧ v = .ref a ∧ H a = some (.lst vs) ∧ ValL K H F xs vs) ∨ (∃ t ks xs a vs, d = .dct t ks xs ∧ v = .ref a ∧ DAt K.w H a t ks vs ∧ ValL K H F xs vs) ∨
    (∃ c ns xs a fp, d = .obj c ns xs ∧ v = .ref a ∧ RowAt K H F xs a fp) ∨ ∃ xs a fp, d = .box (.lst xs) ∧ v = .ref a ∧ LLAt K H F xs a fp
theorem Val.bor {d : D} {v : V} (h : Val K H F d v) : Bor K H F d v := .inl h
theorem Bor.val {d : D} {v : V} (h : Bor K H F d v) (n : ∀ xs, d ≠ .lst xs) (n2 : ∀ t ks xs, d ≠ .dct t ks xs) (n3 : ∀ c ns xs, d ≠ .obj c ns xs := by intro _ _ _ z; cases z) (n4 : ∀ xs, d ≠ .box (.lst xs) := by intro _ z; cases z) : Val K H F d v := by
  rcases h with h | ⟨xs, _, _, e, _⟩ | ⟨t, ks, xs, _, _, e, _⟩ | ⟨c, ns, xs, _, _, e, _⟩ | ⟨xs, _, _, e, _⟩
  · exact h
  · exact (n xs e).elim
  · exact (n2 t ks xs e).elim
  · exact (n3 c ns xs e).elim
  · exact (n4 xs e).elim
theorem Bor.lstH {xs : List D} {v : V} (h : Bor K H F (.lst xs) v) : ∃ a vs, v = .ref a ∧ H a = some (.lst vs) ∧ ValL K H F xs vs := by
  rcases h with h | ⟨ys, a, vs, e, ev, ha, l⟩ | ⟨t, ks, xs, _, _, e, _⟩ | ⟨_, _, _, _, _, e, _⟩ | ⟨_, _, _, e, _⟩
  · unfold Val at h
    obtain ⟨a, vs, e, _, r, l⟩ := h
    exact ⟨a, vs, e, r, l⟩
  · cases e
    exact ⟨a, vs, ev, ha, l⟩
  · cases e
  · cases e
  · cases e
theorem Bor.obj {c : Nat} {ns : List Str} {xs : List D} {v : V} (h : Bor K H F (.obj c ns xs) v) : ∃ a fp, v = .ref a ∧ RowAt K H F xs a fp := by
  rcases h with h | ⟨ys, a, vs, e, ev, ha, l⟩ | ⟨t, ks, xs, _, _, e, _⟩ | ⟨c, ns, xs, a, fp, e, ev, r⟩ | ⟨_, _, _, e, _⟩
  · unfold Val at h
    exact h.elim
  · cases e
  · cases e
  · cases e
    exact ⟨a, fp, ev, r⟩
  · cases e
theorem Bor.ll {xs : List D} {v : V} (h : Bor K H F (.box (.lst xs)) v) : ∃ a fp, v = .ref a ∧ LLAt K H F xs a fp := by
  rcases h with h | ⟨ys, a, vs, e, ev, ha, l⟩ | ⟨t, ks, xs, _, _, e, _⟩ | ⟨c, ns, xs, a, fp, e, ev, r⟩ | ⟨xs, a, fp, e, ev, r⟩
  · unfold Val at h
    exact h.elim
  · cases e
  · cases e
  · cases e
  · cases e
    exact ⟨a, fp, ev, r⟩
theorem ValL.ofInts (K : Wd) (H : Hp) (F : Addr → Prop) : ∀ ns : List Int, ValL K H F (ns.map D.int) (ns.map V.int)
  | [] => ValL.nil
  | n :: ns => ValL.cons (by unfold Val; rfl) (ValL.ofInts K H F ns)
theorem Bor.lst {xs : List D} {v : V} (h : Bor K H F (.lst xs) v) : ∃ a vs, v = .ref a ∧ Rd H a (.lst vs) ∧ ValL K H F xs vs := by
  obtain ⟨a, vs, e, r, l⟩ := h.lstH
  exact ⟨a, vs, e, .inl r, l⟩
theorem Bor.dct {t : Nat} {ks xs : List D} {v : V} (h : Bor K H F (.dct t ks xs) v) : ∃ a vs, v = .ref a ∧ DAt K.w H a t ks vs ∧ ValL K H F xs vs := by
  rcases h with h | ⟨ys, a, vs, e, ev, ha, l⟩ | ⟨t, ks, xs, a, vs, e, ev, ha, l⟩ | ⟨_, _, _, _, _, e, _⟩ | ⟨_, _, _, e, _⟩
  · unfold Val at h
    obtain ⟨a, vs, e, _, r, l⟩ := h
    exact ⟨a, vs, e, r, l⟩
  · cases e
  · cases e
    exact ⟨a, vs, ev, ha, l⟩
  · cases e
  · cases e
theorem Bor.scr {ns : List Int} {v : V} (h : Bor K H F (.scr ns) v) : ∃ a, v = .ref a ∧ SqL K.K H a (ns.map V.int) ∧ ValL K H F (ns.map D.int) (ns.map V.int) := by
  have h := h.val (by intro _ z; cases z) (by intro _ _ _ z; cases z)
  unfold Val at h
  obtain ⟨a, e, ⟨_, r⟩ | r⟩ := h
  · exact ⟨a, e, .inl r, ValL.ofInts K H F ns⟩
  · exact ⟨a, e, r H, ValL.ofInts K H F ns⟩
theorem Bor.tupC {xs : List D} {v : V} (h : Bor K H F (.tup xs) v) : ∃ a vs, v = .ref a ∧ SqT K.K H a vs ∧ (isCst xs = true ∨ H a = some (.tup vs)) ∧ ValL K H F xs vs := by
  have h := h.val (by intro _ z; cases z) (by intro _ _ _ z; cases z)
  unfold Val at h
  exact h
theorem Bor.tup {xs : List D} {v : V} (h : Bor K H F (.tup xs) v) : ∃ a vs, v = .ref a ∧ SqT K.K H a vs ∧ ValL K H F xs vs := by
  obtain ⟨a, vs, e, t, _, l⟩ := h.tupC
  exact ⟨a, vs, e, t, l⟩
theorem Bor.int {i : Int} {v : V} (h : Bor K H F (.int i) v) : v = .int i := by
  have h := h.val (by intro _ z; cases z) (by intro _ _ _ z; cases z)
  unfold Val at h; exact h
theorem Bor.bl {i : Bool} {v : V} (h : Bor K H F (.bl i) v) : v = .bl i := by
  have h := h.val (by intro _ z; cases z) (by intro _ _ _ z; cases z)
  unfold Val at h; exact h
theorem Bor.str {i : Str} {v : V} (h : Bor K H F (.str i) v) : v = .str i := by
  have h := h.val (by intro _ z; cases z) (by intro _ _ _ z; cases z)
  unfold Val at h; exact h
theorem Bor.non {v : V} (h : Bor K H F .non v) : v = .non := by
  have h := h.val (by intro _ z; cases z) (by intro _ _ _ z; cases z)
  unfold Val at h; exact h
theorem val_int {i : Int} : Val K H F (.int i) (.int i) := by unfold Val; rfl
theorem val_bl {i : Bool} : Val K H F (.bl i) (.bl i) := by unfold Val; rfl
theorem val_str {i : Str} : Val K H F (.str i) (.str i) := by unfold Val; rfl
theorem val_non : Val K H F .non .non := by unfold Val; rfl
theorem Sep.own_bor {d : D} {o : Option V} {ts : Things} (h : Sep K H F ((.own d, o) :: ts)) : ∃ v, o = some v ∧ Bor K H F d v := by
  rcases h.own_con with ⟨xs, rfl⟩ | ⟨t, ks, xs, rfl⟩ | ⟨c, ns, xs, rfl⟩ | ⟨xs, rfl⟩
  · obtain ⟨a, vs, rfl, ha, l⟩ := h.head_own
    exact ⟨_, rfl, .inr (.inl ⟨xs, a, vs, rfl, rfl, ha, l⟩)⟩
  · obtain ⟨a, vs, rfl, ha, l⟩ := h.head_ownD
    exact ⟨_, rfl, .inr (.inr (.inl ⟨t, ks, xs, a, vs, rfl, rfl, ha, l⟩))⟩
  · obtain ⟨a, fp, rfl, r⟩ := h.head_obj
    exact ⟨_, rfl, .inr (.inr (.inr (.inl ⟨c, ns, xs, a, fp, rfl, rfl, r⟩)))⟩
  · obtain ⟨a, fp, rfl, r⟩ := h.head_ll
    exact ⟨_, rfl, .inr (.inr (.inr (.inr ⟨xs, a, fp, rfl, rfl, r⟩)))⟩
theorem Sep.mem_own {d : D} {o : Option V} {ts : Things} (h : Sep K H F ts) (m : (Sl.own d, o) ∈ ts) : ∃ v, o = some v ∧ Bor K H F d v := by
  obtain ⟨us, p⟩ := mem_perm m
  exact (h.perm p).own_bor

/-! ### the slots -/
abbrev zp (ρ : Rho) (σ : L2.St) : Things := List.zip ρ σ
theorem zp_mem {ρ : Rho} {σ : L2.St} {i : Nat} {s : Sl} {o : Option V} (a : ρ[i]? = some s) (b : σ[i]? = some o) : (s, o) ∈ zp ρ σ := by
  refine List.mem_of_getElem? (i := i) ?_
  rw [List.getElem?_zip_eq_some]
  exact ⟨a, b⟩
theorem zp_set : ∀ {ρ : Rho} {σ : L2.St} {i : Nat} {s : Sl} {o : Option V}, zp (ρ.set i s) (σ.set i o) = (zp ρ σ).set i (s, o)
  | [], _, _, _, _ => by simp [zp]
  | _ :: _, [], _, _, _ => by simp [zp]
  | x :: ρ, y :: σ, 0, _, _ => by simp [zp]
  | x :: ρ, y :: σ, i + 1, _, _ => by simpa [zp] using zp_set (ρ := ρ) (σ := σ) (i := i)
theorem set_perm {α : Type} {x : α} : ∀ {l : List α} {i : Nat}, i < l.length → (l.set i x).Perm (x :: l.eraseIdx i)
  | [], i, h => by simp at h
  | y :: l, 0, _ => List.Perm.refl _
  | y :: l, i + 1, h => by
    simp only [List.set_cons_succ, List.eraseIdx_cons_succ]
    exact (List.Perm.cons y (set_perm (by simpa using h))).trans (List.Perm.swap _ _ _)
theorem get_perm {α : Type} {x : α} : ∀ {l : List α} {i : Nat}, l[i]? = some x → l.Perm (x :: l.eraseIdx i)
  | [], i, h => by simp at h
  | y :: l, 0, h => by simp at h; subst h; exact List.Perm.refl _
  | y :: l, i + 1, h => by
    simp only [List.eraseIdx_cons_succ]
    exact (List.Perm.cons y (get_perm (by simpa using h))).trans (List.Perm.swap _ _ _)
/-- a slot's thing taken away -/
theorem Sep.take {ts rest : Things} {i : Nat} {t : Sl × Option V} (h : Sep K H F (ts ++ rest)) (e : ts[i]? = some t) : Sep K H F (t :: (ts.eraseIdx i ++ rest)) :=
  h.perm ((get_perm e).append_right rest)
/-- a slot given another thing -/
theorem Sep.put {ts rest : Things} {i : Nat} {t : Sl × Option V} (h : Sep K H F (t :: (ts.eraseIdx i ++ rest))) (hi : i < ts.length) : Sep K H F (ts.set i t ++ rest) :=
  h.perm ((set_perm hi).symm.append_right rest)
theorem Sep.drop1 {ts rest : Things} {i : Nat} {t : Sl × Option V} (h : Sep K H F (t :: (ts ++ rest))) (hi : i < ts.length) : Sep K H F (t :: (ts.eraseIdx i ++ rest)) := by
  have e : ts[i]? = some ts[i] := List.getElem?_eq_getElem hi
  have p : (t :: (ts ++ rest)).Perm (ts[i] :: t :: (ts.eraseIdx i ++ rest)) :=
    (List.Perm.cons t ((get_perm e).append_right rest)).trans (List.Perm.swap _ _ _)
  exact (h.perm p).tail
theorem Sep.setSlot {ρ : Rho} {σ : L2.St} {rest : Things} {i : Nat} {s : Sl} {o : Option V} (h : Sep K H F ((s, o) :: (zp ρ σ ++ rest))) (h1 : i < ρ.length) (h2 : i < σ.length) : Sep K H F (zp (ρ.set i s) (σ.set i o) ++ rest) := by
  rw [zp_set]
  have hi : i < (zp ρ σ).length := by simp [zp]; omega
  exact (h.drop1 hi).put hi
end
end Bk

/-! BL2: own lists within an own list. -/
namespace Bk
open PySem PySem.Spec PyProof.Rows L2
section
variable {K : Wd} {H H' : Hp} {F F' : Addr → Prop}
theorem LLs.len : ∀ {xs : List D} {vs : List V} {fp : List Addr}, LLs K H F xs vs fp → vs.length = xs.length
  | [], _, _, h => by unfold LLs at h; rw [h.1]; rfl
  | d :: xs, vs, fp, h => by
    obtain ⟨ys, b, g, ws, vr, rfl, rfl, rfl, h1, h2, h3⟩ := h.cons_inv
    rw [List.length_cons, List.length_cons, h3.len]
theorem LLs.get : ∀ {xs : List D} {vs : List V} {fp : List Addr} {i : Nat} {ys : List D}, LLs K H F xs vs fp → xs[i]? = some (.lst ys) → ∃ b ws, vs[i]? = some (.ref b) ∧ b ∈ fp ∧ H b = some (.lst ws) ∧ ValL K H F ys ws
  | [], _, _, _, _, h, e => by cases e
  | d :: xs, vs, fp, i, ys, h, e => by
    obtain ⟨zs, b, g, ws, vr, rfl, rfl, rfl, h1, h2, h3⟩ := h.cons_inv
    cases i with
    | zero =>
      cases e
      exact ⟨b, ws, rfl, List.mem_cons_self, h1, h2⟩
    | succ i =>
      obtain ⟨c, us, e1, e2, e3, e4⟩ := h3.get (i := i) e
      exact ⟨c, us, e1, List.mem_cons_of_mem _ e2, e3, e4⟩
theorem LLs.put {b : Addr} {ys' : List D} {ws' : List V} (p : Pres F H H') (hb : H' b = some (.lst ws')) (l : ValL K H' F ys' ws') : ∀ {xs : List D} {vs : List V} {fp : List Addr} {i : Nat}, LLs K H F xs vs fp → fp.Nodup → vs[i]? = some (.ref b) → (∀ c ∈ fp, c ≠ b → H' c = H c) → LLs K H' F (xs.set i (.lst ys')) vs fp
  | [], _, _, _, h, _, e, _ => by unfold LLs at h; rw [h.1] at e; cases e
  | d :: xs, vs, fp, i, h, nd, e, k => by
    obtain ⟨zs, c, g, ws, vr, rfl, rfl, rfl, h1, h2, h3⟩ := h.cons_inv
    have nd2 := List.nodup_cons.mp nd
    cases i with
    | zero =>
      cases e
      exact LLs.cons hb l (h3.mono (fun _ z => z) p fun x hx => k x (List.mem_cons_of_mem _ hx) fun z => nd2.1 (z ▸ hx))
    | succ i =>
      have e : vr[i]? = some (.ref b) := e
      have cb : c ≠ b := fun z => by
        have hm : b ∈ g := by
          clear k nd2 nd h2 h1 h
          have : ∀ {xs : List D} {vs : List V} {g : List Addr} {i : Nat}, LLs K H F xs vs g → vs[i]? = some (.ref b) → b ∈ g := by
            intro xs
            induction xs with
            | nil => intro vs g i h e; unfold LLs at h; rw [h.1] at e; cases e
            | cons d xs ih =>
              intro vs g i h e
              obtain ⟨zs, c, g, ws, vr, rfl, rfl, rfl, h1, h2, h3⟩ := h.cons_inv
              cases i with
              | zero => cases e; exact List.mem_cons_self
              | succ i => exact List.mem_cons_of_mem _ (ih h3 (i := i) e)
          exact this h3 e
        exact nd2.1 (z ▸ hm)
      show LLs K H' F (.lst zs :: xs.set i (.lst ys')) _ _
      exact LLs.cons (by rw [k c (by simp) cb]; exact h1) (h2.mono (fun _ z => z) p) (LLs.put p hb l h3 nd2.2 e fun x hx => k x (List.mem_cons_of_mem _ hx))
theorem LLs.snoc {ys : List D} {b : Addr} {ws : List V} (h1 : H b = some (.lst ws)) (h2 : ValL K H F ys ws) : ∀ {xs : List D} {vs : List V} {fp : List Addr}, LLs K H F xs vs fp → LLs K H F (xs ++ [.lst ys]) (vs ++ [.ref b]) (fp ++ [b])
  | [], vs, fp, h => by
    unfold LLs at h
    rw [h.1, h.2]
    exact LLs.cons h1 h2 (by unfold LLs; exact ⟨rfl, rfl⟩)
  | d :: xs, vs, fp, h => by
    obtain ⟨zs, c, g, us, vr, rfl, rfl, rfl, k1, k2, k3⟩ := h.cons_inv
    exact LLs.cons k1 k2 (LLs.snoc h1 h2 k3)
theorem LLs.val (hf : ∀ a, F a → F' a) : ∀ {xs : List D} {vs : List V} {fp : List Addr}, LLs K H F xs vs fp → (∀ b ∈ fp, F' b) → ValL K H F' xs vs
  | [], vs, fp, h, _ => by
    unfold LLs at h
    rw [h.1]
    exact ValL.nil
  | d :: xs, vs, fp, h, k => by
    obtain ⟨zs, c, g, us, vr, rfl, rfl, rfl, k1, k2, k3⟩ := h.cons_inv
    refine ValL.cons ?_ (k3.val hf fun b hb => k b (List.mem_cons_of_mem _ hb))
    unfold Val
    exact ⟨c, us, rfl, k c (by simp), k1, k2.mono hf fun _ _ e _ => e⟩
/-- all of it is shared from now on -/
theorem Sep.llFreeze {ts : Things} {xs : List D} {o : Option V} (h : Sep K H F ((.own (.box (.lst xs)), o) :: ts)) : ∃ F' v, o = some v ∧ (∀ a, F a → F' a) ∧ Sep K H F' ts ∧ Val K H F' (.lst xs) v := by
  obtain ⟨t, fp, b, c, e⟩ := h
  unfold SepL at b
  obtain ⟨f, g, rfl, ow, b⟩ := b
  have th := Own.there ow
  unfold Own OwnD at ow
  obtain ⟨a, rfl, vs, g1, h1, h2, rfl⟩ := ow
  have pr : Pres F H H := fun _ _ e _ => e
  have hn := List.nodup_append.mp c
  refine ⟨fun x => F x ∨ x ∈ a :: g1, .ref a, rfl, fun _ z => .inl z, ⟨⟨fun x hx => ?_, t.2⟩, g, b.mono (fun _ z => .inl z) pr fun _ _ => rfl, hn.2.1, fun x hx => ?_⟩, ?_⟩
  · rcases hx with hx | hx
    · exact t.1 x hx
    · obtain ⟨o, ho, wr⟩ := th x hx
      exact ⟨by rw [ho]; simp, fun ps z => by rw [ho] at z; cases z; exact wr⟩
  · rintro (z | z)
    · exact e x (List.mem_append_right _ hx) z
    · exact hn.2.2 x z x hx rfl
  · unfold Val
    exact ⟨a, vs, rfl, .inr (by simp), h1, h2.val (fun _ z => .inl z) fun b hb => .inr (List.mem_cons_of_mem _ hb)⟩
/-- what lies within -/
theorem Sep.llAt {ts : Things} {xs : List D} {a : Addr} (h : Sep K H F ((.own (.box (.lst xs)), some (.ref a)) :: ts)) : ∃ vs, H a = some (.lst vs) ∧ vs.length = xs.length ∧ ∀ (i : Nat) (ys : List D), xs[i]? = some (.lst ys) → ∃ b ws, vs[i]? = some (.ref b) ∧ H b = some (.lst ws) ∧ ValL K H F ys ws ∧
    ∀ (j : Nat) (d : D) (v : V), Val K H F d v → Sep K (upd H b (.lst (ws.set j v))) F ((.own (.box (.lst (xs.set i (.lst (ys.set j d))))), some (.ref a)) :: ts) := by
  obtain ⟨a', fp, e, vs, g, h1, h2, h3⟩ := h.head_ll
  cases e
  refine ⟨vs, h1, h2.len, fun i ys hi => ?_⟩
  obtain ⟨b, ws, e1, e2, e3, e4⟩ := h2.get hi
  refine ⟨b, ws, e1, e3, e4, fun j d v hv => h.change fun f ow hn => ?_⟩
  unfold OwnD at ow
  obtain ⟨a2, ea, vs2, g2, k1, k2, rfl⟩ := ow
  cases ea
  rw [h1] at k1
  cases k1
  have nd := List.nodup_cons.mp hn
  obtain ⟨b2, ws2, f1, f2, f3, f4⟩ := k2.get hi
  rw [e1] at f1
  cases f1
  have ab : a ≠ b := fun z => nd.1 (z ▸ f2)
  refine ⟨fun c hc => upd_ne fun z => hc (z ▸ List.mem_cons_of_mem _ f2), fun pr => ?_⟩
  unfold OwnD
  refine ⟨a, rfl, vs, g2, by rw [upd_ne ab]; exact h1, LLs.put pr upd_same ?_ k2 nd.2 e1 fun c _ hc => upd_ne hc, rfl⟩
  exact ValL.set (hv.mono (fun _ z => z) pr) j (e4.mono (fun _ z => z) pr)
/-- a list of one's own is put behind the others -/
theorem Sep.llApp {ts : Things} {xs ys : List D} {a b : Addr} (h : Sep K H F ((.own (.box (.lst xs)), some (.ref a)) :: (.own (.lst ys), some (.ref b)) :: ts)) : ∃ vs, H a = some (.lst vs) ∧ vs.length = xs.length ∧ Sep K (upd H a (.lst (vs ++ [.ref b]))) F ((.own (.box (.lst (xs ++ [.lst ys]))), some (.ref a)) :: ts) := by
  obtain ⟨t, fp, b0, c, e⟩ := h
  unfold SepL at b0
  obtain ⟨f, g, rfl, ow, b0⟩ := b0
  unfold SepL at b0
  obtain ⟨f2, g2, rfl, ow2, b1⟩ := b0
  unfold Own OwnD at ow ow2
  obtain ⟨a', ea, vs, g1, h1, h2, rfl⟩ := ow
  cases ea
  obtain ⟨b', ws, eb, k1, k2, rfl⟩ := ow2
  cases eb
  have hn := List.nodup_append.mp c
  have nd1 := List.nodup_cons.mp hn.1
  have ab : a ≠ b := hn.2.2 a (by simp) b (by simp)
  have na : ¬ F a := e a (by simp)
  have pr : Pres F H (upd H a (.lst (vs ++ [.ref b]))) := fun x o2 q2 z => by
    by_cases ex : x = a
    · subst ex
      rw [h1] at q2; cases q2
      rcases z with z | ⟨_, z⟩ | ⟨_, _, z⟩
      · exact (na z).elim
      · cases z
      · cases z
    · rw [upd_ne ex]; exact q2
  refine ⟨vs, h1, h2.len, t.wr fun x u hx hw => ?_, (a :: (g1 ++ [b])) ++ g2, ?_, by simpa [List.append_assoc] using c, fun x hx => e x (by simpa [List.append_assoc] using hx)⟩
  · by_cases ex : x = a
    · subst ex
      rw [h1] at hx; cases hx
      exact (na (hw trivial)).elim
    · rw [upd_ne ex]; exact hx
  · unfold SepL
    refine ⟨a :: (g1 ++ [b]), g2, rfl, ?_, b1.mono (fun _ z => z) pr fun x hx => upd_ne fun z => ?_⟩
    · unfold Own OwnD
      refine ⟨a, rfl, vs ++ [.ref b], g1 ++ [b], upd_same, LLs.snoc (by rw [upd_ne ab.symm]; exact k1) (k2.mono (fun _ z => z) pr) (h2.mono (fun _ z => z) pr fun x hx => upd_ne fun z => nd1.1 (z ▸ hx)), rfl⟩
    · subst z
      exact hn.2.2 x (by simp) x (List.mem_append_right _ hx) rfl
/-- what lies within becomes another list, whatever its entries -/
theorem Sep.llPutAll {ts : Things} {xs : List D} {a : Addr} (h : Sep K H F ((.own (.box (.lst xs)), some (.ref a)) :: ts)) : ∃ vs, H a = some (.lst vs) ∧ vs.length = xs.length ∧ ∀ (i : Nat) (ys : List D), xs[i]? = some (.lst ys) → ∃ b ws, vs[i]? = some (.ref b) ∧ H b = some (.lst ws) ∧ ValL K H F ys ws ∧
    ∀ (ys' : List D) (ws' : List V), ValL K H F ys' ws' → Sep K (upd H b (.lst ws')) F ((.own (.box (.lst (xs.set i (.lst ys')))), some (.ref a)) :: ts) := by
  obtain ⟨a', fp, e, vs, g, h1, h2, h3⟩ := h.head_ll
  cases e
  refine ⟨vs, h1, h2.len, fun i ys hi => ?_⟩
  obtain ⟨b, ws, e1, e2, e3, e4⟩ := h2.get hi
  refine ⟨b, ws, e1, e3, e4, fun ys' ws' hv => h.change fun f ow hn => ?_⟩
  unfold OwnD at ow
  obtain ⟨a2, ea, vs2, g2, k1, k2, rfl⟩ := ow
  cases ea
  rw [h1] at k1
  cases k1
  have nd := List.nodup_cons.mp hn
  obtain ⟨b2, ws2, f1, f2, f3, f4⟩ := k2.get hi
  rw [e1] at f1
  cases f1
  have ab : a ≠ b := fun z => nd.1 (z ▸ f2)
  refine ⟨fun c hc => upd_ne fun z => hc (z ▸ List.mem_cons_of_mem _ f2), fun pr => ?_⟩
  unfold OwnD
  exact ⟨a, rfl, vs, g2, by rw [upd_ne ab]; exact h1, LLs.put pr upd_same (hv.mono (fun _ z => z) pr) k2 nd.2 e1 fun c _ hc => upd_ne hc, rfl⟩
theorem LLs.rep {ys : List D} {b : Addr} {ws : List V} (h1 : H b = some (.lst ws)) (h2 : ValL K H F ys ws) : ∀ {xs : List D} {vs : List V} {fp : List Addr} (i : Nat), LLs K H F xs vs fp → LLs K H F (xs.set i (.lst ys)) (vs.set i (.ref b)) (fp.set i b)
  | [], vs, fp, i, h => by
    unfold LLs at h
    rw [h.1, h.2]
    unfold LLs
    exact ⟨rfl, rfl⟩
  | d :: xs, vs, fp, i, h => by
    obtain ⟨zs, c, g, us, vr, rfl, rfl, rfl, k1, k2, k3⟩ := h.cons_inv
    cases i with
    | zero => exact LLs.cons h1 h2 k3
    | succ i => exact LLs.cons k1 k2 (LLs.rep h1 h2 i k3)
theorem nodup_put {b : Addr} : ∀ {l : List Addr} (i : Nat), l.Nodup → b ∉ l → (l.set i b).Nodup
  | [], _, _, _ => List.nodup_nil
  | a :: l, 0, h, n => List.nodup_cons.mpr ⟨fun z => n (List.mem_cons_of_mem _ z), (List.nodup_cons.mp h).2⟩
  | a :: l, i + 1, h, n => by
    have h' := List.nodup_cons.mp h
    refine List.nodup_cons.mpr ⟨fun z => ?_, nodup_put i h'.2 fun z => n (List.mem_cons_of_mem _ z)⟩
    rcases List.mem_or_eq_of_mem_set z with z | z
    · exact h'.1 z
    · exact n (z ▸ List.mem_cons_self)
/-- a list of one's own takes the place of one within -/
theorem Sep.llRep {ts : Things} {xs ys : List D} {a b : Addr} (i : Nat) (h : Sep K H F ((.own (.box (.lst xs)), some (.ref a)) :: (.own (.lst ys), some (.ref b)) :: ts)) : ∃ vs, H a = some (.lst vs) ∧ vs.length = xs.length ∧ Sep K (upd H a (.lst (vs.set i (.ref b)))) F ((.own (.box (.lst (xs.set i (.lst ys)))), some (.ref a)) :: ts) := by
  obtain ⟨t, fp, b0, c, e⟩ := h
  unfold SepL at b0
  obtain ⟨f, g, rfl, ow, b0⟩ := b0
  unfold SepL at b0
  obtain ⟨f2, g2, rfl, ow2, b1⟩ := b0
  unfold Own OwnD at ow ow2
  obtain ⟨a', ea, vs, g1, h1, h2, rfl⟩ := ow
  cases ea
  obtain ⟨b', ws, eb, k1, k2, rfl⟩ := ow2
  cases eb
  have hn := List.nodup_append.mp c
  have nd1 := List.nodup_cons.mp hn.1
  have nd2 := List.nodup_append.mp hn.2.1
  have ab : a ≠ b := hn.2.2 a (by simp) b (by simp)
  have bg : b ∉ g1 := fun z => hn.2.2 b (List.mem_cons_of_mem _ z) b (by simp) rfl
  have na : ¬ F a := e a (by simp)
  have pr : Pres F H (upd H a (.lst (vs.set i (.ref b)))) := fun x o2 q2 z => by
    by_cases ex : x = a
    · subst ex
      rw [h1] at q2; cases q2
      rcases z with z | ⟨_, z⟩ | ⟨_, _, z⟩
      · exact (na z).elim
      · cases z
      · cases z
    · rw [upd_ne ex]; exact q2
  have mem : ∀ x, x ∈ a :: g1.set i b → x ∈ (a :: g1) ++ ([b] ++ g2) := fun x hx => by
    rcases List.mem_cons.mp hx with rfl | hx
    · simp
    · rcases List.mem_or_eq_of_mem_set hx with hx | rfl
      · simp [hx]
      · simp
  have mem2 : ∀ x, x ∈ (a :: g1.set i b) ++ g2 → x ∈ (a :: g1) ++ ([b] ++ g2) := fun x hx => by
    rcases List.mem_append.mp hx with hx | hx
    · exact mem x hx
    · simp [hx]
  refine ⟨vs, h1, h2.len, t.wr fun x u hx hw => ?_, (a :: g1.set i b) ++ g2, ?_, ?_, fun x hx => e x (mem2 x hx)⟩
  · by_cases ex : x = a
    · subst ex
      rw [h1] at hx; cases hx
      exact (na (hw trivial)).elim
    · rw [upd_ne ex]; exact hx
  · unfold SepL
    refine ⟨a :: g1.set i b, g2, rfl, ?_, b1.mono (fun _ z => z) pr fun x hx => upd_ne fun z => ?_⟩
    · unfold Own OwnD
      refine ⟨a, rfl, vs.set i (.ref b), g1.set i b, upd_same, LLs.rep (by rw [upd_ne ab.symm]; exact k1) (k2.mono (fun _ z => z) pr) i (h2.mono (fun _ z => z) pr fun x hx => upd_ne fun z => nd1.1 (z ▸ hx)), rfl⟩
    · subst z
      exact hn.2.2 x (by simp) x (List.mem_append_right _ hx) rfl
  · refine List.nodup_append.mpr ⟨List.nodup_cons.mpr ⟨fun z => ?_, nodup_put i nd1.2 bg⟩, nd2.2.1, fun x hx y hy => ?_⟩
    · rcases List.mem_or_eq_of_mem_set z with z | z
      · exact nd1.1 z
      · exact ab z
    · rcases List.mem_cons.mp hx with rfl | hx
      · exact hn.2.2 _ (by simp) y (List.mem_append_right _ hy)
      · rcases List.mem_or_eq_of_mem_set hx with hx | rfl
        · exact hn.2.2 _ (List.mem_cons_of_mem _ hx) y (List.mem_append_right _ hy)
        · exact nd2.2.2 _ (by simp) y hy
theorem Sep.llNew {ts : Things} {p : Addr} (h : Sep K H F ts) (hp : H p = none) : Sep K (upd H p (.lst [])) F ((.own (.box (.lst [])), some (.ref p)) :: ts) := by
  refine h.conNew hp ?_
  unfold OwnD
  exact ⟨p, rfl, [], [], upd_same, by unfold LLs; exact ⟨rfl, rfl⟩, rfl⟩
end
end Bk

/-! B3: the operations on data, by the library's rules on values. -/
namespace Bk
open PySem PySem.Spec PyProof.Rows L2

/-- where the defs and the classes stand -/
structure Wo where
  fa : Nat → Addr
  ca : Nat → Addr
  xc : Nat → Value
  cf : Option Clo
  T : List NdefX.NTab
abbrev wd (E : Wo) (X : Cx) : Wd := ⟨X.K, E.fa, E.ca, E.xc, E.cf, E.T, X.w⟩
/-- what is wanted of a value: shared data, or (o) a container of one's own -/
def PQ (o : Bool) (K : Wd) (ts : Things) (d : D) (Q : VK) : Prop :=
  if o && isCon d then ∀ v H F, Sep K H F ((.own d, some v) :: ts) → Q v H else ∀ v H F, Sep K H F ts → Val K H F d v → Q v H
abbrev PF (K : Wd) (ts : Things) (d : D) (Q : VK) : Prop := ∀ v H F, Sep K H F ts → Val K H F d v → Q v H

section
variable {K : Wd} {H : Hp} {F : Addr → Prop} {ts : Things} {Q : VK} {o : Bool}
theorem PQ.fz {d : D} (h : PQ false K ts d Q) : PF K ts d Q := h
theorem PQ.mk {d : D} (h : PF K ts d Q) : PQ false K ts d Q := h
theorem PQ.own {d : D} {v : V} (h : PQ o K ts d Q) (hc : isCon d = true) (s : Sep K H F ((.own d, some v) :: ts)) : Q v H := by
  cases o with
  | true =>
    unfold PQ at h
    rw [hc] at h
    exact h v H F s
  | false =>
    obtain ⟨F', w, e, _, s', q⟩ := s.freeze hc
    cases e
    exact h _ _ _ s' q
theorem PQ.lstNew {ds : List D} {vs : List V} (h : PQ o K ts (.lst ds) Q) (s : Sep K H F ts) (l : ValL K H F ds vs) : ∀ p, H p = none → Q (.ref p) (upd H p (.lst vs)) := fun p hp => h.own rfl (s.lstNew hp l)
theorem PQ.nl {d : D} (h : PQ o K ts d Q) (n : isCon d = false) : PF K ts d Q := by
  cases o with
  | false => exact h
  | true =>
    unfold PQ at h
    rw [n] at h
    exact h
theorem PQ.int {i : Int} (h : PQ o K ts (.int i) Q) (s : Sep K H F ts) : Q (.int i) H := (h.nl rfl) _ _ _ s val_int
theorem PQ.bl {i : Bool} (h : PQ o K ts (.bl i) Q) (s : Sep K H F ts) : Q (.bl i) H := (h.nl rfl) _ _ _ s val_bl
theorem PQ.str {i : Str} (h : PQ o K ts (.str i) Q) (s : Sep K H F ts) : Q (.str i) H := (h.nl rfl) _ _ _ s val_str
theorem PQ.tupNew {ds : List D} {vs : List V} (h : PQ o K ts (.tup ds) Q) (s : Sep K H F ts) (l : ValL K H F ds vs) : ∀ p, H p = none → Q (.ref p) (upd H p (.tup vs)) := fun p hp =>
  let n := s.tupNew hp l
  (h.nl rfl) _ _ _ n.1 n.2
end

def Bors (K : Wd) (H : Hp) (F : Addr → Prop) : List D → List V → Prop
  | [], vs => vs = []
  | d :: ds, vs => ∃ v r, vs = v :: r ∧ Bor K H F d v ∧ Bors K H F ds r
/-- an operation's reading, by its data -/
def rP (K : Wd) (o : Bool) (p : Prim) : List V → Hp → VK → Prop := fun vs H Q =>
  ∃ F ts ds d, Sep K H F ts ∧ Bors K H F ds vs ∧ evPrim p ds = .ok d ∧ PQ o K ts d Q
/-- .. where the things are laid into something new -/
def rS (K : Wd) (o : Bool) (p : Prim) : List V → Hp → VK → Prop := fun vs H Q =>
  ∃ F ts ds d, Sep K H F ts ∧ ValL K H F ds vs ∧ evPrim p ds = .ok d ∧ PQ o K ts d Q

section
variable {K : Wd} {H : Hp} {F : Addr → Prop}
theorem Bors.b1 {d : D} {vs : List V} (h : Bors K H F [d] vs) : ∃ v, vs = [v] ∧ Bor K H F d v := by
  obtain ⟨v, r, rfl, b, e⟩ := h
  exact ⟨v, by rw [show r = [] from e], b⟩
theorem Bors.b2 {d e : D} {vs : List V} (h : Bors K H F [d, e] vs) : ∃ v w, vs = [v, w] ∧ Bor K H F d v ∧ Bor K H F e w := by
  obtain ⟨v, r, rfl, b, c⟩ := h
  obtain ⟨w, rfl, c2⟩ := Bors.b1 (show Bors K H F [e] r from c)
  exact ⟨v, w, rfl, b, c2⟩
theorem Bors.b3 {d e f : D} {vs : List V} (h : Bors K H F [d, e, f] vs) : ∃ v w u, vs = [v, w, u] ∧ Bor K H F d v ∧ Bor K H F e w ∧ Bor K H F f u := by
  obtain ⟨v, r, rfl, b, c⟩ := h
  obtain ⟨w, u, rfl, c2, e2⟩ := Bors.b2 (show Bors K H F [e, f] r from c)
  exact ⟨v, w, u, rfl, b, c2, e2⟩
theorem okIf_ok {c : Bool} {d e : D} (h : okIf c d = .ok e) : c = true ∧ e = d := by
  cases c with
  | true => exact ⟨rfl, by cases h; rfl⟩
  | false => cases h
theorem ofOpt_ok {x : Option D} {e : D} (h : ofOpt x = .ok e) : x = some e := by
  cases x with
  | some d => cases h; rfl
  | none => cases h
theorem bind_ok' {α β : Type} {r : R α} {f : α → R β} {b : β} (h : r.bind f = .ok b) : ∃ a, r = .ok a ∧ f a = .ok b := by
  cases r with
  | ok a => exact ⟨a, rfl, h⟩
  | stuck => cases h
theorem notR_ok {r : R D} {d : D} (h : notR r = .ok d) : ∃ k, r = .ok (.bl k) ∧ d = .bl (!k) := by
  obtain ⟨a, e, h⟩ := bind_ok' h
  cases a with
  | bl k => exact ⟨k, e, by cases h; rfl⟩
  | _ => cases h
theorem evInt2_ok {f : Int → Int → R D} {ds : List D} {d : D} (h : evInt2 f ds = .ok d) : ∃ a b, ds = [.int a, .int b] ∧ f a b = .ok d := by
  unfold evInt2 at h
  split at h
  · exact ⟨_, _, rfl, h⟩
  · cases h
theorem evAdd_ok {ds : List D} {d : D} (h : evAdd ds = .ok d) : (∃ a b, ds = [.int a, .int b] ∧ d = .int (a + b)) ∨ (∃ a b, ds = [.str a, .str b] ∧ a.length + b.length ≤ sizeLine ∧ d = .str (a ++ b)) ∨
    (∃ a b, ds = [.tup a, .tup b] ∧ a.length + b.length ≤ sizeLine ∧ d = .tup (a ++ b)) ∨ (∃ a b, ds = [.lst a, .lst b] ∧ a.length + b.length ≤ sizeLine ∧ d = .lst (a ++ b)) ∨ (∃ a b, ds = [.scr a, .lst b] ∧ a.length + b.length ≤ sizeLine ∧ d = .lst (a.map D.int ++ b)) ∨ (∃ a b, ds = [.lst a, .scr b] ∧ a.length + b.length ≤ sizeLine ∧ d = .lst (a ++ b.map D.int)) := by
  unfold evAdd at h
  split at h
  · cases h; exact .inl ⟨_, _, rfl, rfl⟩
  · obtain ⟨c, rfl⟩ := okIf_ok h; exact .inr (.inl ⟨_, _, rfl, of_decide_eq_true c, rfl⟩)
  · obtain ⟨c, rfl⟩ := okIf_ok h; exact .inr (.inr (.inl ⟨_, _, rfl, of_decide_eq_true c, rfl⟩))
  · obtain ⟨c, rfl⟩ := okIf_ok h; exact .inr (.inr (.inr (.inl ⟨_, _, rfl, of_decide_eq_true c, rfl⟩)))
  · obtain ⟨c, rfl⟩ := okIf_ok h; exact .inr (.inr (.inr (.inr (.inl ⟨_, _, rfl, of_decide_eq_true c, rfl⟩))))
  · obtain ⟨c, rfl⟩ := okIf_ok h; exact .inr (.inr (.inr (.inr (.inr ⟨_, _, rfl, of_decide_eq_true c, rfl⟩))))
  · cases h
end

theorem SqL.rd {K : PySem.W.Frag} {H : Hp} {a : Addr} {xs : List V} (h : Rd H a (.lst xs)) : SqL K H a xs := .inl h
section
variable {E : Wo} {X : Cx} {o : Bool}
abbrev r2 (K : Wd) (o : Bool) (p : Prim) : R2 := fun x y H Q => rP K o p [x, y] H Q
theorem opInt2 {p : Prim} {f : Value → Value → Sem Value} {g : Int → Int → R D} (he : ∀ ds, evPrim p ds = evInt2 g ds)
    (rule : ∀ (i j : Int) (d : D) (pins : List (Addr × Obj)) (s : Shared) (σ : L2.St) (H : Hp) (F : Addr → Prop) (ts : Things) (v u : Value) (Q : VK), g i j = .ok d → Inv X pins σ H s → RelV (.int i) v → RelV (.int j) u → Sep (wd E X) H F ts → PQ o (wd E X) ts d Q →
      wpAny (model X.prog X.w) X.A (f v u) (EP X pins σ Q) X.xe s) : OpR X f (r2 (wd E X) o p) := by
  intro pins s σ H x y v u Q I rx ry h
  obtain ⟨F, ts, ds, d, hs, hb, he', hq⟩ := h
  rw [he] at he'
  obtain ⟨a, b, rfl, e⟩ := evInt2_ok he'
  obtain ⟨_, _, e2, b1, b2⟩ := hb.b2
  cases e2
  cases b1.int; cases b2.int
  exact rule a b d pins s σ H F ts v u Q e I rx ry hs hq

theorem o_sub : OpR X (binaryOp .Sub) (r2 (wd E X) o .sub) := opInt2 (fun _ => rfl) fun i j d pins s σ H F ts v u Q e I rx ry hs hq => by
  cases e
  exact op_sub pins s σ H _ _ v u Q I rx ry ⟨i, j, rfl, rfl, hq.int hs⟩
theorem mulOk_of {z : Str} {k : Int} (h1 : z.length ≤ 1000) (h2 : -1000 ≤ k) (h3 : k ≤ 4000) : MulOk z k := by
  refine ⟨?_, fun h _ => ?_, fun h _ => ?_⟩
  · rw [decide_eq_false (by omega), decide_eq_false (by omega)]; rfl
  · have hk : 0 < k := by omega
    have : (z.length : Int) * k ≤ 1000 * 4000 := Int.mul_le_mul (by omega) h3 (by omega) (by omega)
    have := Int.le_ediv_of_mul_le hk (show (z.length : Int) * k ≤ 2 ^ 63 - 1 by omega)
    omega
  · have : z.length * k.toNat ≤ 1000 * 4000 := Nat.mul_le_mul h1 (by omega)
    have h4 : (1000 * 4000 : Nat) ≤ sizeLine := by decide
    exact decide_eq_false (by omega)
theorem op_mul_str : OpR X (binaryOp .Mult) (fun x y H Q => ∃ z k, x = .str z ∧ y = .int k ∧ MulOk z k ∧ Q (.str (Txt.mul z k)) H) := by
  intro pins s σ H x y v u Q I rx ry h
  obtain ⟨z, k, rfl, rfl, hz, q⟩ := h
  obtain ⟨t, rfl⟩ := rx
  obtain ⟨t', rfl⟩ := ry
  exact SB.mul hz (fun t' tk => ⟨.str (Txt.mul z k), H, I.tok _, ⟨_, rfl⟩, q⟩)
theorem ValL.nil_iff {K : Wd} {H : Hp} {F : Addr → Prop} {ds : List D} {vs : List V} (h : ValL K H F ds vs) : ds = [] ↔ vs = [] := by
  have := h.length
  constructor
  · rintro rfl; exact List.eq_nil_of_length_eq_zero this.symm
  · rintro rfl; exact List.eq_nil_of_length_eq_zero this
theorem ValL.reps {K : Wd} {H : Hp} {F : Addr → Prop} {ds : List D} {vs : List V} (h : ValL K H F ds vs) : ∀ n : Nat, ValL K H F (List.replicate n ds).flatten (List.replicate n vs).flatten
  | 0 => ValL.nil
  | n + 1 => by
    rw [List.replicate_succ, List.replicate_succ, List.flatten_cons, List.flatten_cons]
    exact h.append (ValL.reps h n)
set_option maxHeartbeats 4000000 in
theorem tuple_mul1 (l : Addr) (items : Array Value) (n : Nat) (dd : Option Addr) (sl : Array (Option Value)) (x : Int) (u : Tok) (c0 : (decide (x < -(2 ^ 63)) || decide (x ≥ 2 ^ 63)) = false) (c1 : (items.isEmpty || x == 1) = true) :
    Meets (Builtin.«tuple.__mul__» ⟨[.ref l, .int x u], []⟩) (fun _ R s => s.heap.get? l = some { cls := .type "tuple", dict := dd, data := .seq items n, slots := sl } ∧ R (.ok (.ret (Value.ref l))) s) :=
  .of_wp fun prog w A R s h => by
    obtain ⟨hp, g, d, tk, os⟩ := s
    obtain ⟨hl, h⟩ := h
    have f1 := AutoSeq1.idx_int
    wp_walk using wpAny_loadPart' hl
    repeat (first
      | (refine wpAny_ite_false (decide_eq_false (by rw [c0]; exact Bool.false_ne_true)) ?_; wp_walk using wpAny_loadPart' hl)
      | (refine wpAny_ite_true (decide_eq_true c1) ?_; wp_walk using wpAny_loadPart' hl))
    exact ⟨_, rfl, h⟩
set_option maxHeartbeats 4000000 in
theorem tuple_mul0 (l : Addr) (items : Array Value) (n : Nat) (dd : Option Addr) (sl : Array (Option Value)) (x : Int) (u : Tok) (c0 : (decide (x < -(2 ^ 63)) || decide (x ≥ 2 ^ 63)) = false) (c1 : (items.isEmpty || x == 1) = false) (c2 : (decide (x ≤ 0) || items.isEmpty) = true) :
    Meets (Builtin.«tuple.__mul__» ⟨[.ref l, .int x u], []⟩) (fun _ R s => s.heap.get? l = some { cls := .type "tuple", dict := dd, data := .seq items n, slots := sl } ∧
      R (.ok (.ret (Value.ref s.heap.objs.size))) { s with heap := s.heap.push { cls := Value.type "tuple", data := Data.seq #[] }, toks := s.toks }) :=
  .of_wp fun prog w A R s h => by
    obtain ⟨hp, g, d, tk, os⟩ := s
    obtain ⟨hl, h⟩ := h
    have f1 := AutoSeq1.idx_int
    wp_walk using wpAny_loadPart' hl
    repeat (first
      | (refine wpAny_ite_false (decide_eq_false (by rw [c0]; exact Bool.false_ne_true)) ?_; wp_walk using wpAny_loadPart' hl)
      | (refine wpAny_ite_false (decide_eq_false (by rw [c1]; exact Bool.false_ne_true)) ?_; wp_walk using wpAny_loadPart' hl)
      | (refine wpAny_ite_true (decide_eq_true c2) ?_; wp_walk using wpAny_loadPart' hl))
    exact ⟨_, rfl, h⟩
/-- a tuple times a number -/
def rMulT (K : PySem.W.Frag) : R2 := fun x y H Q => ∃ l k xs, x = .ref l ∧ y = .int k ∧ SqT K H l xs ∧ -1000 ≤ k ∧ k ≤ 1000 ∧ xs.length ≤ 1000 ∧ ((xs = [] ∨ k = 1) → Q (.ref l) H) ∧ (xs ≠ [] → k ≠ 1 → ∀ p, H p = none → Q (.ref p) (upd H p (.tup (List.replicate k.toNat xs).flatten)))
theorem op_mulT : OpR X (binaryOp .Mult) (rMulT X.K) := by
  intro pins s σ H x y v u Q I rx ry h
  obtain ⟨l, k, xs, rfl, rfl, hT, h0, h2, hz, q1, q2⟩ := h
  by_cases hk : xs ≠ [] ∧ 2 ≤ k
  · exact op_repT pins s σ H _ _ v u Q I rx ry ⟨l, k, xs, rfl, rfl, hT, hk.1, hk.2, h2, hz, q2 hk.1 (by omega)⟩
  cases rx
  obtain ⟨t, rfl⟩ := ry
  obtain ⟨its, r, ⟨⟨cls, dd, data, sl⟩, ho, hc, n, hd⟩, hs⟩ := I.tuple hT
  simp only at hc hd
  subst hc hd
  have hle : its.length = xs.length := r.length.symm
  have c0 : (decide (k < -(2 ^ 63)) || decide (k ≥ 2 ^ 63)) = false := by
    rw [decide_eq_false (by omega), decide_eq_false (by omega)] <;> rfl
  have hem : its.toArray.isEmpty = true ↔ xs = [] := by
    rw [Array.isEmpty_iff]
    constructor
    · intro e
      have : its = [] := by simpa using e
      rw [this] at hle
      exact List.eq_nil_of_length_eq_zero hle.symm
    · intro e
      rw [e] at hle
      rw [List.eq_nil_of_length_eq_zero hle]
  by_cases c : xs = [] ∨ k = 1
  · have c1 : (its.toArray.isEmpty || k == 1) = true := by
      rcases c with c | c
      · rw [hem.mpr c]; rfl
      · rw [c]; simp
    exact wpAny_binaryOp_repeat_ref (T := "tuple") (U := "int") (by decide) ⟨_, ho, rfl⟩ (fun s' => typeIs_int s' k t) noFill_tuple_mul F.fills_int_mul F.slot_int_rmul repeat_tuple F.slot_int_index.lookup
      (call_meets F.slot_int_rmul (typeIs_int s k t) F.entry_int_rmul (F.args_int_rmul_2 _ _) (int_rmul_tuple k t l its.toArray n dd sl)
        ⟨ho, rfl, ⟨_, ho, rfl⟩, call_meets F.slot_tuple_mul ⟨_, ho, rfl⟩ F.entry_tuple_mul (F.args_tuple_mul_2 _ _) (tuple_mul1 l its.toArray n dd sl k t c0 c1) ⟨ho, .ref l, H, I, rfl, q1 c⟩⟩)
  · have n1 : xs ≠ [] := fun e => c (.inl e)
    have n2 : k ≠ 1 := fun e => c (.inr e)
    have hk0 : k ≤ 0 := by
      have : ¬ 2 ≤ k := fun e => hk ⟨n1, e⟩
      omega
    have e1 : its.toArray.isEmpty = false := by
      cases z : its.toArray.isEmpty with
      | false => rfl
      | true => exact absurd (hem.mp z) n1
    have c1 : (its.toArray.isEmpty || k == 1) = false := by
      rw [e1, Bool.false_or]
      exact beq_eq_false_iff_ne.mpr n2
    have c2 : (decide (k ≤ 0) || its.toArray.isEmpty) = true := by rw [decide_eq_true hk0]; rfl
    have e0 : (List.replicate k.toNat xs).flatten = [] := by rw [show k.toNat = 0 by omega]; rfl
    have q3 := q2 n1 n2
    rw [e0] at q3
    refine wpAny_binaryOp_repeat_ref (T := "tuple") (U := "int") (by decide) ⟨_, ho, rfl⟩ (fun s' => typeIs_int s' k t) noFill_tuple_mul F.fills_int_mul F.slot_int_rmul repeat_tuple F.slot_int_index.lookup
      (call_meets F.slot_int_rmul (typeIs_int s k t) F.entry_int_rmul (F.args_int_rmul_2 _ _) (int_rmul_tuple k t l its.toArray n dd sl)
        ⟨ho, rfl, ⟨_, ho, rfl⟩, call_meets F.slot_tuple_mul ⟨_, ho, rfl⟩ F.entry_tuple_mul (F.args_tuple_mul_2 _ _) (tuple_mul0 l its.toArray n dd sl k t c0 c1 c2) ⟨ho, ?_⟩⟩)
    refine ⟨.ref s.heap.objs.size, _, I.laid (t' := s.toks) (o := .tup []) (fun b ob q => Heap.get?_push_of_some _ q) (Nat.le_refl _) ?_, rfl, q3 _ (I.hok.fresh (Nat.le_refl _))⟩
    exact ⟨by decide, [], .nil, IsTup.new _ _⟩
/-- times a number of few bits -/
theorem op_mulR : OpR X (binaryOp .Mult) (rI (fun _ j => j.natAbs < 2 ^ 60) fun i j => .int (i * j)) := opI fun i j _ _ _ _ _ hc q => mul_int q (IntMulOk.of_right (by
  have h1 := PySem.Flt.log2_lt_of (show 0 < 60 by decide) hc
  unfold Builtin.Int.intBits
  split <;> omega))
theorem o_mul : OpR X (binaryOp .Mult) (r2 (wd E X) o .mul) := by
  intro pins s σ H x y v u Q I rx ry h
  obtain ⟨F, ts, ds, d, hs, hb, he, hq⟩ := h
  have he : evMul ds = .ok d := he
  unfold evMul at he
  split at he
  · obtain ⟨c, rfl⟩ := okIf_ok he
    obtain ⟨_, _, e2, b1, b2⟩ := hb.b2
    cases e2; cases b1.int; cases b2.int
    rcases Bool.or_eq_true_iff.mp c with c | c
    case inr => exact op_mulR pins s σ H _ _ v u Q I rx ry ⟨_, _, rfl, rfl, of_decide_eq_true c, hq.int hs⟩
    obtain ⟨c1, c2⟩ := Bool.and_eq_true_iff.mp c
    exact op_mulW pins s σ H _ _ v u Q I rx ry ⟨_, _, rfl, rfl, wide_mul (of_decide_eq_true c1) (of_decide_eq_true c2) (by decide) (by decide) (by decide), hq.int hs⟩
  · obtain ⟨c, rfl⟩ := okIf_ok he
    obtain ⟨c, c3⟩ := Bool.and_eq_true_iff.mp c
    obtain ⟨c1, c2⟩ := Bool.and_eq_true_iff.mp c
    obtain ⟨_, _, e2, b1, b2⟩ := hb.b2
    cases e2; cases b1.str; cases b2.int
    exact op_mul_str pins s σ H _ _ v u Q I rx ry ⟨_, _, rfl, rfl, mulOk_of (of_decide_eq_true c1) (of_decide_eq_true c2) (of_decide_eq_true c3), hq.str hs⟩
  · rename_i xs k he0
    obtain ⟨c, rfl⟩ := okIf_ok he
    obtain ⟨c, c3⟩ := Bool.and_eq_true_iff.mp c
    obtain ⟨c1, c2⟩ := Bool.and_eq_true_iff.mp c
    have c1 := of_decide_eq_true c1
    have c2 := of_decide_eq_true c2
    have c3 := of_decide_eq_true c3
    obtain ⟨_, _, e2, b1, b2⟩ := hb.b2
    cases e2; cases b2.int
    obtain ⟨p, vs, rfl, t1, l1⟩ := b1.lstH
    have n1 := l1.length
    refine op_rep pins s σ H _ _ v u Q I rx ry ⟨p, _, vs, rfl, rfl, t1, by omega, by omega, ?_, hq.lstNew hs (ValL.reps l1 _)⟩
    have : vs.length * k.toNat ≤ 1000 * 1000 := Nat.mul_le_mul (by omega) (by omega)
    exact Nat.le_trans this (by decide)
  · rename_i xs k he0
    obtain ⟨c, rfl⟩ := okIf_ok he
    obtain ⟨c, c3⟩ := Bool.and_eq_true_iff.mp c
    obtain ⟨c1, c2⟩ := Bool.and_eq_true_iff.mp c
    have c1 := of_decide_eq_true c1
    have c2 := of_decide_eq_true c2
    have c3 := of_decide_eq_true c3
    obtain ⟨_, _, e2, b1, b2⟩ := hb.b2
    cases e2; cases b2.int
    obtain ⟨p, vs, rfl, t1, cc, l1⟩ := b1.tupC
    have n1 := l1.length
    refine op_mulT pins s σ H _ _ v u Q I rx ry ⟨p, _, vs, rfl, rfl, t1, c2, c3, by omega, fun z => ?_, fun z1 z2 => hq.tupNew hs (ValL.reps l1 _)⟩
    have e : (List.replicate k.toNat xs).flatten = xs := by
      rcases z with z | z
      · have : xs = [] := l1.nil_iff.mpr z
        subst this
        exact List.flatten_replicate_nil
      · subst z; simp
    rw [e] at hq
    exact (hq.nl rfl) _ _ _ hs (by unfold Val; exact ⟨p, vs, rfl, t1, cc, l1⟩)
  · cases he
theorem o_fdiv : OpR X (binaryOp .FloorDiv) (r2 (wd E X) o .fdiv) := opInt2 (fun _ => rfl) fun i j d pins s σ H F ts v u Q e I rx ry hs hq => by
  obtain ⟨c, rfl⟩ := okIf_ok e
  obtain ⟨c1, c2⟩ := Bool.and_eq_true_iff.mp c
  exact op_fdivW pins s σ H _ _ v u Q I rx ry ⟨i, j, rfl, rfl, wide_div (of_decide_eq_true c1) (of_decide_eq_true c2) (by decide) (by decide), hq.int hs⟩
theorem o_mod : OpR X (binaryOp .Mod) (r2 (wd E X) o .mod) := opInt2 (fun _ => rfl) fun i j d pins s σ H F ts v u Q e I rx ry hs hq => by
  obtain ⟨c, rfl⟩ := okIf_ok e
  exact op_mod pins s σ H _ _ v u Q I rx ry ⟨i, j, rfl, rfl, of_decide_eq_true c, hq.int hs⟩
theorem o_pow : OpR X (binaryOp .Pow) (r2 (wd E X) o .pow) := opInt2 (fun _ => rfl) fun i j d pins s σ H F ts v u Q e I rx ry hs hq => by
  obtain ⟨c, rfl⟩ := okIf_ok e
  obtain ⟨c, c3⟩ := Bool.and_eq_true_iff.mp c
  obtain ⟨c1, c2⟩ := Bool.and_eq_true_iff.mp c
  have h2 : j ≤ 100000 := of_decide_eq_true c2
  exact op_pow pins s σ H _ _ v u Q I rx ry ⟨i, j, rfl, rfl, ⟨of_decide_eq_true c1, by omega, of_decide_eq_true c3⟩, hq.int hs⟩
theorem o_lt : OpR X (compareOp .Lt) (r2 (wd E X) o .lt) := opInt2 (fun _ => rfl) fun i j d pins s σ H F ts v u Q e I rx ry hs hq => by
  cases e
  exact op_lt pins s σ H _ _ v u Q I rx ry ⟨i, j, rfl, rfl, hq.bl hs⟩
theorem o_le : OpR X (compareOp .LtE) (r2 (wd E X) o .le) := opInt2 (fun _ => rfl) fun i j d pins s σ H F ts v u Q e I rx ry hs hq => by
  cases e
  exact op_le pins s σ H _ _ v u Q I rx ry ⟨i, j, rfl, rfl, hq.bl hs⟩
theorem o_gt : OpR X (compareOp .Gt) (r2 (wd E X) o .gt) := opInt2 (fun _ => rfl) fun i j d pins s σ H F ts v u Q e I rx ry hs hq => by
  cases e
  exact op_gt pins s σ H _ _ v u Q I rx ry ⟨i, j, rfl, rfl, hq.bl hs⟩
theorem o_ge : OpR X (compareOp .GtE) (r2 (wd E X) o .ge) := opInt2 (fun _ => rfl) fun i j d pins s σ H F ts v u Q e I rx ry hs hq => by
  cases e
  exact op_ge pins s σ H _ _ v u Q I rx ry ⟨i, j, rfl, rfl, hq.bl hs⟩

/-- list + list, either of them also one that is locked -/
def rCatL (K : PySem.W.Frag) : R2 := fun x y H Q => ∃ l b xs zs, x = .ref l ∧ y = .ref b ∧ SqL K H l xs ∧ SqL K H b zs ∧ xs.length + zs.length ≤ sizeLine ∧ ∀ p, H p = none → Q (.ref p) (upd H p (.lst (xs ++ zs)))
theorem op_catL : OpR X (binaryOp .Add) (rCatL X.K) := by
  intro pins s σ H x y v u Q I rx ry h
  obtain ⟨l, b, xs, zs, rfl, rfl, hH, hB, hz, q⟩ := h
  cases rx
  cases ry
  obtain ⟨its, r, ⟨o1, n, e, hc, hd, hs⟩, hl⟩ := I.list hH
  obtain ⟨its2, r2, ⟨o2, n2, e2, hc2, hd2, hs2⟩, hl2⟩ := I.list hB
  obtain ⟨cl, dc, dt, sl⟩ := o1
  obtain ⟨cl2, dc2, dt2, sl2⟩ := o2
  have hlen := r.length
  have hlen2 := r2.length
  simp only at hc hd hs hc2 hd2 hs2
  subst hc hd hs hc2 hd2 hs2
  have e3 : its.toArray ++ its2.toArray = (its ++ its2).toArray := by simp
  refine concat_meets ⟨_, e, rfl⟩ ⟨_, e2, rfl⟩ noFill_list_add seq_list_add PySem.F.slot_list_add PySem.F.entry_list_add (PySem.F.args_list_add_2 _ _) (list_addW l b its.toArray its2.toArray n n2 none none sl sl2 (by simp only [List.size_toArray]; omega)) ⟨e, e2, ?_⟩
  rw [e3]
  exact ⟨.ref _, _, I.lnew (t' := s.toks) (r.append r2) (by rw [List.length_append]; omega), rfl, q _ I.fresh⟩
theorem o_add : OpR X (binaryOp .Add) (r2 (wd E X) o .add) := by
  intro pins s σ H x y v u Q I rx ry h
  obtain ⟨F, ts, ds, d, hs, hb, he, hq⟩ := h
  rcases evAdd_ok he with ⟨a, b, rfl, rfl⟩ | ⟨a, b, rfl, hz, rfl⟩ | ⟨a, b, rfl, hz, rfl⟩ | ⟨a, b, rfl, hz, rfl⟩ | ⟨a, b, rfl, hz, rfl⟩ | ⟨a, b, rfl, hz, rfl⟩
  · obtain ⟨_, _, e2, b1, b2⟩ := hb.b2
    cases e2; cases b1.int; cases b2.int
    exact op_add pins s σ H _ _ v u Q I rx ry ⟨a, b, rfl, rfl, hq.int hs⟩
  · obtain ⟨_, _, e2, b1, b2⟩ := hb.b2
    cases e2; cases b1.str; cases b2.str
    exact op_add_str pins s σ H _ _ v u Q I rx ry ⟨a, b, rfl, rfl, hz, hq.str hs⟩
  · obtain ⟨_, _, e2, b1, b2⟩ := hb.b2
    cases e2
    obtain ⟨p, vs, rfl, t1, c1, l1⟩ := b1.tupC
    obtain ⟨q, us, rfl, t2, c2, l2⟩ := b2.tupC
    have n1 := l1.length
    have n2 := l2.length
    refine op_catA pins s σ H _ _ v u Q I rx ry ⟨p, q, vs, us, rfl, rfl, t1, t2, by omega, fun e => ?_, fun e1 e => ?_, fun e1 e => hq.tupNew hs (l1.append l2)⟩
    · obtain rfl := l1.nil_iff.mpr e
      exact (hq.nl rfl) _ _ _ hs (by unfold Val; exact ⟨q, us, rfl, t2, c2, l2⟩)
    · obtain rfl := l2.nil_iff.mpr e
      rw [List.append_nil] at hq
      exact (hq.nl rfl) _ _ _ hs (by unfold Val; exact ⟨p, vs, rfl, t1, c1, l1⟩)
  · obtain ⟨_, _, e2, b1, b2⟩ := hb.b2
    cases e2
    obtain ⟨p, vs, rfl, t1, l1⟩ := b1.lst
    obtain ⟨q, us, rfl, t2, l2⟩ := b2.lst
    have n1 := l1.length
    have n2 := l2.length
    exact op_catL pins s σ H _ _ v u Q I rx ry ⟨p, q, vs, us, rfl, rfl, .inl t1, .inl t2, by omega, hq.lstNew hs (l1.append l2)⟩
  · obtain ⟨_, _, e2, b1, b2⟩ := hb.b2
    cases e2
    obtain ⟨p, rfl, t1, l1⟩ := b1.scr
    obtain ⟨q, us, rfl, t2, l2⟩ := b2.lst
    have n2 := l2.length
    exact op_catL pins s σ H _ _ v u Q I rx ry ⟨p, q, _, us, rfl, rfl, t1, .inl t2, by rw [List.length_map]; omega, hq.lstNew hs (l1.append l2)⟩
  · obtain ⟨_, _, e2, b1, b2⟩ := hb.b2
    cases e2
    obtain ⟨p, us, rfl, t1, l1⟩ := b1.lst
    obtain ⟨q, rfl, t2, l2⟩ := b2.scr
    have n2 := l1.length
    exact op_catL pins s σ H _ _ v u Q I rx ry ⟨p, q, us, _, rfl, rfl, .inl t1, t2, by rw [List.length_map]; omega, hq.lstNew hs (l1.append l2)⟩

/-! ### == -/
mutual
theorem Val.dp {K : Wd} {H : Hp} {F : Addr → Prop} : ∀ {d : D} {v : V}, d.py.plain = true → Val K H F d v → Dp K.K H v d.py
  | .non, _, _, h => by unfold Val at h; subst h; exact .non
  | .bl _, _, _, h => by unfold Val at h; subst h; exact .bl _
  | .int _, _, _, h => by unfold Val at h; subst h; exact .int _
  | .str _, _, _, h => by unfold Val at h; subst h; exact .str _
  | .tup xs, v, p, h => by
    unfold Val at h
    obtain ⟨a, vs, rfl, t, _, l⟩ := h
    rw [D.py] at p ⊢
    exact .tup t (ValL.dp (by simpa [PyData.plain] using p) l)
  | .scr _, _, p, h => by simp [D.py, PyData.plain] at p
  | .lst xs, v, p, h => by
    unfold Val at h
    obtain ⟨a, vs, rfl, f, t, l⟩ := h
    rw [D.py] at p ⊢
    exact .lst (.inl (.inl t)) (ValL.dp (by simpa [PyData.plain] using p) l)
  | .dct _ _ _, _, p, h => by simp [D.py, PyData.plain] at p
  | .fn _, _, p, h => by simp [D.py, PyData.plain] at p
  | .obj _ _ _, _, p, h => by simp [D.py, PyData.plain] at p
  | .box _, _, p, h => by simp [D.py, PyData.plain] at p
  | .gone, _, p, h => by simp [D.py, PyData.plain] at p
theorem ValL.dp {K : Wd} {H : Hp} {F : Addr → Prop} : ∀ {ds : List D} {vs : List V}, PyData.plainAll (D.pyL ds) = true → ValL K H F ds vs → DpAll K.K H vs (D.pyL ds)
  | [], _, _, h => by unfold ValL at h; subst h; exact .nil
  | d :: ds, vs, p, h => by
    unfold ValL at h
    obtain ⟨v, r, rfl, a, b⟩ := h
    rw [D.pyL] at p ⊢
    simp only [PyData.plainAll, Bool.and_eq_true] at p
    exact .cons (Val.dp p.1 a) (ValL.dp p.2 b)
end
theorem Bor.dp {K : Wd} {H : Hp} {F : Addr → Prop} {d : D} {v : V} (p : d.py.plain = true) (h : Bor K H F d v) : Dp K.K H v d.py := by
  rcases h with h | ⟨xs, a, vs, rfl, rfl, ha, l⟩ | ⟨t, ks, xs, a, vs, rfl, rfl, ha, l⟩ | ⟨_, _, _, _, _, rfl, _⟩ | ⟨_, _, _, rfl, _⟩
  · exact h.dp p
  · rw [D.py] at p ⊢
    exact .lst (.inl (.inl ha)) (l.dp (by simpa [PyData.plain] using p))
  · simp [D.py, PyData.plain] at p
  · simp [D.py, PyData.plain] at p
  · simp [D.py, PyData.plain] at p
theorem eqD_ok {a b d : D} (h : eqD a b = .ok d) : a.py.plain = true ∧ b.py.plain = true ∧ min a.py.depth b.py.depth ≤ 160 ∧ d = .bl (PyData.eqv a.py b.py) := by
  unfold eqD at h
  split at h
  · rename_i c
    obtain ⟨c, c3⟩ := Bool.and_eq_true_iff.mp c
    obtain ⟨c1, c2⟩ := Bool.and_eq_true_iff.mp c
    cases h
    exact ⟨c1, c2, of_decide_eq_true c3, rfl⟩
  · cases h
theorem evEq_ok {ds : List D} {d : D} (h : evEq ds = .ok d) : ∃ a b, ds = [a, b] ∧ eqD a b = .ok d := by
  unfold evEq at h
  split at h
  · exact ⟨_, _, rfl, h⟩
  · cases h
theorem room_eq {A : Around} (hr : A.units + 200 < cLine) {x : Nat} (h : x ≤ 160) : A.units + 1 + x < cLine := by

  omega
theorem o_eq (hr : X.A.units + 200 < cLine) : OpR X (compareOp .Eq) (r2 (wd E X) o .eq) := by
  intro pins s σ H x y v u Q I rx ry h
  obtain ⟨F, ts, ds, d, hs, hb, he, hq⟩ := h
  obtain ⟨a, b, rfl, e⟩ := evEq_ok he
  obtain ⟨c1, c2, c3, rfl⟩ := eqD_ok e
  obtain ⟨_, _, e2, b1, b2⟩ := hb.b2
  cases e2
  obtain ⟨as, q1⟩ := Dp.reads I _ _ v (b1.dp c1) rx
  obtain ⟨bs, q2⟩ := Dp.reads I _ _ u (b2.dp c2) ry
  exact SeqAt.eq_plain q1 q2 c1 c2 (by have := room_eq hr c3; omega) ⟨.bl _, H, I, rfl, hq.bl hs⟩
theorem o_ne (hr : X.A.units + 200 < cLine) : OpR X (compareOp .NotEq) (r2 (wd E X) o .ne) := by
  intro pins s σ H x y v u Q I rx ry h
  obtain ⟨F, ts, ds, d, hs, hb, he, hq⟩ := h
  obtain ⟨w, he2, rfl⟩ := notR_ok he
  obtain ⟨a, b, rfl, e⟩ := evEq_ok he2
  obtain ⟨c1, c2, c3, ew⟩ := eqD_ok e
  cases ew
  obtain ⟨_, _, e2, b1, b2⟩ := hb.b2
  cases e2
  obtain ⟨as, q1⟩ := Dp.reads I _ _ v (b1.dp c1) rx
  obtain ⟨bs, q2⟩ := Dp.reads I _ _ u (b2.dp c2) ry
  exact SeqAt.ne_plain q1 q2 c1 c2 (by have := room_eq hr c3; omega) ⟨.bl _, H, I, rfl, hq.bl hs⟩

/-! ### a sign in a text, a thing in a list or tuple; is None -/
theorem evIn_ok {ds : List D} {d : D} (h : evIn ds = .ok d) : (∃ (c : Nat) (z : Str), ds = [.str ⟨#[c]⟩, .str z] ∧ d = .bl (decide (c ∈ z.cps.toList))) ∨
    ∃ x xs, (ds = [x, .tup xs] ∨ ds = [x, .lst xs]) ∧ x.py.plain = true ∧ PyData.plainAll (D.pyL xs) = true ∧ min (PyData.depthAll (D.pyL xs)) x.py.depth ≤ 160 ∧ d = .bl ((D.pyL xs).any fun y => PyData.eqv y x.py) := by
  unfold evIn at h
  split at h
  · rename_i a b
    split at h
    · rename_i c e
      cases h
      refine .inl ⟨c, b, ?_, rfl⟩
      obtain ⟨⟨l⟩⟩ := a
      simp only at e
      subst e
      rfl
    · cases h
  · obtain ⟨c, rfl⟩ := okIf_ok h
    simp only [Bool.and_eq_true, decide_eq_true_eq] at c
    exact .inr ⟨_, _, .inl rfl, c.1.1, c.1.2, c.2, rfl⟩
  · obtain ⟨c, rfl⟩ := okIf_ok h
    simp only [Bool.and_eq_true, decide_eq_true_eq] at c
    exact .inr ⟨_, _, .inr rfl, c.1.1, c.1.2, c.2, rfl⟩
  · cases h
theorem o_in (hr : X.A.units + 200 < cLine) : OpR X (compareOp .In) (r2 (wd E X) o .inn) := by
  intro pins s σ H x y v u Q I rx ry h
  obtain ⟨F, ts, ds, d, hs, hb, he, hq⟩ := h
  rcases evIn_ok he with ⟨c, z, rfl, rfl⟩ | ⟨x', xs, e, p1, p2, p3, rfl⟩
  · obtain ⟨_, _, e2, b1, b2⟩ := hb.b2
    cases e2; cases b1.str; cases b2.str
    exact op_in_sign pins s σ H _ _ v u Q I rx ry ⟨c, z, rfl, rfl, hq.bl hs⟩
  · rcases e with rfl | rfl
    · obtain ⟨_, _, e2, b1, b2⟩ := hb.b2
      cases e2
      obtain ⟨as, q1⟩ := Dp.reads I _ _ v (b1.dp p1) rx
      have b2' := b2.dp (by simpa [D.py, PyData.plain] using p2)
      rw [D.py] at b2'
      obtain ⟨bs, q2⟩ := Dp.reads I _ _ u b2' ry
      exact SeqAt.in_tuple_data q2 q1 p2 p1 (room_eq hr p3) ⟨.bl _, H, I, rfl, hq.bl hs⟩
    · obtain ⟨_, _, e2, b1, b2⟩ := hb.b2
      cases e2
      obtain ⟨as, q1⟩ := Dp.reads I _ _ v (b1.dp p1) rx
      have b2' := b2.dp (by simpa [D.py, PyData.plain] using p2)
      rw [D.py] at b2'
      obtain ⟨bs, q2⟩ := Dp.reads I _ _ u b2' ry
      exact SeqAt.in_list_data q2 q1 p2 p1 (room_eq hr p3) ⟨.bl _, H, I, rfl, hq.bl hs⟩
theorem o_notin (hr : X.A.units + 200 < cLine) : OpR X (compareOp .NotIn) (r2 (wd E X) o .notin) := by
  intro pins s σ H x y v u Q I rx ry h
  obtain ⟨F, ts, ds, d, hs, hb, he, hq⟩ := h
  obtain ⟨w, he2, rfl⟩ := notR_ok he
  rcases evIn_ok he2 with ⟨c, z, rfl, e⟩ | ⟨x', xs, e, p1, p2, p3, ew⟩
  · cases e
    obtain ⟨_, _, e2, b1, b2⟩ := hb.b2
    cases e2; cases b1.str; cases b2.str
    exact op_notIn_sign pins s σ H _ _ v u Q I rx ry ⟨c, z, rfl, rfl, hq.bl hs⟩
  · cases ew
    rcases e with rfl | rfl
    · obtain ⟨_, _, e2, b1, b2⟩ := hb.b2
      cases e2
      obtain ⟨as, q1⟩ := Dp.reads I _ _ v (b1.dp p1) rx
      have b2' := b2.dp (by simpa [D.py, PyData.plain] using p2)
      rw [D.py] at b2'
      obtain ⟨bs, q2⟩ := Dp.reads I _ _ u b2' ry
      exact SeqAt.notIn_tuple_data q2 q1 p2 p1 (room_eq hr p3) ⟨.bl _, H, I, rfl, hq.bl hs⟩
    · obtain ⟨_, _, e2, b1, b2⟩ := hb.b2
      cases e2
      obtain ⟨as, q1⟩ := Dp.reads I _ _ v (b1.dp p1) rx
      have b2' := b2.dp (by simpa [D.py, PyData.plain] using p2)
      rw [D.py] at b2'
      obtain ⟨bs, q2⟩ := Dp.reads I _ _ u b2' ry
      exact SeqAt.notIn_list_data q2 q1 p2 p1 (room_eq hr p3) ⟨.bl _, H, I, rfl, hq.bl hs⟩
theorem Val.boxR {K : Wd} {H : Hp} {F : Addr → Prop} {d : D} {v : V} (h : Val K H F (.box d) v) : ∃ a, v = .ref a := by
  cases d with
  | tup xs => unfold Val at h; obtain ⟨c, _, e, _⟩ := h; exact ⟨_, e⟩
  | _ => unfold Val at h; exact h.elim
theorem Bor.isNon {K : Wd} {H : Hp} {F : Addr → Prop} {d : D} {v : V} (h : Bor K H F d v) : decide (v = .non) = Bk.isNon d := by
  cases d with
  | non => cases h.non; rfl
  | bl _ => cases h.bl; rfl
  | int _ => cases h.int; rfl
  | str _ => cases h.str; rfl
  | tup _ => obtain ⟨a, vs, rfl, _⟩ := h.tup; rfl
  | lst _ => obtain ⟨a, vs, rfl, _⟩ := h.lst; rfl
  | dct _ _ _ => obtain ⟨a, vs, rfl, _⟩ := h.dct; rfl
  | scr _ => obtain ⟨a, rfl, _⟩ := h.scr; rfl
  | fn _ => have := h.val (by intro _ z; cases z) (by intro _ _ _ z; cases z); unfold Val at this; obtain ⟨a, _, rfl⟩ := this; rfl
  | obj _ _ _ => obtain ⟨a, fp, rfl, _⟩ := h.obj; rfl
  | box x =>
    cases x with
    | lst _ => obtain ⟨a, fp, rfl, _⟩ := h.ll; rfl
    | _ => have := h.val (by intro _ z; cases z) (by intro _ _ _ z; cases z); obtain ⟨a, rfl⟩ := this.boxR; rfl
  | gone => have := h.val (by intro _ z; cases z) (by intro _ _ _ z; cases z); unfold Val at this; exact this.elim
abbrev r1n (K : Wd) (o : Bool) (p : Prim) : R2 := fun x y H Q => y = .non ∧ rP K o p [x] H Q
theorem o_isN : OpR X (compareOp .Is) (r1n (wd E X) o .isN) := by
  intro pins s σ H x y v u Q I rx ry h
  obtain ⟨rfl, F, ts, ds, d, hs, hb, he, hq⟩ := h
  replace he : evIsN ds = .ok d := he
  unfold evIsN at he
  split at he
  · cases he
    obtain ⟨_, e2, b1⟩ := hb.b1
    cases e2
    exact op_isN pins s σ H _ _ v u Q I rx ry ⟨rfl, by rw [b1.isNon]; exact hq.bl hs⟩
  · cases he
theorem o_notN : OpR X (compareOp .IsNot) (r1n (wd E X) o .notN) := by
  intro pins s σ H x y v u Q I rx ry h
  obtain ⟨rfl, F, ts, ds, d, hs, hb, he, hq⟩ := h
  obtain ⟨w, he2, rfl⟩ := notR_ok he
  unfold evIsN at he2
  split at he2
  · cases he2
    obtain ⟨_, e2, b1⟩ := hb.b1
    cases e2
    exact op_notN pins s σ H _ _ v u Q I rx ry ⟨rfl, by rw [b1.isNon]; exact hq.bl hs⟩
  · cases he2
theorem o_isB : OpR X (compareOp .Is) (r2 (wd E X) o .isB) := by
  intro pins s σ H x y v u Q I rx ry h
  obtain ⟨F, ts, ds, d, hs, hb, he, hq⟩ := h
  replace he : evIsB ds = .ok d := he
  unfold evIsB at he
  split at he
  · cases he
    obtain ⟨_, _, e2, b1, b2⟩ := hb.b2
    cases e2
    cases b1.bl
    cases b2.bl
    exact op_isBl pins s σ H _ _ v u Q I rx ry ⟨_, _, rfl, rfl, hq.bl hs⟩
  · cases he
theorem o_notB : OpR X (compareOp .IsNot) (r2 (wd E X) o .notB) := by
  intro pins s σ H x y v u Q I rx ry h
  obtain ⟨F, ts, ds, d, hs, hb, he, hq⟩ := h
  obtain ⟨w, he2, rfl⟩ := notR_ok he
  unfold evIsB at he2
  split at he2
  · cases he2
    obtain ⟨_, _, e2, b1, b2⟩ := hb.b2
    cases e2
    cases b1.bl
    cases b2.bl
    exact op_notBl pins s σ H _ _ v u Q I rx ry ⟨_, _, rfl, rfl, hq.bl hs⟩
  · cases he2
theorem o_neg : UnR X (unaryOp .USub) (fun x H Q => rP (wd E X) o .neg [x] H Q) := by
  intro pins s σ H x v Q I rx h
  obtain ⟨F, ts, ds, d, hs, hb, he, hq⟩ := h
  replace he : evNeg ds = .ok d := he
  unfold evNeg at he
  split at he
  · cases he
    obtain ⟨_, e2, b1⟩ := hb.b1
    cases e2; cases b1.int
    exact un_neg pins s σ H _ v Q I rx ⟨_, rfl, hq.int hs⟩
  · cases he

/-! ### subscripts, slices -/
theorem ValL.at {K : Wd} {H : Hp} {F : Addr → Prop} {ds : List D} {vs : List V} {i : Int} {d : D} (h : ValL K H F ds vs) (e : atI ds i = some d) : ∃ v, atI vs i = some v ∧ Val K H F d v := by
  unfold atI at e ⊢
  rw [← h.length]
  cases q : ixN ds.length i with
  | none => rw [q] at e; cases e
  | some j =>
    rw [q] at e
    exact h.get e
theorem o_idx : IxR X (r2 (wd E X) false .idx) := by
  intro ve se pins s σ H x y v u Q I rx ry h hsub
  obtain ⟨F, ts, ds, d, hs, hb, he, hq⟩ := h
  replace he : evIdx ds = .ok d := he
  unfold evIdx at he
  split at he
  · rename_i xs i
    obtain ⟨_, _, e2, b1, b2⟩ := hb.b2
    cases e2; cases b2.int
    obtain ⟨p, vs, rfl, t, l⟩ := b1.tup
    obtain ⟨w, ew, qw⟩ := l.at (ofOpt_ok he)
    exact ix_tup ve se pins s σ H _ _ v u Q I rx ry ⟨p, vs, i, w, rfl, rfl, t, ew, hq _ _ _ hs qw⟩ hsub
  · rename_i xs i
    obtain ⟨_, _, e2, b1, b2⟩ := hb.b2
    cases e2; cases b2.int
    obtain ⟨p, vs, rfl, t, l⟩ := b1.lst
    obtain ⟨w, ew, qw⟩ := l.at (ofOpt_ok he)
    exact ix_list ve se pins s σ H _ _ v u Q I rx ry ⟨p, vs, i, w, rfl, rfl, .inl t, ew, hq _ _ _ hs qw⟩ hsub
  · rename_i xs i
    obtain ⟨_, _, e2, b1, b2⟩ := hb.b2
    cases e2; cases b2.int
    obtain ⟨p, rfl, t, l⟩ := b1.scr
    obtain ⟨w, ew, qw⟩ := l.at (ofOpt_ok he)
    exact ix_list ve se pins s σ H _ _ v u Q I rx ry ⟨p, _, i, w, rfl, rfl, t, ew, hq _ _ _ hs qw⟩ hsub
  · rename_i z i
    split at he
    · rename_i hz
      split at he
      · rename_i c ec
        cases he
        obtain ⟨_, _, e2, b1, b2⟩ := hb.b2
        cases e2; cases b2.int; cases b1.str
        exact ix_str ve se pins s σ H _ _ v u Q I rx ry ⟨z, i, c, rfl, rfl, hz, ec, PQ.str (o := false) hq hs⟩ hsub
      · cases he
    · cases he
  · cases he

theorem ValL.cut {K : Wd} {H : Hp} {F : Addr → Prop} {ds : List D} {vs : List V} (h : ValL K H F ds vs) (lo hi : Option Int) : ValL K H F (cutD ds lo hi) (cutV vs lo hi) := by
  unfold cutD cutV
  rw [h.length]
  exact (h.drop _).take _
theorem cutD_whole {α : Type} {xs : List α} {lo hi : Option Int} (h : HT.sIx xs.length 0 lo = 0 ∧ HT.sIx xs.length xs.length hi = xs.length) : cutD xs lo hi = xs := by
  unfold cutD
  rw [h.1, h.2]
  simp
def partV : Option Int → List V
  | none => []
  | some i => [.int i]
/-- a slice's reading: its text or sequence, its ends -/
def rSl (K : Wd) (o : Bool) (a b : Bool) : V → Option Int → Option Int → Hp → VK → Prop := fun x lo hi H Q => lo.isSome = a ∧ hi.isSome = b ∧ rP K o (.slc a b) (x :: (partV lo ++ partV hi)) H Q
theorem evSlice_ok {a b : Bool} {ds : List D} {d : D} (h : evSlice a b ds = .ok d) : ∃ x lo hi, lo.isSome = a ∧ hi.isSome = b ∧ ds = x :: ((lo.map D.int).toList ++ (hi.map D.int).toList) ∧ evSlc x lo hi = .ok d := by
  unfold evSlice at h
  split at h
  · exact ⟨_, none, none, rfl, rfl, rfl, h⟩
  · exact ⟨_, some _, none, rfl, rfl, rfl, h⟩
  · exact ⟨_, none, some _, rfl, rfl, rfl, h⟩
  · exact ⟨_, some _, some _, rfl, rfl, rfl, h⟩
  · cases h
theorem o_slice {a b : Bool} : SlR X (rSl (wd E X) o a b) := by
  intro pins s σ H x v vl vu lo hi sl Q I rx hsl pl pu h
  obtain ⟨e1, e2, F, ts, ds, d, hs, hb, he, hq⟩ := h
  obtain ⟨y, lo', hi', f1, f2, rfl, he2⟩ := evSlice_ok he
  have core : Bor (wd E X) H F y x ∧ lo = lo' ∧ hi = hi' := by
    subst e1 e2
    obtain ⟨x', r, er, b1, hb⟩ := hb
    injection er with e1 e2
    subst e1 e2
    refine ⟨b1, ?_⟩
    cases lo with
    | none =>
      cases lo' with
      | some _ => cases f1
      | none =>
        refine ⟨rfl, ?_⟩
        cases hi with
        | none =>
          cases hi' with
          | some _ => cases f2
          | none => rfl
        | some j =>
          cases hi' with
          | none => cases f2
          | some j' =>
            obtain ⟨_, e, q⟩ := Bors.b1 (show Bors (wd E X) H F [.int j'] [.int j] from hb)
            cases e
            cases q.int
            rfl
    | some i =>
      cases lo' with
      | none => cases f1
      | some i' =>
        cases hi with
        | none =>
          cases hi' with
          | some _ => cases f2
          | none =>
            obtain ⟨_, e, q⟩ := Bors.b1 (show Bors (wd E X) H F [.int i'] [.int i] from hb)
            cases e
            cases q.int
            exact ⟨rfl, rfl⟩
        | some j =>
          cases hi' with
          | none => cases f2
          | some j' =>
            obtain ⟨_, _, e, q, q2⟩ := Bors.b2 (show Bors (wd E X) H F [.int i', .int j'] [.int i, .int j] from hb)
            cases e
            cases q.int
            cases q2.int
            exact ⟨rfl, rfl⟩
  obtain ⟨b1, rfl, rfl⟩ := core
  clear he
  unfold evSlc at he2
  split at he2
  · cases he2
    obtain ⟨p, vs, rfl, t, c, l⟩ := b1.tupC
    refine sl_tupA pins s σ H _ v vl vu lo hi sl Q I rx hsl pl pu ⟨p, vs, rfl, t, fun w => ?_, fun _ => hq.tupNew hs (l.cut lo hi)⟩
    rw [← l.length] at w
    rw [cutD_whole w] at hq
    exact (hq.nl rfl) _ _ _ hs (by unfold Val; exact ⟨p, vs, rfl, t, c, l⟩)
  · cases he2
    obtain ⟨p, vs, rfl, t, l⟩ := b1.lst
    exact sl_list pins s σ H _ v vl vu lo hi sl Q I rx hsl pl pu ⟨p, vs, rfl, .inl t, hq.lstNew hs (l.cut lo hi)⟩
  · cases he2
    obtain ⟨p, rfl, t, l⟩ := b1.scr
    exact sl_list pins s σ H _ v vl vu lo hi sl Q I rx hsl pl pu ⟨p, _, rfl, t, hq.lstNew hs (l.cut lo hi)⟩
  · obtain ⟨c, rfl⟩ := okIf_ok he2
    cases b1.str
    exact sl_str pins s σ H _ v vl vu lo hi sl Q I rx hsl pl pu ⟨_, rfl, of_decide_eq_true c, hq.str hs⟩
  · cases he2

/-! ### built-in defs and classes -/
abbrev rC (K : Wd) (o : Bool) (p : Prim) : List V → Hp → VK → Prop := fun vs H Q => rP K o p vs H Q
theorem c_len : CallR X (.builtin "len") (rC (wd E X) o .len) := by
  intro pins s σ H vs us Q I r h
  obtain ⟨F, ts, ds, d, hs, hb, he, hq⟩ := h
  replace he : evLen ds = .ok d := he
  unfold evLen at he
  split at he
  · cases he
    obtain ⟨_, e2, b1⟩ := hb.b1
    cases e2
    obtain ⟨p, vs, rfl, t, l⟩ := b1.tup
    exact call_len pins s σ H _ us Q I r ⟨_, _, rfl, .inr ⟨vs, t, rfl⟩, by rw [← l.length]; exact hq.int hs⟩
  · cases he
    obtain ⟨_, e2, b1⟩ := hb.b1
    cases e2
    obtain ⟨p, vs, rfl, t, l⟩ := b1.lst
    exact call_len pins s σ H _ us Q I r ⟨_, _, rfl, .inl ⟨vs, .inl t, rfl⟩, by rw [← l.length]; exact hq.int hs⟩
  · cases he
    obtain ⟨_, e2, b1⟩ := hb.b1
    cases e2
    obtain ⟨p, rfl, t, l⟩ := b1.scr
    exact call_len pins s σ H _ us Q I r ⟨_, _, rfl, .inl ⟨_, t, rfl⟩, by rw [List.length_map]; exact hq.int hs⟩
  · obtain ⟨c, rfl⟩ := okIf_ok he
    obtain ⟨_, e2, b1⟩ := hb.b1
    cases e2; cases b1.str
    exact call_len pins s σ H _ us Q I r ⟨_, _, rfl, ⟨of_decide_eq_true c, rfl⟩, hq.int hs⟩
  · rename_i t ks xs
    obtain ⟨hk, rfl⟩ := okIf_ok he
    have hk := of_decide_eq_true hk
    obtain ⟨_, e2, b1⟩ := hb.b1
    cases e2
    obtain ⟨p, ws, rfl, da, l⟩ := b1.dct
    match t, hk, da with
    | 0, _, ⟨l1, kk, e, ha⟩ =>
      have hl : kk.length = ws.length := by have := congrArg List.length e; simp only [List.length_map] at this; omega
      refine call_lenD pins s σ H _ us Q I r ⟨p, _, rfl, ha, ?_⟩
      rw [show (kk.zip ws).length = ks.length by rw [List.length_zip]; omega]
      exact hq.int hs
    | 1, _, ⟨l1, kk, e, ha⟩ =>
      have hl : kk.length = ws.length := by have := congrArg List.length e; simp only [List.length_map] at this; omega
      refine call_len_dT pins s σ H _ us Q I r ⟨p, _, rfl, ha, ?_⟩
      rw [show (kk.zip ws).length = ks.length by rw [List.length_zip]; omega]
      exact hq.int hs
  · cases he
    obtain ⟨_, e2, b1⟩ := hb.b1
    cases e2
    obtain ⟨a, fp, rfl, vs, g, h1, h2, _⟩ := b1.ll
    exact call_len pins s σ H _ us Q I r ⟨_, _, rfl, .inl ⟨vs, .inl (.inl h1), rfl⟩, by rw [h2.len]; exact hq.int hs⟩
  · cases he
theorem c_sum (hc : X.calm = true) : CallR X (.builtin "sum") (rC (wd E X) o .sum) := by
  intro pins s σ H vs us Q I r h
  obtain ⟨F, ts, ds, d, hs, hb, he, hq⟩ := h
  replace he : evSum ds = .ok d := he
  unfold evSum at he
  split at he
  · split at he
    · rename_i ns en
      cases he
      obtain ⟨_, e2, b1⟩ := hb.b1
      cases e2
      obtain ⟨p, vs, rfl, t, l⟩ := b1.lst
      obtain rfl := l.ints en
      exact cr_sum hc pins s σ H _ us Q I r ⟨p, ns, rfl, .inl t, hq.int hs⟩
    · cases he
  · cases he
theorem c_maxl (hc : X.calm = true) : CallR X (.builtin "max") (rC (wd E X) o .maxl) := by
  intro pins s σ H vs us Q I r h
  obtain ⟨F, ts, ds, d, hs, hb, he, hq⟩ := h
  replace he : evMaxl ds = .ok d := he
  unfold evMaxl at he
  split at he
  · split at he
    · rename_i n ns en
      cases he
      obtain ⟨_, e2, b1⟩ := hb.b1
      cases e2
      obtain ⟨p, vs, rfl, t, l⟩ := b1.lst
      obtain rfl := l.ints en
      refine cr_max hc pins s σ H _ us Q I r ⟨p, n :: ns, rfl, .inl t, by simp, fun m hm hle => ?_⟩
      have sp := maxOf_spec ns n
      obtain rfl : m = maxOf n ns := by
        have h1 := hle _ sp.1
        have h2 := sp.2 _ hm
        omega
      exact hq.int hs
    · cases he
  · cases he
theorem c_minl (hc : X.calm = true) : CallR X (.builtin "min") (rC (wd E X) o .minl) := by
  intro pins s σ H vs us Q I r h
  obtain ⟨F, ts, ds, d, hs, hb, he, hq⟩ := h
  replace he : evMinl ds = .ok d := he
  unfold evMinl at he
  split at he
  · split at he
    · rename_i n ns en
      cases he
      obtain ⟨_, e2, b1⟩ := hb.b1
      cases e2
      obtain ⟨p, vs, rfl, t, l⟩ := b1.lst
      obtain rfl := l.ints en
      refine cr_min hc pins s σ H _ us Q I r ⟨p, n :: ns, rfl, .inl t, by simp, fun m hm hle => ?_⟩
      have sp := minOf_spec ns n
      obtain rfl : m = minOf n ns := by
        have h1 := hle _ sp.1
        have h2 := sp.2 _ hm
        omega
      exact hq.int hs
    · cases he
  · cases he
theorem callInt2 {p : Prim} {f : Value} {g : Int → Int → R D} (he : ∀ ds, evPrim p ds = evInt2 g ds)
    (rule : ∀ (i j : Int) (d : D) (pins : List (Addr × Obj)) (s : Shared) (σ : L2.St) (H : Hp) (F : Addr → Prop) (ts : Things) (us : List Value) (Q : VK), g i j = .ok d → Inv X pins σ H s → Vals [.int i, .int j] us → Sep (wd E X) H F ts → PQ o (wd E X) ts d Q →
      wpAny (model X.prog X.w) X.A (call f us) (EP X pins σ Q) X.xe s) : CallR X f (rC (wd E X) o p) := by
  intro pins s σ H vs us Q I r h
  obtain ⟨F, ts, ds, d, hs, hb, he', hq⟩ := h
  rw [he] at he'
  obtain ⟨a, b, rfl, e⟩ := evInt2_ok he'
  obtain ⟨_, _, e2, b1, b2⟩ := hb.b2
  subst e2
  cases b1.int; cases b2.int
  exact rule a b d pins s σ H F ts us Q e I r hs hq
theorem c_max2 (hc : X.calm = true) : CallR X (.builtin "max") (rC (wd E X) o .max2) := callInt2 (fun _ => rfl) fun i j d pins s σ H F ts us Q e I r hs hq => by
  cases e
  exact call_max2 hc pins s σ H _ us Q I r ⟨i, j, rfl, hq.int hs⟩
theorem c_min2 (hc : X.calm = true) : CallR X (.builtin "min") (rC (wd E X) o .min2) := callInt2 (fun _ => rfl) fun i j d pins s σ H F ts us Q e I r hs hq => by
  cases e
  exact call_min2 hc pins s σ H _ us Q I r ⟨i, j, rfl, hq.int hs⟩
theorem c_tupOf : CallR X (.type "tuple") (rC (wd E X) o .tupOf) := by
  intro pins s σ H vs us Q I r h
  obtain ⟨F, ts, ds, d, hs, hb, he, hq⟩ := h
  replace he : evTupOf ds = .ok d := he
  unfold evTupOf at he
  split at he
  · cases he
    obtain ⟨_, e2, b1⟩ := hb.b1
    cases e2
    obtain ⟨p, vs, rfl, t, l⟩ := b1.lst
    exact call_tuple_of pins s σ H _ us Q I r ⟨p, vs, rfl, .inl ⟨.inl t, hq.tupNew hs l⟩⟩
  · cases he
    obtain ⟨_, e2, b1⟩ := hb.b1
    cases e2
    obtain ⟨p, vs, rfl, t, c, l⟩ := b1.tupC
    exact call_tuple_of pins s σ H _ us Q I r ⟨p, vs, rfl, .inr ⟨t, (hq.nl rfl) _ _ _ hs (by unfold Val; exact ⟨p, vs, rfl, t, c, l⟩)⟩⟩
  · cases he
theorem keyTOf_inv {d : D} {k : List Key} (h : keyTOf d = some k) : ∃ xs, d = .tup xs ∧ keysOf xs = some k ∧ isCst xs = false := by
  unfold keyTOf at h
  split at h
  · rename_i xs
    split at h
    · rename_i z
      split at h
      · cases h
      · rename_i hz
        exact ⟨_, rfl, h, by simp [isCst, hz]⟩
    · rename_i hx
      refine ⟨_, rfl, h, ?_⟩
      unfold isCst
      split
      · rename_i z; exact (hx z rfl).elim
      · rfl
  · cases h
theorem keyK_val {K : Wd} {H : Hp} {F : Addr → Prop} {d : D} {k : Key} (h : keyOf d = some k) : Val K H F d (kV k) := by
  cases d <;> simp only [keyOf, reduceCtorEq, Option.some.injEq] at h
  · subst h; unfold Val; rfl
  · subst h; unfold Val; rfl
theorem keysK_vals {K : Wd} {H : Hp} {F : Addr → Prop} : ∀ {ds : List D} {ks : List Key}, keysOf ds = some ks → ValL K H F ds (ks.map kV)
  | [], ks, h => by cases h; exact ValL.nil
  | d :: ds, ks, h => by
    simp only [keysOf] at h
    split at h
    · rename_i k l h1 h2
      cases h
      exact ValL.cons (keyK_val h1) (keysK_vals h2)
    · cases h
theorem keysK_map {K : Wd} {H : Hp} {F : Addr → Prop} : ∀ {ds : List D} {ks : List Key}, ds.map keyOf = ks.map some → ValL K H F ds (ks.map kV)
  | [], ks, h => by
    cases ks with
    | nil => exact ValL.nil
    | cons _ _ => cases h
  | d :: ds, ks, h => by
    cases ks with
    | nil => cases h
    | cons k ks =>
      simp only [List.map_cons, List.cons.injEq] at h
      exact ValL.cons (keyK_val h.1) (keysK_map h.2)
theorem c_lstOf : CallR X (.type "list") (rC (wd E X) o .lstOf) := by
  intro pins s σ H vs us Q I r h
  obtain ⟨F, ts, ds, d, hs, hb, he, hq⟩ := h
  replace he : evLstOf ds = .ok d := he
  unfold evLstOf at he
  split at he
  · cases he
    obtain ⟨_, e2, b1⟩ := hb.b1
    cases e2
    obtain ⟨p, rfl, t, l⟩ := b1.scr
    exact call_list_of pins s σ H _ us Q I r ⟨p, _, rfl, .inl t, hq.lstNew hs l⟩
  · cases he
    obtain ⟨_, e2, b1⟩ := hb.b1
    cases e2
    obtain ⟨p, vs, rfl, t, l⟩ := b1.lst
    exact call_list_of pins s σ H _ us Q I r ⟨p, vs, rfl, .inl (.inl t), hq.lstNew hs l⟩
  · cases he
    obtain ⟨_, e2, b1⟩ := hb.b1
    cases e2
    obtain ⟨p, vs, rfl, t, l⟩ := b1.tup
    exact call_list_of pins s σ H _ us Q I r ⟨p, vs, rfl, .inr t, hq.lstNew hs l⟩
  · cases he
theorem keysT_vals {K : Wd} {H : Hp} {F : Addr → Prop} : ∀ {ks : List D} {kvs : List (List Key × V)} {bs : List Addr}, ks.map keyTOf = (kvs.map (·.1)).map some → IsKeys H kvs bs → ValL K H F ks (bs.map V.ref)
  | [], kvs, bs, e, h => by
    cases h with
    | nil => exact ValL.nil
    | cons _ _ => cases e
  | d :: ds, kvs, bs, e, h => by
    cases h with
    | nil => cases e
    | @cons p b ps bs hp t =>
      simp only [List.map_cons, List.cons.injEq] at e
      refine ValL.cons ?_ (keysT_vals e.2 t)
      obtain ⟨xs, rfl, e4, _⟩ := keyTOf_inv e.1
      unfold Val
      exact ⟨b, _, rfl, .inl (.inl hp), .inr hp, keysK_vals e4⟩
theorem c_lstD (hc : X.calm = true) : CallR X (.type "list") (rC (wd E X) o .lstD) := by
  intro pins s σ H vs us Q I r h
  obtain ⟨F, ts, ds, d, hs, hb, he, hq⟩ := h
  replace he : evLstD ds = .ok d := he
  unfold evLstD at he
  split at he
  case h_2 => cases he
  rename_i t ks xs
  unfold okIf at he
  split at he
  case isFalse => cases he
  rename_i hk
  cases he
  have hk := of_decide_eq_true hk
  obtain ⟨_, e2, b1⟩ := hb.b1
  cases e2
  obtain ⟨p, ws, rfl, da, l⟩ := b1.dct
  match t, hk, da with
  | 0, _, ⟨l1, kk, e, ha⟩ =>
    refine call_list_dK hc pins s σ H _ us Q I r ⟨p, _, rfl, ha, ?_⟩
    have hl : kk.length = ws.length := by have := congrArg List.length e; simp only [List.length_map] at this; omega
    have em : ((kk.zip ws).map fun kv => kV kv.1) = kk.map kV := by
      rw [show (fun (kv : Key × V) => kV kv.1) = kV ∘ Prod.fst from rfl, ← List.map_map, List.map_fst_zip (by omega)]
    rw [em]
    exact hq.lstNew hs (keysK_map e)
  | 1, _, ⟨l1, kk, e, ha⟩ =>
    refine call_list_dT hc pins s σ H _ us Q I r ⟨p, _, rfl, .inl ha, fun q bs hq0 hk => ?_⟩
    have hl : kk.length = ws.length := by have := congrArg List.length e; simp only [List.length_map] at this; omega
    exact hq.lstNew hs (keysT_vals (kvs := kk.zip ws) (by rw [List.map_fst_zip (by omega)]; exact e) hk) q hq0
theorem c_strOf : CallR X (.type "str") (rC (wd E X) o .strOf) := by
  intro pins s σ H vs us Q I r h
  obtain ⟨F, ts, ds, d, hs, hb, he, hq⟩ := h
  replace he : evStrOf ds = .ok d := he
  unfold evStrOf at he
  split at he
  · obtain ⟨c, rfl⟩ := okIf_ok he
    obtain ⟨_, e2, b1⟩ := hb.b1
    cases e2; cases b1.int
    exact call_str_int pins s σ H _ us Q I r ⟨_, rfl, of_decide_eq_true c, hq.str hs⟩
  · cases he
theorem c_intOf : CallR X (.type "int") (rC (wd E X) o .intOf) := by
  intro pins s σ H vs us Q I r h
  obtain ⟨F, ts, ds, d, hs, hb, he, hq⟩ := h
  replace he : evIntOf ds = .ok d := he
  unfold evIntOf at he
  split at he
  · cases he
    obtain ⟨_, e2, b1⟩ := hb.b1
    cases e2; cases b1.int
    exact call_int1 pins s σ H _ us Q I r (.inl ⟨_, rfl, hq.int hs⟩)
  · cases he
    obtain ⟨_, e2, b1⟩ := hb.b1
    cases e2; cases b1.bl
    exact call_int1 pins s σ H _ us Q I r (.inr ⟨_, rfl, hq.int hs⟩)
  · split at he
    · rename_i n en
      obtain ⟨c, rfl⟩ := okIf_ok he
      obtain ⟨_, e2, b1⟩ := hb.b1
      cases e2; cases b1.str
      exact call_int_str pins s σ H _ us Q I r ⟨_, n, rfl, en, of_decide_eq_true c, hq.int hs⟩
    · cases he
  · cases he
theorem c_all (hc : X.calm = true) : CallR X (.builtin "all") (rC (wd E X) o .all) := by
  intro pins s σ H vs us Q I r h
  obtain ⟨F, ts, ds, d, hs, hb, he, hq⟩ := h
  replace he : evAll ds = .ok d := he
  unfold evAll at he
  split at he
  · split at he
    · rename_i ns en
      cases he
      obtain ⟨_, e2, b1⟩ := hb.b1
      cases e2
      obtain ⟨p, vs, rfl, t, l⟩ := b1.lst
      obtain rfl := l.bools en
      exact cr_all hc pins s σ H _ us Q I r ⟨p, ns, rfl, .inl t, hq.bl hs⟩
    · cases he
  · cases he
/-- a method's reading, by its data -/
def rM (K : Wd) (m : Met) : V → List V → Hp → VK → Prop := fun x vs H Q => ∃ F ts ds d, Sep K H F ts ∧ Bors K H F ds (x :: vs) ∧ evMet m ds = .ok d ∧ PF K ts d Q
theorem m_join : MtR X "str.join" (rM (wd E X) .join) := by
  intro pins s σ H x vs v us Q I rx rs h
  obtain ⟨F, ts, ds, d, hs, hb, he, hq⟩ := h
  replace he : evJoin ds = .ok d := he
  unfold evJoin at he
  split at he
  · split at he
    · rename_i en
      obtain ⟨c, rfl⟩ := okIf_ok he
      obtain ⟨_, _, e2, b1, b2⟩ := hb.b2
      cases e2; cases b1.str
      obtain ⟨p, ws, rfl, t, l⟩ := b2.lst
      obtain rfl := l.strs en
      exact mt_join pins s σ H _ _ v us Q I rx rs ⟨_, p, _, rfl, rfl, .inl (.inl t), of_decide_eq_true c, hq _ _ _ hs val_str⟩
    · cases he
  · cases he
theorem m_sidx : MtR X "str.index" (rM (wd E X) .sidx) := by
  intro pins s σ H x vs v us Q I rx rs h
  obtain ⟨F, ts, ds, d, hs, hb, he, hq⟩ := h
  replace he : evSidx ds = .ok d := he
  unfold evSidx at he
  split at he
  · split at he
    · rename_i a b _ k ek
      cases he
      obtain ⟨_, _, e2, b1, b2⟩ := hb.b2
      cases e2; cases b1.str; cases b2.str
      obtain ⟨t, rfl⟩ := rx
      cases rs with
      | cons r1 rs =>
        cases rs
        obtain ⟨u, rfl⟩ := r1
        unfold Txt.index0 at ek
        cases q : Builtin.Str.occurrences a b 0 a.length 1 with
        | nil => rw [q] at ek; cases ek
        | cons k' rest =>
          rw [q] at ek
          cases ek
          exact PySem.SC.index q ⟨.int (k : Nat), H, I.tok _, ⟨_, rfl⟩, hq _ _ _ hs val_int⟩
    · cases he
  · cases he

theorem ValL.ofStrs (K : Wd) (H : Hp) (F : Addr → Prop) : ∀ zs : List Str, ValL K H F (zs.map D.str) (zs.map V.str)
  | [] => ValL.nil
  | z :: zs => ValL.cons val_str (ValL.ofStrs K H F zs)
theorem m_split : MtR X "str.split" (rM (wd E X) .split) := by
  intro pins s σ H x vs v us Q I rx rs h
  obtain ⟨F, ts, ds, d, hs, hb, he, hq⟩ := h
  replace he : evSplit ds = .ok d := he
  unfold evSplit at he
  split at he
  · obtain ⟨c, rfl⟩ := okIf_ok he
    simp only [Bool.and_eq_true, decide_eq_true_eq, Bool.not_eq_true'] at c
    obtain ⟨_, _, e2, b1, b2⟩ := hb.b2
    cases e2; cases b1.str; cases b2.str
    exact mt_split pins s σ H _ _ v us Q I rx rs ⟨_, _, rfl, rfl, c.1, c.2, PQ.lstNew (o := false) hq hs (ValL.ofStrs _ _ _ _)⟩
  · cases he
theorem m_words : MtR X "str.split" (rM (wd E X) .words) := by
  intro pins s σ H x vs v us Q I rx rs h
  obtain ⟨F, ts, ds, d, hs, hb, he, hq⟩ := h
  replace he : evWords ds = .ok d := he
  unfold evWords at he
  split at he
  · obtain ⟨c, rfl⟩ := okIf_ok he
    obtain ⟨_, e2, b1⟩ := hb.b1
    cases e2; cases b1.str
    exact mt_words pins s σ H _ _ v us Q I rx rs ⟨_, rfl, rfl, of_decide_eq_true c, PQ.lstNew (o := false) hq hs (ValL.ofStrs _ _ _ _)⟩
  · cases he

/-! ### isinstance -/
def Ty.py : Ty → String
  | .int => "int" | .str => "str" | .tuple => "tuple" | .list => "list" | .bool => "bool"
theorem isTy_py {K : Wd} {H : Hp} {F : Addr → Prop} {t : Ty} {d : D} {v : V} {b : Bool} (h : isTy t d = some b) (q : Bor K H F d v) : ∃ T, TyX K.K H v (.type T) ∧ PySem.W.kitOne K.K (.type T) (.type t.py) = some b := by
  cases d with
  | non => cases q.non; refine ⟨_, .base .non, ?_⟩; cases t <;> cases h <;> exact kit_ty (by decide +kernel)
  | bl k => cases q.bl; refine ⟨_, .base (.bl k), ?_⟩; cases t <;> cases h <;> exact kit_ty (by decide +kernel)
  | int k => cases q.int; refine ⟨_, .base (.int k), ?_⟩; cases t <;> cases h <;> exact kit_ty (by decide +kernel)
  | str k => cases q.str; refine ⟨_, .base (.str k), ?_⟩; cases t <;> cases h <;> exact kit_ty (by decide +kernel)
  | tup xs =>
    obtain ⟨p, vs, rfl, tq, l⟩ := q.tup
    refine ⟨"tuple", ?_, ?_⟩
    · rcases tq with (e | ⟨ob, e⟩) | ⟨ob, its, n, e, c, _⟩
      · exact .base (.tup e)
      · exact .fTuple e
      · exact .kTuple e c
    · cases t <;> cases h <;> exact kit_ty (by decide +kernel)
  | lst xs =>
    obtain ⟨p, vs, rfl, tq, l⟩ := q.lst
    refine ⟨"list", ?_, ?_⟩
    · rcases tq with e | ⟨ob, e⟩
      · exact .base (.lst e)
      · exact .base (.frz e)
    · cases t <;> cases h <;> exact kit_ty (by decide +kernel)
  | dct _ _ _ => cases t <;> cases h
  | scr _ => cases t <;> cases h
  | fn i => cases t <;> cases h
  | obj _ _ _ => cases t <;> cases h
  | box _ => cases t <;> cases h
  | gone => cases t <;> cases h
abbrev rI1 (K : Wd) (o : Bool) (t : Ty) : List V → Hp → VK → Prop := fun vs H Q => ∃ x, vs = [x, .ty t.py] ∧ rP K o (.isi t) [x] H Q
theorem c_isi {t : Ty} : CallR X (.builtin "isinstance") (rI1 (wd E X) o t) := by
  intro pins s σ H vs us Q I r h
  obtain ⟨x, rfl, F, ts, ds, d, hs, hb, he, hq⟩ := h
  replace he : evIsi t ds = .ok d := he
  unfold evIsi at he
  split at he
  · rename_i y
    have he := ofOpt_ok he
    obtain ⟨b, eb, rfl⟩ := Option.map_eq_some_iff.mp he
    obtain ⟨_, e2, b1⟩ := hb.b1
    cases e2
    obtain ⟨T, ty, k⟩ := isTy_py eb b1
    exact call_isi pins s σ H _ us Q I r ⟨x, .ty t.py, .type T, .type t.py, b, rfl, .ty _, ty, k, hq.bl hs⟩
  · cases he
end
end Bk

/-! B3d: dicts, by their data. -/
namespace Bk
open PySem PySem.Spec PyProof.Rows L2

theorem keyOf_inj {a b : D} {k : Key} (h1 : keyOf a = some k) (h2 : keyOf b = some k) : a = b := by
  cases a <;> simp only [keyOf, reduceCtorEq, Option.some.injEq] at h1 <;> cases b <;> simp only [keyOf, reduceCtorEq, Option.some.injEq] at h2 <;> subst h1 <;> first | (cases h2; rfl) | cases h2
theorem keyOf_beq {a b : D} {j k : Key} (h1 : keyOf a = some j) (h2 : keyOf b = some k) : D.beq a b = decide (j = k) := by
  cases a <;> simp only [keyOf, reduceCtorEq, Option.some.injEq] at h1 <;> cases b <;> simp only [keyOf, reduceCtorEq, Option.some.injEq] at h2 <;> subst h1 h2
  · simp [D.beq]
  · simp [D.beq]
  · simp [D.beq]
  · simp [D.beq]
theorem keysOf_beq : ∀ {a b : List D} {j k : List Key}, keysOf a = some j → keysOf b = some k → D.beqL a b = decide (j = k)
  | [], [], _, _, h1, h2 => by cases h1; cases h2; rfl
  | [], y :: ys, j, k, h1, h2 => by
    cases h1
    simp only [keysOf] at h2
    split at h2
    · cases h2; rfl
    · cases h2
  | x :: xs, [], j, k, h1, h2 => by
    cases h2
    simp only [keysOf] at h1
    split at h1
    · cases h1; rfl
    · cases h1
  | x :: xs, y :: ys, j, k, h1, h2 => by
    simp only [keysOf] at h1 h2
    split at h1
    · rename_i a b ha hb
      cases h1
      split at h2
      · rename_i c d hc hd
        cases h2
        rw [D.beqL, keyOf_beq ha hc, keysOf_beq hb hd]
        by_cases e1 : a = c <;> by_cases e2 : b = d <;> simp [e1, e2]
      · cases h2
    · cases h1
theorem keyTOf_some {d : D} {k : List Key} (h : keyTOf d = some k) : ∃ xs, d = .tup xs ∧ keysOf xs = some k ∧ isCst xs = false := by
  cases d <;> simp only [keyTOf, reduceCtorEq] at h
  rename_i xs
  split at h
  · rename_i z
    split at h
    · cases h
    · rename_i hz
      cases h
      exact ⟨_, rfl, rfl, by simp [isCst, hz]⟩
  · rename_i xs hx
    refine ⟨_, rfl, h, ?_⟩
    unfold isCst
    split
    · rename_i z
      exact (hx z rfl).elim
    · rfl
theorem keyTOf_beq {a b : D} {j k : List Key} (h1 : keyTOf a = some j) (h2 : keyTOf b = some k) : D.beq a b = decide (j = k) := by
  obtain ⟨xs, rfl, e1, _⟩ := keyTOf_some h1
  obtain ⟨ys, rfl, e2, _⟩ := keyTOf_some h2
  rw [D.beq, keysOf_beq e1 e2]

section
variable {κ : Type} [DecidableEq κ]
/-- the dict's list and what is asked of it -/
theorem look_zip {kf : D → Option κ} (hk : ∀ {a b : D} {j k : κ}, kf a = some j → kf b = some k → D.beq a b = decide (j = k)) {K : Wd} {H : Hp} {F : Addr → Prop} {d : D} {k : κ} (hd : kf d = some k) :
    ∀ {ks xs : List D} {kk : List κ} {vs : List V}, ks.map kf = kk.map some → ks.length = vs.length → ValL K H F xs vs → (∀ v, dLook d ks xs = some v → ∃ w, valV (kk.zip vs) k = some w ∧ Val K H F v w) ∧ (dLook d ks xs = none → valV (kk.zip vs) k = none)
  | [], xs, kk, vs, e, l, q => by
    cases kk with
    | nil => exact ⟨fun v h => by simp [dLook] at h, fun _ => rfl⟩
    | cons _ _ => cases e
  | x :: ks, xs, kk, vs, e, l, q => by
    cases kk with
    | nil => cases e
    | cons a kk =>
      simp only [List.map_cons, List.cons.injEq] at e
      cases vs with
      | nil => cases l
      | cons v vs =>
        cases xs with
        | nil => unfold ValL at q; cases q
        | cons y xs =>
          unfold ValL at q
          obtain ⟨v', r, e2, q1, q2⟩ := q
          cases e2
          have ih := look_zip hk hd (ks := ks) e.2 (by simpa using l) q2
          rw [List.zip_cons_cons]
          by_cases hak : a = k
          · have hb : D.beq x d = true := by rw [hk e.1 hd]; exact decide_eq_true hak
            rw [dLook, if_pos hb, valV_pos (show ((a, v) : κ × V).1 = k from hak)]
            exact ⟨fun w h => by cases h; exact ⟨v, rfl, q1⟩, fun h => by cases h⟩
          · have hb : ¬ D.beq x d = true := by rw [hk e.1 hd, decide_eq_false hak]; exact Bool.false_ne_true
            rw [dLook, if_neg hb, valV_neg (show ¬ ((a, v) : κ × V).1 = k from hak)]
            exact ih
theorem any_zip {kf : D → Option κ} (hk : ∀ {a b : D} {j k : κ}, kf a = some j → kf b = some k → D.beq a b = decide (j = k)) {d : D} {k : κ} (hd : kf d = some k) :
    ∀ {ks : List D} {kk : List κ} {vs : List V}, ks.map kf = kk.map some → ks.length = vs.length → ((kk.zip vs).any fun kv => decide (kv.1 = k)) = dHas d ks
  | [], kk, vs, e, l => by
    cases kk with
    | nil => rfl
    | cons _ _ => cases e
  | x :: ks, kk, vs, e, l => by
    cases kk with
    | nil => cases e
    | cons a kk =>
      simp only [List.map_cons, List.cons.injEq] at e
      cases vs with
      | nil => cases l
      | cons v vs =>
        rw [List.zip_cons_cons, List.any_cons]
        show (decide (a = k) || _) = (D.beq x d || dHas d ks)
        rw [hk e.1 hd, any_zip hk hd (ks := ks) e.2 (by simpa using l)]
theorem repl_zip {kf : D → Option κ} (hk : ∀ {a b : D} {j k : κ}, kf a = some j → kf b = some k → D.beq a b = decide (j = k)) {K : Wd} {H : Hp} {F : Addr → Prop} {d x : D} {k : κ} {w : V} (hd : kf d = some k) (qx : Val K H F x w) :
    ∀ {ks xs : List D} {kk : List κ} {vs : List V}, ks.map kf = kk.map some → ks.length = vs.length → ValL K H F xs vs →
    ∃ vs', (kk.zip vs).map (fun kv => if kv.1 = k then (kv.1, w) else kv) = kk.zip vs' ∧ vs'.length = vs.length ∧ ValL K H F (dRepl d x ks xs) vs'
  | [], xs, kk, vs, e, l, q => by
    cases vs with
    | cons _ _ => cases l
    | nil => exact ⟨[], by cases kk <;> rfl, rfl, by unfold dRepl; exact ValL.nil⟩
  | y :: ks, xs, kk, vs, e, l, q => by
    cases kk with
    | nil => cases e
    | cons a kk =>
      simp only [List.map_cons, List.cons.injEq] at e
      cases vs with
      | nil => cases l
      | cons v vs =>
        cases xs with
        | nil => unfold ValL at q; cases q
        | cons z xs =>
          unfold ValL at q
          obtain ⟨v', r, e2, q1, q2⟩ := q
          cases e2
          obtain ⟨vs', e3, l3, q3⟩ := repl_zip hk hd qx (ks := ks) e.2 (by simpa using l) q2
          rw [List.zip_cons_cons, List.map_cons, e3]
          by_cases hak : a = k
          · refine ⟨w :: vs', ?_, by simp [l3], ?_⟩
            · rw [if_pos (show ((a, v) : κ × V).1 = k from hak)]; rfl
            · rw [dRepl, if_pos (by rw [hk e.1 hd]; exact decide_eq_true hak)]
              exact ValL.cons qx q3
          · refine ⟨v :: vs', ?_, by simp [l3], ?_⟩
            · rw [if_neg (show ¬ ((a, v) : κ × V).1 = k from hak)]; rfl
            · rw [dRepl, if_neg (by rw [hk e.1 hd, decide_eq_false hak]; exact Bool.false_ne_true)]
              exact ValL.cons q1 q3
theorem put_zip {kf : D → Option κ} (hk : ∀ {a b : D} {j k : κ}, kf a = some j → kf b = some k → D.beq a b = decide (j = k)) {K : Wd} {H : Hp} {F : Addr → Prop} {d x : D} {k : κ} {w : V} (hd : kf d = some k) (qx : Val K H F x w)
    {ks xs : List D} {kk : List κ} {vs : List V} (e : ks.map kf = kk.map some) (l : ks.length = vs.length) (q : ValL K H F xs vs) :
    ∃ (kk' : List κ) (vs' : List V), putK (kk.zip vs) k w = kk'.zip vs' ∧ (dPutK d ks).map kf = kk'.map some ∧ (dPutK d ks).length = vs'.length ∧ ValL K H F (dPutV d x ks xs) vs' := by
  have ha := any_zip hk hd e l
  unfold putK dPutK dPutV
  rw [ha]
  cases hb : dHas d ks with
  | true =>
    obtain ⟨vs', e3, l3, q3⟩ := repl_zip hk hd qx e l q
    exact ⟨kk, vs', e3, e, by rw [l3]; exact l, q3⟩
  | false =>
    have hkl : kk.length = vs.length := by have := congrArg List.length e; simp only [List.length_map] at this; omega
    refine ⟨kk ++ [k], vs ++ [w], ?_, ?_, by simp [l], q.append (ValL.cons qx ValL.nil)⟩
    · show kk.zip vs ++ [(k, w)] = _
      rw [List.zip_append hkl]; rfl
    · show (ks ++ [d]).map kf = _
      rw [List.map_append, List.map_append, e]
      simp [hd]
end

section
variable {K : Wd} {H : Hp} {F : Addr → Prop}
theorem key_val {d : D} {k : Key} {v : V} (h : keyOf d = some k) (b : Bor K H F d v) : v = kV k := by
  cases d <;> simp only [keyOf, reduceCtorEq, Option.some.injEq] at h
  · subst h; exact b.int
  · subst h; exact b.str
theorem keys_val : ∀ {ds : List D} {ks : List Key} {vs : List V}, keysOf ds = some ks → ValL K H F ds vs → vs = ks.map kV
  | [], ks, vs, h, q => by cases h; unfold ValL at q; exact q
  | d :: ds, ks, vs, h, q => by
    simp only [keysOf] at h
    split at h
    · rename_i k l h1 h2
      cases h
      unfold ValL at q
      obtain ⟨v, r, rfl, q1, q2⟩ := q
      rw [key_val h1 q1.bor, keys_val h2 q2]; rfl
    · cases h
/-- a key of tuples, at its address -/
theorem keyT_val {d : D} {k : List Key} {v : V} (h : keyTOf d = some k) (b : Bor K H F d v) : ∃ a, v = .ref a ∧ H a = some (.tup (k.map kV)) := by
  obtain ⟨xs, rfl, e, c⟩ := keyTOf_some h
  obtain ⟨a, vs, rfl, _, q, l⟩ := b.tupC
  rcases q with q | q
  · rw [c] at q; cases q
  · exact ⟨a, rfl, by rw [q, keys_val e l]⟩
mutual
theorem nk_beq : ∀ {a b : D} {j k : NestedKey}, nkOf a = some j → nkOf b = some k → D.beq a b = NestedKey.beq j k
  | .int i, b, j, k, h, q => by
    simp only [nkOf, Option.some.injEq] at h
    subst h
    cases b <;> simp only [nkOf, reduceCtorEq, Option.some.injEq] at q
    · subst q; rfl
    · subst q; rfl
    · split at q
      · cases q
      · obtain ⟨l, _, rfl⟩ := Option.map_eq_some_iff.mp q; rfl
  | .str s, b, j, k, h, q => by
    simp only [nkOf, Option.some.injEq] at h
    subst h
    cases b <;> simp only [nkOf, reduceCtorEq, Option.some.injEq] at q
    · subst q; rfl
    · subst q; rfl
    · split at q
      · cases q
      · obtain ⟨l, _, rfl⟩ := Option.map_eq_some_iff.mp q; rfl
  | .tup xs, b, j, k, h, q => by
    simp only [nkOf] at h
    split at h
    · cases h
    obtain ⟨js, hj, rfl⟩ := Option.map_eq_some_iff.mp h
    cases b <;> simp only [nkOf, reduceCtorEq, Option.some.injEq] at q
    · subst q; rfl
    · subst q; rfl
    · split at q
      · cases q
      · obtain ⟨ks, hk, rfl⟩ := Option.map_eq_some_iff.mp q
        rw [D.beq, NestedKey.beq]
        exact nkL_beq hj hk
  | .non, _, _, _, h, _ => by simp [nkOf] at h
  | .bl _, _, _, _, h, _ => by simp [nkOf] at h
  | .lst _, _, _, _, h, _ => by simp [nkOf] at h
  | .dct _ _ _, _, _, _, h, _ => by simp [nkOf] at h
  | .fn _, _, _, _, h, _ => by simp [nkOf] at h
  | .obj _ _ _, _, _, _, h, _ => by simp [nkOf] at h
  | .box _, _, _, _, h, _ => by simp [nkOf] at h
  | .gone, _, _, _, h, _ => by simp [nkOf] at h
  | .scr _, _, _, _, h, _ => by simp [nkOf] at h
theorem nkL_beq : ∀ {a b : List D} {j k : List NestedKey}, nkOfL a = some j → nkOfL b = some k → D.beqL a b = NestedKey.beqAll j k
  | [], b, j, k, h, q => by
    simp only [nkOfL, Option.some.injEq] at h
    subst h
    cases b with
    | nil => simp only [nkOfL, Option.some.injEq] at q; subst q; rfl
    | cons y ys =>
      simp only [nkOfL] at q
      split at q
      · cases q; rfl
      · cases q
  | x :: xs, b, j, k, h, q => by
    simp only [nkOfL] at h
    split at h
    case h_2 => cases h
    rename_i j1 jl h1 h2
    cases h
    cases b with
    | nil => simp only [nkOfL, Option.some.injEq] at q; subst q; rfl
    | cons y ys =>
      simp only [nkOfL] at q
      split at q
      case h_2 => cases q
      rename_i k1 kl q1 q2
      cases q
      rw [D.beqL, NestedKey.beqAll, nk_beq h1 q1, nkL_beq h2 q2]
end
theorem keyNOf_some {d : D} {k : NestedKey} (h : keyNOf d = some k) : ∃ xs, d = .tup xs ∧ nkOf d = some k ∧ k.depth ≤ 8 := by
  unfold keyNOf at h
  split at h
  · split at h
    · rename_i hk
      split at h
      · rename_i hd
        cases h
        exact ⟨_, rfl, hk, hd⟩
      · cases h
    · cases h
  · cases h
theorem keyNOf_beq {a b : D} {j k : NestedKey} (h : keyNOf a = some j) (q : keyNOf b = some k) : D.beq a b = decide (j = k) := by
  obtain ⟨_, _, h1, _⟩ := keyNOf_some h
  obtain ⟨_, _, q1, _⟩ := keyNOf_some q
  rw [NestedKey.decide_eq, nk_beq h1 q1]
theorem cst_cst : ∀ xs : List D, cstL xs = isCst xs
  | [] => rfl
  | [d] => by cases d <;> rfl
  | _ :: _ :: _ => rfl
mutual
theorem val_nk : ∀ {d : D} {k : NestedKey} {v : V}, nkOf d = some k → Val K H F d v → KAt H k v
  | .int i, k, v, h, q => by
    simp only [nkOf, Option.some.injEq] at h
    subst h
    unfold Val at q
    unfold KAt
    exact q
  | .str s, k, v, h, q => by
    simp only [nkOf, Option.some.injEq] at h
    subst h
    unfold Val at q
    unfold KAt
    exact q
  | .tup xs, k, v, h, q => by
    simp only [nkOf] at h
    split at h
    · cases h
    rename_i hc
    obtain ⟨js, hj, rfl⟩ := Option.map_eq_some_iff.mp h
    unfold Val at q
    obtain ⟨a, vs, rfl, _, c, l⟩ := q
    rw [cst_cst] at hc
    unfold KAt
    exact ⟨a, vs, rfl, c.resolve_left hc, vals_nk hj l⟩
  | .non, _, _, h, _ => by simp [nkOf] at h
  | .bl _, _, _, h, _ => by simp [nkOf] at h
  | .lst _, _, _, h, _ => by simp [nkOf] at h
  | .dct _ _ _, _, _, h, _ => by simp [nkOf] at h
  | .fn _, _, _, h, _ => by simp [nkOf] at h
  | .obj _ _ _, _, _, h, _ => by simp [nkOf] at h
  | .box _, _, _, h, _ => by simp [nkOf] at h
  | .gone, _, _, h, _ => by simp [nkOf] at h
  | .scr _, _, _, h, _ => by simp [nkOf] at h
theorem vals_nk : ∀ {ds : List D} {ks : List NestedKey} {vs : List V}, nkOfL ds = some ks → ValL K H F ds vs → KAtL H ks vs
  | [], ks, vs, h, q => by
    simp only [nkOfL, Option.some.injEq] at h
    subst h
    unfold ValL at q
    unfold KAtL
    exact q
  | d :: ds, ks, vs, h, q => by
    simp only [nkOfL] at h
    split at h
    case h_2 => cases h
    rename_i k1 kl h1 h2
    cases h
    unfold ValL at q
    obtain ⟨v, r, rfl, a, b⟩ := q
    unfold KAtL
    exact ⟨v, r, rfl, val_nk h1 a, vals_nk h2 b⟩
end
/-- a key of tuples within tuples, at its address -/
theorem keyN_val {d : D} {k : NestedKey} {v : V} (h : keyNOf d = some k) (b : Bor K H F d v) : ∃ a, v = .ref a ∧ KAt H k (.ref a) ∧ k.depth ≤ 8 := by
  obtain ⟨xs, rfl, h1, h2⟩ := keyNOf_some h
  have q := val_nk h1 (b.val (by intro _ z; cases z) (by intro _ _ _ z; cases z))
  obtain ⟨a, _, rfl, _⟩ := b.tup
  exact ⟨a, rfl, q, h2⟩
theorem nzip (es : List NEn) : (es.map (·.1)).zip (es.map (·.2.2)) = nKV es := by
  induction es with
  | nil => rfl
  | cons x es ih =>
    rw [List.map_cons, List.map_cons, List.zip_cons_cons, ih]
    rfl
theorem DAt.rd {w : World} {a : Addr} {t : Nat} {ks xs : List D} {us : List V} {k : D} {y : V} (h : DAt w H a t ks us) (q : ValL K H F xs us) (hk : isKey t k = true) (b : Bor K H F k y) :
    ∃ r, DGetX w H a y r ∧ (∀ v, dLook k ks xs = some v → ∃ w, r = some w ∧ Val K H F v w) ∧ (dLook k ks xs = none → r = none) := by
  match t, h, hk with
  | 0, ⟨l, kk, e, ha⟩, hk =>
    obtain ⟨k', hk'⟩ := Option.isSome_iff_exists.mp (show (keyOf k).isSome = true from hk)
    have z := look_zip (kf := keyOf) (fun h1 h2 => keyOf_beq h1 h2) hk' e l q
    rw [key_val hk' b]
    exact ⟨_, .inl (DGet.k ha), z⟩
  | 1, ⟨l, kk, e, ha⟩, hk =>
    obtain ⟨k', hk'⟩ := Option.isSome_iff_exists.mp (show (keyTOf k).isSome = true from hk)
    have z := look_zip (kf := keyTOf) (fun h1 h2 => keyTOf_beq h1 h2) hk' e l q
    obtain ⟨c, rfl, hc⟩ := keyT_val hk' b
    exact ⟨_, .inl (DGet.t ha hc), z⟩
  | 2, ⟨l, es, e, eu, ha, hk2⟩, hk =>
    obtain ⟨k', hk'⟩ := Option.isSome_iff_exists.mp (show (keyNOf k).isSome = true from hk)
    have z := look_zip (kf := keyNOf) (fun h1 h2 => keyNOf_beq h1 h2) hk' e l q
    obtain ⟨c, rfl, hc, hd⟩ := keyN_val hk' b
    rw [eu, nzip] at z
    exact ⟨_, .inr ⟨es, k', c, ha, hk2, rfl, hc, hd, rfl⟩, z⟩
  | t + 3, _, hk => cases hk
/-- .. of a dict that is walked -/
theorem DAt.rdL {w : World} {a : Addr} {t : Nat} {ks xs : List D} {us : List V} {k : D} {y : V} (h : DAt w H a (t + 10) ks us) (q : ValL K H F xs us) (hk : isKey t k = true) (b : Bor K H F k y) :
    ∃ r, DGetX w H a y r ∧ (∀ v, dLook k ks xs = some v → ∃ w, r = some w ∧ Val K H F v w) ∧ (dLook k ks xs = none → r = none) := by
  match t, h, hk with
  | 0, ⟨l, kk, e, od, ha⟩, hk =>
    obtain ⟨k', hk'⟩ := Option.isSome_iff_exists.mp (show (keyOf k).isSome = true from hk)
    have z := look_zip (kf := keyOf) (fun h1 h2 => keyOf_beq h1 h2) hk' e l q
    rw [key_val hk' b]
    exact ⟨_, .inl (.inl ⟨_, _, .inr ⟨od, ha⟩, rfl, rfl⟩), z⟩
  | 1, ⟨l, kk, e, od, ha⟩, hk =>
    obtain ⟨k', hk'⟩ := Option.isSome_iff_exists.mp (show (keyTOf k).isSome = true from hk)
    have z := look_zip (kf := keyTOf) (fun h1 h2 => keyTOf_beq h1 h2) hk' e l q
    obtain ⟨c, rfl, hc⟩ := keyT_val hk' b
    exact ⟨_, .inl (.inr ⟨_, _, c, .inr ⟨od, ha⟩, rfl, hc, rfl⟩), z⟩
  | t + 2, ⟨_, h⟩, hk => exact h.elim
theorem DAt.wr {a : Addr} {t : Nat} {ks xs : List D} {us : List V} {k x : D} {y w : V} {ts : Things} (s : Sep K H F ((.own (.dct t ks xs), some (.ref a)) :: ts)) (hk : isKey t k = true) (hl : ks.length < sizeLine) (b : Bor K H F k y) (qx : Val K H F x w) :
    ∃ H', DPutX K.w H a y w H' ∧ Sep K H' F ((.own (.dct t (dPutK k ks) (dPutV k x ks xs)), some (.ref a)) :: ts) := by
  obtain ⟨a', us, e0, h, q⟩ := s.head_ownD
  cases e0
  match t, h, hk, s with
  | 0, ⟨l, kk, e, ha⟩, hk, s =>
    obtain ⟨k', hk'⟩ := Option.isSome_iff_exists.mp (show (keyOf k).isSome = true from hk)
    obtain ⟨kk', vs', e1, e2, e3, q3⟩ := put_zip (kf := keyOf) (fun h1 h2 => keyOf_beq h1 h2) hk' qx e l q
    rw [key_val hk' b]
    refine ⟨_, .inl (DPut.k ha ?_), s.writeD fun _ pr => ?_⟩
    · have := List.length_zip (l₁ := kk) (l₂ := us); omega
    · unfold OwnD
      exact ⟨a, vs', rfl, ⟨e3, kk', e2, by rw [upd_same, e1]⟩, q3.mono (fun _ z => z) pr, rfl⟩
  | 1, ⟨l, kk, e, ha⟩, hk, s =>
    obtain ⟨k', hk'⟩ := Option.isSome_iff_exists.mp (show (keyTOf k).isSome = true from hk)
    obtain ⟨kk', vs', e1, e2, e3, q3⟩ := put_zip (kf := keyTOf) (fun h1 h2 => keyTOf_beq h1 h2) hk' qx e l q
    obtain ⟨c, rfl, hc⟩ := keyT_val hk' b
    refine ⟨_, .inl (DPut.t ha hc ?_), s.writeD fun _ pr => ?_⟩
    · have := List.length_zip (l₁ := kk) (l₂ := us); omega
    · unfold OwnD
      exact ⟨a, vs', rfl, ⟨e3, kk', e2, by rw [upd_same, e1]⟩, q3.mono (fun _ z => z) pr, rfl⟩
  | 2, ⟨l, es, e, eu, ha, hk2⟩, hk, s =>
    obtain ⟨k', hk'⟩ := Option.isSome_iff_exists.mp (show (keyNOf k).isSome = true from hk)
    obtain ⟨kk', vs', e1, e2, e3, q3⟩ := put_zip (kf := keyNOf) (fun h1 h2 => keyNOf_beq h1 h2) hk' qx e l q
    obtain ⟨c, rfl, hc, hd⟩ := keyN_val hk' b
    rw [eu, nzip, ← nPut_kv (b := c)] at e1
    have lk : kk'.length = vs'.length := by have := congrArg List.length e2; simp only [List.length_map] at this; omega
    have ek : (nPut es k' c w).map (·.1) = kk' := by
      have := congrArg (List.map Prod.fst) e1
      rw [List.map_fst_zip (by omega)] at this
      rw [← this]
      simp [nKV, List.map_map, Function.comp_def]
    have ev : vs' = (nPut es k' c w).map (·.2.2) := by
      have := congrArg (List.map Prod.snd) e1
      rw [List.map_snd_zip (by omega)] at this
      rw [← this]
      simp [nKV, List.map_map, Function.comp_def]
    refine ⟨_, .inr ⟨es, k', c, ha, hk2, rfl, hc, hd, ?_, rfl⟩, s.writeD fun _ pr => ?_⟩
    · have := congrArg List.length e; simp only [List.length_map] at this; omega
    · unfold OwnD
      refine ⟨a, vs', rfl, ⟨e3, nPut es k' c w, by rw [ek]; exact e2, ev, upd_same, ?_⟩, q3.mono (fun _ z => z) pr, rfl⟩
      exact nPut_all (R := fun k b => KAt _ k (.ref b) ∧ k.depth ≤ 8) (fun x hx => ⟨(hk2 x hx).1.keep fun b xs z => pr _ _ z (.inr (.inl ⟨xs, rfl⟩)), (hk2 x hx).2⟩) ⟨hc.keep fun b xs z => pr _ _ z (.inr (.inl ⟨xs, rfl⟩)), hd⟩
  | t + 3, _, hk, _ => cases hk
end

section
variable {E : Wo} {X : Cx} {o : Bool}
theorem ev2_ok {f : D → D → R D} {ds : List D} {d : D} (h : ev2 f ds = .ok d) : ∃ a b, ds = [a, b] ∧ f a b = .ok d := by
  unfold ev2 at h
  split at h
  · exact ⟨_, _, rfl, h⟩
  · cases h
theorem evDin_ok {a k d : D} (h : evDin a k = .ok d) : ∃ t ks xs, a = .dct t ks xs ∧ isKey t k = true ∧ d = .bl (dLook k ks xs).isSome := by
  unfold evDin at h
  split at h
  · split at h
    · rename_i hk; cases h; exact ⟨_, _, _, rfl, hk, rfl⟩
    · cases h
  · cases h
theorem o_din (hu : X.A.units + 20 < cLine) : OpR X (compareOp .In) (r2 (wd E X) o .din) := by
  intro pins s σ H x y v u Q I rx ry h
  obtain ⟨F, ts, ds, d, hs, hb, he, hq⟩ := h
  obtain ⟨k, a, rfl, e⟩ := ev2_ok (show ev2 _ _ = .ok d from he)
  obtain ⟨t, ks, xs, rfl, hk, rfl⟩ := evDin_ok e
  obtain ⟨_, _, e2, b1, b2⟩ := hb.b2
  cases e2
  obtain ⟨p, us, rfl, da, l⟩ := b2.dct
  cases ry
  obtain ⟨r, g, h1, h2⟩ := da.rd l hk b1
  refine dx_in hu I g rx fun s3 I3 => ⟨.bl r.isSome, H, I3, rfl, ?_⟩
  have : r.isSome = (dLook k ks xs).isSome := by
    cases hl : dLook k ks xs with
    | none => rw [h2 hl]; rfl
    | some v => obtain ⟨w, e, _⟩ := h1 v hl; rw [e]; rfl
  rw [this]
  exact hq.bl hs
theorem o_dnin (hu : X.A.units + 20 < cLine) : OpR X (compareOp .NotIn) (r2 (wd E X) o .dnin) := by
  intro pins s σ H x y v u Q I rx ry h
  obtain ⟨F, ts, ds, d, hs, hb, he, hq⟩ := h
  obtain ⟨w, he2, rfl⟩ := notR_ok (show notR _ = .ok d from he)
  obtain ⟨k, a, rfl, e⟩ := ev2_ok he2
  obtain ⟨t, ks, xs, rfl, hk, ew⟩ := evDin_ok e
  cases ew
  obtain ⟨_, _, e2, b1, b2⟩ := hb.b2
  cases e2
  obtain ⟨p, us, rfl, da, l⟩ := b2.dct
  cases ry
  obtain ⟨r, g, h1, h2⟩ := da.rd l hk b1
  refine dx_notIn hu I g rx fun s3 I3 => ⟨.bl (!r.isSome), H, I3, rfl, ?_⟩
  have : r.isSome = (dLook k ks xs).isSome := by
    cases hl : dLook k ks xs with
    | none => rw [h2 hl]; rfl
    | some v => obtain ⟨w, e, _⟩ := h1 v hl; rw [e]; rfl
  rw [this]
  exact hq.bl hs
theorem r_dget {x y : V} {H : Hp} {Q : VK} (h : rP (wd E X) false .dget [x, y] H Q) : ∃ a v, x = .ref a ∧ DGetX X.w H a y (some v) ∧ Q v H := by
  obtain ⟨F, ts, ds, d, hs, hb, he, hq⟩ := h
  obtain ⟨a, k, rfl, e⟩ := ev2_ok (show ev2 _ _ = .ok d from he)
  unfold evDget at e
  split at e
  · rename_i tt kks vvs
    split at e
    · rename_i hk
      split at e
      · rename_i v hv
        cases e
        obtain ⟨_, _, e2, b1, b2⟩ := hb.b2
        cases e2
        obtain ⟨p, us, rfl, da, l⟩ := b1.dct
        obtain ⟨r, g, h1, h2⟩ := da.rd l hk b2
        obtain ⟨w, rfl, qw⟩ := h1 _ hv
        exact ⟨p, w, rfl, g, hq _ _ _ hs qw⟩
      · cases e
    · split at e
      · rename_i hk2
        split at e
        · rename_i v hv
          cases e
          simp only [Bool.and_eq_true, decide_eq_true_eq] at hk2
          obtain ⟨_, _, e2, b1, b2⟩ := hb.b2
          cases e2
          obtain ⟨p, us, rfl, da, l⟩ := b1.dct
          obtain ⟨t', rfl⟩ : ∃ t', tt = t' + 10 := ⟨tt - 10, by omega⟩
          rw [Nat.add_sub_cancel] at hk2
          obtain ⟨r, g, h1, h2⟩ := da.rdL l hk2.2 b2
          obtain ⟨w, rfl, qw⟩ := h1 _ hv
          exact ⟨p, w, rfl, g, hq _ _ _ hs qw⟩
        · cases e
      · cases e
  · cases e
/-- a dict that is made -/
theorem PQ.dnew2 {K : Wd} {H : Hp} {F : Addr → Prop} {ts : Things} {Q : VK} (h : PQ o K ts (.dct 2 [] []) Q) (s : Sep K H F ts) : ∀ p, H p = none → Q (.ref p) (upd H p (NDict K.w p [])) := fun p hp => h.own rfl (s.conNew hp (by
  unfold OwnD
  exact ⟨p, [], rfl, ⟨rfl, [], rfl, rfl, upd_same, fun x hx => nomatch hx⟩, ValL.nil, rfl⟩))
theorem PQ.dnew0 {K : Wd} {H : Hp} {F : Addr → Prop} {ts : Things} {Q : VK} (h : PQ o K ts (.dct 0 [] []) Q) (s : Sep K H F ts) : ∀ p, H p = none → Q (.ref p) (upd H p (.dK [])) := fun p hp => h.own rfl (s.dctNew0 hp)
theorem PQ.dnew1 {K : Wd} {H : Hp} {F : Addr → Prop} {ts : Things} {Q : VK} (h : PQ o K ts (.dct 1 [] []) Q) (s : Sep K H F ts) : ∀ p, H p = none → Q (.ref p) (upd H p (.dT [])) := fun p hp => h.own rfl (s.dctNew1 hp)
end

/-! ### o[k] = v, by data -/
section
variable {E : Wo} {X : Cx}
/-- the container at o, its things -/
def rSetP (K : Wd) : TSet := fun o i v H Q => ∃ F ts d k x d', Sep K H F ((.own d, some o) :: ts) ∧ Bor K H F k i ∧ Val K H F x v ∧ evSet d k x = .ok d' ∧ ∀ H' , Sep K H' F ((.own d', some o) :: ts) → Q H'
theorem set_data (hu : X.A.units + 20 < cLine) : PSet X (rSetP (wd E X)) := by
  intro pins s σ H o i v ov iv u Q I ro ri rv h
  obtain ⟨F, ts, d, k, x, d', hs, bk, vx, he, q⟩ := h
  unfold evSet at he
  split at he
  · split at he
    · rename_i j hj
      cases he
      obtain ⟨a, vs, e, ha, l⟩ := hs.head_own
      cases e
      cases bk.int
      refine set_list pins s σ H _ _ v ov iv u Q I ro ri rv ⟨a, vs, _, j, rfl, rfl, ha, by rw [← l.length]; exact hj, q _ ?_⟩
      exact hs.write (l.set vx j)
    · cases he
  · split at he
    · rename_i hk
      simp only [Bool.and_eq_true, decide_eq_true_eq] at hk
      cases he
      obtain ⟨a, us, e, ha, l⟩ := hs.head_ownD
      cases e
      obtain ⟨H', dp, s'⟩ := DAt.wr (us := us) hs hk.1 hk.2 bk vx
      exact set_dictX hu pins s σ H _ _ v ov iv u Q I ro ri rv ⟨a, H', rfl, dp, q _ s'⟩
    · cases he
  · cases he

/-! ### methods that change their own -/
def rMu (K : Wd) (m : Mut) : V → List V → Hp → VK → Prop := fun x vs H Q => ∃ F ts d ds r, Sep K H F ((.own d, some x) :: ts) ∧ ValL K H F ds vs ∧ evMut m d ds = .ok r ∧ ∀ v H', Sep K H' F ((.own r.2, some x) :: ts) → Val K H' F r.1 v → Q v H'
theorem mu_fin {K : Wd} {H H' : Hp} {F : Addr → Prop} {ts : Things} {d : D} {x : V} {ys : List D} {ws : List V} {a : Addr} (s : Sep K H F ((.own d, some (.ref a)) :: ts)) (hd : ∃ xs, d = .lst xs) (l : ValL K H F ys ws) :
    Sep K (upd H a (.lst ws)) F ((.own (.lst ys), some (.ref a)) :: ts) := by
  obtain ⟨xs, rfl⟩ := hd
  exact s.write l
theorem m_app : MtR X "list.append" (rMu (wd E X) .app) := by
  intro pins s σ H x vs v us Q I rx rv h
  obtain ⟨F, ts, d, ds, r, hs, l, he, q⟩ := h
  unfold evMut at he
  split at he <;> first | (cases he; done) | (rename_i hm; cases hm; done) | skip
  rename_i xs y _
  split at he
  · rename_i hz
    cases he
    obtain ⟨a, ws, e, ha, lw⟩ := hs.head_own
    cases e
    unfold ValL at l
    obtain ⟨w, r', rfl, qw, l'⟩ := l
    unfold ValL at l'
    subst l'
    exact mt_append pins s σ H _ _ v us Q I rx rv ⟨a, ws, w, rfl, rfl, ha, by rw [← lw.length]; exact hz, q _ _ (hs.write (lw.append (ValL.cons qw ValL.nil))) val_non⟩
  · cases he
theorem m_ext : MtR X "list.extend" (rMu (wd E X) .ext) := by
  intro pins s σ H x vs v us Q I rx rv h
  obtain ⟨F, ts, d, ds, r, hs, l, he, q⟩ := h
  unfold evMut at he
  split at he <;> first | (cases he; done) | (rename_i hm; cases hm; done) | skip
  rename_i xs ys _
  split at he
  · rename_i hz
    cases he
    obtain ⟨a, ws, e, ha, lw⟩ := hs.head_own
    cases e
    unfold ValL at l
    obtain ⟨w, r', rfl, qw, l'⟩ := l
    unfold ValL at l'
    subst l'
    unfold Val at qw
    obtain ⟨b, us', rfl, _, hb, lb⟩ := qw
    exact mt_extend pins s σ H _ _ v us Q I rx rv ⟨a, b, ws, us', rfl, rfl, ha, hb, by rw [← lw.length, ← lb.length]; exact hz, q _ _ (hs.write (lw.append lb)) val_non⟩
  · cases he
theorem m_pop : MtR X "list.pop" (rMu (wd E X) .pop) := by
  intro pins s σ H x vs v us Q I rx rv h
  obtain ⟨F, ts, d, ds, r, hs, l, he, q⟩ := h
  unfold evMut at he
  split at he <;> first | (cases he; done) | (rename_i hm; cases hm; done) | skip
  rename_i xs _
  split at he
  · rename_i y hy
    cases he
    obtain ⟨a, ws, e, ha, lw⟩ := hs.head_own
    cases e
    unfold ValL at l
    subst l
    rw [List.getLast?_eq_getElem?] at hy
    obtain ⟨w, ew, qw⟩ := lw.get hy
    rw [lw.length] at ew
    have pr := hs.writeD (o := .lst ws.dropLast) (d' := .lst xs.dropLast) fun _ pr => by
      unfold OwnD
      exact ⟨a, _, rfl, upd_same, lw.dropLast.mono (fun _ z => z) pr, rfl⟩
    have hs2 := hs.push qw
    have hs3 : Sep (wd E X) H F ((.own (.lst xs), some (.ref a)) :: (.fz y, some w) :: ts) := hs2.perm (List.Perm.swap _ _ _)
    have hs4 := hs3.write lw.dropLast
    have vw := (hs4.perm (List.Perm.swap _ _ _)).val
    obtain ⟨w', e', qw'⟩ := vw
    cases e'
    exact mt_pop pins s σ H _ _ v us Q I rx rv ⟨a, ws, w, rfl, rfl, ha, ew, q _ _ pr qw'⟩
  · cases he
theorem m_rev : MtR X "list.reverse" (rMu (wd E X) .rev) := by
  intro pins s σ H x vs v us Q I rx rv h
  obtain ⟨F, ts, d, ds, r, hs, l, he, q⟩ := h
  unfold evMut at he
  split at he <;> first | (cases he; done) | (rename_i hm; cases hm; done) | skip
  cases he
  obtain ⟨a, ws, e, ha, lw⟩ := hs.head_own
  cases e
  unfold ValL at l
  subst l
  exact mt_reverse pins s σ H _ _ v us Q I rx rv ⟨a, ws, rfl, rfl, ha, q _ _ (hs.write lw.reverse) val_non⟩
theorem m_clr : MtR X "list.clear" (rMu (wd E X) .clr) := by
  intro pins s σ H x vs v us Q I rx rv h
  obtain ⟨F, ts, d, ds, r, hs, l, he, q⟩ := h
  unfold evMut at he
  split at he <;> first | (cases he; done) | (rename_i hm; cases hm; done) | skip
  cases he
  obtain ⟨a, ws, e, ha, lw⟩ := hs.head_own
  cases e
  unfold ValL at l
  subst l
  exact mt_clear pins s σ H _ _ v us Q I rx rv ⟨a, ws, rfl, rfl, ha, q _ _ (hs.write ValL.nil) val_non⟩
theorem m_ins : MtR X "list.insert" (rMu (wd E X) .ins) := by
  intro pins s σ H x vs v us Q I rx rv h
  obtain ⟨F, ts, d, ds, r, hs, l, he, q⟩ := h
  unfold evMut at he
  split at he <;> first | (cases he; done) | (rename_i hm; cases hm; done) | skip
  rename_i xs k y _
  split at he
  · rename_i hz
    split at he
    · rename_i hk
      cases he
      obtain ⟨a, ws, e, ha, lw⟩ := hs.head_own
      cases e
      unfold ValL at l
      obtain ⟨w, r', rfl, qw, l'⟩ := l
      unfold Val at qw
      subst qw
      unfold ValL at l'
      obtain ⟨w2, r2, rfl, qw2, l2⟩ := l'
      unfold ValL at l2
      subst l2
      have hl := line63
      refine mt_insert pins s σ H _ _ v us Q I rx rv ⟨a, ws, k, w2, rfl, rfl, ha, by rw [← lw.length]; exact hz, hk.1, by omega, q _ _ (hs.write ?_) val_non⟩
      rw [List.append_assoc]
      exact (lw.take _).append (ValL.cons qw2 (lw.drop _))
    · cases he
  · cases he
theorem m_popAt : MtR X "list.pop" (rMu (wd E X) .popAt) := by
  intro pins s σ H x vs v us Q I rx rv h
  obtain ⟨F, ts, d, ds, r, hs, l, he, q⟩ := h
  unfold evMut at he
  split at he <;> first | (cases he; done) | (rename_i hm; cases hm; done) | skip
  rename_i xs k _
  split at he
  · rename_i hk
    split at he
    · rename_i y hy
      cases he
      obtain ⟨a, ws, e, ha, lw⟩ := hs.head_own
      cases e
      unfold ValL at l
      obtain ⟨w0, r', rfl, qw0, l'⟩ := l
      unfold Val at qw0
      subst qw0
      unfold ValL at l'
      subst l'
      obtain ⟨w, ew, qw⟩ := lw.get hy
      have le : ValL (wd E X) H F (xs.eraseIdx k.toNat) (ws.eraseIdx k.toNat) := by
        rw [List.eraseIdx_eq_take_drop_succ, List.eraseIdx_eq_take_drop_succ]
        exact (lw.take _).append (lw.drop _)
      have hs2 := hs.push qw
      have hs3 : Sep (wd E X) H F ((.own (.lst xs), some (.ref a)) :: (.fz y, some w) :: ts) := hs2.perm (List.Perm.swap _ _ _)
      have hs4 := hs3.write le
      obtain ⟨w', e', qw'⟩ := (hs4.perm (List.Perm.swap _ _ _)).val
      cases e'
      have hlt := (List.getElem?_eq_some_iff.mp ew).1
      have hl := line63
      have hz := I.hok a _ ha
      refine mt_popAt pins s σ H _ _ v us Q I rx rv ⟨a, ws, k, k.toNat, w, rfl, rfl, ha, by omega, ?_, ?_, ew, q _ _ (hs.write le) qw'⟩
      · have := hz.1; omega
      · exact seqIndex_of hk (by omega)
    · cases he
  · cases he
end
end Bk

/-! B4: when a text of the little language stands for one of the model's. -/
namespace Bk
open PySem PySem.Spec PyProof.Rows L2

/-! ### names -/
/-- the defs' names, the constants, the exceptions' classes (a class of one's own, or a built-in one) -/
structure Nm where
  fns : Nat → Option Str
  ios : Nat → Option (List Nat)
  consts : List (Str × D)
  cls : Nat → Option (Str × Bool)
  fnT : Nat → Option Str
  /-- which cells a text may write; may it call a function handed in -/
  fb : Str → Bool
  clo : Bool
  /-- defs that are no values -/
  big : Nat → Bool
def isGl (sc : Scope) (x : Str) : Bool := (sc.names.lookup x == some .globalImplicit) && !(x == ("__debug__" : Str))
def isVis (N : List Str) (sc : Scope) (i : Nat) (x : Str) : Bool :=
  decide (N[i]? = some x) && (sc.names.lookup x == some .local || sc.names.lookup x == some .cell || sc.names.lookup x == some .free) && !(x == ("__debug__" : Str)) && !(x == ("__classdict__" : Str))
def isLoc (N : List Str) (sc : Scope) (fnb : Str → Bool) (i : Nat) (x : Str) : Bool :=
  decide (N[i]? = some x) && (sc.names.lookup x == some .local || (sc.names.lookup x == some .cell && fnb x))
def nst : Expr → Bool
  | .Starred _ _ => false
  | _ => true
/-- a plain index -/
def plIx : Expr → Bool
  | .Slice _ _ _ _ => false
  | _ => true
/-- a receiver that is no call -/
def plRc : Expr → Bool
  | .Call _ _ _ _ => false
  | _ => true
def notSet : Expr → Bool
  | .Set _ _ _ => false
  | _ => true
/-- an expression whose test is its value's truth -/
def plT : Expr → Bool
  | .UnaryOp .Not _ _ => false
  | .BoolOp _ _ _ => false
  | .IfExp _ _ _ _ => false
  | .Compare _ _ _ _ => false
  | _ => true

def cmpO : CmpOp → Option Prim
  | .Eq => some .eq | .NotEq => some .ne | .Lt => some .lt | .LtE => some .le | .Gt => some .gt | .GtE => some .ge | .In => some .inn | .NotIn => some .notin
  | _ => none
def binO : Operator → Option Prim
  | .Add => some .add | .Sub => some .sub | .Mult => some .mul | .FloorDiv => some .fdiv | .Mod => some .mod | .Pow => some .pow
  | _ => none
def callN : Prim → Str
  | .len => "len" | .sum => "sum" | .maxl => "max" | .minl => "min" | .max2 => "max" | .min2 => "min" | .tupOf => "tuple" | .lstOf => "list" | .lstD => "list" | .strOf => "str" | .intOf => "int" | .all => "all"
  | _ => ""
def blts : List Str := ["len", "sum", "max", "min", "tuple", "list", "str", "int", "all", "range", "isinstance", "bool", "ValueError", "zip", "set"]
abbrev primEq (a b : Prim) : Bool := match a, b with
  | .add, .add => true | .sub, .sub => true | .mul, .mul => true | .fdiv, .fdiv => true | .mod, .mod => true | .pow, .pow => true
  | .eq, .eq => true | .ne, .ne => true | .lt, .lt => true | .le, .le => true | .gt, .gt => true | .ge, .ge => true | .inn, .inn => true | .notin, .notin => true
  | _, _ => false
theorem primEq_eq {a b : Prim} (h : primEq a b = true) : a = b := by
  cases a <;> cases b <;> first | rfl | exact absurd h Bool.false_ne_true
def constD : Const → Option D
  | .none => some .non
  | .bool b => some (.bl b)
  | .int i => some (.int i)
  | .str s => some (.str s)
  | _ => none
/-- one-word calls of built-ins -/
def isC1 : Prim → Bool
  | .len => true | .sum => true | .maxl => true | .minl => true | .tupOf => true | .lstOf => true | .lstD => true | .strOf => true | .intOf => true | .all => true
  | _ => false
def isC2 : Prim → Bool
  | .max2 => true | .min2 => true
  | _ => false
def isDisp : Prim → Bool
  | .tup => true | .lst => true
  | _ => false
def isNoneE : Expr → Bool
  | .Constant .none _ _ => true
  | _ => false

def argsCmp (p : Prim) (x : Expr) (o : CmpOp) (y : Expr) : Option (List Expr) :=
  match p with
  | .isN => match o with | .Is => (if isNoneE y then some [x] else none) | _ => none
  | .notN => match o with | .IsNot => (if isNoneE y then some [x] else none) | _ => none
  | .isB => match o with | .Is => (if notSet y then some [x, y] else none) | _ => none
  | .notB => match o with | .IsNot => (if notSet y then some [x, y] else none) | _ => none
  | .din => match o with | .In => (if notSet y then some [x, y] else none) | _ => none
  | .dnin => match o with | .NotIn => (if notSet y then some [x, y] else none) | _ => none
  | _ => match cmpO o with | some p' => if primEq p p' && notSet y then some [x, y] else none | none => none
def argsSub (p : Prim) (x y : Expr) : Option (List Expr) :=
  match p with
  | .idx => if plIx y then some [x, y] else none
  | .dget => if plIx y then some [x, y] else none
  | .slc a b => match y with | .Slice lo hi none _ => if lo.isSome == a && hi.isSome == b then some (x :: (lo.toList ++ hi.toList)) else none | _ => none
  | _ => none
def argsCall (sc : Scope) (p : Prim) (f : Str) (es : List Expr) : Option (List Expr) :=
  if isGl sc f then
    match p, es with
    | .isi t, [x, .Name g _] => if decide (f = "isinstance") && decide (g = Str.ofString t.py) && isGl sc g && nst x then some [x] else none
    | .lens, [.Call (.Name g _) [x] [] _] => if decide (f = "len") && decide (g = "set") && isGl sc g && nst x then some [x] else none
    | .lrg, [.Call (.Name g _) [x] [] _] => if decide (f = "list") && decide (g = "range") && isGl sc g && nst x then some [x] else none
    | p, [x] => if isC1 p && decide (f = callN p) && nst x then some [x] else none
    | p, [x, y] => if isC2 p && decide (f = callN p) && nst x && nst y then some [x, y] else none
    | _, _ => none
  else none
def isP : Prim → Prim → Bool
  | .neg, .neg => true | .tup, .tup => true | .lst, .lst => true | .maxd, .maxd => true
  | _, _ => false
theorem isP_eq {a b : Prim} (h : isP a b = true) : a = b := by
  cases a <;> cases b <;> first | rfl | exact absurd h Bool.false_ne_true
/-- an operation's arguments in the model's text -/
def args? (sc : Scope) (p : Prim) : Expr → Option (List Expr)
  | .BinOp x o y _ => match binO o with | some p' => if primEq p p' then some [x, y] else none | none => none
  | .Compare x [o] [y] _ => argsCmp p x o y
  | .UnaryOp .USub x _ => if isP p .neg then some [x] else none
  | .Subscript x y _ => argsSub p x y
  | .Call (.Name f _) es [] _ => argsCall sc p f es
  | .Call (.Name f _) [x] [⟨some k, y, _⟩] _ => if isP p .maxd && decide (f = "max") && isGl sc f && decide (k = "default") && nst x then some [x, y] else none
  | .Tuple es _ _ => if isP p .tup && es.all nst then some es else none
  | .List es _ => if isP p .lst && es.all nst then some es else none
  | _ => none

def metN : Met → Str
  | .join => "join" | .sidx => "index" | .lidx => "index" | .split => "split" | .words => "split"
def metA : Met → Nat
  | .join => 1 | .sidx => 1 | .lidx => 1 | .split => 1 | .words => 0
def mutN : Mut → Str
  | .app => "append" | .ext => "extend" | .pop => "pop" | .popAt => "pop" | .ins => "insert" | .rev => "reverse" | .clr => "clear"
def mutA : Mut → Nat
  | .app => 1 | .ext => 1 | .pop => 0 | .popAt => 1 | .ins => 2 | .rev => 0 | .clr => 0
section
variable (nm : Nm) (N : List Str) (io : List Nat) (sui : Option Nat)
/-- a place -/
def plE (sc : Scope) (p : Pl) : Expr → Bool
  | .Name x _ => p.f.isNone && isVis N sc p.i x
  | _ => false
def cmTgs (sc : Scope) (fnb : Str → Bool) : List Nat → List Expr → Bool
  | [], [] => true
  | i :: is, .Name x _ :: es => isLoc N sc fnb i x && !io.contains i && cmTgs sc fnb is es
  | _, _ => false
def cmTg (sc : Scope) (fnb : Str → Bool) : Tg → Expr → Bool
  | .v i, .Name x _ => isLoc N sc fnb i x && !io.contains i && decide (sui ≠ some i)
  | .t is, .Tuple es _ _ => sui.isNone && cmTgs N io sc fnb is es
  | _, _ => false
def ownNs : List Nat → List Expr → List (Str × Nat)
  | i :: is, .Name x _ :: es => (x, i) :: ownNs is es
  | _, _ => []
def ownN : Tg → Expr → List (Str × Nat)
  | .v i, .Name x _ => [(x, i)]
  | .t is, .Tuple es _ _ => ownNs is es
  | _, _ => []
/-- which arguments are lent -/
def ioPos : Nat → List P → List Nat
  | _, [] => []
  | n, .io _ :: es => n :: ioPos (n + 1) es
  | n, _ :: es => ioPos (n + 1) es
/-- arguments: of values, of what is looked at (b), of what is lent (l) -/
def cmAll (pl : Pl → Expr → Bool) (f : P → Expr → Bool) (b l : Bool) : List P → List Expr → Bool
  | [], [] => true
  | p :: ps, e :: es => (match p.kd with | .val => f p e | .bor q => b && pl q e | .io q => l && pl q e) && cmAll pl f b l ps es
  | _, _ => false
/-- the arguments of range -/
def argsRng (sc : Scope) : P → Expr → Option (List P × List Expr)
  | .op .rng1 as, .Call (.Name f _) [x] [] _ => if decide (f = "range") && isGl sc f && nst x then some (as, [x]) else none
  | .op .rng2 as, .Call (.Name f _) [x, y] [] _ => if decide (f = "range") && isGl sc f && nst x && nst y then some (as, [x, y]) else none
  | _, _ => none
/-- the arguments of zip -/
def argsZip (sc : Scope) : P → Expr → Option (List P × List Expr)
  | .op .zip2 as, .Call (.Name f _) [x, y] [] _ => if decide (f = "zip") && isGl sc f && nst x && nst y then some (as, [x, y]) else none
  | _, _ => none
def isZip : P → Bool
  | .op .zip2 _ => true
  | _ => false
/-- zip walks into tuples only -/
def zipTg (it : P) : Expr → Bool
  | .Tuple _ _ _ => true
  | _ => !isZip it
/-- an operation that is not done in an except suite -/
def calmP : Prim → Bool
  | .lstD => true | .lens => true | .lrg => true | .sum => true | .maxl => true | .maxd => true | .minl => true | .max2 => true | .min2 => true | .all => true
  | _ => false
/-- the ends of a slice are whole numbers -/
def slcOk : Prim → List P → Bool
  | .slc _ _, _ :: as => as.all isEnt
  | .slc _ _, [] => false
  | _, _ => true
/-- an expression that makes a new thing -/
def isNew : P → Bool
  | .op .idx _ => false
  | .op .dget _ => false
  | .op _ _ => true
  | .comp _ _ _ _ => true
  | .dnew _ => true
  | _ => false
/-- the arguments ahead of the one behind as, that one, those behind it -/
def cut : List P → List Expr → Option (List Expr × Expr × List Expr)
  | [], e :: es => some ([], e, es)
  | _ :: as, e :: es => match cut as es with | some (a, b, c) => some (e :: a, b, c) | none => none
  | _, [] => none
inductive Md where | val | tst | itr
/-- m: as a value, as a test, as what is walked -/
def cmP : Nat → Scope → Md → P → Expr → Bool
  | 0, _, _, _, _ => false
  | n + 1, sc, m, p, e => match m, p with
    | .itr, .bor q => plE N sc q e
    | .itr, p => match argsRng sc p e with
      | some (as, es) => cmAll (plE N sc) (cmP n sc .val) true false as es
      | none => match argsZip sc p e with
        | some (as, es) => cmAll (plE N sc) (cmP n sc .val) false false as es
        | none => notSet e && cmP n sc .val p e
    | .tst, .and a c => match e with
      | .BoolOp .And (x :: y :: es) pos => cmP n sc .tst a x && cmP n sc .tst c (if es.isEmpty then y else .BoolOp .And (y :: es) pos)
      | _ => false
    | .tst, .or a c => match e with
      | .BoolOp .Or (x :: y :: es) pos => cmP n sc .tst a x && cmP n sc .tst c (if es.isEmpty then y else .BoolOp .Or (y :: es) pos)
      | _ => false
    | .tst, .not a => match e with
      | .UnaryOp .Not x _ => cmP n sc .tst a x
      | _ => false
    | .tst, .ent _ => false
    | .tst, p => match e with
      | .Compare _ _ _ _ => cmP n sc .val p e
      | _ => plT e && cmP n sc .val p e
    | .val, .bor _ => false
    | .val, .io _ => false
    | .val, .cst d => match e with
      | .Constant c _ _ => match constD c with | some d' => D.beq d d' | none => false
      | .Name x _ => isGl sc x && (match nm.consts.lookup x with | some d' => D.beq d d' | none => false)
      | _ => false
    | .val, .ent p => cmP n sc .val p e
    | .val, .var i => match e with
      | .Name x _ => isVis N sc i x
      | _ => false
    | .val, .op p as => match args? sc p e with
      | some es => !(sui.isSome && calmP p) && slcOk p as && cmAll (plE N sc) (cmP n sc .val) (!isDisp p) false as es
      | none => false
    | .val, .call f as => match e with
      | .Call (.Name x _) es [] _ => sui.isNone && decide (nm.fns f = some x) && decide (nm.ios f = some (ioPos 0 as)) && isGl sc x && es.all nst && cmAll (plE N sc) (cmP n sc .val) false true as es
      | _ => false
    | .val, .callT f l as => match e with
      | .Call (.Name x _) (e0 :: es) [] _ => sui.isNone && decide (nm.fns f = some x) && decide (nm.ios f = some [0]) && isGl sc x && (e0 :: es).all nst && isNew l && cmP n sc .val l e0 && cmAll (plE N sc) (cmP n sc .val) false false as es
      | _ => false
    | .val, .fnv f => match e with
      | .Name x _ => isGl sc x && decide (nm.fns f = some x) && !nm.big f
      | _ => false
    | .val, .callV i gs as => match e with
      | .Call (.Name x _) (e0 :: es) [] _ => sui.isNone && isVis N sc i x && (e0 :: es).all nst && gs.all (fun g => (decide (nm.fns g = none) && decide (nm.fnT g = none)) || ((nm.fns g).isSome && decide (nm.ios g = some []) && !nm.big g)) && cmAll (plE N sc) (cmP n sc .val) false false as (e0 :: es)
      | _ => false
    | .val, .callU f as l bs => match e with
      | .Call (.Name x _) (e0 :: es) [] _ => match cut as (e0 :: es) with
        | some (es1, e1, es2) => sui.isNone && decide (nm.fns f = some x) && decide (nm.ios f = some [as.length]) && isGl sc x && (e0 :: es).all nst && isNew l && cmAll (plE N sc) (cmP n sc .val) false false as es1 && cmP n sc .val l e1 && cmAll (plE N sc) (cmP n sc .val) false false bs es2
        | none => false
      | _ => false
    | .val, .rput q p => match e with
      | .Call (.Attribute (.Name x xp) w ap) [y] [] pos => sui.isNone && decide (w = "put") && decide (nm.cls 100 = some (("Row" : Str), false)) && nst y && (ap.endLine == pos.line) && plE N sc q (.Name x xp) && cmP n sc .val p y
      | _ => false
    | .val, .llG i j k => match e with
      | .Subscript (.Subscript (.Name x _) (.Name y _) _) (.Name z _) _ => isVis N sc i x && isVis N sc j y && isVis N sc k z
      | _ => false
    | .val, .llV i => match e with
      | .Name x _ => isVis N sc i x
      | _ => false
    | .val, .rep p0 y z y2 z2 => match p0, e with
      | .met .join (.cst (.str c')) [p], .Call (.Attribute (.Call (.Attribute (.Call (.Attribute (.Constant (.str c) _ _) m0 ap0) [x] [] pos0) m1 ap1) [.Constant (.str a1) _ _, .Constant (.str b1) _ _] [] pos1) m2 ap2) [.Constant (.str a2) _ _, .Constant (.str b2) _ _] [] pos2 =>
        decide (c' = c) && decide (m0 = "join") && decide (m1 = "replace") && decide (m2 = "replace") && decide (a1 = y) && decide (b1 = z) && decide (a2 = y2) && decide (b2 = z2) && !(y == z) && !(y2 == z2) &&
          (ap0.endLine == pos0.line) && (ap1.endLine == pos1.line) && (ap2.endLine == pos2.line) && nst x && (match p.kd with | .val => true | _ => false) && cmP n sc .val p x
      | _, _ => false
    | .val, .rtold q => match e with
      | .Call (.Attribute (.Name x xp) w ap) [] [] pos => sui.isNone && decide (w = "told") && decide (nm.cls 100 = some (("Row" : Str), false)) && (ap.endLine == pos.line) && plE N sc q (.Name x xp)
      | _ => false
    | .val, .and a c => match e with
      | .BoolOp .And (x :: y :: es) pos => cmP n sc .val a x && cmP n sc .val c (if es.isEmpty then y else .BoolOp .And (y :: es) pos)
      | _ => false
    | .val, .or a c => match e with
      | .BoolOp .Or (x :: y :: es) pos => cmP n sc .val a x && cmP n sc .val c (if es.isEmpty then y else .BoolOp .Or (y :: es) pos)
      | _ => false
    | .val, .not a => match e with
      | .UnaryOp .Not x _ => cmP n sc .val a x
      | _ => false
    | .val, .ite c a b => match e with
      | .IfExp t x y _ => cmP n sc .tst c t && cmP n sc .val a x && cmP n sc .val b y
      | _ => false
    | .val, .chain o o' a c d => match e with
      | .Compare x [q, q'] [y, z] _ => (match cmpO q with | some p' => primEq o p' | none => false) && (match cmpO q' with | some p' => primEq o' p' | none => false) && notSet z && cmP n sc .val a x && cmP n sc .val c y && cmP n sc .val d z
      | _ => false
    | .val, .met m r as => match e with
      | .Call (.Attribute x w ap) es [] pos => decide (w = metN m) && plRc x && es.all nst && (ap.endLine == pos.line) && (match r.kd with | .val => cmP n sc .val r x | .bor q => plE N sc q x | .io _ => false) && cmAll (plE N sc) (cmP n sc .val) true false as es && decide (es.length = metA m)
      | _ => false
    | .val, .mut m q as => match e with
      | .Call (.Attribute x w ap) es [] pos => decide (w = mutN m) && plRc x && es.all nst && (ap.endLine == pos.line) && plE N sc q x && cmAll (plE N sc) (cmP n sc .val) false false as es && decide (es.length = mutA m)
      | _ => false
    | .val, .dnew t => match e with
      | .Dict [] [] _ => t == 0 || t == 1 || t == 2
      | _ => false
    | .val, .comp elt tg it cond => match e with
      | .ListComp e [⟨t, i, ifs, 0⟩] scope _ => sui.isNone && blkC N sc scope (ownN tg t) && cmTg N io sui (relS scope sc) (fun x => scope.names.lookup x == some .cell) tg t && decide ((ownN tg t).map (·.2) = tg.slots) &&
          notSet i && (cmP n sc .itr it i && zipTg it t) && cmP n (relS scope sc) .val elt e && (match cond, ifs with | none, [] => true | some c, [w] => cmP n (relS scope sc) .tst c w | _, _ => false)
      | _ => false
    | .val, .xis i c => match e with
      | .Call (.Name f _) [.Name x _, .Name y _] [] _ => decide (f = "isinstance") && isGl sc f && decide (sui = some i) && isVis N sc i x && isGl sc y && (match nm.cls c with | some (z, _) => decide (z = y) | none => false)
      | _ => false

end
section
variable (nm : Nm) (N : List Str)
/-- no comprehension -/
def noLc : Expr → Bool
  | .ListComp _ _ _ _ => false
  | .SetComp _ _ _ _ => false
  | .DictComp _ _ _ _ _ => false
  | _ => true
/-- a target and a value that are stored plainly (false); or a comprehension that the store takes as it is made (true) -/
def swOk (sc : Scope) (t e : Expr) : Option Bool := match t, e with
  | .Name y py, .ListComp _ _ s pos => if sc.names.lookup y == some .local then (if (s.names.any fun (n, k) => n == y && (k == .local || k == .cell)) then some false else if (py.line == pos.line) then some true else none) else if sc.names.lookup y == some .cell then some false else none
  | .Tuple _ _ _, .Tuple _ _ _ => none
  | .Name _ _, e => if noLc e then some false else none
  | .Tuple _ _ _, e => if noLc e then some false else none
  | _, _ => none
/-- an expression that makes a new container -/
def fresh : P → Bool
  | .op .idx _ => false
  | .op .dget _ => false
  | .op _ _ => true
  | .comp _ _ _ _ => true
  | .dnew _ => true
  | _ => false
/-- a comprehension of new lists -/
def isLLc : P → Bool
  | .comp elt _ _ none => fresh elt
  | _ => false
def isNm : Tg → Bool
  | .v _ => true
  | _ => false
/-- the except clauses' classes -/
def cmHn (sc : Scope) (c : Nat) : Expr → Bool
  | .Name y _ => isGl sc y && (match nm.cls c with | some (z, _) => decide (z = y) | none => false)
  | _ => false
def cmHs (f : List S → List Stmt → Bool) (sc : Scope) : List Nat → List (List S) → List ExceptHandler → Bool
  | [], [], [] => true
  | c :: cs, h :: hs, .ExceptHandler (some e) none (b :: bs) _ :: es => cmHn nm sc c e && f h (b :: bs) && cmHs f sc cs hs es
  | _, _, _ => false
def cmAllS (f : S → Stmt → Bool) : List S → List Stmt → Bool
  | [], [] => true
  | s :: ss, t :: ts => f s t && cmAllS f ss ts
  | _, _ => false
def isValP (p : P) : Bool := match p.kd with
  | .val => true
  | _ => false
/-- both sides written: which the model stores one by one -/
def parOk (e1 e2 : Expr) : Bool := nst e1 && nst e2 && !([e1, e2].all (foldedForSure 8)) && !([e1, e2].all (constantsAlone 8))
/-- io: slots that stay; sui: within an except suite -/
def cmS : Nat → List Nat → Option Nat → Scope → S → Stmt → Bool
  | 0, _, _, _, _, _ => false
  | n + 1, io, sui, sc, s, t => match s, t with
    | .asg tg p, .Assign [g] e _ => cmTg N io sui sc nm.fb tg g && cmP nm N io sui n sc .val p e && (match swOk sc g e with | some false => true | some true => isNm tg && fresh p | none => false)
    | .own i p, .Assign [.Name x px] e _ => cmTg N io sui sc nm.fb (.v i) (.Name x px) && fresh p && cmP nm N io sui n sc .val p e && (swOk sc (.Name x px) e).isSome
    | .rnew i, .Assign [.Name x px] (.Call (.Name y yp) [] [] cp) _ => sui.isNone && cmTg N io sui sc nm.fb (.v i) (.Name x px) && isGl sc y && decide (y = "Row") && decide (nm.cls 100 = some (("Row" : Str), false)) && decide (swOk sc (.Name x px) (.Call (.Name y yp) [] [] cp) = some false)
    | .llN i p, .Assign [.Name x px] e _ => cmTg N io sui sc nm.fb (.v i) (.Name x px) && isLLc p && cmP nm N io sui n sc .val p e && (swOk sc (.Name x px) e).isSome
    | .lcut i j, .Assign [.Subscript (.Name x _) (.Name y _) _] (.Subscript (.Subscript (.Name x2 _) (.Name y2 _) _) (.Slice none (some (.UnaryOp .USub (.Constant (.int 1) _ _) _)) none _) _) _ => isVis N sc i x && isVis N sc j y && isVis N sc i x2 && isVis N sc j y2
    | .lapp i j, .Expr (.Call (.Attribute (.Subscript (.Name x _) (.Name y _) _) f ap) [.Subscript (.Subscript (.Name x2 _) (.Name y2 _) _) (.Constant (.int 0) _ _) _] [] cp) _ => decide (f = "append") && (ap.endLine == cp.line) && isVis N sc i x && isVis N sc j y && isVis N sc i x2 && isVis N sc j y2
    | .llS i j k p, .Assign [.Subscript (.Subscript (.Name x _) (.Name y _) _) (.Name z _) _] e _ => isVis N sc i x && isVis N sc j y && isVis N sc k z && cmP nm N io sui n sc .val p e
    | .par i j a b, .Assign [.Tuple [.Name x px, .Name y py] _ _] (.Tuple [e1, e2] _ _) _ => sui.isNone && decide (N[i]? = some x) && decide (N[j]? = some y) && (sc.names.lookup x == some .local) && (sc.names.lookup y == some .local) && decide (i ≠ j) && !io.contains i && !io.contains j &&
        (px.line == py.line) && parOk e1 e2 && isValP a && isValP b && cmP nm N io sui n sc .val a e1 && cmP nm N io sui n sc .val b e2
    | .set q k v, .Assign [.Subscript x y _] e _ => plE N sc q x && plIx y && cmP nm N io sui n sc .val k y && cmP nm N io sui n sc .val v e
    | .drop p, .Expr e _ => cmP nm N io sui n sc .val p e && noLc e
    | .ifs c a b, .If t x y _ => cmP nm N io sui n sc .tst c t && cmAllS (cmS n io sui sc) a x && cmAllS (cmS n io sui sc) b y
    | .for tg it b, .For t i x [] _ => sui.isNone && cmTg N io sui sc nm.fb tg t && (cmP nm N io sui n sc .itr it i && zipTg it t) && notSet i &&
        (match it.kd with | .bor q => (tg.slots.all fun j => decide (j ≠ q.i)) && cmAllS (cmS n (q.i :: io) sui sc) b x | .val => cmAllS (cmS n io sui sc) b x | .io _ => false)
    | .whl _ c b, .While t x [] _ => cmP nm N io sui n sc .tst c t && cmAllS (cmS n io sui sc) b x
    | .ret p, .Return (some e) _ => cmP nm N io sui n sc .val p e
    | .retN, .Return none _ => true
    | .brk, .Break _ => true
    | .cont, .Continue _ => true
    | .pas, .Pass _ => true
    | .rai c, .Raise (some (.Call (.Name x _) [.Constant (.str _) _ _] [] _)) none _ => sui.isNone && isGl sc x && decide (nm.cls c = some (x, true))
    | .trA b c i h, .Try x [.ExceptHandler (some e) (some y) (h₀ :: hs) _] [] [] _ => sui.isNone && cmAllS (cmS n io sui sc) b x && cmHn nm sc c e && decide (N[i]? = some y) && (sc.names.lookup y == some .local) && !io.contains i && cmAllS (cmS n io (some i) sc) h (h₀ :: hs)
    | .asgT i j (.call f as), .Assign [g] (.Call (.Name x xp) es [] cp) _ => sui.isNone && cmTg N io sui sc nm.fb (.t [i, j]) g && decide (swOk sc g (.Call (.Name x xp) es [] cp) = some false) && decide (nm.fnT f = some x) && decide (nm.ios f = some (ioPos 0 as)) && isGl sc x && es.all nst && cmAll (plE N sc) (cmP nm N io sui n sc .val) false true as es
    | .asgC p i e, .Assign [.Name x px] (.Call (.Name y yp) [e0] [] cp) _ => nm.clo && sui.isNone && cmTg N io sui sc nm.fb (.v p) (.Name x px) && decide (swOk sc (.Name x px) (.Call (.Name y yp) [e0] [] cp) = some false) && isVis N sc i y && nst e0 && cmAll (plE N sc) (cmP nm N io sui n sc .val) false false [e] [e0]
    | .forD i tg b, .For t (.Name x xp) bs [] _ => !nm.clo && sui.isNone && cmTg N io sui sc nm.fb tg t && isVis N sc i x && (tg.slots.all fun j => decide (j ≠ i)) && notSet (.Name x xp) && cmAllS (cmS n (i :: io) sui sc) b bs
    | .asgV i (.call f as), .Assign [.Name x px] (.Call (.Name y xp) es [] cp) _ => sui.isNone && cmTg N io sui sc nm.fb (.v i) (.Name x px) && decide (swOk sc (.Name x px) (.Call (.Name y xp) es [] cp) = some false) && decide (nm.fnT f = some y) && decide (nm.ios f = some (ioPos 0 as)) && isGl sc y && es.all nst && cmAll (plE N sc) (cmP nm N io sui n sc .val) false true as es
    | .trM b cs hs, .Try x (e :: es) [] [] _ => sui.isNone && cmAllS (cmS n io sui sc) b x && cmHs nm (cmAllS (cmS n io (some N.length) sc)) sc cs hs (e :: es)
    | _, _ => false
end
end Bk

/-! B5: the readings of expressions. -/
namespace Bk
open PySem PySem.Spec PyProof.Rows L2

section
variable {K : Wd} {H : Hp} {F : Addr → Prop}
theorem Sep.skip {A ex rest : Things} (h : Sep K H F (A ++ (ex ++ rest))) : Sep K H F (A ++ rest) := by
  have p : (A ++ (ex ++ rest)).Perm (ex ++ (A ++ rest)) := by
    rw [← List.append_assoc, ← List.append_assoc]
    exact List.perm_append_comm.append_right rest
  exact (h.perm p).right
theorem PQ.skip {o : Bool} {A ex rest : Things} {d : D} {Q : VK} (h : PQ o K (A ++ rest) d Q) : PQ o K (A ++ (ex ++ rest)) d Q := by
  unfold PQ at h ⊢
  split
  · rename_i c
    rw [if_pos c] at h
    exact fun v H F s => h v H F (Sep.skip (A := (.own d, some v) :: A) s)
  · rename_i c
    rw [if_neg c] at h
    exact fun v H F s q => h v H F s.skip q
theorem PQ.weaken {d : D} {ts : Things} {Q : VK} {o : Bool} (h : PQ false K ts d Q) : PQ o K ts d Q := by
  unfold PQ
  split
  · rename_i hcc
    intro v H F s
    obtain ⟨F', w, e, _, s', q⟩ := s.freeze (by simp only [Bool.and_eq_true] at hcc; exact hcc.2)
    cases e
    exact h _ _ _ s' q
  · exact h
theorem PQ.mono {o : Bool} {ts : Things} {d : D} {Q Q' : VK} (h : PQ o K ts d Q) (q : ∀ v H, Q v H → Q' v H) : PQ o K ts d Q' := by
  unfold PQ at h ⊢
  split
  · rename_i c
    rw [if_pos c] at h
    exact fun v H F s => q _ _ (h v H F s)
  · rename_i c
    rw [if_neg c] at h
    exact fun v H F s z => q _ _ (h v H F s z)
end

/-! ### the slots' number stays -/
def Ev.All {α : Type} (p : Rho → Prop) : Ev α → Prop
  | .ok _ ρ => p ρ
  | .exc _ ρ => p ρ
  | .stuck => True
theorem Ev.All.bind {α β : Type} {p q : Rho → Prop} {r : Ev α} {k : α → Rho → Ev β} (h : r.All p) (hk : ∀ a ρ, p ρ → (k a ρ).All q) (hx : ∀ ρ, p ρ → q ρ) : (r.bind k).All q := by
  cases r with
  | ok a ρ => exact hk a ρ h
  | exc c ρ => exact hx ρ h
  | stuck => trivial
theorem Ev.All.at {α : Type} {p : Rho → Prop} {r : R α} {ρ : Rho} (h : p ρ) : (r.at ρ).All p := by
  cases r with
  | ok a => exact h
  | stuck => trivial
theorem Ev.All.noX {α : Type} {p : Rho → Prop} {r : Ev α} (h : r.All p) : r.noX.All p := by
  cases r with
  | ok a ρ => exact h
  | exc c ρ => trivial
  | stuck => trivial
theorem setL_length : ∀ {is : List Nat} {ds : List D} {ρ ρ' : Rho}, setL is ds ρ = .ok ρ' → ρ'.length = ρ.length
  | [], [], _, _, e => by cases e; rfl
  | [], _ :: _, _, _, e => by cases e
  | _ :: _, [], _, _, e => by cases e
  | i :: is, d :: ds, ρ, ρ', e => by
    rw [setL_length (is := is) (ds := ds) e, List.length_set]
theorem setT_length {tg : Tg} {d : D} {ρ ρ' : Rho} (e : setT tg d ρ = .ok ρ') : ρ'.length = ρ.length := by
  cases tg with
  | v i => cases e; rw [List.length_set]
  | t is =>
    cases d with
    | tup xs => exact setL_length e
    | _ => cases e
theorem wipeR_len (ρ : Rho) : ∀ vs, (wipeR ρ vs).length = ρ.length
  | [] => rfl
  | v :: vs => by unfold wipeR; rw [List.length_set, wipeR_len ρ vs]
theorem backR_len (ρ₀ ρ : Rho) : ∀ vs, (backR ρ₀ ρ vs).length = ρ.length
  | [] => rfl
  | v :: vs => by unfold backR; rw [List.length_set, backR_len ρ₀ ρ vs]
theorem Pl.take_length {p : Pl} {ρ ρ' : Rho} {d : D} (h : p.take ρ = .ok (d, ρ')) : ρ'.length = ρ.length := by
  unfold Pl.take at h
  split at h
  · cases h; rw [List.length_set]
  · cases h
theorem Pl.put_length {p : Pl} {ρ ρ' : Rho} {d : D} (h : p.put ρ d = .ok ρ') : ρ'.length = ρ.length := by
  unfold Pl.put at h
  split at h
  · cases h; rw [List.length_set]
  · cases h
theorem putBack_length : ∀ {es : List P} {ds : List D} {ρ ρ' : Rho}, putBack es ds ρ = .ok ρ' → ρ'.length = ρ.length
  | [], [], _, _, h => by cases h; rfl
  | [], _ :: _, _, _, h => by cases h
  | e :: es, ds, ρ, ρ', h => by
    cases e with
    | io p =>
      cases ds with
      | nil => cases h
      | cons d ds =>
        obtain ⟨ρ1, e1, e2⟩ := bind_ok' (show (putBack es ds ρ).bind (fun ρ => p.put ρ d) = .ok ρ' from h)
        rw [Pl.put_length e2, putBack_length e1]
    | _ => exact putBack_length (es := es) (ds := ds) (by cases ds <;> exact h)
theorem callE_len {es : List P} {ρ : Rho} {r : Rs} : (callE es ρ r).All (·.length = ρ.length) := by
  cases r with
  | ok d os =>
    cases h : putBack es os ρ with
    | ok ρ' =>
      simp only [callE, h, R.at_ok, Ev.bind_ok]
      exact putBack_length h
    | stuck =>
      simp only [callE, h, R.at_stuck, Ev.bind_stuck]
      trivial
  | exc c os =>
    cases h : putBack es os ρ with
    | ok ρ' =>
      simp only [callE, h, R.at_ok, Ev.bind_ok]
      exact putBack_length h
    | stuck =>
      simp only [callE, h, R.at_stuck, Ev.bind_stuck]
      trivial
  | stuck => trivial
theorem readV_len {ρ : Rho} {i : Nat} : (readV ρ i).All (·.length = ρ.length) := by
  unfold readV
  split <;> first | trivial | rfl | exact List.length_set
theorem lendI_len {ρ ρ' : Rho} {it : P} {l : Option (Pl × D)} (h : lendI ρ it = .ok (l, ρ')) : ρ'.length = ρ.length := by
  unfold lendI at h
  split at h
  · split at h
    · rename_i e; cases h; exact Pl.take_length e
    · cases h; rfl
  · cases h; rfl
theorem backI_len {ρ ρ' : Rho} {l : Option (Pl × D)} (h : backI ρ l = .ok ρ') : ρ'.length = ρ.length := by
  unfold backI at h
  split at h
  · exact Pl.put_length h
  · cases h; rfl
theorem compL_len {f : D → Rho → Ev (Option D)} {n : Nat} (hf : ∀ d ρ, ρ.length = n → (f d ρ).All (·.length = n)) : ∀ {xs : List D} {ρ : Rho}, ρ.length = n → (compL f xs ρ).All (·.length = n)
  | [], ρ, h => h
  | x :: xs, ρ, h => by
    unfold compL
    refine (hf x ρ h).bind (fun o ρ1 h1 => ?_) fun _ z => z
    exact (compL_len hf (xs := xs) h1).bind (fun r ρ2 h2 => h2) fun _ z => z
theorem callTR_len {r : Rs} {ρ : Rho} : (callTR r ρ).All (·.length = ρ.length) := by
  unfold callTR
  split <;> first | trivial | rfl
mutual
theorem evP_len (q : En) : ∀ (e : P) (ρ : Rho), (evP q e ρ).All (·.length = ρ.length)
  | .cst d, ρ => by unfold evP; exact rfl
  | .var i, ρ => by unfold evP; exact readV_len
  | .bor p, ρ => by unfold evP; exact .at rfl
  | .io p, ρ => by unfold evP; trivial
  | .op p as, ρ => by
    unfold evP
    exact (evAs_len q as ρ).bind (fun ds ρ' h => .at h) fun _ z => z
  | .call f as, ρ => by
    unfold evP
    refine (evAs_len q as ρ).bind (fun ds ρ' h => ?_) fun _ z => z
    rw [← h]; exact callE_len
  | .callT f l as, ρ => by
    unfold evP
    refine (evP_len q l ρ).bind (fun d ρ1 h1 => ?_) fun _ z => z
    split
    · have ha := evAs_len q as ρ1
      rw [h1] at ha
      refine ha.bind (fun es ρ2 h2 => ?_) fun _ z => z
      rw [← h2]; exact callTR_len
    · trivial
  | .fnv f, ρ => by unfold evP; exact rfl
  | .callV i gs as, ρ => by
    unfold evP
    split
    · split
      · refine (evAs_len q as ρ).bind (fun ds ρ' h => ?_) fun _ z => z
        rw [← h]; exact callE_len
      · trivial
    · trivial
  | .callU f as l bs, ρ => by
    unfold evP
    refine (evAs_len q as ρ).bind (fun ds ρ1 h1 => ?_) fun _ z => z
    have hl := evP_len q l ρ1
    rw [h1] at hl
    refine hl.bind (fun d ρ2 h2 => ?_) fun _ z => z
    split
    · have ha := evAs_len q bs ρ2
      rw [h2] at ha
      refine ha.bind (fun es ρ3 h3 => ?_) fun _ z => z
      rw [← h3]; exact callTR_len
    · trivial
  | .rput p e, ρ => by
    unfold evP
    refine Ev.All.bind (p := (·.length = ρ.length)) (.at rfl) (fun x ρ0 h0 => ?_) fun _ z => z
    split
    · rw [← h0]
      refine (evP_len q e ρ0).bind (fun d ρ1 h1 => ?_) fun _ z => z
      cases ht : p.take ρ1 with
      | stuck => trivial
      | ok dr =>
        simp only [R.at_ok, Ev.bind_ok]
        cases hm : evRput dr.1 d with
        | stuck => trivial
        | ok r =>
          simp only [R.at_ok, Ev.bind_ok]
          cases hp : p.put dr.2 r.2 with
          | stuck => trivial
          | ok ρ2 =>
            have := Pl.put_length hp
            have h2 := Pl.take_length (d := dr.1) (ρ' := dr.2) ht
            show ρ2.length = ρ0.length
            omega
    · trivial
  | .llG i j k, ρ => by
    unfold evP
    exact .at rfl
  | .llV i, ρ => by
    unfold evP evLlV
    split
    · exact List.length_set ..
    · trivial
  | .rep e y z y2 z2, ρ => by
    unfold evP
    exact (evP_len q e ρ).bind (fun d ρ1 h1 => .at h1) fun _ z => z
  | .rtold p, ρ => by
    unfold evP
    exact Ev.All.bind (p := (·.length = ρ.length)) (.at rfl) (fun x ρ0 h0 => .at h0) fun _ z => z
  | .and a b, ρ => by
    unfold evP
    refine (evP_len q a ρ).bind (fun x ρ1 h1 => ?_) fun _ z => z
    refine Ev.All.bind (.at h1) (fun k ρ2 h2 => ?_) fun _ z => z
    split
    · rw [← h2]
      exact (evP_len q b ρ2).bind (fun y ρ3 h3 => Ev.All.bind (.at h3) (fun k ρ4 h4 => h4) fun _ z => z) fun _ z => z
    · exact h2
  | .or a b, ρ => by
    unfold evP
    refine (evP_len q a ρ).bind (fun x ρ1 h1 => ?_) fun _ z => z
    refine Ev.All.bind (.at h1) (fun k ρ2 h2 => ?_) fun _ z => z
    split
    · exact h2
    · rw [← h2]
      exact (evP_len q b ρ2).bind (fun y ρ3 h3 => Ev.All.bind (.at h3) (fun k ρ4 h4 => h4) fun _ z => z) fun _ z => z
  | .not a, ρ => by
    unfold evP
    refine (evP_len q a ρ).bind (fun x ρ1 h1 => ?_) fun _ z => z
    exact Ev.All.bind (.at h1) (fun k ρ2 h2 => h2) fun _ z => z
  | .ent a, ρ => by
    unfold evP
    refine (evP_len q a ρ).bind (fun x ρ1 h1 => ?_) fun _ z => z
    exact Ev.All.bind (.at h1) (fun k ρ2 h2 => h2) fun _ z => z
  | .ite c a b, ρ => by
    unfold evP
    refine (evP_len q c ρ).bind (fun x ρ1 h1 => ?_) fun _ z => z
    refine Ev.All.bind (.at h1) (fun k ρ2 h2 => ?_) fun _ z => z
    split
    · rw [← h2]; exact evP_len q a ρ2
    · rw [← h2]; exact evP_len q b ρ2
  | .chain o o' a b c, ρ => by
    unfold evP
    refine (evP_len q a ρ).bind (fun x ρ1 h1 => ?_) fun _ z => z
    have hb := evP_len q b ρ1
    rw [h1] at hb
    refine hb.bind (fun y ρ2 h2 => ?_) fun _ z => z
    refine Ev.All.bind (.at h2) (fun z ρ3 h3 => ?_) fun _ z => z
    refine Ev.All.bind (.at h3) (fun k ρ4 h4 => ?_) fun _ z => z
    split
    · rw [← h4]
      refine (evP_len q c ρ4).bind (fun w ρ5 h5 => ?_) fun _ z => z
      refine Ev.All.bind (.at h5) (fun z ρ6 h6 => ?_) fun _ z => z
      exact Ev.All.bind (.at h6) (fun k ρ7 h7 => h7) fun _ z => z
    · exact h4
  | .met m r as, ρ => by
    unfold evP
    split
    · refine Ev.All.bind (p := (·.length = ρ.length)) (.at rfl) (fun x ρ1 h1 => ?_) fun _ z => z
      split
      · rw [← h1]
        refine (evAs_len q as ρ1).bind (fun ds ρ' h => ?_) fun _ z => z
        exact Ev.All.bind (p := (·.length = ρ1.length)) (.at h) (fun x ρ2 h2 => .at h2) fun _ z => z
      · trivial
    · refine (evP_len q r ρ).bind (fun x ρ1 h1 => ?_) fun _ z => z
      split
      · rw [← h1]
        exact (evAs_len q as ρ1).bind (fun ds ρ' h => .at h) fun _ z => z
      · trivial
  | .mut m p as, ρ => by
    unfold evP
    refine Ev.All.bind (p := (·.length = ρ.length)) (.at rfl) (fun x ρ0 h0 => ?_) fun _ z => z
    split
    · rw [← h0]
      refine (evAs_len q as ρ0).bind (fun ds ρ1 h1 => ?_) fun _ z => z
      cases ht : p.take ρ1 with
      | stuck => trivial
      | ok dr =>
        simp only [R.at_ok, Ev.bind_ok]
        cases hm : evMut m dr.1 ds with
        | stuck => trivial
        | ok r =>
          simp only [R.at_ok, Ev.bind_ok]
          cases hp : p.put dr.2 r.2 with
          | stuck => trivial
          | ok ρ2 =>
            have := Pl.put_length hp
            have h2 := Pl.take_length (d := dr.1) (ρ' := dr.2) ht
            show ρ2.length = ρ0.length
            omega
    · trivial
  | .dnew t, ρ => by unfold evP; exact rfl
  | .comp elt tg it none, ρ => by
    unfold evP
    refine (evP_len q it ρ).bind (fun x ρ1 h1 => ?_) fun _ z => z
    refine Ev.All.bind (.at h1) (fun xs ρ2 h2 => ?_) fun _ z => z
    cases hl : lendI ρ2 it with
    | stuck => trivial
    | ok l =>
      obtain ⟨l, ρl⟩ := l
      have h3 := lendI_len hl
      simp only [R.at_ok, Ev.bind_ok]
      have hc := compL_len (n := ρ.length) (f := fun y ρ => ((setT tg y ρ).at ρ).bind fun ρ _ => (evP q elt ρ).noX.bind fun z ρ => .ok (some z) (wipeR ρ tg.slots)) (fun d ρ0 h0 => by
        cases hs : setT tg d ρ0 with
        | stuck => trivial
        | ok ρs =>
          simp only [R.at_ok, Ev.bind_ok]
          have e1 : ρs.length = ρ.length := by rw [setT_length hs]; exact h0
          refine Ev.All.bind (evP_len q elt ρs).noX (fun z ρ5 h5 => ?_) fun ρ5 h5 => by rw [h5]; exact e1
          show (wipeR ρ5 tg.slots).length = _
          rw [wipeR_len, h5]; exact e1) (xs := xs) (ρ := wipeR ρl tg.slots) (by rw [wipeR_len]; omega)
      refine hc.bind (fun r ρ4 h4 => ?_) fun _ z => z
      cases hb : backI (backR ρl ρ4 tg.slots) l with
      | stuck => trivial
      | ok ρ5 =>
        simp only [R.at_ok, Ev.bind_ok]
        refine .at ?_
        rw [backI_len hb, backR_len, h4]
  | .comp elt tg it (some c), ρ => by
    unfold evP
    refine (evP_len q it ρ).bind (fun x ρ1 h1 => ?_) fun _ z => z
    refine Ev.All.bind (.at h1) (fun xs ρ2 h2 => ?_) fun _ z => z
    cases hl : lendI ρ2 it with
    | stuck => trivial
    | ok l =>
      obtain ⟨l, ρl⟩ := l
      have h3 := lendI_len hl
      simp only [R.at_ok, Ev.bind_ok]
      have hc := compL_len (n := ρ.length) (f := fun y ρ => ((setT tg y ρ).at ρ).bind fun ρ _ => (evP q c ρ).noX.bind fun z ρ => ((asB z).at ρ).bind fun k ρ =>
        if k then (evP q elt ρ).noX.bind fun z ρ => .ok (some z) (wipeR ρ tg.slots) else .ok none (wipeR ρ tg.slots)) (fun d ρ0 h0 => by
        cases hs : setT tg d ρ0 with
        | stuck => trivial
        | ok ρs =>
          simp only [R.at_ok, Ev.bind_ok]
          have e1 : ρs.length = ρ.length := by rw [setT_length hs]; exact h0
          refine Ev.All.bind (evP_len q c ρs).noX (fun z ρ5 h5 => ?_) fun ρ5 h5 => by rw [h5]; exact e1
          rw [e1] at h5
          refine Ev.All.bind (.at h5) (fun k ρ6 h6 => ?_) fun _ z => z
          split
          · have he := evP_len q elt ρ6
            rw [h6] at he
            refine Ev.All.bind he.noX (fun z ρ7 h7 => ?_) fun _ z => z
            show (wipeR ρ7 tg.slots).length = _
            rw [wipeR_len, h7]
          · show (wipeR ρ6 tg.slots).length = _
            rw [wipeR_len, h6]) (xs := xs) (ρ := wipeR ρl tg.slots) (by rw [wipeR_len]; omega)
      refine hc.bind (fun r ρ4 h4 => ?_) fun _ z => z
      cases hb : backI (backR ρl ρ4 tg.slots) l with
      | stuck => trivial
      | ok ρ5 =>
        simp only [R.at_ok, Ev.bind_ok]
        refine .at ?_
        rw [backI_len hb, backR_len, h4]
  | .xis i c, ρ => by unfold evP; exact .at rfl
theorem evAs_len (q : En) : ∀ (es : List P) (ρ : Rho), (evAs q es ρ).All (·.length = ρ.length)
  | [], ρ => by unfold evAs; exact rfl
  | e :: es, ρ => by
    unfold evAs
    split
    · refine (evP_len q e ρ).bind (fun d ρ1 h1 => ?_) fun _ z => z
      rw [← h1]
      exact (evAs_len q es ρ1).bind (fun ds ρ2 h2 => h2) fun _ z => z
    · split
      · refine (evAs_len q es ρ).bind (fun ds ρ1 h1 => ?_) fun _ z => z
        exact Ev.All.bind (.at h1) (fun d ρ2 h2 => h2) fun _ z => z
      · trivial
    · split
      · refine (evAs_len q es ρ).bind (fun ds ρ1 h1 => ?_) fun _ z => z
        rename_i p _ _
        cases ht : p.take ρ1 with
        | stuck => trivial
        | ok dr =>
          simp only [R.at_ok, Ev.bind_ok]
          show dr.2.length = _
          rw [Pl.take_length (d := dr.1) (ρ' := dr.2) ht, h1]
      · trivial
end
theorem evP_ok_len {q : En} {e : P} {ρ ρ' : Rho} {d : D} (h : evP q e ρ = .ok d ρ') : ρ'.length = ρ.length := by
  have := evP_len q e ρ
  rw [h] at this
  exact this
theorem evAs_ok_len {q : En} {e : List P} {ρ ρ' : Rho} {d : List D} (h : evAs q e ρ = .ok d ρ') : ρ'.length = ρ.length := by
  have := evAs_len q e ρ
  rw [h] at this
  exact this

/-! ### the readings -/
/-- where one stands: the names, the slots that stay, the world, what one runs under, what is wished of an exception -/
structure Cn where
  N : List Str
  fx : List (Nat × V)
  K : Wd
  q : En
  W : WX
structure Ln (C : Cn) (ρ : Rho) (σ : L2.St) : Prop where
  r : ρ.length = C.N.length
  s : σ.length = C.N.length
  f : ∀ p ∈ C.fx, σ[p.1]? = some (some p.2)
theorem Ln.to {C : Cn} {ρ ρ' : Rho} {σ : L2.St} (l : Ln C ρ σ) (h : ρ'.length = ρ.length) : Ln C ρ' σ := ⟨by rw [h]; exact l.r, l.s, l.f⟩
/-- what is wanted where the c-th exception is raised -/
def XQ (C : Cn) (rest : Things) (σ : L2.St) (c : Nat) (ρ : Rho) : Prop := ∀ H F, Ln C ρ σ → Sep C.K H F (zp ρ σ ++ rest) → C.W (C.K.xc c) none σ H
/-- what is wanted of an expression's end -/
def EQ {α : Type} (C : Cn) (rest : Things) (σ : L2.St) (r : Ev α) (f : α → Rho → Prop) : Prop := match r with
  | .ok a ρ => f a ρ
  | .exc c ρ => XQ C rest σ c ρ
  | .stuck => False
/-- the things that are handed on -/
def AT : List P → List D → List V → Things
  | e :: es, d :: ds, v :: vs => (match e.kd with | .val => [(.fz d, some v)] | .bor _ => [] | .io _ => [(.own d, some v)]) ++ AT es ds vs
  | _, _, _ => []
def Lay (K : Wd) (H : Hp) (F : Addr → Prop) (σ : L2.St) : List P → List D → List V → Prop
  | [], [], [] => True
  | e :: es, d :: ds, v :: vs => (match e.kd with | .val => True | .bor _ => Bor K H F d v | .io p => σ[p.i]? = some (some v)) ∧ Lay K H F σ es ds vs
  | _, _, _ => False
def tPl (p : Pl) : TE := fun σ H Q => ∃ v, σ[p.i]? = some (some v) ∧ Q v H
section
variable (C : Cn)
def TV (o : Bool) (e : P) : TE := fun σ H Q => ∃ ρ F rest, Ln C ρ σ ∧ Sep C.K H F (zp ρ σ ++ rest) ∧ EQ C rest σ (evP C.q e ρ) fun d ρ' => PQ o C.K (zp ρ' σ ++ rest) d Q
/-- an argument's reading -/
def tA (e : P) : TE := match e.kd with
  | .val => TV C false e
  | .bor p => tPl p
  | .io p => tPl p
def TAs (es : List P) : TA := fun σ H Q => ∃ ρ F rest, Ln C ρ σ ∧ Sep C.K H F (zp ρ σ ++ rest) ∧ EQ C rest σ (evAs C.q es ρ) fun ds ρ' =>
  ∀ vs H' F', Sep C.K H' F' (AT es ds vs ++ (zp ρ' σ ++ rest)) → Lay C.K H' F' σ es ds vs → Q vs H'
def TT' (e : P) : TT := fun σ H Q => ∃ ρ F rest, Ln C ρ σ ∧ Sep C.K H F (zp ρ σ ++ rest) ∧ EQ C rest σ ((evP C.q e ρ).bind fun d ρ => (asB d).at ρ) fun k ρ' => ∀ H' F', Sep C.K H' F' (zp ρ' σ ++ rest) → Q k H'
end
/-- a walk: as long as the things needed are there, the turns' items are these -/
def Walks (K : Wd) (J : It) (need : Things) (xs : List D) : Prop := ∀ i H F ts, Sep K H F ts → (∀ t ∈ need, t ∈ ts) →
  (∀ d, xs[i]? = some d → J.go i H ∧ ∀ x H', J.yld i H x H' → ∃ F', Sep K H' F' ts ∧ Val K H' F' d x) ∧ (xs.length = i → J.stop i H)
def LT (l : Option (Pl × D)) (σ : L2.St) : Things := match l with
  | some (p, d) => [(.own d, (σ[p.i]?).getD none)]
  | none => []
def evI (q : En) (e : P) (ρ : Rho) : Ev (List D × Option (Pl × D)) := (evP q e ρ).bind fun x ρ => ((itemsOf x).at ρ).bind fun xs ρ => ((lendI ρ e).at ρ).bind fun l _ => .ok (xs, l.1) l.2
/-- what is walked: the items; what is lent for it stands among the things -/
def TI' (C : Cn) (e : P) : TI := fun σ H R => ∃ ρ F rest, Ln C ρ σ ∧ Sep C.K H F (zp ρ σ ++ rest) ∧ EQ C rest σ (evI C.q e ρ) fun xl ρ' =>
  ∀ J H' F' ex, Sep C.K H' F' (LT xl.2 σ ++ (ex ++ (zp ρ' σ ++ rest))) → Walks C.K J (LT xl.2 σ ++ ex) xl.1 → R J H'

section
variable {C : Cn} {σ : L2.St} {H : Hp}
theorem XQ.skip {A : Things} {rest ex : Things} {c : Nat} {ρ : Rho} (h : XQ C rest σ c ρ) : XQ C (ex ++ rest) σ c ρ := fun H F l s => h H F l s.skip
theorem EQ.imp {α : Type} {rest : Things} {r : Ev α} {f g : α → Rho → Prop} (h : EQ C rest σ r f) (fg : ∀ a ρ, r = .ok a ρ → f a ρ → g a ρ) : EQ C rest σ r g := by
  cases r with
  | ok a ρ => exact fg a ρ rfl h
  | exc c ρ => exact h
  | stuck => exact h
theorem EQ.skip {α : Type} {ex rest : Things} {r : Ev α} {f g : α → Rho → Prop} (h : EQ C rest σ r f) (fg : ∀ a ρ, r = .ok a ρ → f a ρ → g a ρ) : EQ C (ex ++ rest) σ r g := by
  cases r with
  | ok a ρ => exact fg a ρ rfl h
  | exc c ρ => exact fun H F l s => h H F l s.skip
  | stuck => exact h
theorem EQ.bind {α β : Type} {rest : Things} {r : Ev α} {k : α → Rho → Ev β} {f : β → Rho → Prop} : EQ C rest σ (r.bind k) f ↔ EQ C rest σ r fun a ρ => EQ C rest σ (k a ρ) f := by
  cases r <;> exact Iff.rfl
theorem EQ.at {α : Type} {rest : Things} {r : R α} {ρ : Rho} {f : α → Rho → Prop} (h : EQ C rest σ (r.at ρ) f) : ∃ a, r = .ok a ∧ f a ρ := by
  cases r with
  | ok a => exact ⟨a, rfl, h⟩
  | stuck => exact h.elim
theorem EQ.atI {α : Type} {rest : Things} {r : R α} {a : α} {ρ : Rho} {f : α → Rho → Prop} (e : r = .ok a) (h : f a ρ) : EQ C rest σ (r.at ρ) f := by
  subst e; exact h
theorem tAV {e : P} (h : e.kd = .val) : tA C e = TV C false e := by unfold tA; rw [h]
theorem evAs_val {q : En} {e : P} {es : List P} {ρ : Rho} (h : e.kd = .val) : evAs q (e :: es) ρ = (evP q e ρ).bind fun d ρ => (evAs q es ρ).bind fun ds ρ => .ok (d :: ds) ρ := by
  rw [evAs, h]
theorem evAs_bor {q : En} {p : Pl} {es : List P} {ρ : Rho} : evAs q (.bor p :: es) ρ = if p.bound ρ then (evAs q es ρ).bind fun ds ρ => ((p.look ρ).at ρ).bind fun d ρ => .ok (d :: ds) ρ else .stuck := by
  rw [evAs]; rfl
theorem evAs_io {q : En} {p : Pl} {es : List P} {ρ : Rho} : evAs q (.io p :: es) ρ = if p.bound ρ then (evAs q es ρ).bind fun ds ρ => ((p.take ρ).at ρ).bind fun dr _ => .ok (dr.1 :: ds) dr.2 else .stuck := by
  rw [evAs]; rfl
theorem kd_bor {e : P} {p : Pl} (h : e.kd = .bor p) : e = .bor p := by
  cases e <;> simp only [P.kd, reduceCtorEq, Kd.bor.injEq] at h
  subst h; rfl
theorem kd_io {e : P} {p : Pl} (h : e.kd = .io p) : e = .io p := by
  cases e <;> simp only [P.kd, reduceCtorEq, Kd.io.injEq] at h
  subst h; rfl

/-- what stands at a place -/
theorem Pl.bound_at {K : Wd} {F : Addr → Prop} {p : Pl} {ρ : Rho} {rest : Things} (hb : p.bound ρ = true) (l : Ln C ρ σ) (s : Sep K H F (zp ρ σ ++ rest)) : ∃ v, σ[p.i]? = some (some v) := by
  unfold Pl.bound at hb
  split at hb
  · rename_i d _ hd
    have hi := (List.getElem?_eq_some_iff.mp hd).1
    have hσ : p.i < σ.length := by rw [l.s, ← l.r]; exact hi
    obtain ⟨v, e, _⟩ := s.mem_val (List.mem_append_left _ (zp_mem hd (List.getElem?_eq_getElem hσ)))
    exact ⟨v, by rw [List.getElem?_eq_getElem hσ, e]⟩
  · rename_i d _ hd
    have hi := (List.getElem?_eq_some_iff.mp hd).1
    have hσ : p.i < σ.length := by rw [l.s, ← l.r]; exact hi
    obtain ⟨v, e, _⟩ := s.mem_own (List.mem_append_left _ (zp_mem hd (List.getElem?_eq_getElem hσ)))
    exact ⟨v, by rw [List.getElem?_eq_getElem hσ, e]⟩
  · cases hb
theorem Pl.look_at {K : Wd} {F : Addr → Prop} {p : Pl} {ρ : Rho} {A rest : Things} {d : D} {v : V} (h : p.look ρ = .ok d) (hv : σ[p.i]? = some (some v)) (s : Sep K H F (A ++ (zp ρ σ ++ rest))) : Bor K H F d v := by
  have s := s.right
  unfold Pl.look at h
  split at h
  · rename_i d' _ hd
    cases h
    obtain ⟨w, e, q⟩ := s.mem_val (List.mem_append_left _ (zp_mem hd hv))
    cases e
    exact q.bor
  · rename_i d' _ hd
    cases h
    obtain ⟨w, e, q⟩ := s.mem_own (List.mem_append_left _ (zp_mem hd hv))
    cases e
    exact q
  · cases h
theorem Pl.take_sep {K : Wd} {F : Addr → Prop} {p : Pl} {ρ ρ' : Rho} {A rest : Things} {d : D} {o : Option V} (h : p.take ρ = .ok (d, ρ')) (hv : σ[p.i]? = some o) (s : Sep K H F (A ++ (zp ρ σ ++ rest))) : Sep K H F ((.own d, o) :: (A ++ (zp ρ' σ ++ rest))) := by
  unfold Pl.take at h
  split at h
  · rename_i d' _ hd
    cases h
    have hz : (zp ρ σ)[p.i]? = some (.own d, o) := by rw [List.getElem?_zip_eq_some]; exact ⟨hd, hv⟩
    have hi : p.i < (zp ρ σ).length := (List.getElem?_eq_some_iff.mp hz).1
    have s1 : Sep K H F (zp ρ σ ++ (A ++ rest)) := s.perm (by
      rw [← List.append_assoc, ← List.append_assoc]; exact List.perm_append_comm.append_right rest)
    have s2 := s1.take hz
    have s3 : Sep K H F ((.un, o) :: (.own d, o) :: ((zp ρ σ).eraseIdx p.i ++ (A ++ rest))) := by
      obtain ⟨t, fp, b, c, e⟩ := s2
      refine ⟨t, fp, ?_, c, e⟩
      unfold SepL
      exact ⟨[], fp, rfl, by unfold Own; rfl, b⟩
    have s4 : Sep K H F ((.un, o) :: ((zp ρ σ).eraseIdx p.i ++ ((.own d, o) :: (A ++ rest)))) := s3.perm (List.Perm.cons _ List.perm_middle.symm)
    have s5 := s4.put hi
    have e : zp (ρ.set p.i .un) σ = (zp ρ σ).set p.i (.un, o) := by
      have hσ : σ.set p.i o = σ := by
        apply List.ext_getElem?
        intro j
        by_cases hj : p.i = j
        · subst hj
          rw [hv, List.getElem?_set_self (List.getElem?_eq_some_iff.mp hv).1]
        · rw [List.getElem?_set_ne hj]
      rw [← zp_set, hσ]
    rw [← e] at s5
    refine s5.perm ?_
    refine List.perm_middle.trans (List.Perm.cons _ ?_)
    rw [← List.append_assoc, ← List.append_assoc]; exact List.perm_append_comm.append_right rest
  · cases h
theorem Pl.put_sep {K : Wd} {F : Addr → Prop} {p : Pl} {ρ ρ' : Rho} {A rest : Things} {d : D} {o : Option V} (h : p.put ρ d = .ok ρ') (l : Ln C ρ σ) (hv : σ[p.i]? = some o) (s : Sep K H F ((.own d, o) :: (A ++ (zp ρ σ ++ rest)))) : Sep K H F (A ++ (zp ρ' σ ++ rest)) := by
  unfold Pl.put at h
  split at h
  · cases h
    have hi := (List.getElem?_eq_some_iff.mp hv).1
    have hσ : σ.set p.i o = σ := by
      apply List.ext_getElem?
      intro j
      by_cases hj : p.i = j
      · subst hj
        rw [hv, List.getElem?_set_self hi]
      · rw [List.getElem?_set_ne hj]
    have s1 : Sep K H F ((.own d, o) :: (zp ρ σ ++ (A ++ rest))) := s.perm (List.Perm.cons _ (by
      rw [← List.append_assoc, ← List.append_assoc]; exact List.perm_append_comm.append_right rest))
    have s2 := s1.setSlot (by rw [l.r, ← l.s]; exact hi) hi
    rw [hσ] at s2
    exact s2.perm (by rw [← List.append_assoc, ← List.append_assoc]; exact List.perm_append_comm.append_right rest)
  · cases h

theorem TAs.nil {Q : List V → Hp → Prop} (h : TAs C [] σ H Q) : Q [] H := by
  obtain ⟨ρ, F, rest, l, s, q⟩ := h
  rw [evAs] at q
  exact q [] H F s trivial
theorem TAs.cons {e : P} {es : List P} {Q : List V → Hp → Prop} (h : TAs C (e :: es) σ H Q) : tA C e σ H fun x H1 => TAs C es σ H1 fun xs H2 => Q (x :: xs) H2 := by
  obtain ⟨ρ, F, rest, l, s, q⟩ := h
  cases hk : e.kd with
  | val =>
    rw [tAV hk]
    rw [evAs_val hk, EQ.bind] at q
    refine ⟨ρ, F, rest, l, s, q.imp fun d ρ1 ed q v H1 F1 s1 vd => ⟨ρ1, F1, [(.fz d, some v)] ++ rest, l.to (evP_ok_len ed), (s1.push vd).perm List.perm_middle.symm, ?_⟩⟩
    rw [EQ.bind] at q
    refine q.skip fun ds ρ2 eds q vs H2 F2 s2 lay => q (v :: vs) H2 F2 ?_ ⟨by rw [hk]; trivial, lay⟩
    show Sep C.K H2 F2 ((match e.kd with | .val => [(.fz d, some v)] | .bor _ => [] | .io _ => [(.own d, some v)]) ++ AT es ds vs ++ _)
    rw [hk]
    refine s2.perm ?_
    show (AT es ds vs ++ (zp ρ2 σ ++ ((Sl.fz d, some v) :: rest))).Perm ((.fz d, some v) :: (AT es ds vs ++ (zp ρ2 σ ++ rest)))
    exact (List.Perm.append_left _ List.perm_middle).trans List.perm_middle
  | bor p =>
    obtain rfl := kd_bor hk
    rw [evAs_bor] at q
    split at q
    · rename_i hb
      obtain ⟨v, hv⟩ := Pl.bound_at hb l s
      refine ⟨v, hv, ρ, F, rest, l, s, ?_⟩
      rw [EQ.bind] at q
      refine q.imp fun ds ρ2 eds q vs H2 F2 s2 lay => ?_
      rw [EQ.bind] at q
      obtain ⟨d, ed, q⟩ := q.at
      exact q (v :: vs) H2 F2 s2 ⟨Pl.look_at ed hv s2, lay⟩
    · exact q.elim
  | io p =>
    obtain rfl := kd_io hk
    rw [evAs_io] at q
    split at q
    · rename_i hb
      obtain ⟨v, hv⟩ := Pl.bound_at hb l s
      refine ⟨v, hv, ρ, F, rest, l, s, ?_⟩
      rw [EQ.bind] at q
      refine q.imp fun ds ρ2 eds q vs H2 F2 s2 lay => ?_
      rw [EQ.bind] at q
      obtain ⟨⟨d, ρ3⟩, ed, q⟩ := q.at
      exact q (v :: vs) H2 F2 (Pl.take_sep ed hv s2) ⟨hv, lay⟩
    · exact q.elim
end

/-! arguments that are looked at, or handed on -/
def noIo : List P → Bool
  | [] => true
  | .io _ :: _ => false
  | _ :: es => noIo es
def allVal : List P → Bool
  | [] => true
  | .io _ :: _ => false
  | .bor _ :: _ => false
  | _ :: es => allVal es
section
variable {K : Wd} {H : Hp} {F : Addr → Prop} {σ : L2.St}
theorem Lay.bors : ∀ {es : List P} {ds : List D} {vs : List V} {rest : Things}, noIo es = true → Lay K H F σ es ds vs → Sep K H F (AT es ds vs ++ rest) → Bors K H F ds vs
  | [], [], [], _, _, _, _ => rfl
  | [], [], _ :: _, _, _, h, _ => h.elim
  | [], _ :: _, _, _, _, h, _ => h.elim
  | _ :: _, [], _, _, _, h, _ => h.elim
  | _ :: _, _ :: _, [], _, _, h, _ => h.elim
  | e :: es, d :: ds, v :: vs, rest, hn, h, s => by
    cases hk : e.kd with
    | val =>
      have hn' : noIo es = true := by cases e <;> first | exact hn | cases hk
      have s' : Sep K H F ((.fz d, some v) :: (AT es ds vs ++ rest)) := by
        have := s
        unfold AT at this
        rw [hk] at this
        exact this
      obtain ⟨w, e1, q⟩ := s'.val
      cases e1
      exact ⟨v, vs, rfl, q.bor, Lay.bors hn' h.2 s'.tail⟩
    | bor p =>
      obtain rfl := kd_bor hk
      exact ⟨v, vs, rfl, h.1, Lay.bors (es := es) hn h.2 s⟩
    | io p =>
      obtain rfl := kd_io hk
      cases hn
theorem Lay.vals : ∀ {es : List P} {ds : List D} {vs : List V} {rest : Things}, allVal es = true → Lay K H F σ es ds vs → Sep K H F (AT es ds vs ++ rest) → ValL K H F ds vs
  | [], [], [], _, _, _, _ => ValL.nil
  | [], [], _ :: _, _, _, h, _ => h.elim
  | [], _ :: _, _, _, _, h, _ => h.elim
  | _ :: _, [], _, _, _, h, _ => h.elim
  | _ :: _, _ :: _, [], _, _, h, _ => h.elim
  | e :: es, d :: ds, v :: vs, rest, hn, h, s => by
    cases hk : e.kd with
    | val =>
      have hn' : allVal es = true := by cases e <;> first | exact hn | cases hk
      have s' : Sep K H F ((.fz d, some v) :: (AT es ds vs ++ rest)) := by
        have := s
        unfold AT at this
        rw [hk] at this
        exact this
      obtain ⟨w, e1, q⟩ := s'.val
      cases e1
      exact ValL.cons q (Lay.vals hn' h.2 s'.tail)
    | bor p =>
      obtain rfl := kd_bor hk
      cases hn
    | io p =>
      obtain rfl := kd_io hk
      cases hn
end
section
variable {C : Cn} {σ : L2.St} {H : Hp}
theorem TV.args {o : Bool} {p : Prim} {as : List P} {Q : VK} (hn : noIo as = true) (h : TV C o (.op p as) σ H Q) : TAs C as σ H fun vs H2 => rP C.K o p vs H2 Q := by
  obtain ⟨ρ, F, rest, l, s, q⟩ := h
  rw [evP, EQ.bind] at q
  refine ⟨ρ, F, rest, l, s, q.imp fun ds ρ1 eds q vs H2 F2 s2 lay => ?_⟩
  obtain ⟨d, e, q⟩ := q.at
  exact ⟨F2, _, ds, d, s2.right, lay.bors hn s2, e, q⟩
theorem TV.argsS {o : Bool} {p : Prim} {as : List P} {Q : VK} (hn : allVal as = true) (h : TV C o (.op p as) σ H Q) : TAs C as σ H fun vs H2 => rS C.K o p vs H2 Q := by
  obtain ⟨ρ, F, rest, l, s, q⟩ := h
  rw [evP, EQ.bind] at q
  refine ⟨ρ, F, rest, l, s, q.imp fun ds ρ1 eds q vs H2 F2 s2 lay => ?_⟩
  obtain ⟨d, e, q⟩ := q.at
  exact ⟨F2, _, ds, d, s2.right, lay.vals hn s2, e, q⟩
end

theorem pe_imp {X : Cx} {e : Expr} {t t' : TE} (h : PE X e t) (q : ∀ σ H Q, t' σ H Q → t σ H Q) : PE X e t' := ⟨fun pins s σ H Q I w => h.run pins s σ H Q I (q σ H Q w)⟩
theorem pa_imp {X : Cx} {e : List Expr} {t t' : TA} (h : PA X e t) (q : ∀ σ H Q, t' σ H Q → t σ H Q) : PA X e t' := ⟨fun pos pins s σ H Q I w => h.run pos pins s σ H Q I (q σ H Q w)⟩
theorem pt_imp {X : Cx} {e : Expr} {t t' : TT} (h : PT X e t) (q : ∀ σ H Q, t' σ H Q → t σ H Q) : PT X e t' := ⟨fun pins s σ H Q I w => h.run pins s σ H Q I (q σ H Q w)⟩
theorem pi_imp {X : Cx} {tg e : Expr} {t t' : TI} (h : PI X tg e t) (q : ∀ σ H R, t' σ H R → t σ H R) : PI X tg e t' := ⟨fun pins s σ H Q I w => h.run pins s σ H Q I (q σ H Q w)⟩
theorem ps_imp {X : Cx} {e : Stmt} {t t' : TS} (h : PS X e t) (q : ∀ D σ H, t' D σ H → t D σ H) : PS X e t' := ⟨fun pins s σ H D I w => h.run pins s σ H D I (q D σ H w)⟩
theorem pss_imp {X : Cx} {e : List Stmt} {t t' : TS} (h : PSs X e t) (q : ∀ D σ H, t' D σ H → t D σ H) : PSs X e t' := ⟨fun pins s σ H D I w => h.run pins s σ H D I (q D σ H w)⟩

/-- the arguments one by one -/
def PEs (X : Cx) (t : P → TE) : List P → List Expr → Prop
  | [], [] => True
  | p :: ps, e :: es => PE X e (t p) ∧ PEs X t ps es
  | _, _ => False
theorem star_cons {e : Expr} {es : List Expr} {env : Env} (h : nst e = true) : starEach (e :: es) env = (false, eval e env) :: starEach es env := by
  cases e <;> first | rfl | cases h
theorem star_plain : ∀ {es : List Expr} {env : Env} {pos : Pos}, es.all nst = true → (backTo pos (starEach es env)).any (·.1) = false
  | [], _, _, _ => rfl
  | e :: es, env, pos, h => by
    simp only [List.all_cons, Bool.and_eq_true] at h
    rw [star_cons h.1]
    show (backTo pos ((false, eval e env) :: starEach es env)).any (·.1) = false
    have ih := star_plain (env := env) (pos := pos) h.2
    simpa [backTo] using ih
section
variable {X : Cx} {C : Cn}
theorem PEs.pa : ∀ {as : List P} {es : List Expr}, PEs X (tA C) as es → es.all nst = true → PA X es (TAs C as)
  | [], [], _, _ => pa_imp pa_nil fun σ H Q h => h.nil
  | p :: ps, e :: es, h, hn => by
    simp only [List.all_cons, Bool.and_eq_true] at hn
    exact pa_imp (pa_cons h.1 (PEs.pa h.2 hn.2) (star_cons hn.1)) fun σ H Q h => h.cons
  | [], _ :: _, h, _ => h.elim
  | _ :: _, [], h, _ => h.elim
end
end Bk

/-! B6: operations: the model's run gives the readings. -/
namespace Bk
open PySem PySem.Spec PyProof.Rows L2

section
variable {C : Cn} {σ : L2.St} {H : Hp}
theorem TV.mono {o : Bool} {p : P} {Q Q' : VK} (h : TV C o p σ H Q) (q : ∀ v H', Q v H' → Q' v H') : TV C o p σ H Q' := by
  obtain ⟨ρ, F, rest, l, s, h⟩ := h
  exact ⟨ρ, F, rest, l, s, h.imp fun d _ _ h => h.mono q⟩
theorem tA.mono {e : P} {Q Q' : VK} (h : tA C e σ H Q) (q : ∀ v H', Q v H' → Q' v H') : tA C e σ H Q' := by
  unfold tA at h ⊢
  cases hk : e.kd with
  | val =>
    rw [hk] at h
    exact TV.mono h q
  | bor p =>
    rw [hk] at h
    obtain ⟨v, e, h⟩ := h
    exact ⟨v, e, q _ _ h⟩
  | io p =>
    rw [hk] at h
    obtain ⟨v, e, h⟩ := h
    exact ⟨v, e, q _ _ h⟩
theorem TAs.mono {e : List P} {Q Q' : List V → Hp → Prop} (h : TAs C e σ H Q) (q : ∀ v H', Q v H' → Q' v H') : TAs C e σ H Q' := by
  obtain ⟨ρ, F, rest, l, s, h⟩ := h
  exact ⟨ρ, F, rest, l, s, h.imp fun d _ _ h v H' F' a b => q _ _ (h v H' F' a b)⟩
theorem TV.two {o : Bool} {p : Prim} {a c : P} {Q : VK} (hn : noIo [a, c] = true) (h : TV C o (.op p [a, c]) σ H Q) : tOp (r2 C.K o p) (tA C a) (tA C c) σ H Q :=
  tA.mono (h.args hn).cons fun x H1 h => tA.mono h.cons fun y H2 h => h.nil
theorem TV.one {o : Bool} {p : Prim} {a : P} {Q : VK} (hn : noIo [a] = true) (h : TV C o (.op p [a]) σ H Q) : tA C a σ H fun x H1 => rP C.K o p [x] H1 Q :=
  tA.mono (h.args hn).cons fun x H1 h => h.nil
theorem TV.three {o : Bool} {p : Prim} {a c d : P} {Q : VK} (hn : noIo [a, c, d] = true) (h : TV C o (.op p [a, c, d]) σ H Q) : tA C a σ H fun x H1 => tA C c σ H1 fun y H2 => tA C d σ H2 fun z H3 => rP C.K o p [x, y, z] H3 Q :=
  tA.mono (h.args hn).cons fun x H1 h => tA.mono h.cons fun y H2 h => tA.mono h.cons fun z H3 h => h.nil
theorem TV.ent {p : P} {Q : VK} (h : TV C false (.ent p) σ H Q) : TV C false (.ent p) σ H fun v H' => (∃ i, v = .int i) ∧ Q v H' := by
  obtain ⟨ρ, F, rest, l, s, h⟩ := h
  refine ⟨ρ, F, rest, l, s, h.imp fun d ρ1 e h => ?_⟩
  rw [evP] at e
  cases e1 : evP C.q p ρ with
  | ok x ρ2 =>
    rw [e1, Ev.bind_ok] at e
    cases x <;> simp only [asI, R.at_stuck, Ev.bind_stuck, reduceCtorEq, R.at_ok, Ev.bind_ok, Ev.ok.injEq] at e
    obtain ⟨rfl, rfl⟩ := e
    intro v H1 F1 s1 q
    have h0 : PF C.K (zp ρ2 σ ++ rest) (.int _) Q := h
    unfold Val at q
    exact ⟨⟨_, q⟩, h0 v H1 F1 s1 (by unfold Val; exact q)⟩
  | exc c ρ2 => rw [e1] at e; cases e
  | stuck => rw [e1] at e; cases e
theorem tA.ent {p : P} {Q : VK} (hp : isEnt p = true) (h : tA C p σ H Q) : tA C p σ H fun v H' => (∃ i, v = .int i) ∧ Q v H' := by
  cases p <;> first | cases hp | skip
  exact TV.ent h
/-- the model's text of ent p is that of p -/
theorem TV.ofEnt {p : P} {Q : VK} (h : TV C false (.ent p) σ H Q) : TV C false p σ H Q := by
  obtain ⟨ρ, F, rest, l, s, h⟩ := h
  rw [evP, EQ.bind] at h
  refine ⟨ρ, F, rest, l, s, h.imp fun d ρ1 e h => ?_⟩
  rw [EQ.bind] at h
  obtain ⟨i, e2, h⟩ := h.at
  cases d <;> simp only [asI, reduceCtorEq, R.ok.injEq] at e2
  subst e2
  exact h
end

abbrev cn (E : Wo) (X : Cx) (fx : List (Nat × V)) (q : En) (W : WX) : Cn := ⟨X.N, fx, wd E X, q, W⟩
/-- what is lent, behind a call -/
def OT : List Nat → List V → List D → Things
  | i :: is, vs, o :: os => (.own o, vs[i]?) :: OT is vs os
  | _, _, _ => []
/-- the arguments of a call -/
def PT' (io : List Nat) : Nat → List D → List V → Things
  | i, d :: ds, v :: vs => ((if io.contains i then Sl.own d else Sl.fz d), some v) :: PT' io (i + 1) ds vs
  | _, _, _ => []
/-- what a def promises: what the function r tells -/
def spD (K : Wd) (io : List Nat) (r : List D → Rs) : Sp := fun vs H Q E => ∃ F ds rest, ds.length = vs.length ∧ Sep K H F (PT' io 0 ds vs ++ rest) ∧ match r ds with
  | .ok d os => os.length = io.length ∧ ∀ v H' F', Sep K H' F' ((.fz d, some v) :: (OT io vs os ++ rest)) → Q v H'
  | .exc c os => os.length = io.length ∧ ∀ H' F', Sep K H' F' (OT io vs os ++ rest) → E (K.xc c) none H'
  | .stuck => False
/-- what a def promises that hands its own list over -/
def spT (K : Wd) (io : List Nat) (r : List D → Rs) : Sp := fun vs H Q E => ∃ F ds rest, ds.length = vs.length ∧ Sep K H F (PT' io 0 ds vs ++ rest) ∧ match r ds with
  | .ok d os => os.length = io.length ∧ ((∃ xs x, d = .tup [.lst xs, x] ∧ ∀ a w0 w1 H' F', H' a = some (.tup [w0, w1]) → Sep K H' F' ((.own (.lst xs), some w0) :: (.fz x, some w1) :: (OT io vs os ++ rest)) → Q (.ref a) H') ∨
      (isCon d = true ∧ ∀ v H' F', Sep K H' F' ((.own d, some v) :: (OT io vs os ++ rest)) → Q v H'))
  | .exc c os => os.length = io.length ∧ ∀ H' F', Sep K H' F' (OT io vs os ++ rest) → E (K.xc c) none H'
  | .stuck => False
/-- a class of exceptions of one's own, as it is raised -/
structure RaiseOk (X : Cx) (x : Str) (v : Value) : Prop where
  ex : ∃ (D : Addr) (B newId initId : String) (bmB : List Value), v = .ref D ∧ ExcBaseFacts B newId initId bmB ∧ PySem.W.excIn X.K D bmB newId = true ∧ X.mg x = some (.ref D) ∧ PySem.W.keepIn X.K (.ref D) = true ∧ Raises X (.ref D)
/-- what the row's defs promise -/
def spRI (K : Wd) : Sp := fun vs H Q _ => ∃ a dx C, vs = [.ref a] ∧ K.xc 100 = .ref C ∧ H a = some (.ins C dx []) ∧
  ∀ H' a1 a2, (∀ b o, H b = some o → b ≠ a → H' b = some o) → H a1 = none → H a2 = none → a1 ≠ a2 → H' a = some (.ins C dx (rowF a1 a2)) → H' a1 = some (.lst []) → H' a2 = some (.dT []) → Q .non H'
def spRP (K : Wd) : Sp := fun vs H Q _ => ∃ F ts c ns xs d r a v, vs = [.ref a, v] ∧ Sep K H F ((.own (.obj c ns xs), some (.ref a)) :: ts) ∧ Val K H F d v ∧ evRput (.obj c ns xs) d = .ok r ∧
  ∀ w H', Sep K H' F ((.own r.2, some (.ref a)) :: ts) → Val K H' F r.1 w → Q w H'
def spRT (K : Wd) : Sp := fun vs H Q _ => ∃ F ts c ns xs a, vs = [.ref a] ∧ Sep K H F ((.own (.obj c ns xs), some (.ref a)) :: ts) ∧
  ∀ w H', Sep K H' F ((.own (.obj c ns xs), some (.ref a)) :: ts) → Val K H' F (.tup xs) w → Q w H'
/-- the class of rows, as the top leaves it -/
structure RowK (K : PySem.W.Frag) (mg : Str → Option Value) (E : Wo) (C fI fP fT : Addr) (fdI fdP fdT : FuncData) : Prop where
  xc : E.xc 100 = .ref C
  g : mg "Row" = some (.ref C)
  cl : Cls K C
  nE : NoAttr K C "entries"
  nN : NoAttr K C "numbers"
  mkr : Mk K C fI
  mP : Meth K C "put" fP
  mT : Meth K C "told" fT
  bI : Binds K fdI ["self"] []
  bP : Binds K fdP ["self", "entry"] []
  bT : Binds K fdT ["self"] []
/-- rows, where one stands -/
def RowOk (E : Wo) (X : Cx) : Prop := Room 2 X.A ∧ ∃ C fI fP fT fdI fdP fdT, RowK X.K X.mg E C fI fP fT fdI fdP fdT ∧ FnOk X.prog X.w X.K X.mg X.base CX0 1 fI fdI ["self"] (spRI (wd E X)) ∧
  FnOk X.prog X.w X.K X.mg X.base CX0 1 fP fdP ["self", "entry"] (spRP (wd E X)) ∧ FnOk X.prog X.w X.K X.mg X.base CX0 1 fT fdT ["self"] (spRT (wd E X))
/-- what holds of the run around -/
structure Good (nm : Nm) (E : Wo) (n : Nat) (sui : Option Nat) (io : List Nat) (fx : List (Nat × V)) (q : En) (sc : Scope) (fnb : Str → Bool) (X : Cx) : Prop where
  nd : X.N.Nodup
  hsc : X.env.scope = sc
  knd : sc.kind = ScopeKind.function
  fxio : ∀ p ∈ fx, io.contains p.1 = true ∨ sui = some p.1
  calm : sui = none → X.calm = true
  room : sui = none → Room n X.A
  un : X.A.units + 200 < cLine
  fnb : ∀ x, fnb x = true → X.fn x = true
  fn : sui = none → ∀ f x io', nm.fns f = some x → nm.ios f = some io' → ∃ fa fd ps, FnOk X.prog X.w X.K X.mg X.base (L2.CX X.prog X.w) n fa fd ps (spD (wd E X) io' (q.F f)) ∧ X.mg x = some (.ref fa) ∧ PySem.W.keepIn X.K (.ref fa) = true ∧ Binds X.K fd ps []
  fnT : sui = none → ∀ f x io', nm.fnT f = some x → nm.ios f = some io' → ∃ fa fd ps, FnOk X.prog X.w X.K X.mg X.base (L2.CX X.prog X.w) n fa fd ps (spT (wd E X) io' (q.F f)) ∧ X.mg x = some (.ref fa) ∧ PySem.W.keepIn X.K (.ref fa) = true ∧ Binds X.K fd ps []
  blt : ∀ x ∈ blts, X.mg x = none
  cst : ∀ x d, nm.consts.lookup x = some d → ∃ u v, X.mg x = some u ∧ RelV v u ∧ ∀ H F, Val (wd E X) H F d v
  cls : ∀ (c : Nat) (x : Str) (b : Bool), nm.cls c = some (x, b) → X.mg x = some (E.xc c) ∧ (∃ D, E.xc c = .ref D) ∨ (X.mg x = none ∧ bootBuiltins x = some (E.xc c) ∧ x ≠ "__name__" ∧ ∃ T, E.xc c = .type T)
  rai : ∀ (c : Nat) (x : Str), nm.cls c = some (x, true) → RaiseOk X x (E.xc c)
  fv : ∀ g x, nm.fns g = some x → nm.big g = false → ∃ a, E.fa g = a + 1 ∧ X.mg x = some (.ref a)
  fp : ∀ g a, E.fa g = a + 1 → nm.fns g ≠ none ∨ nm.fnT g ≠ none
  row : sui = none → nm.cls 100 = some (("Row" : Str), false) → RowOk E X
  sub : ∀ k c b, q.su k c = some b → PySem.W.exmOne X.K (E.xc k) (E.xc c) = some b ∧ PySem.W.kitOne X.K (E.xc k) (E.xc c) = some b ∧ ∃ D, E.xc k = .ref D ∧ ExcC X.K D
  hx : ∀ k, q.hx = some k → ∃ (X0 : Cx) (a D : Addr) (oe : Obj) (pn : List (Addr × Obj)) (i : Nat), sui = some i ∧ X = X0.suite a ((a, oe) :: pn) ∧ E.xc k = .ref D ∧ Zc (.ref D) none oe ∧ (∃ vs, oe.data = .fields vs) ∧ ExcC X.K D ∧ (i < X.N.length → (i, V.ref a) ∈ fx)

section
variable {nm : Nm} {E : Wo} {n : Nat} {sui : Option Nat} {io : List Nat} {fx : List (Nat × V)} {q : En} {sc : Scope} {fnb : Str → Bool} {X : Cx} {W : WX}
theorem isGl_gl (G : Good nm E n sui io fx q sc fnb X) {x : Str} (h : isGl sc x = true) : Gl X x ∧ (x == ("__debug__" : Str)) = false := by
  unfold isGl at h
  simp only [Bool.and_eq_true, Bool.not_eq_true'] at h
  refine ⟨?_, h.2⟩
  show X.env.scope.names.lookup x = some .globalImplicit
  rw [G.hsc]
  exact eq_of_beq h.1
theorem isVis_vis (G : Good nm E n sui io fx q sc fnb X) {i : Nat} {x : Str} (h : isVis X.N sc i x = true) : X.N[i]? = some x ∧ Vis X.env.scope x ∧ (x == ("__debug__" : Str)) = false ∧ (x == ("__classdict__" : Str)) = false := by
  unfold isVis at h
  simp only [Bool.and_eq_true, Bool.not_eq_true', Bool.or_eq_true, decide_eq_true_eq] at h
  obtain ⟨⟨⟨h1, h2⟩, h3⟩, h4⟩ := h
  refine ⟨h1, ?_, h3, h4⟩
  unfold Vis
  rw [G.hsc]
  rcases h2 with (h2 | h2) | h2
  · exact .inl (eq_of_beq h2)
  · exact .inr (.inl (eq_of_beq h2))
  · exact .inr (.inr (eq_of_beq h2))
theorem isLoc_loc (G : Good nm E n sui io fx q sc fnb X) {i : Nat} {x : Str} (h : isLoc X.N sc fnb i x = true) : X.N[i]? = some x ∧ L2.Loc X.env.scope x ∧ (X.fn x = true ∨ X.env.scope.names.lookup x = some .local) := by
  unfold isLoc at h
  simp only [Bool.and_eq_true, Bool.or_eq_true, decide_eq_true_eq] at h
  obtain ⟨h1, h2⟩ := h
  refine ⟨h1, ?_⟩
  unfold L2.Loc
  rw [G.hsc]
  rcases h2 with h2 | ⟨h2, h3⟩
  · exact ⟨.inl (eq_of_beq h2), .inr (eq_of_beq h2)⟩
  · exact ⟨.inr (eq_of_beq h2), .inl (G.fnb x h3)⟩
theorem plE_pe (G : Good nm E n sui io fx q sc fnb X) {p : Pl} {e : Expr} (h : plE X.N sc p e = true) : PE X e (tPl p) := by
  unfold plE at h
  split at h
  · simp only [Bool.and_eq_true] at h
    obtain ⟨h1, h2, h3, h4⟩ := isVis_vis G h.2
    exact pe_var h1 h2 h3 h4
  · cases h

theorem plIx_ok {b : Expr} (h : plIx b = true) : PlainIx b := by
  intro o i
  cases b <;> first | rfl | cases h
theorem plIx_sl {b : Expr} (h : plIx b = true) : NoSl b := by
  intro o i
  cases b <;> first | rfl | cases h
theorem plRc_ok {o : Expr} {m : Str} {env : Env} {w : Sem Value} (h : plRc o = true) : attributeBase o m env w = w := by
  cases o <;> first | rfl | cases h
theorem notSet_ok {b : Expr} {op : CmpOp} (h : notSet b = true) : behindInMarks op b = false := by
  cases b <;> first | rfl | cases h
theorem notSet_it {b : Expr} {env : Env} (h : notSet b = true) : ∀ x, foldedSetIterable b env x = pure x := by
  intro x
  cases b <;> first | rfl | cases h
theorem PEs.one {t : P → TE} {as : List P} {x : Expr} (h : PEs X t as [x]) : ∃ a, as = [a] ∧ PE X x (t a) := by
  match as, h with
  | [a], h => exact ⟨a, rfl, h.1⟩
  | [], h => exact h.elim
  | _ :: _ :: _, h => exact h.2.elim
theorem PEs.two {t : P → TE} {as : List P} {x y : Expr} (h : PEs X t as [x, y]) : ∃ a c, as = [a, c] ∧ PE X x (t a) ∧ PE X y (t c) := by
  match as, h with
  | [a, c], h => exact ⟨a, c, rfl, h.1, h.2.1⟩
  | [], h => exact h.elim
  | [_], h => exact h.2.elim
  | _ :: _ :: _ :: _, h => exact h.2.2.elim
theorem PEs.three {t : P → TE} {as : List P} {x y z : Expr} (h : PEs X t as [x, y, z]) : ∃ a c d, as = [a, c, d] ∧ PE X x (t a) ∧ PE X y (t c) ∧ PE X z (t d) := by
  match as, h with
  | [a, c, d], h => exact ⟨a, c, d, rfl, h.1, h.2.1, h.2.2.1⟩
  | [], h => exact h.elim
  | [_], h => exact h.2.elim
  | [_, _], h => exact h.2.2.elim
  | _ :: _ :: _ :: _ :: _, h => exact h.2.2.2.elim

theorem binO_ok {o : Bool} {op : Operator} {p : Prim} (h : binO op = some p) : OpR X (binaryOp op) (r2 (wd E X) o p) := by
  cases op <;> simp only [binO, Option.some.injEq, reduceCtorEq] at h <;> subst h
  · exact o_add
  · exact o_sub
  · exact o_mul
  · exact o_mod
  · exact o_pow
  · exact o_fdiv
theorem cmpO_ok {o : Bool} (hu : X.A.units + 200 < cLine) {op : CmpOp} {p : Prim} (h : cmpO op = some p) : OpR X (compareOp op) (r2 (wd E X) o p) := by
  cases op <;> simp only [cmpO, Option.some.injEq, reduceCtorEq] at h <;> subst h
  · exact o_eq hu
  · exact o_ne hu
  · exact o_lt
  · exact o_le
  · exact o_gt
  · exact o_ge
  · exact o_in hu
  · exact o_notin hu
theorem binO_disp {op : Operator} {p : Prim} (h : binO op = some p) : isDisp p = false := by
  cases op <;> simp only [binO, Option.some.injEq, reduceCtorEq] at h <;> subst h <;> rfl
theorem cmpO_disp {op : CmpOp} {p : Prim} (h : cmpO op = some p) : isDisp p = false := by
  cases op <;> simp only [cmpO, Option.some.injEq, reduceCtorEq] at h <;> subst h <;> rfl

theorem int_of_bor {K : Wd} {H : Hp} {F : Addr → Prop} {i : Int} {w : V} (h : Bor K H F (.int i) w) : w = .int i := h.int
/-- an operation's slices -/
theorem slice_ok {o a b : Bool} {x : Expr} {lo hi : Option Expr} {p2 pos : Pos} {as : List P} (h1 : lo.isSome = a) (h2 : hi.isSome = b) (hn : noIo as = true) (hs : slcOk (.slc a b) as = true) (h : PEs X (tA (cn E X fx q W)) as (x :: (lo.toList ++ hi.toList))) :
    PE X (.Subscript x (.Slice lo hi none p2) pos) (TV (cn E X fx q W) o (.op (.slc a b) as)) := by
  cases lo with
  | none =>
    cases hi with
    | none =>
      obtain ⟨u, rfl, hx⟩ := PEs.one h
      exact pe_imp (pe_slice (o_slice (E := E) (o := o) (a := a) (b := b)) hx po_none po_none) fun σ H Q h => tA.mono (h.one hn) fun v H1 h => ⟨h1, h2, h⟩
    | some y =>
      obtain ⟨u, w, rfl, hx, hy⟩ := PEs.two h
      have hw : isEnt w = true := by simpa [slcOk] using hs
      refine pe_imp (pe_slice (o_slice (E := E) (o := o) (a := a) (b := b)) hx po_none (po_some hy)) fun σ H Q h => tA.mono (h.two hn) fun v H1 h => tA.mono (tA.ent hw h) fun z H2 h => ?_
      obtain ⟨⟨j, rfl⟩, h⟩ := h
      exact ⟨j, rfl, h1, h2, h⟩
  | some y =>
    cases hi with
    | none =>
      obtain ⟨u, w, rfl, hx, hy⟩ := PEs.two h
      have hw : isEnt w = true := by simpa [slcOk] using hs
      refine pe_imp (pe_slice (o_slice (E := E) (o := o) (a := a) (b := b)) hx (po_some hy) po_none) fun σ H Q h => tA.mono (h.two hn) fun v H1 h => tA.mono (tA.ent hw h) fun z H2 h => ?_
      obtain ⟨⟨j, rfl⟩, h⟩ := h
      exact ⟨j, rfl, h1, h2, h⟩
    | some y' =>
      obtain ⟨u, w, w2, rfl, hx, hy, hz⟩ := PEs.three h
      have hw : isEnt w = true ∧ isEnt w2 = true := by simpa [slcOk] using hs
      refine pe_imp (pe_slice (o_slice (E := E) (o := o) (a := a) (b := b)) hx (po_some hy) (po_some hz)) fun σ H Q h => tA.mono (h.three hn) fun v H1 h => tA.mono (tA.ent hw.1 h) fun z H2 h => ?_
      obtain ⟨⟨j, rfl⟩, h⟩ := h
      refine ⟨j, rfl, tA.mono (tA.ent hw.2 h) fun z2 H3 h => ?_⟩
      obtain ⟨⟨j2, rfl⟩, h⟩ := h
      exact ⟨j2, rfl, h1, h2, h⟩
theorem c1_ok {o : Bool} {p : Prim} {f : Str} {fp pos : Pos} {x : Expr} {a : P} (G : Good nm E n sui io fx q sc fnb X) (hcp : (sui.isSome && calmP p) = false) (hi : noIo [a] = true) (h1 : isC1 p = true) (h2 : f = callN p) (hg : isGl sc f = true) (hn : nst x = true) (hx : PE X x (tA (cn E X fx q W) a)) :
    PE X (.Call (.Name f fp) [x] [] pos) (TV (cn E X fx q W) o (.op p [a])) := by
  obtain ⟨gl, gd⟩ := isGl_gl G hg
  have pa : PA X [x] (tCons (tA (cn E X fx q W) a) tNil) := pa_cons hx pa_nil (star_cons hn)
  have fin : ∀ {id : String}, CallR X (.builtin id) (rC (wd E X) o p) → bootBuiltins f = some (.builtin id) → f ∈ blts → f ≠ "__name__" → PE X (.Call (.Name f fp) [x] [] pos) (TV (cn E X fx q W) o (.op p [a])) :=
    fun {id} hc hv hm hnm => pe_imp (pe_callB hc gl (G.blt f hm) hv pa hnm gd (star_cons hn) (by rfl)) fun σ H Q h => tA.mono (h.one hi) fun v H1 h => h
  have finT : ∀ {id : String}, CallR X (.type id) (rC (wd E X) o p) → bootBuiltins f = some (.type id) → f ∈ blts → f ≠ "__name__" → PE X (.Call (.Name f fp) [x] [] pos) (TV (cn E X fx q W) o (.op p [a])) :=
    fun {id} hc hv hm hnm => pe_imp (pe_callTy hc gl (G.blt f hm) hv pa hnm gd (star_cons hn) (by rfl)) fun σ H Q h => tA.mono (h.one hi) fun v H1 h => h
  have calm : calmP p = true → X.calm = true := fun z => G.calm (by cases sui with | none => rfl | some i => rw [z] at hcp; cases hcp)
  subst h2
  cases p <;> first | exact absurd h1 Bool.false_ne_true | skip
  · exact fin c_len PySem.boot_len (by decide +kernel) (by decide +kernel)
  · exact fin (c_sum (calm rfl)) (by decide +kernel) (by decide +kernel) (by decide +kernel)
  · exact fin (c_maxl (calm rfl)) (by decide +kernel) (by decide +kernel) (by decide +kernel)
  · exact fin (c_minl (calm rfl)) (by decide +kernel) (by decide +kernel) (by decide +kernel)
  · exact finT c_tupOf (by decide +kernel) (by decide +kernel) (by decide +kernel)
  · exact finT c_lstOf (by decide +kernel) (by decide +kernel) (by decide +kernel)
  · exact finT c_strOf (by decide +kernel) (by decide +kernel) (by decide +kernel)
  · exact finT c_intOf (by decide +kernel) (by decide +kernel) (by decide +kernel)
  · exact fin (c_all (calm rfl)) (by decide +kernel) (by decide +kernel) (by decide +kernel)
  · exact finT (c_lstD (calm rfl)) (by decide +kernel) (by decide +kernel) (by decide +kernel)
theorem c2_ok {o : Bool} {p : Prim} {f : Str} {fp pos : Pos} {x y : Expr} {a c : P} (G : Good nm E n sui io fx q sc fnb X) (hcp : (sui.isSome && calmP p) = false) (hi : noIo [a, c] = true) (h1 : isC2 p = true) (h2 : f = callN p) (hg : isGl sc f = true) (hn : nst x = true) (hn2 : nst y = true) (hx : PE X x (tA (cn E X fx q W) a)) (hy : PE X y (tA (cn E X fx q W) c)) :
    PE X (.Call (.Name f fp) [x, y] [] pos) (TV (cn E X fx q W) o (.op p [a, c])) := by
  obtain ⟨gl, gd⟩ := isGl_gl G hg
  have pa : PA X [x, y] (tCons (tA (cn E X fx q W) a) (tCons (tA (cn E X fx q W) c) tNil)) := pa_cons hx (pa_cons hy pa_nil (star_cons hn2)) (star_cons hn)
  have fin : ∀ {id : String}, CallR X (.builtin id) (rC (wd E X) o p) → bootBuiltins f = some (.builtin id) → f ∈ blts → f ≠ "__name__" → PE X (.Call (.Name f fp) [x, y] [] pos) (TV (cn E X fx q W) o (.op p [a, c])) :=
    fun {id} hc hv hm hnm => pe_imp (pe_callB hc gl (G.blt f hm) hv pa hnm gd (star_cons hn) (star_plain (by simp [hn2]))) fun σ H Q h => tA.mono (h.two hi) fun v H1 h => tA.mono h fun w H2 h => h
  have calm : calmP p = true → X.calm = true := fun z => G.calm (by cases sui with | none => rfl | some i => rw [z] at hcp; cases hcp)
  subst h2
  cases p <;> first | exact absurd h1 Bool.false_ne_true | skip
  · exact fin (c_max2 (calm rfl)) (by decide +kernel) (by decide +kernel) (by decide +kernel)
  · exact fin (c_min2 (calm rfl)) (by decide +kernel) (by decide +kernel) (by decide +kernel)
theorem isi_ok {o : Bool} {t : Ty} {f g : Str} {fp gp pos : Pos} {x : Expr} {a : P} (G : Good nm E n sui io fx q sc fnb X) (hi : noIo [a] = true) (h1 : f = "isinstance") (h2 : g = Str.ofString t.py) (hg : isGl sc f = true) (hgg : isGl sc g = true) (hn : nst x = true) (hx : PE X x (tA (cn E X fx q W) a)) :
    PE X (.Call (.Name f fp) [x, .Name g gp] [] pos) (TV (cn E X fx q W) o (.op (.isi t) [a])) := by
  obtain ⟨gl, gd⟩ := isGl_gl G hg
  obtain ⟨gl2, gd2⟩ := isGl_gl G hgg
  have pn : PE X (.Name g gp) (tC (.ty t.py)) := by
    subst h2
    cases t <;> exact pe_bltn (v := .ty _) gl2 (G.blt _ (by decide +kernel)) (by decide +kernel) rfl (by decide +kernel) gd2
  have pa : PA X [x, .Name g gp] (tCons (tA (cn E X fx q W) a) (tCons (tC (.ty t.py)) tNil)) := pa_cons hx (pa_cons pn pa_nil) (star_cons hn)
  subst h1
  exact pe_imp (pe_callB (c_isi (E := E) (o := o) (t := t)) gl (G.blt _ (by decide +kernel)) (by decide +kernel) pa (by decide +kernel) gd (star_cons hn) (by rfl)) fun σ H Q h => tA.mono (h.one hi) fun v H1 h => ⟨v, rfl, h⟩
end

/-! ### max(xs, default=d) -/
section
variable {E : Wo} {X : Cx} {o : Bool}
theorem maxOf_fold : ∀ (ns : List Int) (m : Int), maxOf m ns = ns.foldl max m
  | [], m => rfl
  | x :: r, m => by
    unfold maxOf
    rw [maxOf_fold r, List.foldl_cons]
    congr 1
    split <;> omega
theorem alike_ints (ns : List Int) : PySem.W.AlikeAll (ns.map PyData.int) := by
  constructor
  · intro x hx y hy
    obtain ⟨i, _, rfl⟩ := List.mem_map.mp hx
    obtain ⟨j, _, rfl⟩ := List.mem_map.mp hy
    rfl
  · intro x hx
    obtain ⟨i, _, rfl⟩ := List.mem_map.mp hx
    intro z; cases z
theorem depth_ints : ∀ ns : List Int, PyData.depthAll (ns.map PyData.int) ≤ 1
  | [] => by simp [PyData.depthAll]
  | n :: ns => by
    have := depth_ints ns
    simp only [List.map_cons, PyData.depthAll, PyData.depth]
    omega
theorem dpAll_ints (K : PySem.W.Frag) (H : Hp) : ∀ ns : List Int, DpAll K H (ns.map V.int) (ns.map PyData.int)
  | [] => .nil
  | n :: ns => .cons (.int n) (dpAll_ints K H ns)
theorem c_maxd (hh : X.A.handled = none) (hu : X.A.units + 200 < cLine) : CallRK X (.builtin "max") ["default"] (fun vs zs H Q => ∃ v w, vs = [v] ∧ zs = [w] ∧ rP (wd E X) o .maxd [v, w] H Q) := by
  intro pins s σ H xs zs us ws Q I r rz h
  obtain ⟨v, w, rfl, rfl, F, ts, ds, d, hs, hb, he, hq⟩ := h
  replace he : evMaxd ds = .ok d := he
  unfold evMaxd at he
  split at he
  · rename_i ys k
    obtain ⟨_, _, e2, b1, b2⟩ := hb.b2
    cases e2; cases b2.int
    obtain ⟨p, vs, rfl, t, l⟩ := b1.lst
    obtain ⟨u, rfl, ru⟩ := r.one
    obtain ⟨u2, rfl, ru2⟩ := rz.one
    cases ru
    obtain ⟨tk0, rfl⟩ := ru2
    have key : ∀ ns : List Int, intsOf ys = some ns → (∀ m : Int, (ns = [] → m = k) → (∀ n r, ns = n :: r → m = maxOf n r) → PQ o (wd E X) ts (.int m) Q) →
        wpAny (model X.prog X.w) X.A (call (.builtin "max") [.ref p] [("default", .int k tk0)]) (EP X pins σ Q) X.xe s := by
      intro ns en hq
      obtain rfl := l.ints en
      obtain ⟨its, rv, pl, hz⟩ := I.list (SqL.rd (K := X.K) t)
      obtain ⟨as, hr⟩ := Dp.readsAll I _ _ its (dpAll_ints X.K H ns) rv
      have hd := depth_ints ns
      refine PySem.W.max_list_default (vs := its.toArray) hh pl.isList hr (alike_ints ns) (by omega) (fun e h' tk hk => ?_) fun y ys' i v h' tk bs e _ rd hk => ?_
      · have e' : ns = [] := List.map_eq_nil_iff.mp e
        exact ⟨.int k, H, I.kept (t' := tk) hk, ⟨tk0, rfl⟩, (hq k (fun _ => rfl) (fun n r e3 => by rw [e'] at e3; cases e3)).int hs⟩
      · cases ns with
        | nil => cases e
        | cons n r =>
          simp only [List.map_cons, List.cons.injEq] at e
          obtain ⟨rfl, rfl⟩ := e
          rw [PySem.W.maxD_ints, ← maxOf_fold] at rd
          cases rd
          exact ⟨.int (maxOf n r), H, I.kept (t' := tk) hk, ⟨_, rfl⟩, (hq _ (fun e => by cases e) (fun n' r' e3 => by cases e3; rfl)).int hs⟩
    split at he
    · rename_i n r en
      cases he
      exact key _ en fun m _ h2 => by rw [h2 n r rfl]; exact hq
    · rename_i en
      cases he
      exact key _ en fun m h1 _ => by rw [h1 rfl]; exact hq
    · cases he
  · cases he
/-- max(x, default=d) -/
theorem maxd_ok {nm : Nm} {n : Nat} {sui : Option Nat} {io : List Nat} {fx : List (Nat × V)} {q : En} {sc : Scope} {fnb : Str → Bool} {W : WX} {o : Bool} {f k : Str} {fp pos kp : Pos} {x y : Expr} {as : List P} (G : Good nm E n sui io fx q sc fnb X) (hs : sui = none) (hi : noIo as = true) (h2 : f = "max") (h3 : k = "default") (hg : isGl sc f = true) (hn : nst x = true) (hx : PEs X (tA (cn E X fx q W)) as [x, y]) :
    PE X (.Call (.Name f fp) [x] [⟨some k, y, kp⟩] pos) (TV (cn E X fx q W) o (.op .maxd as)) := by
  obtain ⟨gl, gd⟩ := isGl_gl G hg
  obtain ⟨a, c, rfl, ha, hc⟩ := PEs.two hx
  subst h2 h3
  have pa : PA X [x] (tCons (tA (cn E X fx q W) a) tNil) := pa_cons ha pa_nil (star_cons hn)
  refine pe_imp (pe_callBK (c_maxd (E := E) (o := o) (G.room hs).hd G.un) gl (G.blt _ (by decide +kernel)) (by decide +kernel) pa (pk_cons hc pk_nil) (by decide +kernel) gd ?_ ?_) fun σ H Q h => tA.mono (h.two hi) fun v H1 h => tA.mono h fun w H2 h => ⟨v, w, rfl, rfl, h⟩
  · rw [star_cons hn]; rfl
  · rw [star_cons hn]; rfl
end
end Bk

/-! Bs: how many unlike texts a list has (the kit has lists of one text at most). -/
namespace Bk
open PySem PySem.Spec PyProof.Rows L2

/-- the set at S holds the first i of the texts -/
def SetAt (prog : Program) (w : World) (m : Heap) (S : Addr) (xs : List Str) (i : Nat) : Prop := m.SetOf (PySem.strKind prog w) S (fun k => (xs.take i).any (· == k)) (uniq (xs.take i)).length
theorem SetAt.move {prog : Program} {w : World} {m m' : Heap} {S : Addr} {xs : List Str} {i : Nat} (h : SetAt prog w m S xs i) (k : ∀ o, m.get? S = some o → m'.get? S = some o) : SetAt prog w m' S xs i := by
  obtain ⟨o, es, ep, t, ho, r⟩ := h
  exact ⟨o, es, ep, t, (k o ho), r⟩
theorem SetAt.next {prog : Program} {w : World} {m : Heap} {S : Addr} {xs : List Str} {i : Nat} (hi : i < xs.length)
    (h : m.SetOf (PySem.strKind prog w) S (fun k => (xs.take i).any (· == k) || decide (k = xs.getD i Str.empty)) (if (xs.take i).any (· == xs.getD i Str.empty) then (uniq (xs.take i)).length else (uniq (xs.take i)).length + 1)) : SetAt prog w m S xs (i + 1) := by
  have e : xs.take (i + 1) = xs.take i ++ [xs.getD i Str.empty] := by
    rw [List.take_add_one, List.getD_eq_getElem?_getD, List.getElem?_eq_getElem hi]; rfl
  unfold SetAt
  rw [e]
  refine SetOf_congr h (fun k => (any_snoc _ _ _).symm) ?_
  rw [uniq_snoc, uniq_any]
  split
  · rfl
  · simp [List.length_append]
section
variable {prog : Program} {w : World} {A : Around} {R : Result → Shared → Prop} {I : Addr} {fp wr : List Addr} {G : Array GenState → Array GenState → Prop} {n : Nat} {Pv : Nat → Value → Prop} {St : Nat → Shared → Prop}
/-- what set(..) does with each text -/
theorem set_texts (W : WalksS prog w A.in1 I fp wr G n Pv St) (S : Addr) (nS : S ∉ fp) (xs : List Str) (len : xs.length = n) (few : n ≤ 1000) (val : ∀ i v, Pv i v → ∃ t, v = .str (xs.getD i Str.empty) t) (left : Nat) :
    ∀ (i : Nat) (s : Shared), i + left = n → St i s → SetAt prog w s.heap S xs i → (∀ s', Moved (S :: wr) G s s' → SetAt prog w s'.heap S xs n → R (.ok (.ret .none)) s') →
      codeAny (model prog w) A (Code.builtin "set.update.loop" ⟨[.ref S, .ref I], []⟩) R s := by
  have nW : S ∉ wr := fun h => nS (W.sub _ h)
  have up : ∀ b ∈ wr, b ∈ S :: wr := fun b hb => List.mem_cons_of_mem _ hb
  induction left with
  | zero =>
    intro i s hi st hS fin
    have hi : i = n := by omega
    subst hi
    refine codeAny_builtin F.entry_set_update_loop ?_; rw [Around.under_plainId F.plain_set_update_loop _]; show wpAny _ A.in1 (pyNext (.ref I) >>= _) _ _ s
    refine wpAny_bind (W.done s _ _ st fun s' mv => ?_)
    exact wpAny_pure (fin s' (mv.mono up) (hS.move fun o => mv.heap S o nW))
  | succ left ih =>
    intro i s hi st hS fin
    have hlt : i < n := by omega
    refine codeAny_builtin F.entry_set_update_loop ?_; rw [Around.under_plainId F.plain_set_update_loop _]; show wpAny _ A.in1 (pyNext (.ref I) >>= _) _ _ s
    refine wpAny_bind (W.item i s _ _ hlt st fun v s' hv st' mv => ?_)
    obtain ⟨t, rfl⟩ := val i v hv
    have hS1 := hS.move fun o => mv.heap S o nW
    show wpAny _ A.in1 (holding [Value.str (xs.getD i Str.empty) t] (setAdd S (.str (xs.getD i Str.empty) t)) >>= _) _ _ s'; refine wpAny_bind (wpAny_holding ?_); unfold setAdd
    refine wpAny_holding (wpAny_bind ((PySem.strKind prog w).pyHash (k := xs.getD i Str.empty) (strKind_is _ _ _ _) ?_))
    have ul := uniq_le (xs.take i)
    rw [List.length_take] at ul
    refine wpAny_setAddHashed_of (knd := PySem.strKind prog w) (s := { s' with toks := s'.toks + 1 }) (strKind_is _ _ _ _) rfl hS1 (by unfold scanBound; omega) fun m sb hS2 => ?_
    refine wpAny_pure ⟨plainId_quiet F.plain_set_update_loop _, ih (i + 1) _ (by omega) (W.frame _ s' _ _ st' (Nat.le_succ _) fun b hb o e => ?_) (SetAt.next (by omega) hS2) fun s2 mv2 hS3 => ?_⟩
    · rw [sb.2 b (fun z : b = S => nS (by rw [← z]; exact hb))]; exact e
    · refine fin s2 (Moved.trans W.gtrans ((mv.mono up).then_heap (Nat.le_succ _) fun b o hb e => ?_) mv2) hS3
      rw [sb.2 b (fun z : b = S => hb (by rw [z]; exact List.mem_cons_self))]; exact e
end
section
variable {prog : Program} {w : World} {s : Shared} {A : Around} {E : Value → Shared → Prop}
abbrev emptySet (led : Bool) : Obj := { cls := .type "set", dict := none, data := .set #[] 0 (.fresh 0 0 led) }
/-- a set is made: new, then filled -/
theorem set_made {a : Value} {Q : Value → Shared → Prop}
    (fill : ∀ (led : Bool) (W : Result → Shared → Prop), (∀ m tk, Q (.ref s.heap.objs.size) { s with heap := m, toks := tk } → W (.ok (.ret .none)) { s with heap := m, toks := tk }) →
      wpAny (model prog w) A.in1.in1 (Builtin.«set.__init__» ⟨[.ref s.heap.objs.size, a], []⟩)
        (fun fin s' => match fin with | .done f => W (.ok f) s' | .again c' => c'.quiet = true ∧ codeAny (model prog w) A.in1 c' W s') (fun e s' => W (.error e) s') { s with heap := s.heap.push (emptySet led) }) :
    wpAny (model prog w) A (call (.type "set") [a]) Q E s := by
  have ft := PySem.F.called_set
  obtain ⟨_, _, hmro⟩ := ft.mro; have hmade := ft.made; have hsub := ft.sub
  refine wpAny_call (codeAny_of_tree ?_); show wpAny _ _ (callAny (.type "set") _) _ _ _
  refine wpAny_pure ⟨Code.quiet_builtin _ (by decide +kernel), codeAny_builtin PySem.F.entry_type_call (?_ : wpAny _ _ _ _ _ _)⟩; rw [Around.under_plain (weight_type_call_type "set" [a] []) rfl]
  have h1 := ft.notType
  have h2 := ft.canCreate
  have hct := PySem.F.typeCall_set_1 a
  repeat (any_goals first | assumption | wp_step)

  refine codeAny_mono (code_set_new_1 a (E := E) (Q₁ := fun obj s₁ => ∃ led : Bool, obj = .ref s.heap.objs.size ∧ s₁ = { s with heap := s.heap.push (emptySet led) }) fun led => ⟨led, rfl, rfl⟩) fun r s₁ hr => ?_
  cases r with
  | error e => exact hr
  | ok fl =>
    cases fl with
    | ret obj =>
      obtain ⟨led, rfl, rfl⟩ := hr
      have hT : Shared.TypeIs { s with heap := s.heap.push (emptySet led) } (.ref s.heap.objs.size) "set" := ⟨_, Heap.get?_push_size _ rfl, rfl⟩
      have hli := ft.init.lookup
      have hbi := ft.init.bind (.ref s.heap.objs.size)
      repeat (any_goals first | assumption | wp_step)

      refine codeAny_mono (codeAny_call_builtin (R := wants (fun r s₂ => r = .none ∧ Q (.ref s.heap.objs.size) s₂) E) ft.init.plain PySem.F.entry_set_init (check_set_init_1 hT (fill led _ fun m tk h => ⟨rfl, h⟩))) fun r₂ s₂ hr₂ => ?_
      cases r₂ with
      | error e => exact hr₂
      | ok fl₂ =>
        cases fl₂ with
        | ret r =>
          obtain ⟨rfl, hq⟩ := hr₂
          repeat (any_goals first | assumption | wp_step)
        | _ => exact hr₂.elim
    | _ => exact hr.elim
/-- set(xs), xs a list of texts -/
theorem set_list {l : Addr} {items : Array Value} {xs : List Str} {Q : Value → Shared → Prop} (hh : A.handled = none) (hl : s.heap.IsList l items) (hi : StrsAre items.toList xs) (few : xs.length ≤ 1000)
    (h : ∀ (m : Heap) (tk : Nat), SetAt prog w m s.heap.objs.size xs xs.length → (∀ b o, b < s.heap.objs.size → s.heap.get? b = some o → m.get? b = some o) → Q (.ref s.heap.objs.size) { s with heap := m, toks := tk }) :
    wpAny (model prog w) A (call (Value.type "set") [.ref l]) Q E s := by
  refine set_made fun led W hW => ?_
  have sz : xs.length = items.size := by rw [← StrsAre.len_eq hi, Array.length_toList]
  have hlS : l < s.heap.objs.size := by obtain ⟨_, e, _⟩ := hl; exact Heap.lt_size e
  have hl1 : (s.heap.push (emptySet led)).IsList l items := Heap.IsList.push hl _
  have sz1 : (s.heap.push (emptySet led)).objs.size = s.heap.objs.size + 1 := Heap.size_push ..
  have val : ∀ (i : Nat) (v : Value), items[i]? = some v → ∃ t, v = .str (xs.getD i Str.empty) t := fun i v hv => SS.strs_at hi i v (by rw [Array.getElem?_toList]; exact hv)
  have neI : l ≠ (s.heap.push (emptySet led)).objs.size := by rw [sz1]; exact Nat.ne_of_lt (Nat.lt_succ_of_lt hlS)
  have nS : s.heap.objs.size ∉ [(s.heap.push (emptySet led)).objs.size, l] := by
    rw [sz1]; simp only [List.mem_cons, List.not_mem_nil, or_false, not_or]; exact ⟨Nat.ne_of_lt (Nat.lt_succ_self _), Nat.ne_of_gt hlS⟩
  have hh3 : A.in1.in1.in1.handled = none := (by simp [hh]); have hsls := PySem.F.sub_list_set; have hslf := PySem.F.sub_list_frozenset; have hne : (Value.type "list" == Value.type "dict") = false := (by decide)
  obtain ⟨ol, hol, hcl, nl, hdl⟩ := hl1
  obtain ⟨oc, odi, oda, osl⟩ := ol
  simp only at hcl hdl
  subst hcl; subst hdl
  have hl1 : (s.heap.push (emptySet led)).IsList l items := ⟨_, hol, rfl, nl, rfl⟩
  unfold Builtin.«set.__init__» Builtin.Frozenset.updateFrom noKeywords
  generalize hPI : pyIter = PI
  wp_walk
  subst hPI
  refine wpAny_pyIter_list hl1 (wpAny_bind (wpAny_runValue ?_))
  refine set_texts ((Walks.list hh3 _ l neI items).toS) s.heap.objs.size nS xs sz (by omega) val items.size 0 _ (by omega) ⟨⟨_, Heap.get?_push_size _ rfl, rfl, rfl⟩, (hl1.push _)⟩ ?_ fun s' mv hS' => ?_
  · have hget : ((s.heap.push (emptySet led)).push { cls := .type "list_iterator", data := .fields #[.ref l, .int 0 0] }).get? s.heap.objs.size = some (emptySet led) := Heap.get?_push_of_some _ (Heap.get?_push_size _ rfl)
    exact SetOf_congr ((setObjOf_fresh (knd := PySem.strKind prog w) led).setOf hget (by unfold scanBound; omega)) (fun _ => rfl) rfl
  · obtain ⟨m, g, d, tk, os⟩ := s'
    have eg : g = s.gens := mv.gens
    have ed : d = s.drawn := mv.drawn
    have eo : os = s.os := mv.os
    subst eg; subst ed; subst eo
    refine wpAny_pure ?_; show wpAny _ _ (ret Value.none) _ _ _
    refine wpAny_pure (hW m tk (h m tk (by rw [sz]; exact hS') fun b o hb e => ?_))
    refine mv.heap b o ?_ (Heap.get?_push_of_some _ (Heap.get?_push_of_some _ e))
    simp only [List.mem_cons, List.not_mem_nil, or_false, not_or]
    rw [sz1]; exact ⟨Nat.ne_of_lt hb, Nat.ne_of_lt (Nat.lt_succ_of_lt hb)⟩
end
/-- len(set(x)), x a list of texts -/
def tLens (K : PySem.W.Frag) (ta : TE) : TE := fun σ H Q => ta σ H fun x H1 => ∃ l, ∃ xs : List Str, x = .ref l ∧ SqL K H1 l (xs.map V.str) ∧ xs.length ≤ 1000 ∧ Q (.int (uniq xs).length) H1
theorem pe_lens {X : Cx} {a : Expr} {ta : TE} {p p2 q pos : Pos} (hc : X.calm = true) (hg : Gl X "len") (hm : X.mg "len" = none) (hg2 : Gl X "set") (hm2 : X.mg "set" = none) (na : starEach [a] X.env = (false, eval a X.env) :: starEach [] X.env) (ha : PE X a ta) :
    PE X (.Call (.Name "len" p) [.Call (.Name "set" p2) [a] [] q] [] pos) (tLens X.K ta) :=
  ⟨fun pins s σ H Q I h => by
    refine Call_ (ld_blt I hg hm boot_len (callWith_builtin1 (args_cons ?_ rfl) rfl rfl))
    refine Call_ (ld_blt I hg2 hm2 boot_set (callWith_type1 (args_cons (thn (ha.run pins s σ H _ I h) fun v s1 ⟨x, H1, I1, r1, l, xs, ex, hl, few, q1⟩ => args_nil ?_) na) na))
    subst ex
    cases r1
    obtain ⟨its, r, pl, _⟩ := I1.list hl
    refine set_list (I1.ok.hd hc) pl.isList (by simpa using L2.strsAre_of r) few fun m tk hS hk => args_nil ?_
    obtain ⟨_, _, _, _, ho, hex, hd, _, _, _, hf, hn⟩ := hS
    rw [List.take_length] at hn
    have ul := uniq_le xs
    have I2 : Inv X pins σ H1 { s1 with heap := m, toks := tk } := I1.kept fun b o e => hk b o (Heap.lt_size e) e
    exact call_len_set ho hex hd hf (by rw [hn]; omega) ⟨.int (uniq xs).length, H1, I2.tok _, ⟨_, by rw [hn]⟩, q1⟩⟩
end Bk

/-! B7: every operation, methods, calls of defs. -/
namespace Bk
open PySem PySem.Spec PyProof.Rows L2

/-- the i-th slot holds a def that keeps a promise -/
def tCallVS (X : Cx) (CX : CXT) (k i : Nat) (E : L2.St → XK) (t : TA) : TE := fun σ H Q => ∃ f fd ps sp, σ[i]? = some (some (.ref f)) ∧ FnOk X.prog X.w X.K X.mg X.base CX k f fd ps sp ∧ PySem.W.keepIn X.K (.ref f) = true ∧ Binds X.K fd ps [] ∧ t σ H fun vs H1 => sp vs H1 Q (E σ)
theorem pe_callVS {X : Cx} {CX : CXT} {k i : Nat} {E : L2.St → XK} {x : Str} {p pos : Pos} {e : Expr} {es : List Expr} {t : TA} (hr : Room k X.A) (hN : X.N[i]? = some x) (hv : Vis X.env.scope x) (hx : ∀ σ, PassesAt CX X σ (E σ)) (ha : PA X (e :: es) t)
    (hdb : (x == ("__debug__" : Str)) = false) (hcd : (x == ("__classdict__" : Str)) = false)
    (he : starEach (e :: es) X.env = (false, eval e X.env) :: starEach es X.env) (hpl : (backTo pos (starEach es X.env)).any (·.1) = false) : PE X (.Call (.Name x p) (e :: es) [] pos) (tCallVS X CX k i E t) := by
  refine ⟨fun pins s σ H Q I h => ?_⟩
  obtain ⟨f, fd, ps, sp, hs, F, hk, hb, ht⟩ := h
  refine wpAny_Call_Name_kw (thn ((pe_var (pos := p) hN hv hdb hcd).run pins s σ H (fun v H1 => v = .ref f ∧ H1 = H) I ⟨.ref f, hs, rfl, rfl⟩) fun u s1 ⟨v, H1, I1, r1, q1⟩ => ?_)
  obtain ⟨rfl, rfl⟩ := q1
  cases r1
  refine PySem.W.callWith_K (h₀ := X.base) I.ok.mod.kin hk (thn (ha.run pos pins s1 σ _ _ I1 ht) fun us s2 ⟨vs, H2, I2, r, q⟩ => ⟨I2.kIn, ?_⟩) he hpl
  exact run_fnS F hr hb (hx σ) I2 r q
section
variable {nm : Nm} {E : Wo} {n : Nat} {sui : Option Nat} {io : List Nat} {fx : List (Nat × V)} {q : En} {sc : Scope} {fnb : Str → Bool} {X : Cx} {W : WX}
/-- a comparison as a value -/
theorem cmp_okV {o : Bool} {p : Prim} {as : List P} {es : List Expr} {x y : Expr} {op : CmpOp} {pos : Pos} (G : Good nm E n sui io fx q sc fnb X) (hn : noIo as = true) (ha : argsCmp p x op y = some es) (h : PEs X (tA (cn E X fx q W)) as es) :
    PE X (.Compare x [op] [y] pos) (TV (cn E X fx q W) o (.op p as)) := by
  unfold argsCmp at ha
  split at ha
  · split at ha
    · split at ha
      · rename_i h2
        cases ha
        obtain ⟨a, rfl, hx⟩ := PEs.one h
        unfold isNoneE at h2
        split at h2
        · exact pe_imp (pe_cmpR (o_isN (E := E) (o := o)) hx pe_non (nomark _)) fun σ H Q h => tA.mono (h.one hn) fun v H1 h => ⟨rfl, h⟩
        · cases h2
      · cases ha
    · cases ha
  · split at ha
    · split at ha
      · rename_i h2
        cases ha
        obtain ⟨a, rfl, hx⟩ := PEs.one h
        unfold isNoneE at h2
        split at h2
        · exact pe_imp (pe_cmpR (o_notN (E := E) (o := o)) hx pe_non (nomark _)) fun σ H Q h => tA.mono (h.one hn) fun v H1 h => ⟨rfl, h⟩
        · cases h2
      · cases ha
    · cases ha
  · split at ha
    · split at ha
      · rename_i hc
        cases ha
        obtain ⟨a, c, rfl, hx, hy⟩ := PEs.two h
        exact pe_imp (pe_cmpR (o_isB (E := E) (o := o)) hx hy (notSet_ok hc)) fun σ H Q h => h.two hn
      · cases ha
    · cases ha
  · split at ha
    · split at ha
      · rename_i hc
        cases ha
        obtain ⟨a, c, rfl, hx, hy⟩ := PEs.two h
        exact pe_imp (pe_cmpR (o_notB (E := E) (o := o)) hx hy (notSet_ok hc)) fun σ H Q h => h.two hn
      · cases ha
    · cases ha
  · split at ha
    · split at ha
      · rename_i hc
        cases ha
        obtain ⟨a, c, rfl, hx, hy⟩ := PEs.two h
        exact pe_imp (pe_cmpR (o_din (E := E) (o := o) (by have := G.un; omega)) hx hy (notSet_ok hc)) fun σ H Q h => h.two hn
      · cases ha
    · cases ha
  · split at ha
    · split at ha
      · rename_i hc
        cases ha
        obtain ⟨a, c, rfl, hx, hy⟩ := PEs.two h
        exact pe_imp (pe_cmpR (o_dnin (E := E) (o := o) (by have := G.un; omega)) hx hy (notSet_ok hc)) fun σ H Q h => h.two hn
      · cases ha
    · cases ha
  · split at ha
    · rename_i p' hp
      split at ha
      · rename_i hc
        cases ha
        simp only [Bool.and_eq_true] at hc
        obtain rfl := primEq_eq hc.1
        obtain ⟨a, c, rfl, hx, hy⟩ := PEs.two h
        exact pe_imp (pe_cmpR (cmpO_ok (o := o) G.un hp) hx hy (notSet_ok hc.2)) fun σ H Q h => h.two hn
      · cases ha
    · cases ha
theorem TT.tv {C : Cn} {p : P} {σ : L2.St} {H : Hp} {Q : Bool → Hp → Prop} (h : TT' C p σ H Q) : TV C false p σ H fun x H' => ∃ k, x = .bl k ∧ Q k H' := by
  obtain ⟨ρ, F, rest, l, s, q⟩ := h
  rw [EQ.bind] at q
  refine ⟨ρ, F, rest, l, s, q.imp fun d ρ1 ed q => ?_⟩
  obtain ⟨k, e, q⟩ := q.at
  cases d <;> simp only [asB, reduceCtorEq, R.ok.injEq] at e
  subst e
  exact fun v H1 F1 s1 vd => by
    unfold Val at vd
    exact ⟨_, vd, q H1 F1 s1⟩
/-- a comparison as a test -/
theorem cmp_okT {p : Prim} {as : List P} {es : List Expr} {x y : Expr} {op : CmpOp} {pos : Pos} (G : Good nm E n sui io fx q sc fnb X) (hn : noIo as = true) (ha : argsCmp p x op y = some es) (h : PEs X (tA (cn E X fx q W)) as es) :
    PT X (.Compare x [op] [y] pos) (TT' (cn E X fx q W) (.op p as)) := by
  unfold argsCmp at ha
  split at ha
  · split at ha
    · split at ha
      · rename_i h2
        cases ha
        obtain ⟨a, rfl, hx⟩ := PEs.one h
        unfold isNoneE at h2
        split at h2
        · exact pt_imp (pt_cmpR (o_isN (E := E) (o := false)) hx pe_non (nomark _)) fun σ H Q h => tA.mono ((TT.tv h).one hn) fun v H1 h => ⟨rfl, h⟩
        · cases h2
      · cases ha
    · cases ha
  · split at ha
    · split at ha
      · rename_i h2
        cases ha
        obtain ⟨a, rfl, hx⟩ := PEs.one h
        unfold isNoneE at h2
        split at h2
        · exact pt_imp (pt_cmpR (o_notN (E := E) (o := false)) hx pe_non (nomark _)) fun σ H Q h => tA.mono ((TT.tv h).one hn) fun v H1 h => ⟨rfl, h⟩
        · cases h2
      · cases ha
    · cases ha
  · split at ha
    · split at ha
      · rename_i hc
        cases ha
        obtain ⟨a, c, rfl, hx, hy⟩ := PEs.two h
        exact pt_imp (pt_cmpR (o_isB (E := E) (o := false)) hx hy (notSet_ok hc)) fun σ H Q h => (TT.tv h).two hn
      · cases ha
    · cases ha
  · split at ha
    · split at ha
      · rename_i hc
        cases ha
        obtain ⟨a, c, rfl, hx, hy⟩ := PEs.two h
        exact pt_imp (pt_cmpR (o_notB (E := E) (o := false)) hx hy (notSet_ok hc)) fun σ H Q h => (TT.tv h).two hn
      · cases ha
    · cases ha
  · split at ha
    · split at ha
      · rename_i hc
        cases ha
        obtain ⟨a, c, rfl, hx, hy⟩ := PEs.two h
        exact pt_imp (pt_cmpR (o_din (E := E) (o := false) (by have := G.un; omega)) hx hy (notSet_ok hc)) fun σ H Q h => (TT.tv h).two hn
      · cases ha
    · cases ha
  · split at ha
    · split at ha
      · rename_i hc
        cases ha
        obtain ⟨a, c, rfl, hx, hy⟩ := PEs.two h
        exact pt_imp (pt_cmpR (o_dnin (E := E) (o := false) (by have := G.un; omega)) hx hy (notSet_ok hc)) fun σ H Q h => (TT.tv h).two hn
      · cases ha
    · cases ha
  · split at ha
    · rename_i p' hp
      split at ha
      · rename_i hc
        cases ha
        simp only [Bool.and_eq_true] at hc
        obtain rfl := primEq_eq hc.1
        obtain ⟨a, c, rfl, hx, hy⟩ := PEs.two h
        exact pt_imp (pt_cmpR (cmpO_ok (o := false) G.un hp) hx hy (notSet_ok hc.2)) fun σ H Q h => (TT.tv h).two hn
      · cases ha
    · cases ha
theorem ValL.rng (K : Wd) (H : Hp) (F : Addr → Prop) (a b : Int) : ValL K H F (rngD a b) (rgV a b) := by
  unfold rngD rgV
  generalize List.range (b - a).toNat = l
  induction l with
  | nil => exact ValL.nil
  | cons i l ih => exact ValL.cons val_int ih
/-- list(range(x)) -/
theorem lrg_ok {o : Bool} {fp gp ip pos : Pos} {x : Expr} {a : P} (G : Good nm E n sui io fx q sc fnb X) (hcp : (sui.isSome && calmP .lrg) = false) (hi : noIo [a] = true) (h1 : isGl sc "list" = true) (h2 : isGl sc "range" = true) (hn : nst x = true) (hx : PE X x (tA (cn E X fx q W) a)) :
    PE X (.Call (.Name "list" fp) [.Call (.Name "range" gp) [x] [] ip] [] pos) (TV (cn E X fx q W) o (.op .lrg [a])) := by
  have calm : X.calm = true := G.calm (by cases sui with | none => rfl | some i => cases hcp)
  obtain ⟨g1, _⟩ := isGl_gl G h1
  obtain ⟨g2, _⟩ := isGl_gl G h2
  refine pe_imp (pe_listRg calm g1 (G.blt _ (by decide +kernel)) (prg_1 g2 (G.blt _ (by decide +kernel)) hx (star_cons hn)) rfl) fun σ H Q h => tA.mono (h.one hi) fun v H1 h => ?_
  obtain ⟨F, ts, ds, d, s, l, e, q⟩ := h
  replace e : evLrg ds = .ok d := e
  unfold evLrg at e
  split at e
  · rename_i b
    obtain ⟨hb, rfl⟩ := okIf_ok e
    simp only [Bool.and_eq_true, decide_eq_true_eq] at hb
    obtain ⟨w, e1, bw⟩ := l.b1
    cases e1
    cases bw.int
    exact ⟨b, rfl, RgOk.of_le (Int.le_refl 0) hb.2 (by decide) hb.1, q.lstNew s (ValL.rng _ _ _ 0 b)⟩
  · cases e
/-- len(set(x)) -/
theorem lens_ok {o : Bool} {fp gp ip pos : Pos} {x : Expr} {a : P} (G : Good nm E n sui io fx q sc fnb X) (hcp : (sui.isSome && calmP .lens) = false) (hi : noIo [a] = true) (h1 : isGl sc "len" = true) (h2 : isGl sc "set" = true) (hn : nst x = true) (hx : PE X x (tA (cn E X fx q W) a)) :
    PE X (.Call (.Name "len" fp) [.Call (.Name "set" gp) [x] [] ip] [] pos) (TV (cn E X fx q W) o (.op .lens [a])) := by
  have calm : X.calm = true := G.calm (by cases sui with | none => rfl | some i => cases hcp)
  obtain ⟨g1, _⟩ := isGl_gl G h1
  obtain ⟨g2, _⟩ := isGl_gl G h2
  refine pe_imp (pe_lens calm g1 (G.blt _ (by decide +kernel)) g2 (G.blt _ (by decide +kernel)) (star_cons hn) hx) fun σ H Q h => tA.mono (h.one hi) fun v H1 h => ?_
  obtain ⟨F, ts, ds, d, s, l, e, q⟩ := h
  replace e : evLens ds = .ok d := e
  unfold evLens at e
  split at e
  · split at e
    · rename_i ys en
      obtain ⟨hb, rfl⟩ := okIf_ok e
      obtain ⟨w, e1, bw⟩ := l.b1
      cases e1
      obtain ⟨p, vs, rfl, t, l⟩ := bw.lst
      obtain rfl := l.strs en
      exact ⟨p, ys, rfl, .inl t, of_decide_eq_true hb, q.int s⟩
    · cases e
  · cases e
/-- an operation -/
theorem op_ok {o : Bool} {p : Prim} {as : List P} {es : List Expr} {e : Expr} (G : Good nm E n sui io fx q sc fnb X) (ho : o = true → p ≠ .idx ∧ p ≠ .dget) (ha : args? sc p e = some es) (hcp : (sui.isSome && calmP p) = false) (hn : noIo as = true) (hs : slcOk p as = true) (hv : isDisp p = true → allVal as = true)
    (h : PEs X (tA (cn E X fx q W)) as es) : PE X e (TV (cn E X fx q W) o (.op p as)) := by
  unfold args? at ha
  split at ha
  · -- a op b
    split at ha
    · rename_i p' hp
      split at ha
      · rename_i hpp
        cases ha
        obtain rfl := primEq_eq hpp
        obtain ⟨a, c, rfl, hx, hy⟩ := PEs.two h
        exact pe_imp (pe_op (binO_ok (o := o) hp) hx hy) fun σ H Q h => h.two hn
      · cases ha
    · cases ha
  · exact cmp_okV G hn ha h
  · -- - a
    split at ha
    · rename_i hc
      cases ha
      obtain rfl := isP_eq hc
      obtain ⟨a, rfl, hx⟩ := PEs.one h
      exact pe_imp (pe_un (o_neg (E := E) (o := o)) hx) fun σ H Q h => h.one hn
    · cases ha
  · -- a[b], a[b:c]
    rename_i x y _
    unfold argsSub at ha
    split at ha
    · split at ha
      · rename_i hc
        cases ha
        obtain ⟨a, c, rfl, hx, hy⟩ := PEs.two h
        cases o with
        | true => exact ((ho rfl).1 rfl).elim
        | false => exact pe_imp (pe_ix (o_idx (E := E)) hx hy (plIx_ok hc)) fun σ H Q h => h.two hn
      · cases ha
    · split at ha
      · rename_i hc
        cases ha
        obtain ⟨a, c, rfl, hx, hy⟩ := PEs.two h
        cases o with
        | true => exact ((ho rfl).2 rfl).elim
        | false => exact pe_imp (pe_dgetX (by have := G.un; omega) hx hy (plIx_sl hc)) fun σ H Q h => tA.mono (h.two hn) fun v H1 h => tA.mono h fun w H2 h => r_dget h
      · cases ha
    · split at ha
      · split at ha
        · rename_i hc
          cases ha
          simp only [Bool.and_eq_true, beq_iff_eq] at hc
          exact slice_ok hc.1 hc.2 hn hs h
        · cases ha
      · cases ha
    · cases ha
  · -- f(..)
    unfold argsCall at ha
    split at ha
    · rename_i hg
      split at ha
      · split at ha
        · rename_i hc
          cases ha
          simp only [Bool.and_eq_true, decide_eq_true_eq] at hc
          obtain ⟨a, rfl, hx⟩ := PEs.one h
          exact isi_ok G hn hc.1.1.1 hc.1.1.2 hg hc.1.2 hc.2 hx
        · cases ha
      · rename_i g gp x ip
        split at ha
        · rename_i hc
          cases ha
          simp only [Bool.and_eq_true, decide_eq_true_eq] at hc
          obtain ⟨⟨⟨rfl, rfl⟩, hg2⟩, hn2⟩ := hc
          obtain ⟨a, rfl, hx⟩ := PEs.one h
          exact lens_ok G hcp hn hg hg2 hn2 hx
        · cases ha
      · rename_i g gp x ip
        split at ha
        · rename_i hc
          cases ha
          simp only [Bool.and_eq_true, decide_eq_true_eq] at hc
          obtain ⟨⟨⟨rfl, rfl⟩, hg2⟩, hn2⟩ := hc
          obtain ⟨a, rfl, hx⟩ := PEs.one h
          exact lrg_ok G hcp hn hg hg2 hn2 hx
        · cases ha
      · split at ha
        · rename_i hc
          cases ha
          simp only [Bool.and_eq_true, decide_eq_true_eq] at hc
          obtain ⟨a, rfl, hx⟩ := PEs.one h
          exact c1_ok G hcp hn hc.1.1 hc.1.2 hg hc.2 hx
        · cases ha
      · split at ha
        · rename_i hc
          cases ha
          simp only [Bool.and_eq_true, decide_eq_true_eq] at hc
          obtain ⟨a, c, rfl, hx, hy⟩ := PEs.two h
          exact c2_ok G hcp hn hc.1.1.1 hc.1.1.2 hg hc.1.2 hc.2 hx hy
        · cases ha
      · cases ha
    · cases ha
  · -- max(x, default=y)
    split at ha
    · rename_i hc
      cases ha
      simp only [Bool.and_eq_true, decide_eq_true_eq] at hc
      obtain ⟨⟨⟨⟨h1, h2⟩, h3⟩, h4⟩, h5⟩ := hc
      obtain rfl := isP_eq h1
      refine maxd_ok G ?_ hn h2 h4 h3 h5 h
      cases sui with
      | none => rfl
      | some i => cases hcp
    · cases ha
  · -- (a, b)
    split at ha
    · rename_i hc
      cases ha
      simp only [Bool.and_eq_true] at hc
      obtain rfl := isP_eq hc.1
      refine pe_imp (pe_tup (PEs.pa h hc.2)) fun σ H Q h => TAs.mono (h.argsS (hv rfl)) fun vs H1 h => ?_
      obtain ⟨F, ts, ds, d, s, l, e, q⟩ := h
      obtain ⟨c, rfl⟩ := okIf_ok (show okIf _ _ = .ok d from e)
      exact ⟨by rw [← l.length]; exact of_decide_eq_true c, q.tupNew s l⟩
    · cases ha
  · -- [a, b]
    split at ha
    · rename_i hc
      cases ha
      simp only [Bool.and_eq_true] at hc
      obtain rfl := isP_eq hc.1
      refine pe_imp (pe_lst (PEs.pa h hc.2)) fun σ H Q h => TAs.mono (h.argsS (hv rfl)) fun vs H1 h => ?_
      obtain ⟨F, ts, ds, d, s, l, e, q⟩ := h
      obtain ⟨c, rfl⟩ := okIf_ok (show okIf _ _ = .ok d from e)
      exact ⟨by rw [← l.length]; exact of_decide_eq_true c, q.lstNew s l⟩
    · cases ha
  · cases ha

/-! ### methods -/
theorem Pl.look_now {C : Cn} {σ : L2.St} {K : Wd} {H : Hp} {F : Addr → Prop} {p : Pl} {ρ : Rho} {rest : Things} {d : D} (h : p.look ρ = .ok d) (l : Ln C ρ σ) (s : Sep K H F (zp ρ σ ++ rest)) : ∃ v, σ[p.i]? = some (some v) ∧ Bor K H F d v := by
  have hb : p.bound ρ = true := by
    unfold Pl.look at h
    unfold Pl.bound
    split at h
    · rfl
    · rfl
    · cases h
  obtain ⟨v, hv⟩ := Pl.bound_at hb l s
  exact ⟨v, hv, Pl.look_at (A := []) h hv s⟩
theorem TV.met {m : Met} {r : P} {as : List P} {σ : L2.St} {H : Hp} {Q : VK} {C : Cn} (hr : noIo [r] = true) (hn : noIo as = true) (h : TV C false (.met m r as) σ H Q) :
    tA C r σ H fun x H1 => (∃ F ts d, Sep C.K H1 F ts ∧ Bor C.K H1 F d x ∧ recvOk m d = true) ∧ TAs C as σ H1 fun vs H2 => rM C.K m x vs H2 Q := by
  obtain ⟨ρ, F, rest, l, s, q⟩ := h
  rw [evP] at q
  cases hk : r.kd with
  | val =>
    rw [tAV hk]
    rw [hk] at q
    simp only at q
    rw [EQ.bind] at q
    refine ⟨ρ, F, rest, l, s, q.imp fun x ρ1 ed q v H1 F1 s1 vx => ?_⟩
    split at q
    · rename_i hro
      refine ⟨⟨F1, _, x, s1, vx.bor, hro⟩, ρ1, F1, [(.fz x, some v)] ++ rest, l.to (evP_ok_len ed), (s1.push vx).perm List.perm_middle.symm, ?_⟩
      rw [EQ.bind] at q
      refine q.skip fun ds ρ2 eds q vs H2 F2 s2 lay => ?_
      obtain ⟨d, e, q⟩ := q.at
      have s3 : Sep C.K H2 F2 ((.fz x, some v) :: (AT as ds vs ++ (zp ρ2 σ ++ rest))) := s2.perm ((List.Perm.append_left _ List.perm_middle).trans List.perm_middle)
      obtain ⟨v', e', vx'⟩ := s3.val
      cases e'
      exact ⟨F2, _, x :: ds, d, s3.tail.right, ⟨v, vs, rfl, vx'.bor, lay.bors hn s2⟩, e, q⟩
    · exact q.elim
  | bor p =>
    obtain rfl := kd_bor hk
    simp only [P.kd] at q
    rw [EQ.bind] at q
    obtain ⟨x, ex, q⟩ := q.at
    obtain ⟨v, hv, bx⟩ := Pl.look_now ex l s
    split at q
    · rename_i hro
      refine ⟨v, hv, ⟨F, _, x, s, bx, hro⟩, ρ, F, rest, l, s, ?_⟩
      rw [EQ.bind] at q
      refine q.imp fun ds ρ2 eds q vs H2 F2 s2 lay => ?_
      rw [EQ.bind] at q
      obtain ⟨x2, ex2, q⟩ := q.at
      obtain ⟨d, e, q⟩ := q.at
      exact ⟨F2, _, x2 :: ds, d, s2.right, ⟨v, vs, rfl, Pl.look_at ex2 hv s2, lay.bors hn s2⟩, e, q⟩
    · exact q.elim
  | io p =>
    obtain rfl := kd_io hk
    cases hr
theorem findD_spec (x : PyData) : ∀ (n : Nat) (ys : List PyData) (k : Nat), findD x n ys = some k → ∃ j y, k = n + j ∧ ys[j]? = some y ∧ PyData.eqv y x = true ∧ ∀ i z, i < j → ys[i]? = some z → PyData.eqv z x = false
  | n, [], k, h => by cases h
  | n, y :: ys, k, h => by
    unfold findD at h
    split at h
    · rename_i e
      cases h
      exact ⟨0, y, rfl, rfl, e, fun i z hi => absurd hi (Nat.not_lt_zero _)⟩
    · rename_i e
      obtain ⟨j, z, rfl, h1, h2, h3⟩ := findD_spec x (n + 1) ys k h
      refine ⟨j + 1, z, by omega, by simpa using h1, h2, fun i w hi hw => ?_⟩
      cases i with
      | zero => simp at hw; subst hw; simpa using e
      | succ i => exact h3 i w (by omega) (by simpa using hw)
theorem m_lidx (hu : X.A.units + 200 < cLine) : MtR X "list.index" (rM (wd E X) .lidx) := by
  intro pins s σ H x xs v us Q I rx rxs h
  obtain ⟨F, ts, ds0, d0, hs, hb, he, hq⟩ := h
  replace he : evLidx ds0 = .ok d0 := he
  unfold evLidx at he
  split at he
  · rename_i xs0 y0
    split at he
    · rename_i c
      simp only [Bool.and_eq_true, decide_eq_true_eq] at c
      split at he
      · rename_i k hk
        cases he
        obtain ⟨_, _, e2, b1, b2⟩ := hb.b2
        cases e2
        obtain ⟨a, vs, rfl, hl, lv⟩ := b1.lst
        cases rx
        cases rxs with
        | cons ry rt =>
          rename_i uy ut
          cases rt
          obtain ⟨bs, r1⟩ := Dp.reads I _ _ uy (b2.dp c.1.1) ry
          obtain ⟨j, z, ej, hz, hzj, hno⟩ := findD_spec _ _ _ _ hk
          obtain ⟨its, rv, ⟨⟨cls, dd, data, sls⟩, n, ho, hc, hdn, hdt⟩, hlen⟩ := I.list (SqL.rd (K := X.K) hl)
          simp only at hc hdt
          subst hc hdt
          obtain ⟨as, h4⟩ := Dp.readsAll I _ _ its (lv.dp c.1.2) rv
          have hn : its.length = (D.pyL xs0).length := SeqAt.ReadsAll.length _ its as h4
          have hmap : its.map (SeqAt.readOf s.heap) = D.pyL xs0 := SeqAt.readsAll_map_plain _ its as c.1.2 h4
          have hvl := rv.length
          have hsl := sizeLine_eq
          obtain ⟨hjd, _⟩ := List.getElem?_eq_some_iff.mp hz
          have hjl : j < its.length := by omega
          have hj : j < its.toArray.size := by simpa using hjl
          have at_ : ∀ (m : Nat) (hm : m < its.toArray.size) (z' : PyData), (D.pyL xs0)[m]? = some z' → SeqAt.readOf s.heap its.toArray[m] = z' := by
            intro m hm z' hz'
            have hml : m < its.length := by simpa using hm
            rw [← hmap, List.getElem?_map, List.getElem?_eq_getElem hml] at hz'
            have e1 : SeqAt.readOf s.heap its[m] = z' := Option.some.inj (show some (SeqAt.readOf s.heap its[m]) = some z' from hz')
            simpa using e1
          refine call_meets PySem.F.slot_list_index ⟨_, ho, rfl⟩ PySem.F.entry_list_index (PySem.F.args_list_index_2 _ _)
            (SeqAt.list_indexAt a its.toArray n dd sls uy (fun u => PyData.eqv (SeqAt.readOf s.heap u) _) j hj (by omega) ?_ ?_) ⟨ho, SeqAt.items_plain (vs := its.toArray) (show ReadsAll s.heap its.toArray.toList _ as from h4) r1 c.1.2 c.1.1 (by have := c.2; omega), ?_⟩
          · show PyData.eqv (SeqAt.readOf s.heap its.toArray[j]) _ = true
            rw [at_ j hj z hz]
            exact hzj
          · intro m hm hmj
            have hmd : m < (D.pyL xs0).length := by omega
            have hz' : (D.pyL xs0)[m]? = some (D.pyL xs0)[m] := List.getElem?_eq_getElem hmd
            show PyData.eqv (SeqAt.readOf s.heap its.toArray[m]) _ = false
            rw [at_ m hm _ hz']
            exact hno m _ hmj hz'
          · refine ⟨.int (j : Nat), H, I.tok _, ⟨_, rfl⟩, ?_⟩
            have ek : k = j := by omega
            rw [← ek]
            exact hq _ _ _ hs val_int
      · cases he
    · cases he
  · cases he
theorem recv_str {K : Wd} {m : Met} {H : Hp} {F : Addr → Prop} {d : D} {v : V} (h : recvOk m d = true) (b : Bor K H F d v) (hm : ∀ d, recvOk m d = true → ∃ z, d = .str z) : ∃ a, v = .str a := by
  obtain ⟨z, rfl⟩ := hm d h
  exact ⟨z, b.str⟩
theorem bm_few {es : List Expr} {env : Env} {pos : Pos} (h : es.all nst = true) (hl : es.length < 28) :
    ((backTo pos (starEach es env)).all (fun x => !x.1) && (backToKw pos (keywordEach [] env)).all (fun x => x.1.isSome) && decide (es.length + ([] : List Keyword).length + (if ([] : List Keyword).isEmpty then 0 else 1) < 30)) = true := by
  have h1 : (backTo pos (starEach es env)).all (fun x => !x.1) = true := by
    have := star_plain (env := env) (pos := pos) h
    rw [List.all_eq_not_any_not]
    simp only [Bool.not_not]
    rw [this]; rfl
  rw [h1]
  have h2 : es.length + ([] : List Keyword).length + (if ([] : List Keyword).isEmpty then 0 else 1) < 30 := by
    have e : (if ([] : List Keyword).isEmpty then 0 else 1) = 0 := rfl
    rw [e]
    simp only [List.length_nil]
    omega
  rw [decide_eq_true h2]
  rfl
theorem tyL {K : Wd} {H : Hp} {F : Addr → Prop} {xs : List D} {v : V} (b : Bor K H F (.lst xs) v) : tyV K.K "list" v H := by
  obtain ⟨a, vs, rfl, r, _⟩ := b.lst
  exact .inl ⟨rfl, _, .inl r⟩
theorem met_ok {m : Met} {x : Expr} {es : List Expr} {ap pos : Pos} {r : P} {as : List P} (G : Good nm E n sui io fx q sc fnb X) (h1 : plRc x = true) (h2 : es.all nst = true) (h3 : (ap.endLine == pos.line) = true) (h4 : es.length = metA m) (hr : noIo [r] = true) (hn : noIo as = true)
    (hx : PE X x (tA (cn E X fx q W) r)) (hy : PEs X (tA (cn E X fx q W)) as es) : PE X (.Call (.Attribute x (metN m) ap) es [] pos) (TV (cn E X fx q W) false (.met m r as)) := by
  cases m with
  | join =>
    obtain ⟨y, rfl⟩ : ∃ y, es = [y] := by
      match es, h4 with
      | [y], _ => exact ⟨y, rfl⟩
    obtain ⟨c, rfl, hc⟩ := PEs.one hy
    simp only [List.all_cons, Bool.and_eq_true] at h2
    refine pe_imp (pe_m1 F.slot_str_join F.type_str_join (m_join (E := E)) hx hc (star_cons h2.1) (plRc_ok h1) h3) fun σ H Q h => tA.mono (TV.met hr hn h) fun v H1 h => ?_
    obtain ⟨⟨F1, ts, d, s1, b, r⟩, h⟩ := h
    refine ⟨recv_str r b fun d hd => ?_, tA.mono h.cons fun w H2 h => h.nil⟩
    cases d <;> first | exact ⟨_, rfl⟩ | cases hd
  | sidx =>
    obtain ⟨y, rfl⟩ : ∃ y, es = [y] := by
      match es, h4 with
      | [y], _ => exact ⟨y, rfl⟩
    obtain ⟨c, rfl, hc⟩ := PEs.one hy
    simp only [List.all_cons, Bool.and_eq_true] at h2
    refine pe_imp (pe_m1 F.slot_str_index F.type_str_index (m_sidx (E := E)) hx hc (star_cons h2.1) (plRc_ok h1) h3) fun σ H Q h => tA.mono (TV.met hr hn h) fun v H1 h => ?_
    obtain ⟨⟨F1, ts, d, s1, b, r⟩, h⟩ := h
    refine ⟨recv_str r b fun d hd => ?_, tA.mono h.cons fun w H2 h => h.nil⟩
    cases d <;> first | exact ⟨_, rfl⟩ | cases hd
  | split =>
    obtain ⟨y, rfl⟩ : ∃ y, es = [y] := by
      match es, h4 with
      | [y], _ => exact ⟨y, rfl⟩
    obtain ⟨c, rfl, hc⟩ := PEs.one hy
    simp only [List.all_cons, Bool.and_eq_true] at h2
    refine pe_imp (pe_m1 F.slot_str_split F.type_str_split (m_split (E := E)) hx hc (star_cons h2.1) (plRc_ok h1) h3) fun σ H Q h => tA.mono (TV.met hr hn h) fun v H1 h => ?_
    obtain ⟨⟨F1, ts, d, s1, b, r⟩, h⟩ := h
    refine ⟨recv_str r b fun d hd => ?_, tA.mono h.cons fun w H2 h => h.nil⟩
    cases d <;> first | exact ⟨_, rfl⟩ | cases hd
  | words =>
    obtain rfl := List.eq_nil_of_length_eq_zero h4
    match as, hy with
    | [], _ =>
      refine pe_imp (pe_m0 F.slot_str_split F.type_str_split (m_words (E := E)) hx (plRc_ok h1) h3) fun σ H Q h => tA.mono (TV.met hr hn h) fun v H1 h => ?_
      obtain ⟨⟨F1, ts, d, s1, b, r⟩, h⟩ := h
      refine ⟨recv_str r b fun d hd => ?_, h.nil⟩
      cases d <;> first | exact ⟨_, rfl⟩ | cases hd
    | _ :: _, hy => exact hy.elim
  | lidx =>
    cases es with
    | nil => cases h4
    | cons y es =>
      refine pe_imp (pe_bm PySem.F.plainAttrs_list PySem.F.slot_list_index PySem.F.type_list_index (m_lidx (E := E) G.un) hx (PEs.pa hy h2) (plRc_ok h1) (bm_few h2 (by rw [h4]; decide)) h3 (star_cons (by simp only [List.all_cons, Bool.and_eq_true] at h2; exact h2.1)) (star_plain (by simp only [List.all_cons, Bool.and_eq_true] at h2; exact h2.2)))
        fun σ H Q h => tA.mono (TV.met hr hn h) fun v H1 h => ?_
      obtain ⟨⟨F1, ts, d, s1, b, r⟩, h⟩ := h
      refine ⟨?_, h⟩
      cases d <;> first | exact tyL b | cases r
/-- a value's reading, behind which a token is out -/
def PTk (X : Cx) (e : Expr) (t : TE) : Prop :=
  ∀ (pins : List (Addr × Obj)) (s : Shared) (σ : L2.St) (H : Hp) (Q : VK), Inv X pins σ H s → t σ H Q → wpAny (model X.prog X.w) X.A (eval e X.env) (fun v s' => 1 ≤ s'.toks ∧ EP X pins σ Q v s') X.xe s
theorem PTk.pe {X : Cx} {e : Expr} {t : TE} (h : PTk X e t) : PE X e t := ⟨fun pins s σ H Q I q => wpAny_mono (h pins s σ H Q I q) (fun _ _ z => z.2) fun _ _ z => z⟩
theorem ptk_rep {X : Cx} {o : Expr} {to : TE} {y z : Str} {j k : Nat} {c0 c1 apos pos : Pos} (ho : PTk X o to) (hyz : (y == z) = false)
    (hst : starEach [.Constant (.str y) j c0, .Constant (.str z) k c1] X.env = [(false, eval (.Constant (.str y) j c0) X.env), (false, eval (.Constant (.str z) k c1) X.env)] := by rfl)
    (hbase : attributeBase o "replace" X.env (eval o X.env) = eval o X.env := by rfl) (hline : (apos.endLine == pos.line) = true := by rfl) :
    PTk X (.Call (.Attribute o "replace" apos) [.Constant (.str y) j c0, .Constant (.str z) k c1] [] pos) (CwR.tReplC to y z) := by
  intro pins s σ H Q I h
  refine PySem.Call_method2 hbase hst hline (wpAny_mono (ho pins s σ H _ I h) (fun v s1 q => ?_) fun _ _ z => z)
  obtain ⟨hk, v', H1, I1, r1, x, e1, hb, q⟩ := q
  subst e1
  obtain ⟨tx, e2⟩ := r1
  subst e2
  refine ⟨"str", _, PySem.F.plainAttrs_str, PySem.F.slot_str_replace, PySem.F.type_str_replace, typeIs_str _ _ _, (fun _ e => nomatch e), Calls.callWith_builtin rfl (Calls.evalArgs_plain (Calls.spliced_cons ?_))⟩
  refine Calls.Constant_str (Calls.spliced_cons (Calls.Constant_str (Calls.spliced_nil ?_)))
  exact wpAny_mono (wpAny_toks_of (n := 1) (show 1 ≤ s1.toks + 1 + 1 by omega) (PySem.SC.replace (E := X.xe) (Q := EP X pins σ Q) (by show s1.toks ≠ 0; omega) (by show s1.toks + 1 ≠ 0; omega) (by show s1.toks ≠ s1.toks + 1; omega) hyz hb fun t' k => ⟨.str (Txt.replace x y z), H1, I1.tok k, ⟨t', rfl⟩, q⟩)) (fun _ _ z => z) fun _ _ z => z.2
theorem join_T {c : Str} {j : Nat} {cp ap pos : Pos} {y : Expr} {a : P} (ha : a.kd = .val) (h2 : nst y = true) (h3 : (ap.endLine == pos.line) = true) (hc : PE X y (tA (cn E X fx q W) a)) :
    PTk X (.Call (.Attribute (.Constant (.str c) j cp) "join" ap) [y] [] pos) (TV (cn E X fx q W) false (.met .join (.cst (.str c)) [a])) := by
  intro pins s σ H Q I h
  have hn : noIo [a] = true := by
    cases a <;> first | rfl | cases ha
  have h := TV.met (r := .cst (.str c)) rfl hn h
  rw [tAV rfl] at h
  obtain ⟨ρ, F, rest, l, s0, qq⟩ := h
  rw [evP] at qq
  have h1 := qq (.str c) H F s0 (by unfold Val; rfl)
  obtain ⟨_, h1⟩ := h1
  have h1 := tA.mono h1.cons fun w H2 h => h.nil
  refine PySem.Call_method1 (by rfl) (star_cons h2) h3 (Calls.Constant_str ?_)
  refine ⟨"str", _, PySem.F.plainAttrs_str, PySem.F.slot_str_join, PySem.F.type_str_join, typeIs_str _ _ _, (fun _ e => nomatch e), Calls.callWith_builtin rfl (Calls.evalArgs_plain (Calls.spliced_cons ?_))⟩
  refine wpAny_mono (wpAny_toks_of (n := 1) (show 1 ≤ s.toks + 1 by omega) (hc.run pins { s with toks := s.toks + 1 } σ H _ (I.tok _) h1)) (fun u s2 q2 => Calls.spliced_nil ?_) fun _ _ z => z.2
  obtain ⟨hk, v, H2, I2, r2, q2⟩ := q2
  exact wpAny_mono (wpAny_toks_of (n := 1) hk (m_join (E := E) pins s2 σ H2 (.str c) [v] (.str c s.toks) [u] Q I2 ⟨_, rfl⟩ (.cons r2 .nil) q2)) (fun _ _ z => z) fun _ _ z => z.2
theorem TV.rep {e : P} {y z y2 z2 : Str} {σ : L2.St} {H : Hp} {Q : VK} {C : Cn} (h1 : (y == z) = false) (h2 : (y2 == z2) = false) (h : TV C false (.rep e y z y2 z2) σ H Q) : CwR.tReplC (CwR.tReplC (TV C false e) y z) y2 z2 σ H Q := by
  obtain ⟨ρ, F, rest, l, s, q⟩ := h
  rw [evP, EQ.bind] at q
  refine ⟨ρ, F, rest, l, s, q.imp fun d ρ1 ed q v H1 F1 s1 vd => ?_⟩
  obtain ⟨d2, e2, q⟩ := q.at
  unfold evRep2 at e2
  split at e2
  · rename_i d1 e1
    unfold evRep1 at e1 e2
    split at e1
    · rename_i x
      obtain ⟨k1, rfl⟩ := okIf_ok e1
      obtain ⟨k2, rfl⟩ := okIf_ok e2
      simp only [Bool.and_eq_true, decide_eq_true_eq] at k1 k2
      have ev : v = .str x := by unfold Val at vd; exact vd
      exact ⟨x, ev, k1.1, _, rfl, k2.1, q _ H1 F1 s1 (by unfold Val; rfl)⟩
    · cases e1
  · cases e2
theorem TV.mut {m : Mut} {p : Pl} {as : List P} {σ : L2.St} {H : Hp} {Q : VK} {C : Cn} (hn : allVal as = true) (h : TV C false (.mut m p as) σ H Q) :
    tPl p σ H fun x H1 => tyV C.K.K "list" x H1 ∧ TAs C as σ H1 fun vs H2 => rMu C.K m x vs H2 Q := by
  obtain ⟨ρ, F, rest, l, s, q⟩ := h
  rw [evP, EQ.bind] at q
  obtain ⟨x, ex, q⟩ := q.at
  obtain ⟨v, hv, bx⟩ := Pl.look_now ex l s
  split at q
  · rename_i hx
    refine ⟨v, hv, ?_, ρ, F, rest, l, s, ?_⟩
    · cases x <;> first | exact tyL bx | cases hx
    · rw [EQ.bind] at q
      refine q.imp fun ds ρ1 eds q vs H2 F2 s2 lay => ?_
      rw [EQ.bind] at q
      obtain ⟨⟨d, ρ2⟩, ed, q⟩ := q.at
      rw [EQ.bind] at q
      obtain ⟨⟨r1, r2⟩, er, q⟩ := q.at
      rw [EQ.bind] at q
      obtain ⟨ρ3, e3, q⟩ := q.at
      have s3 := Pl.take_sep ed hv s2
      refine ⟨F2, AT as ds vs ++ (zp ρ2 σ ++ rest), d, ds, (r1, r2), s3, lay.vals hn s2, er, fun w H3 s4 vw => ?_⟩
      have l2 : Ln C ρ2 σ := l.to ((Pl.take_length ed).trans (evAs_ok_len eds))
      have s5 := Pl.put_sep (A := (.fz r1, some w) :: AT as ds vs) e3 l2 hv ((s4.push vw).perm (List.Perm.swap _ _ _))
      have s6 : Sep C.K H3 F2 ((.fz r1, some w) :: (zp ρ3 σ ++ rest)) := by
        have : Sep C.K H3 F2 ([(.fz r1, some w)] ++ (AT as ds vs ++ (zp ρ3 σ ++ rest))) := s5
        exact Sep.skip (A := [(.fz r1, some w)]) this
      obtain ⟨w', e', q'⟩ := s6.val
      cases e'
      exact q _ _ _ s6.tail q'
  · exact q.elim
theorem mut_ok {m : Mut} {p : Pl} {x : Expr} {es : List Expr} {ap pos : Pos} {as : List P} (h1 : plRc x = true) (h2 : es.all nst = true) (h3 : (ap.endLine == pos.line) = true) (h4 : es.length = mutA m) (hn : allVal as = true)
    (hx : PE X x (tPl p)) (hy : PEs X (tA (cn E X fx q W)) as es) : PE X (.Call (.Attribute x (mutN m) ap) es [] pos) (TV (cn E X fx q W) false (.mut m p as)) := by
  have zero : ∀ {id : String}, es = [] → Slot "list" (mutN m) id → typeOf (.builtin id) = pure (.type "method_descriptor") → MtR X id (rMu (wd E X) m) → PE X (.Call (.Attribute x (mutN m) ap) es [] pos) (TV (cn E X fx q W) false (.mut m p as)) := by
    intro id e sl ty hm
    subst e
    cases as with
    | cons _ _ => exact hy.elim
    | nil =>
      refine pe_imp (pe_bm0 PySem.F.plainAttrs_list sl ty hm hx (plRc_ok h1) h3) fun σ H Q h => ?_
      obtain ⟨v, hv, t, h⟩ := TV.mut hn h
      exact ⟨v, hv, t, h.nil⟩
  have more : ∀ {id : String}, es ≠ [] → Slot "list" (mutN m) id → typeOf (.builtin id) = pure (.type "method_descriptor") → MtR X id (rMu (wd E X) m) → PE X (.Call (.Attribute x (mutN m) ap) es [] pos) (TV (cn E X fx q W) false (.mut m p as)) := by
    intro id e sl ty hm
    cases es with
    | nil => exact (e rfl).elim
    | cons y es =>
      have hlt : (y :: es).length < 28 := by rw [h4]; cases m <;> decide
      have h2' := h2
      simp only [List.all_cons, Bool.and_eq_true] at h2'
      refine pe_imp (pe_bm PySem.F.plainAttrs_list sl ty hm hx (PEs.pa hy h2) (plRc_ok h1) (bm_few h2 hlt) h3 (star_cons h2'.1) (star_plain h2'.2)) fun σ H Q h => ?_
      obtain ⟨v, hv, t, h⟩ := TV.mut hn h
      exact ⟨v, hv, t, h⟩
  have e0 : mutA m = 0 → es = [] := fun z => List.eq_nil_of_length_eq_zero (by omega)
  have e1 : mutA m ≠ 0 → es ≠ [] := fun z e => by subst e; exact z h4.symm
  cases m with
  | app => exact more (e1 (by decide)) PySem.F.slot_list_append PySem.F.type_list_append m_app
  | ext => exact more (e1 (by decide)) PySem.F.slot_list_extend PySem.F.type_list_extend m_ext
  | pop => exact zero (e0 rfl) PySem.F.slot_list_pop PySem.F.type_list_pop m_pop
  | popAt => exact more (e1 (by decide)) PySem.F.slot_list_pop PySem.F.type_list_pop m_popAt
  | ins => exact more (e1 (by decide)) PySem.F.slot_list_insert PySem.F.type_list_insert m_ins
  | rev => exact zero (e0 rfl) PySem.F.slot_list_reverse PySem.F.type_list_reverse m_rev
  | clr => exact zero (e0 rfl) PySem.F.slot_list_clear PySem.F.type_list_clear m_clr

/-! ### isinstance of the handled exception -/
theorem xis_ok {o : Bool} {i c : Nat} {f x y z : Str} {fp xp yp pos : Pos} {b : Bool} (G : Good nm E n sui io fx q sc fnb X) (hf : f = "isinstance") (hg : isGl sc f = true) (hs : sui = some i) (hv : isVis X.N sc i x = true) (hy : isGl sc y = true) (hc : nm.cls c = some (z, b)) (hz : z = y) :
    PE X (.Call (.Name f fp) [.Name x xp, .Name y yp] [] pos) (TV (cn E X fx q W) o (.xis i c)) := by
  subst hz hf
  refine ⟨fun pins s σ H Q I h => ?_⟩
  obtain ⟨ρ, F, rest, l, sp, qq⟩ := h
  rw [evP] at qq
  obtain ⟨d, ed, qq⟩ := qq.at
  unfold evXis at ed
  split at ed
  · rename_i k hk
    split at ed
    · rename_i kb hkb
      cases ed
      obtain ⟨X0, a, Dc, oe, pn, j, e1, e2, e3, hzc, hfd, hex, hfx⟩ := G.hx k hk
      rw [hs] at e1
      cases e1
      obtain ⟨gl, gd⟩ := isGl_gl G hg
      obtain ⟨gl2, gd2⟩ := isGl_gl G hy
      obtain ⟨v1, v2, v3, v4⟩ := isVis_vis G hv
      have hσ : σ[i]? = some (some (.ref a)) := l.f _ (hfx (List.getElem?_eq_some_iff.mp v1).1)
      obtain ⟨_, hkit, _⟩ := G.sub k c kb hkb
      rw [e3] at hkit
      -- the class
      have cl : ∃ (cv : V), (∀ u, RelV cv u → u = E.xc c) ∧ PE X (.Name z yp) (tC cv) := by
        rcases G.cls c z b hc with ⟨m1, D', eD⟩ | ⟨m1, m2, m3, T, eT⟩
        · refine ⟨.ref D', fun u hu => ?_, pe_glob gl2 m1 (by rw [eD]; rfl) gd2⟩
          rw [eD]; exact hu
        · refine ⟨.ty T, fun u hu => ?_, pe_bltn (v := .ty T) gl2 m1 m2 (by rw [eT]; rfl) m3 gd2⟩
          rw [eT]; exact hu
      obtain ⟨cv, hcv, pc⟩ := cl
      have pa : PA X [.Name x xp, .Name z yp] (tCons (tVar i) (tCons (tC cv) tNil)) := pa_cons (pe_var v1 v2 v3 v4) (pa_cons pc pa_nil (star_cons rfl)) (star_cons rfl)
      have hr : CallR X (.builtin "isinstance") (rIsE X.K Dc a) := by
        subst e2
        exact call_isE (X := X0) hex hzc hfd
      refine (pe_callB hr gl (G.blt _ (by decide +kernel)) (by decide +kernel) pa (by decide +kernel) gd (star_cons rfl) (by rfl)).run pins s σ H Q I ?_
      refine ⟨.ref a, hσ, cv, E.xc c, kb, rfl, hcv, hkit, ?_⟩
      have h0 : PQ o (wd E X) (zp ρ σ ++ rest) (.bl kb) Q := qq
      exact h0.bl sp
    · cases ed
  · cases ed

/-! ### calls of defs -/
def isIo : P → Bool
  | .io _ => true
  | _ => false
theorem ioPos_cons {i : Nat} {a : P} {as : List P} : ioPos i (a :: as) = if isIo a then i :: ioPos (i + 1) as else ioPos (i + 1) as := by
  cases a <;> rfl
theorem ioPos_ge : ∀ (as : List P) (i k : Nat), k ∈ ioPos i as → i ≤ k
  | [], _, _, h => by cases h
  | a :: as, i, k, h => by
    rw [ioPos_cons] at h
    split at h
    · rcases List.mem_cons.mp h with rfl | h
      · exact Nat.le_refl _
      · exact Nat.le_of_succ_le (ioPos_ge as (i + 1) k h)
    · exact Nat.le_of_succ_le (ioPos_ge as (i + 1) k h)
theorem ioPos_head {i : Nat} {a : P} {as : List P} : (ioPos i (a :: as)).contains i = isIo a := by
  rw [ioPos_cons]
  cases isIo a with
  | true => simp
  | false =>
    simp only [Bool.false_eq_true, if_false]
    have : ¬ i ∈ ioPos (i + 1) as := fun m => by have := ioPos_ge as (i + 1) i m; omega
    simpa using this
theorem ioPos_tail {i k : Nat} {a : P} {as : List P} (h : i < k) : (ioPos i (a :: as)).contains k = (ioPos (i + 1) as).contains k := by
  rw [ioPos_cons]
  split
  · rw [List.contains_cons]
    have : (k == i) = false := by simp; omega
    rw [this, Bool.false_or]
  · rfl
def noBor : List P → Bool
  | [] => true
  | .bor _ :: _ => false
  | _ :: es => noBor es
theorem AT_PT {io : List Nat} : ∀ {as : List P} {i : Nat} {ds : List D} {vs : List V}, noBor as = true → (∀ k, i ≤ k → io.contains k = (ioPos i as).contains k) → ds.length = as.length → AT as ds vs = PT' io i ds vs
  | [], i, ds, vs, _, _, hl => by
    cases ds with
    | nil => rfl
    | cons _ _ => cases hl
  | a :: as, i, ds, vs, hb, hio, hl => by
    cases ds with
    | nil => cases hl
    | cons d ds =>
      cases vs with
      | nil => rfl
      | cons v vs =>
        have h0 := hio i (Nat.le_refl _)
        rw [ioPos_head] at h0
        have ih := AT_PT (as := as) (i := i + 1) (ds := ds) (vs := vs) (by cases a <;> first | exact hb | cases hb) (fun k hk => by rw [hio k (by omega), ioPos_tail (by omega)]) (by simpa using hl)
        unfold AT PT'
        rw [ih, h0]
        cases a <;> first | rfl | cases hb
/-- what is lent, by the arguments -/
def OT' : List P → List V → List D → Things
  | .io _ :: es, v :: vs, o :: os => (.own o, some v) :: OT' es vs os
  | .io _ :: _, _, _ => []
  | _ :: es, _ :: vs, os => OT' es vs os
  | _, _, _ => []
theorem OT_OT' : ∀ {as : List P} {i : Nat} {vs0 vs : List V} {os : List D}, vs0.drop i = vs → vs.length = as.length → os.length = (ioPos i as).length → OT (ioPos i as) vs0 os = OT' as vs os
  | [], i, vs0, vs, os, _, _, hl => by
    cases os with
    | nil => rfl
    | cons _ _ => cases hl
  | a :: as, i, vs0, vs, os, e, hv, hl => by
    cases vs with
    | nil => cases hv
    | cons v vs =>
      have e' : vs0.drop (i + 1) = vs := by
        have := congrArg List.tail e
        simpa [List.tail_drop] using this
      rw [ioPos_cons] at hl ⊢
      have hi : vs0[i]? = some v := by
        have := congrArg List.head? e
        simpa [List.head?_drop] using this
      cases ha : isIo a with
      | true =>
        rw [ha, if_pos rfl] at hl
        rw [if_pos rfl]
        cases os with
        | nil => cases hl
        | cons o os =>
          cases a <;> first | cases ha | skip
          unfold OT OT'
          rw [hi, OT_OT' e' (by simpa using hv) (by simpa using hl)]
      | false =>
        rw [ha, if_neg Bool.false_ne_true] at hl
        rw [if_neg Bool.false_ne_true]
        have ih := OT_OT' (as := as) (i := i + 1) e' (by simpa using hv) hl
        rw [ih]
        cases a <;> first | rfl | cases ha
theorem putBack_sep {K : Wd} {C : Cn} {σ : L2.St} {H0 H : Hp} {F0 F : Addr → Prop} : ∀ {as : List P} {ds : List D} {vs : List V} {os : List D} {ρ ρ' : Rho} {A rest : Things}, putBack as os ρ = .ok ρ' → Ln C ρ σ → Lay K H0 F0 σ as ds vs → Sep K H F (OT' as vs os ++ (A ++ (zp ρ σ ++ rest))) → Sep K H F (A ++ (zp ρ' σ ++ rest))
  | [], ds, vs, os, ρ, ρ', A, rest, h, l, lay, s => by
    cases os with
    | nil => cases h; exact s
    | cons _ _ => cases h
  | a :: as, ds, vs, os, ρ, ρ', A, rest, h, l, lay, s => by
    cases ds with
    | nil => exact lay.elim
    | cons d ds =>
      cases vs with
      | nil => exact lay.elim
      | cons v vs =>
        cases ha : isIo a with
        | true =>
          cases a <;> first | cases ha | skip
          rename_i p
          cases os with
          | nil => cases h
          | cons o os =>
            obtain ⟨ρ1, e1, e2⟩ := bind_ok' (show (putBack as os ρ).bind (fun ρ => p.put ρ o) = .ok ρ' from h)
            have s1 : Sep K H F (OT' as vs os ++ (((.own o, some v) :: A) ++ (zp ρ σ ++ rest))) := s.perm List.perm_middle.symm
            have s2 := putBack_sep e1 l lay.2 s1
            exact Pl.put_sep (A := A) e2 (l.to (putBack_length e1)) lay.1 s2
        | false =>
          have h' : putBack as os ρ = .ok ρ' := by cases a <;> first | (cases os <;> exact h) | cases ha
          have s' : Sep K H F (OT' as vs os ++ (A ++ (zp ρ σ ++ rest))) := by cases a <;> first | exact s | cases ha
          exact putBack_sep h' l lay.2 s'
theorem putBack_len : ∀ {as : List P} {i : Nat} {os : List D} {ρ ρ' : Rho}, putBack as os ρ = .ok ρ' → os.length = (ioPos i as).length
  | [], i, os, ρ, ρ', h => by
    cases os with
    | nil => rfl
    | cons _ _ => cases h
  | a :: as, i, os, ρ, ρ', h => by
    rw [ioPos_cons]
    cases ha : isIo a with
    | true =>
      cases a <;> first | cases ha | skip
      rename_i p
      cases os with
      | nil => cases h
      | cons o os =>
        obtain ⟨ρ1, e1, e2⟩ := bind_ok' (show (putBack as os ρ).bind (fun ρ => p.put ρ o) = .ok ρ' from h)
        rw [if_pos rfl]
        simp [putBack_len (i := i + 1) e1]
    | false =>
      have h' : putBack as os ρ = .ok ρ' := by cases a <;> first | (cases os <;> exact h) | cases ha
      rw [if_neg Bool.false_ne_true]
      exact putBack_len h'
theorem Lay.lens {K : Wd} {H : Hp} {F : Addr → Prop} {σ : L2.St} : ∀ {es : List P} {ds : List D} {vs : List V}, Lay K H F σ es ds vs → ds.length = es.length ∧ vs.length = es.length
  | [], [], [], _ => ⟨rfl, rfl⟩
  | [], [], _ :: _, h => h.elim
  | [], _ :: _, _, h => h.elim
  | _ :: _, [], _, h => h.elim
  | _ :: _, _ :: _, [], h => h.elim
  | e :: es, d :: ds, v :: vs, h => by
    obtain ⟨a, b⟩ := Lay.lens h.2
    exact ⟨by simp [a], by simp [b]⟩
theorem ioPos_none : ∀ {as : List P} {i : Nat}, noIo as = true → ioPos i as = []
  | [], _, _ => rfl
  | a :: as, i, h => by
    rw [ioPos_cons]
    have h1 : isIo a = false := by cases a <;> first | rfl | cases h
    have h2 : noIo as = true := by cases a <;> first | exact h | cases h
    rw [h1, if_neg Bool.false_ne_true, ioPos_none h2]
theorem TV.callTmp {o : Bool} {f : Nat} {l : P} {as : List P} {Q : VK} {σ : L2.St} {H : Hp} {C : Cn} (hb : noBor as = true) (hio : noIo as = true) (h : TV C false (.callT f l as) σ H Q) :
    TV C true l σ H fun x H1 => TAs C as σ H1 fun vs H2 => spD C.K [0] (C.q.F f) (x :: vs) H2 Q (WE C.W σ) := by
  obtain ⟨ρ, F, rest, ln, s, q⟩ := h
  rw [evP, EQ.bind] at q
  refine ⟨ρ, F, rest, ln, s, q.imp fun d ρ1 ed q => ?_⟩
  have l1 := ln.to (evP_ok_len ed)
  split at q
  · rename_i hcon
    unfold PQ
    rw [hcon]
    intro v H1 F1 s1
    rw [EQ.bind] at q
    refine ⟨ρ1, F1, [(.own d, some v)] ++ rest, l1, s1.perm List.perm_middle.symm, q.skip fun es ρ2 eds q vs H2 F2 s2 lay => ?_⟩
    obtain ⟨h1, h2⟩ := lay.lens
    have l2 := l1.to (evAs_ok_len eds)
    refine ⟨F2, d :: es, zp ρ2 σ ++ rest, by simp only [List.length_cons]; omega, ?_, ?_⟩
    · have e : PT' [0] 0 (d :: es) (v :: vs) = (.own d, some v) :: AT as es vs := by
        rw [AT_PT (io := [0]) (i := 1) hb (fun k hk => by
          rw [ioPos_none hio]
          have : k ≠ 0 := by omega
          simp [this]) h1]
        rfl
      rw [e]
      refine s2.perm ?_
      show (AT as es vs ++ (zp ρ2 σ ++ ((Sl.own d, some v) :: rest))).Perm ((.own d, some v) :: (AT as es vs ++ (zp ρ2 σ ++ rest)))
      exact (List.Perm.append_left _ List.perm_middle).trans List.perm_middle
    · cases er : C.q.F f (d :: es) with
      | stuck => rw [er] at q; exact q.elim
      | ok w os =>
        rw [er] at q
        match os, q with
        | [od], q =>
          refine ⟨rfl, fun u H3 F3 s3 => ?_⟩
          have s3 : Sep C.K H3 F3 ((.fz w, some u) :: (.own od, some v) :: (zp ρ2 σ ++ rest)) := s3
          obtain ⟨w', e, vw⟩ := s3.val
          cases e
          exact q u H3 F3 s3.tail.tail vw
        | [], q => exact q.elim
        | _ :: _ :: _, q => exact q.elim
      | exc c os =>
        rw [er] at q
        match os, q with
        | [od], q =>
          refine ⟨rfl, fun H3 F3 s3 => ?_⟩
          have s3 : Sep C.K H3 F3 ((.own od, some v) :: (zp ρ2 σ ++ rest)) := s3
          exact q H3 F3 l2 s3.tail
        | [], q => exact q.elim
        | _ :: _ :: _, q => exact q.elim
  · exact q.elim
theorem TV.callA {f : Nat} {as : List P} {Q : VK} {σ : L2.St} {H : Hp} {C : Cn} (hb : noBor as = true) (h : TV C false (.call f as) σ H Q) : TAs C as σ H fun vs H1 => spD C.K (ioPos 0 as) (C.q.F f) vs H1 Q (WE C.W σ) := by
  obtain ⟨ρ, F, rest, l, s, q⟩ := h
  rw [evP, EQ.bind] at q
  refine ⟨ρ, F, rest, l, s, q.imp fun ds ρ1 eds q vs H2 F2 s2 lay => ?_⟩
  have l1 := l.to (evAs_ok_len eds)
  obtain ⟨h1, h2⟩ := lay.lens
  refine ⟨F2, ds, zp ρ1 σ ++ rest, by omega, ?_, ?_⟩
  · rw [← AT_PT (as := as) hb (fun k _ => rfl) h1]
    exact s2
  · cases er : C.q.F f ds with
    | stuck => rw [er] at q; exact q.elim
    | ok d os =>
      rw [er] at q
      unfold callE at q
      simp only at q
      rw [EQ.bind] at q
      obtain ⟨ρ2, e2, q⟩ := q.at
      have hlen : os.length = (ioPos 0 as).length := putBack_len e2
      refine ⟨hlen, fun v H3 F3 s3 => ?_⟩
      rw [OT_OT' (as := as) (vs := vs) rfl h2 hlen] at s3
      have s4 : Sep C.K H3 F3 (OT' as vs os ++ ([(.fz d, some v)] ++ (zp ρ1 σ ++ rest))) := s3.perm List.perm_middle.symm
      have s5 := putBack_sep e2 l1 lay s4
      have s5 : Sep C.K H3 F3 ((.fz d, some v) :: (zp ρ2 σ ++ rest)) := s5
      obtain ⟨w, e, vw⟩ := s5.val
      cases e
      exact q v H3 F3 s5.tail vw
    | exc c os =>
      rw [er] at q
      unfold callE at q
      simp only at q
      rw [EQ.bind] at q
      obtain ⟨ρ2, e2, q⟩ := q.at
      have hlen : os.length = (ioPos 0 as).length := putBack_len e2
      refine ⟨hlen, fun H3 F3 s3 => ?_⟩
      rw [OT_OT' (as := as) (vs := vs) rfl h2 hlen] at s3
      exact q H3 F3 (l1.to (putBack_length e2)) (putBack_sep (A := []) e2 l1 lay s3)
/-! ### a call of the def that a slot holds -/
theorem TV.callVV {i : Nat} {gs : List Nat} {as : List P} {Q : VK} {σ : L2.St} {H : Hp} (G : Good nm E n sui io fx q sc fnb X) (h0 : sui = none)
    (h3 : gs.all (fun g => (decide (nm.fns g = none) && decide (nm.fnT g = none)) || ((nm.fns g).isSome && decide (nm.ios g = some []) && !nm.big g)) = true) (hb : noBor as = true) (hio : noIo as = true) (h : TV (cn E X fx q W) false (.callV i gs as) σ H Q) :
    tCallVS X (L2.CX X.prog X.w) n i (WE W) (TAs (cn E X fx q W) as) σ H Q := by
  obtain ⟨ρ, F, rest, l, s, qq⟩ := h
  rw [evP] at qq
  split at qq
  · rename_i g hg
    split at qq
    · rename_i hc
      have hi := (List.getElem?_eq_some_iff.mp hg).1
      have hσ : i < σ.length := by rw [l.s, ← l.r]; exact hi
      obtain ⟨v, e, qv⟩ := s.mem_val (List.mem_append_left _ (zp_mem hg (List.getElem?_eq_getElem hσ)))
      unfold Val at qv
      obtain ⟨a, ea, rfl⟩ := qv
      have hgs := List.all_eq_true.mp h3 g (by simpa using hc)
      simp only [Bool.or_eq_true, Bool.and_eq_true, decide_eq_true_eq, Bool.not_eq_true'] at hgs
      have hp := G.fp g a ea
      rcases hgs with ⟨z1, z2⟩ | ⟨⟨z1, hios⟩, hbig⟩
      · exact (hp.elim (fun z => z z1) (fun z => z z2)).elim
      · obtain ⟨x, hx⟩ := Option.isSome_iff_exists.mp z1
        obtain ⟨fa, fd, ps, FO, hm, hk, hbi⟩ := G.fn h0 g x _ hx hios
        obtain ⟨a', e1, e2⟩ := G.fv g x hx hbig
        have ea' : E.fa g = a + 1 := ea
        have e3 : a = a' := by rw [ea'] at e1; exact Nat.succ.inj e1
        subst e3
        rw [hm] at e2
        cases e2
        refine ⟨_, fd, ps, _, by rw [List.getElem?_eq_getElem hσ, e], FO, hk, hbi, ?_⟩
        have h' : TV (cn E X fx q W) false (.call g as) σ H Q := ⟨ρ, F, rest, l, s, by rw [evP]; exact qq⟩
        have := h'.callA hb
        rw [ioPos_none hio] at this
        exact this
    · exact qq.elim
  · exact qq.elim
/-! ### a call with a new container among its arguments -/
def tCutA (C : Cn) : List P → TE → TA → TA
  | [], tl, tb => tCons tl tb
  | a :: as, tl, tb => tCons (tA C a) (tCutA C as tl tb)
theorem TAs.cut {C : Cn} {tl : TE} {tb : TA} {σ : L2.St} : ∀ {as : List P} {H : Hp} {Q : List V → Hp → Prop}, TAs C as σ H (fun us H1 => tl σ H1 fun x H2 => tb σ H2 fun vs H3 => Q (us ++ x :: vs) H3) → tCutA C as tl tb σ H Q
  | [], _, _, h => h.nil
  | a :: as, _, _, h => tA.mono h.cons fun x H1 h => TAs.cut h
theorem pa_cut {C : Cn} {bs : List P} {tl : TE} {e1 : Expr} : ∀ {as : List P} {es es1 es2 : List Expr}, cut as es = some (es1, e1, es2) → es.all nst = true → PEs X (tA C) as es1 → PE X e1 tl → PEs X (tA C) bs es2 → PA X es (tCutA C as tl (TAs C bs))
  | [], [], _, _, h, _, _, _, _ => by cases h
  | [], e :: es, es1, es2, h, hn, p1, pl, p2 => by
    cases h
    simp only [List.all_cons, Bool.and_eq_true] at hn
    exact pa_cons pl (PEs.pa p2 hn.2) (star_cons hn.1)
  | _ :: _, [], _, _, h, _, _, _, _ => by cases h
  | a :: as, e :: es, es1, es2, h, hn, p1, pl, p2 => by
    unfold cut at h
    split at h
    · rename_i x y z hc
      cases h
      simp only [List.all_cons, Bool.and_eq_true] at hn
      exact pa_cons p1.1 (pa_cut hc hn.2 p1.2 pl p2) (star_cons hn.1)
    · cases h
theorem PT'_append {jo : List Nat} : ∀ {ds es : List D} {us vs : List V} {i : Nat}, ds.length = us.length → PT' jo i (ds ++ es) (us ++ vs) = PT' jo i ds us ++ PT' jo (i + ds.length) es vs
  | [], es, us, vs, i, h => by
    cases us with
    | nil => rfl
    | cons _ _ => cases h
  | d :: ds, es, us, vs, i, h => by
    cases us with
    | nil => cases h
    | cons u us =>
      have := PT'_append (jo := jo) (ds := ds) (es := es) (us := us) (vs := vs) (i := i + 1) (by simpa using h)
      simp only [List.cons_append, PT', this, List.length_cons]
      congr 3
      omega
theorem PT'_fz {jo : List Nat} {i : Nat} {as : List P} {ds : List D} {vs : List V} (hb : noBor as = true) (hio : noIo as = true) (hl : ds.length = as.length) (hj : ∀ k, i ≤ k → k < i + as.length → jo.contains k = false) : PT' jo i ds vs = AT as ds vs := by
  induction as generalizing i ds vs with
  | nil =>
    cases ds with
    | nil => rfl
    | cons _ _ => cases hl
  | cons a as ih =>
    cases ds with
    | nil => cases hl
    | cons d ds =>
      cases vs with
      | nil => rfl
      | cons v vs =>
        have hk : a.kd = .val := by cases a <;> first | rfl | cases hb | cases hio
        have hb' : noBor as = true := by cases a <;> first | exact hb | cases hb
        have hio' : noIo as = true := by cases a <;> first | exact hio | cases hio
        have e1 := ih (i := i + 1) (ds := ds) (vs := vs) hb' hio' (by simpa using hl) (fun k h1 h2 => hj k (by omega) (by simp only [List.length_cons]; omega))
        have e2 := hj i (Nat.le_refl _) (by simp only [List.length_cons]; omega)
        unfold PT' AT
        rw [e1, hk, e2]
        rfl
theorem TV.callUU {f : Nat} {l : P} {as bs : List P} {Q : VK} {σ : L2.St} {H : Hp} {C : Cn} (hb : noBor as = true) (hio : noIo as = true) (hb2 : noBor bs = true) (hio2 : noIo bs = true) (h : TV C false (.callU f as l bs) σ H Q) :
    tCallS (spD C.K [as.length] (C.q.F f)) (WE C.W) (tCutA C as (TV C true l) (TAs C bs)) σ H Q := by
  refine TAs.cut ?_
  obtain ⟨ρ, F, rest, ln, s, q⟩ := h
  rw [evP, EQ.bind] at q
  refine ⟨ρ, F, rest, ln, s, q.imp fun ds ρ0 eds0 q us H0 F0 s0 lay0 => ?_⟩
  have l0 := ln.to (evAs_ok_len eds0)
  obtain ⟨g1, g2⟩ := lay0.lens
  rw [EQ.bind] at q
  refine ⟨ρ0, F0, AT as ds us ++ rest, l0, s0.perm (List.perm_append_comm_assoc _ _ _), q.skip fun d ρ1 ed q => ?_⟩
  have l1 := l0.to (evP_ok_len ed)
  split at q
  · rename_i hcon
    unfold PQ
    rw [hcon]
    intro v H1 F1 s1
    rw [EQ.bind] at q
    refine ⟨ρ1, F1, [(.own d, some v)] ++ (AT as ds us ++ rest), l1, s1.perm List.perm_middle.symm, (q.skip (ex := AT as ds us) fun es ρ2 eds q => q).skip fun es ρ2 eds q vs H2 F2 s2 lay => ?_⟩
    obtain ⟨h1, h2⟩ := lay.lens
    have l2 := l1.to (evAs_ok_len eds)
    refine ⟨F2, ds ++ d :: es, zp ρ2 σ ++ rest, by simp only [List.length_append, List.length_cons]; omega, ?_, ?_⟩
    · have e : PT' [as.length] 0 (ds ++ d :: es) (us ++ v :: vs) = AT as ds us ++ ((.own d, some v) :: AT bs es vs) := by
        rw [PT'_append (by omega)]
        rw [PT'_fz (as := as) hb hio g1 (fun k h1 h2 => by simp; omega)]
        congr 1
        unfold PT'
        rw [PT'_fz (as := bs) hb2 hio2 h1 (fun k h1 h2 => by simp; omega)]
        have : ([as.length].contains (0 + ds.length)) = true := by simp [g1]
        rw [this]
        rfl
      rw [e]
      refine s2.perm ?_
      have p1 : (AT bs es vs ++ (zp ρ2 σ ++ ([(Sl.own d, some v)] ++ (AT as ds us ++ rest)))).Perm ((AT as ds us ++ ((Sl.own d, some v) :: AT bs es vs)) ++ (zp ρ2 σ ++ rest)) := by
        rw [List.append_assoc, List.cons_append]
        refine List.Perm.trans ?_ (List.perm_append_comm_assoc _ _ _)
        refine List.Perm.trans ?_ (List.perm_middle (l₁ := []) (a := (Sl.own d, some v)))
        refine List.Perm.trans (List.Perm.append_left _ (List.perm_middle)) ?_
        refine List.perm_middle.trans (List.Perm.cons _ ?_)
        refine List.Perm.append_left _ ?_
        show (zp ρ2 σ ++ (AT as ds us ++ rest)).Perm (AT as ds us ++ (zp ρ2 σ ++ rest))
        exact List.perm_append_comm_assoc _ _ _
      exact p1
    · cases er : C.q.F f (ds ++ d :: es) with
      | stuck => rw [er] at q; exact q.elim
      | ok w os =>
        rw [er] at q
        match os, q with
        | [od], q =>
          refine ⟨rfl, fun u H3 F3 s3 => ?_⟩
          have e5 : OT [as.length] (us ++ v :: vs) [od] = [(.own od, some v)] := by
            have : (us ++ v :: vs)[as.length]? = some v := by rw [← g2]; simp
            simp only [OT, this]
          rw [e5] at s3
          have s3 : Sep C.K H3 F3 ((.fz w, some u) :: (.own od, some v) :: (zp ρ2 σ ++ rest)) := s3
          obtain ⟨w', e, vw⟩ := s3.val
          cases e
          exact q u H3 F3 s3.tail.tail vw
        | [], q => exact q.elim
        | _ :: _ :: _, q => exact q.elim
      | exc c os =>
        rw [er] at q
        match os, q with
        | [od], q =>
          refine ⟨rfl, fun H3 F3 s3 => ?_⟩
          have e5 : OT [as.length] (us ++ v :: vs) [od] = [(.own od, some v)] := by
            have : (us ++ v :: vs)[as.length]? = some v := by rw [← g2]; simp
            simp only [OT, this]
          rw [e5] at s3
          have s3 : Sep C.K H3 F3 ((.own od, some v) :: (zp ρ2 σ ++ rest)) := s3
          exact q H3 F3 l2 s3.tail
        | [], q => exact q.elim
        | _ :: _ :: _, q => exact q.elim
  · exact q.elim
/-! ### a row's methods -/
theorem meth_eq {x m : Str} {p apos pos : Pos} {es : List Expr} {env : Env} (hf : methodCallForm (es.length + ([] : List Keyword).length) (backTo pos (starEach es env)) (backToKw pos (keywordEach [] env)) = true) (hl : (apos.endLine == pos.line) = true) :
    eval (.Call (.Attribute (.Name x p) m apos) es [] pos) env = (do
      let ov ← eval (.Name x p) env
      standAt apos.atName
      let (f, first) ← holding [ov] (getMethod ov m (do return (← importBound (.Name x p) env).getD true))
      callWith pos f first (backTo pos (starEach es env)) (backToKw pos (keywordEach [] env))) := by
  rw [arm_eval_Call]
  unfold methodCall calleeOf methodCallPos
  simp only [hf, hl, if_true, Bool.not_true, Bool.or_true, pure_bind]
  rfl
theorem row_lk {a1 a2 : Addr} {m : Str} (h1 : ¬ m = "entries") (h2 : ¬ m = "numbers") : (rowF a1 a2).lookup m = none := by
  unfold rowF
  rw [List.lookup_cons, beq_eq_false_iff_ne.mpr h1, List.lookup_cons, beq_eq_false_iff_ne.mpr h2]
  rfl
theorem evRput_obj {dd d : D} {r : D × D} (h : evRput dd d = .ok r) : ∃ c ns xs, dd = .obj c ns xs := by
  unfold evRput at h
  split at h
  · exact ⟨_, _, _, rfl⟩
  · cases h
theorem rput_ok {p : Pl} {e : P} {x : Str} {xp ap pos : Pos} {y : Expr} (G : Good nm E n sui io fx q sc fnb X) (h0 : sui = none) (hc : nm.cls 100 = some (("Row" : Str), false)) (hn : nst y = true) (hl : (ap.endLine == pos.line) = true) (hx : PE X (.Name x xp) (tPl p)) (hy : PE X y (TV (cn E X fx q W) false e)) :
    PE X (.Call (.Attribute (.Name x xp) "put" ap) [y] [] pos) (TV (cn E X fx q W) false (.rput p e)) := by
  obtain ⟨hr, C, fI, fP, fT, fdI, fdP, fdT, R, FI, FP, FT⟩ := G.row h0 hc
  have hall : [y].all nst = true := by simp [hn]
  refine pe_imp (pe_meth (E := fun _ _ _ => False) hx R.cl R.mP FP (hr.mono (by decide)) R.bP .nil pass0 (pa_cons hy pa_nil (star_cons hn)) (star_cons hn) (by rfl) (meth_eq (by
    have := bm_few (env := X.env) (pos := pos) hall (by simp)
    exact this) hl)) fun σ H Q h => ?_
  obtain ⟨ρ, F, rest, l, s, qq⟩ := h
  rw [evP, EQ.bind] at qq
  obtain ⟨d0, ex, qq⟩ := qq.at
  obtain ⟨v, hv, bx⟩ := Pl.look_now ex l s
  split at qq
  · rename_i ho
    cases d0 <;> first | cases ho | skip
    rename_i c ns xs
    obtain ⟨a, fp, rfl, C', dx, a1, a2, vs, hC, h1, h2, h3, h4, h5, _⟩ := bx.obj
    have eC : C' = C := by have := hC.symm.trans R.xc; cases this; rfl
    subst eC
    refine ⟨.ref a, hv, a, dx, rowF a1 a2, rfl, h1, row_lk (by decide +kernel) (by decide +kernel), ρ, F, rest, l, s, ?_⟩
    rw [EQ.bind] at qq
    refine qq.imp fun d ρ1 ed qa w H1 F1 s1 vd => ?_
    rw [EQ.bind] at qa
    obtain ⟨⟨dd, ρ2⟩, et, qb⟩ := qa.at
    rw [EQ.bind] at qb
    obtain ⟨r, er, qc⟩ := qb.at
    rw [EQ.bind] at qc
    obtain ⟨ρ3, e3, qd⟩ := qc.at
    clear qa qb qc qq
    have s2 := Pl.take_sep (A := []) et hv s1
    obtain ⟨c', ns', xs', rfl⟩ := evRput_obj er
    refine ⟨F1, zp ρ2 σ ++ rest, c', ns', xs', d, r, a, w, rfl, s2, vd, er, fun u H2 s3 vu => ?_⟩
    have l2 : Ln (cn E X fx q W) ρ2 σ := l.to ((Pl.take_length et).trans (evP_ok_len ed))
    have s4 := Pl.put_sep (A := [(.fz r.1, some u)]) e3 l2 hv ((s3.push vu).perm (List.Perm.swap _ _ _))
    have s5 : Sep (wd E X) H2 F1 ((.fz r.1, some u) :: (zp ρ3 σ ++ rest)) := s4
    obtain ⟨w', e', q'⟩ := s5.val
    cases e'
    exact qd u H2 F1 s5.tail q'
  · exact qq.elim
theorem rtold_ok {p : Pl} {x : Str} {xp ap pos : Pos} (G : Good nm E n sui io fx q sc fnb X) (h0 : sui = none) (hc : nm.cls 100 = some (("Row" : Str), false)) (hl : (ap.endLine == pos.line) = true) (hx : PE X (.Name x xp) (tPl p)) :
    PE X (.Call (.Attribute (.Name x xp) "told" ap) [] [] pos) (TV (cn E X fx q W) false (.rtold p)) := by
  obtain ⟨hr, C, fI, fP, fT, fdI, fdP, fdT, R, FI, FP, FT⟩ := G.row h0 hc
  refine pe_imp (pe_meth0 (E := fun _ _ _ => False) hx R.cl R.mT FT (hr.mono (by decide)) R.bT .nil pass0 (meth_eq (by rfl) hl)) fun σ H Q h => ?_
  obtain ⟨ρ, F, rest, l, s, qq⟩ := h
  rw [evP, EQ.bind] at qq
  obtain ⟨d0, ex, qq⟩ := qq.at
  obtain ⟨v, hv, bx⟩ := Pl.look_now ex l s
  obtain ⟨d1, er, qq⟩ := qq.at
  unfold evRtold at er
  split at er
  · rename_i c ns xs
    cases er
    obtain ⟨a, fp, rfl, C', dx, a1, a2, vs, hC, h1, h2, h3, h4, h5, _⟩ := bx.obj
    have eC : C' = C := by have := hC.symm.trans R.xc; cases this; rfl
    subst eC
    refine ⟨.ref a, hv, a, dx, rowF a1 a2, rfl, h1, row_lk (by decide +kernel) (by decide +kernel), ?_⟩
    -- the slot's own, taken and put back
    have hown : ρ[p.i]? = some (.own (.obj c ns xs)) := by
      unfold Pl.look at ex
      split at ex
      · rename_i d' _ hd
        cases ex
        obtain ⟨w, e, qv⟩ := s.mem_val (List.mem_append_left _ (zp_mem hd hv))
        unfold Val at qv
        exact qv.elim
      · rename_i d' _ hd; cases ex; exact hd
      · cases ex
    have hf : p.f = none := by
      unfold Pl.look at ex
      split at ex
      · assumption
      · assumption
      · cases ex
    have et : p.take ρ = .ok (.obj c ns xs, ρ.set p.i .un) := by unfold Pl.take; rw [hf, hown]
    have s2 := Pl.take_sep (A := []) et hv s
    refine ⟨F, zp (ρ.set p.i .un) σ ++ rest, c, ns, xs, a, rfl, s2, fun u H2 s3 vu => ?_⟩
    have l2 : Ln (cn E X fx q W) (ρ.set p.i .un) σ := l.to (by rw [List.length_set])
    have e3 : p.put (ρ.set p.i .un) (.obj c ns xs) = .ok ρ := by
      unfold Pl.put
      rw [hf]
      simp only [List.set_set]
      congr 1
      have hi := (List.getElem?_eq_some_iff.mp hown)
      obtain ⟨hi1, hi2⟩ := hi
      rw [← hi2]
      exact List.set_getElem_self hi1
    have s4 := Pl.put_sep (A := [(.fz (.tup xs), some u)]) e3 l2 hv ((s3.push vu).perm (List.Perm.swap _ _ _))
    have s5 : Sep (wd E X) H2 F ((.fz (.tup xs), some u) :: (zp ρ σ ++ rest)) := s4
    obtain ⟨w', e', q'⟩ := s5.val
    cases e'
    exact qq u H2 F s5.tail q'
  · cases er
end
end Bk

/-! Bz: zip of a tuple and a list (the kit has two lists, and two tuples). -/
namespace Bk
open PySem PySem.Spec PyProof.Rows L2

abbrev mzA (m : Heap) (t : Addr) : Heap := m.push { cls := .type "tuple_iterator", data := .fields #[.ref t, .int 0 0] }
abbrev mzB (m : Heap) (t l : Addr) : Heap := (mzA m t).push { cls := .type "list_iterator", data := .fields #[.ref l, .int 0 0] }
abbrev mzC (m : Heap) (t l : Addr) : Heap := (mzB m t l).push { cls := .type "tuple", data := .seq #[.ref m.objs.size, .ref (mzA m t).objs.size] }
abbrev mzD (m : Heap) (t l : Addr) : Heap := (mzC m t l).push { cls := .type "tuple", data := .seq #[.none, .none] }
abbrev mzE (m : Heap) (t l : Addr) : Heap := (mzD m t l).push { cls := .type "zip", data := .fields #[.none, .bool false, .bool false, .ref (mzB m t l).objs.size, .ref (mzC m t l).objs.size] }
theorem mz_new (t l : Addr) (us ws : Array Value) :
    Meets (Builtin.«zip.__new__» ⟨[.type "zip", .ref t, .ref l], []⟩) (fun _ R st => st.heap.IsTuple t us ∧ st.heap.IsList l ws ∧
      R (.ok (.ret (.ref (mzD st.heap t l).objs.size))) { st with heap := mzE st.heap t l }) :=
  .of_wp fun prog w A R st q => by
    obtain ⟨hp, g, d, tk, os⟩ := st
    obtain ⟨q1, q2, q⟩ := q
    have sz := sub_zip
    have e1 : Heap.IsTuple (Shared.heap ⟨hp, g, d, tk, os⟩) t us := q1
    have e2 : Heap.IsList (Shared.heap ⟨hp.push { cls := .type "tuple_iterator", data := .fields #[.ref t, .int 0 0] }, g, d, tk, os⟩) l ws := Heap.IsList.push q2 _
    wp_walk using wpAny_pyIter_tuple e1, wpAny_pyIter_list e2
    exact ⟨_, rfl, q⟩
section
variable {prog : Program} {w : World} {A : Around} {E : Value → Shared → Prop} {s : Shared}
theorem mz_call {t l : Addr} {us ws : Array Value} {Q : Value → Shared → Prop} (q1 : s.heap.IsTuple t us) (q2 : s.heap.IsList l ws)
    (k : ∀ m, IsZip m (s.heap.objs.size + 4) (s.heap.objs.size + 2) (s.heap.objs.size + 3) .none → IsPair m (s.heap.objs.size + 2) (.ref s.heap.objs.size) (.ref (s.heap.objs.size + 1)) →
      IsPair m (s.heap.objs.size + 3) .none .none → m.IsTupleIter s.heap.objs.size t 0 → m.IsListIter (s.heap.objs.size + 1) l 0 →
      (∀ c o, s.heap.get? c = some o → m.get? c = some o) → Q (.ref (s.heap.objs.size + 4)) { s with heap := m }) :
    wpAny (model prog w) A (call (.type "zip") [.ref t, .ref l]) Q E s := by
  refine callType_new F.called_zip (by decide) (F.typeCall_zip_2 _ _) (F.newCall_zip_2 _ _) (fun ob => F.args_object_init_3 ob _ _) F.entry_zip_new (mz_new t l us ws) ⟨q1, q2, ?_⟩
  have n1 : (mzA s.heap t).objs.size = s.heap.objs.size + 1 := Heap.size_push ..
  have n2 : (mzB s.heap t l).objs.size = s.heap.objs.size + 2 := by rw [Heap.size_push, n1]
  have n3 : (mzC s.heap t l).objs.size = s.heap.objs.size + 3 := by rw [Heap.size_push, n2]
  have n4 : (mzD s.heap t l).objs.size = s.heap.objs.size + 4 := by rw [Heap.size_push, n3]
  have up1 : ∀ {c o}, (mzD s.heap t l).get? c = some o → (mzE s.heap t l).get? c = some o := fun e => Heap.get?_push_of_some _ e
  have up2 : ∀ {c o}, (mzC s.heap t l).get? c = some o → (mzE s.heap t l).get? c = some o := fun e => up1 (Heap.get?_push_of_some _ e)
  have up3 : ∀ {c o}, (mzB s.heap t l).get? c = some o → (mzE s.heap t l).get? c = some o := fun e => up2 (Heap.get?_push_of_some _ e)
  have up4 : ∀ {c o}, (mzA s.heap t).get? c = some o → (mzE s.heap t l).get? c = some o := fun e => up3 (Heap.get?_push_of_some _ e)
  have a5 : (mzE s.heap t l).get? (mzD s.heap t l).objs.size = some _ := Heap.get?_push_size _ rfl
  have a4 : (mzE s.heap t l).get? (mzC s.heap t l).objs.size = some _ := up1 (Heap.get?_push_size _ rfl)
  have a3 : (mzE s.heap t l).get? (mzB s.heap t l).objs.size = some _ := up2 (Heap.get?_push_size _ rfl)
  have a2 : (mzE s.heap t l).get? (mzA s.heap t).objs.size = some _ := up3 (Heap.get?_push_size _ rfl)
  have a1 : (mzE s.heap t l).get? s.heap.objs.size = some _ := up4 (Heap.get?_push_size _ rfl)
  show _ ∧ _
  rw [n2, n3, n4] at a5
  rw [n1, n2] at a3
  rw [n3] at a4
  rw [n1] at a2
  rw [n4]
  exact ⟨⟨_, a5, rfl⟩, k _ a5 a3 a4 ⟨_, a1, rfl, rfl⟩ ⟨_, a2, rfl, rfl⟩ fun c o x => up4 (Heap.get?_push_of_some _ x)⟩
end
/-- the tuple at a and the list at b, as they stand at each turn -/
def ItM (K : PySem.W.Frag) (a b : Addr) : It :=
  ⟨fun i H => ∃ (us ws : List V) (x y : V), SqT K H a us ∧ SqL K H b ws ∧ us[i]? = some x ∧ ws[i]? = some y,
    fun i H v H' => ∃ T x y, v = .ref T ∧ H T = none ∧ H' = upd H T (.tup [x, y]) ∧ (∀ us, SqT K H a us → us[i]? = some x) ∧ ∀ ws, SqL K H b ws → ws[i]? = some y,
    fun i H => ∃ us ws : List V, SqT K H a us ∧ SqL K H b ws ∧ (us.length ≤ i ∨ ws.length ≤ i) ∧ i ≤ us.length ∧ i ≤ ws.length⟩
theorem mz_five {z TI TO i1 i2 c : Addr} (h : c ∈ [z, TI, TO, i1, i2]) : c = z ∨ c = TI ∨ c = TO ∨ c = i1 ∨ c = i2 := by simpa using h
theorem mz_sep {a b z TI TO i1 i2 : Addr} (D : ZipApart z TI TO i1 i2 a b) : ZipSep2 z TI TO i1 i2 [i1, a] [i2, b] where
  TIz := D.TIz
  TOz := D.TOz
  TITO := D.TITO
  TIi1 := D.TIi1
  TIi2 := D.TIi2
  mem1 := by simp
  mem2 := by simp
  zf1 := by simp [D.i1z.symm, D.l1z.symm]
  zf2 := by simp [D.i2z.symm, D.l2z.symm]
  Tf1 := by simp [D.TOi1, D.l1TO.symm]
  Tf2 := by simp [D.TOi2, D.l2TO.symm]
  sep1_2 := by simp [D.i12, D.l2i1.symm]
  sep2_1 := by simp [D.i12.symm, D.l1i2.symm]
theorem mz_turn {P : Program} {w : World} {K : PySem.W.Frag} {elts : List Expr} {kk : Nat} {tpos : Pos} {a b z TI TO i1 i2 : Addr} (D : ZipApart z TI TO i1 i2 a b) :
    Turn P w K (.Tuple elts kk tpos) (ItM K a b) [z, TI, TO, i1, i2] z (fun i m => IsZip m z TI TO .none ∧ IsPair m TI (.ref i1) (.ref i2) ∧ (∃ x y, IsPair m TO x y) ∧ m.IsTupleIter i1 a i ∧ m.IsListIter i2 b i) where
  mem := by simp
  obj := fun i m st c hc => by
    obtain ⟨hz, hTI, ⟨x, y, hTO⟩, ⟨o1, e1, _, d1⟩, ⟨o2, e2, _, d2⟩⟩ := st
    rcases mz_five hc with q | q | q | q | q <;> subst q
    · exact ⟨_, hz, nofun⟩
    · exact ⟨_, hTI, nofun⟩
    · exact ⟨_, hTO, nofun⟩
    · exact ⟨o1, e1, fun v q => by rw [d1] at q; cases q⟩
    · exact ⟨o2, e2, fun v q => by rw [d2] at q; cases q⟩
  keep := fun i m m' st k => by
    obtain ⟨hz, hTI, ⟨x, y, hTO⟩, h1, h2⟩ := st
    refine ⟨k z (by simp) _ hz, k TI (by simp) _ hTI, ⟨x, y, ?_⟩, ?_, ?_⟩
    · exact k TO (by simp) _ hTO
    · exact h1.at fun o => k i1 (by simp) o
    · exact h2.at fun o => k i2 (by simp) o
  item := by
    intro X hP hw hK hc i pins s σ H E I hf st hg
    subst hP hw hK
    obtain ⟨hz, hTI, ⟨x0, y0, hTO⟩, h1, h2⟩ := st
    obtain ⟨us, ws, x, y, qa, qb, hx, hy⟩ := hg
    obtain ⟨as, ra, pa, _⟩ := I.tuple qa
    obtain ⟨bs, rb, pb, _⟩ := I.list qb
    obtain ⟨u, hu, ru⟩ := ra.get hx
    obtain ⟨v, hv, rv⟩ := rb.get hy
    have hzl : z < s.heap.objs.size := Heap.lt_size hz
    have hd := I.ok.hd hc
    have n1 : i < as.toArray.size := by have := (List.getElem?_eq_some_iff.mp hu).1; simpa using this
    have n2 : i < bs.toArray.size := by have := (List.getElem?_eq_some_iff.mp hv).1; simpa using this
    refine wpAny_pyNext_zipD2_item (mz_sep D) (Draws.tuple (A := X.A.in1) hd i1 a D.l1i1 as.toArray) (Draws.list (A := X.A.in1) hd i2 b D.l2i2 bs.toArray) hz hTI hTO ⟨h1, pa⟩ ⟨h2, pb.isList⟩ n1 n2 fun x1 x2 m tk y1 y2 z' TO' st1 st2 hT hsz hk => ?_
    have ex1 : x1 = u := by
      have : as.toArray[i]? = some u := by simpa using hu
      rw [y1] at this; exact Option.some.inj this
    have ex2 : x2 = v := by
      have : bs.toArray[i]? = some v := by simpa using hv
      rw [y2] at this; exact Option.some.inj this
    subst ex1 ex2
    refine ⟨_, rfl, wpAny_letOwnedTupleGo_zip (s := { s with heap := m, toks := tk }) z' fun m2 z2 sb => ?_⟩
    have stay : ∀ c o, c ∉ [z, TI, TO, i1, i2] → s.heap.get? c = some o → m2.get? c = some o := fun c o hb e => by
      simp only [List.mem_cons, List.not_mem_nil, or_false, not_or] at hb
      exact (sb.2 c hb.1).trans (hk c o hb.1 hb.2.2.1 hb.2.2.2.1 hb.2.2.2.2 e)
    have hT2 : m2.get? s.heap.objs.size = some { cls := .type "tuple", data := .seq #[x1, x2] } := (sb.2 _ (Nat.ne_of_gt hzl)).trans hT
    have new : ObjOk X.prog X.w (upd H s.heap.objs.size (.tup [x, y])) m2 s.heap.objs.size (.tup [x, y]) :=
      ⟨by show 2 ≤ sizeLine; decide, [x1, x2], .cons ru (.cons rv .nil), ⟨_, hT2, rfl, _, rfl⟩⟩
    have I1 : Inv X pins σ (upd H s.heap.objs.size (.tup [x, y])) { s with heap := m2, toks := tk } :=
      I.turnedNew (t' := tk) (ch := [z, TI, TO, i1, i2]) stay hf (Nat.le_refl _) new
    refine ⟨.ref s.heap.objs.size, _, I1, rfl, ⟨_, x, y, rfl, I.hok.fresh (Nat.le_refl _), rfl, fun l hl => by rw [I.tuple_inj hl qa]; exact hx, fun l hl => by rw [I.list_inj hl qb]; exact hy⟩, ⟨z2, ?_, ⟨x1, x2, ?_⟩, ?_, ?_⟩, fun c hcm => ?_⟩
    · exact (sb.2 _ D.TIz).trans (hk _ _ D.TIz D.TITO D.TIi1 D.TIi2 hTI)
    · exact (sb.2 _ D.TOz).trans TO'
    · exact st1.1.at fun o => (sb.2 _ D.i1z).trans
    · exact st2.1.at fun o => (sb.2 _ D.i2z).trans
    · have hlt : c < s.heap.objs.size := by
        rcases mz_five hcm with q | q | q | q | q <;> subst q
        · exact hzl
        · exact Heap.lt_size hTI
        · exact Heap.lt_size hTO
        · obtain ⟨_, e1, _⟩ := h1; exact Heap.lt_size e1
        · obtain ⟨_, e2, _⟩ := h2; exact Heap.lt_size e2
      rw [upd_ne (Nat.ne_of_lt hlt)]
      exact (hf c hcm).1
  done := by
    intro X hP hw hK hc i pins s σ H E I hf st hg
    subst hP hw hK
    obtain ⟨hz, hTI, ⟨x0, y0, hTO⟩, h1, h2⟩ := st
    obtain ⟨us, ws, qa, qb, hend, le1, le2⟩ := hg
    obtain ⟨as, ra, pa, _⟩ := I.tuple qa
    obtain ⟨bs, rb, pb, _⟩ := I.list qb
    have l1 := ra.length
    have l2 := rb.length
    have hd := I.ok.hd hc
    refine wpAny_pyNext_zipD2_end (mz_sep D) (Draws.tuple (A := X.A.in1) hd i1 a D.l1i1 as.toArray) (Draws.list (A := X.A.in1) hd i2 b D.l2i2 bs.toArray) hz hTI hTO ⟨h1, pa⟩ ⟨h2, pb.isList⟩ (by simp; omega) (by simp; omega) (by simp; omega) fun m tk hk => ?_
    refine ⟨rfl, I.turnedL (t' := tk) (ch := [z, TI, TO, i1, i2]) (fun c o hb q => ?_) hf⟩
    simp only [List.mem_cons, List.not_mem_nil, or_false, not_or] at hb
    exact hk c o hb.1 hb.2.2.1 hb.2.2.2.1 hb.2.2.2.2 q
  self := fun A i s Q E st h => wpAny_pyIter_zip st.1 h
/-- what zip walks: two lists, two tuples, a tuple and a list -/
def iZipM (K : PySem.W.Frag) (ta : TA) : TI := fun σ H R => ta σ H fun vs H1 => ∃ a b us ws, vs = [.ref a, .ref b] ∧
  ((SqL K H1 a us ∧ SqL K H1 b ws ∧ R (Itz K a b) H1) ∨ (SqT K H1 a us ∧ SqT K H1 b ws ∧ R (RZ.ItzT K a b) H1) ∨ (SqT K H1 a us ∧ SqL K H1 b ws ∧ R (ItM K a b) H1))
theorem mz_fp {X : Cx} {pins : List (Addr × Obj)} {σ : L2.St} {H : Hp} {s : Shared} (I : Inv X pins σ H s) : ∀ c, c ∈ [s.heap.objs.size + 4, s.heap.objs.size + 2, s.heap.objs.size + 3, s.heap.objs.size, s.heap.objs.size + 1] → FpOk X pins H c := fun c hcm => by
  have hle : s.heap.objs.size ≤ c := by
    rcases mz_five hcm with q | q | q | q | q <;> rw [q]
    · exact Nat.le_add_right _ _
    · exact Nat.le_add_right _ _
    · exact Nat.le_add_right _ _
    · exact Nat.le_refl _
    · exact Nat.le_add_right _ _
  exact I.fpOk hle (I.hok.fresh hle)
theorem pi_zipM {X : Cx} {x y : Expr} {ta : TA} {p pos tpos : Pos} {elts : List Expr} {kk : Nat} (gl : Gl X "zip") (hm : X.mg "zip" = none) (ha : PA X [x, y] ta)
    (st : starEach [x, y] X.env = (false, eval x X.env) :: starEach [y] X.env) (pl : (backTo pos (starEach [y] X.env)).any (·.1) = false) :
    PI X (.Tuple elts kk tpos) (.Call (.Name "zip" p) [x, y] [] pos) (iZipM X.K ta) := by
  refine ⟨fun pins s σ H R I h => Call_ (ld_blt I gl hm PyProof.Rows.boot_zip (PyProof.Rows.callWith_type1 (thn (ha.run pos pins s σ H _ I h) fun us s1 ⟨vs, H1, I1, r1, q1⟩ => ?_) st pl))⟩
  obtain ⟨a, b, as, bs, rfl, q1⟩ := q1
  obtain ⟨u, w, rfl, ru, rw'⟩ : ∃ u w, us = [u, w] ∧ RelV (.ref a) u ∧ RelV (.ref b) w := by
    cases r1 with
    | cons r z =>
      cases z with
      | cons r' z => cases z; exact ⟨_, _, rfl, r, r'⟩
  cases ru
  cases rw'
  rcases q1 with ⟨qa, qb, q⟩ | ⟨qa, qb, q⟩ | ⟨qa, qb, q⟩
  · obtain ⟨is1, _, p1, _⟩ := I1.list qa
    obtain ⟨is2, _, p2, _⟩ := I1.list qb
    refine call_zip_2 p1.isList p2.isList fun m hz hTI hTO h1 h2 _ hk => wpAny_pyIter_zip hz ?_
    exact ⟨_, _, _, _, H1, rfl, I1.kept (t' := s1.toks) hk, turn_zip (PySem.W.ktu_apart s1.heap.objs.size a b p1.lt p2.lt), ⟨hz, hTI, ⟨_, _, hTO⟩, h1, h2⟩, mz_fp I1, q⟩
  · obtain ⟨is1, _, p1, _⟩ := I1.tuple qa
    obtain ⟨is2, _, p2, _⟩ := I1.tuple qb
    obtain ⟨o1, ho1, _⟩ := id p1
    obtain ⟨o2, ho2, _⟩ := id p2
    refine RZ.call_zipT (show s1.heap.IsTuple a is1.toArray from p1) (show s1.heap.IsTuple b is2.toArray from p2) fun m hz hTI hTO h1 h2 _ hk => wpAny_pyIter_zip hz ?_
    exact ⟨_, _, _, _, H1, rfl, I1.kept (t' := s1.toks) hk, RZ.turn_zipT (PySem.W.ktu_apart s1.heap.objs.size a b (Heap.lt_size ho1) (Heap.lt_size ho2)), ⟨hz, hTI, ⟨_, _, hTO⟩, h1, h2⟩, mz_fp I1, q⟩
  · obtain ⟨is1, _, p1, _⟩ := I1.tuple qa
    obtain ⟨is2, _, p2, _⟩ := I1.list qb
    obtain ⟨o1, ho1, _⟩ := id p1
    refine mz_call (show s1.heap.IsTuple a is1.toArray from p1) p2.isList fun m hz hTI hTO h1 h2 hk => wpAny_pyIter_zip hz ?_
    exact ⟨_, _, _, _, H1, rfl, I1.kept (t' := s1.toks) hk, mz_turn (PySem.W.ktu_apart s1.heap.objs.size a b (Heap.lt_size ho1) p2.lt), ⟨hz, hTI, ⟨_, _, hTO⟩, h1, h2⟩, mz_fp I1, q⟩
end Bk

/-! B8: targets, walks, comprehensions. -/
namespace Bk
open PySem PySem.Spec PyProof.Rows L2

/-! ### targets -/
def gTs : List Nat → TGs
  | [] => gNil
  | i :: is => gCons (gName i) (gTs is)
def gT (K : PySem.W.Frag) : Tg → TG
  | .v i => gName i
  | .t is => gTup K is.length (gTs is)
theorem wipe_in {σ : L2.St} {i : Nat} : ∀ {vs : List Nat}, i ∈ vs → (wipe σ vs)[i]? = if i < σ.length then some none else none
  | [], h => by simp at h
  | v :: vs, h => by
    unfold wipe
    by_cases e : v = i
    · subst e
      rw [List.getElem?_set]
      simp only [if_pos, wipe_length]
    · rw [List.getElem?_set_ne e]
      exact wipe_in (by rcases List.mem_cons.mp h with z | z; exact (e z.symm).elim; exact z)
theorem wipe_set {σ : L2.St} {i : Nat} {x : Option V} {vs : List Nat} (h : i ∈ vs) : wipe (σ.set i x) vs = wipe σ vs := by
  apply List.ext_getElem?
  intro j
  by_cases hj : j ∈ vs
  · rw [wipe_in hj, wipe_in hj, List.length_set]
  · rw [wipe_out hj, wipe_out hj, List.getElem?_set_ne (fun e => hj (by rw [← e]; exact h))]
/-- the slots that stay are others -/
def Off (fx : List (Nat × V)) (is : List Nat) : Prop := ∀ i ∈ is, ∀ p ∈ fx, p.1 ≠ i
section
variable {C : Cn} {K : Wd} {σ : L2.St} {H : Hp} {F : Addr → Prop}
theorem Ln.set {ρ : Rho} {i : Nat} {s : Sl} {o : Option V} (l : Ln C ρ σ) (hf : ∀ p ∈ C.fx, p.1 ≠ i) : Ln C (ρ.set i s) (σ.set i o) :=
  ⟨by rw [List.length_set]; exact l.r, by rw [List.length_set]; exact l.s, fun p hp => by rw [List.getElem?_set_ne fun e => hf p hp e.symm]; exact l.f p hp⟩
theorem Sep.setFz {ρ : Rho} {rest : Things} {i : Nat} {d : D} {v : V} (l : Ln C ρ σ) (h : Sep K H F (zp ρ σ ++ rest)) (q : Val K H F d v) (hi : i < C.N.length) : Sep K H F (zp (ρ.set i (.fz d)) (σ.set i (some v)) ++ rest) :=
  (h.push q).setSlot (by rw [l.r]; exact hi) (by rw [l.s]; exact hi)
theorem tgts_ok : ∀ {is : List Nat} {ds : List D} {vs : List V} {ρ ρ' : Rho} {σ : L2.St} {rest : Things} {Q : L2.St → Hp → Prop}, setL is ds ρ = .ok ρ' → (∀ i ∈ is, i < C.N.length) → Off C.fx is → Ln C ρ σ → Sep K H F (zp ρ σ ++ rest) → ValL K H F ds vs →
    (∀ σ', Ln C ρ' σ' → Sep K H F (zp ρ' σ' ++ rest) → (∀ ws, (∀ i ∈ is, i ∈ ws) → wipe σ' ws = wipe σ ws) → Q σ' H) → gTs is vs σ H Q
  | [], ds, vs, ρ, ρ', σ, rest, Q, e, _, _, l, s, v, q => by
    cases ds with
    | cons _ _ => cases e
    | nil =>
      cases e
      unfold ValL at v
      exact ⟨v, q σ l s fun _ _ => rfl⟩
  | i :: is, ds, vs, ρ, ρ', σ, rest, Q, e, hi, hf, l, s, v, q => by
    cases ds with
    | nil => cases e
    | cons d ds =>
      unfold ValL at v
      obtain ⟨w, r, rfl, v1, v2⟩ := v
      refine ⟨w, r, rfl, ?_⟩
      refine tgts_ok (is := is) (ds := ds) (ρ := ρ.set i (.fz d)) (σ := σ.set i (some w)) e (fun j hj => hi j (List.mem_cons_of_mem _ hj)) (fun j hj => hf j (List.mem_cons_of_mem _ hj)) (l.set (hf i List.mem_cons_self)) (s.setFz l v1 (hi i List.mem_cons_self)) v2 fun σ' l' s' w' => q σ' l' s' fun ws hw => ?_
      rw [w' ws fun j hj => hw j (List.mem_cons_of_mem _ hj), wipe_set (hw i List.mem_cons_self)]
theorem setL_len : ∀ {is : List Nat} {ds : List D} {ρ ρ' : Rho}, setL is ds ρ = .ok ρ' → is.length = ds.length
  | [], [], _, _, _ => rfl
  | [], _ :: _, _, _, e => by cases e
  | _ :: _, [], _, _, e => by cases e
  | i :: is, d :: ds, ρ, ρ', e => by
    have := setL_len (is := is) (ds := ds) e
    simp [this]
theorem tgt_ok {tg : Tg} {d : D} {v : V} {ρ ρ' : Rho} {rest : Things} {Q : L2.St → Hp → Prop} (e : setT tg d ρ = .ok ρ') (hi : ∀ i ∈ tg.slots, i < C.N.length) (hf : Off C.fx tg.slots) (l : Ln C ρ σ) (s : Sep K H F (zp ρ σ ++ rest)) (q : Val K H F d v)
    (h : ∀ σ', Ln C ρ' σ' → Sep K H F (zp ρ' σ' ++ rest) → (∀ ws, (∀ i ∈ tg.slots, i ∈ ws) → wipe σ' ws = wipe σ ws) → Q σ' H) : gT K.K tg v σ H Q := by
  cases tg with
  | v i =>
    cases e
    exact h _ (l.set (hf i (by simp [Tg.slots]))) (s.setFz l q (hi i (by simp [Tg.slots]))) fun ws hw => wipe_set (hw i (by simp [Tg.slots]))
  | t is =>
    cases d with
    | tup xs =>
      unfold Val at q
      obtain ⟨a, vs, rfl, t, _, vl⟩ := q
      exact ⟨a, vs, rfl, t, by rw [← vl.length]; exact (setL_len e).symm, tgts_ok e hi hf l s vl h⟩
    | _ => cases e
end
section
variable {nm : Nm} {E : Wo} {n : Nat} {sui : Option Nat} {io : List Nat} {fx : List (Nat × V)} {q : En} {sc : Scope} {fnb : Str → Bool} {X : Cx} {W : WX}
theorem fx_off (G : Good nm E n sui io fx q sc fnb X) {i : Nat} (h1 : io.contains i = false) (h2 : sui ≠ some i) : ∀ p ∈ fx, p.1 ≠ i := fun p hp e => by
  rcases G.fxio p hp with z | z
  · rw [e, h1] at z; cases z
  · rw [e] at z; exact h2 z
theorem pgs_ok (G : Good nm E n sui io fx q sc fnb X) (hs : sui = none) : ∀ {is : List Nat} {es : List Expr}, cmTgs X.N io sc fnb is es = true → PGs X es (gTs is) ∧ (assignEach es X.env).length = is.length ∧ (assignEach es X.env).all (fun p => !p.1) = true ∧ (∀ i ∈ is, i < X.N.length) ∧ Off fx is
  | [], [], _ => ⟨pgs_nil, rfl, rfl, (fun i h => nomatch h), (fun i h => nomatch h)⟩
  | [], _ :: _, h => by cases h
  | _ :: _, [], h => by cases h
  | i :: is, e :: es, h => by
    cases e with
    | Name x p =>
      simp only [cmTgs, Bool.and_eq_true, Bool.not_eq_true'] at h
      obtain ⟨h1, h2, h3⟩ := isLoc_loc G h.1.1
      obtain ⟨a, b, c, d, f⟩ := pgs_ok G hs (is := is) (es := es) h.2
      refine ⟨pgs_cons (pg_name (i := i) G.nd h1 h2 h3) a, ?_, ?_, fun j hj => ?_, fun j hj => ?_⟩
      · show (assignEach es X.env).length + 1 = is.length + 1
        rw [b]
      · show (!false && (assignEach es X.env).all (fun p => !p.1)) = true
        rw [c]; rfl
      · rcases List.mem_cons.mp hj with rfl | hj
        · exact (List.getElem?_eq_some_iff.mp h1).1
        · exact d j hj
      · rcases List.mem_cons.mp hj with rfl | hj
        · exact fx_off G h.1.2 (by rw [hs]; intro z; cases z)
        · exact f j hj
    | _ => cases h
theorem pg_ok (G : Good nm E n sui io fx q sc fnb X) {tg : Tg} {e : Expr} (h : cmTg X.N io sui sc fnb tg e = true) : PG X e (gT X.K tg) ∧ (∀ i ∈ tg.slots, i < X.N.length) ∧ Off fx tg.slots := by
  cases tg with
  | v i =>
    cases e with
    | Name x p =>
      have h : (isLoc X.N sc fnb i x && !io.contains i && decide (sui ≠ some i)) = true := h
      simp only [Bool.and_eq_true, Bool.not_eq_true', decide_eq_true_eq] at h
      obtain ⟨h1, h2, h3⟩ := isLoc_loc G h.1.1
      refine ⟨pg_name (i := i) G.nd h1 h2 h3, fun j hj => ?_, fun j hj => ?_⟩
      · simp only [Tg.slots, List.mem_singleton] at hj
        subst hj
        exact (List.getElem?_eq_some_iff.mp h1).1
      · simp only [Tg.slots, List.mem_singleton] at hj
        subst hj
        exact fx_off G h.1.2 h.2
    | _ => cases h
  | t is =>
    cases e with
    | Tuple es k p =>
      have h : (sui.isNone && cmTgs X.N io sc fnb is es) = true := h
      simp only [Bool.and_eq_true, Option.isNone_iff_eq_none] at h
      obtain ⟨a, b, c, d, f⟩ := pgs_ok G h.1 h.2
      refine ⟨pg_tup (G.calm h.1) a b ?_, d, f⟩
      rw [List.findIdx?_eq_none_iff]
      intro x hx
      have := List.all_eq_true.mp c x hx
      simpa using this
    | _ => cases h

theorem tg_slots (hfx : ∀ p ∈ fx, io.contains p.1 = true ∨ sui = some p.1) {N : List Str} {tg : Tg} {e : Expr} (h : cmTg N io sui sc fnb tg e = true) : (∀ i ∈ tg.slots, i < N.length) ∧ Off fx tg.slots := by
  have off : ∀ {i : Nat}, io.contains i = false → sui ≠ some i → ∀ p ∈ fx, p.1 ≠ i := fun {i} h1 h2 p hp e => by
    rcases hfx p hp with z | z
    · rw [e, h1] at z; cases z
    · rw [e] at z; exact h2 z
  have many : sui = none → ∀ {is : List Nat} {es : List Expr}, cmTgs N io sc fnb is es = true → (∀ i ∈ is, i < N.length) ∧ Off fx is := by
    intro hs is
    induction is with
    | nil => intro es _; exact ⟨(fun i h => nomatch h), (fun i h => nomatch h)⟩
    | cons i is ih =>
      intro es h
      cases es with
      | nil => cases h
      | cons e es =>
        cases e with
        | Name x p =>
          simp only [cmTgs, Bool.and_eq_true, Bool.not_eq_true'] at h
          obtain ⟨a, b⟩ := ih h.2
          have h1 := h.1.1
          unfold isLoc at h1
          simp only [Bool.and_eq_true, decide_eq_true_eq] at h1
          have hi := (List.getElem?_eq_some_iff.mp h1.1).1
          refine ⟨fun j hj => ?_, fun j hj => ?_⟩
          · rcases List.mem_cons.mp hj with rfl | hj
            · exact hi
            · exact a j hj
          · rcases List.mem_cons.mp hj with rfl | hj
            · exact off h.1.2 (by rw [hs]; intro z; cases z)
            · exact b j hj
        | _ => cases h
  cases tg with
  | v i =>
    cases e with
    | Name x p =>
      have h : (isLoc N sc fnb i x && !io.contains i && decide (sui ≠ some i)) = true := h
      simp only [Bool.and_eq_true, Bool.not_eq_true', decide_eq_true_eq] at h
      have h1 := h.1.1
      unfold isLoc at h1
      simp only [Bool.and_eq_true, decide_eq_true_eq] at h1
      have hi := (List.getElem?_eq_some_iff.mp h1.1).1
      refine ⟨fun j hj => ?_, fun j hj => ?_⟩
      · simp only [Tg.slots, List.mem_singleton] at hj
        subst hj; exact hi
      · simp only [Tg.slots, List.mem_singleton] at hj
        subst hj; exact off h.1.2 h.2
    | _ => cases h
  | t is =>
    cases e with
    | Tuple es k p =>
      have h : (sui.isNone && cmTgs N io sc fnb is es) = true := h
      simp only [Bool.and_eq_true, Option.isNone_iff_eq_none] at h
      exact many h.1 h.2
    | _ => cases h

/-! ### walks -/
def rIt (K : PySem.W.Frag) : V → Hp → (It → Hp → Prop) → Prop := fun x H R =>
  (∃ a xs, x = .ref a ∧ SqL K H a xs ∧ R (Itl K a) H) ∨ (∃ a xs, x = .ref a ∧ SqT K H a xs ∧ R (Itt K a) H) ∨ ∃ z, x = .str z ∧ R (Its z) H
theorem pi_any {tg l : Expr} {tl : TE} (hl : PE X l tl) : PI X tg l (fun σ H R => tl σ H fun x H1 => rIt X.K x H1 R) := by
  refine ⟨fun pins s σ H R I h => ?_⟩
  refine thn (hl.run pins s σ H _ I h) fun v s1 ⟨x, H1, I1, r1, q1⟩ => ?_
  rcases q1 with ⟨a, xs, e, hq, q⟩ | ⟨a, xs, e, hq, q⟩ | ⟨z, e, q⟩
  · subst e
    cases r1
    obtain ⟨its, rv, p, hz⟩ := I1.list hq
    refine wpAny_pyIter_list p.isList ?_
    exact pi_one (tk := s1.toks) I1 _ (turn_list a _) ⟨_, Heap.get?_push_size _ rfl, rfl, rfl⟩ q
  · subst e
    cases r1
    obtain ⟨its, rv, p, hz⟩ := I1.tuple hq
    refine wpAny_pyIter_tuple (show s1.heap.IsTuple a its.toArray from p) ?_
    exact pi_one (tk := s1.toks) I1 _ (turn_tuple a _) ⟨_, Heap.get?_push_size _ rfl, rfl, rfl⟩ q
  · subst e
    obtain ⟨t, rfl⟩ := r1
    cases ha : z.cps.all (· < 128)
    · exact wpAny_pyIter_wide ha (pi_one (tk := s1.toks) I1 _ (turn_str _ z t "str_iterator" (.inr rfl)) ⟨_, Heap.get?_push_size _ rfl, rfl, rfl⟩ q)
    · exact wpAny_pyIter_ascii ha (pi_one (tk := s1.toks) I1 _ (turn_str _ z t "str_ascii_iterator" (.inl rfl)) ⟨_, Heap.get?_push_size _ rfl, rfl, rfl⟩ q)
theorem walks_tup {K : Wd} {a : Addr} {xs : List D} {need : Things} (hm : (Sl.fz (.tup xs), some (V.ref a)) ∈ need) : Walks K (Itt K.K a) need xs := by
  intro i H F ts s hn
  obtain ⟨w, e, q⟩ := s.mem_val (hn _ hm)
  cases e
  obtain ⟨b, vs, e, t, l⟩ := q.bor.tup
  cases e
  refine ⟨fun d hd => ?_, fun h => ⟨vs, t, by rw [← l.length]; exact Nat.le_of_eq h⟩⟩
  obtain ⟨x, hx, qx⟩ := l.get hd
  exact ⟨⟨vs, x, t, hx⟩, fun y H' ⟨e, z⟩ => by
    subst e
    have := z vs t
    rw [hx] at this
    cases this
    exact ⟨F, s, qx⟩⟩
theorem walks_lst {K : Wd} {a : Addr} {xs : List D} {d0 : D} {need : Things} (hd : itemsOf d0 = .ok xs) (hl : (∃ ys, d0 = .lst ys) ∨ ∃ ns, d0 = .scr ns) (hm : (Sl.fz d0, some (V.ref a)) ∈ need ∨ (Sl.own d0, some (V.ref a)) ∈ need) : Walks K (Itl K.K a) need xs := by
  intro i H F ts s hn
  have hb : Bor K H F d0 (.ref a) := by
    rcases hm with m | m
    · obtain ⟨w, e, q⟩ := s.mem_val (hn _ m)
      cases e
      exact q.bor
    · obtain ⟨w, e, q⟩ := s.mem_own (hn _ m)
      cases e
      exact q
  obtain ⟨b, vs, e, r, l⟩ : ∃ b vs, V.ref a = V.ref b ∧ SqL K.K H b vs ∧ ValL K H F xs vs := by
    rcases hl with ⟨ys, rfl⟩ | ⟨ns, rfl⟩
    · cases hd
      obtain ⟨b, vs, e, r, l⟩ := hb.lst
      exact ⟨b, vs, e, .inl r, l⟩
    · cases hd
      obtain ⟨b, e, r, l⟩ := hb.scr
      exact ⟨b, _, e, r, l⟩
  cases e
  have t : SqL K.K H a vs := r
  refine ⟨fun d hd => ?_, fun h => ⟨vs, t, by rw [← l.length]; exact Nat.le_of_eq h⟩⟩
  obtain ⟨x, hx, qx⟩ := l.get hd
  exact ⟨⟨vs, x, t, hx⟩, fun y H' ⟨e, z⟩ => by
    subst e
    have := z vs t
    rw [hx] at this
    cases this
    exact ⟨F, s, qx⟩⟩
theorem walks_str {K : Wd} {z : Str} {need : Things} : Walks K (Its z) need (z.cps.toList.map fun c => D.str ⟨#[c]⟩) := by
  intro i H F ts s _
  refine ⟨fun d hd => ?_, fun h => ?_⟩
  · rw [List.getElem?_map, Option.map_eq_some_iff] at hd
    obtain ⟨c, hc, rfl⟩ := hd
    have hc' : z.cps[i]? = some c := by simpa using hc
    refine ⟨(Array.getElem?_eq_some_iff.mp hc').1, fun y H' ⟨e, c', hc2, e2⟩ => ?_⟩
    subst e
    rw [hc'] at hc2
    cases hc2
    subst e2
    exact ⟨F, s, val_str⟩
  · show z.cps.size ≤ i
    have h := Nat.le_of_eq h
    simpa using h
theorem walks_rng {K : Wd} {a b : Int} {need : Things} : Walks K (Itr a (b - a).toNat) need (rngD a b) := by
  intro i H F ts s _
  unfold rngD
  refine ⟨fun d hd => ?_, fun h => ?_⟩
  · rw [List.getElem?_map, Option.map_eq_some_iff] at hd
    obtain ⟨c, hc, rfl⟩ := hd
    obtain ⟨hl, e⟩ := List.getElem?_eq_some_iff.mp hc
    simp only [List.length_range] at hl
    simp only [List.getElem_range] at e
    subst e
    exact ⟨hl, fun y H' ⟨e, e2⟩ => by
      subst e e2
      exact ⟨F, s, val_int⟩⟩
  · show (b - a).toNat ≤ i
    have h := Nat.le_of_eq h
    simpa using h
theorem zipD_get {xs ys : List D} {i : Nat} {d : D} (h : (zipD xs ys)[i]? = some d) : ∃ x y, xs[i]? = some x ∧ ys[i]? = some y ∧ d = .tup [x, y] := by
  unfold zipD at h
  rw [List.getElem?_zipWith] at h
  cases hx : xs[i]? with
  | none => rw [hx] at h; cases h
  | some x =>
    cases hy : ys[i]? with
    | none => rw [hx, hy] at h; cases h
    | some y =>
      rw [hx, hy] at h
      exact ⟨x, y, rfl, rfl, (Option.some.inj h).symm⟩
theorem walks_zipT {K : Wd} {a b : Addr} {xs ys : List D} {need : Things} (m1 : (Sl.fz (.tup xs), some (V.ref a)) ∈ need) (m2 : (Sl.fz (.tup ys), some (V.ref b)) ∈ need) : Walks K (RZ.ItzT K.K a b) need (zipD xs ys) := by
  intro i H F ts s hn
  obtain ⟨w, e, q⟩ := s.mem_val (hn _ m1)
  cases e
  obtain ⟨a', vs, e, t, l⟩ := q.bor.tup
  cases e
  obtain ⟨w, e, q2⟩ := s.mem_val (hn _ m2)
  cases e
  obtain ⟨b', us, e, t2, l2⟩ := q2.bor.tup
  cases e
  refine ⟨fun d hd => ?_, fun h => ⟨vs, us, t, t2, ?_⟩⟩
  · obtain ⟨x, y, hx, hy, rfl⟩ := zipD_get hd
    obtain ⟨v, hv, qv⟩ := l.get hx
    obtain ⟨u, hu, qu⟩ := l2.get hy
    refine ⟨⟨vs, us, v, u, t, t2, hv, hu⟩, fun z H' ⟨T, v', u', e, hT, e2, f1, f2⟩ => ?_⟩
    subst e e2
    have e1 := f1 vs t
    rw [hv] at e1
    cases e1
    have e2 := f2 us t2
    rw [hu] at e2
    cases e2
    have n := s.tupNew hT (ValL.cons qv (ValL.cons qu ValL.nil))
    exact ⟨F, n.1, n.2⟩
  · have h1 := l.length
    have h2 := l2.length
    have h3 : min xs.length ys.length = i := by simpa [zipD] using h
    omega
theorem walks_zipL {K : Wd} {a b : Addr} {xs ys : List D} {need : Things} (m1 : (Sl.fz (.lst xs), some (V.ref a)) ∈ need) (m2 : (Sl.fz (.lst ys), some (V.ref b)) ∈ need) : Walks K (Itz K.K a b) need (zipD xs ys) := by
  intro i H F ts s hn
  obtain ⟨w, e, q⟩ := s.mem_val (hn _ m1)
  cases e
  obtain ⟨a', vs, e, t, l⟩ := q.bor.lst
  cases e
  obtain ⟨w, e, q2⟩ := s.mem_val (hn _ m2)
  cases e
  obtain ⟨b', us, e, t2, l2⟩ := q2.bor.lst
  cases e
  have t : SqL K.K H a vs := .inl t
  have t2 : SqL K.K H b us := .inl t2
  refine ⟨fun d hd => ?_, fun h => ⟨vs, us, t, t2, ?_⟩⟩
  · obtain ⟨x, y, hx, hy, rfl⟩ := zipD_get hd
    obtain ⟨v, hv, qv⟩ := l.get hx
    obtain ⟨u, hu, qu⟩ := l2.get hy
    refine ⟨⟨vs, us, v, u, t, t2, hv, hu⟩, fun z H' ⟨T, v', u', e, hT, e2, f1, f2⟩ => ?_⟩
    subst e e2
    have e1 := f1 vs t
    rw [hv] at e1
    cases e1
    have e2 := f2 us t2
    rw [hu] at e2
    cases e2
    have n := s.tupNew hT (ValL.cons qv (ValL.cons qu ValL.nil))
    exact ⟨F, n.1, n.2⟩
  · have h1 := l.length
    have h2 := l2.length
    have h3 : min xs.length ys.length = i := by simpa [zipD] using h
    omega
theorem walks_zipM {K : Wd} {a b : Addr} {xs ys : List D} {need : Things} (m1 : (Sl.fz (.tup xs), some (V.ref a)) ∈ need) (m2 : (Sl.fz (.lst ys), some (V.ref b)) ∈ need) : Walks K (ItM K.K a b) need (zipD xs ys) := by
  intro i H F ts s hn
  obtain ⟨w, e, q⟩ := s.mem_val (hn _ m1)
  cases e
  obtain ⟨a', vs, e, t, l⟩ := q.bor.tup
  cases e
  obtain ⟨w, e, q2⟩ := s.mem_val (hn _ m2)
  cases e
  obtain ⟨b', us, e, t2, l2⟩ := q2.bor.lst
  cases e
  have t2 : SqL K.K H b us := .inl t2
  refine ⟨fun d hd => ?_, fun h => ⟨vs, us, t, t2, ?_⟩⟩
  · obtain ⟨x, y, hx, hy, rfl⟩ := zipD_get hd
    obtain ⟨v, hv, qv⟩ := l.get hx
    obtain ⟨u, hu, qu⟩ := l2.get hy
    refine ⟨⟨vs, us, v, u, t, t2, hv, hu⟩, fun z H' ⟨T, v', u', e, hT, e2, f1, f2⟩ => ?_⟩
    subst e e2
    have e1 := f1 vs t
    rw [hv] at e1
    cases e1
    have e2 := f2 us t2
    rw [hu] at e2
    cases e2
    have n := s.tupNew hT (ValL.cons qv (ValL.cons qu ValL.nil))
    exact ⟨F, n.1, n.2⟩
  · have h1 := l.length
    have h2 := l2.length
    have h3 : min xs.length ys.length = i := by simpa [zipD] using h
    omega
/-- what a thing that is looked at walks over -/
theorem rIt_of {K : Wd} {H : Hp} {F : Addr → Prop} {d : D} {v : V} {xs : List D} {R : It → Hp → Prop} {need : Things} (hb : Bor K H F d v) (hi : itemsOf d = .ok xs) (hm : (Sl.fz d, some v) ∈ need ∨ (Sl.own d, some v) ∈ need) (hc : (Sl.own d, some v) ∈ need → isCon d = true)
    (h : ∀ J, Walks K J need xs → R J H) : rIt K.K v H R := by
  cases d with
  | tup ys =>
    cases hi
    obtain ⟨a, vs, rfl, t, vl⟩ := hb.tup
    refine .inr (.inl ⟨a, vs, rfl, t, h _ (walks_tup ?_)⟩)
    rcases hm with m | m
    · exact m
    · have := hc m; cases this
  | lst ys =>
    obtain ⟨a, vs, rfl, t, vl⟩ := hb.lst
    exact .inl ⟨a, vs, rfl, .inl t, h _ (walks_lst hi (.inl ⟨_, rfl⟩) hm)⟩
  | scr ns =>
    obtain ⟨a, rfl, t, vl⟩ := hb.scr
    exact .inl ⟨a, _, rfl, t, h _ (walks_lst hi (.inr ⟨_, rfl⟩) hm)⟩
  | str z =>
    cases hi
    cases hb.str
    exact .inr (.inr ⟨z, rfl, h _ walks_str⟩)
  | _ => cases hi
theorem TI.bor {C : Cn} {p : Pl} {σ : L2.St} {H : Hp} {Rr : It → Hp → Prop} (h : TI' C (.bor p) σ H Rr) : tPl p σ H fun x H1 => rIt C.K.K x H1 Rr := by
  obtain ⟨ρ, F, rest, l, s, q⟩ := h
  unfold evI at q
  rw [evP, EQ.bind] at q
  obtain ⟨x, ex, q⟩ := q.at
  obtain ⟨v, hv, bx⟩ := Pl.look_now ex l s
  refine ⟨v, hv, ?_⟩
  rw [EQ.bind] at q
  obtain ⟨xs, exs, q⟩ := q.at
  rw [EQ.bind] at q
  obtain ⟨⟨lo, ρ'⟩, el, q⟩ := q.at
  have qq : ∀ J H' F' ex, Sep C.K H' F' (LT lo σ ++ (ex ++ (zp ρ' σ ++ rest))) → Walks C.K J (LT lo σ ++ ex) xs → Rr J H' := q
  clear q
  unfold lendI at el
  simp only at el
  cases et : p.take ρ with
  | ok dr =>
    obtain ⟨d, ρt⟩ := dr
    rw [et] at el
    simp only [R.ok.injEq, Prod.mk.injEq] at el
    obtain ⟨rfl, rfl⟩ := el
    have ed : d = x := by
      unfold Pl.take at et
      unfold Pl.look at ex
      split at et
      · rename_i h1 h2
        cases et
        rw [h1, h2] at ex
        cases ex; rfl
      · cases et
    subst ed
    have s1 := Pl.take_sep (A := []) et hv s
    have hLT : LT (some (p, d)) σ = [(Sl.own d, some v)] := by simp [LT, hv]
    rw [hLT] at qq
    refine rIt_of (need := [(Sl.own d, some v)]) bx exs (.inr List.mem_cons_self) (fun _ => ?_) fun J w => qq J H F [] s1 w
    rcases Sep.own_con s1 with ⟨_, rfl⟩ | ⟨_, _, _, rfl⟩ | ⟨_, _, _, rfl⟩ | ⟨_, rfl⟩ <;> first | rfl | cases exs
  | stuck =>
    rw [et] at el
    simp only [R.ok.injEq, Prod.mk.injEq] at el
    obtain ⟨rfl, rfl⟩ := el
    have hfz : ρ[p.i]? = some (.fz x) := by
      unfold Pl.take at et
      unfold Pl.look at ex
      split at ex
      · rename_i h1 h2; cases ex; exact h2
      · rename_i h1 h2
        rw [h1, h2] at et
        cases et
      · cases ex
    obtain ⟨w, e, vx⟩ := s.mem_val (List.mem_append_left _ (zp_mem hfz hv))
    cases e
    refine rIt_of (need := [(Sl.fz x, some v)]) bx exs (.inl List.mem_cons_self) (fun m => ?_) fun J w => qq J H F [(Sl.fz x, some v)] (s.push vx) w
    simp at m
theorem TI.val {C : Cn} {e : P} {σ : L2.St} {H : Hp} {Rr : It → Hp → Prop} (hk : e.kd = .val) (h : TI' C e σ H Rr) : TV C false e σ H fun x H1 => rIt C.K.K x H1 Rr := by
  obtain ⟨ρ, F, rest, l, s, q⟩ := h
  unfold evI at q
  rw [EQ.bind] at q
  refine ⟨ρ, F, rest, l, s, q.imp fun d ρ1 ed q v H1 F1 s1 vd => ?_⟩
  rw [EQ.bind] at q
  obtain ⟨xs, exs, q⟩ := q.at
  rw [EQ.bind] at q
  obtain ⟨⟨lo, ρ'⟩, el, q3⟩ := q.at
  clear q
  have e0 : lo = none ∧ ρ' = ρ1 := by
    unfold lendI at el
    split at el
    · cases hk
    · cases el; exact ⟨rfl, rfl⟩
  obtain ⟨rfl, rfl⟩ := e0
  have qq : ∀ J H' F' ex, Sep C.K H' F' (LT none σ ++ (ex ++ (zp ρ' σ ++ rest))) → Walks C.K J (LT none σ ++ ex) xs → Rr J H' := q3
  refine rIt_of (need := [(Sl.fz d, some v)]) vd.bor exs (.inl List.mem_cons_self) (fun m => ?_) fun J w => qq J H1 F1 [(Sl.fz d, some v)] (s1.push vd) w
  simp at m
end

/-! ### the slots that a comprehension has of its own -/
section
variable {C : Cn} {K : Wd} {σ : L2.St} {H : Hp} {F : Addr → Prop}
theorem Ln.wipe {ρ : Rho} {σ : L2.St} (l : Ln C ρ σ) {vs : List Nat} (hf : Off C.fx vs) : Ln C (wipeR ρ vs) (L2.wipe σ vs) :=
  ⟨by rw [wipeR_len]; exact l.r, by rw [wipe_length]; exact l.s, fun p hp => by rw [wipe_out fun m => hf _ m p hp rfl]; exact l.f p hp⟩
theorem wipeR_in {ρ : Rho} {i : Nat} : ∀ {vs : List Nat}, i ∈ vs → (wipeR ρ vs)[i]? = if i < ρ.length then some .un else none
  | [], h => by simp at h
  | v :: vs, h => by
    unfold wipeR
    by_cases e : v = i
    · subst e
      rw [List.getElem?_set]
      simp only [if_pos, wipeR_len]
    · rw [List.getElem?_set_ne e]
      exact wipeR_in (by rcases List.mem_cons.mp h with z | z; exact (e z.symm).elim; exact z)
theorem wipeR_out {ρ : Rho} {i : Nat} : ∀ {vs : List Nat}, i ∉ vs → (wipeR ρ vs)[i]? = ρ[i]?
  | [], _ => rfl
  | v :: vs, h => by
    unfold wipeR
    rw [List.getElem?_set_ne fun e => h (by rw [e]; exact List.mem_cons_self)]
    exact wipeR_out fun m => h (List.mem_cons_of_mem _ m)
theorem wipe_wipe {σ : L2.St} {vs : List Nat} : wipe (wipe σ vs) vs = wipe σ vs := by
  apply List.ext_getElem?
  intro j
  by_cases hj : j ∈ vs
  · rw [wipe_in hj, wipe_in hj, wipe_length]
  · rw [wipe_out hj]
theorem backR_at {ρ₀ ρ : Rho} {i : Nat} : ∀ {vs : List Nat}, (backR ρ₀ ρ vs)[i]? = if i ∈ vs then (if i < ρ.length then some (ρ₀.getD i .un) else none) else ρ[i]?
  | [] => by simp [backR]
  | v :: vs => by
    unfold backR
    by_cases e : v = i
    · subst e
      rw [List.getElem?_set, if_pos rfl, backR_len, if_pos List.mem_cons_self]
    · rw [List.getElem?_set_ne e, backR_at (vs := vs)]
      have : i ∈ v :: vs ↔ i ∈ vs := by simp [Ne.symm e]
      simp only [this]
theorem Sep.pushUn {o : Option V} {ts : Things} (h : Sep K H F ts) : Sep K H F ((.un, o) :: ts) := by
  obtain ⟨a, fp, b, c, e⟩ := h
  refine ⟨a, fp, ?_, c, e⟩
  unfold SepL
  refine ⟨[], fp, rfl, ?_, b⟩
  unfold Own
  rfl
/-- the slots' things are put aside, and come again -/
theorem wipe_sep {ρ : Rho} {σ : L2.St} (l : Ln C ρ σ) : ∀ vs : List Nat, (∀ i ∈ vs, i < C.N.length) → ∃ saved : Things, (∀ H F rest, Sep K H F (zp ρ σ ++ rest) → Sep K H F (zp (wipeR ρ vs) (L2.wipe σ vs) ++ (saved ++ rest))) ∧
    (∀ H F rest (ρe : Rho), ρe.length = C.N.length → Sep K H F (zp ρe (L2.wipe σ vs) ++ (saved ++ rest)) → Sep K H F (zp (backR ρ ρe vs) σ ++ rest))
  | [], _ => ⟨[], fun _ _ _ h => h, fun _ _ _ _ _ h => h⟩
  | v :: vs, hv => by
    obtain ⟨saved, fw, bw⟩ := wipe_sep l vs fun i hi => hv i (List.mem_cons_of_mem _ hi)
    have hvN := hv v List.mem_cons_self
    have r1 : (wipeR ρ vs).length = C.N.length := by rw [wipeR_len]; exact l.r
    have r2 : (L2.wipe σ vs).length = C.N.length := by rw [wipe_length]; exact l.s
    have hi : v < (zp (wipeR ρ vs) (L2.wipe σ vs)).length := by
      simp only [zp, List.length_zip, r1, r2, Nat.min_self]
      exact hvN
    have eg : (zp (wipeR ρ vs) (L2.wipe σ vs))[v]? = some (zp (wipeR ρ vs) (L2.wipe σ vs))[v] := List.getElem?_eq_getElem hi
    have e1 : wipeR ρ (v :: vs) = (wipeR ρ vs).set v .un := rfl
    have e2 : L2.wipe σ (v :: vs) = (L2.wipe σ vs).set v none := rfl
    rw [e1, e2]
    refine ⟨(zp (wipeR ρ vs) (L2.wipe σ vs))[v] :: saved, fun H F rest h => ?_, fun H F rest ρe hl h => ?_⟩
    · have h1 := (fw H F rest h).take eg
      rw [zp_set]
      refine Sep.put ?_ hi
      refine Sep.pushUn ?_
      exact h1.perm (List.perm_middle.symm)
    · have hw1 : v < (wipeR ρ vs).length := by rw [r1]; exact hvN
      have hw2 : v < (L2.wipe σ vs).length := by rw [r2]; exact hvN
      have ez : (zp (wipeR ρ vs) (L2.wipe σ vs))[v] = ((wipeR ρ vs)[v], (L2.wipe σ vs)[v]) := by simp [zp]
      rw [ez] at h
      have h2 : Sep K H F (((wipeR ρ vs)[v], (L2.wipe σ vs)[v]) :: (zp ρe ((L2.wipe σ vs).set v none) ++ (saved ++ rest))) := h.perm List.perm_middle
      have h3 := h2.setSlot (by rw [hl]; exact hvN) (by rw [List.length_set, r2]; exact hvN)
      rw [List.set_set, List.set_getElem_self] at h3
      have h4 := bw H F rest (ρe.set v (wipeR ρ vs)[v]) (by rw [List.length_set]; exact hl) h3
      have e5 : backR ρ (ρe.set v (wipeR ρ vs)[v]) vs = backR ρ ρe (v :: vs) := by
        apply List.ext_getElem?
        intro j
        rw [backR_at, backR_at, List.length_set]
        by_cases hj : j ∈ vs
        · rw [if_pos hj, if_pos (List.mem_cons_of_mem _ hj)]
        · rw [if_neg hj]
          by_cases hjv : j = v
          · subst hjv
            rw [if_pos List.mem_cons_self, List.getElem?_set_self (by rw [hl]; exact hvN), if_pos (by rw [hl]; exact hvN)]
            have := wipeR_out (ρ := ρ) hj
            rw [List.getElem?_eq_getElem hw1] at this
            rw [List.getD_eq_getElem?_getD, ← this]; rfl
          · rw [if_neg (by simp [hjv, hj]), List.getElem?_set_ne (fun e => hjv e.symm)]
      rw [e5] at h4
      exact h4
theorem wipe_drop {ρ : Rho} {σ : L2.St} {rest : Things} (l : Ln C ρ σ) (vs : List Nat) (hv : ∀ i ∈ vs, i < C.N.length) (h : Sep K H F (zp ρ σ ++ rest)) : Sep K H F (zp (wipeR ρ vs) (L2.wipe σ vs) ++ rest) := by
  obtain ⟨saved, fw, _⟩ := wipe_sep (K := K) l vs hv
  exact (fw H F rest h).skip
end

/-! ### comprehensions -/
abbrev W0 : WX := fun _ _ _ _ => False
/-- the turn of a comprehension -/
def turnC (q : En) (elt : P) (tg : Tg) (cond : Option P) (y : D) (ρ : Rho) : Ev (Option D) := ((setT tg y ρ).at ρ).bind fun ρ _ => match cond with
  | none => (evP q elt ρ).noX.bind fun z ρ => .ok (some z) (wipeR ρ tg.slots)
  | some c => (evP q c ρ).noX.bind fun z ρ => ((asB z).at ρ).bind fun k ρ => if k then (evP q elt ρ).noX.bind fun z ρ => .ok (some z) (wipeR ρ tg.slots) else .ok none (wipeR ρ tg.slots)
theorem evP_comp {q : En} {elt it : P} {tg : Tg} {cond : Option P} {ρ : Rho} : evP q (.comp elt tg it cond) ρ = (evI q it ρ).bind fun xl ρl =>
    (compL (turnC q elt tg cond) xl.1 (wipeR ρl tg.slots)).bind fun r ρ' => ((backI (backR ρl ρ' tg.slots) xl.2).at ρ').bind fun ρ _ => (okIf (decide (r.length ≤ sizeLine)) (.lst r)).at ρ := by
  have as : ∀ {α β γ : Type} (r : Ev α) (f : α → Rho → Ev β) (g : β → Rho → Ev γ), (r.bind f).bind g = r.bind fun a ρ => (f a ρ).bind g := by
    intro α β γ r f g; cases r <;> rfl
  unfold evI
  rw [as]
  have e1 : ∀ ρ1 (r : R (List D)) (f : List D → Rho → Ev (List D × Option (Pl × D))) (g : (List D × Option (Pl × D)) → Rho → Ev D), (((r.at ρ1).bind f).bind g) = (r.at ρ1).bind fun a ρ => (f a ρ).bind g := fun _ _ _ _ => as _ _ _
  cases cond with
  | none =>
    rw [evP]
    congr 1
    funext x ρ1
    rw [as]
    congr 1
    funext xs ρ2
    rw [as]
    cases h : lendI ρ2 it with
    | ok l =>
      simp only [R.at_ok, Ev.bind_ok]
      have : (fun (y : D) (ρ : Rho) => ((setT tg y ρ).at ρ).bind fun ρ _ => (evP q elt ρ).noX.bind fun z ρ => Ev.ok (some z) (wipeR ρ tg.slots)) = turnC q elt tg none := rfl
      rw [this]
      cases hc : compL (turnC q elt tg none) xs (wipeR l.2 tg.slots) with
      | ok r ρ' =>
        simp only [Ev.bind_ok]
        cases backI (backR l.2 ρ' tg.slots) l.1 <;> rfl
      | exc c ρ => rfl
      | stuck => rfl
    | stuck => rfl
  | some c =>
    rw [evP]
    congr 1
    funext x ρ1
    rw [as]
    congr 1
    funext xs ρ2
    rw [as]
    cases h : lendI ρ2 it with
    | ok l =>
      simp only [R.at_ok, Ev.bind_ok]
      have : (fun (y : D) (ρ : Rho) => ((setT tg y ρ).at ρ).bind fun ρ _ => (evP q c ρ).noX.bind fun z ρ => ((asB z).at ρ).bind fun k ρ => if k then (evP q elt ρ).noX.bind fun z ρ => Ev.ok (some z) (wipeR ρ tg.slots) else Ev.ok none (wipeR ρ tg.slots)) = turnC q elt tg (some c) := rfl
      rw [this]
      cases hc : compL (turnC q elt tg (some c)) xs (wipeR l.2 tg.slots) with
      | ok r ρ' =>
        simp only [Ev.bind_ok]
        cases backI (backR l.2 ρ' tg.slots) l.1 <;> rfl
      | exc c ρ => rfl
      | stuck => rfl
    | stuck => rfl
end Bk

/-! B9: comprehensions, and every expression. -/
namespace Bk
open PySem PySem.Spec PyProof.Rows L2

theorem Ev.bind_ok_inv {α β : Type} {r : Ev α} {k : α → Rho → Ev β} {b : β} {ρ' : Rho} (h : r.bind k = .ok b ρ') : ∃ a ρ1, r = .ok a ρ1 ∧ k a ρ1 = .ok b ρ' := by
  cases r with
  | ok a ρ => exact ⟨a, ρ, rfl, h⟩
  | exc c ρ => cases h
  | stuck => cases h
theorem R.at_ok_inv {α : Type} {r : R α} {a : α} {ρ ρ' : Rho} (h : r.at ρ = .ok a ρ') : r = .ok a ∧ ρ' = ρ := by
  cases r with
  | ok b => cases h; exact ⟨rfl, rfl⟩
  | stuck => cases h
theorem Ev.noX_ok_inv {α : Type} {r : Ev α} {a : α} {ρ' : Rho} (h : r.noX = .ok a ρ') : r = .ok a ρ' := by
  cases r with
  | ok b ρ => exact h
  | exc c ρ => cases h
  | stuck => cases h
theorem noX_exc {α : Type} {r : Ev α} {c : Nat} {ρ : Rho} : r.noX ≠ .exc c ρ := by
  cases r <;> (intro h; cases h)
theorem Ev.bind_exc_inv {α β : Type} {r : Ev α} {k : α → Rho → Ev β} {c : Nat} {ρ' : Rho} (h : r.bind k = .exc c ρ') : r = .exc c ρ' ∨ ∃ a ρ1, r = .ok a ρ1 ∧ k a ρ1 = .exc c ρ' := by
  cases r with
  | ok a ρ => exact .inr ⟨a, ρ, rfl, h⟩
  | exc c ρ => cases h; exact .inl rfl
  | stuck => cases h
theorem R.at_exc {α : Type} {r : R α} {c : Nat} {ρ ρ' : Rho} : r.at ρ ≠ .exc c ρ' := by
  cases r <;> (intro h; cases h)
theorem turnC_noexc {q : En} {elt : P} {tg : Tg} {cond : Option P} {y : D} {ρ ρ' : Rho} {c : Nat} : turnC q elt tg cond y ρ ≠ .exc c ρ' := by
  intro h
  unfold turnC at h
  rcases Ev.bind_exc_inv h with h | ⟨ρ1, _, _, h⟩
  · exact R.at_exc h
  · cases cond with
    | none =>
      rcases Ev.bind_exc_inv h with h | ⟨a, ρ2, _, h⟩
      · exact noX_exc h
      · cases h
    | some e =>
      rcases Ev.bind_exc_inv h with h | ⟨a, ρ2, _, h⟩
      · exact noX_exc h
      · rcases Ev.bind_exc_inv h with h | ⟨k, ρ3, _, h⟩
        · exact R.at_exc h
        · cases k with
          | true =>
            rcases Ev.bind_exc_inv (show ((evP q elt ρ3).noX.bind fun z ρ => Ev.ok (some z) (wipeR ρ tg.slots)) = .exc c ρ' from h) with h | ⟨a, ρ2, _, h⟩
            · exact noX_exc h
            · cases h
          | false => cases h
theorem compL_noexc {f : D → Rho → Ev (Option D)} (hf : ∀ d ρ c ρ', f d ρ ≠ .exc c ρ') : ∀ {xs : List D} {ρ ρ' : Rho} {c : Nat}, compL f xs ρ ≠ .exc c ρ'
  | [], _, _, c, h => by cases h
  | x :: xs, ρ, ρ', c, h => by
    unfold compL at h
    rcases Ev.bind_exc_inv h with h | ⟨a, ρ1, _, h⟩
    · exact hf _ _ _ _ h
    · rcases Ev.bind_exc_inv h with h | ⟨r, ρ2, _, h⟩
      · exact compL_noexc hf h
      · cases h
theorem compL_cons {f : D → Rho → Ev (Option D)} {x : D} {xs r : List D} {ρ ρ' : Rho} (h : compL f (x :: xs) ρ = .ok r ρ') : ∃ o ρ1 r', f x ρ = .ok o ρ1 ∧ compL f xs ρ1 = .ok r' ρ' ∧ r = (match o with | some y => y :: r' | none => r') := by
  unfold compL at h
  obtain ⟨o, ρ1, e1, h⟩ := Ev.bind_ok_inv h
  obtain ⟨r', ρ2, e2, h⟩ := Ev.bind_ok_inv h
  cases h
  exact ⟨o, ρ1, r', e1, e2, rfl⟩
theorem evI_len {q : En} {e : P} {ρ ρl : Rho} {xl : List D × Option (Pl × D)} (h : evI q e ρ = .ok xl ρl) : ρl.length = ρ.length ∧ ∀ p d, xl.2 = some (p, d) → p.i < ρ.length := by
  unfold evI at h
  obtain ⟨x, ρ1, e1, ha⟩ := Ev.bind_ok_inv h
  obtain ⟨xs, ρ2, e2, hb⟩ := Ev.bind_ok_inv ha
  clear h ha
  obtain ⟨_, rfl⟩ := R.at_ok_inv e2
  obtain ⟨⟨l, ρ3⟩, ρ4, e3', hc⟩ := Ev.bind_ok_inv hb
  clear hb
  obtain ⟨e3, rfl⟩ := R.at_ok_inv e3'
  cases hc
  have h1 := evP_ok_len e1
  refine ⟨by rw [lendI_len e3]; exact h1, fun p d e => ?_⟩
  simp only at e
  subst e
  unfold lendI at e3
  split at e3
  · split at e3
    · rename_i ht
      cases e3
      unfold Pl.take at ht
      split at ht
      · rename_i hd
        have := (List.getElem?_eq_some_iff.mp hd).1
        omega
      · cases ht
    · cases e3
  · cases e3
theorem perm_c {a b c : Things} {t : Sl × Option V} : (a ++ (b ++ (t :: c))).Perm (t :: (a ++ (b ++ c))) := (List.Perm.append_left _ List.perm_middle).trans List.perm_middle

section
variable {nm : Nm} {E : Wo} {n : Nat} {sui : Option Nat} {io : List Nat} {fx : List (Nat × V)} {q : En} {sc : Scope} {fnb : Str → Bool} {X : Cx} {W : WX}
def ttC (C : Cn) : Option P → TT
  | none => tYes
  | some c => TT' C c
theorem comp_t {o : Bool} {elt it : P} {tg : Tg} {cond : Option P} {σ : L2.St} {H : Hp} {Q : VK} (hi : ∀ i ∈ tg.slots, i < X.N.length) (hf : Off fx tg.slots) (h : TV (cn E X fx q W) o (.comp elt tg it cond) σ H Q) :
    tLc (TI' (cn E X fx q W) it) (gT X.K tg) (ttC (cn E X fx q W0) cond) (TV (cn E X fx q W0) false elt) tg.slots σ H Q := by
  obtain ⟨ρ, F, rest, l, s, qq⟩ := h
  rw [evP_comp, EQ.bind] at qq
  refine ⟨ρ, F, rest, l, s, qq.imp fun xl ρl exl qq J H1 F1 ex s1 hw => ?_⟩
  clear s
  obtain ⟨hl1, hl2⟩ := evI_len exl
  have ll : Ln (cn E X fx q W) ρl σ := l.to hl1
  obtain ⟨xs, lo⟩ := xl
  rw [EQ.bind] at qq
  cases ec : compL (turnC q elt tg cond) xs (wipeR ρl tg.slots) with
  | stuck => rw [ec] at qq; exact qq.elim
  | exc c ρc => exact (compL_noexc (fun d ρ c ρ' => turnC_noexc) ec).elim
  | ok r ρ' =>
    rw [ec] at qq
    replace qq : EQ (cn E X fx q W) rest σ (((backI (backR ρl ρ' tg.slots) lo).at ρ').bind fun ρ _ => (okIf (decide (r.length ≤ sizeLine)) (.lst r)).at ρ) fun d ρ' => PQ o (wd E X) (zp ρ' σ ++ rest) d Q := qq
    rw [EQ.bind] at qq
    obtain ⟨ρf, ef, qq⟩ := qq.at
    obtain ⟨d, ed, qq⟩ := qq.at
    obtain ⟨hz, rfl⟩ := okIf_ok ed
    have hz : r.length ≤ sizeLine := of_decide_eq_true hz
    obtain ⟨saved, fw, bw⟩ := wipe_sep (K := wd E X) ll tg.slots hi
    intro D hD
    have st : Sep (wd E X) (upd H1 D (.lst [])) F1 (zp (wipeR ρl tg.slots) (wipe σ tg.slots) ++ (saved ++ ((.own (.lst []), some (.ref D)) :: (LT lo σ ++ (ex ++ rest))))) := by
      refine fw _ _ _ ((s1.lstNew hD ValL.nil).perm ?_)
      refine List.Perm.trans ?_ List.perm_middle.symm
      refine List.Perm.cons _ ?_
      have e1 : LT lo σ ++ (ex ++ (zp ρl σ ++ rest)) = (LT lo σ ++ ex) ++ (zp ρl σ ++ rest) := by simp [List.append_assoc]
      have e2 : zp ρl σ ++ (LT lo σ ++ (ex ++ rest)) = (zp ρl σ ++ (LT lo σ ++ ex)) ++ rest := by simp [List.append_assoc]
      rw [e1, e2, ← List.append_assoc]
      exact List.perm_append_comm.append_right rest
    refine ⟨fun i m H => m = xs.length - i ∧ i ≤ xs.length ∧ ∃ F acc racc ρi, ρi.length = X.N.length ∧ Sep (wd E X) H F (zp ρi (wipe σ tg.slots) ++ (saved ++ ((.own (.lst acc), some (.ref D)) :: (LT lo σ ++ (ex ++ rest))))) ∧ compL (turnC q elt tg cond) (xs.drop i) ρi = .ok racc ρ' ∧ acc ++ racc = r,
      ⟨xs.length, by simp, Nat.zero_le _, F1, [], r, _, by rw [wipeR_len]; exact ll.r, st, ec, rfl⟩, ?_⟩
    rintro i m H2 ⟨rfl, hle, F2, acc, racc, ρi, hρi, s2, ecr, hr⟩
    obtain ⟨hgo, hstop⟩ := hw i H2 F2 _ s2 (fun t ht => by
      refine List.mem_append_right _ (List.mem_append_right _ (List.mem_cons_of_mem _ ?_))
      rw [← List.append_assoc]
      exact List.mem_append_left _ ht)
    by_cases hlt : i < xs.length
    case neg =>
      have e : i = xs.length := by omega
      subst e
      rw [List.drop_length] at ecr
      cases ecr
      rw [List.append_nil] at hr
      subst hr
      refine .inl ⟨hstop rfl, ?_⟩
      have s3 := bw _ _ _ ρ' hρi s2
      have s4 : Sep (wd E X) H2 F2 (((.own (.lst acc), some (.ref D)) :: ex) ++ (zp ρf σ ++ rest)) := by
        cases lo with
        | none =>
          cases ef
          refine s3.perm ?_
          refine List.perm_middle.trans (List.Perm.cons _ ?_)
          show (zp (backR ρl ρ' tg.slots) σ ++ ([] ++ (ex ++ rest))).Perm (ex ++ (zp (backR ρl ρ' tg.slots) σ ++ rest))
          rw [List.nil_append, ← List.append_assoc, ← List.append_assoc]
          exact List.perm_append_comm.append_right rest
        | some pd =>
          obtain ⟨p, d⟩ := pd
          have hp : p.i < σ.length := by rw [l.s, ← l.r]; exact hl2 p d rfl
          have hv : σ[p.i]? = some ((σ[p.i]?).getD none) := by rw [List.getElem?_eq_getElem hp]; rfl
          have ef' : p.put (backR ρl ρ' tg.slots) d = .ok ρf := ef
          have lb : Ln (cn E X fx q W) (backR ρl ρ' tg.slots) σ := ⟨by rw [backR_len]; exact hρi, l.s, l.f⟩
          refine Pl.put_sep ef' lb hv (s3.perm ?_)
          show (zp (backR ρl ρ' tg.slots) σ ++ ((.own (.lst acc), some (.ref D)) :: ((.own d, σ[p.i]?.getD none) :: (ex ++ rest)))).Perm ((.own d, σ[p.i]?.getD none) :: (.own (.lst acc), some (.ref D)) :: (ex ++ (zp (backR ρl ρ' tg.slots) σ ++ rest)))
          refine (List.perm_middle.trans (List.Perm.cons _ List.perm_middle)).trans ((List.Perm.swap _ _ _).trans (List.Perm.cons _ (List.Perm.cons _ ?_)))
          rw [← List.append_assoc, ← List.append_assoc]
          exact List.perm_append_comm.append_right rest
      exact qq.own rfl (Sep.right (ts := []) (by
        have h5 : Sep (wd E X) H2 F2 ([(.own (.lst acc), some (.ref D))] ++ (ex ++ (zp ρf σ ++ rest))) := s4
        exact h5.skip))
    obtain ⟨go, hy⟩ := hgo xs[i] (List.getElem?_eq_getElem hlt)
    rw [List.drop_eq_getElem_cons hlt] at ecr
    obtain ⟨oy, ρ1, racc', efx, ecr', rfl⟩ := compL_cons ecr
    unfold turnC at efx
    obtain ⟨ρs, ρs', eset', efy⟩ := Ev.bind_ok_inv efx
    clear efx
    obtain ⟨eset, rfl⟩ := R.at_ok_inv eset'
    clear eset'
    refine .inr ⟨go, fun H' => ∃ F acc racc ρi, ρi.length = X.N.length ∧ Sep (wd E X) H' F (zp ρi (wipe σ tg.slots) ++ (saved ++ ((.own (.lst acc), some (.ref D)) :: (LT lo σ ++ (ex ++ rest))))) ∧ compL (turnC q elt tg cond) (xs.drop (i + 1)) ρi = .ok racc ρ' ∧ acc ++ racc = r,
      fun H' nx => ⟨xs.length - (i + 1), by omega, rfl, hlt, nx⟩, fun x H3 yl => ?_⟩
    obtain ⟨F3, s3, vx⟩ := hy x H3 yl
    have li : Ln (cn E X fx q W0) ρs' (wipe σ tg.slots) := ⟨hρi, by rw [wipe_length]; exact l.s, fun p hp => by rw [wipe_out fun m => hf _ m p hp rfl]; exact l.f p hp⟩
    refine tgt_ok (C := cn E X fx q W0) (K := wd E X) eset hi hf li s3 vx fun σ2 l2 s5 w2 => ⟨?_, ?_⟩
    · rw [w2 tg.slots fun i h => h, wipe_wipe]
    have ew : wipe σ2 tg.slots = wipe σ tg.slots := by rw [w2 tg.slots fun i h => h, wipe_wipe]
    -- the element
    have elem : ∀ {H' F' ρc}, Ln (cn E X fx q W0) ρc σ2 → Sep (wd E X) H' F' (zp ρc σ2 ++ (saved ++ ((.own (.lst acc), some (.ref D)) :: (LT lo σ ++ (ex ++ rest))))) → ((evP q elt ρc).noX.bind fun z ρ => Ev.ok (some z) (wipeR ρ tg.slots)) = .ok oy ρ1 →
        TV (cn E X fx q W0) false elt σ2 H' fun y H4 => ∃ acc, H4 D = some (.lst acc) ∧ acc.length < sizeLine ∧ ∃ F acc_1 racc ρi, ρi.length = X.N.length ∧ Sep (wd E X) (upd H4 D (.lst (acc ++ [y]))) F (zp ρi (wipe σ tg.slots) ++ (saved ++ ((.own (.lst acc_1), some (.ref D)) :: (LT lo σ ++ (ex ++ rest))))) ∧
          compL (turnC q elt tg cond) (xs.drop (i + 1)) ρi = .ok racc ρ' ∧ acc_1 ++ racc = r := fun {H' F' ρc} lc h5 ee => by
      obtain ⟨z, ρz, ez, ee⟩ := Ev.bind_ok_inv ee
      cases ee
      have ez := Ev.noX_ok_inv ez
      refine ⟨ρc, F', _, lc, h5, ?_⟩
      show EQ _ _ _ (evP q elt ρc) _
      rw [ez]
      intro y H4 F4 s6 vy
      have s7 := s6.perm perm_c
      obtain ⟨a, vs, e, ha, vl⟩ := s7.head_own
      cases e
      have hlen := congrArg List.length hr
      simp only [List.length_append, List.length_cons] at hlen
      refine ⟨vs, ha, by rw [← vl.length]; omega, F4, acc ++ [z], racc', wipeR ρz tg.slots, ?_, ?_, ecr', ?_⟩
      · rw [wipeR_len, evP_ok_len ez]; exact lc.r
      · have s8 := (s7.write (vl.append (ValL.cons vy ValL.nil))).perm perm_c.symm
        have lz : Ln (cn E X fx q W0) ρz σ2 := lc.to (evP_ok_len ez)
        have s9 := wipe_drop lz tg.slots hi s8
        rw [ew] at s9
        exact s9
      · rw [List.append_assoc]; exact hr
    cases cond with
    | none => exact elem l2 s5 efy
    | some c =>
      obtain ⟨z, ρz, ez0, e3a⟩ := Ev.bind_ok_inv (show ((evP q c ρs).noX.bind fun z ρ => ((asB z).at ρ).bind fun k ρ => if k then (evP q elt ρ).noX.bind fun z ρ => .ok (some z) (wipeR ρ tg.slots) else .ok none (wipeR ρ tg.slots)) = .ok oy ρ1 from efy)
      have ez := Ev.noX_ok_inv ez0
      clear ez0
      obtain ⟨k, ρk, ek0, e3⟩ := Ev.bind_ok_inv e3a
      clear e3a
      obtain ⟨ek, rfl⟩ := R.at_ok_inv ek0
      clear ek0
      refine ⟨ρs, F3, _, l2, s5, ?_⟩
      show EQ _ _ _ ((evP q c ρs).bind fun d ρ => (asB d).at ρ) _
      rw [ez, Ev.bind_ok, ek]
      intro H4 F4 s6
      have lz : Ln (cn E X fx q W0) ρk σ2 := l2.to (evP_ok_len ez)
      cases k with
      | true => exact elem lz s6 e3
      | false =>
        cases e3
        refine ⟨F4, acc, racc', wipeR ρk tg.slots, ?_, ?_, ecr', hr⟩
        · rw [wipeR_len]; exact lz.r
        · have s9 := wipe_drop lz tg.slots hi s6
          rw [ew] at s9
          exact s9
/-- a list of new lists, its reading -/
def QLL (K : Wd) (ts : Things) (d : D) (Q : VK) : Prop := ∃ xs, d = .lst xs ∧ xs.all isLstD = true ∧ ∀ v H F, Sep K H F ((.own (.box (.lst xs)), some v) :: ts) → Q v H
def TVL (C : Cn) (e : P) : TE := fun σ H Q => ∃ ρ F rest, Ln C ρ σ ∧ Sep C.K H F (zp ρ σ ++ rest) ∧ EQ C rest σ (evP C.q e ρ) fun d ρ' => QLL C.K (zp ρ' σ ++ rest) d Q
theorem comp_tL {elt it : P} {tg : Tg} {σ : L2.St} {H : Hp} {Q : VK} (hi : ∀ i ∈ tg.slots, i < X.N.length) (hf : Off fx tg.slots) (h : TVL (cn E X fx q W) (.comp elt tg it none) σ H Q) :
    tLc (TI' (cn E X fx q W) it) (gT X.K tg) (ttC (cn E X fx q W0) none) (TV (cn E X fx q W0) true elt) tg.slots σ H Q := by
  obtain ⟨ρ, F, rest, l, s, qq⟩ := h
  rw [evP_comp, EQ.bind] at qq
  refine ⟨ρ, F, rest, l, s, qq.imp fun xl ρl exl qq J H1 F1 ex s1 hw => ?_⟩
  clear s
  obtain ⟨hl1, hl2⟩ := evI_len exl
  have ll : Ln (cn E X fx q W) ρl σ := l.to hl1
  obtain ⟨xs, lo⟩ := xl
  rw [EQ.bind] at qq
  cases ec : compL (turnC q elt tg none) xs (wipeR ρl tg.slots) with
  | stuck => rw [ec] at qq; exact qq.elim
  | exc c ρc => exact (compL_noexc (fun d ρ c ρ' => turnC_noexc) ec).elim
  | ok r ρ' =>
    rw [ec] at qq
    replace qq : EQ (cn E X fx q W) rest σ (((backI (backR ρl ρ' tg.slots) lo).at ρ').bind fun ρ _ => (okIf (decide (r.length ≤ sizeLine)) (.lst r)).at ρ) fun d ρ' => QLL (wd E X) (zp ρ' σ ++ rest) d Q := qq
    rw [EQ.bind] at qq
    obtain ⟨ρf, ef, qq⟩ := qq.at
    obtain ⟨d, ed, qq⟩ := qq.at
    obtain ⟨hz, rfl⟩ := okIf_ok ed
    have hz : r.length ≤ sizeLine := of_decide_eq_true hz
    obtain ⟨r', er, hall, qq⟩ := qq
    cases er
    obtain ⟨saved, fw, bw⟩ := wipe_sep (K := wd E X) ll tg.slots hi
    intro D hD
    have st : Sep (wd E X) (upd H1 D (.lst [])) F1 (zp (wipeR ρl tg.slots) (wipe σ tg.slots) ++ (saved ++ ((.own (.box (.lst [])), some (.ref D)) :: (LT lo σ ++ (ex ++ rest))))) := by
      refine fw _ _ _ ((s1.llNew hD).perm ?_)
      refine List.Perm.trans ?_ List.perm_middle.symm
      refine List.Perm.cons _ ?_
      have e1 : LT lo σ ++ (ex ++ (zp ρl σ ++ rest)) = (LT lo σ ++ ex) ++ (zp ρl σ ++ rest) := by simp [List.append_assoc]
      have e2 : zp ρl σ ++ (LT lo σ ++ (ex ++ rest)) = (zp ρl σ ++ (LT lo σ ++ ex)) ++ rest := by simp [List.append_assoc]
      rw [e1, e2, ← List.append_assoc]
      exact List.perm_append_comm.append_right rest
    refine ⟨fun i m H => m = xs.length - i ∧ i ≤ xs.length ∧ ∃ F acc racc ρi, ρi.length = X.N.length ∧ Sep (wd E X) H F (zp ρi (wipe σ tg.slots) ++ (saved ++ ((.own (.box (.lst acc)), some (.ref D)) :: (LT lo σ ++ (ex ++ rest))))) ∧ compL (turnC q elt tg none) (xs.drop i) ρi = .ok racc ρ' ∧ acc ++ racc = r,
      ⟨xs.length, by simp, Nat.zero_le _, F1, [], r, _, by rw [wipeR_len]; exact ll.r, st, ec, rfl⟩, ?_⟩
    rintro i m H2 ⟨rfl, hle, F2, acc, racc, ρi, hρi, s2, ecr, hr⟩
    obtain ⟨hgo, hstop⟩ := hw i H2 F2 _ s2 (fun t ht => by
      refine List.mem_append_right _ (List.mem_append_right _ (List.mem_cons_of_mem _ ?_))
      rw [← List.append_assoc]
      exact List.mem_append_left _ ht)
    by_cases hlt : i < xs.length
    case neg =>
      have e : i = xs.length := by omega
      subst e
      rw [List.drop_length] at ecr
      cases ecr
      rw [List.append_nil] at hr
      subst hr
      refine .inl ⟨hstop rfl, ?_⟩
      have s3 := bw _ _ _ ρ' hρi s2
      have s4 : Sep (wd E X) H2 F2 (((.own (.box (.lst acc)), some (.ref D)) :: ex) ++ (zp ρf σ ++ rest)) := by
        cases lo with
        | none =>
          cases ef
          refine s3.perm ?_
          refine List.perm_middle.trans (List.Perm.cons _ ?_)
          show (zp (backR ρl ρ' tg.slots) σ ++ ([] ++ (ex ++ rest))).Perm (ex ++ (zp (backR ρl ρ' tg.slots) σ ++ rest))
          rw [List.nil_append, ← List.append_assoc, ← List.append_assoc]
          exact List.perm_append_comm.append_right rest
        | some pd =>
          obtain ⟨p, d⟩ := pd
          have hp : p.i < σ.length := by rw [l.s, ← l.r]; exact hl2 p d rfl
          have hv : σ[p.i]? = some ((σ[p.i]?).getD none) := by rw [List.getElem?_eq_getElem hp]; rfl
          have ef' : p.put (backR ρl ρ' tg.slots) d = .ok ρf := ef
          have lb : Ln (cn E X fx q W) (backR ρl ρ' tg.slots) σ := ⟨by rw [backR_len]; exact hρi, l.s, l.f⟩
          refine Pl.put_sep ef' lb hv (s3.perm ?_)
          show (zp (backR ρl ρ' tg.slots) σ ++ ((.own (.box (.lst acc)), some (.ref D)) :: ((.own d, σ[p.i]?.getD none) :: (ex ++ rest)))).Perm ((.own d, σ[p.i]?.getD none) :: (.own (.box (.lst acc)), some (.ref D)) :: (ex ++ (zp (backR ρl ρ' tg.slots) σ ++ rest)))
          refine (List.perm_middle.trans (List.Perm.cons _ List.perm_middle)).trans ((List.Perm.swap _ _ _).trans (List.Perm.cons _ (List.Perm.cons _ ?_)))
          rw [← List.append_assoc, ← List.append_assoc]
          exact List.perm_append_comm.append_right rest
      exact qq _ _ _ (Sep.right (ts := []) (by
        have h5 : Sep (wd E X) H2 F2 ([(.own (.box (.lst acc)), some (.ref D))] ++ (ex ++ (zp ρf σ ++ rest))) := s4
        exact h5.skip))
    obtain ⟨go, hy⟩ := hgo xs[i] (List.getElem?_eq_getElem hlt)
    rw [List.drop_eq_getElem_cons hlt] at ecr
    obtain ⟨oy, ρ1, racc', efx, ecr', rfl⟩ := compL_cons ecr
    unfold turnC at efx
    obtain ⟨ρs, ρs', eset', efy⟩ := Ev.bind_ok_inv efx
    clear efx
    obtain ⟨eset, rfl⟩ := R.at_ok_inv eset'
    clear eset'
    refine .inr ⟨go, fun H' => ∃ F acc racc ρi, ρi.length = X.N.length ∧ Sep (wd E X) H' F (zp ρi (wipe σ tg.slots) ++ (saved ++ ((.own (.box (.lst acc)), some (.ref D)) :: (LT lo σ ++ (ex ++ rest))))) ∧ compL (turnC q elt tg none) (xs.drop (i + 1)) ρi = .ok racc ρ' ∧ acc ++ racc = r,
      fun H' nx => ⟨xs.length - (i + 1), by omega, rfl, hlt, nx⟩, fun x H3 yl => ?_⟩
    obtain ⟨F3, s3, vx⟩ := hy x H3 yl
    have li : Ln (cn E X fx q W0) ρs' (wipe σ tg.slots) := ⟨hρi, by rw [wipe_length]; exact l.s, fun p hp => by rw [wipe_out fun m => hf _ m p hp rfl]; exact l.f p hp⟩
    refine tgt_ok (C := cn E X fx q W0) (K := wd E X) eset hi hf li s3 vx fun σ2 l2 s5 w2 => ⟨?_, ?_⟩
    · rw [w2 tg.slots fun i h => h, wipe_wipe]
    have ew : wipe σ2 tg.slots = wipe σ tg.slots := by rw [w2 tg.slots fun i h => h, wipe_wipe]
    -- the element
    have elem : ∀ {H' F' ρc}, Ln (cn E X fx q W0) ρc σ2 → Sep (wd E X) H' F' (zp ρc σ2 ++ (saved ++ ((.own (.box (.lst acc)), some (.ref D)) :: (LT lo σ ++ (ex ++ rest))))) → ((evP q elt ρc).noX.bind fun z ρ => Ev.ok (some z) (wipeR ρ tg.slots)) = .ok oy ρ1 →
        TV (cn E X fx q W0) true elt σ2 H' fun y H4 => ∃ acc, H4 D = some (.lst acc) ∧ acc.length < sizeLine ∧ ∃ F acc_1 racc ρi, ρi.length = X.N.length ∧ Sep (wd E X) (upd H4 D (.lst (acc ++ [y]))) F (zp ρi (wipe σ tg.slots) ++ (saved ++ ((.own (.box (.lst acc_1)), some (.ref D)) :: (LT lo σ ++ (ex ++ rest))))) ∧
          compL (turnC q elt tg none) (xs.drop (i + 1)) ρi = .ok racc ρ' ∧ acc_1 ++ racc = r := fun {H' F' ρc} lc h5 ee => by
      obtain ⟨z, ρz, ez, ee⟩ := Ev.bind_ok_inv ee
      cases ee
      have ez := Ev.noX_ok_inv ez
      refine ⟨ρc, F', _, lc, h5, ?_⟩
      show EQ _ _ _ (evP q elt ρc) _
      rw [ez]
      have zl : isLstD z = true := List.all_eq_true.mp hall z (by rw [← hr]; simp)
      cases z with
      | lst ys =>
        unfold PQ
        intro y H4 F4 s6
        obtain ⟨b, eb⟩ := s6.own_ref
        cases eb
        have s7 : Sep (wd E X) H4 F4 ((.own (.box (.lst acc)), some (.ref D)) :: (.own (.lst ys), some (.ref b)) :: (zp ρz σ2 ++ (saved ++ (LT lo σ ++ (ex ++ rest))))) := s6.perm ((List.Perm.cons _ perm_c).trans (List.Perm.swap _ _ _))
        obtain ⟨vs, ha, vl, s7⟩ := s7.llApp
        have hlen := congrArg List.length hr
        simp only [List.length_append, List.length_cons] at hlen
        refine ⟨vs, ha, by omega, F4, acc ++ [.lst ys], racc', wipeR ρz tg.slots, ?_, ?_, ecr', ?_⟩
        · rw [wipeR_len, evP_ok_len ez]; exact lc.r
        · have s8 := s7.perm perm_c.symm
          have lz : Ln (cn E X fx q W0) ρz σ2 := lc.to (evP_ok_len ez)
          have s9 := wipe_drop lz tg.slots hi s8
          rw [ew] at s9
          exact s9
        · rw [List.append_assoc]; exact hr
      | _ => cases zl
    exact elem l2 s5 efy
end
end Bk

/-! B10: every expression. -/
namespace Bk
open PySem PySem.Spec PyProof.Rows L2

section
variable {X : Cx} {CX : CXT} {k : Nat} {f : Addr} {fd : FuncData} {ps : List Str} {sp : Sp} {E : L2.St → XK} {x : Str} {p pos : Pos}
theorem pe_call0S (F : FnOk X.prog X.w X.K X.mg X.base CX k f fd ps sp) (hr : Room k X.A) (hg : Gl X x) (hm : X.mg x = some (.ref f)) (hk : PySem.W.keepIn X.K (.ref f) = true) (hb : Binds X.K fd ps []) (hx : ∀ σ, PassesAt CX X σ (E σ))
    (hdb : (x == ("__debug__" : Str)) = false) : PE X (.Call (.Name x p) [] [] pos) (fun σ H Q => sp [] H Q (E σ)) := by
  refine ⟨fun pins s σ H Q I h => ?_⟩
  refine wpAny_Call_Name_kw (ld_glob I hg hm ?_ hdb)
  exact PySem.W.callWith_K0 I.kIn hk (run_fnS (us := []) F hr hb (hx σ) I .nil h)
end

theorem asB_ok {d : D} {k : Bool} (h : asB d = .ok k) : d = .bl k := by
  cases d <;> simp only [asB, reduceCtorEq, R.ok.injEq] at h
  rw [h]
section
variable {C : Cn} {σ : L2.St} {H : Hp}
theorem TV.andV {a c : P} {Q : VK} (h : TV C false (.and a c) σ H Q) : tAndV (TV C false a) (TV C false c) σ H Q := by
  obtain ⟨ρ, F, rest, l, s, q⟩ := h
  rw [evP, EQ.bind] at q
  refine ⟨ρ, F, rest, l, s, q.imp fun d ρ1 ed q v H1 F1 s1 vd => ?_⟩
  rw [EQ.bind] at q
  obtain ⟨k, ek, q2⟩ := q.at
  obtain rfl := asB_ok ek
  clear q
  unfold Val at vd
  refine ⟨_, vd, ?_⟩
  cases k with
  | false => exact PQ.fz (d := .bl false) q2 _ _ _ s1 val_bl
  | true =>
    rw [if_pos rfl] at q2 ⊢
    rw [EQ.bind] at q2
    refine ⟨ρ1, F1, rest, l.to (evP_ok_len ed), s1, q2.imp fun d2 ρ2 e2 q3 w H2 F2 s2 vd2 => ?_⟩
    rw [EQ.bind] at q3
    obtain ⟨k2, ek2, q4⟩ := q3.at
    obtain rfl := asB_ok ek2
    exact PQ.fz (d := .bl _) q4 w H2 F2 s2 vd2
theorem TV.orV {a c : P} {Q : VK} (h : TV C false (.or a c) σ H Q) : tOrV (TV C false a) (TV C false c) σ H Q := by
  obtain ⟨ρ, F, rest, l, s, q⟩ := h
  rw [evP, EQ.bind] at q
  refine ⟨ρ, F, rest, l, s, q.imp fun d ρ1 ed q v H1 F1 s1 vd => ?_⟩
  rw [EQ.bind] at q
  obtain ⟨k, ek, q2⟩ := q.at
  obtain rfl := asB_ok ek
  clear q
  unfold Val at vd
  refine ⟨_, vd, ?_⟩
  cases k with
  | true => exact PQ.fz (d := .bl true) q2 _ _ _ s1 val_bl
  | false =>
    rw [if_neg Bool.false_ne_true] at q2 ⊢
    rw [EQ.bind] at q2
    refine ⟨ρ1, F1, rest, l.to (evP_ok_len ed), s1, q2.imp fun d2 ρ2 e2 q3 w H2 F2 s2 vd2 => ?_⟩
    rw [EQ.bind] at q3
    obtain ⟨k2, ek2, q4⟩ := q3.at
    obtain rfl := asB_ok ek2
    exact PQ.fz (d := .bl _) q4 w H2 F2 s2 vd2
theorem TV.notV {a : P} {Q : VK} (h : TV C false (.not a) σ H Q) : tNotV (TV C false a) σ H Q := by
  obtain ⟨ρ, F, rest, l, s, q⟩ := h
  rw [evP, EQ.bind] at q
  refine ⟨ρ, F, rest, l, s, q.imp fun d ρ1 ed q v H1 F1 s1 vd => ?_⟩
  rw [EQ.bind] at q
  obtain ⟨k, ek, q2⟩ := q.at
  obtain rfl := asB_ok ek
  unfold Val at vd
  exact ⟨_, vd, PQ.fz (d := .bl _) q2 _ _ _ s1 val_bl⟩
theorem TV.iteV {a b c : P} {Q : VK} (h : TV C false (.ite c a b) σ H Q) : tIf (TT' C c) (TV C false a) (TV C false b) σ H Q := by
  obtain ⟨ρ, F, rest, l, s, q⟩ := h
  rw [evP, EQ.bind] at q
  refine ⟨ρ, F, rest, l, s, ?_⟩
  rw [EQ.bind]
  refine q.imp fun d ρ1 ed q1 => ?_
  rw [EQ.bind] at q1
  obtain ⟨k, ek, q2⟩ := q1.at
  clear q1 q
  refine .atI ek fun H1 F1 s1 => ?_
  have l1 := l.to (evP_ok_len ed)
  cases k with
  | true => exact ⟨ρ1, F1, rest, l1, s1, q2⟩
  | false => exact ⟨ρ1, F1, rest, l1, s1, q2⟩
theorem TT.andT {a c : P} {Q : Bool → Hp → Prop} (h : TT' C (.and a c) σ H Q) : tAnd (TT' C a) (TT' C c) σ H Q := by
  obtain ⟨ρ, F, rest, l, s, q⟩ := h
  rw [evP, EQ.bind, EQ.bind] at q
  refine ⟨ρ, F, rest, l, s, ?_⟩
  rw [EQ.bind]
  refine q.imp fun d ρ1 ed q1 => ?_
  rw [EQ.bind] at q1
  obtain ⟨k, ek, q2⟩ := q1.at
  clear q1 q
  refine .atI ek fun H1 F1 s1 => ?_
  have l1 := l.to (evP_ok_len ed)
  cases k with
  | false => exact q2 H1 F1 s1
  | true =>
    show TT' C c σ H1 Q
    replace q2 : EQ C rest σ ((evP C.q c ρ1).bind fun y ρ => ((asB y).at ρ).bind fun k ρ => .ok (.bl k) ρ) fun d ρ => EQ C rest σ ((asB d).at ρ) fun k ρ' => ∀ H' F', Sep C.K H' F' (zp ρ' σ ++ rest) → Q k H' := q2
    rw [EQ.bind] at q2
    refine ⟨ρ1, F1, rest, l1, s1, ?_⟩
    rw [EQ.bind]
    refine q2.imp fun d2 ρ2 e2 q3 => ?_
    rw [EQ.bind] at q3
    obtain ⟨k2, ek2, q4⟩ := q3.at
    exact .atI ek2 q4
theorem TT.orT {a c : P} {Q : Bool → Hp → Prop} (h : TT' C (.or a c) σ H Q) : tOr (TT' C a) (TT' C c) σ H Q := by
  obtain ⟨ρ, F, rest, l, s, q⟩ := h
  rw [evP, EQ.bind, EQ.bind] at q
  refine ⟨ρ, F, rest, l, s, ?_⟩
  rw [EQ.bind]
  refine q.imp fun d ρ1 ed q1 => ?_
  rw [EQ.bind] at q1
  obtain ⟨k, ek, q2⟩ := q1.at
  clear q1 q
  refine .atI ek fun H1 F1 s1 => ?_
  have l1 := l.to (evP_ok_len ed)
  cases k with
  | true => exact q2 H1 F1 s1
  | false =>
    show TT' C c σ H1 Q
    replace q2 : EQ C rest σ ((evP C.q c ρ1).bind fun y ρ => ((asB y).at ρ).bind fun k ρ => .ok (.bl k) ρ) fun d ρ => EQ C rest σ ((asB d).at ρ) fun k ρ' => ∀ H' F', Sep C.K H' F' (zp ρ' σ ++ rest) → Q k H' := q2
    rw [EQ.bind] at q2
    refine ⟨ρ1, F1, rest, l1, s1, ?_⟩
    rw [EQ.bind]
    refine q2.imp fun d2 ρ2 e2 q3 => ?_
    rw [EQ.bind] at q3
    obtain ⟨k2, ek2, q4⟩ := q3.at
    exact .atI ek2 q4
theorem TT.notT {a : P} {Q : Bool → Hp → Prop} (h : TT' C (.not a) σ H Q) : tNot (TT' C a) σ H Q := by
  obtain ⟨ρ, F, rest, l, s, q⟩ := h
  rw [evP, EQ.bind, EQ.bind] at q
  refine ⟨ρ, F, rest, l, s, ?_⟩
  rw [EQ.bind]
  refine q.imp fun d ρ1 ed q => ?_
  rw [EQ.bind] at q
  obtain ⟨k, ek, q2⟩ := q.at
  exact .atI ek fun H1 F1 s1 => q2 H1 F1 s1
theorem TV.chainV {o o' : Prim} {a b c : P} {Q : VK} (h : TV C false (.chain o o' a b c) σ H Q) : tChain (r2 C.K false o) (r2 C.K false o') (TV C false a) (TV C false b) (TV C false c) σ H Q := by
  obtain ⟨ρ, F, rest, l, s, q⟩ := h
  rw [evP, EQ.bind] at q
  refine ⟨ρ, F, rest, l, s, q.imp fun x ρ1 e1 q v H1 F1 s1 vx => ?_⟩
  have l1 := l.to (evP_ok_len e1)
  refine ⟨ρ1, F1, [(.fz x, some v)] ++ rest, l1, (s1.push vx).perm List.perm_middle.symm, ?_⟩
  rw [EQ.bind] at q
  refine q.skip fun y ρ2 e2 q w H2 F2 s2 vy => ?_
  have l2 := l1.to (evP_ok_len e2)
  rw [EQ.bind] at q
  obtain ⟨z, ez, qa⟩ := q.at
  rw [EQ.bind] at qa
  obtain ⟨k, ek, q2⟩ := qa.at
  clear q qa
  obtain rfl := asB_ok ek
  obtain ⟨v', ev', vx2⟩ := (s2.perm List.perm_middle).val
  cases ev'
  refine ⟨F2, (.fz y, some w) :: (zp ρ2 σ ++ ([(.fz x, some v)] ++ rest)), [x, y], .bl k, s2.push vy, ⟨v, _, rfl, vx2.bor, w, _, rfl, vy.bor, rfl⟩, ez, fun u H3 F3 s3 vz => ?_⟩
  unfold Val at vz
  refine ⟨_, vz, ?_⟩
  have s3' : Sep C.K H3 F3 ((.fz y, some w) :: (.fz x, some v) :: (zp ρ2 σ ++ rest)) := s3.perm (List.Perm.cons _ List.perm_middle)
  cases k with
  | false => exact PQ.fz (d := .bl false) q2 _ _ _ s3'.tail.tail val_bl
  | true =>
    rw [if_pos rfl] at q2 ⊢
    rw [EQ.bind] at q2
    have s4 : Sep C.K H3 F3 (zp ρ2 σ ++ ([(.fz y, some w)] ++ rest)) := ((s3'.perm (List.Perm.swap _ _ _)).tail).perm List.perm_middle.symm
    refine ⟨ρ2, F3, [(.fz y, some w)] ++ rest, l2, s4, q2.skip fun t ρ3 e3 q3 t' H4 F4 s5 vt => ?_⟩
    rw [EQ.bind] at q3
    obtain ⟨z2, ez2, q4⟩ := q3.at
    rw [EQ.bind] at q4
    obtain ⟨k2, ek2, q5⟩ := q4.at
    obtain rfl := asB_ok ek2
    obtain ⟨w', ew', vy2⟩ := (s5.perm List.perm_middle).val
    cases ew'
    refine ⟨F4, _, [y, t], .bl k2, s5, ⟨w, _, rfl, vy2.bor, t', _, rfl, vt.bor, rfl⟩, ez2, fun u5 H5 F5 s6 vz2 => ?_⟩
    exact PQ.fz (d := .bl _) q5 _ _ _ (s6.perm List.perm_middle).tail vz2
end

theorem lastM {o o' : CmpOp} {y z : Expr} (h : notSet z = true) : lastMarks [o, o'] [y, z] = false := by
  show behindInMarks o' z = false
  exact notSet_ok h
theorem plT_ok {e : Expr} {env : Env} (h : plT e = true) : ∀ whole, isTrue e env whole = (do let v ← whole; standAt e.pos; holding [v] (truthy v)) := by
  intro whole
  cases e with
  | UnaryOp o x p => cases o <;> first | rfl | cases h
  | _ => first | rfl | cases h
theorem pw_bool {X : Cx} {o : BoolOp} {es : List Expr} {pos : Pos} {t : TT} (h : PT X (.BoolOp o es pos) t) : PW X (.BoolOp o es pos) t := ⟨fun whole pins s σ H Q I w => h.run pins s σ H Q I w⟩

theorem llD_inv {s : Option Sl} {xs : List D} (h : llD s = some xs) : s = some (.own (.box (.lst xs))) := by
  unfold llD at h
  split at h
  · cases h; rfl
  · cases h
theorem slI_inv {s : Option Sl} {k : Int} (h : slI s = some k) : s = some (.fz (.int k)) := by
  unfold slI at h
  split at h
  · cases h; rfl
  · cases h
theorem llIx_inv {xs ys : List D} {a : Int} {i : Nat} (h : llIx xs a = some (i, ys)) : ixN xs.length a = some i ∧ xs[i]? = some (.lst ys) := by
  unfold llIx at h
  split at h
  · rename_i j hj
    split at h
    · rename_i zs hz
      cases h
      exact ⟨hj, hz⟩
    · cases h
  · cases h
section
variable {E : Wo} {fx : List (Nat × V)} {q : En} {X : Cx} {W : WX}
theorem slot_int {K : Wd} {F : Addr → Prop} {ρ : Rho} {σ : L2.St} {H : Hp} {rest : Things} {j : Nat} {k : Int} (hl : σ.length = ρ.length) (s : Sep K H F (zp ρ σ ++ rest)) (h : ρ[j]? = some (.fz (.int k))) : σ[j]? = some (some (.int k)) := by
  have hi := (List.getElem?_eq_some_iff.mp h).1
  have hσ : j < σ.length := by rw [hl]; exact hi
  have m := zp_mem h (List.getElem?_eq_getElem hσ)
  obtain ⟨v, e, qv⟩ := s.mem_val (List.mem_append_left _ m)
  unfold Val at qv
  rw [List.getElem?_eq_getElem hσ, e, qv]
theorem llG_t {i j k : Nat} {σ : L2.St} {H : Hp} {Q : VK} (h : TV (cn E X fx q W) false (.llG i j k) σ H Q) : tOp (rIxL X.K) (tOp (rIxL X.K) (tPl ⟨i, none⟩) (tPl ⟨j, none⟩)) (tPl ⟨k, none⟩) σ H Q := by
  obtain ⟨ρ, F, rest, l, s, qq⟩ := h
  rw [evP] at qq
  obtain ⟨d, ed, q2⟩ := qq.at
  have hl : σ.length = ρ.length := by rw [l.s, ← l.r]
  unfold evLlG at ed
  split at ed
  · rename_i xs a b hx ha hb
    have hx := llD_inv hx
    have ha := slot_int hl s (slI_inv ha)
    have hb := slot_int hl s (slI_inv hb)
    have hi := (List.getElem?_eq_some_iff.mp hx).1
    have hσ : i < σ.length := by rw [hl]; exact hi
    have ht : (Pl.mk i none).take ρ = .ok (.box (.lst xs), ρ.set i .un) := by
      unfold Pl.take
      simp only [hx]
    have s1 := Pl.take_sep (A := []) ht (List.getElem?_eq_getElem hσ) s
    obtain ⟨a0, ea⟩ := s1.own_ref
    have hv : σ[i]? = some (some (.ref a0)) := by rw [List.getElem?_eq_getElem hσ, ea]
    rw [ea] at s1
    obtain ⟨vs, h1, h2, h3⟩ := s1.llAt
    unfold llAt at ed
    split at ed
    · rename_i p hp
      obtain ⟨i1, ys⟩ := p
      obtain ⟨e1, e2⟩ := llIx_inv hp
      obtain ⟨c, ws, f1, f2, f3, _⟩ := h3 i1 ys e2
      split at ed
      · rename_i j1 hj
        split at ed
        · rename_i d' hd
          cases ed
          obtain ⟨w, g1, g2⟩ := f3.get hd
          have k1 : atI vs a = some (.ref c) := by unfold atI; rw [h2, e1]; exact f1
          have k2 : atI ws b = some w := by unfold atI; rw [← f3.length, hj]; exact g1
          exact ⟨.ref a0, hv, .int a, ha, a0, vs, a, .ref c, rfl, rfl, .inl (.inl h1), k1, .int b, hb, c, ws, b, w, rfl, rfl, .inl (.inl f2), k2, PQ.fz q2 w H F s g2⟩
        · cases ed
      · cases ed
    · cases ed
  · cases ed
theorem llV_t {i : Nat} {σ : L2.St} {H : Hp} {Q : VK} (h : TV (cn E X fx q W) false (.llV i) σ H Q) : tPl ⟨i, none⟩ σ H Q := by
  obtain ⟨ρ, F, rest, l, s, qq⟩ := h
  rw [evP] at qq
  have hl : σ.length = ρ.length := by rw [l.s, ← l.r]
  unfold evLlV at qq
  split at qq
  · rename_i xs hx
    have hx := llD_inv hx
    have hi := (List.getElem?_eq_some_iff.mp hx).1
    have hσ : i < σ.length := by rw [hl]; exact hi
    have ht : (Pl.mk i none).take ρ = .ok (.box (.lst xs), ρ.set i .un) := by
      unfold Pl.take
      simp only [hx]
    have s1 := Pl.take_sep (A := []) ht (List.getElem?_eq_getElem hσ) s
    obtain ⟨F', v, ev, hf, s2, qv⟩ := s1.llFreeze
    refine ⟨v, by rw [List.getElem?_eq_getElem hσ, ev], ?_⟩
    have s3 := (s2.push qv).setSlot (ρ := ρ.set i .un) (σ := σ) (i := i) (s := .fz (.lst xs)) (o := some v) (by rw [List.length_set]; exact hi) hσ
    rw [List.set_set] at s3
    have hs : σ.set i (some v) = σ := by rw [← ev]; exact List.set_getElem_self hσ
    rw [hs] at s3
    exact PQ.fz qq _ _ _ s3 qv
  · exact qq.elim
end
section
variable {nm : Nm} {E : Wo} {k : Nat} {sui : Option Nat} {io : List Nat} {fx : List (Nat × V)} {q : En} {sc : Scope} {fnb : Str → Bool} {X : Cx} {W : WX}
theorem all_ok (G : Good nm E k sui io fx q sc fnb X) {c : P → Expr → Bool} {b l : Bool} (h : ∀ p e, c p e = true → PE X e (TV (cn E X fx q W) false p)) : ∀ {as : List P} {es : List Expr}, cmAll (plE X.N sc) c b l as es = true → PEs X (tA (cn E X fx q W)) as es ∧ (l = false → noIo as = true) ∧ (b = false → noBor as = true) ∧ (b = false → l = false → allVal as = true)
  | [], [], _ => ⟨True.intro, fun _ => rfl, fun _ => rfl, fun _ _ => rfl⟩
  | [], _ :: _, h => by cases h
  | _ :: _, [], h => by cases h
  | a :: as, e :: es, hq => by
    simp only [cmAll, Bool.and_eq_true] at hq
    obtain ⟨h1, h2⟩ := hq
    obtain ⟨i1, i2, i3, i4⟩ := all_ok G h h2
    cases hk : a.kd with
    | val =>
      rw [hk] at h1
      refine ⟨⟨by rw [tAV hk]; exact h a e h1, i1⟩, fun z => ?_, fun z => ?_, fun z z2 => ?_⟩
      · have := i2 z; cases a <;> first | exact this | cases hk
      · have := i3 z; cases a <;> first | exact this | cases hk
      · have := i4 z z2; cases a <;> first | exact this | cases hk
    | bor p =>
      obtain rfl := kd_bor hk
      simp only [P.kd, Bool.and_eq_true] at h1
      refine ⟨⟨plE_pe G h1.2, i1⟩, i2, fun z => ?_, fun z z2 => ?_⟩
      · rw [z] at h1; cases h1.1
      · rw [z] at h1; cases h1.1
    | io p =>
      obtain rfl := kd_io hk
      simp only [P.kd, Bool.and_eq_true] at h1
      refine ⟨⟨plE_pe G h1.2, i1⟩, fun z => ?_, i3, fun z z2 => ?_⟩
      · rw [z] at h1; cases h1.1
      · rw [z2] at h1; cases h1.1
theorem noIoBor : ∀ {as : List P}, noIo as = true → noBor as = true → allVal as = true
  | [], _, _ => rfl
  | a :: as, h1, h2 => by
    cases a <;> first | cases h1 | cases h2 | exact noIoBor (as := as) h1 h2
theorem AT_two {a c : P} {d e : D} {v w : V} (h : allVal [a, c] = true) : AT [a, c] [d, e] [v, w] = [(.fz d, some v), (.fz e, some w)] := by
  have h1 : a.kd = .val := by cases a <;> first | rfl | cases h
  have h2 : c.kd = .val := by cases a <;> cases c <;> first | rfl | cases h
  simp [AT, h1, h2]
theorem zip_ok {as : List P} {x y : Expr} {fp pos : Pos} {tg : Expr} (G : Good nm E k sui io fx q sc fnb X) (gl : Gl X "zip") (hm : X.mg "zip" = none) (pa : PA X [x, y] (TAs (cn E X fx q W) as))
    (hpl : (backTo pos (starEach [y] X.env)).any (·.1) = false) (hs : starEach [x, y] X.env = (false, eval x X.env) :: starEach [y] X.env) (hs2 : starEach [y] X.env = (false, eval y X.env) :: starEach [] X.env) (hv : allVal as = true) (hz : zipTg (.op .zip2 as) tg = true) :
    PI X tg (.Call (.Name "zip" fp) [x, y] [] pos) (TI' (cn E X fx q W) (.op .zip2 as)) := by
  cases tg <;> first | cases hz | skip
  refine pi_imp (pi_zipM gl hm pa hs hpl) fun σ H R0 h => ?_
  obtain ⟨ρ, F, rest, l, s, qq⟩ := h
  unfold evI at qq
  rw [evP, EQ.bind, EQ.bind] at qq
  refine ⟨ρ, F, rest, l, s, qq.imp fun ds ρ1 eds qq vs H1 F1 s1 lay => ?_⟩
  obtain ⟨d, ed, qa⟩ := qq.at
  clear qq
  rw [EQ.bind] at qa
  obtain ⟨zs, exs, qb⟩ := qa.at
  clear qa
  replace ed : evZip ds = .ok d := ed
  have vl := lay.vals hv s1
  obtain ⟨hl1, hl2⟩ := lay.lens
  have qc : ∀ J H' F' ex, Sep (wd E X) H' F' (LT none σ ++ (ex ++ (zp ρ1 σ ++ rest))) → Walks (wd E X) J (LT none σ ++ ex) zs → R0 J H' := qb
  unfold evZip at ed
  split at ed
  · rename_i xs ys
    cases ed
    cases exs
    unfold ValL at vl
    obtain ⟨v, r, rfl, vx, vl⟩ := vl
    unfold ValL at vl
    obtain ⟨w, r, rfl, vy, vl⟩ := vl
    unfold ValL at vl
    subst vl
    obtain ⟨a, us, rfl, t1, _⟩ := vx.bor.tup
    obtain ⟨b, ws, rfl, t2, _⟩ := vy.bor.tup
    match as, hv, hl1, s1 with
    | [p1, p2], hv, _, s1 =>
      rw [AT_two hv] at s1
      exact ⟨a, b, us, ws, rfl, .inr (.inl ⟨t1, t2, qc _ H1 F1 [(.fz (.tup xs), some (.ref a)), (.fz (.tup ys), some (.ref b))] s1 (walks_zipT (by simp [LT]) (by simp [LT]))⟩)⟩
  · rename_i xs ys
    cases ed
    cases exs
    unfold ValL at vl
    obtain ⟨v, r, rfl, vx, vl⟩ := vl
    unfold ValL at vl
    obtain ⟨w, r, rfl, vy, vl⟩ := vl
    unfold ValL at vl
    subst vl
    obtain ⟨a, us, rfl, t1, _⟩ := vx.bor.lst
    obtain ⟨b, ws, rfl, t2, _⟩ := vy.bor.lst
    match as, hv, hl1, s1 with
    | [p1, p2], hv, _, s1 =>
      rw [AT_two hv] at s1
      exact ⟨a, b, us, ws, rfl, .inl ⟨.inl t1, .inl t2, qc _ H1 F1 [(.fz (.lst xs), some (.ref a)), (.fz (.lst ys), some (.ref b))] s1 (walks_zipL (by simp [LT]) (by simp [LT]))⟩⟩
  · rename_i xs ys
    cases ed
    cases exs
    unfold ValL at vl
    obtain ⟨v, r, rfl, vx, vl⟩ := vl
    unfold ValL at vl
    obtain ⟨w, r, rfl, vy, vl⟩ := vl
    unfold ValL at vl
    subst vl
    obtain ⟨a, us, rfl, t1, _⟩ := vx.bor.tup
    obtain ⟨b, ws, rfl, t2, _⟩ := vy.bor.lst
    match as, hv, hl1, s1 with
    | [p1, p2], hv, _, s1 =>
      rw [AT_two hv] at s1
      exact ⟨a, b, us, ws, rfl, .inr (.inr ⟨t1, .inl t2, qc _ H1 F1 [(.fz (.tup xs), some (.ref a)), (.fz (.lst ys), some (.ref b))] s1 (walks_zipM (by simp [LT]) (by simp [LT]))⟩)⟩
  · cases ed
theorem isNew_eq (p : P) : isNew p = fresh p := by
  cases p with
  | op r as => cases r <;> rfl
  | _ => rfl
def Snd (C : Cn) (X : Cx) (m : Md) (p : P) (e : Expr) : Prop := match m with
  | .val => ∀ o, (o = true → fresh p = true) → PE X e (TV C o p)
  | .tst => PT X e (TT' C p)
  | .itr => ∀ tg, zipTg p tg = true → PI X tg e (TI' C p)
theorem Good.blk (G : Good nm E k sui io fx q sc fnb X) (hs : sui = none) {scope : Scope} (hk : scope.kind = ScopeKind.function) (s : Shared) (H : Hp) (Cd : Addr) (cl : List (Str × Addr)) (fp : List Addr) :
    Good nm E k sui io fx q (relS scope sc) (fun x => scope.names.lookup x == some .cell) (X.blk s H scope (compEnvC scope cl Cd X.env) fp) :=
  ⟨G.nd, by rw [← G.hsc]; rfl, hk, G.fxio, G.calm, G.room, G.un, fun x h => h, G.fn, G.fnT, G.blt, G.cst, G.cls, fun c x h => ⟨(G.rai c x h).ex⟩, G.fv, G.fp, G.row, G.sub, fun k2 hk => by
    obtain ⟨_, _, _, _, _, i, e, _⟩ := G.hx k2 hk
    rw [hs] at e; cases e⟩
theorem snd : ∀ (n : Nat) {sc : Scope} {fnb : Str → Bool} {X : Cx} {W : WX} {m : Md} {p : P} {e : Expr}, Good nm E k sui io fx q sc fnb X → Takes X W → cmP nm X.N io sui n sc m p e = true → Snd (cn E X fx q W) X m p e
  | 0, _, _, _, _, _, _, _, _, _, h => by cases h
  | n + 1, sc, fnb, X, W, m, p, e, G, tk, h => by
    have cv : ∀ p e, cmP nm X.N io sui n sc .val p e = true → PE X e (TV (cn E X fx q W) false p) := fun p e h => snd n (m := .val) G tk h false (fun z => by cases z)
    -- values, first
    have val : ∀ {p : P} {e : Expr}, cmP nm X.N io sui (n + 1) sc .val p e = true → ∀ o, (o = true → fresh p = true) → PE X e (TV (cn E X fx q W) o p) := by
      intro p e h o ho
      have nofresh : ∀ {t : Bool → TE}, fresh p = false → PE X e (t false) → PE X e (t o) := fun {t} hf h => by
        cases o with
        | false => exact h
        | true => rw [ho rfl] at hf; cases hf
      cases p with
      | cst d =>
        refine nofresh (t := fun o => TV (cn E X fx q W) o (.cst d)) rfl ?_
        simp only [cmP] at h
        split at h
        · rename_i c j pos
          split at h
          · rename_i d' hd
            obtain rfl := D.eq_of_beq h
            have fin : ∀ {v : V}, (∀ H F, Val (wd E X) H F d v) → PE X (.Constant c j pos) (tC v) → PE X (.Constant c j pos) (TV (cn E X fx q W) false (.cst d)) := fun hv hp => pe_imp hp fun σ H Q h => by
              obtain ⟨ρ, F, rest, l, s, q⟩ := h
              rw [evP] at q
              exact PQ.fz q _ _ _ s (hv H F)
            cases c <;> simp only [constD, Option.some.injEq, reduceCtorEq] at hd <;> subst hd
            · exact fin (v := .non) (fun _ _ => val_non) pe_non
            · exact fin (v := .bl _) (fun _ _ => val_bl) pe_bl
            · exact fin (v := .int _) (fun _ _ => val_int) pe_int
            · exact fin (v := .str _) (fun _ _ => val_str) pe_str
          · cases h
        · rename_i x pos
          simp only [Bool.and_eq_true] at h
          obtain ⟨h1, h2⟩ := h
          split at h2
          · rename_i d' hd
            obtain rfl := D.eq_of_beq h2
            obtain ⟨gl, gd⟩ := isGl_gl G h1
            obtain ⟨u, v, hm, rv, hv⟩ := G.cst x d hd
            refine pe_imp (pe_glob gl hm rv gd) fun σ H Q h => ?_
            obtain ⟨ρ, F, rest, l, s, q⟩ := h
            rw [evP] at q
            exact PQ.fz q _ _ _ s (hv H F)
          · cases h2
        · cases h
      | var i =>
        refine nofresh (t := fun o => TV (cn E X fx q W) o (.var i)) rfl ?_
        simp only [cmP] at h
        split at h
        · rename_i x pos
          obtain ⟨h1, h2, h3, h4⟩ := isVis_vis G h
          refine pe_imp (pe_var h1 h2 h3 h4) fun σ H Q h => ?_
          obtain ⟨ρ, F, rest, l, s, q⟩ := h
          have own : ∀ {d : D}, isCon d = true → ρ[i]? = some (.own d) → PQ false (wd E X) (zp (ρ.set i (.fz d)) σ ++ rest) d Q → ∃ v, σ[i]? = some (some v) ∧ Q v H := fun {d} hcon hd q => by
            have hi := (List.getElem?_eq_some_iff.mp hd).1
            have hσ : i < σ.length := by rw [l.s, ← l.r]; exact hi
            have ht : (Pl.mk i none).take ρ = .ok (d, ρ.set i .un) := by
              unfold Pl.take
              simp only [hd]
            have s1 := Pl.take_sep (A := []) ht (List.getElem?_eq_getElem hσ) s
            obtain ⟨F', v, ev, _, s2, qv⟩ := Sep.freeze s1 hcon
            refine ⟨v, by rw [List.getElem?_eq_getElem hσ, ev], ?_⟩
            have s3 := (s2.push qv).setSlot (ρ := ρ.set i .un) (σ := σ) (i := i) (s := .fz d) (o := some v) (by rw [List.length_set]; exact hi) hσ
            rw [List.set_set] at s3
            have hs : σ.set i (some v) = σ := by rw [← ev]; exact List.set_getElem_self hσ
            rw [hs] at s3
            exact PQ.fz q _ _ _ s3 qv
          rw [evP] at q
          unfold readV at q
          split at q
          · rename_i d hd
            have hi := (List.getElem?_eq_some_iff.mp hd).1
            have hσ : i < σ.length := by rw [l.s, ← l.r]; exact hi
            have m := zp_mem hd (List.getElem?_eq_getElem hσ)
            obtain ⟨v, e, qv⟩ := s.mem_val (List.mem_append_left _ m)
            refine ⟨v, ?_, PQ.fz q v H F s qv⟩
            rw [List.getElem?_eq_getElem hσ, e]
          · rename_i xs hd
            exact own rfl hd q
          · rename_i t ks vs hd
            exact own rfl hd q
          · exact q.elim
        · cases h
      | bor p => simp only [cmP] at h; cases h
      | io p => simp only [cmP] at h; cases h
      | ent a =>
        refine nofresh (t := fun o => TV (cn E X fx q W) o (.ent a)) rfl ?_
        simp only [cmP] at h
        exact pe_imp (cv a e h) fun σ H Q h => h.ofEnt
      | op r as =>
        simp only [cmP] at h
        split at h
        · rename_i es hes
          simp only [Bool.and_eq_true, Bool.not_eq_true'] at h
          obtain ⟨⟨h1, h2⟩, h3⟩ := h
          obtain ⟨i1, i2, i3, i4⟩ := all_ok G cv h3
          have ho' : o = true → r ≠ .idx ∧ r ≠ .dget := fun z => ⟨(fun e => by subst e; cases ho z), (fun e => by subst e; cases ho z)⟩
          exact op_ok G ho' hes h1 (i2 rfl) h2 (fun z => i4 (by rw [z]; rfl) rfl) i1
        · cases h
      | call f as =>
        refine nofresh (t := fun o => TV (cn E X fx q W) o (.call f as)) rfl ?_
        simp only [cmP] at h
        split at h
        · rename_i x p es pos
          simp only [Bool.and_eq_true, decide_eq_true_eq, Option.isNone_iff_eq_none] at h
          obtain ⟨⟨⟨⟨⟨h0, h1⟩, h1b⟩, h2⟩, h3⟩, h4⟩ := h
          obtain ⟨gl, gd⟩ := isGl_gl G h2
          obtain ⟨fa, fd, ps, FO, hm, hk, hb⟩ := G.fn h0 f x _ h1 h1b
          obtain ⟨pes, i2, i3, i4⟩ := all_ok G cv h4
          have hnb := i3 rfl
          cases es with
          | nil =>
            cases as with
            | cons _ _ => cases h4
            | nil => exact pe_imp (pe_call0S FO (G.room h0) gl hm hk hb (fun σ => passAt tk σ) gd) fun σ H Q h => (h.callA hnb).nil
          | cons e es =>
            have h3' := h3
            simp only [List.all_cons, Bool.and_eq_true] at h3
            exact pe_imp (pe_callS FO (G.room h0) gl hm hk hb (fun σ => passAt tk σ) (PEs.pa pes h3') gd (star_cons h3.1) (star_plain h3.2)) fun σ H Q h => h.callA hnb
        · cases h
      | callT f l as =>
        refine nofresh (t := fun o => TV (cn E X fx q W) o (.callT f l as)) rfl ?_
        simp only [cmP] at h
        split at h
        · rename_i x p e0 es pos
          simp only [Bool.and_eq_true, decide_eq_true_eq, Option.isNone_iff_eq_none] at h
          obtain ⟨⟨⟨⟨⟨⟨⟨h0, h1⟩, h1b⟩, h2⟩, h3⟩, hnw⟩, hl⟩, h4⟩ := h
          obtain ⟨gl, gd⟩ := isGl_gl G h2
          obtain ⟨fa, fd, ps, FO, hm, hk, hb⟩ := G.fn h0 f x _ h1 h1b
          obtain ⟨pes, i2, i3, i4⟩ := all_ok G cv h4
          have h3' := h3
          simp only [List.all_cons, Bool.and_eq_true] at h3
          have hL : PE X e0 (TV (cn E X fx q W) true l) := snd n (m := .val) G tk hl true (fun _ => (isNew_eq l).symm.trans hnw)
          exact pe_imp (pe_callS FO (G.room h0) gl hm hk hb (fun σ => passAt tk σ) (pa_cons hL (PEs.pa pes h3.2) (star_cons h3.1)) gd (star_cons h3.1) (star_plain h3.2)) fun σ H Q h => h.callTmp (o := false) (i3 rfl) (i2 rfl)
        · cases h
      | fnv f =>
        refine nofresh (t := fun o => TV (cn E X fx q W) o (.fnv f)) rfl ?_
        simp only [cmP] at h
        split at h
        · rename_i x pos
          simp only [Bool.and_eq_true, decide_eq_true_eq, Bool.not_eq_true'] at h
          obtain ⟨gl, gd⟩ := isGl_gl G h.1.1
          obtain ⟨a, e1, e2⟩ := G.fv f x h.1.2 h.2
          refine pe_imp (pe_glob (v := .ref a) gl e2 rfl gd) fun σ H Q h => ?_
          obtain ⟨ρ, F, rest, l, s, q⟩ := h
          rw [evP] at q
          exact PQ.fz q _ _ _ s (by unfold Val; exact ⟨a, e1, rfl⟩)
        · cases h
      | callV i gs as =>
        refine nofresh (t := fun o => TV (cn E X fx q W) o (.callV i gs as)) rfl ?_
        simp only [cmP] at h
        split at h
        · rename_i x p e0 es pos
          simp only [Bool.and_eq_true, Option.isNone_iff_eq_none] at h
          obtain ⟨⟨⟨⟨h0, h1⟩, h2⟩, h3⟩, h4⟩ := h
          obtain ⟨v1, v2, v3, v4⟩ := isVis_vis G h1
          obtain ⟨pes, i2, i3, i4⟩ := all_ok G cv h4
          have h2' := h2
          simp only [List.all_cons, Bool.and_eq_true] at h2
          exact pe_imp (pe_callVS (k := k) (CX := L2.CX X.prog X.w) (E := WE W) (G.room h0) v1 v2 (fun σ => passAt tk σ) (PEs.pa pes h2') v3 v4 (star_cons h2.1) (star_plain h2.2)) fun σ H Q h => TV.callVV G h0 h3 (i3 rfl) (i2 rfl) h
        · cases h
      | callU f as l bs =>
        refine nofresh (t := fun o => TV (cn E X fx q W) o (.callU f as l bs)) rfl ?_
        simp only [cmP] at h
        split at h
        · rename_i x p e0 es pos
          split at h
          · rename_i es1 e1 es2 hcut
            simp only [Bool.and_eq_true, decide_eq_true_eq, Option.isNone_iff_eq_none] at h
            obtain ⟨⟨⟨⟨⟨⟨⟨⟨h0, h1⟩, h1b⟩, h2⟩, h3⟩, hnw⟩, h4⟩, hl⟩, h5⟩ := h
            obtain ⟨gl, gd⟩ := isGl_gl G h2
            obtain ⟨fa, fd, ps, FO, hm, hk, hb⟩ := G.fn h0 f x _ h1 h1b
            obtain ⟨pes, i2, i3, i4⟩ := all_ok G cv h4
            obtain ⟨pes5, j2, j3, j4⟩ := all_ok G cv h5
            have hL : PE X e1 (TV (cn E X fx q W) true l) := snd n (m := .val) G tk hl true (fun _ => (isNew_eq l).symm.trans hnw)
            have h3' := h3
            simp only [List.all_cons, Bool.and_eq_true] at h3
            exact pe_imp (pe_callS FO (G.room h0) gl hm hk hb (fun σ => passAt tk σ) (pa_cut hcut h3' pes hL pes5) gd (star_cons h3.1) (star_plain h3.2)) fun σ H Q h => h.callUU (i3 rfl) (i2 rfl) (j3 rfl) (j2 rfl)
          · cases h
        · cases h
      | rput pl e =>
        refine nofresh (t := fun o => TV (cn E X fx q W) o (.rput pl e)) rfl ?_
        simp only [cmP] at h
        split at h
        · rename_i x xp w ap y pos
          simp only [Bool.and_eq_true, decide_eq_true_eq, Option.isNone_iff_eq_none] at h
          obtain ⟨⟨⟨⟨⟨⟨h0, h1⟩, h2⟩, h3⟩, h4⟩, h5⟩, h6⟩ := h
          subst h1
          exact rput_ok G h0 h2 h3 h4 (plE_pe G h5) (cv _ _ h6)
        · cases h
      | llG a b c =>
        refine nofresh (t := fun o => TV (cn E X fx q W) o (.llG a b c)) rfl ?_
        simp only [cmP] at h
        split at h
        · rename_i x p1 y p2 p3 z p4 p5
          simp only [Bool.and_eq_true] at h
          obtain ⟨⟨h1, h2⟩, h3⟩ := h
          obtain ⟨a1, a2, a3, a4⟩ := isVis_vis G h1
          obtain ⟨b1, b2, b3, b4⟩ := isVis_vis G h2
          obtain ⟨c1, c2, c3, c4⟩ := isVis_vis G h3
          exact pe_imp (pe_ix ix_list (pe_ix ix_list (show PE X _ (tPl ⟨a, none⟩) from pe_var a1 a2 a3 a4) (show PE X _ (tPl ⟨b, none⟩) from pe_var b1 b2 b3 b4) (fun _ _ => rfl)) (show PE X _ (tPl ⟨c, none⟩) from pe_var c1 c2 c3 c4) (fun _ _ => rfl)) fun σ H Q h => llG_t h
        · cases h
      | llV a =>
        refine nofresh (t := fun o => TV (cn E X fx q W) o (.llV a)) rfl ?_
        simp only [cmP] at h
        split at h
        · rename_i x p1
          obtain ⟨a1, a2, a3, a4⟩ := isVis_vis G h
          exact pe_imp (show PE X _ (tPl ⟨a, none⟩) from pe_var a1 a2 a3 a4) fun σ H Q h => llV_t h
        · cases h
      | rep p y z y2 z2 =>
        refine nofresh (t := fun o => TV (cn E X fx q W) o (.rep p y z y2 z2)) rfl ?_
        simp only [cmP] at h
        split at h
        · rename_i c' a c j0 cp m0 ap0 x pos0 m1 ap1 a1 j1 c1 b1 j2 c2 pos1 m2 ap2 a2 j3 c3 b2 j4 c4 pos2
          simp only [Bool.and_eq_true, decide_eq_true_eq, Bool.not_eq_true'] at h
          obtain ⟨⟨⟨⟨⟨⟨⟨⟨⟨⟨⟨⟨⟨⟨⟨k1, k2⟩, k3⟩, k4⟩, k5⟩, k6⟩, k7⟩, k8⟩, k9⟩, k10⟩, k11⟩, k12⟩, k13⟩, k14⟩, k15⟩, k16⟩ := h
          subst k1 k2 k3 k4 k5 k6 k7 k8
          have hk : a.kd = .val := by split at k15 <;> first | assumption | cases k15
          exact pe_imp (ptk_rep (ptk_rep (join_T hk k14 k11 (by rw [tAV hk]; exact cv _ _ k16)) k9 (by rfl) (by rfl) k12) k10 (by rfl) (by rfl) k13).pe fun σ H Q h => TV.rep k9 k10 h
        · cases h
      | rtold pl =>
        refine nofresh (t := fun o => TV (cn E X fx q W) o (.rtold pl)) rfl ?_
        simp only [cmP] at h
        split at h
        · rename_i x xp w ap pos
          simp only [Bool.and_eq_true, decide_eq_true_eq, Option.isNone_iff_eq_none] at h
          obtain ⟨⟨⟨⟨h0, h1⟩, h2⟩, h4⟩, h5⟩ := h
          subst h1
          exact rtold_ok G h0 h2 h4 (plE_pe G h5)
        · cases h
      | and a c =>
        refine nofresh (t := fun o => TV (cn E X fx q W) o (.and a c)) rfl ?_
        simp only [cmP] at h
        split at h
        · rename_i x y es pos
          simp only [Bool.and_eq_true] at h
          have ha := cv _ _ h.1
          have hc := cv _ _ h.2
          cases es with
          | nil => exact pe_imp (pe_and ha (pe_one hc)) fun σ H Q h => h.andV
          | cons z es => exact pe_imp (pe_and ha hc) fun σ H Q h => h.andV
        · cases h
      | or a c =>
        refine nofresh (t := fun o => TV (cn E X fx q W) o (.or a c)) rfl ?_
        simp only [cmP] at h
        split at h
        · rename_i x y es pos
          simp only [Bool.and_eq_true] at h
          have ha := cv _ _ h.1
          have hc := cv _ _ h.2
          cases es with
          | nil => exact pe_imp (pe_or ha (pe_one hc)) fun σ H Q h => h.orV
          | cons z es => exact pe_imp (pe_or ha hc) fun σ H Q h => h.orV
        · cases h
      | not a =>
        refine nofresh (t := fun o => TV (cn E X fx q W) o (.not a)) rfl ?_
        simp only [cmP] at h
        split at h
        · exact pe_imp (pe_not (cv _ _ h)) fun σ H Q h => h.notV
        · cases h
      | ite c a b =>
        refine nofresh (t := fun o => TV (cn E X fx q W) o (.ite c a b)) rfl ?_
        simp only [cmP] at h
        split at h
        · simp only [Bool.and_eq_true] at h
          have ht : PT X _ (TT' (cn E X fx q W) c) := snd n (m := .tst) G tk h.1.1
          exact pe_imp (pe_ifExp ht (cv _ _ h.1.2) (cv _ _ h.2)) fun σ H Q h => h.iteV
        · cases h
      | chain r r' a b c =>
        refine nofresh (t := fun o => TV (cn E X fx q W) o (.chain r r' a b c)) rfl ?_
        simp only [cmP] at h
        split at h
        · simp only [Bool.and_eq_true] at h
          obtain ⟨⟨⟨⟨⟨h1, h2⟩, h3⟩, h4⟩, h5⟩, h6⟩ := h
          split at h1
          · rename_i p1 hp1
            split at h2
            · rename_i p2 hp2
              obtain rfl := primEq_eq h1
              obtain rfl := primEq_eq h2
              exact pe_imp (pe_chain (cmpO_ok (o := false) G.un hp1) (cmpO_ok (o := false) G.un hp2) (cv _ _ h4) (cv _ _ h5) (cv _ _ h6) (lastM h3)) fun σ H Q h => h.chainV
            · cases h2
          · cases h1
        · cases h
      | met mm a as =>
        refine nofresh (t := fun o => TV (cn E X fx q W) o (.met mm a as)) rfl ?_
        simp only [cmP] at h
        split at h
        · simp only [Bool.and_eq_true, decide_eq_true_eq] at h
          obtain ⟨⟨⟨⟨⟨⟨h1, h2⟩, h3⟩, h4⟩, h5⟩, h6⟩, h7⟩ := h
          subst h1
          obtain ⟨pes, i2, i3, i4⟩ := all_ok G cv h6
          have hr : noIo [a] = true := by cases a <;> first | rfl | cases h5
          refine met_ok G h2 h3 h4 h7 hr (i2 rfl) ?_ pes
          cases hk : a.kd with
          | val => rw [hk] at h5; rw [tAV hk]; exact cv _ _ h5
          | bor p => obtain rfl := kd_bor hk; exact plE_pe G h5
          | io p => obtain rfl := kd_io hk; cases hr
        · cases h
      | «mut» mm pl as =>
        refine nofresh (t := fun o => TV (cn E X fx q W) o (.mut mm pl as)) rfl ?_
        simp only [cmP] at h
        split at h
        · simp only [Bool.and_eq_true, decide_eq_true_eq] at h
          obtain ⟨⟨⟨⟨⟨⟨h1, h2⟩, h3⟩, h4⟩, h5⟩, h6⟩, h7⟩ := h
          subst h1
          obtain ⟨pes, i2, i3, i4⟩ := all_ok G cv h6
          exact mut_ok h2 h3 h4 h7 (i4 rfl rfl) (plE_pe G h5) pes
        · cases h
      | dnew t =>
        simp only [cmP] at h
        split at h
        · simp only [Bool.or_eq_true, beq_iff_eq] at h
          rcases h with (rfl | rfl) | rfl
          · refine pe_imp pe_dnewK fun σ H Q h => ?_
            obtain ⟨ρ, F, rest, l, s, q⟩ := h
            rw [evP] at q
            exact PQ.dnew0 (o := o) q s
          · refine pe_imp pe_dnewT fun σ H Q h => ?_
            obtain ⟨ρ, F, rest, l, s, q⟩ := h
            rw [evP] at q
            exact PQ.dnew1 (o := o) q s
          · refine pe_imp pe_dnewN fun σ H Q h => ?_
            obtain ⟨ρ, F, rest, l, s, q⟩ := h
            rw [evP] at q
            exact PQ.dnew2 (o := o) q s
        · cases h
      | comp elt tg it cond =>
        simp only [cmP] at h
        split at h
        · rename_i e t i ifs scope pos
          simp only [Bool.and_eq_true, decide_eq_true_eq, Option.isNone_iff_eq_none] at h
          obtain ⟨⟨⟨⟨⟨⟨⟨h0, h1⟩, h2⟩, h3⟩, h4⟩, h5, hz⟩, h6⟩, h7⟩ := h
          have hI : PI X t i (TI' (cn E X fx q W) it) := snd n (m := .itr) G tk h5 t hz
          have hB : BlkOk X.N X.env.scope scope (ownN tg t) := by rw [G.hsc]; exact blkOk_by h1
          have hkind : scope.kind = ScopeKind.function := by
            unfold blkC at h1
            simp only [Bool.and_eq_true] at h1
            have := h1.1.1.1
            split at this
            · assumption
            · cases this
          obtain ⟨hi, hf⟩ := tg_slots G.fxio h2
          have hg : ∀ (s : Shared) (H : Hp) (Cd : Addr) (cl : List (Str × Addr)) (fp : List Addr), PG (X.blk s H scope (compEnvC scope cl Cd X.env) fp) t (gT X.K tg) := fun s H Cd cl fp => (pg_ok (G.blk h0 hkind (scope := scope) s H Cd cl fp) h2).1
          have he : ∀ (s : Shared) (H : Hp) (Cd : Addr) (cl : List (Str × Addr)) (fp : List Addr), PE (X.blk s H scope (compEnvC scope cl Cd X.env) fp) e (TV (cn E X fx q W0) false elt) := fun (s : Shared) (H : Hp) (Cd : Addr) (cl : List (Str × Addr)) (fp : List Addr) => snd n (m := .val) (W := W0) (X := X.blk s H scope (compEnvC scope cl Cd X.env) fp) (G.blk h0 hkind (scope := scope) s H Cd cl fp) takes0 h6 false (fun z => by cases z)
          have ht : ∀ (s : Shared) (H : Hp) (Cd : Addr) (cl : List (Str × Addr)) (fp : List Addr), PTs (X.blk s H scope (compEnvC scope cl Cd X.env) fp) ifs (ttC (cn E X fx q W0) cond) := by
            intro s H Cd cl fp
            split at h7
            · exact pts_nil
            · exact pts_one (snd n (m := .tst) (W := W0) (X := X.blk s H scope (compEnvC scope cl Cd X.env) fp) (G.blk h0 hkind (scope := scope) s H Cd cl fp) takes0 h7)
            · cases h7
          refine pe_imp (pe_lc (G.calm h0) G.nd hI hB hg ht he (notSet_it h4)) fun σ H Q h => ?_
          rw [h3]
          exact comp_t hi hf h
        · cases h
      | xis i c =>
        simp only [cmP] at h
        split at h
        · simp only [Bool.and_eq_true, decide_eq_true_eq] at h
          obtain ⟨⟨⟨⟨⟨h1, h2⟩, h3⟩, h4⟩, h5⟩, h6⟩ := h
          split at h6
          · rename_i z b hz
            exact xis_ok G h1 h2 h3 h4 h5 hz (of_decide_eq_true h6)
          · cases h6
        · cases h
    cases m with
    | val => exact val h
    | itr =>
      intro tg hzt
      have gen : cmP nm X.N io sui (n + 1) sc .itr p e = true → p.kd = .val → PI X tg e (TI' (cn E X fx q W) p) := by
        intro h hk
        have h' : (match argsRng sc p e with
          | some (as, es) => cmAll (plE X.N sc) (cmP nm X.N io sui n sc .val) true false as es
          | none => match argsZip sc p e with
            | some (as, es) => cmAll (plE X.N sc) (cmP nm X.N io sui n sc .val) false false as es
            | none => notSet e && cmP nm X.N io sui n sc .val p e) = true := by
          cases p <;> first | exact h | cases hk
        clear h
        split at h'
        · rename_i as es hr
          obtain ⟨pes, i2, i3, i4⟩ := all_ok G cv h'
          have hn := i2 rfl
          unfold argsRng at hr
          split at hr
          · split at hr
            · rename_i hc
              cases hr
              simp only [Bool.and_eq_true, decide_eq_true_eq] at hc
              obtain ⟨⟨h1, h2⟩, h3⟩ := hc
              subst h1
              obtain ⟨gl, gd⟩ := isGl_gl G h2
              refine pi_imp (pi_range1 gl (G.blt _ (by decide +kernel)) (PEs.pa pes (by simp [h3])) (star_cons h3)) fun σ H R0 h => ?_
              obtain ⟨ρ, F, rest, l, s, qq⟩ := h
              unfold evI at qq
              rw [evP, EQ.bind, EQ.bind] at qq
              refine ⟨ρ, F, rest, l, s, qq.imp fun ds ρ1 eds qq vs H1 F1 s1 lay => ?_⟩
              obtain ⟨d, ed, qa⟩ := qq.at
              clear qq
              rw [EQ.bind] at qa
              obtain ⟨xs, exs, qb⟩ := qa.at
              clear qa
              replace ed : evRng1 ds = .ok d := ed
              unfold evRng1 at ed
              split at ed
              · rename_i b
                obtain ⟨hb, rfl⟩ := okIf_ok ed
                cases exs
                obtain ⟨v, rfl, bv⟩ := (lay.bors hn s1).b1
                cases bv.int
                unfold in62 at hb
                simp only [Bool.and_eq_true, decide_eq_true_eq] at hb
                refine ⟨b, rfl, hb.1, hb.2, ?_⟩
                have qc : ∀ J H' F' ex, Sep (wd E X) H' F' (LT none σ ++ (ex ++ (zp ρ1 σ ++ rest))) → Walks (wd E X) J (LT none σ ++ ex) (rngD 0 b) → R0 J H' := qb
                have := qc (Itr 0 b.toNat) H1 F1 [] s1.right (by have := walks_rng (K := wd E X) (a := 0) (b := b) (need := LT none σ ++ []); simpa using this)
                exact this
              · cases ed
            · cases hr
          · split at hr
            · rename_i hc
              cases hr
              simp only [Bool.and_eq_true, decide_eq_true_eq] at hc
              obtain ⟨⟨⟨h1, h2⟩, h3⟩, h3'⟩ := hc
              subst h1
              obtain ⟨gl, gd⟩ := isGl_gl G h2
              refine pi_imp (pi_range2 gl (G.blt _ (by decide +kernel)) (PEs.pa pes (by simp [h3, h3'])) (by rw [star_cons h3, star_cons h3']; rfl) (star_cons h3')) fun σ H R0 h => ?_
              obtain ⟨ρ, F, rest, l, s, qq⟩ := h
              unfold evI at qq
              rw [evP, EQ.bind, EQ.bind] at qq
              refine ⟨ρ, F, rest, l, s, qq.imp fun ds ρ1 eds qq vs H1 F1 s1 lay => ?_⟩
              obtain ⟨d, ed, qa⟩ := qq.at
              clear qq
              rw [EQ.bind] at qa
              obtain ⟨xs, exs, qb⟩ := qa.at
              clear qa
              obtain ⟨a, b, rfl, ed⟩ := evInt2_ok (show evInt2 (fun a b => okIf (in62 a && in62 b) (.lst (rngD a b))) ds = .ok d from ed)
              obtain ⟨hb, rfl⟩ := okIf_ok ed
              cases exs
              obtain ⟨v, w, rfl, bv, bw⟩ := (lay.bors hn s1).b2
              cases bv.int
              cases bw.int
              unfold in62 at hb
              simp only [Bool.and_eq_true, decide_eq_true_eq] at hb
              refine ⟨a, b, rfl, ⟨hb.1.1, hb.1.2, hb.2.1, hb.2.2⟩, ?_⟩
              have qc : ∀ J H' F' ex, Sep (wd E X) H' F' (LT none σ ++ (ex ++ (zp ρ1 σ ++ rest))) → Walks (wd E X) J (LT none σ ++ ex) (rngD a b) → R0 J H' := qb
              exact qc (Itr a (b - a).toNat) H1 F1 [] s1.right walks_rng
            · cases hr
          · cases hr
        · split at h'
          · rename_i as es hr
            obtain ⟨pes, i2, i3, i4⟩ := all_ok G cv h'
            unfold argsZip at hr
            split at hr
            · rename_i f fp x y zp_
              split at hr
              · rename_i hc
                cases hr
                simp only [Bool.and_eq_true, decide_eq_true_eq] at hc
                obtain ⟨⟨⟨h1, h2⟩, h3⟩, h3'⟩ := hc
                subst h1
                obtain ⟨gl, gd⟩ := isGl_gl G h2
                exact zip_ok G gl (G.blt _ (by decide +kernel)) (PEs.pa pes (by simp [h3, h3'])) (by rw [star_cons h3']; rfl) (star_cons h3) (star_cons h3') (noIoBor (i2 rfl) (i3 rfl)) hzt
              · cases hr
            · cases hr
          · simp only [Bool.and_eq_true] at h'
            exact pi_imp (pi_any (cv _ _ h'.2)) fun σ H R0 h => TI.val hk h
      cases hk : p.kd with
      | val => exact gen h hk
      | bor pl =>
        obtain rfl := kd_bor hk
        have h' : plE X.N sc pl e = true := h
        exact pi_imp (pi_any (plE_pe G h')) fun σ H R0 h => TI.bor h
      | io pl =>
        obtain rfl := kd_io hk
        have h' : (match argsRng sc (.io pl) e with
          | some (as, es) => cmAll (plE X.N sc) (cmP nm X.N io sui n sc .val) true false as es
          | none => notSet e && cmP nm X.N io sui n sc .val (.io pl) e) = true := h
        have e1 : argsRng sc (.io pl) e = none := rfl
        rw [e1] at h'
        simp only [Bool.and_eq_true] at h'
        cases n with
        | zero => cases h'.2
        | succ n => cases h'.2
    | tst =>
      have tv : plT e = true → cmP nm X.N io sui n sc .val p e = true → PT X e (TT' (cn E X fx q W) p) := fun h1 h2 =>
        pt_imp (pt_val (cv _ _ h2) (plT_ok h1)) fun σ H Q h => TT.tv h
      have cmp : ∀ {p : P} {x : Expr} {ops : List CmpOp} {ys : List Expr} {pos : Pos}, isEnt p = false → cmP nm X.N io sui n sc .val p (.Compare x ops ys pos) = true → PT X (.Compare x ops ys pos) (TT' (cn E X fx q W) p) := by
        intro p x ops ys pos hp
        match n with
        | 0 => intro h; cases h
        | n + 1 =>
          intro h
          have cv : ∀ p e, cmP nm X.N io sui n sc .val p e = true → PE X e (TV (cn E X fx q W) false p) := fun p e h => snd n (m := .val) G tk h false (fun z => by cases z)
          cases p with
          | op r as =>
            simp only [cmP] at h
            split at h
            · rename_i es hes
              simp only [Bool.and_eq_true] at h
              obtain ⟨⟨h1, h2⟩, h3⟩ := h
              obtain ⟨i1, i2, i3, i4⟩ := all_ok G cv h3
              unfold args? at hes
              split at hes <;> rename_i he <;> first | (cases he; done) | skip
              · cases he
                exact cmp_okT G (i2 rfl) hes i1
              all_goals (cases hes)
            · cases h
          | chain r r' a b c =>
            simp only [cmP] at h
            split at h
            · simp only [Bool.and_eq_true] at h
              obtain ⟨⟨⟨⟨⟨h1, h2⟩, h3⟩, h4⟩, h5⟩, h6⟩ := h
              rename_i he
              cases he
              split at h1
              · rename_i p1 hp1
                split at h2
                · rename_i p2 hp2
                  obtain rfl := primEq_eq h1
                  obtain rfl := primEq_eq h2
                  exact pt_imp (pt_chain (cmpO_ok (o := false) G.un hp1) (cmpO_ok (o := false) G.un hp2) (cv _ _ h4) (cv _ _ h5) (cv _ _ h6) (lastM h3)) fun σ H Q h => (TT.tv h).chainV
                · cases h2
              · cases h1
            · cases h
          | ent a => cases hp
          | _ => simp only [cmP] at h; exact absurd h Bool.false_ne_true
      have ct : ∀ p e, cmP nm X.N io sui n sc .tst p e = true → PT X e (TT' (cn E X fx q W) p) := fun p e h => snd n (m := .tst) G tk h
      cases p with
      | and a c =>
        simp only [cmP] at h
        split at h
        · rename_i x y es pos
          simp only [Bool.and_eq_true] at h
          have ha := ct _ _ h.1
          have hc := ct _ _ h.2
          cases es with
          | nil => exact pt_imp (PW.pt (pw_and ha (pw_and1 hc))) fun σ H Q h => TT.andT h
          | cons z es => exact pt_imp (PW.pt (pw_and ha (pw_bool hc))) fun σ H Q h => TT.andT h
        · cases h
      | or a c =>
        simp only [cmP] at h
        split at h
        · rename_i x y es pos
          simp only [Bool.and_eq_true] at h
          have ha := ct _ _ h.1
          have hc := ct _ _ h.2
          cases es with
          | nil => exact pt_imp (PW.pt (pw_or ha (pw_or1 hc))) fun σ H Q h => TT.orT h
          | cons z es => exact pt_imp (PW.pt (pw_or ha (pw_bool hc))) fun σ H Q h => TT.orT h
        · cases h
      | not a =>
        simp only [cmP] at h
        split at h
        · exact pt_imp (pt_not (ct _ _ h)) fun σ H Q h => TT.notT h
        · cases h
      | ent a => simp only [cmP] at h; exact absurd h Bool.false_ne_true
      | _ =>
        simp only [cmP] at h
        split at h
        · exact cmp rfl h
        · simp only [Bool.and_eq_true] at h
          exact tv h.1 h.2
end
end Bk

/-! B11: statements: their readings. -/
namespace Bk
open PySem PySem.Spec PyProof.Rows L2

/-- what is wanted of a statement's end -/
def OQ (C : Cn) (Dd : Ends) (rest : Things) (o : O) : Prop := match o with
  | .nx ρ => ∀ σ H F, Ln C ρ σ → Sep C.K H F (zp ρ σ ++ rest) → Dd.nx σ H
  | .ret d ρ => ∀ v σ H F, Ln C ρ σ → Sep C.K H F ((.fz d, some v) :: (zp ρ σ ++ rest)) → Dd.rt v H
  | .brk ρ => ∀ σ H F, Ln C ρ σ → Sep C.K H F (zp ρ σ ++ rest) → Dd.bk σ H
  | .cont ρ => ∀ σ H F, Ln C ρ σ → Sep C.K H F (zp ρ σ ++ rest) → Dd.ct σ H
  | .exc c ρ => ∀ σ H F, Ln C ρ σ → Sep C.K H F (zp ρ σ ++ rest) → C.W (C.K.xc c) none σ H
  | .stuck => False
def TSt (C : Cn) (f : Rho → O) : TS := fun Dd σ H => ∃ ρ F rest, Ln C ρ σ ∧ Sep C.K H F (zp ρ σ ++ rest) ∧ OQ C Dd rest (f ρ)
section
variable {C : Cn} {Dd : Ends} {rest : Things} {σ : L2.St} {H : Hp}
theorem OQ.thn {α : Type} {r : Ev α} {f : α → Rho → O} (h : OQ C Dd rest (r.thn f)) : EQ C rest σ r fun a ρ => OQ C Dd rest (f a ρ) := by
  cases r with
  | ok a ρ => exact h
  | exc c ρ => exact fun H F l s => h σ H F l s
  | stuck => exact h.elim
theorem OQ.at {α : Type} {r : R α} {ρ : Rho} {f : α → Rho → O} (h : OQ C Dd rest ((r.at ρ).thn f)) : ∃ a, r = .ok a ∧ OQ C Dd rest (f a ρ) := by
  cases r with
  | ok a => exact ⟨a, rfl, h⟩
  | stuck => exact h.elim
theorem TSt.seq {f g : Rho → O} (h : TSt C (fun ρ => (f ρ).seq g) Dd σ H) : tSeq (TSt C f) (TSt C g) Dd σ H := by
  obtain ⟨ρ, F, rest, l, s, q⟩ := h
  refine ⟨ρ, F, rest, l, s, ?_⟩
  cases e : f ρ with
  | nx ρ' =>
    simp only [e] at q
    exact fun σ' H' F' l' s' => ⟨ρ', F', rest, l', s', q⟩
  | ret d ρ' => simp only [e] at q; exact q
  | brk ρ' => simp only [e] at q; exact q
  | cont ρ' => simp only [e] at q; exact q
  | exc c ρ' => simp only [e] at q; exact q
  | stuck => simp only [e] at q; exact q.elim
theorem OQ.ends {Dd Dd' : Ends} {o : O} (h : OQ C Dd rest o) (h1 : ∀ σ H, Dd.nx σ H → Dd'.nx σ H) (h2 : ∀ v H, Dd.rt v H → Dd'.rt v H) (h3 : ∀ σ H, Dd.bk σ H → Dd'.bk σ H) (h4 : ∀ σ H, Dd.ct σ H → Dd'.ct σ H) : OQ C Dd' rest o := by
  cases o with
  | nx ρ => exact fun σ H F l s => h1 _ _ (h σ H F l s)
  | ret d ρ => exact fun v σ H F l s => h2 _ _ (h v σ H F l s)
  | brk ρ => exact fun σ H F l s => h3 _ _ (h σ H F l s)
  | cont ρ => exact fun σ H F l s => h4 _ _ (h σ H F l s)
  | exc c ρ => exact h
  | stuck => exact h
end
section
variable {nm : Nm} {E : Wo} {k : Nat} {sui : Option Nat} {io : List Nat} {fx : List (Nat × V)} {q : En} {sc : Scope} {fnb : Str → Bool} {X : Cx} {W : WX} {Dd : Ends} {σ : L2.St} {H : Hp}
theorem asg_t {tg : Tg} {p : P} (hi : ∀ i ∈ tg.slots, i < X.N.length) (hf : Off fx tg.slots) (h : TSt (cn E X fx q W) (evS q (.asg tg p)) Dd σ H) : TV (cn E X fx q W) false p σ H fun x H1 => gT X.K tg x σ H1 Dd.nx := by
  obtain ⟨ρ, F, rest, l, s, qq⟩ := h
  rw [evS] at qq
  refine ⟨ρ, F, rest, l, s, (OQ.thn (σ := σ) qq).imp fun d ρ1 ed q2 v H1 F1 s1 vd => ?_⟩
  obtain ⟨ρ2, e2, q3⟩ := q2.at
  exact tgt_ok (C := cn E X fx q W) (K := wd E X) e2 hi hf (l.to (evP_ok_len ed)) s1 vd fun σ' l' s' _ => q3 σ' H1 F1 l' s'
theorem own_t {i : Nat} {p : P} (hi : i < X.N.length) (hf : ∀ r ∈ fx, r.1 ≠ i) (h : TSt (cn E X fx q W) (evS q (.own i p)) Dd σ H) : TV (cn E X fx q W) true p σ H fun x H1 => gName i x σ H1 Dd.nx := by
  obtain ⟨ρ, F, rest, l, s, qq⟩ := h
  rw [evS] at qq
  refine ⟨ρ, F, rest, l, s, (OQ.thn (σ := σ) qq).imp fun d ρ1 ed q2 => ?_⟩
  split at q2
  · rename_i hc
    unfold PQ
    rw [hc]
    intro v H1 F1 s1
    have l1 := l.to (evP_ok_len ed)
    exact q2 _ H1 F1 (l1.set hf) (s1.setSlot (by rw [l1.r]; exact hi) (by rw [l1.s]; exact hi))
  · exact q2.elim
theorem llN_t {i : Nat} {p : P} (hi : i < X.N.length) (hf : ∀ r ∈ fx, r.1 ≠ i) (h : TSt (cn E X fx q W) (evS q (.llN i p)) Dd σ H) : TVL (cn E X fx q W) p σ H fun x H1 => gName i x σ H1 Dd.nx := by
  obtain ⟨ρ, F, rest, l, s, qq⟩ := h
  rw [evS] at qq
  refine ⟨ρ, F, rest, l, s, (OQ.thn (σ := σ) qq).imp fun d ρ1 ed q2 => ?_⟩
  unfold evLlN at q2
  split at q2
  · rename_i xs
    split at q2
    · rename_i hc
      refine ⟨xs, rfl, hc, fun v H1 F1 s1 => ?_⟩
      have l1 := l.to (evP_ok_len ed)
      exact q2 _ H1 F1 (l1.set hf) (s1.setSlot (by rw [l1.r]; exact hi) (by rw [l1.s]; exact hi))
    · exact q2.elim
  · exact q2.elim
theorem llS_t {i j k : Nat} {p : P} (h : TSt (cn E X fx q W) (evS q (.llS i j k p)) Dd σ H) : TV (cn E X fx q W) false p σ H fun x H1 => gSub (tOp (rIxL X.K) (tPl ⟨i, none⟩) (tPl ⟨j, none⟩)) (tPl ⟨k, none⟩) rSetL x σ H1 Dd.nx := by
  obtain ⟨ρ, F, rest, l, s, qq⟩ := h
  rw [evS] at qq
  refine ⟨ρ, F, rest, l, s, (OQ.thn (σ := σ) qq).imp fun d ρ1 ed q2 v H1 F1 s1 vd => ?_⟩
  have l1 := l.to (evP_ok_len ed)
  have hl : σ.length = ρ1.length := by rw [l1.s, ← l1.r]
  unfold evLlS at q2
  split at q2
  · rename_i xs a b hx ha hb
    have hx := llD_inv hx
    have ha := slot_int hl s1 (slI_inv ha)
    have hb := slot_int hl s1 (slI_inv hb)
    have hi := (List.getElem?_eq_some_iff.mp hx).1
    have hσ : i < σ.length := by rw [hl]; exact hi
    have ht : (Pl.mk i none).take ρ1 = .ok (.box (.lst xs), ρ1.set i .un) := by
      unfold Pl.take
      simp only [hx]
    have s2 := Pl.take_sep (A := []) ht (List.getElem?_eq_getElem hσ) s1
    obtain ⟨a0, ea⟩ := s2.own_ref
    have hv : σ[i]? = some (some (.ref a0)) := by rw [List.getElem?_eq_getElem hσ, ea]
    rw [ea] at s2
    obtain ⟨vs, h1, h2, h3⟩ := s2.llAt
    unfold llPut at q2
    split at q2
    · rename_i p1 hp
      obtain ⟨i1, ys⟩ := p1
      obtain ⟨e1, e2⟩ := llIx_inv hp
      obtain ⟨c, ws, f1, f2, f3, f4⟩ := h3 i1 ys e2
      split at q2
      · rename_i j1 hj
        have k1 : atI vs a = some (.ref c) := by unfold atI; rw [h2, e1]; exact f1
        refine ⟨.ref a0, hv, .int a, ha, a0, vs, a, .ref c, rfl, rfl, .inl (.inl h1), k1, .int b, hb, c, ws, b, j1, rfl, rfl, f2, by rw [← f3.length]; exact hj, ?_⟩
        have s3 := (f4 j1 d v vd).setSlot (ρ := ρ1.set i .un) (σ := σ) (i := i) (by rw [List.length_set]; exact hi) hσ
        rw [List.set_set] at s3
        have hs : σ.set i (some (.ref a0)) = σ := by rw [← ea]; exact List.set_getElem_self hσ
        rw [hs] at s3
        exact q2 σ _ F1 (l1.to (by rw [List.length_set])) s3
      · exact q2.elim
    · exact q2.elim
  · exact q2.elim
theorem lcut_t {i j : Nat} (h : TSt (cn E X fx q W) (evS q (.lcut i j)) Dd σ H) : tSl (rSlL X.K) (tOp (rIxL X.K) (tPl ⟨i, none⟩) (tPl ⟨j, none⟩)) tNoPart (tPart (tUn (rU fun i => .int (-i)) (tC (.int 1)))) σ H fun x H1 => gSub (tPl ⟨i, none⟩) (tPl ⟨j, none⟩) rSetL x σ H1 Dd.nx := by
  obtain ⟨ρ, F, rest, l, s1, q2⟩ := h
  rw [evS] at q2
  have hl : σ.length = ρ.length := by rw [l.s, ← l.r]
  unfold evLcut at q2
  split at q2
  · rename_i xs a hx ha
    have hx := llD_inv hx
    have ha := slot_int hl s1 (slI_inv ha)
    have hi := (List.getElem?_eq_some_iff.mp hx).1
    have hσ : i < σ.length := by rw [hl]; exact hi
    have ht : (Pl.mk i none).take ρ = .ok (.box (.lst xs), ρ.set i .un) := by
      unfold Pl.take
      simp only [hx]
    have s2 := Pl.take_sep (A := []) ht (List.getElem?_eq_getElem hσ) s1
    obtain ⟨a0, ea⟩ := s2.own_ref
    have hv : σ[i]? = some (some (.ref a0)) := by rw [List.getElem?_eq_getElem hσ, ea]
    rw [ea] at s2
    obtain ⟨vs, h1, h2, h3⟩ := s2.llPutAll
    unfold llDel at q2
    split at q2
    · rename_i p1 hp
      obtain ⟨i1, ys⟩ := p1
      obtain ⟨e1, e2⟩ := llIx_inv hp
      obtain ⟨c, ws, f1, f2, f3, _⟩ := h3 i1 ys e2
      have k1 : atI vs a = some (.ref c) := by unfold atI; rw [h2, e1]; exact f1
      refine ⟨.ref a0, hv, .int a, ha, a0, vs, a, .ref c, rfl, rfl, .inl (.inl h1), k1, 1, rfl, -1, rfl, c, ws, rfl, .inl (.inl f2), fun p hp => ?_⟩
      have pa : a0 ≠ p := fun z => by rw [z, hp] at h1; cases h1
      have s3 := (s2.lstNew hp (f3.cut none (some (-1)))).perm (List.Perm.swap _ _ _)
      obtain ⟨vs2, g1, g2, s4⟩ := s3.llRep i1
      rw [upd_ne pa, h1] at g1
      cases g1
      refine ⟨.ref a0, hv, .int a, ha, a0, vs, a, i1, rfl, rfl, by rw [upd_ne pa]; exact h1, by rw [h2]; exact e1, ?_⟩
      have s5 := s4.setSlot (ρ := ρ.set i .un) (σ := σ) (i := i) (by rw [List.length_set]; exact hi) hσ
      rw [List.set_set] at s5
      have hs : σ.set i (some (.ref a0)) = σ := by rw [← ea]; exact List.set_getElem_self hσ
      rw [hs] at s5
      exact q2 σ _ F (l.to (by rw [List.length_set])) s5
    · exact q2.elim
  · exact q2.elim
theorem lapp_t {i j : Nat} (h : TSt (cn E X fx q W) (evS q (.lapp i j)) Dd σ H) : tDrop (tBM X.K "list" rAppend (tOp (rIxL X.K) (tPl ⟨i, none⟩) (tPl ⟨j, none⟩)) (tCons (tOp (rIxL X.K) (tOp (rIxL X.K) (tPl ⟨i, none⟩) (tPl ⟨j, none⟩)) (tC (.int 0))) tNil)) Dd σ H := by
  obtain ⟨ρ, F, rest, l, s1, q2⟩ := h
  rw [evS] at q2
  have hl : σ.length = ρ.length := by rw [l.s, ← l.r]
  unfold evLapp at q2
  split at q2
  · rename_i xs a hx ha
    have hx := llD_inv hx
    have ha := slot_int hl s1 (slI_inv ha)
    have hi := (List.getElem?_eq_some_iff.mp hx).1
    have hσ : i < σ.length := by rw [hl]; exact hi
    have ht : (Pl.mk i none).take ρ = .ok (.box (.lst xs), ρ.set i .un) := by
      unfold Pl.take
      simp only [hx]
    have s2 := Pl.take_sep (A := []) ht (List.getElem?_eq_getElem hσ) s1
    obtain ⟨a0, ea⟩ := s2.own_ref
    have hv : σ[i]? = some (some (.ref a0)) := by rw [List.getElem?_eq_getElem hσ, ea]
    rw [ea] at s2
    obtain ⟨vs, h1, h2, h3⟩ := s2.llPutAll
    unfold llApn at q2
    split at q2
    · rename_i p1 hp
      obtain ⟨i1, ys⟩ := p1
      obtain ⟨e1, e2⟩ := llIx_inv hp
      obtain ⟨c, ws, f1, f2, f3, f4⟩ := h3 i1 ys e2
      have k1 : atI vs a = some (.ref c) := by unfold atI; rw [h2, e1]; exact f1
      split at q2
      · rename_i j1 hj
        split at q2
        · rename_i d hd
          split at q2
          · rename_i hz
            obtain ⟨v, hv1, hv2⟩ := f3.at (i := 0) (d := d) (by unfold atI; rw [hj]; exact hd)
            refine ⟨.ref a0, hv, .int a, ha, a0, vs, a, .ref c, rfl, rfl, .inl (.inl h1), k1, .inl ⟨rfl, ws, .inl (.inl f2)⟩, .ref a0, hv, .int a, ha, a0, vs, a, .ref c, rfl, rfl, .inl (.inl h1), k1, c, ws, 0, v, rfl, rfl, .inl (.inl f2), hv1, c, ws, v, rfl, rfl, f2, by rw [← f3.length]; exact hz, ?_⟩
            have s3 := (f4 (ys ++ [d]) (ws ++ [v]) (f3.append (ValL.cons hv2 ValL.nil))).setSlot (ρ := ρ.set i .un) (σ := σ) (i := i) (by rw [List.length_set]; exact hi) hσ
            rw [List.set_set] at s3
            have hs : σ.set i (some (.ref a0)) = σ := by rw [← ea]; exact List.set_getElem_self hσ
            rw [hs] at s3
            exact q2 σ _ F (l.to (by rw [List.length_set])) s3
          · exact q2.elim
        · exact q2.elim
      · exact q2.elim
    · exact q2.elim
  · exact q2.elim
theorem rnew_t {i : Nat} {C fI fP fT : Addr} {fdI fdP fdT : FuncData} (R : RowK X.K X.mg E C fI fP fT fdI fdP fdT) (hi : i < X.N.length) (hf : ∀ r ∈ fx, r.1 ≠ i) (h : TSt (cn E X fx q W) (evS q (.rnew i)) Dd σ H) : tMake C (spRI (wd E X)) [] (fun _ _ _ => False) tNil σ H fun x H1 => gName i x σ H1 Dd.nx := by
  obtain ⟨ρ, F, rest, l, s, qq⟩ := h
  rw [evS] at qq
  intro x dx nx ndx nex
  refine ⟨x, dx, C, rfl, R.xc, upd_same, fun H' a1 a2 k f1 f2 n12 e1 e2 e3 => ⟨rfl, ?_⟩⟩
  have kk : ∀ b o, H b = some o → H' b = some o := fun b o e => k b o (by rw [upd_ne (ne_of_none e nx), upd_ne (ne_of_none e ndx)]; exact e) (ne_of_none e nx)
  have n1x : a1 ≠ x := fun e => by rw [e, upd_same] at f1; cases f1
  have n2x : a2 ≠ x := fun e => by rw [e, upd_same] at f2; cases f2
  have n1d : a1 ≠ dx := fun e => by rw [e, upd_ne nex, upd_same] at f1; cases f1
  have n2d : a2 ≠ dx := fun e => by rw [e, upd_ne nex, upd_same] at f2; cases f2
  have h1 : H a1 = none := by rw [upd_ne n1x, upd_ne n1d] at f1; exact f1
  have h2 : H a2 = none := by rw [upd_ne n2x, upd_ne n2d] at f2; exact f2
  have hd : H' dx = some (.own x) := k dx _ (by rw [upd_ne nex, upd_same]) nex
  have s2 : Sep (wd E X) H' F ((.own (.obj 0 [] []), some (.ref x)) :: (zp ρ σ ++ rest)) := s.conNewL (f := [x, dx, a1, a2]) kk (by
      intro a ha
      simp only [List.mem_cons, List.not_mem_nil, or_false] at ha
      rcases ha with rfl | rfl | rfl | rfl <;> assumption) (by
      simp only [List.nodup_cons, List.mem_cons, List.not_mem_nil, or_false, not_or, not_false_eq_true, List.nodup_nil, and_true]
      exact ⟨⟨fun e => nex e.symm, fun e => n1x e.symm, fun e => n2x e.symm⟩, ⟨fun e => n1d e.symm, fun e => n2d e.symm⟩, n12⟩) (by
      unfold OwnD
      exact ⟨x, rfl, C, dx, a1, a2, [], R.xc, e1, hd, e2, ValL.nil, ⟨rfl, [], rfl, e3⟩, rfl⟩)
  exact qq _ H' F (l.set hf) (s2.setSlot (by rw [l.r]; exact hi) (by rw [l.s]; exact hi))
theorem par_t {i j : Nat} {a b : P} (ha : a.kd = .val) (hb : b.kd = .val) (hi : i < X.N.length) (hj : j < X.N.length) (hf : ∀ r ∈ fx, r.1 ≠ i) (hf2 : ∀ r ∈ fx, r.1 ≠ j) (h : TSt (cn E X fx q W) (evS q (.par i j a b)) Dd σ H) : TAs (cn E X fx q W) [a, b] σ H fun vs H1 => ∃ v w, vs = [v, w] ∧ Dd.nx ((σ.set i (some v)).set j (some w)) H1 := by
  obtain ⟨ρ, F, rest, l, s, qq⟩ := h
  rw [evS] at qq
  refine ⟨ρ, F, rest, l, s, (OQ.thn (σ := σ) qq).imp fun ds ρ1 ed q2 vs H1 F1 s1 lay => ?_⟩
  have l1 := l.to (evAs_ok_len ed)
  obtain ⟨n1, n2⟩ := Lay.lens lay
  match ds, vs, n1, n2 with
  | [x, y], [v, w], _, _ =>
    refine ⟨v, w, rfl, ?_⟩
    have e : AT [a, b] [x, y] [v, w] = [(.fz x, some v), (.fz y, some w)] := by simp [AT, ha, hb]
    rw [e] at s1
    obtain ⟨v', ev, qx⟩ := s1.mem_val (d := x) (o := some v) (by simp)
    obtain ⟨w', ew, qy⟩ := s1.mem_val (d := y) (o := some w) (by simp)
    cases ev; cases ew
    have s2 := Sep.tail (Sep.tail s1)
    have s3 := s2.setFz l1 qx hi
    have l3 := l1.set (s := .fz x) (o := some v) hf
    have s4 := s3.setFz l3 qy hj
    exact q2 _ H1 F1 (l3.set hf2) s4
theorem asgT_t {i j f : Nat} {as : List P} (hb : noBor as = true) (hi : ∀ k ∈ [i, j], k < X.N.length) (hf : Off fx [i, j]) (h : TSt (cn E X fx q W) (evS q (.asgT i j (.call f as))) Dd σ H) :
    TAs (cn E X fx q W) as σ H fun vs H1 => spT (wd E X) (ioPos 0 as) (q.F f) vs H1 (fun x H2 => gT X.K (.t [i, j]) x σ H2 Dd.nx) (WE W σ) := by
  obtain ⟨ρ, F, rest, l, s, qq⟩ := h
  rw [evS] at qq
  have q0 := OQ.thn (σ := σ) qq
  rw [evP, EQ.bind] at q0
  refine ⟨ρ, F, rest, l, s, q0.imp fun ds ρ1 eds q1 vs H2 F2 s2 lay => ?_⟩
  have l1 := l.to (evAs_ok_len eds)
  obtain ⟨h1, h2⟩ := lay.lens
  have hi1 := hi i (by simp)
  have hj1 := hi j (by simp)
  refine ⟨F2, ds, zp ρ1 σ ++ rest, by omega, ?_, ?_⟩
  · rw [← AT_PT (as := as) hb (fun k _ => rfl) h1]
    exact s2
  · cases er : q.F f ds with
    | stuck => rw [show (cn E X fx q W).q.F f ds = .stuck from er] at q1; exact q1.elim
    | ok d os =>
      rw [show (cn E X fx q W).q.F f ds = .ok d os from er] at q1
      unfold callE at q1
      simp only at q1
      rw [EQ.bind] at q1
      obtain ⟨ρ2, e2, q1⟩ := q1.at
      have hlen : os.length = (ioPos 0 as).length := putBack_len e2
      replace q1 : OQ (cn E X fx q W) Dd rest (twR i j d ρ2) := q1
      have q9 : ∃ xs x, d = .tup [.lst xs, x] := by
        unfold twR at q1
        split at q1
        · exact ⟨_, _, rfl⟩
        · exact q1.elim
      · obtain ⟨xs, x, rfl⟩ := q9
        refine ⟨hlen, .inl ⟨xs, x, rfl, fun a w0 w1 H3 F3 ha s3 => ?_⟩⟩
        rw [OT_OT' (as := as) (vs := vs) rfl h2 hlen] at s3
        have s4 : Sep (wd E X) H3 F3 (OT' as vs os ++ ([(.own (.lst xs), some w0), (.fz x, some w1)] ++ (zp ρ1 σ ++ rest))) := s3.perm (by
          refine List.Perm.symm ?_
          refine (List.perm_append_comm_assoc _ _ _).trans ?_
          exact .rfl)
        have s5 := putBack_sep e2 l1 lay s4
        have l2 := l1.to (putBack_length e2)
        have s6 : Sep (wd E X) H3 F3 ((.own (.lst xs), some w0) :: (zp ρ2 σ ++ ((.fz x, some w1) :: rest))) := (show Sep (wd E X) H3 F3 ((.own (.lst xs), some w0) :: ((.fz x, some w1) :: (zp ρ2 σ ++ rest))) from s5).perm (.cons _ List.perm_middle.symm)
        have s7 := s6.setSlot (i := i) (by rw [l2.r]; exact hi1) (by rw [l2.s]; exact hi1)
        have l3 := l2.set (s := .own (.lst xs)) (o := some w0) (hf i (by simp))
        have s8 : Sep (wd E X) H3 F3 ((.fz x, some w1) :: (zp (ρ2.set i (.own (.lst xs))) (σ.set i (some w0)) ++ rest)) := s7.perm List.perm_middle
        have s9 := s8.setSlot (i := j) (by rw [l3.r]; exact hj1) (by rw [l3.s]; exact hj1)
        have l4 := l3.set (s := .fz x) (o := some w1) (hf j (by simp))
        exact ⟨a, [w0, w1], rfl, .inl (.inl ha), rfl, w0, [w1], rfl, w1, [], rfl, rfl, q1 _ H3 F3 l4 s9⟩
    | exc c os =>
      rw [show (cn E X fx q W).q.F f ds = .exc c os from er] at q1
      unfold callE at q1
      simp only at q1
      rw [EQ.bind] at q1
      obtain ⟨ρ2, e2, q1⟩ := q1.at
      have hlen : os.length = (ioPos 0 as).length := putBack_len e2
      refine ⟨hlen, fun H3 F3 s3 => ?_⟩
      rw [OT_OT' (as := as) (vs := vs) rfl h2 hlen] at s3
      exact q1 H3 F3 (l1.to (putBack_length e2)) (putBack_sep (A := []) e2 l1 lay s3)
theorem asgV_t {i f : Nat} {as : List P} (hb : noBor as = true) (hi : i < X.N.length) (hf : ∀ r ∈ fx, r.1 ≠ i) (h : TSt (cn E X fx q W) (evS q (.asgV i (.call f as))) Dd σ H) :
    TAs (cn E X fx q W) as σ H fun vs H1 => spT (wd E X) (ioPos 0 as) (q.F f) vs H1 (fun x H2 => gName i x σ H2 Dd.nx) (WE W σ) := by
  obtain ⟨ρ, F, rest, l, s, qq⟩ := h
  rw [evS] at qq
  have q0 := OQ.thn (σ := σ) qq
  rw [evP, EQ.bind] at q0
  refine ⟨ρ, F, rest, l, s, q0.imp fun ds ρ1 eds q1 vs H2 F2 s2 lay => ?_⟩
  have l1 := l.to (evAs_ok_len eds)
  obtain ⟨h1, h2⟩ := lay.lens
  refine ⟨F2, ds, zp ρ1 σ ++ rest, by omega, ?_, ?_⟩
  · rw [← AT_PT (as := as) hb (fun k _ => rfl) h1]
    exact s2
  · cases er : q.F f ds with
    | stuck => rw [show (cn E X fx q W).q.F f ds = .stuck from er] at q1; exact q1.elim
    | ok d os =>
      rw [show (cn E X fx q W).q.F f ds = .ok d os from er] at q1
      unfold callE at q1
      simp only at q1
      rw [EQ.bind] at q1
      obtain ⟨ρ2, e2, q1⟩ := q1.at
      have hlen : os.length = (ioPos 0 as).length := putBack_len e2
      replace q1 : OQ (cn E X fx q W) Dd rest (tvR i d ρ2) := q1
      unfold tvR at q1
      split at q1
      · rename_i hc
        refine ⟨hlen, .inr ⟨hc, fun v H3 F3 s3 => ?_⟩⟩
        rw [OT_OT' (as := as) (vs := vs) rfl h2 hlen] at s3
        have s4 : Sep (wd E X) H3 F3 (OT' as vs os ++ ([(.own d, some v)] ++ (zp ρ1 σ ++ rest))) := s3.perm (by
          refine List.Perm.symm ?_
          refine (List.perm_append_comm_assoc _ _ _).trans ?_
          exact .rfl)
        have s5 := putBack_sep e2 l1 lay s4
        have l2 := l1.to (putBack_length e2)
        have s6 : Sep (wd E X) H3 F3 ((.own d, some v) :: (zp ρ2 σ ++ rest)) := s5
        have s7 := s6.setSlot (i := i) (by rw [l2.r]; exact hi) (by rw [l2.s]; exact hi)
        exact q1 _ H3 F3 (l2.set (s := .own d) (o := some v) hf) s7
      · exact q1.elim
    | exc c os =>
      rw [show (cn E X fx q W).q.F f ds = .exc c os from er] at q1
      unfold callE at q1
      simp only at q1
      rw [EQ.bind] at q1
      obtain ⟨ρ2, e2, q1⟩ := q1.at
      have hlen : os.length = (ioPos 0 as).length := putBack_len e2
      refine ⟨hlen, fun H3 F3 s3 => ?_⟩
      rw [OT_OT' (as := as) (vs := vs) rfl h2 hlen] at s3
      exact q1 H3 F3 (l1.to (putBack_length e2)) (putBack_sep (A := []) e2 l1 lay s3)
theorem any_star (e1 e2 : Expr) (n1 : nst e1 = true) (n2 : nst e2 = true) (f : Expr → Bool) (hf : ∀ e, nst e = true → f e = false) : [e1, e2].any f = false := by simp [hf e1 n1, hf e2 n2]
theorem par_swap {e1 e2 : Expr} {x y : Str} {px py pt pt2 : Pos} {k1 k2} {env : Env} (hk : env.scope.kind = ScopeKind.function) (hx : env.scope.names.lookup x = some .local) (hy : env.scope.names.lookup y = some .local) (xy : x ≠ y) (hl : (px.line == py.line) = true) (ho : parOk e1 e2 = true) :
    swappedStores [.Tuple [.Name x px, .Name y py] k1 pt] (.Tuple [e1, e2] k2 pt2) env = pure (some [x, y]) := by
  unfold parOk at ho
  simp only [Bool.and_eq_true, Bool.not_eq_true'] at ho
  obtain ⟨⟨⟨n1, n2⟩, n3⟩, n4⟩ := ho
  have kx : env.kindOf x = some .local := hx
  have ky : env.kindOf y = some .local := hy
  have hb : env.blockKind = .function := by unfold Env.blockKind; rw [hk]; rfl
  have hyx : ¬ y = x := fun z => xy z.symm
  have hl' : py.line = px.line := (eq_of_beq hl).symm
  unfold swappedStores
  dsimp only
  rw [any_star e1 e2 n1 n2 _ (fun e h => by cases e <;> first | rfl | cases h)]
  simp [hb, kx, ky, hl', Expr.pos, n3, n4, List.eraseDups_cons, hyx, xy]
theorem set_t {p : Pl} {a v : P} (h : TSt (cn E X fx q W) (evS q (.set p a v)) Dd σ H) : TV (cn E X fx q W) false v σ H fun x H1 => gSub (tPl p) (TV (cn E X fx q W) false a) (rSetP (wd E X)) x σ H1 Dd.nx := by
  obtain ⟨ρ, F, rest, l, s, qq⟩ := h
  rw [evS] at qq
  refine ⟨ρ, F, rest, l, s, (OQ.thn (σ := σ) qq).imp fun x ρ1 ex q2 xv H1 F1 s1 vx => ?_⟩
  have l1 := l.to (evP_ok_len ex)
  split at q2
  · rename_i hb
    obtain ⟨o, ho⟩ := Pl.bound_at hb l1 s1
    refine ⟨o, ho, ρ1, F1, [(.fz x, some xv)] ++ rest, l1, (s1.push vx).perm List.perm_middle.symm, ?_⟩
    refine (OQ.thn (σ := σ) q2).skip fun kd ρ2 ek q3 iv H2 F2 s2 vk => ?_
    have l2 := l1.to (evP_ok_len ek)
    obtain ⟨⟨d, ρ3⟩, ed, q4⟩ := q3.at
    obtain ⟨d', ed', q5⟩ := q4.at
    obtain ⟨ρ4, e4, q6⟩ := q5.at
    clear q3 q4 q5
    have s3 : Sep (wd E X) H2 F2 ([(.fz x, some xv)] ++ (zp ρ2 σ ++ rest)) := s2.perm List.perm_middle
    obtain ⟨w, ew, vx2⟩ := Sep.val s3
    cases ew
    have s4 := Pl.take_sep ed ho s3
    refine ⟨F2, _, d, kd, x, d', s4, vk.bor, vx2, ed', fun H3 s5 => ?_⟩
    have l3 := l2.to (Pl.take_length ed)
    have s6 := Pl.put_sep (C := cn E X fx q W) (A := [(.fz x, some xv)]) e4 l3 ho s5
    exact q6 σ H3 F2 (l3.to (Pl.put_length e4)) s6.tail
  · exact q2.elim
theorem drop_t {p : P} (h : TSt (cn E X fx q W) (evS q (.drop p)) Dd σ H) : tDrop (TV (cn E X fx q W) false p) Dd σ H := by
  obtain ⟨ρ, F, rest, l, s, qq⟩ := h
  rw [evS] at qq
  exact ⟨ρ, F, rest, l, s, (OQ.thn (σ := σ) qq).imp fun d ρ1 ed q2 v H1 F1 s1 vd => q2 σ H1 F1 (l.to (evP_ok_len ed)) s1⟩
theorem ret_t {p : P} (h : TSt (cn E X fx q W) (evS q (.ret p)) Dd σ H) : tRet (TV (cn E X fx q W) false p) Dd σ H := by
  obtain ⟨ρ, F, rest, l, s, qq⟩ := h
  rw [evS] at qq
  exact ⟨ρ, F, rest, l, s, (OQ.thn (σ := σ) qq).imp fun d ρ1 ed q2 v H1 F1 s1 vd => q2 v σ H1 F1 (l.to (evP_ok_len ed)) (s1.push vd)⟩
theorem ifs_t {c : P} {a b : List S} (h : TSt (cn E X fx q W) (evS q (.ifs c a b)) Dd σ H) : tIfS (TT' (cn E X fx q W) c) (TSt (cn E X fx q W) (evSs q a)) (TSt (cn E X fx q W) (evSs q b)) Dd σ H := by
  obtain ⟨ρ, F, rest, l, s, qq⟩ := h
  rw [evS] at qq
  refine ⟨ρ, F, rest, l, s, ?_⟩
  rw [EQ.bind]
  refine (OQ.thn (σ := σ) qq).imp fun d ρ1 ed q2 => ?_
  obtain ⟨k, ek, q3⟩ := q2.at
  refine .atI ek fun H1 F1 s1 => ?_
  have l1 := l.to (evP_ok_len ed)
  cases k with
  | true => exact ⟨ρ1, F1, rest, l1, s1, q3⟩
  | false => exact ⟨ρ1, F1, rest, l1, s1, q3⟩
theorem whl_t {n : Nat} {c : P} {b : List S} (h : TSt (cn E X fx q W) (evS q (.whl n c b)) Dd σ H) : tWhile (TT' (cn E X fx q W) c) (TSt (cn E X fx q W) (evSs q b)) Dd σ H := by
  obtain ⟨ρ, F, rest, l, s, qq⟩ := h
  rw [evS] at qq
  refine ⟨fun m σ H => ∃ ρ F, Ln (cn E X fx q W) ρ σ ∧ Sep (wd E X) H F (zp ρ σ ++ rest) ∧ OQ (cn E X fx q W) Dd rest (whlL (fun ρ => (evP q c ρ).bind fun d ρ => (asB d).at ρ) (evSs q b) m ρ), ⟨n, ρ, F, l, s, qq⟩, ?_⟩
  clear qq s l
  rintro m σ H ⟨ρ, F, l, s, qq⟩
  cases m with
  | zero => exact qq.elim
  | succ m =>
    unfold whlL at qq
    refine ⟨ρ, F, rest, l, s, (OQ.thn (σ := σ) qq).imp fun k ρ1 ek q2 H1 F1 s1 => ?_⟩
    have l1 : Ln (cn E X fx q W) ρ1 σ := l.to (by
      cases e1 : evP q c ρ with
      | ok d ρ2 =>
        rw [e1, Ev.bind_ok] at ek
        obtain ⟨_, rfl⟩ := R.at_ok_inv ek
        exact evP_ok_len e1
      | exc c ρ2 => rw [e1] at ek; cases ek
      | stuck => rw [e1] at ek; cases ek)
    cases k with
    | false => exact q2 σ H1 F1 l1 s1
    | true =>
      replace q2 : OQ (cn E X fx q W) Dd rest ((evSs q b ρ1).turn (whlL (fun ρ => (evP q c ρ).bind fun d ρ => (asB d).at ρ) (evSs q b) m)) := q2
      refine ⟨fun σ' H' => ∃ ρ F, Ln (cn E X fx q W) ρ σ' ∧ Sep (wd E X) H' F (zp ρ σ' ++ rest) ∧ OQ (cn E X fx q W) Dd rest (whlL (fun ρ => (evP q c ρ).bind fun d ρ => (asB d).at ρ) (evSs q b) m ρ), fun σ' H' h => ⟨m, Nat.lt_succ_self m, h⟩, ρ1, F1, rest, l1, s1, ?_⟩
      cases eb : evSs q b ρ1 with
      | nx ρ2 => rw [eb] at q2; exact fun σ' H' F' l' s' => ⟨ρ2, F', l', s', q2⟩
      | cont ρ2 => rw [eb] at q2; exact fun σ' H' F' l' s' => ⟨ρ2, F', l', s', q2⟩
      | brk ρ2 => rw [eb] at q2; exact fun σ' H' F' l' s' => q2 σ' H' F' l' s'
      | ret d ρ2 => rw [eb] at q2; exact q2
      | exc c ρ2 => rw [eb] at q2; exact q2
      | stuck => rw [eb] at q2; exact q2.elim

/-! ### for -/
/-- what is lent, by its value -/
def LV (l : Option (Pl × D)) (v : Option V) : Things := match l with
  | some (_, d) => [(.own d, v)]
  | none => []
theorem back_ok {fx' : List (Nat × V)} {lo : Option (Pl × D)} {v : Option V} {rest ex : Things} {o : O} (hlo : ∀ p d, lo = some (p, d) → ∃ w, v = some w ∧ (p.i, w) ∈ fx') (hsub : ∀ r ∈ fx, r ∈ fx')
    (h : OQ (cn E X fx q W) Dd rest (o.back lo)) : OQ (cn E X fx' q W) Dd (LV lo v ++ (ex ++ rest)) o := by
  have key : ∀ {ρ ρ' : Rho} {σ : L2.St} {H : Hp} {F : Addr → Prop} {A : Things}, backI ρ lo = .ok ρ' → Ln (cn E X fx' q W) ρ σ → Sep (wd E X) H F (A ++ (zp ρ σ ++ (LV lo v ++ (ex ++ rest)))) → Ln (cn E X fx q W) ρ' σ ∧ Sep (wd E X) H F (A ++ (zp ρ' σ ++ rest)) := by
    intro ρ ρ' σ H F A e l s
    refine ⟨⟨by rw [backI_len e]; exact l.r, l.s, fun p hp => l.f p (hsub p hp)⟩, ?_⟩
    cases lo with
    | none =>
      cases e
      have s' : Sep (wd E X) H F ((A ++ zp ρ σ) ++ (ex ++ rest)) := by rw [List.append_assoc]; exact s
      have := s'.skip
      rw [List.append_assoc] at this
      exact this
    | some pd =>
      obtain ⟨p, d⟩ := pd
      obtain ⟨w, rfl, hw⟩ := hlo p d rfl
      have hv : σ[p.i]? = some (some w) := l.f _ hw
      have s1 : Sep (wd E X) H F ((.own d, some w) :: (A ++ (zp ρ σ ++ (ex ++ rest)))) := s.perm perm_c
      have s2 := Pl.put_sep (C := cn E X fx' q W) e l hv s1
      have s' : Sep (wd E X) H F ((A ++ zp ρ' σ) ++ (ex ++ rest)) := by rw [List.append_assoc]; exact s2
      have := s'.skip
      rw [List.append_assoc] at this
      exact this
  cases o with
  | nx ρ =>
    intro σ H F l s
    unfold O.back at h
    cases e : backI ρ lo with
    | ok ρ' => simp only [e] at h; obtain ⟨a, b⟩ := key (A := []) e l s; exact h σ H F a b
    | stuck => simp only [e] at h; exact h.elim
  | ret d ρ =>
    intro w σ H F l s
    unfold O.back at h
    cases e : backI ρ lo with
    | ok ρ' => simp only [e] at h; obtain ⟨a, b⟩ := key (A := [(.fz d, some w)]) e l s; exact h w σ H F a b
    | stuck => simp only [e] at h; exact h.elim
  | brk ρ =>
    intro σ H F l s
    unfold O.back at h
    cases e : backI ρ lo with
    | ok ρ' => simp only [e] at h; obtain ⟨a, b⟩ := key (A := []) e l s; exact h σ H F a b
    | stuck => simp only [e] at h; exact h.elim
  | cont ρ =>
    intro σ H F l s
    unfold O.back at h
    cases e : backI ρ lo with
    | ok ρ' => simp only [e] at h; obtain ⟨a, b⟩ := key (A := []) e l s; exact h σ H F a b
    | stuck => simp only [e] at h; exact h.elim
  | exc c ρ =>
    intro σ H F l s
    unfold O.back at h
    cases e : backI ρ lo with
    | ok ρ' => simp only [e] at h; obtain ⟨a, b⟩ := key (A := []) e l s; exact h σ H F a b
    | stuck => simp only [e] at h; exact h.elim
  | stuck => exact h.elim
theorem for_t {tg : Tg} {it : P} {b : List S} {fx' : Cn → L2.St → List (Nat × V)} (hi : ∀ i ∈ tg.slots, i < X.N.length) (hf : Off fx tg.slots)
    (hlend : ∀ p, it = .bor p → ∀ j ∈ tg.slots, j ≠ p.i) (hio : ∀ p, it ≠ .io p)
    (h : TSt (cn E X fx q W) (evS q (.for tg it b)) Dd σ H) :
    tFor (TI' (cn E X fx q W) it) (gT X.K tg) (fun Dd σ H => ∃ g : List (Nat × V), (∀ r ∈ g, ∃ p, it = .bor p ∧ r.1 = p.i) ∧ TSt (cn E X (g ++ fx) q W) (evSs q b) Dd σ H) Dd σ H := by
  obtain ⟨ρ, F, rest, l, s, qq⟩ := h
  rw [evS] at qq
  have qe : EQ (cn E X fx q W) rest σ (evI q it ρ) fun xl ρl => OQ (cn E X fx q W) Dd rest ((forL (fun x ρ => ((setT tg x ρ).at ρ).thn fun ρ _ => evSs q b ρ) xl.1 ρl).back xl.2) := by
    unfold evI
    rw [EQ.bind]
    refine (OQ.thn (σ := σ) qq).imp fun x ρ1 ex q2 => ?_
    obtain ⟨xs, exs, q3⟩ := q2.at
    rw [EQ.bind]
    refine .atI exs ?_
    obtain ⟨l2, el, q4⟩ := q3.at
    rw [EQ.bind]
    exact .atI el q4
  refine ⟨ρ, F, rest, l, s, qe.imp fun xl ρl exl q2 J H1 F1 ex s1 hw => ?_⟩
  clear qq qe
  obtain ⟨hl1, hl2⟩ := evI_len exl
  obtain ⟨xs, lo⟩ := xl
  have ll : Ln (cn E X fx q W) ρl σ := l.to hl1
  -- what is lent stands where its slot says
  obtain ⟨g, v, hg, hLT, hlo⟩ : ∃ (g : List (Nat × V)) (v : Option V), (∀ r ∈ g, (∃ p, it = .bor p ∧ r.1 = p.i) ∧ σ[r.1]? = some (some r.2)) ∧ LT lo σ = LV lo v ∧ ∀ p d, lo = some (p, d) → ∃ w, v = some w ∧ (p.i, w) ∈ g := by
    cases lo with
    | none => exact ⟨[], none, (fun r h => nomatch h), rfl, (fun p d h => nomatch h)⟩
    | some pd =>
      obtain ⟨p, d⟩ := pd
      have hit : it = .bor p := by
        unfold evI at exl
        obtain ⟨x, ρ1, e1, h2⟩ := Ev.bind_ok_inv exl
        obtain ⟨ys, ρ2, e2, h3⟩ := Ev.bind_ok_inv h2
        obtain ⟨⟨l3, ρ3⟩, ρ4, e3, h4⟩ := Ev.bind_ok_inv h3
        obtain ⟨e3', _⟩ := R.at_ok_inv e3
        have h5 : l3 = some (p, d) := by
          have := congrArg (fun r : Ev (List D × Option (Pl × D)) => match r with | .ok a _ => a.2 | _ => none) h4
          exact this
        subst h5
        unfold lendI at e3'
        split at e3'
        · split at e3'
          · cases e3'; rfl
          · cases e3'
        · cases e3'
      have hp : p.i < σ.length := by rw [l.s, ← l.r]; exact hl2 p d rfl
      have s2 : Sep (wd E X) H1 F1 ((.own d, (σ[p.i]?).getD none) :: (ex ++ (zp ρl σ ++ rest))) := s1
      obtain ⟨a, ea⟩ := s2.own_ref
      refine ⟨[(p.i, .ref a)], some (.ref a), fun r hr => ?_, ?_, fun p' d' h => ?_⟩
      · simp only [List.mem_singleton] at hr
        subst hr
        refine ⟨⟨p, hit, rfl⟩, ?_⟩
        rw [List.getElem?_eq_getElem hp] at ea ⊢
        simp only [Option.getD_some] at ea
        rw [ea]
      · unfold LT LV
        simp only [ea]
      · cases h
        exact ⟨_, rfl, List.mem_singleton.mpr rfl⟩
  rw [hLT] at s1 hw
  have lg : ∀ {ρ : Rho}, Ln (cn E X fx q W) ρ σ → Ln (cn E X (g ++ fx) q W) ρ σ := fun {ρ} l => ⟨l.r, l.s, fun p hp => by
    rcases List.mem_append.mp hp with z | z
    · exact (hg p z).2
    · exact l.f p z⟩
  have offg : Off (g ++ fx) tg.slots := fun i hi r hr => by
    rcases List.mem_append.mp hr with z | z
    · obtain ⟨⟨p, e, e2⟩, _⟩ := hg r z
      rw [e2]
      exact fun e3 => hlend p e i hi e3.symm
    · exact hf i hi r z
  have s2 : Sep (wd E X) H1 F1 (zp ρl σ ++ (LV lo v ++ (ex ++ rest))) := by
    refine s1.perm ?_
    rw [← List.append_assoc, ← List.append_assoc, ← List.append_assoc, ← List.append_assoc]
    refine List.Perm.append_right rest ?_
    rw [List.append_assoc (zp ρl σ)]
    exact List.perm_append_comm
  have q3 : OQ (cn E X (g ++ fx) q W) Dd (LV lo v ++ (ex ++ rest)) (forL (fun x ρ => ((setT tg x ρ).at ρ).thn fun ρ _ => evSs q b ρ) xs ρl) :=
    back_ok (fx := fx) (fun p d e => by
      obtain ⟨w, e1, e2⟩ := hlo p d e
      exact ⟨w, e1, List.mem_append_left _ e2⟩) (fun r hr => List.mem_append_right _ hr) q2
  have lg0 := lg ll
  clear q2 s1 ll
  refine ⟨fun i m σ H => m = xs.length - i ∧ i ≤ xs.length ∧ ∃ ρ F, Ln (cn E X (g ++ fx) q W) ρ σ ∧ Sep (wd E X) H F (zp ρ σ ++ (LV lo v ++ (ex ++ rest))) ∧ OQ (cn E X (g ++ fx) q W) Dd (LV lo v ++ (ex ++ rest)) (forL (fun x ρ => ((setT tg x ρ).at ρ).thn fun ρ _ => evSs q b ρ) (xs.drop i) ρ),
    ⟨xs.length, by simp, Nat.zero_le _, ρl, F1, lg0, s2, q3⟩, ?_⟩
  rintro i m σ2 H2 ⟨rfl, hle, ρi, F2, li, si, qi⟩
  obtain ⟨hgo, hstop⟩ := hw i H2 F2 _ si (fun t ht => by
    refine List.mem_append_right _ ?_
    rw [← List.append_assoc]
    exact List.mem_append_left _ ht)
  by_cases hlt : i < xs.length
  case neg =>
    have e : i = xs.length := by omega
    subst e
    rw [List.drop_length] at qi
    exact .inl ⟨hstop rfl, qi σ2 H2 F2 li si⟩
  obtain ⟨go, hy⟩ := hgo xs[i] (List.getElem?_eq_getElem hlt)
  rw [List.drop_eq_getElem_cons hlt] at qi
  unfold forL at qi
  refine .inr ⟨go, fun σ' H' => ∃ ρ F, Ln (cn E X (g ++ fx) q W) ρ σ' ∧ Sep (wd E X) H' F (zp ρ σ' ++ (LV lo v ++ (ex ++ rest))) ∧ OQ (cn E X (g ++ fx) q W) Dd (LV lo v ++ (ex ++ rest)) (forL (fun x ρ => ((setT tg x ρ).at ρ).thn fun ρ _ => evSs q b ρ) (xs.drop (i + 1)) ρ),
    fun σ' H' nx => ⟨xs.length - (i + 1), by omega, rfl, hlt, nx⟩, fun x H3 yl => ?_⟩
  obtain ⟨F3, s3, vx⟩ := hy x H3 yl
  cases eset : setT tg xs[i] ρi with
  | stuck => rw [eset] at qi; exact qi.elim
  | ok ρs =>
    rw [eset] at qi
    replace qi : OQ (cn E X (g ++ fx) q W) Dd (LV lo v ++ (ex ++ rest)) ((evSs q b ρs).turn (forL (fun x ρ => ((setT tg x ρ).at ρ).thn fun ρ _ => evSs q b ρ) (xs.drop (i + 1)))) := qi
    refine tgt_ok (C := cn E X (g ++ fx) q W) (K := wd E X) eset hi offg li s3 vx fun σ3 l3 s4 _ => ?_
    refine ⟨g, fun r hr => (hg r hr).1, ρs, F3, _, l3, s4, ?_⟩
    cases eb : evSs q b ρs with
    | nx ρ2 => rw [eb] at qi; exact fun σ' H' F' l' s' => ⟨ρ2, F', l', s', qi⟩
    | cont ρ2 => rw [eb] at qi; exact fun σ' H' F' l' s' => ⟨ρ2, F', l', s', qi⟩
    | brk ρ2 => rw [eb] at qi; exact fun σ' H' F' l' s' => qi σ' H' F' l' s'
    | ret d ρ2 => rw [eb] at qi; exact qi
    | exc c ρ2 => rw [eb] at qi; exact qi
    | stuck => rw [eb] at qi; exact qi.elim
end
end Bk

/-! B12: every statement. -/
namespace Bk
open PySem PySem.Spec PyProof.Rows L2

section
variable {nm : Nm} {E : Wo} {k : Nat} {sui : Option Nat} {io : List Nat} {fx : List (Nat × V)} {q : En} {sc : Scope} {fnb : Str → Bool} {X : Cx} {W : WX} {Dd : Ends} {σ : L2.St} {H : Hp}
theorem noLc_sw {e : Expr} {t : Option Expr} {l : Nat} {env : Env} (h : noLc e = true) : swapsWith e t l env = pure false := by
  cases e <;> first | rfl | cases h
theorem sw_false {elt : Expr} {gs : List Comprehension} {scope : Scope} {pos py : Pos} {y : Str} {l : Nat} {env : Env} (hy : env.scope.names.lookup y = some .cell) : swapsWith (.ListComp elt gs scope pos) (some (.Name y py)) l env = pure false := by
  have ky : env.kindOf y = some .cell := hy
  unfold swapsWith
  simp only [ky]
  have e1 : (some NameKind.cell == some NameKind.local) = false := rfl
  have e2 : (NameKind.cell == NameKind.local) = false := rfl
  simp [e1, e2]
theorem sw_any {elt : Expr} {gs : List Comprehension} {scope : Scope} {pos py : Pos} {y : Str} {l : Nat} {env : Env} (h : (scope.names.any fun (n, k) => n == y && (k == .local || k == .cell)) = true) : swapsWith (.ListComp elt gs scope pos) (some (.Name y py)) l env = pure false := by
  unfold swapsWith
  simp only [h]
  simp
/-- a plain store -/
theorem asg_plain {tg : Tg} {g e : Expr} {te : TE} {pos : Pos} {G0 : TG} (hsc : X.env.scope = sc) (h : swOk sc g e = some false) (he : PE X e te) (hg : PG X g G0) : PS X (.Assign [g] e pos) (tAsg te G0) := by
  unfold swOk at h
  split at h
  · rename_i y py elt gs s p2
    split at h
    · split at h
      · rename_i hc
        exact ps_asg he hg (sw_any (l := pos.line) hc)
      · split at h <;> cases h
    · split at h
      · rename_i hc
        have hc' : X.env.scope.names.lookup y = some .cell := by rw [hsc]; exact eq_of_beq hc
        exact ps_asg he hg (sw_false (l := pos.line) hc')
      · cases h
  · cases h
  · split at h
    · rename_i hn
      exact ps_asg he hg (by unfold swapsWithSole; exact noLc_sw hn)
    · cases h
  · split at h
    · rename_i hn hne
      refine ps_asg he hg (by unfold swapsWithSole; exact noLc_sw hne) ?_
      cases e <;> first | rfl | (exact (hn _ _ _ rfl).elim)
    · cases h
  · cases h
/-- a comprehension's parts -/
theorem comp_set {n i : Nat} {elt it : P} {tg : Tg} {cond : Option P} {y : Str} {py pos spos : Pos} {e t it' : Expr} {ifs : List Expr} {scope : Scope} {o : Bool} (G : Good nm E k sui io fx q sc fnb X) (tk : Takes X W) (hy : X.N[i]? = some y) (hl : sc.names.lookup y = some .local)
    (hln : (py.line == pos.line) = true) (hno : (scope.names.any fun (n, k) => n == y && (k == .local || k == .cell)) = false)
    (h : cmP nm X.N io sui n sc .val (.comp elt tg it cond) (.ListComp e [⟨t, it', ifs, 0⟩] scope pos) = true) :
    PS X (.Assign [.Name y py] (.ListComp e [⟨t, it', ifs, 0⟩] scope pos) spos) (tAsg (TV (cn E X fx q W) o (.comp elt tg it cond)) (gName i)) := by
  cases n with
  | zero => cases h
  | succ n =>
    simp only [cmP, Bool.and_eq_true, decide_eq_true_eq, Option.isNone_iff_eq_none] at h
    obtain ⟨⟨⟨⟨⟨⟨⟨h0, h1⟩, h2⟩, h3⟩, h4⟩, h5, hz⟩, h6⟩, h7⟩ := h
    have hI : PI X t it' (TI' (cn E X fx q W) it) := snd n (m := .itr) G tk h5 t hz
    have hB : BlkOk X.N X.env.scope scope (ownN tg t) := by rw [G.hsc]; exact blkOk_by h1
    have hkind : scope.kind = ScopeKind.function := by
      unfold blkC at h1
      simp only [Bool.and_eq_true] at h1
      have := h1.1.1.1
      split at this
      · assumption
      · cases this
    obtain ⟨hi, hf⟩ := tg_slots G.fxio h2
    have hg : ∀ (s : Shared) (H : Hp) (Cd : Addr) (cl : List (Str × Addr)) (fp : List Addr), PG (X.blk s H scope (compEnvC scope cl Cd X.env) fp) t (gT X.K tg) := fun s H Cd cl fp => (pg_ok (G.blk h0 hkind (scope := scope) s H Cd cl fp) h2).1
    have he : ∀ (s : Shared) (H : Hp) (Cd : Addr) (cl : List (Str × Addr)) (fp : List Addr), PE (X.blk s H scope (compEnvC scope cl Cd X.env) fp) e (TV (cn E X fx q W0) false elt) := fun (s : Shared) (H : Hp) (Cd : Addr) (cl : List (Str × Addr)) (fp : List Addr) => snd n (m := .val) (W := W0) (X := X.blk s H scope (compEnvC scope cl Cd X.env) fp) (G.blk h0 hkind (scope := scope) s H Cd cl fp) takes0 h6 false (fun z => by cases z)
    have ht : ∀ (s : Shared) (H : Hp) (Cd : Addr) (cl : List (Str × Addr)) (fp : List Addr), PTs (X.blk s H scope (compEnvC scope cl Cd X.env) fp) ifs (ttC (cn E X fx q W0) cond) := by
      intro s H Cd cl fp
      split at h7
      · exact pts_nil
      · exact pts_one (snd n (m := .tst) (W := W0) (X := X.blk s H scope (compEnvC scope cl Cd X.env) fp) (G.blk h0 hkind (scope := scope) s H Cd cl fp) takes0 h7)
      · cases h7
    have hl' : X.env.scope.names.lookup y = some .local := by rw [G.hsc]; exact hl
    refine ps_imp (ps_setLc (G.calm h0) G.nd hy hl' (sw_true (by rw [G.hsc]; exact G.knd) hl' hln hno) hI hB hg ht he (notSet_it h4)) fun Dd σ H h => ?_
    show tLc _ _ _ _ _ σ H _
    rw [h3]
    exact comp_t hi hf h

theorem comp_setL {n i : Nat} {elt it : P} {tg : Tg} {y : Str} {py pos spos : Pos} {e t it' : Expr} {ifs : List Expr} {scope : Scope} (hfr : fresh elt = true) (G : Good nm E k sui io fx q sc fnb X) (tk : Takes X W) (hy : X.N[i]? = some y) (hl : sc.names.lookup y = some .local)
    (hln : (py.line == pos.line) = true) (hno : (scope.names.any fun (n, k) => n == y && (k == .local || k == .cell)) = false)
    (h : cmP nm X.N io sui n sc .val (.comp elt tg it none) (.ListComp e [⟨t, it', ifs, 0⟩] scope pos) = true) :
    PS X (.Assign [.Name y py] (.ListComp e [⟨t, it', ifs, 0⟩] scope pos) spos) (tAsg (TVL (cn E X fx q W) (.comp elt tg it none)) (gName i)) := by
  cases n with
  | zero => cases h
  | succ n =>
    simp only [cmP, Bool.and_eq_true, decide_eq_true_eq, Option.isNone_iff_eq_none] at h
    obtain ⟨⟨⟨⟨⟨⟨⟨h0, h1⟩, h2⟩, h3⟩, h4⟩, h5, hz⟩, h6⟩, h7⟩ := h
    have hI : PI X t it' (TI' (cn E X fx q W) it) := snd n (m := .itr) G tk h5 t hz
    have hB : BlkOk X.N X.env.scope scope (ownN tg t) := by rw [G.hsc]; exact blkOk_by h1
    have hkind : scope.kind = ScopeKind.function := by
      unfold blkC at h1
      simp only [Bool.and_eq_true] at h1
      have := h1.1.1.1
      split at this
      · assumption
      · cases this
    obtain ⟨hi, hf⟩ := tg_slots G.fxio h2
    have hg : ∀ (s : Shared) (H : Hp) (Cd : Addr) (cl : List (Str × Addr)) (fp : List Addr), PG (X.blk s H scope (compEnvC scope cl Cd X.env) fp) t (gT X.K tg) := fun s H Cd cl fp => (pg_ok (G.blk h0 hkind (scope := scope) s H Cd cl fp) h2).1
    have he : ∀ (s : Shared) (H : Hp) (Cd : Addr) (cl : List (Str × Addr)) (fp : List Addr), PE (X.blk s H scope (compEnvC scope cl Cd X.env) fp) e (TV (cn E X fx q W0) true elt) := fun (s : Shared) (H : Hp) (Cd : Addr) (cl : List (Str × Addr)) (fp : List Addr) => snd n (m := .val) (W := W0) (X := X.blk s H scope (compEnvC scope cl Cd X.env) fp) (G.blk h0 hkind (scope := scope) s H Cd cl fp) takes0 h6 true (fun _ => hfr)
    have ht : ∀ (s : Shared) (H : Hp) (Cd : Addr) (cl : List (Str × Addr)) (fp : List Addr), PTs (X.blk s H scope (compEnvC scope cl Cd X.env) fp) ifs (ttC (cn E X fx q W0) none) := by
      intro s H Cd cl fp
      cases ifs with
      | nil => exact pts_nil
      | cons a b => cases b <;> cases h7
    have hl' : X.env.scope.names.lookup y = some .local := by rw [G.hsc]; exact hl
    refine ps_imp (ps_setLc (G.calm h0) G.nd hy hl' (sw_true (by rw [G.hsc]; exact G.knd) hl' hln hno) hI hB hg ht he (notSet_it h4)) fun Dd σ H h => ?_
    show tLc _ _ _ _ _ σ H _
    rw [h3]
    exact comp_tL hi hf h

theorem comp_peL {n : Nat} {elt it : P} {tg : Tg} {pos : Pos} {e t it' : Expr} {ifs : List Expr} {scope : Scope} (hfr : fresh elt = true) (G : Good nm E k sui io fx q sc fnb X) (tk : Takes X W)
    (h : cmP nm X.N io sui n sc .val (.comp elt tg it none) (.ListComp e [⟨t, it', ifs, 0⟩] scope pos) = true) :
    PE X (.ListComp e [⟨t, it', ifs, 0⟩] scope pos) (TVL (cn E X fx q W) (.comp elt tg it none)) := by
  cases n with
  | zero => cases h
  | succ n =>
    simp only [cmP, Bool.and_eq_true, decide_eq_true_eq, Option.isNone_iff_eq_none] at h
    obtain ⟨⟨⟨⟨⟨⟨⟨h0, h1⟩, h2⟩, h3⟩, h4⟩, h5, hz⟩, h6⟩, h7⟩ := h
    have hI : PI X t it' (TI' (cn E X fx q W) it) := snd n (m := .itr) G tk h5 t hz
    have hB : BlkOk X.N X.env.scope scope (ownN tg t) := by rw [G.hsc]; exact blkOk_by h1
    have hkind : scope.kind = ScopeKind.function := by
      unfold blkC at h1
      simp only [Bool.and_eq_true] at h1
      have := h1.1.1.1
      split at this
      · assumption
      · cases this
    obtain ⟨hi, hf⟩ := tg_slots G.fxio h2
    have hg : ∀ (s : Shared) (H : Hp) (Cd : Addr) (cl : List (Str × Addr)) (fp : List Addr), PG (X.blk s H scope (compEnvC scope cl Cd X.env) fp) t (gT X.K tg) := fun s H Cd cl fp => (pg_ok (G.blk h0 hkind (scope := scope) s H Cd cl fp) h2).1
    have he : ∀ (s : Shared) (H : Hp) (Cd : Addr) (cl : List (Str × Addr)) (fp : List Addr), PE (X.blk s H scope (compEnvC scope cl Cd X.env) fp) e (TV (cn E X fx q W0) true elt) := fun (s : Shared) (H : Hp) (Cd : Addr) (cl : List (Str × Addr)) (fp : List Addr) => snd n (m := .val) (W := W0) (X := X.blk s H scope (compEnvC scope cl Cd X.env) fp) (G.blk h0 hkind (scope := scope) s H Cd cl fp) takes0 h6 true (fun _ => hfr)
    have ht : ∀ (s : Shared) (H : Hp) (Cd : Addr) (cl : List (Str × Addr)) (fp : List Addr), PTs (X.blk s H scope (compEnvC scope cl Cd X.env) fp) ifs (ttC (cn E X fx q W0) none) := by
      intro s H Cd cl fp
      cases ifs with
      | nil => exact pts_nil
      | cons a b => cases b <;> cases h7
    refine pe_imp (pe_lc (G.calm h0) G.nd hI hB hg ht he (notSet_it h4)) fun σ H Q h => ?_
    rw [h3]
    exact comp_tL hi hf h

/-! ### try -/
/-- an except suite's reading: the exception's class is known -/
def tsA (E : Wo) (X : Cx) (fx : List (Nat × V)) (q : En) (c : Nat) (g : Addr → List (Nat × V)) (h : List S) : Addr → Value → Option Addr → TS := fun a cls d Dd σ H =>
  ∃ k, cls = E.xc k ∧ d = none ∧ (q.su k c).isSome = true ∧ TSt (cn E X (g a ++ fx) { q with hx := some k } W0) (evSs { q with hx := some k } h) Dd σ H
theorem cls_names (G : Good nm E k sui io fx q sc fnb X) {c : Nat} {e : Expr} (h : cmHn nm sc c e = true) : ∃ y p, e = .Name y p ∧ Names X y (E.xc c) := by
  unfold cmHn at h
  split at h
  · rename_i y p
    simp only [Bool.and_eq_true] at h
    obtain ⟨gl, gd⟩ := isGl_gl G h.1
    refine ⟨y, p, rfl, gl, gd, ?_⟩
    have h2 := h.2
    split at h2
    · rename_i z b hz
      obtain rfl := of_decide_eq_true h2
      rcases G.cls c z b hz with ⟨m1, _⟩ | ⟨m1, m2, m3, _⟩
      · exact .inl m1
      · exact .inr ⟨m1, m2, m3⟩
    · cases h2
  · cases h
theorem suite_good (G : Good nm E k none io fx q sc fnb X) {i kc c : Nat} {a : Addr} {oe : Obj} {pn : List (Addr × Obj)} {g : List (Nat × V)} (hg : ∀ r ∈ g, r.1 = i) (hin : i < X.N.length → (i, V.ref a) ∈ g) (hsu : (q.su kc c).isSome = true) (hz : Zc (E.xc kc) none oe) (hf : ∃ vs, oe.data = .fields vs) :
    Good nm E k (some i) io (g ++ fx) { q with hx := some kc } sc fnb (X.suite a ((a, oe) :: pn)) where
  nd := G.nd
  hsc := G.hsc
  knd := G.knd
  fxio := fun p hp => by
    rcases List.mem_append.mp hp with z | z
    · exact .inr (by rw [hg p z])
    · rcases G.fxio p z with w | w
      · exact .inl w
      · cases w
  calm := fun h => by cases h
  room := fun h => by cases h
  un := G.un
  fnb := G.fnb
  fn := fun h => by cases h
  fnT := fun h => by cases h
  blt := G.blt
  cst := G.cst
  cls := G.cls
  rai := fun c x h => ⟨(G.rai c x h).ex⟩
  fv := G.fv
  fp := G.fp
  row := fun h => by cases h
  sub := G.sub
  hx := fun k2 hk => by
    cases hk
    obtain ⟨b, hb⟩ := Option.isSome_iff_exists.mp hsu
    obtain ⟨_, _, D', eD, xD⟩ := G.sub kc c b hb
    rw [eD] at hz
    exact ⟨X, a, D', oe, pn, i, rfl, rfl, eD, hz, hf, xD, fun hi => List.mem_append_left _ (hin hi)⟩
theorem unN_ok {i : Nat} {g : List (Nat × V)} {rest : Things} {o : O} {q' : En} (hfx : ∀ r ∈ fx, r.1 ≠ i) (h : OQ (cn E X fx q W) Dd rest (o.unN i)) :
    OQ (cn E X (g ++ fx) q' W0) { nx := fun σ' H' => Dd.nx (σ'.set i none) H', rt := Dd.rt, bk := fun σ' H' => Dd.bk (σ'.set i none) H', ct := fun σ' H' => Dd.ct (σ'.set i none) H' } rest o := by
  have key : ∀ {ρ : Rho} {σ : L2.St} {H : Hp} {F : Addr → Prop}, Ln (cn E X (g ++ fx) q' W0) ρ σ → Sep (wd E X) H F (zp ρ σ ++ rest) → Ln (cn E X fx q W) (ρ.set i .un) (σ.set i none) ∧ Sep (wd E X) H F (zp (ρ.set i .un) (σ.set i none) ++ rest) := by
    intro ρ σ H F l s
    refine ⟨⟨by rw [List.length_set]; exact l.r, by rw [List.length_set]; exact l.s, fun p hp => ?_⟩, ?_⟩
    · rw [List.getElem?_set_ne (fun e => hfx p hp e.symm)]
      exact l.f p (List.mem_append_right _ hp)
    · by_cases hi : i < ρ.length
      · exact (s.pushUn (o := none)).setSlot hi (by rw [l.s, ← l.r]; exact hi)
      · have h1 : ρ.set i .un = ρ := List.set_eq_of_length_le (by omega)
        have h2 : σ.set i none = σ := List.set_eq_of_length_le (by rw [l.s, ← l.r]; omega)
        rw [h1, h2]
        exact s
  cases o with
  | nx ρ => exact fun σ H F l s => by obtain ⟨a, b⟩ := key l s; exact h _ H F a b
  | brk ρ => exact fun σ H F l s => by obtain ⟨a, b⟩ := key l s; exact h _ H F a b
  | cont ρ => exact fun σ H F l s => by obtain ⟨a, b⟩ := key l s; exact h _ H F a b
  | ret d ρ =>
    intro v σ H F l s
    obtain ⟨vv, e, qv⟩ := s.val
    cases e
    obtain ⟨a, b⟩ := key l s.tail
    exact h v _ H F a (b.push qv)
  | exc c ρ => exact h.elim
  | stuck => exact h.elim
theorem trA_t {b : List S} {c i : Nat} {h : List S} (G : Good nm E k none io fx q sc fnb X) (hfx : ∀ r ∈ fx, r.1 ≠ i) (hi : i < X.N.length) (hh : TSt (cn E X fx q W) (evS q (.trA b c i h)) Dd σ H) :
    TSt (cn E X fx q (wAs X.K (E.xc c) i (tsA E X fx q c (fun a => [(i, .ref a)]) h) W Dd)) (evSs q b) Dd σ H := by
  obtain ⟨ρ, F, rest, l, s, qq⟩ := hh
  rw [evS] at qq
  refine ⟨ρ, F, rest, ⟨l.r, l.s, l.f⟩, s, ?_⟩
  cases e : evSs q b ρ with
  | nx ρ2 => simp only [e] at qq; exact fun σ H F l s => qq σ H F ⟨l.r, l.s, l.f⟩ s
  | ret d ρ2 => simp only [e] at qq; exact fun v σ H F l s => qq v σ H F ⟨l.r, l.s, l.f⟩ s
  | brk ρ2 => simp only [e] at qq; exact fun σ H F l s => qq σ H F ⟨l.r, l.s, l.f⟩ s
  | cont ρ2 => simp only [e] at qq; exact fun σ H F l s => qq σ H F ⟨l.r, l.s, l.f⟩ s
  | stuck => simp only [e] at qq; exact qq.elim
  | exc kc ρ2 =>
    simp only [e] at qq
    intro σ2 H2 F2 l2 s2
    cases esu : q.su kc c with
    | none => simp only [esu] at qq; exact qq.elim
    | some bb =>
      obtain ⟨ex1, _⟩ := G.sub kc c bb esu
      refine ⟨bb, ex1, fun hb a ha => ?_, fun hb => ?_⟩
      · subst hb
        simp only [esu] at qq
        refine ⟨kc, rfl, rfl, by rw [esu]; rfl, ρ2.set i .un, F2, rest, ⟨by rw [List.length_set]; exact l2.r, by rw [List.length_set]; exact l2.s, fun p hp => ?_⟩, ?_, unN_ok (q' := { q with hx := some kc }) (g := [(i, .ref a)]) hfx qq⟩
        · rcases List.mem_append.mp hp with z | z
          · simp only [List.mem_singleton] at z
            subst z
            exact List.getElem?_set_self (by rw [l2.s]; exact hi)
          · rw [List.getElem?_set_ne (fun e => hfx p z e.symm)]
            exact l2.f p z
        · exact (s2.pushUn (o := some (.ref a))).setSlot (by rw [l2.r]; exact hi) (by rw [l2.s]; exact hi)
      · subst hb
        simp only [esu] at qq
        exact qq σ2 H2 F2 ⟨l2.r, l2.s, l2.f⟩ s2
/-- the clauses and their readings -/
def hdL (E : Wo) (X : Cx) (fx : List (Nat × V)) (q : En) : List Nat → List (List S) → List (Value × (Addr → Value → Option Addr → TS))
  | c :: cs, h :: hs => (E.xc c, tsA E X fx q c (fun _ => []) h) :: hdL E X fx q cs hs
  | _, _ => []
theorem noX_ok {rest : Things} {o : O} {q' : En} (h : OQ (cn E X fx q W) Dd rest o.noX) : OQ (cn E X fx q' W0) Dd rest o := by
  cases o with
  | nx ρ => exact fun σ H F l s => h σ H F ⟨l.r, l.s, l.f⟩ s
  | ret d ρ => exact fun v σ H F l s => h v σ H F ⟨l.r, l.s, l.f⟩ s
  | brk ρ => exact fun σ H F l s => h σ H F ⟨l.r, l.s, l.f⟩ s
  | cont ρ => exact fun σ H F l s => h σ H F ⟨l.r, l.s, l.f⟩ s
  | exc c ρ => exact h.elim
  | stuck => exact h.elim
theorem pick_t {rest : Things} {kc : Nat} {ρ2 : Rho} (G : Good nm E k none io fx q sc fnb X) : ∀ {cs : List Nat} {hs : List (List S)}, cs.length = hs.length → OQ (cn E X fx q W) Dd rest (pick q.su kc cs (evHs { q with hx := some kc } hs) ρ2) →
    ∀ σ2 H2 F2, Ln (cn E X fx q W) ρ2 σ2 → Sep (wd E X) H2 F2 (zp ρ2 σ2 ++ rest) → wMany X.K W Dd (hdL E X fx q cs hs) (E.xc kc) none σ2 H2
  | [], [], _, h, σ2, H2, F2, l2, s2 => h σ2 H2 F2 l2 s2
  | [], _ :: _, e, _, _, _, _, _, _ => by cases e
  | _ :: _, [], e, _, _, _, _, _, _ => by cases e
  | c :: cs, hd :: hs, e, h, σ2, H2, F2, l2, s2 => by
    rw [evHs] at h
    unfold pick at h
    cases esu : q.su kc c with
    | none => simp only [esu] at h; exact h.elim
    | some bb =>
      obtain ⟨ex1, _⟩ := G.sub kc c bb esu
      refine ⟨bb, ex1, fun hb a ha => ?_, fun hb => ?_⟩
      · subst hb
        simp only [esu] at h
        exact ⟨kc, rfl, rfl, by rw [esu]; rfl, ρ2, F2, rest, ⟨l2.r, l2.s, l2.f⟩, s2, noX_ok h⟩
      · subst hb
        simp only [esu] at h
        exact pick_t G (by simpa using e) h σ2 H2 F2 l2 s2
theorem trM_t {b : List S} {cs : List Nat} {hs : List (List S)} (G : Good nm E k none io fx q sc fnb X) (hl : cs.length = hs.length) (hh : TSt (cn E X fx q W) (evS q (.trM b cs hs)) Dd σ H) :
    TSt (cn E X fx q (wMany X.K W Dd (hdL E X fx q cs hs))) (evSs q b) Dd σ H := by
  obtain ⟨ρ, F, rest, l, s, qq⟩ := hh
  rw [evS] at qq
  refine ⟨ρ, F, rest, ⟨l.r, l.s, l.f⟩, s, ?_⟩
  cases e : evSs q b ρ with
  | nx ρ2 => simp only [e] at qq; exact fun σ H F l s => qq σ H F ⟨l.r, l.s, l.f⟩ s
  | ret d ρ2 => simp only [e] at qq; exact fun v σ H F l s => qq v σ H F ⟨l.r, l.s, l.f⟩ s
  | brk ρ2 => simp only [e] at qq; exact fun σ H F l s => qq σ H F ⟨l.r, l.s, l.f⟩ s
  | cont ρ2 => simp only [e] at qq; exact fun σ H F l s => qq σ H F ⟨l.r, l.s, l.f⟩ s
  | stuck => simp only [e] at qq; exact qq.elim
  | exc kc ρ2 =>
    simp only [e] at qq
    exact fun σ2 H2 F2 l2 s2 => pick_t G hl qq σ2 H2 F2 ⟨l2.r, l2.s, l2.f⟩ s2

/-! ### lists of statements -/
theorem all_okS {c : S → Stmt → Bool} {C : Cn} (h : ∀ s st, c s st = true → PS X st (TSt C (evS C.q s))) : ∀ {ss : List S} {sts : List Stmt}, cmAllS c ss sts = true → PSs X sts (TSt C (evSs C.q ss))
  | [], [], _ => pss_imp pss_nil fun Dd σ H h => by
    obtain ⟨ρ, F, rest, l, s, q⟩ := h
    rw [evSs] at q
    exact q σ H F l s
  | [], _ :: _, h => by cases h
  | _ :: _, [], h => by cases h
  | a :: as, e :: es, hq => by
    simp only [cmAllS, Bool.and_eq_true] at hq
    refine pss_imp (pss_cons (h a e hq.1) (all_okS h hq.2)) fun Dd σ H h => ?_
    refine TSt.seq (f := evS C.q a) (g := evSs C.q as) ?_
    obtain ⟨ρ, F, rest, l, s, q⟩ := h
    rw [evSs] at q
    exact ⟨ρ, F, rest, l, s, q⟩
theorem Good.tr (G : Good nm E k sui io fx q sc fnb X) (hs : sui = none) (pn : List (Addr × Obj)) (xe : Value → Shared → Prop) : Good nm E k sui io fx q sc fnb (X.tr pn xe) :=
  ⟨G.nd, G.hsc, G.knd, G.fxio, G.calm, G.room, G.un, G.fnb, G.fn, G.fnT, G.blt, G.cst, G.cls, fun c x h => ⟨(G.rai c x h).ex⟩, G.fv, G.fp, G.row, G.sub, fun k2 hk => by
    obtain ⟨_, _, _, _, _, i, e, _⟩ := G.hx k2 hk
    rw [hs] at e; cases e⟩
theorem Good.lent (G : Good nm E k sui io fx q sc fnb X) (hs : sui = none) {j : Nat} {g : List (Nat × V)} (hg : ∀ r ∈ g, r.1 = j) : Good nm E k sui (j :: io) (g ++ fx) q sc fnb X :=
  ⟨G.nd, G.hsc, G.knd, fun p hp => by
    rcases List.mem_append.mp hp with z | z
    · left
      rw [hg p z, List.contains_cons]
      simp
    · rcases G.fxio p z with w | w
      · left
        rw [List.contains_cons, w, Bool.or_true]
      · exact .inr w, G.calm, G.room, G.un, G.fnb, G.fn, G.fnT, G.blt, G.cst, G.cls, G.rai, G.fv, G.fp, G.row, G.sub, fun k2 hk => by
    obtain ⟨_, _, _, _, _, i, e, _⟩ := G.hx k2 hk
    rw [hs] at e; cases e⟩
end
end Bk

/-! Bl: the walk of a dict that is locked meanwhile. -/
namespace Bk
open PySem PySem.Spec PyProof.Rows L2
/-- the frame, as if the thing at d had been locked when it began -/
abbrev lkX (X : Cx) (d : Addr) (fo : HO) : Cx := { X with H_0 := upd X.H_0 d fo }
/-- d is none of what the frame found at its beginning and must keep -/
structure LkOk (X : Cx) (d : Addr) : Prop where
  a : ∀ o, X.s_0.heap.get? d = some o → X.H_0 d = none → d ∉ X.ex → False
  t : ∀ xs, X.H_0 d ≠ some (.tup xs)
  f : ∀ o u, X.H_0 d ≠ some (.frz o u)
  b : ∀ ps, X.H_0 d ≠ some (.tbl ps)
section
variable {X : Cx} {pins : List (Addr × Obj)} {σ : L2.St} {H : Hp} {s : Shared} {d : Addr} {u : HO} {od : Obj}
theorem lkOk (I : Inv X pins σ H s) (h : H d = some u) (mu : L2.Mut (some u)) : LkOk X d where
  a := fun o e n x => by
    have := I.base.free d o e n x
    rw [h] at this; cases this
  t := fun xs e => by
    have := I.base.tups d xs e
    rw [h] at this; cases this; exact mu
  f := I.nofrz h mu
  b := fun ps e => by
    obtain ⟨m, q⟩ := I.base.tbls d ps e
    rw [h] at q; cases q; exact mu
theorem fs_none (I : Inv X pins σ H s) {b : Addr} (hb : b ∈ X.fs) : H b = none := by
  have x := fun z => I.ok.exfs b z hb
  obtain ⟨_, o, e, _⟩ := I.ok.funs.mem hb
  exact I.base.free b o e (I.ok.frf b hb) x
theorem Inv.lk (I : Inv X pins σ H s) (h : H d = some (.frz od u)) (L : LkOk X d) : Inv (lkX X d (.frz od u)) pins σ H s := by
  have e0 : ∀ b, b ≠ d → (lkX X d (.frz od u)).H_0 b = X.H_0 b := fun b z => upd_ne z
  have e1 : (lkX X d (.frz od u)).H_0 d = some (.frz od u) := upd_same
  have ne : ∀ b, H b = none → b ≠ d := fun b e z => by rw [z, h] at e; cases e
  refine ⟨⟨I.ok.mod, I.ok.kind, I.ok.glob, I.ok.blt, I.ok.above, I.ok.inj, I.ok.has, I.ok.cab, I.ok.hd, I.ok.frames, I.ok.stk, I.ok.exf, fun b o e => ⟨(I.ok.bs b o e).1, ?_⟩, I.ok.bsz, I.ok.noex, I.ok.exfs, I.ok.funs, fun b hb => ?_⟩, I.os, I.bare,
    ⟨fun b o e n => ?_, fun b o e n => ?_, fun b o e n => ?_, I.base.there, fun b xs e => ?_, fun b o x e => ?_, fun b ps e => ?_⟩, I.loc, I.cell, I.free, I.freeC, I.pin, I.hok, I.len⟩
  · rw [e0 b (ne b (I.bs b o e).2)]
    exact (I.ok.bs b o e).2
  · rw [e0 b (ne b (fs_none I hb))]
    exact I.ok.frf b hb
  · by_cases z : b = d
    · rw [z, e1] at n; cases n
    · rw [e0 b z] at n; exact I.base.keep b o e n
  · by_cases z : b = d
    · rw [z, e1] at n; cases n
    · rw [e0 b z] at n; exact I.base.slot b o e n
  · by_cases z : b = d
    · rw [z, e1] at n; cases n
    · rw [e0 b z] at n; exact I.base.free b o e n
  · by_cases z : b = d
    · rw [z, e1] at e; cases e
    · rw [e0 b z] at e; exact I.base.tups b xs e
  · by_cases z : b = d
    · rw [z, e1] at e; cases e; rw [z]; exact h
    · rw [e0 b z] at e; exact I.base.frzs b o x e
  · by_cases z : b = d
    · rw [z, e1] at e; cases e
    · rw [e0 b z] at e; exact I.base.tbls b ps e
theorem Inv.lkAt (I : Inv (lkX X d (.frz od u)) pins σ H s) : H d = some (.frz od u) := I.base.frzs d od u (show (lkX X d (.frz od u)).H_0 d = some (.frz od u) from upd_same)
theorem Inv.unlk (ok : X.Ok) (I : Inv (lkX X d (.frz od u)) pins σ H s) (L : LkOk X d) : Inv X pins σ H s := by
  have e0 : ∀ b, b ≠ d → (lkX X d (.frz od u)).H_0 b = X.H_0 b := fun b z => upd_ne z
  refine ⟨ok, I.os, I.bare, ⟨fun b o e n hf hx => ?_, fun b o e n hf hx => ?_, fun b o e n hx => ?_, I.base.there, fun b xs e => ?_, fun b o x e => ?_, fun b ps e => ?_⟩, I.loc, I.cell, I.free, I.freeC, I.pin, I.hok, I.len⟩
  · by_cases z : b = d
    · subst z; exact (L.a o e n hx).elim
    · exact I.base.keep b o e (by rw [e0 b z]; exact n) hf hx
  · by_cases z : b = d
    · subst z; exact (L.a o e n hx).elim
    · exact I.base.slot b o e (by rw [e0 b z]; exact n) hf hx
  · by_cases z : b = d
    · subst z; exact (L.a o e n hx).elim
    · exact I.base.free b o e (by rw [e0 b z]; exact n) hx
  · by_cases z : b = d
    · subst z; exact (L.t xs e).elim
    · exact I.base.tups b xs (by rw [e0 b z]; exact e)
  · by_cases z : b = d
    · subst z; exact (L.f o x e).elim
    · exact I.base.frzs b o x (by rw [e0 b z]; exact e)
  · by_cases z : b = d
    · subst z; exact (L.b ps e).elim
    · exact I.base.tbls b ps (by rw [e0 b z]; exact e)
end
/-- what is locked stays so: told to what follows -/
def tAdd (d : Addr) (fo : HO) (t : TS) : TS := fun D σ H => t ⟨fun σ' H' => H' d = some fo → D.nx σ' H', fun v H' => H' d = some fo → D.rt v H', fun σ' H' => H' d = some fo → D.bk σ' H', fun σ' H' => H' d = some fo → D.ct σ' H'⟩ σ H
def tLockB (t : Addr → Obj → HO → TS) : TS := fun D σ H => ∃ d u, H d = some u ∧ L2.Mut (some u) ∧ ∀ od, t d od u ⟨fun σ' H' => H' d = some (.frz od u) → D.nx σ' (upd H' d u), fun v H' => H' d = some (.frz od u) → D.rt v (upd H' d u), fun σ' H' => H' d = some (.frz od u) → D.bk σ' (upd H' d u), fun σ' H' => H' d = some (.frz od u) → D.ct σ' (upd H' d u)⟩ σ (upd H d (.frz od u))
section
variable {X : Cx}
theorem pss_add {b : List Stmt} {t : TS} {d : Addr} {od : Obj} {u : HO} (h : PSs (lkX X d (.frz od u)) b t) : PSs (lkX X d (.frz od u)) b (tAdd d (.frz od u) t) := by
  refine ⟨fun pins s σ H D I hw => thn (h.run pins s σ H _ I hw) fun f s1 q => ?_⟩
  cases f with
  | next => obtain ⟨σ', H', I2, q⟩ := q; exact ⟨σ', H', I2, q (Inv.lkAt I2)⟩
  | brk => obtain ⟨σ', H', I2, q⟩ := q; exact ⟨σ', H', I2, q (Inv.lkAt I2)⟩
  | cont => obtain ⟨σ', H', I2, q⟩ := q; exact ⟨σ', H', I2, q (Inv.lkAt I2)⟩
  | ret v => obtain ⟨x, σ', H', I2, r, q⟩ := q; exact ⟨x, σ', H', I2, r, q (Inv.lkAt I2)⟩
theorem ps_lockB {st : Stmt} {t : Addr → Obj → HO → TS} (h : ∀ d od u, PS (lkX X d (.frz od u)) st (t d od u)) : PS X st (tLockB t) := by
  refine ⟨fun pins s σ H D I hw => ?_⟩
  obtain ⟨d, u, hd, mu, hw⟩ := hw
  have L := lkOk I hd mu
  have nf := I.nofrz hd mu
  obtain ⟨od, I1⟩ := I.lock hd mu
  have I2 := Inv.lk I1 upd_same L
  refine thn ((h d od u).run pins s σ _ _ I2 (hw od)) fun f s1 q => ?_
  cases f with
  | next => obtain ⟨σ', H', I2, q⟩ := q; have e := Inv.lkAt I2; exact ⟨σ', _, (Inv.unlk I.ok I2 L).unlock e nf, q e⟩
  | brk => obtain ⟨σ', H', I2, q⟩ := q; have e := Inv.lkAt I2; exact ⟨σ', _, (Inv.unlk I.ok I2 L).unlock e nf, q e⟩
  | cont => obtain ⟨σ', H', I2, q⟩ := q; have e := Inv.lkAt I2; exact ⟨σ', _, (Inv.unlk I.ok I2 L).unlock e nf, q e⟩
  | ret v => obtain ⟨x, σ', H', I2, r, q⟩ := q; have e := Inv.lkAt I2; exact ⟨x, σ', _, (Inv.unlk I.ok I2 L).unlock e nf, r, q e⟩
end
/-- what a dict's walk tells -/
structure WalkD (J : It) (a : Addr) (fo : HO) (ks : List D) : Prop where
  go : ∀ i H, H a = some fo → i < ks.length → J.go i H
  stop : ∀ i H, H a = some fo → ks.length ≤ i → J.stop i H
  yld : ∀ i H x H', J.yld i H x H' → H' = H ∧ ∀ (K : Wd) (F : Addr → Prop) (y : D), ks[i]? = some y → Val K H F y x
theorem val_key {K : Wd} {H : Hp} {F : Addr → Prop} {d : D} {k : Key} (h : keyOf d = some k) : Val K H F d (kV k) := by
  cases d <;> simp only [keyOf, reduceCtorEq, Option.some.injEq] at h
  · subst h; unfold Val; rfl
  · subst h; unfold Val; rfl
theorem vals_key {K : Wd} {H : Hp} {F : Addr → Prop} : ∀ {ds : List D} {ks : List Key}, keysOf ds = some ks → ValL K H F ds (ks.map kV)
  | [], ks, h => by cases h; exact ValL.nil
  | d :: ds, ks, h => by
    simp only [keysOf] at h
    split at h
    · rename_i k l h1 h2
      cases h
      exact ValL.cons (val_key h1) (vals_key h2)
    · cases h
theorem zip_fst {α β : Type} {l : List α} {m : List β} {i : Nat} {a : α} {b : β} (h : (l.zip m)[i]? = some (a, b)) : l[i]? = some a := by
  rw [List.getElem?_zip_eq_some] at h
  exact h.1
theorem DAt.walk {w : World} {H : Hp} {a : Addr} {k : Nat} {ks : List D} {us : List V} (hk : k < 2) (h : DAt w H a k ks us) : ∃ u, H a = some u ∧ L2.Mut (some u) ∧ (∀ (H' : Hp) (od : Obj), H' a = some (.frz od u) → DAt w H' a (k + 10) ks us) ∧
    (∀ (H' : Hp) (od : Obj) (ks' : List D) (us' : List V), H' a = some (.frz od u) → DAt w H' a (k + 10) ks' us' → DAt w (upd H' a u) a k ks' us') ∧
    (∀ (H' : Hp) (od : Obj) (R : It → Hp → Prop), H' a = some (.frz od u) → (∀ J, WalkD J a (.frz od u) ks → R J H') → (∃ kvs, H' a = some (.frz od (.dK kvs)) ∧ R (Itk a od kvs) H') ∨ ∃ kvs, H' a = some (.frz od (.dT kvs)) ∧ R (Itkt a od kvs) H') := by
  have key : ∀ {α : Type} {kf : D → Option α} {kk : List α} {i : Nat} {y : D} {x : α}, ks.map kf = kk.map some → kk[i]? = some x → ks[i]? = some y → kf y = some x := fun {α kf kk i y x} e h1 h2 => by
    have h3 : (ks.map kf)[i]? = (kk.map some)[i]? := by rw [e]
    rw [List.getElem?_map, List.getElem?_map, h1, h2] at h3
    exact Option.some.inj h3
  match k, hk, h with
  | 0, _, ⟨l, kk, e, ha⟩ =>
    have hl : kk.length = ks.length := by have := congrArg List.length e; simpa using this.symm
    have hz : (kk.zip us).length = ks.length := by rw [List.length_zip]; omega
    refine ⟨_, ha, trivial, fun H' od h => ⟨l, kk, e, od, h⟩, fun H' od ks' us' h h2 => ?_, fun H' od R h hR => .inl ⟨_, h, hR _ ⟨fun i H h1 h2 => ⟨h1, by omega⟩, fun i H h1 h2 => ⟨h1, by omega⟩, fun i H x H2 hy => ⟨hy.1, fun K F y hy2 => ?_⟩⟩⟩⟩
    · obtain ⟨l2, kk2, e2, od2, h3⟩ := h2
      rw [h] at h3
      injection h3 with h3
      injection h3 with _ h3
      exact ⟨l2, kk2, e2, by rw [upd_same, h3]⟩
    · obtain ⟨_, k', v, h1, rfl⟩ := hy
      exact val_key (key e (zip_fst h1) hy2)
  | 1, _, ⟨l, kk, e, ha⟩ =>
    have hl : kk.length = ks.length := by have := congrArg List.length e; simpa using this.symm
    have hz : (kk.zip us).length = ks.length := by rw [List.length_zip]; omega
    refine ⟨_, ha, trivial, fun H' od h => ⟨l, kk, e, od, h⟩, fun H' od ks' us' h h2 => ?_, fun H' od R h hR => .inr ⟨_, h, hR _ ⟨fun i H h1 h2 => ⟨h1, by omega⟩, fun i H h1 h2 => ⟨h1, by omega⟩, fun i H x H2 hy => ⟨hy.1, fun K F y hy2 => ?_⟩⟩⟩⟩
    · obtain ⟨l2, kk2, e2, od2, h3⟩ := h2
      rw [h] at h3
      injection h3 with h3
      injection h3 with _ h3
      exact ⟨l2, kk2, e2, by rw [upd_same, h3]⟩
    · obtain ⟨_, k', v, q0, h1, rfl, hq⟩ := hy
      obtain ⟨xs, rfl, e4, c⟩ := keyTOf_some (key e (zip_fst h1) hy2)
      unfold Val
      exact ⟨q0, _, rfl, .inl (.inl hq), .inr hq, vals_key e4⟩
theorem Good.lk {nm : Nm} {E : Wo} {n : Nat} {io : List Nat} {fx : List (Nat × V)} {q : En} {sc : Scope} {fnb : Str → Bool} {X : Cx} (G : Good nm E n none io fx q sc fnb X) (d : Addr) (fo : HO) : Good nm E n none io fx q sc fnb (lkX X d fo) :=
  ⟨G.nd, G.hsc, G.knd, G.fxio, G.calm, G.room, G.un, G.fnb, G.fn, G.fnT, G.blt, G.cst, G.cls, fun c x h => ⟨(G.rai c x h).ex⟩, G.fv, G.fp, G.row, G.sub, fun k2 hk => by
    obtain ⟨_, _, _, _, _, i, e, _⟩ := G.hx k2 hk
    cases e⟩
section
variable {E : Wo} {fx : List (Nat × V)} {q : En} {X : Cx} {W : WX} {Dd : Ends} {σ : L2.St} {H : Hp}
theorem forD_t {i : Nat} {tg : Tg} {b : List S} (hi : ∀ j ∈ tg.slots, j < X.N.length) (hf : Off fx tg.slots) (hne : ∀ j ∈ tg.slots, j ≠ i) (h : TSt (cn E X fx q W) (evS q (.forD i tg b)) Dd σ H) :
    tLockB (fun d od u => tFor (iKeys (tPl ⟨i, none⟩)) (gT X.K tg) (tAdd d (.frz od u) (TSt (cn E (lkX X d (.frz od u)) ((i, .ref d) :: fx) q (fun _ _ _ _ => False)) (evSs q b)))) Dd σ H := by
  obtain ⟨ρ, F, rest, l, s, qq⟩ := h
  rw [evS] at qq
  split at qq
  case h_2 => exact qq.elim
  rename_i k ks vs hx
  split at qq
  case isFalse => exact qq.elim
  rename_i hk
  have hir : i < ρ.length := (List.getElem?_eq_some_iff.mp hx).1
  have his : i < σ.length := by rw [l.s, ← l.r]; exact hir
  have ht : (Pl.mk i none).take ρ = .ok (.dct k ks vs, ρ.set i .un) := by unfold Pl.take; simp only [hx]
  have hv : σ[i]? = some σ[i] := List.getElem?_eq_getElem his
  have s1 := Pl.take_sep ht hv (A := []) s
  rw [List.nil_append] at s1
  obtain ⟨a, us, ea, da, vl⟩ := s1.head_ownD
  rw [ea] at s1 hv
  obtain ⟨u, hu, mu, lockF, unlF, walkF⟩ := da.walk hk
  refine ⟨a, u, hu, mu, fun od => ?_⟩
  have hσ : σ.set i (some (.ref a)) = σ := by
    apply List.ext_getElem?
    intro j
    by_cases e : j = i
    · subst e; rw [List.getElem?_set_self his, hv]
    · rw [List.getElem?_set_ne (fun z => e z.symm)]
  have s2 : Sep (wd E X) (upd H a (.frz od u)) F ((.own (.dct (k + 10) ks vs), some (.ref a)) :: (zp (ρ.set i .un) σ ++ rest)) := s1.writeD fun _ pr => by
    unfold OwnD
    exact ⟨a, us, rfl, lockF _ od upd_same, vl.mono (fun _ z => z) pr, rfl⟩
  have s3 := s2.setSlot (i := i) (by rw [List.length_set]; exact hir) his
  rw [hσ, List.set_set] at s3
  obtain ⟨ρ1, hρ1⟩ : ∃ x, x = ρ.set i (.own (.dct (k + 10) ks vs)) := ⟨_, rfl⟩
  rw [← hρ1] at s3 qq
  have lX : ∀ {ρ : Rho} {σ : L2.St}, Ln (cn E (lkX X a (.frz od u)) ((i, .ref a) :: fx) q (fun _ _ _ _ => False)) ρ σ → Ln (cn E X fx q W) ρ σ ∧ σ[i]? = some (some (.ref a)) := fun {ρ σ} l => ⟨⟨l.r, l.s, fun p hp => l.f p (List.mem_cons_of_mem _ hp)⟩, l.f (i, .ref a) List.mem_cons_self⟩
  have l1 : Ln (cn E (lkX X a (.frz od u)) ((i, .ref a) :: fx) q (fun _ _ _ _ => False)) ρ1 σ := ⟨by rw [hρ1, List.length_set]; exact l.r, l.s, fun p hp => by
    rcases List.mem_cons.mp hp with rfl | hp
    · exact hv
    · exact l.f p hp⟩
  -- behind the last turn
  have fin : ∀ (ρ2 : Rho) (σ2 : L2.St) (H2 : Hp) (F2 : Addr → Prop), Ln (cn E (lkX X a (.frz od u)) ((i, .ref a) :: fx) q (fun _ _ _ _ => False)) ρ2 σ2 → Sep (wd E X) H2 F2 (zp ρ2 σ2 ++ rest) → H2 a = some (.frz od u) → OQ (cn E X fx q W) Dd rest (unlk i k (.nx ρ2)) → Dd.nx σ2 (upd H2 a u) := fun ρ2 σ2 H2 F2 l2 s2 h2 q2 => by
    obtain ⟨l3, hv2⟩ := lX l2
    unfold unlk at q2
    simp only at q2
    split at q2
    case h_2 => exact q2.elim
    rename_i t' ks' vs' hx2
    split at q2
    case isFalse => exact q2.elim
    rename_i et
    subst et
    have hir2 : i < ρ2.length := (List.getElem?_eq_some_iff.mp hx2).1
    have his2 : i < σ2.length := (List.getElem?_eq_some_iff.mp hv2).1
    have ht2 : (Pl.mk i none).take ρ2 = .ok (.dct (k + 10) ks' vs', ρ2.set i .un) := by unfold Pl.take; simp only [hx2]
    have s4 := Pl.take_sep ht2 hv2 (A := []) s2
    rw [List.nil_append] at s4
    obtain ⟨a', us', ea', da', vl'⟩ := s4.head_ownD
    cases ea'
    have s5 : Sep (wd E X) (upd H2 a u) F2 ((.own (.dct k ks' vs'), some (.ref a)) :: (zp (ρ2.set i .un) σ2 ++ rest)) := s4.writeD fun _ pr => by
      unfold OwnD
      exact ⟨a, us', rfl, unlF _ od _ _ h2 da', vl'.mono (fun _ z => z) pr, rfl⟩
    have s6 := s5.setSlot (i := i) (by rw [List.length_set]; exact hir2) his2
    have hσ2 : σ2.set i (some (.ref a)) = σ2 := by
      apply List.ext_getElem?
      intro j
      by_cases e : j = i
      · subst e; rw [List.getElem?_set_self his2, hv2]
      · rw [List.getElem?_set_ne (fun z => e z.symm)]
    rw [hσ2, List.set_set] at s6
    exact q2 _ _ F2 (l3.to (by rw [List.length_set])) s6
  have offg : Off ((i, V.ref a) :: fx) tg.slots := fun j hj r hr => by
    rcases List.mem_cons.mp hr with rfl | hr
    · exact fun z => hne j hj z.symm
    · exact hf j hj r hr
  have wI : ∀ R : It → Hp → Prop, (∀ J, WalkD J a (.frz od u) ks → R J (upd H a (.frz od u))) → iKeys (tPl ⟨i, none⟩) σ (upd H a (.frz od u)) R := fun R hR => ⟨_, hv, a, od, rfl, walkF _ od R upd_same hR⟩
  unfold tFor
  refine wI _ fun J wJ => ?_
  refine ⟨fun j m σ H => m = ks.length - j ∧ j ≤ ks.length ∧ H a = some (.frz od u) ∧ ∃ ρ F, Ln (cn E (lkX X a (.frz od u)) ((i, .ref a) :: fx) q (fun _ _ _ _ => False)) ρ σ ∧ Sep (wd E X) H F (zp ρ σ ++ rest) ∧ OQ (cn E X fx q W) Dd rest (unlk i k (forL (fun x ρ => ((setT tg x ρ).at ρ).thn fun ρ _ => evSs q b ρ) (ks.drop j) ρ)),
    ⟨ks.length, by simp, Nat.zero_le _, upd_same, ρ1, F, l1, s3, qq⟩, ?_⟩
  rintro j m σ2 H2 ⟨rfl, hle, h2, ρj, F2, lj, sj, qj⟩
  by_cases hlt : j < ks.length
  case neg =>
    have e : j = ks.length := by omega
    subst e
    rw [List.drop_length] at qj
    exact .inl ⟨wJ.stop _ _ h2 (Nat.le_refl _), fun h3 => fin ρj σ2 H2 F2 lj sj h3 qj⟩
  rw [List.drop_eq_getElem_cons hlt] at qj
  unfold forL at qj
  refine .inr ⟨wJ.go _ _ h2 hlt, fun σ' H' => H' a = some (.frz od u) ∧ ∃ ρ F, Ln (cn E (lkX X a (.frz od u)) ((i, .ref a) :: fx) q (fun _ _ _ _ => False)) ρ σ' ∧ Sep (wd E X) H' F (zp ρ σ' ++ rest) ∧ OQ (cn E X fx q W) Dd rest (unlk i k (forL (fun x ρ => ((setT tg x ρ).at ρ).thn fun ρ _ => evSs q b ρ) (ks.drop (j + 1)) ρ)),
    fun σ' H' nx => ⟨ks.length - (j + 1), by omega, rfl, hlt, nx.1, nx.2⟩, fun x H3 yl => ?_⟩
  obtain ⟨rfl, vx⟩ := wJ.yld _ _ _ _ yl
  have vx := vx (wd E X) F2 _ (List.getElem?_eq_getElem hlt)
  cases eset : setT tg ks[j] ρj with
  | stuck => rw [eset] at qj; exact qj.elim
  | ok ρs =>
    rw [eset] at qj
    replace qj : OQ (cn E X fx q W) Dd rest (unlk i k ((evSs q b ρs).turn (forL (fun x ρ => ((setT tg x ρ).at ρ).thn fun ρ _ => evSs q b ρ) (ks.drop (j + 1))))) := qj
    refine tgt_ok (C := cn E (lkX X a (.frz od u)) ((i, .ref a) :: fx) q (fun _ _ _ _ => False)) (K := wd E X) eset hi offg lj sj vx fun σ3 l3 s4 _ => ?_
    refine ⟨ρs, F2, _, l3, s4, ?_⟩
    cases eb : evSs q b ρs with
    | nx ρ2 => rw [eb] at qj; exact fun σ' H' F' l' s' h' => ⟨h', ρ2, F', l', s', qj⟩
    | cont ρ2 => rw [eb] at qj; exact fun σ' H' F' l' s' h' => ⟨h', ρ2, F', l', s', qj⟩
    | brk ρ2 => rw [eb] at qj; exact fun σ' H' F' l' s' h' h3 => fin ρ2 σ' H' F' l' s' h' qj
    | ret d ρ2 => rw [eb] at qj; exact qj.elim
    | exc c ρ2 => rw [eb] at qj; exact qj.elim
    | stuck => rw [eb] at qj; exact qj.elim
end
end Bk

/-! B13: every statement is sound. -/
namespace Bk
open PySem PySem.Spec PyProof.Rows L2

section
variable {nm : Nm} {E : Wo} {k : Nat} {q : En}
theorem TSt.plain {C : Cn} {f : Rho → O} {g : Rho → O} (h : ∀ ρ, f ρ = g ρ) {Dd : Ends} {σ : L2.St} {H : Hp} (t : TSt C f Dd σ H) : TSt C g Dd σ H := by
  obtain ⟨ρ, F, rest, l, s, qq⟩ := t
  rw [h] at qq
  exact ⟨ρ, F, rest, l, s, qq⟩
/-- where the try's parts run -/
structure Top (X : Cx) : Prop where
  st : X.stack = X.env :: X.outer
  fr : X.env.frame = some X.env.locals
/-- what a function that was handed in promises -/
def spN (K : Wd) (r : List D → Rs) (ws : List (Option V)) : Sp := fun vs H Q E => ∃ v vsc, vs = [v] ∧ ws = vsc.map some ∧ spD K [] r (v :: vsc) H Q E
/-- what is known of the function that was handed in -/
def CloOk (E : Wo) (k : Nat) (q : En) (X : Cx) : Prop := ∀ c, E.cf = some c → ∃ ps fr, NdefX.NOk X.prog X.w X.K X.mg X.base (L2.CX X.prog X.w) k c.f c.F ps fr (spN (wd E X) (q.F c.j)) ∧ NdefX.CellsAt c.F.cl fr (c.ws.map some) X.s_0.heap X.H_0 ∧ (∀ y a, c.F.cl.lookup y = some a → a ∉ X.fs) ∧ X.ex = []
def SOk (nm : Nm) (E : Wo) (k : Nat) (q : En) (io : List Nat) (sui : Option Nat) (sc : Scope) (N : List Str) (s : S) (st : Stmt) : Prop :=
  ∀ (fx : List (Nat × V)) (X : Cx) (W : WX), X.N = N → Good nm E k sui io fx q sc nm.fb X → Takes X W → PassesOwn (model X.prog X.w) X.A X.env X.xe → Top X → (nm.clo = true → sui = none → CloOk E k q X) → PS X st (TSt (cn E X fx q W) (evS q s))
/-- the clauses -/
theorem hds_ok {io : List Nat} {sc : Scope} {fx : List (Nat × V)} {X : Cx} {g : List S → List Stmt → Bool} (G : Good nm E k none io fx q sc nm.fb X)
    (hg : ∀ {h : List S} {b : Stmt} {bs : List Stmt} {c : Nat} {kc : Nat} {a : Addr} {oe : Obj} {pn : List (Addr × Obj)}, g h (b :: bs) = true → (q.su kc c).isSome = true → Zc (E.xc kc) none oe → (∃ vs, oe.data = .fields vs) →
      PSs (X.suite a ((a, oe) :: pn)) (b :: bs) (TSt (cn E X fx { q with hx := some kc } W0) (evSs { q with hx := some kc } h))) :
    ∀ {cs : List Nat} {hs : List (List S)} {es : List ExceptHandler}, cmHs nm g sc cs hs es = true → HdsOk X es (hdL E X fx q cs hs) ∧ cs.length = hs.length
  | [], [], [], _ => ⟨.nil, rfl⟩
  | c :: cs, h :: hs, e :: es, hh => by
    unfold cmHs at hh
    split at hh
    · cases ‹_ = []›
    · rename_i c' cs' h' hs' x b bs p es' e1 e2 e3
      cases e1; cases e2; cases e3
      simp only [Bool.and_eq_true] at hh
      obtain ⟨⟨h1, h2⟩, h3⟩ := hh
      obtain ⟨y, p', rfl, hn⟩ := cls_names G h1
      obtain ⟨r, hl⟩ := hds_ok G hg h3
      refine ⟨.cons hn (fun a oe cls d pn hz hf => ⟨fun pins s σ H D I t => ?_⟩) r, by simp [hl]⟩
      obtain ⟨kc, e1, e2, hsu, t⟩ := t
      subst e1; subst e2
      exact (hg h2 hsu hz hf).run pins s σ H D I t
    · cases hh
  | [], [], _ :: _, h => by cases h
  | [], _ :: _, _, h => by cases h
  | _ :: _, [], _, h => by cases h
  | _ :: _, _ :: _, [], h => by cases h
theorem sw_inv {sc : Scope} {g e : Expr} (h : swOk sc g e = some true) : ∃ y py e' gs s p2, g = .Name y py ∧ e = .ListComp e' gs s p2 ∧ sc.names.lookup y = some .local ∧ (py.line == p2.line) = true ∧ (s.names.any fun (n, k) => n == y && (k == .local || k == .cell)) = false := by
  unfold swOk at h
  split at h
  · rename_i y py e' gs s p2
    split at h
    · rename_i hy
      split at h
      · cases h
      · rename_i hn
        split at h
        · rename_i hc
          exact ⟨y, py, e', gs, s, p2, rfl, rfl, eq_of_beq hy, hc, by simpa using hn⟩
        · cases h
    · split at h <;> cases h
  · cases h
  · split at h <;> cases h
  · split at h <;> cases h
  · cases h
theorem comp_inv2 {N : List Str} {io : List Nat} {sui : Option Nat} {n : Nat} {sc : Scope} {elt it : P} {tg : Tg} {cond : Option P} {e : Expr} (h : cmP nm N io sui n sc .val (.comp elt tg it cond) e = true) :
    ∃ e' t it' ifs scope pos, e = .ListComp e' [⟨t, it', ifs, 0⟩] scope pos := by
  cases n with
  | zero => cases h
  | succ n =>
    simp only [cmP] at h
    split at h
    · exact ⟨_, _, _, _, _, _, rfl⟩
    · cases h
theorem comp_inv {N : List Str} {io : List Nat} {sui : Option Nat} {n : Nat} {sc scope : Scope} {p : P} {e : Expr} {gs : List Comprehension} {pos : Pos} (h : cmP nm N io sui n sc .val p (.ListComp e gs scope pos) = true) (hf : fresh p = true) :
    ∃ elt tg it cond t it' ifs, p = .comp elt tg it cond ∧ gs = [⟨t, it', ifs, 0⟩] := by
  cases n with
  | zero => cases h
  | succ n =>
    cases p <;> first | (cases hf; done) | skip
    case op p as =>
      simp only [cmP, args?] at h
      cases h
    case dnew t =>
      simp only [cmP] at h
      cases h
    case comp elt tg it cond =>
      rcases gs with _ | ⟨⟨t, it', ifs, a⟩, _ | ⟨g2, r⟩⟩
      · simp only [cmP] at h; cases h
      · by_cases ha : a = 0
        · subst ha
          exact ⟨elt, tg, it, cond, t, it', ifs, rfl, rfl⟩
        · simp only [cmP] at h
          split at h
          · rename_i e1
            simp at e1
            exact (ha (by simp_all)).elim
          · cases h
      · simp only [cmP] at h; cases h
section
variable {fx : List (Nat × V)} {X : Cx} {W : WX} {Dd : Ends} {σ : L2.St} {H : Hp}
theorem box_at {K : Wd} {F : Addr → Prop} {ρ : Rho} {rest : Things} {i : Nat} {xs : List D} (hx : ρ[i]? = some (.fz (.box (.tup xs)))) (hl : ρ.length = σ.length) (s : Sep K H F (zp ρ σ ++ rest)) : ∃ c, K.cf = some c ∧ σ[i]? = some (some (.ref c.f)) ∧ F c.f ∧ H c.f = some (NdefX.FnO c.f c.F) ∧ H c.F.c = some (LamX.CodeO c.F.c c.F.qual) ∧ ValL K H F xs (.int (c.j : Nat) :: c.ws) := by
  have hi : i < σ.length := by rw [← hl]; exact (List.getElem?_eq_some_iff.mp hx).1
  have hv : σ[i]? = some σ[i] := List.getElem?_eq_getElem hi
  obtain ⟨w, e, vx⟩ := s.mem_val (List.mem_append_left _ (zp_mem hx hv))
  unfold Val at vx
  obtain ⟨c, e1, e2, f, t, _, t2, l⟩ := vx
  exact ⟨c, e1, by rw [hv, e, e2], f, t, t2, l⟩
theorem asgC_no {p i : Nat} {e : P} (hc : E.cf = none) (h : TSt (cn E X fx q W) (evS q (.asgC p i e)) Dd σ H) : False := by
  obtain ⟨ρ, F, rest, l, s, qq⟩ := h
  rw [evS] at qq
  split at qq
  · rename_i hb
    unfold isBox at hb
    split at hb
    · rename_i xs hx
      obtain ⟨c, e1, _⟩ := box_at hx (by rw [l.r, l.s]) s
      have e1 : E.cf = some c := e1
      rw [hc] at e1; cases e1
    · cases hb
  · exact qq
theorem asgC_t {p i : Nat} {e : P} {c : Clo} (hc : E.cf = some c) (hb : noBor [e] = true) (hio : noIo [e] = true) (hi : p < X.N.length) (hf : ∀ r ∈ fx, r.1 ≠ p) (h : TSt (cn E X fx q W) (evS q (.asgC p i e)) Dd σ H) :
    NdefX.tCallC c.f c.F (c.ws.map some) i (spN (wd E X) (q.F c.j)) (WE W) (TAs (cn E X fx q W) [e]) σ H fun x H2 => gName p x σ H2 Dd.nx := by
  obtain ⟨ρ, F, rest, l, s, qq⟩ := h
  rw [evS] at qq
  split at qq
  case isFalse => exact qq.elim
  rename_i hbx
  unfold isBox at hbx
  split at hbx
  case h_2 => cases hbx
  rename_i xs0 hx0
  obtain ⟨c', e1, v0, _, t0, _, _⟩ := box_at hx0 (by rw [l.r, l.s]) s
  have e1 : E.cf = some c' := e1
  rw [hc] at e1
  cases e1
  have hkd : e.kd = .val := by
    have hv := noIoBor hio hb
    cases e <;> first | rfl | cases hv
  have q1 : EQ (cn E X fx q W) rest σ (evAs q [e] ρ) fun ds ρ => ∃ d, ds = [d] ∧ OQ (cn E X fx q W) Dd rest (evC q p i d ρ) := by
    have q0 := OQ.thn (σ := σ) qq
    rw [evAs, hkd]
    simp only
    rw [EQ.bind]
    refine q0.imp fun d ρ1 ed q2 => ?_
    rw [evAs]
    exact ⟨d, rfl, q2⟩
  refine ⟨v0, t0, ρ, F, rest, l, s, q1.imp fun ds ρ1 eds q2 vs H2 F2 s2 lay => ?_⟩
  obtain ⟨d, rfl, q2⟩ := q2
  have l1 := l.to (evAs_ok_len eds)
  obtain ⟨h1, h2⟩ := lay.lens
  obtain ⟨v, rfl⟩ : ∃ v, vs = [v] := by
    match vs, h2 with
    | [v], _ => exact ⟨v, rfl⟩
  have ea : AT [e] [d] [v] = [(.fz d, some v)] := by simp [AT, hkd]
  rw [ea] at s2
  have s3 : Sep (wd E X) H2 F2 (zp ρ1 σ ++ ([(.fz d, some v)] ++ rest)) := s2.perm (by
    rw [← List.append_assoc, ← List.append_assoc]
    exact List.Perm.append_right rest List.perm_append_comm)
  unfold evC at q2
  split at q2
  case h_2 => exact q2.elim
  rename_i j caps hx1
  obtain ⟨c2, e2, v1, f1, t1, tc, vl⟩ := box_at hx1 (by rw [l1.r, l1.s]) s3
  have e2 : E.cf = some c2 := e2
  rw [hc] at e2
  cases e2
  unfold ValL at vl
  obtain ⟨w, r, ew, vw, vl⟩ := vl
  cases ew
  unfold Val at vw
  cases vw
  rw [Int.toNat_natCast] at q2
  have cl := vl.length
  have pt : PT' [] 0 (d :: caps) (v :: c.ws) = PT' [] 0 (d :: caps) (v :: c.ws) := rfl
  refine ⟨t1, tc, v, c.ws, rfl, rfl, F2, d :: caps, zp ρ1 σ ++ rest, by simp [cl], ?_, ?_⟩
  · have key : ∀ (ds : List D) (us : List V) (k : Nat) (ts : Things), ValL (wd E X) H2 F2 ds us → Sep (wd E X) H2 F2 ts → Sep (wd E X) H2 F2 (PT' [] k ds us ++ ts) := by
      intro ds
      induction ds with
      | nil => intro us k ts h hs; simpa [PT'] using hs
      | cons x xs ih =>
        intro us k ts h hs
        unfold ValL at h
        obtain ⟨u, r, rfl, a, b⟩ := h
        have := (ih r (k + 1) ts b hs).push a
        simpa [PT'] using this
    have s4 := key caps c.ws 1 _ vl s2
    have : PT' [] 0 (d :: caps) (v :: c.ws) ++ (zp ρ1 σ ++ rest) = (.fz d, some v) :: (PT' [] 1 caps c.ws ++ (zp ρ1 σ ++ rest)) := by simp [PT']
    rw [this]
    exact s4.perm List.perm_middle
  · unfold asgCR at q2
    cases er : q.F c.j (d :: caps) with
    | stuck => rw [er] at q2; exact q2.elim
    | ok d2 os =>
      rw [er] at q2
      cases os with
      | cons _ _ => exact q2.elim
      | nil =>
        refine ⟨rfl, fun w H3 F3 s5 => ?_⟩
        have s6 : Sep (wd E X) H3 F3 ((.fz d2, some w) :: (zp ρ1 σ ++ rest)) := s5
        have s7 := s6.setSlot (i := p) (by rw [l1.r]; exact hi) (by rw [l1.s]; exact hi)
        exact q2 _ H3 F3 (l1.set (s := .fz d2) (o := some w) hf) s7
    | exc c2 os =>
      rw [er] at q2
      cases os with
      | cons _ _ => exact q2.elim
      | nil =>
        refine ⟨rfl, fun H3 F3 s5 => ?_⟩
        exact q2 σ H3 F3 l1 s5
end
theorem sndS : ∀ (n : Nat) {q : En} {io : List Nat} {sui : Option Nat} {sc : Scope} {N : List Str} {s : S} {st : Stmt}, cmS nm N n io sui sc s st = true → SOk nm E k q io sui sc N s st
  | 0, _, _, _, _, _, _, _, h => by cases h
  | n + 1, q, io, sui, sc, N, s, st, h => by
    intro fx X W eN G tk po tp clo
    subst eN
    have pss : ∀ {q : En} {io : List Nat} {sui : Option Nat} {fx : List (Nat × V)} {Y : Cx} {W : WX} {a : List S} {x : List Stmt}, Y.N = X.N → Good nm E k sui io fx q sc nm.fb Y → Takes Y W → PassesOwn (model Y.prog Y.w) Y.A Y.env Y.xe → Top Y → (nm.clo = true → sui = none → CloOk E k q Y) →
        cmAllS (cmS nm X.N n io sui sc) a x = true → PSs Y x (TSt (cn E Y fx q W) (evSs q a)) := fun {q io sui fx Y W a x} e G tk po tp clo h =>
      all_okS (C := cn E Y fx q W) (fun s st h => sndS n h fx Y W e G tk po tp clo) h
    have pe : ∀ {p : P} {e : Expr}, cmP nm X.N io sui n sc .val p e = true → PE X e (TV (cn E X fx q W) false p) := fun h => snd n (m := .val) G tk h false (fun z => by cases z)
    unfold cmS at h
    split at h
    · -- asg
      rename_i tg p g e pos
      simp only [Bool.and_eq_true] at h
      obtain ⟨⟨h1, h2⟩, h3⟩ := h
      obtain ⟨hg, hi, hf⟩ := pg_ok G h1
      split at h3
      · rename_i hsw
        exact ps_imp (asg_plain (tg := tg) G.hsc hsw (pe h2) hg) fun Dd σ H t => asg_t hi hf t
      · rename_i hsw
        simp only [Bool.and_eq_true] at h3
        obtain ⟨y, py, e', gs, s2, p2, rfl, rfl, hyl, hln, hno⟩ := sw_inv hsw
        obtain ⟨elt, tg', it, cond, t, it', ifs, rfl, rfl⟩ := comp_inv h2 h3.2
        cases tg with
        | t is => cases h3.1
        | v i =>
          have hN : X.N[i]? = some y := by
            have h1 : (isLoc X.N sc nm.fb i y && !io.contains i && decide (sui ≠ some i)) = true := h1
            unfold isLoc at h1
            simp only [Bool.and_eq_true, decide_eq_true_eq] at h1
            exact h1.1.1.1
          exact ps_imp (comp_set (o := false) G tk hN hyl hln hno h2) fun Dd σ H t => asg_t hi hf t
      · cases h3
    · -- own
      rename_i i p x px e pos
      simp only [Bool.and_eq_true] at h
      obtain ⟨⟨⟨h1, h2⟩, h3⟩, h4⟩ := h
      obtain ⟨hg, hi, hf⟩ := pg_ok G h1
      obtain ⟨ob, hsw⟩ := Option.isSome_iff_exists.mp h4
      have hi' : i < X.N.length := hi i List.mem_cons_self
      have hf' : ∀ r ∈ fx, r.1 ≠ i := hf i List.mem_cons_self
      cases ob with
      | false =>
        exact ps_imp (asg_plain (tg := .v i) G.hsc hsw (snd n (m := .val) G tk h3 true (fun _ => h2)) hg) fun Dd σ H t => own_t hi' hf' t
      | true =>
        obtain ⟨y, py, e', gs, s2, p2, e1, rfl, hyl, hln, hno⟩ := sw_inv hsw
        obtain ⟨rfl, rfl⟩ := Expr.Name.inj e1
        obtain ⟨elt, tg', it, cond, t, it', ifs, rfl, rfl⟩ := comp_inv h3 h2
        have hN : X.N[i]? = some x := by
          have h1 : (isLoc X.N sc nm.fb i x && !io.contains i && decide (sui ≠ some i)) = true := h1
          unfold isLoc at h1
          simp only [Bool.and_eq_true, decide_eq_true_eq] at h1
          exact h1.1.1.1
        exact ps_imp (comp_set (o := true) G tk hN hyl hln hno h3) fun Dd σ H t => own_t hi' hf' t
    · -- rnew
      rename_i i x px y yp cp pos
      simp only [Bool.and_eq_true, decide_eq_true_eq, Option.isNone_iff_eq_none] at h
      obtain ⟨⟨⟨⟨⟨h0, h1⟩, h2⟩, h3⟩, h4⟩, h5⟩ := h
      subst h3
      obtain ⟨hg, hi, hf⟩ := pg_ok G h1
      obtain ⟨hr, C, fI, fP, fT, fdI, fdP, fdT, R, FI, FP, FT⟩ := G.row h0 h4
      obtain ⟨gl, gd⟩ := isGl_gl G h2
      exact ps_imp (asg_plain (tg := .v i) G.hsc h5 (pe_make0 (E := fun _ _ _ => False) R.mkr FI hr gl R.g R.bI .nil pass0 gd) hg) fun Dd σ H t => rnew_t R (hi i List.mem_cons_self) (hf i List.mem_cons_self) t
    · -- a list of new lists
      rename_i i p x px e pos
      simp only [Bool.and_eq_true, decide_eq_true_eq] at h
      obtain ⟨⟨⟨h1, h2⟩, h3⟩, h4⟩ := h
      obtain ⟨hg, hi, hf⟩ := pg_ok G h1
      obtain ⟨ob, h4⟩ := Option.isSome_iff_exists.mp h4
      unfold isLLc at h2
      split at h2
      · rename_i elt tg' it
        cases ob with
        | false =>
          obtain ⟨e', t, it', ifs, scope, pos2, rfl⟩ := comp_inv2 h3
          exact ps_imp (asg_plain (tg := .v i) G.hsc h4 (comp_peL h2 G tk h3) hg) fun Dd σ H t => llN_t (hi i List.mem_cons_self) (hf i List.mem_cons_self) t
        | true =>
        obtain ⟨y, py, e', gs, s2, p2, e1, rfl, hyl, hln, hno⟩ := sw_inv h4
        obtain ⟨rfl, rfl⟩ := Expr.Name.inj e1
        obtain ⟨elt1, tg1, it1, cond1, t, it', ifs, e5, rfl⟩ := comp_inv h3 rfl
        cases e5
        have hN : X.N[i]? = some x := by
          have h1 : (isLoc X.N sc nm.fb i x && !io.contains i && decide (sui ≠ some i)) = true := h1
          unfold isLoc at h1
          simp only [Bool.and_eq_true, decide_eq_true_eq] at h1
          exact h1.1.1.1
        exact ps_imp (comp_setL h2 G tk hN hyl hln hno h3) fun Dd σ H t => llN_t (hi i List.mem_cons_self) (hf i List.mem_cons_self) t
      · cases h2
    · -- x[a] = x[a][:-1]
      rename_i i j x p1 y p2 p3 x2 p4 y2 p5 p6 c1 c2 p7 p8 p9 pos
      simp only [Bool.and_eq_true] at h
      obtain ⟨⟨⟨h1, h2⟩, h3⟩, h4⟩ := h
      obtain ⟨a1, a2, a3, a4⟩ := isVis_vis G h1
      obtain ⟨b1, b2, b3, b4⟩ := isVis_vis G h2
      obtain ⟨c1, c2, c3, c4⟩ := isVis_vis G h3
      obtain ⟨d1, d2, d3, d4⟩ := isVis_vis G h4
      exact ps_imp (ps_asg (pe_slice sl_list (pe_ix ix_list (show PE X _ (tPl ⟨i, none⟩) from pe_var c1 c2 c3 c4) (show PE X _ (tPl ⟨j, none⟩) from pe_var d1 d2 d3 d4) (fun _ _ => rfl)) po_none (po_some (pe_un un_neg pe_int))) (pg_sub (show PE X _ (tPl ⟨i, none⟩) from pe_var a1 a2 a3 a4) (show PE X _ (tPl ⟨j, none⟩) from pe_var b1 b2 b3 b4) L2.set_list (by intro v; rfl)) (by rfl) (by rfl)) fun Dd σ H t => lcut_t t
    · -- x[a].append(x[a][0])
      rename_i i j x p1 y p2 p3 f ap x2 p4 y2 p5 p6 k1 k2 p7 cp pos
      simp only [Bool.and_eq_true, decide_eq_true_eq] at h
      obtain ⟨⟨⟨⟨⟨h0, hap⟩, h1⟩, h2⟩, h3⟩, h4⟩ := h
      subst h0
      obtain ⟨a1, a2, a3, a4⟩ := isVis_vis G h1
      obtain ⟨b1, b2, b3, b4⟩ := isVis_vis G h2
      obtain ⟨c1, c2, c3, c4⟩ := isVis_vis G h3
      obtain ⟨d1, d2, d3, d4⟩ := isVis_vis G h4
      exact ps_imp (ps_expr (pe_bm PySem.F.plainAttrs_list PySem.F.slot_list_append PySem.F.type_list_append mt_append (pe_ix ix_list (show PE X _ (tPl ⟨i, none⟩) from pe_var a1 a2 a3 a4) (show PE X _ (tPl ⟨j, none⟩) from pe_var b1 b2 b3 b4) (fun _ _ => rfl)) (pa_cons (pe_ix ix_list (pe_ix ix_list (show PE X _ (tPl ⟨i, none⟩) from pe_var c1 c2 c3 c4) (show PE X _ (tPl ⟨j, none⟩) from pe_var d1 d2 d3 d4) (fun _ _ => rfl)) pe_int (fun _ _ => rfl)) pa_nil) (plRc_ok rfl) (bm_few (by rfl) (show 1 < 28 by decide)) hap (by rfl) (by rfl)) (by rfl)) fun Dd σ H t => lapp_t t
    · -- x[a][b] = e
      rename_i i j k p x p1 y p2 p3 z p4 p5 e pos
      simp only [Bool.and_eq_true] at h
      obtain ⟨⟨⟨h1, h2⟩, h3⟩, h4⟩ := h
      obtain ⟨a1, a2, a3, a4⟩ := isVis_vis G h1
      obtain ⟨b1, b2, b3, b4⟩ := isVis_vis G h2
      obtain ⟨c1, c2, c3, c4⟩ := isVis_vis G h3
      exact ps_imp (ps_asg (pe h4) (pg_sub (pe_ix ix_list (show PE X _ (tPl ⟨i, none⟩) from pe_var a1 a2 a3 a4) (show PE X _ (tPl ⟨j, none⟩) from pe_var b1 b2 b3 b4) (fun _ _ => rfl)) (show PE X _ (tPl ⟨k, none⟩) from pe_var c1 c2 c3 c4) L2.set_list (by intro v; rfl)) (by unfold swapsWithSole swapsWith; cases e <;> rfl) (by rfl)) fun Dd σ H t => llS_t t
    · -- par
      rename_i i j a b x px y py k1 k2 e1 e2 k3 k4 pos
      simp only [Bool.and_eq_true, decide_eq_true_eq, Bool.not_eq_true'] at h
      obtain ⟨⟨⟨⟨⟨⟨⟨⟨⟨⟨⟨⟨⟨h0, h1⟩, h2⟩, h3⟩, h4⟩, h5⟩, h6⟩, h7⟩, h8⟩, h9⟩, h10⟩, h11⟩, h12⟩, h13⟩ := h
      have hs : sui = none := Option.isNone_iff_eq_none.mp h0
      have h10 : a.kd = .val := by unfold isValP at h10; split at h10 <;> first | assumption | cases h10
      have h11 : b.kd = .val := by unfold isValP at h11; split at h11 <;> first | assumption | cases h11
      have p9 := h9
      unfold parOk at p9
      simp only [Bool.and_eq_true] at p9
      have pes : PEs X (tA (cn E X fx q W)) [a, b] [e1, e2] := ⟨by rw [tAV h10]; exact pe h12, by rw [tAV h11]; exact pe h13, trivial⟩
      have hx : X.env.scope.names.lookup x = some .local := by rw [G.hsc]; exact eq_of_beq h3
      have hy : X.env.scope.names.lookup y = some .local := by rw [G.hsc]; exact eq_of_beq h4
      have hk : X.env.scope.kind = ScopeKind.function := by rw [G.hsc]; exact G.knd
      have xy : x ≠ y := fun e => h5 (by
        subst e
        have li := (List.getElem?_eq_some_iff.mp h1).1
        have lj := (List.getElem?_eq_some_iff.mp h2).1
        have ei := (List.getElem?_eq_some_iff.mp h1).2
        have ej := (List.getElem?_eq_some_iff.mp h2).2
        exact (List.getElem_inj G.nd).mp (ei.trans ej.symm))
      exact ps_imp (ps_par (G.calm hs) G.nd h1 h2 h5 hx hy (PEs.pa pes (by simp [p9.1.1.1, p9.1.1.2])) (par_swap hk hx hy xy h8 h9)) fun Dd σ H t => par_t h10 h11 (List.getElem?_eq_some_iff.mp h1).1 (List.getElem?_eq_some_iff.mp h2).1 (fx_off G h6 (by rw [hs]; exact fun z => by cases z)) (fx_off G h7 (by rw [hs]; exact fun z => by cases z)) t
    · -- set
      rename_i p kk v x y pp e pos
      simp only [Bool.and_eq_true] at h
      obtain ⟨⟨⟨h1, h2⟩, h3⟩, h4⟩ := h
      refine ps_imp (ps_asg (pe h4) (pg_sub (plE_pe G h1) (pe h3) (set_data (E := E) (by have := G.un; omega)) (by intro v; cases y <;> first | rfl | cases h2)) (by unfold swapsWithSole swapsWith; cases e <;> rfl) (by rfl)) fun Dd σ H t => set_t t
    · -- drop
      rename_i p e pos
      simp only [Bool.and_eq_true] at h
      exact ps_imp (ps_expr (pe h.1) (noLc_sw h.2)) fun Dd σ H t => drop_t t
    · -- ifs
      rename_i c a b t x y pos
      simp only [Bool.and_eq_true] at h
      obtain ⟨⟨h1, h2⟩, h3⟩ := h
      exact ps_imp (ps_if (snd n (m := .tst) G tk h1) (pss rfl G tk po tp clo h2) (pss rfl G tk po tp clo h3)) fun Dd σ H t => ifs_t t
    · -- for
      rename_i tg it b t i x pos
      simp only [Bool.and_eq_true, Option.isNone_iff_eq_none] at h
      obtain ⟨⟨⟨⟨h1, h2⟩, h3, hz⟩, h4⟩, h5⟩ := h
      subst h1
      obtain ⟨hg, hi, hf⟩ := pg_ok G h2
      refine ps_imp (ps_for (tb := fun Dd σ H => ∃ g : List (Nat × V), (∀ r ∈ g, ∃ p, it = .bor p ∧ r.1 = p.i) ∧ TSt (cn E X (g ++ fx) q W) (evSs q b) Dd σ H) po (G.calm rfl) (snd n (m := .itr) G tk h3 t hz) hg ⟨fun pins s σ H D I hh => ?_⟩ (notSet_it h4)) fun Dd σ H t => for_t (fx' := fun _ _ => []) hi hf ?_ ?_ t
      · obtain ⟨g, hg2, hh⟩ := hh
        cases hk : it.kd with
        | val =>
          simp only [hk] at h5
          have : g = [] := by
            cases g with
            | nil => rfl
            | cons r rs =>
              obtain ⟨p, e, _⟩ := hg2 r List.mem_cons_self
              rw [e] at hk; cases hk
          subst this
          exact (pss rfl G tk po tp clo h5).run pins s σ H D I hh
        | bor p =>
          simp only [hk, Bool.and_eq_true] at h5
          obtain rfl := kd_bor hk
          have hg3 : ∀ r ∈ g, r.1 = p.i := fun r hr => by
            obtain ⟨p', e, e2⟩ := hg2 r hr
            cases e; exact e2
          exact (pss rfl (G.lent rfl hg3) tk po tp clo h5.2).run pins s σ H D I hh
        | io p => simp only [hk] at h5; cases h5
      · rintro p rfl j hj
        simp only [P.kd, Bool.and_eq_true, List.all_eq_true, decide_eq_true_eq] at h5
        exact h5.1 j hj
      · rintro p rfl
        simp only [P.kd] at h5
        cases h5
    · -- while
      rename_i m c b t x pos
      simp only [Bool.and_eq_true] at h
      exact ps_imp (ps_while po (snd n (m := .tst) G tk h.1) (pss rfl G tk po tp clo h.2)) fun Dd σ H t => whl_t t
    · -- ret
      exact ps_imp (ps_ret (pe h)) fun Dd σ H t => ret_t t
    · refine ps_imp ps_retN fun Dd σ H t => ?_
      obtain ⟨ρ, F, rest, l, s, qq⟩ := t
      rw [evS] at qq
      exact qq .non σ H F l (s.push (by unfold Val; rfl))
    · refine ps_imp ps_break fun Dd σ H t => ?_
      obtain ⟨ρ, F, rest, l, s, qq⟩ := t
      rw [evS] at qq
      exact qq σ H F l s
    · refine ps_imp ps_continue fun Dd σ H t => ?_
      obtain ⟨ρ, F, rest, l, s, qq⟩ := t
      rw [evS] at qq
      exact qq σ H F l s
    · refine ps_imp ps_pass fun Dd σ H t => ?_
      obtain ⟨ρ, F, rest, l, s, qq⟩ := t
      rw [evS] at qq
      exact qq σ H F l s
    · -- raise
      rename_i c x xp m j p2 p3 pos
      simp only [Bool.and_eq_true, Option.isNone_iff_eq_none, decide_eq_true_eq] at h
      obtain ⟨⟨h1, h2⟩, h3⟩ := h
      subst h1
      obtain ⟨D, B, nI, iI, bmB, e1, F1, ex, mg, kp, rr⟩ := (G.rai c x h3).ex
      obtain ⟨gl, gd⟩ := isGl_gl G h2
      refine ps_imp (ps_raise (G.calm rfl) tk (pmk_own F1 ex mg kp rr gl gd)) fun Dd σ H t => ?_
      obtain ⟨ρ, F, rest, l, s, qq⟩ := t
      rw [evS] at qq
      have := qq σ H F l s
      show W (.ref D) none σ H
      rw [← e1]
      exact this
    · -- try as
      rename_i b c i hh x e y h₀ hs p1 p2
      simp only [Bool.and_eq_true, Option.isNone_iff_eq_none, decide_eq_true_eq, Bool.not_eq_true', beq_iff_eq] at h
      obtain ⟨⟨⟨⟨⟨⟨h1, h2⟩, h3⟩, h4⟩, h5⟩, h6⟩, h7⟩ := h
      subst h1
      obtain ⟨z, zp, rfl, hn⟩ := cls_names G h3
      have hi : i < X.N.length := (List.getElem?_eq_some_iff.mp h4).1
      have hfx : ∀ r ∈ fx, r.1 ≠ i := fun r hr e => by
        rcases G.fxio r hr with w | w
        · rw [e, h6] at w; cases w
        · cases w
      refine ps_imp (ps_try_as (tb := fun W => TSt (cn E X fx q W) (evSs q b)) (ts := tsA E X fx q c (fun a => [(i, .ref a)]) hh) tp.st tp.fr G.nd h4 (by show X.env.scope.names.lookup y = _; rw [G.hsc]; exact h5) hn tk ?_ ?_) fun Dd σ H t => trA_t G hfx hi t
      · intro W' pn xe tk' po'
        exact pss (Y := X.tr pn xe) rfl (G.tr rfl pn xe) tk' po' ⟨tp.st, tp.fr⟩ (fun z w => clo z w) h2
      · intro a oe cls d pn hz hf
        refine ⟨fun pins s σ H D I t => ?_⟩
        obtain ⟨kc, e1, e2, hsu, t⟩ := t
        subst e1; subst e2
        exact (pss (Y := X.suite a ((a, oe) :: pn)) rfl (suite_good G (fun r hr => by simp only [List.mem_singleton] at hr; rw [hr]) (fun _ => List.mem_singleton.mpr rfl) hsu hz hf) takes_none5 PassesOwn.never ⟨tp.st, tp.fr⟩ (fun _ z => by cases z) h7).run pins s σ H D I t
    · -- x, y = f(..)
      rename_i i j f as g x xp es cp pos
      simp only [Bool.and_eq_true, decide_eq_true_eq, Option.isNone_iff_eq_none] at h
      obtain ⟨⟨⟨⟨⟨⟨⟨h0, hg⟩, hsw⟩, h1⟩, h1b⟩, h2⟩, h3⟩, h4⟩ := h
      obtain ⟨pg, hi, hf⟩ := pg_ok G hg
      obtain ⟨gl, gd⟩ := isGl_gl G h2
      obtain ⟨fa, fd, ps, FO, hm, hk, hb⟩ := G.fnT h0 f x _ h1 h1b
      obtain ⟨pes, i2, i3, i4⟩ := all_ok G (fun p e h => pe h) h4
      have hnb := i3 rfl
      cases es with
      | nil =>
        cases as with
        | cons _ _ => cases h4
        | nil => exact ps_imp (asg_plain (tg := .t [i, j]) G.hsc hsw (pe_call0S FO (G.room h0) gl hm hk hb (fun σ => passAt tk σ) gd) pg) fun Dd σ H t => (asgT_t hnb hi hf t).nil
      | cons e es =>
        have h3' := h3
        simp only [List.all_cons, Bool.and_eq_true] at h3
        exact ps_imp (asg_plain (tg := .t [i, j]) G.hsc hsw (pe_callS FO (G.room h0) gl hm hk hb (fun σ => passAt tk σ) (PEs.pa pes h3') gd (star_cons h3.1) (star_plain h3.2)) pg) fun Dd σ H t => asgT_t hnb hi hf t
    · -- x = f(e), f handed in
      rename_i p i e x px y yp e0 cp pos
      simp only [Bool.and_eq_true, decide_eq_true_eq, Option.isNone_iff_eq_none] at h
      obtain ⟨⟨⟨⟨⟨⟨hc, h0⟩, hg⟩, hsw⟩, hv⟩, h3⟩, h4⟩ := h
      subst h0
      obtain ⟨pg, hi, hf⟩ := pg_ok G hg
      obtain ⟨v1, v2, v3, v4⟩ := isVis_vis G hv
      obtain ⟨pes, i2, i3, i4⟩ := all_ok G (fun p e h => pe h) h4
      cases hcf : E.cf with
      | none => exact ⟨fun pins s σ H D I t => (asgC_no hcf t).elim⟩
      | some c =>
        obtain ⟨ps, fr, N, C0, nf, nx⟩ := clo hc rfl c hcf
        exact ps_imp (asg_plain (tg := .v p) G.hsc hsw (NdefX.pe_callC (f := c.f) (EE := WE W) N C0 nf nx (G.room rfl) (Nat.le_refl _) (fun σ => passAt tk σ) v1 v2 (PEs.pa pes (by simp [h3])) v3 v4 (star_cons h3) (star_plain (by rfl))) pg) fun Dd σ H t => asgC_t hcf (i3 rfl) (i2 rfl) (hi p List.mem_cons_self) (hf p List.mem_cons_self) t
    · -- for over one's own dict
      rename_i i tg b t x xp bs pos
      simp only [Bool.and_eq_true, Bool.not_eq_true', Option.isNone_iff_eq_none, List.all_eq_true, decide_eq_true_eq] at h
      obtain ⟨⟨⟨⟨⟨⟨h0, h1⟩, h2⟩, h3⟩, h4⟩, h5⟩, h6⟩ := h
      subst h1
      obtain ⟨hg, hi, hf⟩ := pg_ok G h2
      obtain ⟨v1, v2, v3, v4⟩ := isVis_vis G h3
      refine ps_imp (ps_lockB (t := fun d od u => tFor (iKeys (tPl ⟨i, none⟩)) (gT X.K tg) (tAdd d (.frz od u) (TSt (cn E (lkX X d (.frz od u)) ((i, .ref d) :: fx) q (fun _ _ _ _ => False)) (evSs q b)))) fun d od u => ?_) fun Dd σ H t => forD_t hi hf (fun j hj => h4 j hj) t
      have G2 := Good.lk G d (.frz od u)
      exact ps_for po (G.calm rfl) (pi_keys (show PE (lkX X d (.frz od u)) _ (tPl ⟨i, none⟩) from pe_var v1 v2 v3 v4)) (pg_ok G2 h2).1 (pss_add (pss (Y := lkX X d (.frz od u)) rfl (G2.lent rfl (j := i) (g := [(i, .ref d)]) (fun r hr => by rw [List.mem_singleton.mp hr])) takes_none5 po ⟨tp.st, tp.fr⟩ (fun z _ => by rw [h0] at z; cases z) h6)) (notSet_it h5)
    · -- x = f(..), x one's own
      rename_i i f as x px y yp es cp pos
      simp only [Bool.and_eq_true, decide_eq_true_eq, Option.isNone_iff_eq_none] at h
      obtain ⟨⟨⟨⟨⟨⟨⟨h0, hg⟩, hsw⟩, h1⟩, h1b⟩, h2⟩, h3⟩, h4⟩ := h
      obtain ⟨pg, hi, hf⟩ := pg_ok G hg
      have hi' := hi i List.mem_cons_self
      have hf' := hf i List.mem_cons_self
      obtain ⟨gl, gd⟩ := isGl_gl G h2
      obtain ⟨fa, fd, ps, FO, hm, hk, hb⟩ := G.fnT h0 f y _ h1 h1b
      obtain ⟨pes, i2, i3, i4⟩ := all_ok G (fun p e h => pe h) h4
      have hnb := i3 rfl
      cases es with
      | nil =>
        cases as with
        | cons _ _ => cases h4
        | nil => exact ps_imp (asg_plain (tg := .v i) G.hsc hsw (pe_call0S FO (G.room h0) gl hm hk hb (fun σ => passAt tk σ) gd) pg) fun Dd σ H t => (asgV_t hnb hi' hf' t).nil
      | cons e es =>
        have h3' := h3
        simp only [List.all_cons, Bool.and_eq_true] at h3
        exact ps_imp (asg_plain (tg := .v i) G.hsc hsw (pe_callS FO (G.room h0) gl hm hk hb (fun σ => passAt tk σ) (PEs.pa pes h3') gd (star_cons h3.1) (star_plain h3.2)) pg) fun Dd σ H t => asgV_t hnb hi' hf' t
    · -- try many
      rename_i b cs hs x e es p1
      simp only [Bool.and_eq_true, Option.isNone_iff_eq_none] at h
      obtain ⟨⟨h1, h2⟩, h3⟩ := h
      subst h1
      obtain ⟨hd, hl⟩ := hds_ok (X := X) G (fun {h b bs c kc a oe pn} hh hsu hz hf => by
        exact pss (Y := X.suite a ((a, oe) :: pn)) rfl (suite_good (g := []) G (fun r hr => nomatch hr) (fun z => absurd z (Nat.lt_irrefl _)) hsu hz hf) takes_none5 PassesOwn.never ⟨tp.st, tp.fr⟩ (fun _ z => by cases z) hh) h3
      exact ps_imp (ps_try_many (tb := fun W => TSt (cn E X fx q W) (evSs q b)) tp.st tp.fr tk (fun W' pn xe tk' po' => pss (Y := X.tr pn xe) rfl (G.tr rfl pn xe) tk' po' ⟨tp.st, tp.fr⟩ (fun z w => clo z w) h2) hd) fun Dd σ H t => trM_t G hl t
    · cases h
end
end Bk

/-! B14: every def does what runD tells. -/
namespace Bk
open PySem PySem.Spec PyProof.Rows L2

/-- does a def hand its own list over -/
def isTw (df : Df) : Bool := match df.body with
  | [.tw _ _ _] => true
  | [.tv _ _] => true
  | _ => false
def nmF (df : Df) : Option Str := if isTw df then none else some df.name
def nmT' (df : Df) : Option Str := if isTw df then some df.name else none
def nmOf (Ps : Nat → Option Df) (consts : List (Str × D)) (cls : Nat → Option (Str × Bool)) : Nm := ⟨fun f => (Ps f).bind nmF, fun f => (Ps f).map (·.io), consts, cls, fun f => (Ps f).bind nmT', fun _ => true, false, fun _ => false⟩
/-- the end of such a def's text -/
def cmR (nm : Nm) (N : List Str) (m : Nat) (io : List Nat) (sc : Scope) (i : Nat) (e : P) (st : Stmt) : Bool := match st with
  | .Return (some (.Tuple [.Name x _, y] _ _)) _ => isVis N sc i x && nst y && cmP nm N io none m sc .val e y
  | _ => false
def cmRv (N : List Str) (sc : Scope) (i : Nat) (st : Stmt) : Bool := match st with
  | .Return (some (.Name x _)) _ => isVis N sc i x
  | _ => false
def cmTw (g : S → Stmt → Bool) (r : Stmt → Bool) : List S → List Stmt → Bool
  | [], [t] => r t
  | s :: ss, t :: ts => g s t && cmTw g r ss ts
  | _, _ => false
/-- the end `return [..]`: a new container in a slot that has no name, handed over -/
def cmRo (nm : Nm) (N : List Str) (m : Nat) (io : List Nat) (sc : Scope) (i : Nat) (s : S) (st : Stmt) : Bool := match s, st with
  | .own j p, .Return (some e) _ => decide (j = i) && decide (i < N.length) && !io.contains i && fresh p && cmP nm N io none m sc .val p e
  | _, _ => false
def cmTx (g : S → Stmt → Bool) (r : Stmt → Bool) (r2 : S → Stmt → Bool) : List S → List Stmt → Bool
  | [], [t] => r t
  | [s], [t] => r2 s t
  | s :: ss, t :: ts => g s t && cmTx g r r2 ss ts
  | _, _ => false
def cmB (nm : Nm) (m : Nat) (df : Df) (st : Stmt) : Bool := match df.body with
  | [.tw b i e] => cmTw (cmS nm df.N m df.io none (defScope st)) (cmR nm df.N m df.io (defScope st) i e) b (defBody st)
  | [.tv b i] => cmTx (cmS nm df.N m df.io none (defScope st)) (cmRv df.N (defScope st) i) (cmRo nm df.N m df.io (defScope st) i) b (defBody st)
  | _ => cmAllS (cmS nm df.N m df.io none (defScope st)) df.body (defBody st)
/-- a def's text stands for the model's -/
def cmF (nm : Nm) (m : Nat) (df : Df) (st : Stmt) : Bool :=
  decide (df.np ≤ df.N.length) && (df.io.all fun i => decide (i < df.np)) && decide df.io.Nodup && cmB nm m df st
/-- a scope's check -/
def scOk (df : Df) (sc : Scope) : Bool :=
  decide (sc.kind = .function) && !sc.isCoroutine && !sc.isGenerator && decide df.N.Nodup && decide ((df.N.take df.np).length = df.np) &&
    ((df.N.take df.np).all fun x => sc.names.lookup x == some .local || sc.names.lookup x == some .cell) && (sc.names.all fun y => !(y.2 == .free))
theorem scOk_ok {df : Df} {sc : Scope} (h : scOk df sc = true) : FnScope df.N (df.N.take df.np) sc := by
  unfold scOk at h
  simp only [Bool.and_eq_true, decide_eq_true_eq, Bool.not_eq_true', List.all_eq_true, Bool.or_eq_true, beq_iff_eq] at h
  obtain ⟨⟨⟨⟨⟨⟨h1, h2⟩, h3⟩, h4⟩, h5⟩, h6⟩, h7⟩ := h
  refine ⟨h1, h2, h3, h4, by rw [h5], h6, fun y hy e => ?_⟩
  have := h7 y hy
  rw [e] at this
  cases this

section
variable {K : Wd} {H : Hp} {F : Addr → Prop} {rest : Things}
theorem startR_length {io : List Nat} : ∀ {ds : List D} {i : Nat}, (startR io i ds).length = ds.length
  | [], _ => rfl
  | d :: ds, i => congrArg (· + 1) (startR_length (ds := ds) (i := i + 1))
theorem PT'_zip {io : List Nat} : ∀ {ds : List D} {vs : List V} {i : Nat}, PT' io i ds vs = zp (startR io i ds) (vs.map some)
  | [], _, _ => by simp [PT', startR, zp]
  | _ :: _, [], _ => by simp [PT', startR, zp]
  | d :: ds, v :: vs, i => by
    have := PT'_zip (io := io) (ds := ds) (vs := vs) (i := i + 1)
    simp only [PT', startR, List.map_cons, zp, List.zip_cons_cons] at this ⊢
    rw [this]
theorem Sep.pushUns {ts : Things} (h : Sep K H F ts) : ∀ a : Nat, Sep K H F (List.replicate a (.un, none) ++ ts)
  | 0 => h
  | a + 1 => by
    rw [List.replicate_succ]
    exact (Sep.pushUns h a).pushUn
theorem zip_rep : ∀ a : Nat, zp (List.replicate a Sl.un) (List.replicate a none) = List.replicate a (.un, none)
  | 0 => rfl
  | a + 1 => by
    have := zip_rep a
    simp only [List.replicate_succ, zp, List.zip_cons_cons] at this ⊢
    rw [this]
theorem start_sep {io : List Nat} {ds : List D} {vs : List V} (a : Nat) (hl : ds.length = vs.length) (h : Sep K H F (PT' io 0 ds vs ++ rest)) : Sep K H F (zp (startR io 0 ds ++ List.replicate a .un) (vs.map some ++ List.replicate a none) ++ rest) := by
  have e : zp (startR io 0 ds ++ List.replicate a .un) (vs.map some ++ List.replicate a none) = PT' io 0 ds vs ++ List.replicate a (.un, none) := by
    rw [PT'_zip, ← zip_rep]
    exact List.zip_append (by rw [startR_length, List.length_map]; exact hl)
  rw [e]
  refine (h.pushUns a).perm ?_
  rw [← List.append_assoc]
  exact List.perm_append_comm.append_right rest
theorem outs_ok {vs : List V} {σ : L2.St} : ∀ {is : List Nat} {os : List D} {ρ : Rho} {A : Things}, is.Nodup → (∀ i ∈ is, ∃ v, vs[i]? = some v ∧ σ[i]? = some (some v)) → outs is ρ = .ok os → Sep K H F (A ++ (zp ρ σ ++ rest)) →
    os.length = is.length ∧ Sep K H F (A ++ (OT is vs os ++ rest))
  | [], os, ρ, A, _, _, h, s => by
    cases h
    exact ⟨rfl, s.skip⟩
  | i :: is, os, ρ, A, nd, hi, h, s => by
    unfold outs at h
    split at h
    · rename_i d hd
      cases e : outs is ρ with
      | stuck => rw [e] at h; cases h
      | ok ds =>
        rw [e] at h
        cases h
        obtain ⟨v, hv, hs⟩ := hi i List.mem_cons_self
        have ht : Pl.take ρ ⟨i, none⟩ = .ok (d, ρ.set i .un) := by unfold Pl.take; simp only [hd]
        have s2 := Pl.take_sep ht hs s
        obtain ⟨ni, nd2⟩ := List.nodup_cons.mp nd
        have same : ∀ {js : List Nat}, i ∉ js → outs js (ρ.set i .un) = outs js ρ := by
          intro js
          induction js with
          | nil => intro _; rfl
          | cons j js ih =>
            intro hn
            unfold outs
            rw [List.getElem?_set_ne (fun e => hn (by rw [e]; exact List.mem_cons_self)), ih (fun m => hn (List.mem_cons_of_mem _ m))]
        have s3 : Sep K H F (((.own d, some v) :: A) ++ (zp (ρ.set i .un) σ ++ rest)) := s2
        obtain ⟨l, s4⟩ := outs_ok nd2 (fun j hj => hi j (List.mem_cons_of_mem _ hj)) ((same ni).trans e) s3
        refine ⟨by rw [List.length_cons, List.length_cons, l], ?_⟩
        unfold OT
        rw [hv]
        refine s4.perm ?_
        rw [List.cons_append, List.cons_append]
        exact List.perm_middle.symm
    · cases h
end

section
variable {nm : Nm} {E : Wo} {k : Nat} {io : List Nat} {fx : List (Nat × V)} {q : En} {X : Cx} {rest : Things} {vs : List V} {Q : VK} {Ex : XK}
/-- what the end of a body owes -/
def Owe (K : Wd) (rest : Things) (io : List Nat) (vs : List V) (Q : VK) (Ex : XK) : Rs → Prop
  | .ok d os => os.length = io.length ∧ ∀ v H' F', Sep K H' F' ((.fz d, some v) :: (OT io vs os ++ rest)) → Q v H'
  | .exc c os => os.length = io.length ∧ ∀ H' F', Sep K H' F' (OT io vs os ++ rest) → Ex (K.xc c) none H'
  | .stuck => False
theorem fin_ok {o : O} (nd : io.Nodup) (hio : ∀ i ∈ io, ∃ v, vs[i]? = some v ∧ (i, v) ∈ fx) (h : Owe (wd E X) rest io vs Q Ex (o.fin io)) :
    OQ (cn E X fx q (fun cls d _ H => Ex cls d H)) { nx := fun _ H' => Q .non H', rt := Q } rest o := by
  have hs : ∀ {ρ : Rho} {σ : L2.St}, Ln (cn E X fx q (fun cls d _ H => Ex cls d H)) ρ σ → ∀ i ∈ io, ∃ v, vs[i]? = some v ∧ σ[i]? = some (some v) := fun l i hi => by
    obtain ⟨v, e, m⟩ := hio i hi
    exact ⟨v, e, l.f _ m⟩
  cases o with
  | nx ρ =>
    intro σ H F l s
    unfold O.fin at h
    cases e : outs io ρ with
    | stuck => simp only [e] at h; exact h.elim
    | ok os =>
      simp only [e] at h
      have s1 : Sep (wd E X) H F ([(.fz .non, some V.non)] ++ (zp ρ σ ++ rest)) := s.push (by unfold Val; rfl)
      exact h.2 _ _ F (outs_ok nd (hs l) e s1).2
  | ret d ρ =>
    intro v σ H F l s
    unfold O.fin at h
    cases e : outs io ρ with
    | stuck => simp only [e] at h; exact h.elim
    | ok os =>
      simp only [e] at h
      have s1 : Sep (wd E X) H F ([(.fz d, some v)] ++ (zp ρ σ ++ rest)) := s
      exact h.2 _ _ F (outs_ok nd (hs l) e s1).2
  | exc c ρ =>
    intro σ H F l s
    unfold O.fin at h
    cases e : outs io ρ with
    | stuck => simp only [e] at h; exact h.elim
    | ok os =>
      simp only [e] at h
      exact h.2 _ F (outs_ok (A := []) nd (hs l) e s).2
  | brk ρ => exact h.elim
  | cont ρ => exact h.elim
  | stuck => exact h.elim
end

section
variable {nm : Nm} {E : Wo} {k : Nat} {io : List Nat} {fx : List (Nat × V)} {q : En} {X : Cx} {rest : Things} {vs : List V} {Q : VK} {Ex : XK}
/-- what is wanted of such a body's end -/
def OQT (C : Cn) (Dd : Ends) (rest : Things) (o : O) : Prop := match o with
  | .ret d ρ => (∃ xs x, d = .tup [.lst xs, x] ∧ ∀ a w0 w1 σ H F, Ln C ρ σ → H a = some (.tup [w0, w1]) → Sep C.K H F ((.own (.lst xs), some w0) :: (.fz x, some w1) :: (zp ρ σ ++ rest)) → Dd.rt (.ref a) H) ∨
      (isCon d = true ∧ ∀ v σ H F, Ln C ρ σ → Sep C.K H F ((.own d, some v) :: (zp ρ σ ++ rest)) → Dd.rt v H)
  | .exc c ρ => ∀ σ H F, Ln C ρ σ → Sep C.K H F (zp ρ σ ++ rest) → C.W (C.K.xc c) none σ H
  | _ => False
def TStT (C : Cn) (f : Rho → O) : TS := fun Dd σ H => ∃ ρ F rest, Ln C ρ σ ∧ Sep C.K H F (zp ρ σ ++ rest) ∧ OQT C Dd rest (f ρ)
theorem OQT.thn {C : Cn} {Dd : Ends} {σ : L2.St} {α : Type} {r : Ev α} {f : α → Rho → O} (h : OQT C Dd rest (r.thn f)) : EQ C rest σ r fun a ρ => OQT C Dd rest (f a ρ) := by
  cases r with
  | ok a ρ => exact h
  | exc c ρ => exact fun H F l s => h σ H F l s
  | stuck => exact h.elim
theorem tw_cons {C : Cn} {Dd : Ends} {σ : L2.St} {H : Hp} {s : S} {b : List S} {i : Nat} {e : P} (h : TStT C (evS C.q (.tw (s :: b) i e)) Dd σ H) : tSeq (TSt C (evS C.q s)) (TStT C (evS C.q (.tw b i e))) Dd σ H := by
  obtain ⟨ρ, F, rest, l, sp, q⟩ := h
  rw [evS, evSs] at q
  refine ⟨ρ, F, rest, l, sp, ?_⟩
  cases e1 : evS C.q s ρ with
  | nx ρ2 =>
    rw [e1] at q
    refine fun σ2 H2 F2 l2 s2 => ⟨ρ2, F2, rest, l2, s2, ?_⟩
    rw [evS]
    exact q
  | exc c ρ2 => rw [e1] at q; exact q
  | ret d ρ2 => rw [e1] at q; exact q.elim
  | brk ρ2 => rw [e1] at q; exact q.elim
  | cont ρ2 => rw [e1] at q; exact q.elim
  | stuck => rw [e1] at q; exact q.elim
theorem tw_ret {C : Cn} {Dd : Ends} {σ : L2.St} {H : Hp} {i : Nat} {e : P} (h : TStT C (evS C.q (.tw [] i e)) Dd σ H) : tRet (tTup (tCons (tPl ⟨i, none⟩) (tCons (TV C false e) tNil))) Dd σ H := by
  obtain ⟨ρ, F, rest, l, sp, q⟩ := h
  rw [evS, evSs] at q
  simp only at q
  split at q
  · rename_i hb
    obtain ⟨v, hv⟩ := Pl.bound_at hb l sp
    refine ⟨v, hv, ρ, F, rest, l, sp, (OQT.thn (σ := σ) q).imp fun d ρ1 ed q2 w H1 F1 s1 vw => ⟨by show 2 ≤ 16777216; omega, fun p hp => ?_⟩⟩
    have l1 := l.to (evP_ok_len ed)
    unfold twE at q2
    split at q2
    · rename_i xs hx
      obtain ⟨xs', x', e2, q3⟩ : ∃ xs' x', D.tup [.lst xs, d] = .tup [.lst xs', x'] ∧ ∀ a w0 w1 σ H F, Ln C (ρ1.set i .un) σ → H a = some (.tup [w0, w1]) → Sep C.K H F ((.own (.lst xs'), some w0) :: (.fz x', some w1) :: (zp (ρ1.set i .un) σ ++ rest)) → Dd.rt (.ref a) H := by
        rcases q2 with q2 | ⟨q2, _⟩
        · exact q2
        · cases q2
      cases e2
      have ht : (Pl.mk i none).take ρ1 = .ok (.lst xs, ρ1.set i .un) := by unfold Pl.take; simp only [hx]
      have hi : i < ρ1.length := (List.getElem?_eq_some_iff.mp hx).1
      have s2 : Sep C.K H1 F1 ([(.fz d, some w)] ++ (zp ρ1 σ ++ rest)) := s1.push vw
      have s3 := Pl.take_sep ht hv s2
      exact q3 p v w σ _ F1 (l1.to (by rw [List.length_set])) upd_same (s3.new hp)
    · exact q2.elim
  · exact q.elim
theorem all_okTw {g : S → Stmt → Bool} {r : Stmt → Bool} {C : Cn} {i : Nat} {e : P} (h : ∀ s st, g s st = true → PS X st (TSt C (evS C.q s))) (hr : ∀ st, r st = true → PS X st (TStT C (evS C.q (.tw [] i e)))) :
    ∀ {ss : List S} {sts : List Stmt}, cmTw g r ss sts = true → PSs X sts (TStT C (evS C.q (.tw ss i e)))
  | [], [t], q => pss_one (hr t q)
  | [], [], q => by cases q
  | [], _ :: _ :: _, q => by cases q
  | _ :: _, [], q => by cases q
  | a :: as, t :: ts, q => by
    simp only [cmTw, Bool.and_eq_true] at q
    exact pss_imp (pss_cons (h a t q.1) (all_okTw h hr q.2)) fun Dd σ H h => tw_cons h
theorem tv_cons {C : Cn} {Dd : Ends} {σ : L2.St} {H : Hp} {s : S} {b : List S} {i : Nat} (h : TStT C (evS C.q (.tv (s :: b) i)) Dd σ H) : tSeq (TSt C (evS C.q s)) (TStT C (evS C.q (.tv b i))) Dd σ H := by
  obtain ⟨ρ, F, rest, l, sp, q⟩ := h
  rw [evS, evSs] at q
  refine ⟨ρ, F, rest, l, sp, ?_⟩
  cases e1 : evS C.q s ρ with
  | nx ρ2 =>
    rw [e1] at q
    refine fun σ2 H2 F2 l2 s2 => ⟨ρ2, F2, rest, l2, s2, ?_⟩
    rw [evS]
    exact q
  | exc c ρ2 => rw [e1] at q; exact q
  | ret d ρ2 => rw [e1] at q; exact q.elim
  | brk ρ2 => rw [e1] at q; exact q.elim
  | cont ρ2 => rw [e1] at q; exact q.elim
  | stuck => rw [e1] at q; exact q.elim
theorem tv_ret {C : Cn} {Dd : Ends} {σ : L2.St} {H : Hp} {i : Nat} (h : TStT C (evS C.q (.tv [] i)) Dd σ H) : tRet (tPl ⟨i, none⟩) Dd σ H := by
  obtain ⟨ρ, F, rest, l, sp, q⟩ := h
  rw [evS, evSs] at q
  simp only at q
  unfold tvE at q
  split at q
  · rename_i d hx
    split at q
    · rename_i hc
      have hi : i < ρ.length := (List.getElem?_eq_some_iff.mp hx).1
      have hb : (Pl.mk i none).bound ρ = true := by unfold Pl.bound; simp only [hx]
      obtain ⟨v, hv⟩ := Pl.bound_at hb l sp
      have ht : (Pl.mk i none).take ρ = .ok (d, ρ.set i .un) := by unfold Pl.take; simp only [hx]
      have s3 := Pl.take_sep ht hv (A := []) sp
      refine ⟨v, hv, ?_⟩
      rcases q with ⟨xs, x, e, _⟩ | ⟨_, q⟩
      · rw [e] at hc; cases hc
      · exact q v σ H F (l.to (by rw [List.length_set])) s3
    · exact q.elim
  · exact q.elim
theorem tvo_ret {E : Wo} {X : Cx} {fx : List (Nat × V)} {q : En} {W : WX} {Dd : Ends} {σ : L2.St} {H : Hp} {i : Nat} {p : P} (hi : i < X.N.length) (hf : ∀ r ∈ fx, r.1 ≠ i) (h : TStT (cn E X fx q W) (evS q (.tv [.own i p] i)) Dd σ H) : tRet (TV (cn E X fx q W) true p) Dd σ H := by
  obtain ⟨ρ, F, rest, l, s, qq⟩ := h
  have qq : OQT (cn E X fx q W) Dd rest ((evP q p ρ).thn fun d ρ1 => if isCon d = true then .ret d (ρ1.set i .un) else .stuck) := by
    rw [evS, evSs, evS] at qq
    cases e1 : evP q p ρ with
    | ok d ρ1 =>
      have hl : i < ρ1.length := by rw [evP_ok_len e1, l.r]; exact hi
      rw [e1] at qq
      cases hc : isCon d with
      | true =>
        simp only [Ev.thn, hc, if_true, O.seq_nx, evSs, tvE, List.getElem?_set_self hl, List.set_set] at qq ⊢
        exact qq
      | false =>
        simp only [Ev.thn, hc] at qq
        exact qq.elim
    | exc c ρ1 => rw [e1] at qq; exact qq
    | stuck => rw [e1] at qq; exact qq.elim
  refine ⟨ρ, F, rest, l, s, (OQT.thn (σ := σ) qq).imp fun d ρ1 ed q2 => ?_⟩
  split at q2
  · rename_i hc
    unfold PQ
    rw [hc]
    intro v H1 F1 s1
    have l1 := l.to (evP_ok_len ed)
    have hr : i < ρ1.length := by rw [l1.r]; exact hi
    have hs : i < σ.length := by rw [l1.s]; exact hi
    have s2 := s1.setSlot (i := i) hr hs
    have l2 := l1.set (i := i) (s := .own d) (o := some v) hf
    have ht : (Pl.mk i none).take (ρ1.set i (.own d)) = .ok (d, ρ1.set i .un) := by unfold Pl.take; simp only [List.getElem?_set_self hr, List.set_set]
    have s3 := Pl.take_sep ht (A := []) (o := some v) (by rw [List.getElem?_set_self hs]) s2
    rcases q2 with ⟨xs, x, e, _⟩ | ⟨_, q2⟩
    · rw [e] at hc; cases hc
    · exact q2 v _ H1 F1 (l2.to (by rw [List.length_set, List.length_set])) s3
  · exact q2.elim
theorem all_okTv {g : S → Stmt → Bool} {r : Stmt → Bool} {r2 : S → Stmt → Bool} {C : Cn} {i : Nat} (h : ∀ s st, g s st = true → PS X st (TSt C (evS C.q s))) (hr : ∀ st, r st = true → PS X st (TStT C (evS C.q (.tv [] i)))) (hr2 : ∀ s st, r2 s st = true → PS X st (TStT C (evS C.q (.tv [s] i)))) :
    ∀ {ss : List S} {sts : List Stmt}, cmTx g r r2 ss sts = true → PSs X sts (TStT C (evS C.q (.tv ss i)))
  | [], [t], q => pss_one (hr t q)
  | [], [], q => by cases q
  | [], _ :: _ :: _, q => by cases q
  | [_], [], q => by cases q
  | [a], [t], q => pss_one (hr2 a t q)
  | _ :: _ :: _, [], q => by cases q
  | a :: b :: as, t :: ts, q => by
    simp only [cmTx, Bool.and_eq_true] at q
    exact pss_imp (pss_cons (h a t q.1) (all_okTv h hr hr2 q.2)) fun Dd σ H h => tv_cons h
  | [a], t :: t2 :: ts, q => by
    simp only [cmTx, Bool.and_eq_true] at q
    exact pss_imp (pss_cons (h a t q.1) (all_okTv h hr hr2 (ss := []) (sts := t2 :: ts) q.2)) fun Dd σ H h => tv_cons h
/-- what the end of such a body owes -/
def OweT (K : Wd) (rest : Things) (io : List Nat) (vs : List V) (Q : VK) (Ex : XK) : Rs → Prop
  | .ok d os => os.length = io.length ∧ ((∃ xs x, d = .tup [.lst xs, x] ∧ ∀ a w0 w1 H' F', H' a = some (.tup [w0, w1]) → Sep K H' F' ((.own (.lst xs), some w0) :: (.fz x, some w1) :: (OT io vs os ++ rest)) → Q (.ref a) H') ∨
      (isCon d = true ∧ ∀ v H' F', Sep K H' F' ((.own d, some v) :: (OT io vs os ++ rest)) → Q v H'))
  | .exc c os => os.length = io.length ∧ ∀ H' F', Sep K H' F' (OT io vs os ++ rest) → Ex (K.xc c) none H'
  | .stuck => False
theorem fin_okT {o : O} {Dd : Ends} (hd : Dd.rt = Q) (nd : io.Nodup) (hio : ∀ i ∈ io, ∃ v, vs[i]? = some v ∧ (i, v) ∈ fx) (h : OweT (wd E X) rest io vs Q Ex (o.fin io)) : OQT (cn E X fx q (fun cls d _ H => Ex cls d H)) Dd rest o := by
  have hs : ∀ {ρ : Rho} {σ : L2.St}, Ln (cn E X fx q (fun cls d _ H => Ex cls d H)) ρ σ → ∀ i ∈ io, ∃ v, vs[i]? = some v ∧ σ[i]? = some (some v) := fun l i hi => by
    obtain ⟨v, e, m⟩ := hio i hi
    exact ⟨v, e, l.f _ m⟩
  subst hd
  cases o with
  | nx ρ =>
    unfold O.fin at h
    cases e : outs io ρ with
    | stuck => simp only [e] at h; exact h.elim
    | ok os =>
      simp only [e] at h
      rcases h with ⟨_, ⟨xs, x, e2, _⟩ | ⟨e2, _⟩⟩
      · cases e2
      · cases e2
  | ret d ρ =>
    unfold O.fin at h
    cases e : outs io ρ with
    | stuck => simp only [e] at h; exact h.elim
    | ok os =>
      simp only [e] at h
      rcases h with ⟨_, ⟨xs, x, e2, h⟩ | ⟨hc, h⟩⟩
      · refine .inl ⟨xs, x, e2, fun a w0 w1 σ H F l ha s => h a w0 w1 H F ha ?_⟩
        have s1 : Sep (wd E X) H F ([(.own (.lst xs), some w0), (.fz x, some w1)] ++ (zp ρ σ ++ rest)) := s
        exact (outs_ok nd (hs l) e s1).2
      · refine .inr ⟨hc, fun v σ H F l s => h v H F ?_⟩
        have s1 : Sep (wd E X) H F ([(.own d, some v)] ++ (zp ρ σ ++ rest)) := s
        exact (outs_ok nd (hs l) e s1).2
  | exc c ρ =>
    intro σ H F l s
    unfold O.fin at h
    cases e : outs io ρ with
    | stuck => simp only [e] at h; exact h.elim
    | ok os =>
      simp only [e] at h
      exact h.2 _ F (outs_ok (A := []) nd (hs l) e s).2
  | brk ρ => exact h.elim
  | cont ρ => exact h.elim
  | stuck => exact h.elim
/-- a def's promise -/
def spF (K : Wd) (df : Df) (r : List D → Rs) : Sp := if isTw df then spT K df.io r else spD K df.io r

theorem spF_out {K : Wd} {df : Df} {r : List D → Rs} {H : Hp} (h : spF K df r vs H Q Ex) : ∃ F ds rest, ds.length = vs.length ∧ Sep K H F (PT' df.io 0 ds vs ++ rest) ∧ r ds ≠ .stuck ∧ (isTw df = true ∧ OweT K rest df.io vs Q Ex (r ds) ∨ isTw df = false ∧ Owe K rest df.io vs Q Ex (r ds)) := by
  unfold spF at h
  split at h
  · rename_i ht
    obtain ⟨F, ds, rest, hl, s, h⟩ := h
    refine ⟨F, ds, rest, hl, s, ?_, .inl ⟨ht, ?_⟩⟩
    · intro e; rw [e] at h; exact h
    · cases e : r ds with
      | ok d os => rw [e] at h; exact h
      | exc c os => rw [e] at h; exact h
      | stuck => rw [e] at h; exact h
  · rename_i ht
    obtain ⟨F, ds, rest, hl, s, h⟩ := h
    refine ⟨F, ds, rest, hl, s, ?_, .inr ⟨by simpa using ht, ?_⟩⟩
    · intro e; rw [e] at h; exact h
    · cases e : r ds with
      | ok d os => rw [e] at h; exact h
      | exc c os => rw [e] at h; exact h
      | stuck => rw [e] at h; exact h

end

/-- a def as the top leaves it -/
structure FnT (K : PySem.W.Frag) (mg : Str → Option Value) (nm : Nm) (m : Nat) (df : Df) (st : Stmt) (fa : Addr) (fd : FuncData) : Prop where
  F : Fun K df.name df.name st fa fd
  S : scOk df (defScope st) = true
  g : mg df.name = some (.ref fa)
  v : PySem.W.nsIn K mainGlobals df.name = some (some (.ref fa))
  b : ∀ us : List Value, us.length = (df.N.take df.np).length → bindArgs fd ⟨us, []⟩ = pure ((df.N.take df.np).zip us)
  c : cmF nm m df st = true
/-- the program's table -/
structure Tb (K : PySem.W.Frag) (mg : Str → Option Value) (E : Wo) (su : Subs) (Ps : Nat → Option Df) (consts : List (Str × D)) (cls : Nat → Option (Str × Bool)) (m : Nat) : Prop where
  fn : ∀ (f : Nat) (df : Df), Ps f = some df → ∃ st fa fd, FnT K mg (nmOf Ps consts cls) m df st fa fd
  blt : ∀ x ∈ blts, mg x = none
  cst : ∀ x d, consts.lookup x = some d → ∃ u v, mg x = some u ∧ RelV v u ∧ ∀ w H F, Val ⟨K, E.fa, E.ca, E.xc, E.cf, E.T, w⟩ H F d v
  kls : ∀ (c : Nat) (x : Str) (b : Bool), cls c = some (x, b) → mg x = some (E.xc c) ∧ (∃ D, E.xc c = .ref D) ∨ (mg x = none ∧ bootBuiltins x = some (E.xc c) ∧ x ≠ "__name__" ∧ ∃ T, E.xc c = .type T)
  rai : ∀ (c : Nat) (x : Str), cls c = some (x, true) → ∃ (D : Addr) (B newId initId : String) (bmB : List Value), E.xc c = .ref D ∧ ExcBaseFacts B newId initId bmB ∧ PySem.W.excIn K D bmB newId = true ∧ mg x = some (.ref D) ∧ PySem.W.keepIn K (.ref D) = true ∧
    PySem.W.subIn K (.ref D) (.type "BaseException") = some true ∧ PySem.W.typeIn K (.ref D) = some (.type "type")
  ev : ∀ g df a, Ps g = some df → PySem.W.nsIn K mainGlobals df.name = some (some (.ref a)) → E.fa g = a + 1
  en : ∀ g, Ps g = none → E.fa g = 0
  row : cls 100 = some (("Row" : Str), false) → ∃ C fI fP fT fdI fdP fdT, RowK K mg E C fI fP fT fdI fdP fdT ∧ ∀ (P : Program) (w : World) (base : Heap), FnOk P w K mg base CX0 1 fI fdI ["self"] (spRI ⟨K, E.fa, E.ca, E.xc, E.cf, E.T, w⟩) ∧
    FnOk P w K mg base CX0 1 fP fdP ["self", "entry"] (spRP ⟨K, E.fa, E.ca, E.xc, E.cf, E.T, w⟩) ∧ FnOk P w K mg base CX0 1 fT fdT ["self"] (spRT ⟨K, E.fa, E.ca, E.xc, E.cf, E.T, w⟩)
  sub : ∀ k c b, su k c = some b → PySem.W.exmOne K (E.xc k) (E.xc c) = some b ∧ PySem.W.kitOne K (E.xc k) (E.xc c) = some b ∧ ∃ D, E.xc k = .ref D ∧ ExcC K D

theorem fn_ok {P : Program} {w : World} {K : PySem.W.Frag} {mg : Str → Option Value} {base : Heap} {E : Wo} {su : Subs} {Ps : Nat → Option Df} {consts : List (Str × D)} {cls : Nat → Option (Str × Bool)} {m : Nat} (T : Tb K mg E su Ps consts cls m) :
    ∀ (n f : Nat) {df : Df} {st : Stmt} {fa : Addr} {fd : FuncData}, Ps f = some df → FnT K mg (nmOf Ps consts cls) m df st fa fd → FnOk P w K mg base (L2.CX P w) (n + 3) fa fd (df.N.take df.np) (spF ⟨K, E.fa, E.ca, E.xc, E.cf, E.T, w⟩ df (runD su Ps n f))
  | 0, f, df, st, fa, fd, hf, t => by
    refine ⟨?_, ?_⟩
    · intro vs H Q E' h
      obtain ⟨F, ds, rest, _, _, h, _⟩ := spF_out h
      exact absurd rfl h
    · intro A outer s H args us vs Q E' hr he hb hv h
      obtain ⟨F, ds, rest, _, _, h, _⟩ := spF_out h
      exact absurd rfl h
  | n + 1, f, df, st, fa, fd, hf, t => by
    have S := scOk_ok t.S
    have hc := t.c
    unfold cmF at hc
    simp only [Bool.and_eq_true, decide_eq_true_eq, List.all_eq_true] at hc
    obtain ⟨⟨⟨hnp, hio⟩, hnd⟩, hbody⟩ := hc
    have hk : (df.N.take df.np).length = df.np := by rw [List.length_take]; omega
    have hlen : ∀ vs H Q E', spF ⟨K, E.fa, E.ca, E.xc, E.cf, E.T, w⟩ df (runD su Ps (n + 1) f) vs H Q E' → vs.length = df.np := by
      intro vs H Q E' h
      obtain ⟨F, ds, rest, hl, _, h, _⟩ := spF_out h
      unfold runD at h
      simp only [hf] at h
      by_cases e : ds.length = df.np
      · rw [← hl]; exact e
      · rw [if_neg e] at h; exact absurd rfl h
    show FnOk P w K mg base (L2.CX P w) (n + 3 + 1) fa fd (df.N.take df.np) _
    refine t.F.okX S (fun vs H Q E' h => by rw [hk]; exact hlen vs H Q E' h) (fun cdv A outer s H vs Q Ex hr hsp => ?_)
    have hvl := hlen vs H Q Ex hsp
    obtain ⟨F, ds, rest, hl, hsep, _, hrun⟩ := spF_out hsp
    let fx : List (Nat × V) := df.io.filterMap fun i => vs[i]?.map fun v => (i, v)
    have hfx : ∀ p ∈ fx, p.1 ∈ df.io ∧ vs[p.1]? = some p.2 := fun p hp => by
      obtain ⟨i, hi, e⟩ := List.mem_filterMap.mp hp
      obtain ⟨v, hv, e2⟩ := Option.map_eq_some_iff.mp e
      subst e2
      exact ⟨hi, hv⟩
    have hfx2 : ∀ i ∈ df.io, ∃ v, vs[i]? = some v ∧ (i, v) ∈ fx := fun i hi => by
      have h1 : i < vs.length := by rw [hvl]; exact hio i hi
      exact ⟨vs[i], List.getElem?_eq_getElem h1, List.mem_filterMap.mpr ⟨i, hi, by rw [List.getElem?_eq_getElem h1]; rfl⟩⟩
    let q : En := ⟨su, runD su Ps n, none⟩
    let X : Cx := cxOf (L2.CX P w) P w K mg base df.N df.name (defScope st) fa cdv A outer s H Ex
    have G : Good (nmOf Ps consts cls) E (n + 3) none df.io fx q (defScope st) (fun _ => true) X :=
      { nd := S.nd
        hsc := rfl
        knd := S.kind
        fxio := fun p hp => .inl (by rw [List.contains_iff_mem]; exact (hfx p hp).1)
        calm := fun _ => rfl
        room := fun _ => hr
        un := by have := hr.un; show (A.deeper _).units + 200 < cLine; omega
        fnb := fun _ _ => rfl
        fn := fun _ g x io' h1 h2 => by
          have h1 : (Ps g).bind nmF = some x := h1
          have h2 : (Ps g).map (·.io) = some io' := h2
          obtain ⟨dg, hg, e1⟩ := Option.bind_eq_some_iff.mp h1
          rw [hg] at h2
          cases h2
          unfold nmF at e1
          split at e1
          · cases e1
          · rename_i ht
            cases e1
            obtain ⟨st2, ga, gd, t2⟩ := T.fn g dg hg
            have fo := fn_ok (P := P) (w := w) (base := base) T n g hg t2
            unfold spF at fo
            rw [if_neg ht] at fo
            exact ⟨ga, gd, _, fo, t2.g, t2.F.kp, .all t2.b⟩
        fnT := fun _ g x io' h1 h2 => by
          have h1 : (Ps g).bind nmT' = some x := h1
          have h2 : (Ps g).map (·.io) = some io' := h2
          obtain ⟨dg, hg, e1⟩ := Option.bind_eq_some_iff.mp h1
          rw [hg] at h2
          cases h2
          unfold nmT' at e1
          split at e1
          · rename_i ht
            cases e1
            obtain ⟨st2, ga, gd, t2⟩ := T.fn g dg hg
            have fo := fn_ok (P := P) (w := w) (base := base) T n g hg t2
            unfold spF at fo
            rw [if_pos ht] at fo
            exact ⟨ga, gd, _, fo, t2.g, t2.F.kp, .all t2.b⟩
          · cases e1
        blt := T.blt
        cst := fun x d h => by
          obtain ⟨u, v, h1, h2, h3⟩ := T.cst x d h
          exact ⟨u, v, h1, h2, h3 _⟩
        cls := T.kls
        rai := fun c x h => by
          obtain ⟨D, B, nI, iI, bmB, a1, a2, a3, a4, a5, a6, a7⟩ := T.rai c x h
          exact ⟨D, B, nI, iI, bmB, a1, a2, a3, a4, a5, raises_own a6 a7⟩
        fv := fun g x h _ => by
          have h : (Ps g).bind nmF = some x := h
          obtain ⟨dg, hg, e1⟩ := Option.bind_eq_some_iff.mp h
          unfold nmF at e1
          split at e1
          · cases e1
          · cases e1
            obtain ⟨st2, ga, gd, t2⟩ := T.fn g dg hg
            exact ⟨ga, T.ev g dg ga hg t2.v, t2.g⟩
        fp := fun g a h => by
          cases hg : Ps g with
          | none => rw [T.en g hg] at h; cases h
          | some dg =>
            by_cases ht : isTw dg = true
            · right
              show (Ps g).bind nmT' ≠ none
              rw [hg]
              simp [nmT', ht]
            · left
              show (Ps g).bind nmF ≠ none
              rw [hg]
              simp [nmF, ht]
        row := fun _ h => by
          obtain ⟨C, fI, fP, fT, fdI, fdP, fdT, R, hF⟩ := T.row h
          obtain ⟨F1, F2, F3⟩ := hF P w base
          exact ⟨hr.mono (by omega), C, fI, fP, fT, fdI, fdP, fdT, R, F1, F2, F3⟩
        sub := T.sub
        hx := fun k h => by cases h }
    have hsl : (L2.start df.N vs) = vs.map some ++ List.replicate (df.N.length - df.np) none := by unfold L2.start; rw [hvl]
    have ln : Ln (cn E X fx q (fun cls d _ H => Ex cls d H)) (startR df.io 0 ds ++ List.replicate (df.N.length - df.np) .un) (L2.start df.N vs) := by
      refine ⟨?_, ?_, ?_⟩
      · rw [List.length_append, startR_length, List.length_replicate, hl, hvl]
        show df.np + (df.N.length - df.np) = df.N.length
        omega
      · rw [hsl, List.length_append, List.length_map, List.length_replicate, hvl]
        show df.np + (df.N.length - df.np) = df.N.length
        omega
      · intro p hp
        have h1 := (hfx p hp).2
        have h2 : p.1 < vs.length := (List.getElem?_eq_some_iff.mp h1).1
        rw [hsl, List.getElem?_append_left (by rw [List.length_map]; exact h2), List.getElem?_map, h1]
        rfl
    have sp0 : Sep ⟨K, E.fa, E.ca, E.xc, E.cf, E.T, w⟩ H F (zp (startR df.io 0 ds ++ List.replicate (df.N.length - df.np) .un) (L2.start df.N vs) ++ rest) := by
      rw [hsl]
      exact start_sep _ hl hsep
    have hrd : runD su Ps (n + 1) f ds = (evSs q df.body (startR df.io 0 ds ++ List.replicate (df.N.length - df.np) Sl.un)).fin df.io := by
      unfold runD
      simp only [hf]
      rw [if_pos (by rw [hl]; exact hvl)]
    rw [hrd] at hrun
    have hst : ∀ {s : Bk.S} {st' : Stmt}, cmS (nmOf Ps consts cls) df.N m df.io none (defScope st) s st' = true → PS X st' (TSt (cn E X fx q (fun cls d _ H => Ex cls d H)) (evS q s)) := fun {s st'} hh => sndS m hh fx X _ rfl G (takes_of rfl rfl rfl rfl) (passes_of rfl) ⟨rfl, rfl⟩ (fun z => by cases z)
    unfold cmB at hbody
    rcases hrun with ⟨ht, hrun⟩ | ⟨ht, hrun⟩
    · unfold isTw at ht
      split at ht
      · rename_i b i e eb
        rw [eb] at hbody hrun
        simp only at hbody
        have hrun : OweT ⟨K, E.fa, E.ca, E.xc, E.cf, E.T, w⟩ rest df.io vs Q Ex ((evS q (.tw b i e) (startR df.io 0 ds ++ List.replicate (df.N.length - df.np) Sl.un)).fin df.io) := by
          rw [evSs] at hrun
          cases e1 : evS q (.tw b i e) (startR df.io 0 ds ++ List.replicate (df.N.length - df.np) Sl.un) <;> rw [e1] at hrun <;> first | exact hrun | (rw [O.seq_nx, evSs] at hrun; exact hrun)
        refine ⟨TStT (cn E X fx q (fun cls d _ H => Ex cls d H)) (evS q (.tw b i e)), all_okTw (C := cn E X fx q (fun cls d _ H => Ex cls d H)) (fun s st' hh => hst hh) (fun st' hh => ?_) hbody, _, F, rest, ln, sp0, fin_okT (Ex := Ex) rfl hnd hfx2 hrun⟩
        unfold cmR at hh
        split at hh
        · rename_i x xp y tp1 tp2 rp
          simp only [Bool.and_eq_true] at hh
          obtain ⟨⟨h1, h2⟩, h3⟩ := hh
          obtain ⟨v1, v2, v3, v4⟩ := isVis_vis G h1
          have py : PE X y (TV (cn E X fx q (fun cls d _ H => Ex cls d H)) false e) := snd m (m := .val) G (takes_of rfl rfl rfl rfl) h3 false (fun z => by cases z)
          exact ps_imp (ps_ret (pe_tup (pa_cons (show PE X _ (tPl ⟨i, none⟩) from pe_var v1 v2 v3 v4) (pa_cons py pa_nil (star_cons h2)) (star_cons (by rfl))))) fun Dd σ H t => tw_ret t
        · cases hh
      · rename_i b i eb
        rw [eb] at hbody hrun
        simp only at hbody
        have hrun : OweT ⟨K, E.fa, E.ca, E.xc, E.cf, E.T, w⟩ rest df.io vs Q Ex ((evS q (.tv b i) (startR df.io 0 ds ++ List.replicate (df.N.length - df.np) Sl.un)).fin df.io) := by
          rw [evSs] at hrun
          cases e1 : evS q (.tv b i) (startR df.io 0 ds ++ List.replicate (df.N.length - df.np) Sl.un) <;> rw [e1] at hrun <;> first | exact hrun | (rw [O.seq_nx, evSs] at hrun; exact hrun)
        refine ⟨TStT (cn E X fx q (fun cls d _ H => Ex cls d H)) (evS q (.tv b i)), all_okTv (C := cn E X fx q (fun cls d _ H => Ex cls d H)) (fun s st' hh => hst hh) (fun st' hh => ?_) (fun s2 st' hh2 => ?_) hbody, _, F, rest, ln, sp0, fin_okT (Ex := Ex) rfl hnd hfx2 hrun⟩
        · unfold cmRv at hh
          split at hh
          · rename_i x xp rp
            obtain ⟨v1, v2, v3, v4⟩ := isVis_vis G hh
            exact ps_imp (ps_ret (show PE X _ (tPl ⟨i, none⟩) from pe_var v1 v2 v3 v4)) fun Dd σ H t => tv_ret t
          · cases hh
        · unfold cmRo at hh2
          split at hh2
          · rename_i j p e rp
            simp only [Bool.and_eq_true, decide_eq_true_eq, Bool.not_eq_true'] at hh2
            obtain ⟨⟨⟨⟨rfl, h1⟩, h2⟩, h3⟩, h4⟩ := hh2
            exact ps_imp (ps_ret (snd m (m := .val) G (takes_of rfl rfl rfl rfl) h4 true (fun _ => h3))) fun Dd σ H t => tvo_ret h1 (fx_off G h2 (by simp)) t
          · cases hh2
      · cases ht
    · have hbody : cmAllS (cmS (nmOf Ps consts cls) df.N m df.io none (defScope st)) df.body (defBody st) = true := by
        split at hbody
        · rename_i b i e eb
          unfold isTw at ht
          rw [eb] at ht
          cases ht
        · rename_i b i eb
          unfold isTw at ht
          rw [eb] at ht
          cases ht
        · exact hbody
      exact ⟨TSt (cn E X fx q (fun cls d _ H => Ex cls d H)) (evSs q df.body), all_okS (C := cn E X fx q (fun cls d _ H => Ex cls d H)) (fun s st' hh => hst hh) hbody, _, F, rest, ln, sp0, fin_ok (Ex := Ex) hnd hfx2 hrun⟩
end Bk

/-! B15: the law's end. -/
namespace Bk
open PySem PySem.Spec PyProof.Rows L2
def xcOf (K : PySem.W.Frag) (cls : Nat → Option (Str × Bool)) (c : Nat) : Value := match cls c with
  | some (x, _) => match PySem.W.nsIn K mainGlobals x with
    | some (some v) => v
    | _ => (bootBuiltins x).getD .none
  | none => .none
/-- where the g-th def stands, and one more; 0 where there is none -/
def faK (K : PySem.W.Frag) (Ps : Nat → Option Df) (g : Nat) : Addr := match Ps g with
  | some df => match PySem.W.nsIn K mainGlobals df.name with
    | some (some (.ref a)) => a + 1
    | _ => 0
  | none => 0
def woOf (K : PySem.W.Frag) (cls : Nat → Option (Str × Bool)) (Ps : Nat → Option Df) : Wo := ⟨faK K Ps, fun _ => 0, xcOf K cls, none, []⟩
theorem wo_ev {K : PySem.W.Frag} {cls : Nat → Option (Str × Bool)} {Ps : Nat → Option Df} (g : Nat) (df : Df) (a : Addr) (h : Ps g = some df) (h2 : PySem.W.nsIn K mainGlobals df.name = some (some (.ref a))) : (woOf K cls Ps).fa g = a + 1 := by
  show faK K Ps g = a + 1
  unfold faK
  simp only [h, h2]
theorem wo_en {K : PySem.W.Frag} {cls : Nat → Option (Str × Bool)} {Ps : Nat → Option Df} (g : Nat) (h : Ps g = none) : (woOf K cls Ps).fa g = 0 := by
  show faK K Ps g = 0
  unfold faK
  simp only [h]
/-- the law's promise -/
def spLaw (cls : Nat → Option (Str × Bool)) (Ps : Nat → Option Df) (r : List D → Rs) (K : PySem.W.Frag) (w : World) : Sp := spD ⟨K, (woOf K cls Ps).fa, (woOf K cls Ps).ca, (woOf K cls Ps).xc, (woOf K cls Ps).cf, (woOf K cls Ps).T, w⟩ [] r
theorem sp_law {w : World} {cls : Nat → Option (Str × Bool)} {Ps : Nat → Option Df} {r : List D → Rs} {K : PySem.W.Frag} {H : Hp} {a : Addr} {ns : List Int} (hS : SqL K H a (ns.map V.int)) (h : r [.scr ns] = .ok (.bl true) []) : spLaw cls Ps r K w [.ref a] H (fun v _ => v = .bl true) fun _ _ _ => False := by
  have fin : ∀ F, Sep ⟨K, (woOf K cls Ps).fa, (woOf K cls Ps).ca, (woOf K cls Ps).xc, (woOf K cls Ps).cf, (woOf K cls Ps).T, w⟩ H F (PT' [] 0 [.scr ns] [.ref a] ++ []) → spLaw cls Ps r K w [.ref a] H (fun v _ => v = .bl true) fun _ _ _ => False := fun F s => by
    refine ⟨F, [.scr ns], [], rfl, s, ?_⟩
    rw [h]
    refine ⟨rfl, fun v H' F' s => ?_⟩
    obtain ⟨w, e, q⟩ := s.val
    cases e
    unfold Val at q
    exact q
  have mk : ∀ F : Addr → Prop, (∀ b, F b → H b ≠ none ∧ ∀ ps, H b ≠ some (.tbl ps)) → (F a ∧ Rd H a (.lst (ns.map V.int)) ∨ (∀ H', SqL K H' a (ns.map V.int))) → Sep ⟨K, (woOf K cls Ps).fa, (woOf K cls Ps).ca, (woOf K cls Ps).xc, (woOf K cls Ps).cf, (woOf K cls Ps).T, w⟩ H F (PT' [] 0 [.scr ns] [.ref a] ++ []) := fun F hF hv => by
    have s0 : Sep ⟨K, (woOf K cls Ps).fa, (woOf K cls Ps).ca, (woOf K cls Ps).xc, (woOf K cls Ps).cf, (woOf K cls Ps).T, w⟩ H F [] := ⟨⟨hF, fun p hp => nomatch hp⟩, [], by unfold SepL; rfl, List.nodup_nil, fun _ z => nomatch z⟩
    exact s0.push (by unfold Val; exact ⟨a, rfl, hv⟩)
  rcases hS with r | r
  · refine fin (fun b => b = a) (mk _ (fun b e => ?_) (.inl ⟨rfl, r⟩))
    subst e
    rcases r with r | ⟨o, r⟩ <;> (rw [r]; exact ⟨fun z => (nomatch z), fun ps z => (nomatch z)⟩)
  · exact fin (fun _ => False) (mk _ (fun b e => e.elim) (.inr fun H' => .inr r))
theorem cx_end {P : Program} {w : World} {H : Hp} {s : Shared} {e : Value} {s' : Shared} (h : L2.CX P w [] H s (fun _ _ _ => False) e s') : False := by
  obtain ⟨_, _, _, _, _, _, _, _, _, _, _, _, z⟩ := h
  exact z

/-! the table, def by def -/
section
variable {K : PySem.W.Frag} {mg : Str → Option Value} {nm : Nm} {m : Nat} {h : Heap}
theorem fnT_mk (X : K.In h) (G : h.Ns mainGlobals mg) {df : Df} {st : Stmt} {f : Addr} {oc : Value} {od an : Option Addr} {osl : Array (Option Value)} {kV doc pm cdv ct : Value}
    (a : PySem.W.nsIn K mainGlobals df.name = some (some (.ref f)))
    (l : K.lookup f = some ⟨oc, od, .func (PySem.W.fnOf df.name df.name (defArgs st) (defBody st) (defScope st) .none kV doc pm an cdv ct), osl⟩)
    (c : PySem.W.codeIn K cdv df.name = true) (k : PySem.W.keepIn K (.ref f) = true) (S : scOk df (defScope st) = true)
    (b : ∀ us : List Value, us.length = (df.N.take df.np).length → bindArgs (PySem.W.fnOf df.name df.name (defArgs st) (defBody st) (defScope st) .none kV doc pm an cdv ct) ⟨us, []⟩ = pure ((df.N.take df.np).zip us)) (cm : cmF nm m df st = true) : ∃ st fa fd, FnT K mg nm m df st fa fd :=
  ⟨st, f, _, fun_mk l c k, S, PySem.W.mg_of X G a, a, b, cm⟩
def AllT (K : PySem.W.Frag) (mg : Str → Option Value) (nm : Nm) (m : Nat) (l : List (Nat × Df)) : Prop := ∀ p ∈ l, ∃ st fa fd, FnT K mg nm m p.2 st fa fd
theorem all_nil : AllT K mg nm m [] := fun p h => nomatch h
theorem all_cons {i : Nat} {df : Df} {l : List (Nat × Df)} (a : ∃ st fa fd, FnT K mg nm m df st fa fd) (r : AllT K mg nm m l) : AllT K mg nm m ((i, df) :: l) := fun p h => by
  rcases List.mem_cons.mp h with e | e
  · subst e; exact a
  · exact r p e
/-- a table as a list -/
def tbl (l : List (Nat × Df)) : Nat → Option Df := fun f => l.lookup f
theorem tbl_mem {f : Nat} {df : Df} : ∀ {l : List (Nat × Df)}, l.lookup f = some df → (f, df) ∈ l
  | [], h => by cases h
  | (g, dg) :: l, h => by
    rw [List.lookup_cons] at h
    split at h
    · rename_i e
      cases h
      rw [eq_of_beq e]
      exact List.mem_cons_self
    · exact List.mem_cons_of_mem _ (tbl_mem h)
theorem tbl_fn {l : List (Nat × Df)} (a : AllT K mg nm m l) (f : Nat) (df : Df) (h : tbl l f = some df) : ∃ st fa fd, FnT K mg nm m df st fa fd := a (f, df) (tbl_mem h)
/-- the law's def, behind the top -/
theorem law_mk {P : Program} {w : World} {su : Subs} {Ps : Nat → Option Df} {consts : List (Str × D)} {cls : Nat → Option (Str × Bool)} {fa : Addr} {li n : Nat} {df : Df} (T : Tb K mg (woOf K cls Ps) su Ps consts cls m) (hl : Ps li = some df) (hn : mg df.name = some (.ref fa)) (hx : df.N.take df.np = [("script" : Str)]) (hio : df.io = []) (htw : isTw df = false := by rfl) :
    ∃ fd : FuncData, (∀ (s : Shared) (v : Value), BindsTo s fd ⟨[v], []⟩ [(("script" : Str), v)]) ∧ ∀ base : Heap, K.In base → base.Ns mainGlobals mg → FnOk P w K mg base (L2.CX P w) (n + 3) fa fd [("script" : Str)] (spLaw cls Ps (runD su Ps n li) K w) := by
  obtain ⟨st, fa', fd, t⟩ := T.fn li df hl
  have e := hn.symm.trans t.g
  cases e
  refine ⟨fd, fun s v => .of_eq ?_, fun base _ _ => ?_⟩
  · have := t.b [v] (by rw [hx]; rfl)
    rw [hx] at this
    exact this
  · have := fn_ok (P := P) (w := w) (base := base) T n li hl t
    unfold spF at this
    rw [if_neg (by rw [htw]; exact Bool.false_ne_true), hx, hio] at this
    exact this
theorem blts_no (X : K.In h) (G : h.Ns mainGlobals mg) (z : ∀ x ∈ blts, PySem.W.nsIn K mainGlobals x = some none) : ∀ x ∈ blts, mg x = none := fun x hx => PySem.W.mg_none_of X G (z x hx)
end
end Bk

/-! B16: exceptions' classes and constants, behind the top. -/
namespace Bk
open PySem PySem.Spec PyProof.Rows L2
abbrev veMro : List Value := [.type "ValueError", .type "Exception", .type "BaseException", .type "object"]
/-- a class of exceptions of one's own, over ValueError -/
structure ExT (K : PySem.W.Frag) (x : Str) (D : Addr) : Prop where
  e : PySem.W.nsIn K mainGlobals x = some (some (.ref D))
  x : PySem.W.excIn K D veMro "ValueError.__new__" = true
  kp : PySem.W.keepIn K (.ref D) = true
  ci : PySem.W.isClsIn K D = true
  ty : PySem.W.typeIn K (.ref D) = some (.type "type")
  sb : PySem.W.subIn K (.ref D) (.type "BaseException") = some true
  ss : PySem.W.subIn K (.ref D) (.ref D) = some true
  c : ExcC K D
section
variable {K : PySem.W.Frag} {mg : Str → Option Value} {cls : Nat → Option (Str × Bool)} {h : Heap}
theorem xc_own {c : Nat} {x : Str} {b : Bool} {v : Value} (hc : cls c = some (x, b)) (e : PySem.W.nsIn K mainGlobals x = some (some v)) : xcOf K cls c = v := by
  unfold xcOf
  simp only [hc, e]
theorem xc_ve {c : Nat} {x : Str} {b : Bool} {v : Value} (hc : cls c = some (x, b)) (e : PySem.W.nsIn K mainGlobals x = some none) (hb : bootBuiltins x = some v) : xcOf K cls c = v := by
  unfold xcOf
  simp only [hc, e, hb, Option.getD_some]
theorem exm_kit {k : Addr} {c : Value} {b : Bool} (hk : PySem.W.subIn K (.ref k) (.ref k) = some true) (hc : (∃ D, c = .ref D ∧ PySem.W.subIn K (.ref D) (.type "BaseException") = some true ∧ PySem.W.isClsIn K D = true ∧ PySem.W.typeIn K (.ref D) = some (.type "type")) ∨ c = .type "ValueError")
    (hs : PySem.W.subIn K (.ref k) c = some b) : PySem.W.exmOne K (.ref k) c = some b ∧ PySem.W.kitOne K (.ref k) c = some b := by
  have hkit : PySem.W.kitCls K (.ref k) c = some b := by
    rcases hc with ⟨D, rfl, h1, h2, h3⟩ | rfl
    · have h2' : (PySem.W.clsIn K D).isSome = true := h2
      show (if ((PySem.W.clsIn K D).isSome && PySem.W.typeIn K (.ref D) == some (.type "type")) = true then PySem.W.subIn K (.ref k) (.ref D) else none) = _
      rw [if_pos (by rw [h2', h3]; rfl)]
      exact hs
    · show (if PySem.W.kitMeta "ValueError" = true then PySem.W.subIn K (.ref k) (.type "ValueError") else none) = _
      rw [if_pos (by decide +kernel)]
      exact hs
  have hbase : (PySem.W.subIn K c (.type "BaseException") == some true) = true := by
    rcases hc with ⟨D, rfl, h1, h2, h3⟩ | rfl
    · rw [h1]; rfl
    · have : PySem.W.subIn K (.type "ValueError") (.type "BaseException") = some true := by
        show ((fastBuiltinMro "ValueError").map (·.contains (.type "BaseException"))) = some true
        decide +kernel
      rw [this]; rfl
  refine ⟨?_, ?_⟩
  · show (if (PySem.W.subIn K c (.type "BaseException") == some true) = true then PySem.W.kitCls K (.ref k) c else none) = _
    rw [if_pos hbase]
    exact hkit
  · show (if (Value.ref k == c) = true then some true else PySem.W.kitCls K (.ref k) c) = _
    by_cases e : (Value.ref k == c) = true
    · rw [if_pos e]
      have := eq_of_beq e
      rw [← this, hk] at hs
      exact hs
    · rw [if_neg e]
      exact hkit
/-- what the table wants of the c-th class -/
def ClP (K : PySem.W.Frag) (mg : Str → Option Value) (cls : Nat → Option (Str × Bool)) (p : Nat × (Str × Bool)) : Prop :=
  (mg p.2.1 = some (xcOf K cls p.1) ∧ (∃ D, xcOf K cls p.1 = .ref D) ∨ (mg p.2.1 = none ∧ bootBuiltins p.2.1 = some (xcOf K cls p.1) ∧ p.2.1 ≠ "__name__" ∧ ∃ T, xcOf K cls p.1 = .type T)) ∧
  (p.2.2 = true → ∃ (D : Addr) (B newId initId : String) (bmB : List Value), xcOf K cls p.1 = .ref D ∧ ExcBaseFacts B newId initId bmB ∧ PySem.W.excIn K D bmB newId = true ∧ mg p.2.1 = some (.ref D) ∧ PySem.W.keepIn K (.ref D) = true ∧
    PySem.W.subIn K (.ref D) (.type "BaseException") = some true ∧ PySem.W.typeIn K (.ref D) = some (.type "type"))
theorem cl_own (X : K.In h) (G : h.Ns mainGlobals mg) {c : Nat} {x : Str} {b : Bool} {D : Addr} (hc : cls c = some (x, b)) (T : ExT K x D) : ClP K mg cls (c, (x, b)) := by
  have e := xc_own hc T.e
  have g := PySem.W.mg_of X G T.e
  exact ⟨.inl ⟨by rw [e]; exact g, D, e⟩, fun _ => ⟨D, _, _, _, _, e, PySem.F.excBase_ValueError, T.x, g, T.kp, T.sb, T.ty⟩⟩
theorem cl_ve (X : K.In h) (G : h.Ns mainGlobals mg) {c : Nat} (hc : cls c = some (("ValueError" : Str), false)) (z : PySem.W.nsIn K mainGlobals "ValueError" = some none) : ClP K mg cls (c, (("ValueError" : Str), false)) := by
  have hb : bootBuiltins "ValueError" = some (.type "ValueError") := by decide +kernel
  have e := xc_ve hc z hb
  exact ⟨.inr ⟨PySem.W.mg_none_of X G z, by rw [e]; exact hb, (by decide : (Str.ofString "ValueError") ≠ Str.ofString "__name__"), _, e⟩, fun h => by cases h⟩
theorem cl_row (X : K.In h) (G : h.Ns mainGlobals mg) {C : Addr} (hc : cls 100 = some (("Row" : Str), false)) (e : PySem.W.nsIn K mainGlobals "Row" = some (some (.ref C))) : ClP K mg cls (100, (("Row" : Str), false)) :=
  ⟨.inl ⟨by rw [xc_own hc e]; exact PySem.W.mg_of X G e, C, xc_own hc e⟩, fun h => by cases h⟩
def SuP (K : PySem.W.Frag) (cls : Nat → Option (Str × Bool)) (p : (Nat × Nat) × Bool) : Prop :=
  PySem.W.exmOne K (xcOf K cls p.1.1) (xcOf K cls p.1.2) = some p.2 ∧ PySem.W.kitOne K (xcOf K cls p.1.1) (xcOf K cls p.1.2) = some p.2 ∧ ∃ D, xcOf K cls p.1.1 = .ref D ∧ ExcC K D
theorem su_own {k c : Nat} {x y : Str} {b1 b2 b : Bool} {D D' : Addr} (hk : cls k = some (x, b1)) (hc : cls c = some (y, b2)) (T : ExT K x D) (T' : ExT K y D') (hs : PySem.W.subIn K (.ref D) (.ref D') = some b) : SuP K cls ((k, c), b) := by
  have e := xc_own hk T.e
  have e' := xc_own hc T'.e
  unfold SuP
  simp only [e, e']
  obtain ⟨h1, h2⟩ := exm_kit T.ss (.inl ⟨D', rfl, T'.sb, T'.ci, T'.ty⟩) hs
  exact ⟨h1, h2, D, rfl, T.c⟩
theorem su_ve {k c : Nat} {x : Str} {b1 b : Bool} {D : Addr} (hk : cls k = some (x, b1)) (hc : cls c = some (("ValueError" : Str), false)) (T : ExT K x D) (z : PySem.W.nsIn K mainGlobals "ValueError" = some none) (hs : PySem.W.subIn K (.ref D) (.type "ValueError") = some b) : SuP K cls ((k, c), b) := by
  have hb : bootBuiltins "ValueError" = some (.type "ValueError") := by decide +kernel
  have e := xc_own hk T.e
  have e' := xc_ve hc z hb
  unfold SuP
  simp only [e, e']
  obtain ⟨h1, h2⟩ := exm_kit T.ss (.inr rfl) hs
  exact ⟨h1, h2, D, rfl, T.c⟩
/-! lists of these -/
theorem lk_mem {α : Type} {c : Nat} {v : α} : ∀ {l : List (Nat × α)}, l.lookup c = some v → (c, v) ∈ l
  | [], h => by cases h
  | (g, dg) :: l, h => by
    rw [List.lookup_cons] at h
    split at h
    · rename_i e
      cases h
      rw [eq_of_beq e]
      exact List.mem_cons_self
    · exact List.mem_cons_of_mem _ (lk_mem h)
theorem lk2_mem {c : Nat × Nat} {v : Bool} : ∀ {l : List ((Nat × Nat) × Bool)}, l.lookup c = some v → (c, v) ∈ l
  | [], h => by cases h
  | (g, dg) :: l, h => by
    rw [List.lookup_cons] at h
    split at h
    · rename_i e
      cases h
      rw [eq_of_beq e]
      exact List.mem_cons_self
    · exact List.mem_cons_of_mem _ (lk2_mem h)
theorem allP_nil {α : Type} {p : α → Prop} : ∀ x ∈ ([] : List α), p x := fun x h => nomatch h
theorem allP_cons {α : Type} {p : α → Prop} {a : α} {l : List α} (h : p a) (r : ∀ x ∈ l, p x) : ∀ x ∈ a :: l, p x := fun x m => by
  rcases List.mem_cons.mp m with rfl | m
  · exact h
  · exact r x m
/-- a constant of the module -/
def CnP (K : PySem.W.Frag) (mg : Str → Option Value) (w : Wo) (p : Str × D) : Prop := ∃ u v, mg p.1 = some u ∧ RelV v u ∧ ∀ wd H F, Val ⟨K, w.fa, w.ca, w.xc, w.cf, w.T, wd⟩ H F p.2 v
theorem cn_str (X : K.In h) (G : h.Ns mainGlobals mg) {w : Wo} {x s : Str} {t : Tok} (e : PySem.W.nsIn K mainGlobals x = some (some (.str s t))) : CnP K mg w (x, .str s) :=
  ⟨_, .str s, PySem.W.mg_of X G e, ⟨t, rfl⟩, fun _ H F => by unfold Val; rfl⟩
theorem cn_int (X : K.In h) (G : h.Ns mainGlobals mg) {w : Wo} {x : Str} {i : Int} {t : Tok} (e : PySem.W.nsIn K mainGlobals x = some (some (.int i t))) : CnP K mg w (x, .int i) :=
  ⟨_, .int i, PySem.W.mg_of X G e, ⟨t, rfl⟩, fun _ H F => by unfold Val; rfl⟩
theorem cn_hole (X : K.In h) (G : h.Ns mainGlobals mg) {w : Wo} {x : Str} {a : Addr} {od : Option Addr} {t : Tok} {n : Nat} {sl : Array (Option Value)} (e : PySem.W.nsIn K mainGlobals x = some (some (.ref a))) (l : K.lookup a = some ⟨.type "tuple", od, .seq #[.str "*" t] n, sl⟩) : CnP K mg w (x, .tup [.str "*"]) :=
  ⟨_, .ref a, PySem.W.mg_of X G e, rfl, fun _ H F => by
    unfold Val
    refine ⟨a, [.str "*"], rfl, .inr ⟨_, #[.str "*" t], n, l, rfl, rfl, by show 1 ≤ 16777216; omega, ?_⟩, .inl rfl, ?_⟩
    · exact .cons ⟨t, rfl⟩ .nil
    · exact ValL.cons (by unfold Val; rfl) ValL.nil⟩
theorem lks_mem {x : Str} {v : D} : ∀ {l : List (Str × D)}, l.lookup x = some v → (x, v) ∈ l
  | [], h => by cases h
  | (g, dg) :: l, h => by
    rw [List.lookup_cons] at h
    split at h
    · rename_i e
      cases h
      rw [eq_of_beq e]
      exact List.mem_cons_self
    · exact List.mem_cons_of_mem _ (lks_mem h)
end
end Bk

/-! B17: rows: what put does. -/
namespace Bk
open PySem PySem.Spec PyProof.Rows L2
theorem rowF_inj {a1 a2 b1 b2 : Addr} (h : rowF a1 a2 = rowF b1 b2) : a1 = b1 ∧ a2 = b2 := by
  unfold rowF at h
  simp only [List.cons.injEq, Prod.mk.injEq, V.ref.injEq, true_and, and_true] at h
  exact h
theorem rowF_E {a1 a2 : Addr} : (rowF a1 a2).lookup ("entries" : Str) = some (.ref a1) := by
  unfold rowF
  rw [List.lookup_cons, beq_self_eq_true]
theorem rowF_N {a1 a2 : Addr} : (rowF a1 a2).lookup ("numbers" : Str) = some (.ref a2) := by
  have h : ¬ ("numbers" : Str) = "entries" := by decide +kernel
  unfold rowF
  rw [List.lookup_cons, beq_eq_false_iff_ne.mpr h, List.lookup_cons, beq_self_eq_true]
theorem putF_row {a1 a2 : Addr} : putF "numbers" (.ref a2) (putF "entries" (.ref a1) []) = rowF a1 a2 := by
  have h : ¬ ("entries" : Str) = "numbers" := by decide +kernel
  show (if ("entries" : Str) = "numbers" then [(("entries" : Str), V.ref a2)] else (("entries" : Str), V.ref a1) :: putF "numbers" (V.ref a2) []) = _
  rw [if_neg h]
  rfl
theorem rgV_succ (n : Nat) : rgV 0 ((n + 1 : Nat) : Int) = rgV 0 (n : Int) ++ [V.int n] := by
  unfold rgV
  have e1 : (((n + 1 : Nat) : Int) - 0).toNat = n + 1 := by omega
  have e2 : ((n : Int) - 0).toNat = n := by omega
  rw [e1, e2, List.range_succ, List.map_append]
  simp
theorem rgV_len (n : Nat) : (rgV 0 (n : Int)).length = n := by
  rw [rgV_length]; omega
theorem Sep.rowPut {K : Wd} {H : Hp} {F : Addr → Prop} {c : Nat} {ns : List Str} {xs : List D} {a C dx a1 a2 : Addr} {vs : List V} {ts : Things} {d : D} {v : V} {k : List Key} (s : Sep K H F ((.own (.obj c ns xs), some (.ref a)) :: ts)) (h1 : H a = some (.ins C dx (rowF a1 a2))) (h3 : H a1 = some (.lst vs))
    (l : ValL K H F xs vs) (hd : DAt K.w H a2 1 xs (rgV 0 xs.length)) (hk : keyTOf d = some k) (vd : Val K H F d v) (hl : dLook d xs (rngD 0 xs.length) = none) :
    ∃ kvs, H a2 = some (.dT kvs) ∧ valV kvs k = none ∧ kvs.length = xs.length ∧ Sep K (upd (upd H a2 (.dT (kvs ++ [(k, .int xs.length)]))) a1 (.lst (vs ++ [v]))) F ((.own (.obj c ns (xs ++ [d])), some (.ref a)) :: ts) := by
  obtain ⟨l1, kk, e, ha2⟩ := hd
  have z := look_zip (kf := keyTOf) (fun h1 h2 => keyTOf_beq h1 h2) hk e l1 (ValL.rng K H F 0 xs.length)
  have hkl : kk.length = (rgV 0 (xs.length : Int)).length := by have := congrArg List.length e; simp only [List.length_map] at this; omega
  have hlen : (kk.zip (rgV 0 (xs.length : Int))).length = xs.length := by rw [List.length_zip, hkl, Nat.min_self, rgV_len]
  refine ⟨_, ha2, z.2 hl, hlen, s.change fun f ow nd => ?_⟩
  unfold OwnD at ow
  obtain ⟨a', e0, C', dx', b1, b2, us, hC, g1, g2, g3, gl, g4, rfl⟩ := ow
  cases e0
  rw [h1] at g1
  simp only [Option.some.injEq, HO.ins.injEq] at g1
  obtain ⟨rfl, rfl, er⟩ := g1
  obtain ⟨rfl, rfl⟩ := rowF_inj er
  simp only [List.nodup_cons, List.mem_cons, List.not_mem_nil, or_false, not_or, not_false_eq_true, List.nodup_nil, and_true] at nd
  obtain ⟨⟨n1, n2, n3⟩, ⟨n4, n5⟩, n6⟩ := nd
  refine ⟨fun b hb => ?_, fun pr => ?_⟩
  · simp only [List.mem_cons, List.not_mem_nil, or_false, not_or] at hb
    rw [upd_ne hb.2.2.1, upd_ne hb.2.2.2]
  · unfold OwnD
    refine ⟨a, rfl, C, dx, a1, a2, vs ++ [v], hC, ?_, ?_, upd_same, (l.append (ValL.cons vd ValL.nil)).mono (fun _ z => z) pr, ⟨?_, kk ++ [k], ?_, ?_⟩, rfl⟩
    · rw [upd_ne n2, upd_ne n3]; exact h1
    · rw [upd_ne n4, upd_ne n5]; exact g2
    · rw [List.length_append, List.length_singleton, rgV_len]
    · rw [List.map_append, List.map_append, e]; simp [hk]
    · rw [upd_ne (fun e => n6 e.symm), upd_same, List.length_append, List.length_singleton, rgV_succ, List.zip_append hkl]
      rfl
end Bk

namespace Bk
open PySem
/- 1 -/
def f_law_cell_at : Df := ⟨"_law_cell_at", ["script", "k"], 2, [], [.ifs (.op .lt [.var 1, .op .len [.var 0]])
    [.ret (.op .mod [.op .idx [.var 0, .var 1], .op .pow [.cst (.int 10), .cst (.int 60)]])]
    [],
    .ret (.cst (.int 0))]⟩
/- 2 -/
def f_law_name : Df := ⟨"_law_name", ["base", "n", "letters", "word", "rest", "k", "size", "at", "step"], 2, [], [.asg (.v 2) (.cst (.str "abcdefghijklmnopqrstuvwxyz")),
    .asg (.v 3) (.cst (.str "")),
    .asg (.v 4) (.op .fdiv [.var 0, .cst (.int 112)]),
    .for (.v 5) (.op .rng1 [.cst (.int 8)])
    [.asg (.v 3) (.op .add [.var 3, .op .idx [.var 2, .op .mod [.var 4, .cst (.int 26)]]]),
    .asg (.v 4) (.op .fdiv [.var 4, .cst (.int 26)])],
    .ifs (.op .eq [.op .mod [.var 0, .cst (.int 2)], .cst (.int 1)])
    [.ret (.op (.slc false true) [.var 3, .ent (.op .add [.var 1, .cst (.int 1)])])]
    [],
    .asg (.v 6) (.op .add [.cst (.int 1), .op .mod [.op .fdiv [.var 0, .cst (.int 2)], .cst (.int 8)]]),
    .asg (.v 7) (.op .mod [.op .mod [.op .fdiv [.var 0, .cst (.int 16)], .cst (.int 7)], .var 6]),
    .asg (.v 8) (.op .idx [.var 2, .op .mod [.op .add [.met .sidx (.var 2) [.op .idx [.var 3, .var 7]], .var 1], .cst (.int 26)]]),
    .ret (.op .add [.op .add [.op (.slc false true) [.var 3, .ent (.var 7)], .var 8], .op (.slc true true) [.var 3, .ent (.op .add [.var 7, .cst (.int 1)]), .ent (.var 6)]])]⟩
/- 3 -/
def f_law_kinds : Df := ⟨"_law_kinds", ["cell", "mixed", "many", "rest", "kinds", "k", "at"], 1, [], [.asg (.v 1) (.op .add [.op .mul [.var 0, .cst (.int 1000003)], .cst (.int 4421)]),
    .asg (.v 2) (.op .add [.cst (.int 1), .op .mod [.var 1, .cst (.int 6)]]),
    .asg (.v 3) (.op .fdiv [.var 1, .cst (.int 7)]),
    .own 4 (.op .lst []),
    .for (.v 5) (.op .rng1 [.var 2])
    [.drop (.mut .app ⟨4, none⟩ [.op .tup [.call 2 [.op .fdiv [.var 1, .cst (.int 36)], .var 5], .op .mod [.var 3, .cst (.int 4)]]]),
    .asg (.v 3) (.op .add [.op .fdiv [.var 3, .cst (.int 4)], .var 5])],
    .asg (.v 6) (.op .mod [.op .fdiv [.var 1, .cst (.int 6)], .var 2]),
    .set ⟨4, none⟩ (.var 6) (.op .tup [.op .idx [.op .idx [.bor ⟨4, none⟩, .var 6], .cst (.int 0)], .cst (.int 0)]),
    .ret (.op .tupOf [.bor ⟨4, none⟩])]⟩
/- 13 -/
def f_law_same : Df := ⟨"_law_same", ["found", "due", "k"], 2, [], [.ifs (.op (.isi .tuple) [.var 1])
    [.ifs (.or (.not (.op (.isi .tuple) [.var 0])) (.op .ne [.op .len [.var 0], .op .len [.var 1]]))
    [.ret (.cst (.bl false))]
    [],
    .for (.v 2) (.op .rng1 [.op .len [.var 1]])
    [.ifs (.not (.call 13 [.op .idx [.var 0, .var 2], .op .idx [.var 1, .var 2]]))
    [.ret (.cst (.bl false))]
    []],
    .ret (.cst (.bl true))]
    [],
    .ifs (.op (.isi .str) [.var 1])
    [.ret (.and (.op (.isi .str) [.var 0]) (.op .eq [.var 0, .var 1]))]
    [],
    .ret (.and (.op (.isi .int) [.var 0]) (.and (.not (.op (.isi .bool) [.var 0])) (.op .eq [.var 0, .var 1])))]⟩
/- 16 -/
def f_knots : Df := ⟨"knots", ["tree", "kid"], 1, [], [.ret (.op .add [.cst (.int 1), .op .sum [.comp (.call 16 [.var 1]) (.v 1) (.op (.slc true false) [.var 0, .ent (.cst (.int 1))]) none]])]⟩
/- 0 -/
def f_shown_tree : Df := ⟨"shown_tree", ["tree", "kid"], 1, [], [.ifs (.op .eq [.op .len [.var 0], .cst (.int 1)])
    [.ret (.op .idx [.var 0, .cst (.int 0)])]
    [],
    .ret (.op .add [.op .add [.op .add [.op .idx [.var 0, .cst (.int 0)], .cst (.str "(")], .met .join (.cst (.str ",")) [.comp (.call 0 [.var 1]) (.v 1) (.op (.slc true false) [.var 0, .ent (.cst (.int 1))]) none]], .cst (.str ")")])]⟩
/- 78 -/
def f_is_name : Df := ⟨"is_name", ["word", "sign"], 1, [], [.for (.v 1) (.var 0)
    [.ifs (.op .notin [.var 1, .cst (.str "abcdefghijklmnopqrstuvwxyz")])
    [.ret (.cst (.bl false))]
    []],
    .ret (.chain .le .le (.cst (.int 1)) (.op .len [.var 0]) (.cst (.int 8)))]⟩
/- 54 -/
def f_many_of : Df := ⟨"many_of", ["kinds", "name", "known", "many"], 2, [], [.for (.t [2, 3]) (.var 0)
    [.ifs (.op .eq [.var 2, .var 1])
    [.ret (.var 3)]
    []],
    .ret (.op .neg [.cst (.int 1)])]⟩
/- 79 -/
def f_words_of : Df := ⟨"words_of", ["text", "found", "last", "sign"], 1, [], [.own 1 (.op .lst []),
    .asg (.v 2) (.cst (.str "")),
    .for (.v 3) (.var 0)
    [.ifs (.and (.op .inn [.var 3, .cst (.str "abcdefghijklmnopqrstuvwxyz")]) (.and (.op .ne [.var 2, .cst (.str "")]) (.op .inn [.var 2, .cst (.str "abcdefghijklmnopqrstuvwxyz")])))
    [.set ⟨1, none⟩ (.op .sub [.op .len [.bor ⟨1, none⟩], .cst (.int 1)]) (.op .add [.op .idx [.bor ⟨1, none⟩, .op .sub [.op .len [.bor ⟨1, none⟩], .cst (.int 1)]], .var 3])]
    [.ifs (.op .ne [.var 3, .cst (.str " ")])
    [.drop (.mut .app ⟨1, none⟩ [.var 3])]
    []],
    .asg (.v 2) (.var 3)],
    .ret (.var 1)]⟩
/- 80 -/
def f_word_at : Df := ⟨"word_at", ["words", "at"], 2, [], [.ifs (.op .lt [.var 1, .op .len [.var 0]])
    [.ret (.op .idx [.var 0, .var 1])]
    [],
    .ret (.cst (.str ""))]⟩
/- 81 -/
def f_kids_at : Df := ⟨"kids_at", ["kinds", "words", "at", "many", "deep", "kids", "k", "kid"], 5, [], [.asg (.v 5) (.op .tup []),
    .for (.v 6) (.op .rng1 [.var 3])
    [.ifs (.op .ne [.call 80 [.var 1, .var 2], .op .idx [.op .lst [.cst (.str "("), .cst (.str ",")], .op .intOf [.op .gt [.var 6, .cst (.int 0)]]]])
    [.rai 2]
    [],
    .asg (.t [7, 2]) (.call 82 [.var 0, .var 1, .op .add [.var 2, .cst (.int 1)], .op .sub [.var 4, .cst (.int 1)]]),
    .asg (.v 5) (.op .add [.var 5, .op .tup [.var 7]])],
    .ifs (.op .gt [.var 3, .cst (.int 0)])
    [.ifs (.op .ne [.call 80 [.var 1, .var 2], .cst (.str ")")])
    [.rai 2]
    [],
    .asg (.v 2) (.op .add [.var 2, .cst (.int 1)])]
    [],
    .ret (.op .tup [.var 5, .var 2])]⟩
/- 82 -/
def f_tree_at : Df := ⟨"tree_at", ["kinds", "words", "at", "deep", "name", "many", "kids", "stop"], 4, [], [.asg (.v 4) (.call 80 [.var 1, .var 2]),
    .asg (.v 5) (.call 54 [.var 0, .var 4]),
    .ifs (.or (.op .eq [.var 3, .cst (.int 0)]) (.or (.not (.call 78 [.var 4])) (.op .lt [.var 5, .cst (.int 0)])))
    [.rai 2]
    [],
    .asg (.t [6, 7]) (.call 81 [.var 0, .var 1, .op .add [.var 2, .cst (.int 1)], .var 5, .var 3]),
    .ret (.op .tup [.op .add [.op .tup [.var 4], .var 6], .var 7])]⟩
/- 83 -/
def f_read_tree : Df := ⟨"read_tree", ["kinds", "text", "words", "tree", "stop"], 2, [], [.asg (.v 2) (.call 79 [.var 1]),
    .asg (.t [3, 4]) (.call 82 [.var 0, .var 2, .cst (.int 0), .cst (.int 30)]),
    .ifs (.or (.op .ne [.var 4, .op .len [.var 2]]) (.op .gt [.call 16 [.var 3], .cst (.int 400)]))
    [.rai 2]
    [],
    .ret (.var 3)]⟩
/- 84 -/
def f_law_over_6 : Df := ⟨"_law_over", ["name", "parts", "part", "tree", "high", "many"], 2, [], [.asg (.v 3) (.op .add [.op .tup [.var 0], .op .tupOf [.comp (.op .idx [.var 2, .cst (.int 0)]) (.v 2) (.var 1) none]]),
    .asg (.v 4) (.op .add [.cst (.int 1), .op .maxl [.comp (.op .idx [.var 2, .cst (.int 1)]) (.v 2) (.var 1) none]]),
    .asg (.v 5) (.op .add [.cst (.int 1), .op .sum [.comp (.op .idx [.var 2, .cst (.int 2)]) (.v 2) (.var 1) none]]),
    .ret (.op .tup [.var 3, .var 4, .var 5, .op .add [.op .add [.op .lst [.var 0, .cst (.str "(")], .call 85 [.var 1]], .op .lst [.cst (.str ")")]]])]⟩
/- 85 -/
def f_law_comma : Df := ⟨"_law_comma", ["parts", "found", "part"], 1, [], [.own 1 (.op .lst []),
    .for (.v 2) (.var 0)
    [.ifs (.op .gt [.op .len [.bor ⟨1, none⟩], .cst (.int 0)])
    [.drop (.mut .app ⟨1, none⟩ [.cst (.str ",")])]
    [],
    .own 1 (.op .add [.bor ⟨1, none⟩, .op .idx [.var 2, .cst (.int 3)]])],
    .ret (.var 1)]⟩
/- 86 -/
def f_law_leaf_7 : Df := ⟨"_law_leaf", ["name"], 1, [], [.ret (.op .tup [.op .tup [.var 0], .cst (.int 1), .cst (.int 1), .op .lst [.var 0]])]⟩
/- 87 -/
def f_law_grown_6 : Df := ⟨"_law_grown", ["script", "kinds", "top", "most", "pair", "leaves", "made", "k", "cell", "parts", "part"], 4, [], [.asg (.v 5) (.comp (.op .idx [.var 4, .cst (.int 0)]) (.v 4) (.var 1) (some (.op .eq [.op .idx [.var 4, .cst (.int 1)], .cst (.int 0)]))),
    .own 6 (.op .lst [.call 86 [.op .idx [.var 5, .cst (.int 0)]]]),
    .for (.v 7) (.op .rng1 [.op .len [.var 0]])
    [.asg (.v 8) (.op .mod [.op .idx [.var 0, .var 7], .op .pow [.cst (.int 10), .cst (.int 60)]]),
    .asg (.v 4) (.op .idx [.var 1, .op .mod [.op .add [.var 8, .var 7], .op .len [.var 1]]]),
    .asg (.v 9) (.op .lst []),
    .ifs (.chain .lt .le (.cst (.int 0)) (.op .idx [.var 4, .cst (.int 1)]) (.op .len [.bor ⟨6, none⟩]))
    [.asg (.v 9) (.op (.slc true false) [.bor ⟨6, none⟩, .ent (.op .sub [.op .len [.bor ⟨6, none⟩], .op .idx [.var 4, .cst (.int 1)]])])]
    [],
    .ifs (.and (.op .gt [.op .len [.var 9], .cst (.int 0)]) (.and (.op .lt [.op .maxl [.comp (.op .idx [.var 10, .cst (.int 1)]) (.v 10) (.var 9) none], .var 2]) (.op .lt [.op .sum [.comp (.op .idx [.var 10, .cst (.int 2)]) (.v 10) (.var 9) none], .var 3])))
    [.for (.v 10) (.var 9)
    [.drop (.mut .pop ⟨6, none⟩ [])],
    .drop (.mut .app ⟨6, none⟩ [.call 84 [.op .idx [.var 4, .cst (.int 0)], .var 9]])]
    [.ifs (.and (.op .eq [.op .mod [.op .fdiv [.var 8, .cst (.int 7)], .cst (.int 5)], .cst (.int 1)]) (.op .lt [.op .mul [.cst (.int 2), .op .sum [.comp (.op .idx [.var 10, .cst (.int 2)]) (.v 10) (.bor ⟨6, none⟩) none]], .var 3]))
    [.drop (.mut .app ⟨6, none⟩ [.op .idx [.bor ⟨6, none⟩, .op .sub [.op .len [.bor ⟨6, none⟩], .cst (.int 1)]]])]
    [.drop (.mut .app ⟨6, none⟩ [.call 86 [.op .idx [.var 5, .op .mod [.op .fdiv [.var 8, .cst (.int 35)], .op .len [.var 5]]]]])]]],
    .ret (.var 6)]⟩
/- 88 -/
def f_law_wide : Df := ⟨"_law_wide", ["words", "cell", "text", "k"], 2, [], [.asg (.v 2) (.op .mul [.cst (.str " "), .op .mod [.var 1, .cst (.int 3)]]),
    .for (.v 3) (.op .rng1 [.op .len [.var 0]])
    [.asg (.v 2) (.op .add [.op .add [.var 2, .op .idx [.var 0, .var 3]], .op .mul [.cst (.str " "), .op .mod [.op .add [.op .fdiv [.var 1, .cst (.int 3)], .op .mul [.var 3, .var 3]], .cst (.int 3)]]])],
    .ret (.var 2)]⟩
/- 55 -/
def f_fits_pattern : Df := ⟨"fits_pattern", ["kinds", "pattern", "states", "kids", "part"], 4, [], [.ifs (.op .eq [.op .idx [.var 1, .cst (.int 0)], .cst (.str "?")])
    [.ret (.and (.chain .le .lt (.cst (.int 0)) (.op .idx [.var 1, .cst (.int 1)]) (.var 2)) (.chain .le .lt (.cst (.int 0)) (.op .idx [.var 1, .cst (.int 2)]) (.var 3)))]
    [],
    .ifs (.op .ne [.call 54 [.var 0, .op .idx [.var 1, .cst (.int 0)]], .op .sub [.op .len [.var 1], .cst (.int 1)]])
    [.ret (.cst (.bl false))]
    [],
    .for (.v 4) (.op (.slc true false) [.var 1, .ent (.cst (.int 1))])
    [.ifs (.not (.call 55 [.var 0, .var 4, .var 2, .var 3]))
    [.ret (.cst (.bl false))]
    []],
    .ret (.cst (.bl true))]⟩
/- 35 -/
def f_is_knot : Df := ⟨"is_knot", ["thing"], 1, [], [.ret (.and (.op .ne [.op .idx [.var 0, .cst (.int 0)], .cst (.str "?")]) (.op .ne [.op .idx [.var 0, .cst (.int 0)], .cst (.str "*")]))]⟩
/- 56 -/
def f_knots_of : Df := ⟨"knots_of", ["pattern", "part"], 1, [], [.ifs (.not (.call 35 [.var 0]))
    [.ret (.cst (.int 0))]
    [],
    .ret (.op .add [.cst (.int 1), .op .sum [.comp (.call 56 [.var 1]) (.v 1) (.op (.slc true false) [.var 0, .ent (.cst (.int 1))]) none]])]⟩
/- 57 -/
def f_tall_of : Df := ⟨"tall_of", ["pattern", "part"], 1, [], [.ifs (.not (.call 35 [.var 0]))
    [.ret (.cst (.int 1))]
    [],
    .ret (.op .add [.cst (.int 1), .op .maxd [.comp (.call 57 [.var 1]) (.v 1) (.op (.slc true false) [.var 0, .ent (.cst (.int 1))]) none, .cst (.int 0)]])]⟩
/- 58 -/
def f_law_whole : Df := ⟨"_law_whole", ["found"], 1, [], [.ret (.and (.op (.isi .int) [.var 0]) (.not (.op (.isi .bool) [.var 0])))]⟩
/- 59 -/
def f_law_over_5 : Df := ⟨"_law_over", ["name", "parts", "part", "made", "high", "many"], 2, [], [.asg (.v 3) (.op .add [.op .tup [.var 0], .op .tupOf [.comp (.op .idx [.var 2, .cst (.int 0)]) (.v 2) (.var 1) none]]),
    .asg (.v 4) (.op .add [.cst (.int 1), .op .maxl [.comp (.op .idx [.var 2, .cst (.int 1)]) (.v 2) (.var 1) none]]),
    .asg (.v 5) (.op .add [.cst (.int 1), .op .sum [.comp (.op .idx [.var 2, .cst (.int 2)]) (.v 2) (.var 1) none]]),
    .ret (.op .tup [.var 3, .var 4, .var 5, .op .maxl [.comp (.op .idx [.var 2, .cst (.int 3)]) (.v 2) (.var 1) none], .op .maxl [.comp (.op .idx [.var 2, .cst (.int 4)]) (.v 2) (.var 1) none]])]⟩
/- 60 -/
def f_law_leaf_5 : Df := ⟨"_law_leaf", ["kinds", "cell", "pair", "leaves", "call", "leaf"], 2, [], [.asg (.v 3) (.comp (.op .idx [.var 2, .cst (.int 0)]) (.v 2) (.var 0) (some (.op .eq [.op .idx [.var 2, .cst (.int 1)], .cst (.int 0)]))),
    .ifs (.op .gt [.op .mod [.var 1, .cst (.int 3)], .cst (.int 0)])
    [.asg (.v 4) (.op .tup [.cst (.str "?"), .op .mod [.op .fdiv [.var 1, .cst (.int 3)], .cst (.int 20)], .op .mod [.op .fdiv [.var 1, .cst (.int 60)], .cst (.int 3)]]),
    .ret (.op .tup [.var 4, .cst (.int 1), .cst (.int 0), .op .add [.op .idx [.var 4, .cst (.int 1)], .cst (.int 1)], .op .add [.op .idx [.var 4, .cst (.int 2)], .cst (.int 1)]])]
    [],
    .asg (.v 5) (.op .tup [.op .idx [.var 3, .op .mod [.op .fdiv [.var 1, .cst (.int 3)], .op .len [.var 3]]]]),
    .ret (.op .tup [.var 5, .cst (.int 1), .cst (.int 1), .cst (.int 0), .cst (.int 0)])]⟩
/- 61 -/
def f_law_grown_5 : Df := ⟨"_law_grown", ["script", "kinds", "top", "most", "made", "k", "cell", "pair", "parts", "part"], 4, [], [.own 4 (.op .lst [.call 60 [.var 1, .cst (.int 0)]]),
    .for (.v 5) (.op .rng1 [.op .len [.var 0]])
    [.asg (.v 6) (.op .mod [.op .idx [.var 0, .var 5], .op .pow [.cst (.int 10), .cst (.int 60)]]),
    .asg (.v 7) (.op .idx [.var 1, .op .mod [.op .add [.var 6, .var 5], .op .len [.var 1]]]),
    .asg (.v 8) (.op .lst []),
    .ifs (.chain .lt .le (.cst (.int 0)) (.op .idx [.var 7, .cst (.int 1)]) (.op .len [.bor ⟨4, none⟩]))
    [.asg (.v 8) (.op (.slc true false) [.bor ⟨4, none⟩, .ent (.op .sub [.op .len [.bor ⟨4, none⟩], .op .idx [.var 7, .cst (.int 1)]])])]
    [],
    .ifs (.and (.op .gt [.op .len [.var 8], .cst (.int 0)]) (.and (.op .lt [.op .maxl [.comp (.op .idx [.var 9, .cst (.int 1)]) (.v 9) (.var 8) none], .var 2]) (.op .lt [.op .sum [.comp (.op .add [.op .idx [.var 9, .cst (.int 2)], .cst (.int 1)]) (.v 9) (.var 8) none], .var 3])))
    [.for (.v 9) (.var 8)
    [.drop (.mut .pop ⟨4, none⟩ [])],
    .drop (.mut .app ⟨4, none⟩ [.call 59 [.op .idx [.var 7, .cst (.int 0)], .var 8]])]
    [.ifs (.and (.op .eq [.op .mod [.op .fdiv [.var 6, .cst (.int 7)], .cst (.int 5)], .cst (.int 1)]) (.op .lt [.op .mul [.cst (.int 2), .op .sum [.comp (.op .add [.op .idx [.var 9, .cst (.int 2)], .cst (.int 1)]) (.v 9) (.bor ⟨4, none⟩) none]], .var 3]))
    [.drop (.mut .app ⟨4, none⟩ [.op .idx [.bor ⟨4, none⟩, .op .sub [.op .len [.bor ⟨4, none⟩], .cst (.int 1)]]])]
    [.drop (.mut .app ⟨4, none⟩ [.call 60 [.var 1, .op .add [.op .fdiv [.var 6, .cst (.int 35)], .var 5]]])]]],
    .ret (.var 4)]⟩
/- 62 -/
def f_law_spoiled : Df := ⟨"_law_spoiled", ["made", "cell", "kinds", "at", "way"], 3, [], [.ifs (.and (.op .gt [.op .len [.var 0], .cst (.int 1)]) (.and (.op .ne [.op .idx [.var 0, .cst (.int 0)], .cst (.str "?")]) (.op .gt [.op .mod [.var 1, .cst (.int 3)], .cst (.int 0)])))
    [.asg (.v 3) (.op .add [.cst (.int 1), .op .mod [.op .fdiv [.var 1, .cst (.int 3)], .op .sub [.op .len [.var 0], .cst (.int 1)]]]),
    .ret (.op .add [.op .add [.op (.slc false true) [.var 0, .ent (.var 3)], .op .tup [.call 62 [.op .idx [.var 0, .var 3], .op .fdiv [.var 1, .cst (.int 11)], .var 2]]], .op (.slc true false) [.var 0, .ent (.op .add [.var 3, .cst (.int 1)])]])]
    [],
    .asg (.v 4) (.op .mod [.op .fdiv [.var 1, .cst (.int 3)], .cst (.int 4)]),
    .ifs (.op .eq [.op .idx [.var 0, .cst (.int 0)], .cst (.str "?")])
    [.ret (.op .tup [.cst (.str "?"), .op .add [.op .idx [.var 0, .cst (.int 1)], .op .idx [.op .lst [.cst (.int 1), .op .pow [.cst (.int 10), .cst (.int 20)], .op .neg [.cst (.int 21)], .cst (.int 0)], .var 4]], .op .add [.op .idx [.var 0, .cst (.int 2)], .op .idx [.op .lst [.cst (.int 0), .cst (.int 0), .cst (.int 0), .cst (.int 3)], .var 4]]])]
    [],
    .ifs (.op .eq [.var 4, .cst (.int 0)])
    [.ret (.op .add [.var 0, .op .tup [.op .tup [.cst (.str "?"), .cst (.int 0), .cst (.int 0)]]])]
    [],
    .ifs (.op .eq [.var 4, .cst (.int 1)])
    [.ret (.ite (.op .gt [.op .len [.var 0], .cst (.int 1)]) (.op (.slc false true) [.var 0, .ent (.op .neg [.cst (.int 1)])]) (.op .tup [.cst (.str "qqqqqqqq")]))]
    [],
    .ifs (.op .eq [.var 4, .cst (.int 2)])
    [.ret (.op .add [.op .tup [.op .idx [.op .idx [.var 2, .op .mod [.op .fdiv [.var 1, .cst (.int 12)], .op .len [.var 2]]], .cst (.int 0)]], .op (.slc true false) [.var 0, .ent (.cst (.int 1))]])]
    [],
    .ret (.op .tup [.cst (.str "?"), .cst (.int 19), .cst (.int 2)])]⟩
/- 63 -/
def f_law_fits : Df := ⟨"_law_fits", ["made", "kinds", "states", "kids", "part"], 4, [], [.ifs (.op .eq [.op .idx [.var 0, .cst (.int 0)], .cst (.str "?")])
    [.ret (.and (.chain .le .lt (.cst (.int 0)) (.op .idx [.var 0, .cst (.int 1)]) (.var 2)) (.chain .le .lt (.cst (.int 0)) (.op .idx [.var 0, .cst (.int 2)]) (.var 3)))]
    [],
    .ifs (.op .notin [.op .tup [.op .idx [.var 0, .cst (.int 0)], .op .sub [.op .len [.var 0], .cst (.int 1)]], .var 1])
    [.ret (.cst (.bl false))]
    [],
    .ret (.op .all [.comp (.call 63 [.var 4, .var 1, .var 2, .var 3]) (.v 4) (.op (.slc true false) [.var 0, .ent (.cst (.int 1))]) none])]⟩
/- 64 -/
def f_law_told : Df := ⟨"_law_told", ["kinds", "made", "states", "kids", "due", "found"], 5, [], [.asg (.v 5) (.call 55 [.var 0, .var 1, .var 2, .var 3]),
    .ret (.and (.op (.isi .bool) [.var 5]) (.op .eq [.var 5, .var 4]))]⟩
/- 30 -/
def f_law_over_4 : Df := ⟨"_law_over", ["name", "parts", "part", "made", "high", "many"], 2, [], [.asg (.v 3) (.op .add [.op .tup [.var 0], .op .tupOf [.comp (.op .idx [.var 2, .cst (.int 0)]) (.v 2) (.var 1) none]]),
    .asg (.v 4) (.op .add [.cst (.int 1), .op .maxl [.comp (.op .idx [.var 2, .cst (.int 1)]) (.v 2) (.var 1) none]]),
    .asg (.v 5) (.op .add [.cst (.int 1), .op .sum [.comp (.op .idx [.var 2, .cst (.int 2)]) (.v 2) (.var 1) none]]),
    .ret (.op .tup [.var 3, .var 4, .var 5])]⟩
/- 31 -/
def f_law_leaf_4 : Df := ⟨"_law_leaf", ["kinds", "cell", "pair", "leaves", "call", "leaf"], 2, [], [.asg (.v 3) (.comp (.op .idx [.var 2, .cst (.int 0)]) (.v 2) (.var 0) (some (.op .eq [.op .idx [.var 2, .cst (.int 1)], .cst (.int 0)]))),
    .ifs (.op .gt [.op .mod [.var 1, .cst (.int 3)], .cst (.int 0)])
    [.asg (.v 4) (.op .tup [.cst (.str "?"), .op .mod [.op .fdiv [.var 1, .cst (.int 3)], .cst (.int 20)], .op .mod [.op .fdiv [.var 1, .cst (.int 60)], .cst (.int 3)]]),
    .ret (.op .tup [.var 4, .cst (.int 1), .cst (.int 0)])]
    [],
    .asg (.v 5) (.op .tup [.op .idx [.var 3, .op .mod [.op .fdiv [.var 1, .cst (.int 3)], .op .len [.var 3]]]]),
    .ret (.op .tup [.var 5, .cst (.int 1), .cst (.int 1)])]⟩
/- 32 -/
def f_law_grown_4 : Df := ⟨"_law_grown", ["script", "kinds", "top", "most", "made", "k", "cell", "pair", "parts", "part"], 4, [], [.own 4 (.op .lst [.call 31 [.var 1, .cst (.int 0)]]),
    .for (.v 5) (.op .rng1 [.op .len [.var 0]])
    [.asg (.v 6) (.op .mod [.op .idx [.var 0, .var 5], .op .pow [.cst (.int 10), .cst (.int 60)]]),
    .asg (.v 7) (.op .idx [.var 1, .op .mod [.op .add [.var 6, .var 5], .op .len [.var 1]]]),
    .asg (.v 8) (.op .lst []),
    .ifs (.chain .lt .le (.cst (.int 0)) (.op .idx [.var 7, .cst (.int 1)]) (.op .len [.bor ⟨4, none⟩]))
    [.asg (.v 8) (.op (.slc true false) [.bor ⟨4, none⟩, .ent (.op .sub [.op .len [.bor ⟨4, none⟩], .op .idx [.var 7, .cst (.int 1)]])])]
    [],
    .ifs (.and (.op .gt [.op .len [.var 8], .cst (.int 0)]) (.and (.op .lt [.op .maxl [.comp (.op .idx [.var 9, .cst (.int 1)]) (.v 9) (.var 8) none], .var 2]) (.op .lt [.op .sum [.comp (.op .add [.op .idx [.var 9, .cst (.int 2)], .cst (.int 1)]) (.v 9) (.var 8) none], .var 3])))
    [.for (.v 9) (.var 8)
    [.drop (.mut .pop ⟨4, none⟩ [])],
    .drop (.mut .app ⟨4, none⟩ [.call 30 [.op .idx [.var 7, .cst (.int 0)], .var 8]])]
    [.ifs (.and (.op .eq [.op .mod [.op .fdiv [.var 6, .cst (.int 7)], .cst (.int 5)], .cst (.int 1)]) (.op .lt [.op .mul [.cst (.int 2), .op .sum [.comp (.op .add [.op .idx [.var 9, .cst (.int 2)], .cst (.int 1)]) (.v 9) (.bor ⟨4, none⟩) none]], .var 3]))
    [.drop (.mut .app ⟨4, none⟩ [.op .idx [.bor ⟨4, none⟩, .op .sub [.op .len [.bor ⟨4, none⟩], .cst (.int 1)]]])]
    [.drop (.mut .app ⟨4, none⟩ [.call 31 [.var 1, .op .add [.op .fdiv [.var 6, .cst (.int 35)], .var 5]]])]]],
    .ret (.var 4)]⟩
/- 36 -/
def f_like_knots : Df := ⟨"like_knots", ["one", "two"], 2, [], [.ret (.and (.call 35 [.var 0]) (.and (.op .eq [.op .idx [.var 0, .cst (.int 0)], .op .idx [.var 1, .cst (.int 0)]]) (.op .eq [.op .len [.var 0], .op .len [.var 1]])))]⟩
/- 37 -/
def f_lies_on : Df := ⟨"lies_on", ["front", "thing", "k"], 2, [], [.ifs (.op .eq [.var 0, .cst (.tup [(.str "*")])])
    [.ret (.cst (.bl true))]
    [],
    .ifs (.not (.call 36 [.var 0, .var 1]))
    [.ret (.cst (.bl false))]
    [],
    .for (.v 2) (.op .rng2 [.cst (.int 1), .op .len [.var 0]])
    [.ifs (.not (.call 37 [.op .idx [.var 0, .var 2], .op .idx [.var 1, .var 2]]))
    [.ret (.cst (.bl false))]
    []],
    .ret (.cst (.bl true))]⟩
/- 38 -/
def f_common : Df := ⟨"common", ["one", "two", "k"], 2, [], [.ifs (.not (.call 36 [.var 0, .var 1]))
    [.ret (.cst (.tup [(.str "*")]))]
    [],
    .ret (.op .add [.op .tup [.op .idx [.var 0, .cst (.int 0)]], .op .tupOf [.comp (.call 38 [.op .idx [.var 0, .var 2], .op .idx [.var 1, .var 2]]) (.v 2) (.op .rng2 [.cst (.int 1), .op .len [.var 0]]) none]])]⟩
/- 40 -/
def f_law_turned : Df := ⟨"_law_turned", ["thing", "cell", "other", "parts", "k"], 3, [], [.ifs (.op .eq [.op .mod [.var 1, .cst (.int 6)], .cst (.int 0)])
    [.ret (.var 2)]
    [],
    .asg (.v 3) (.op .tup []),
    .ifs (.op .eq [.op .idx [.var 0, .cst (.int 0)], .cst (.str "?")])
    [.ret (.var 0)]
    [],
    .for (.v 4) (.op .rng2 [.cst (.int 1), .op .len [.var 0]])
    [.asg (.v 3) (.op .add [.var 3, .op .tup [.call 40 [.op .idx [.var 0, .var 4], .op .mod [.op .mul [.op .mul [.op .add [.op .fdiv [.var 1, .cst (.int 6)], .cst (.int 1)], .cst (.int 69621)], .var 4], .cst (.int 2147483647)], .var 2]]])],
    .ret (.op .add [.op .tup [.op .idx [.var 0, .cst (.int 0)]], .var 3])]⟩
/- 43 -/
def f_law_more : Df := ⟨"_law_more", ["thing", "cell", "at"], 2, [], [.ifs (.op .eq [.op .idx [.var 0, .cst (.int 0)], .cst (.str "?")])
    [.ret (.var 0)]
    [],
    .ifs (.and (.op .gt [.op .len [.var 0], .cst (.int 1)]) (.op .gt [.op .mod [.var 1, .cst (.int 3)], .cst (.int 0)]))
    [.asg (.v 2) (.op .add [.cst (.int 1), .op .mod [.op .fdiv [.var 1, .cst (.int 3)], .op .sub [.op .len [.var 0], .cst (.int 1)]]]),
    .ret (.op .add [.op .add [.op (.slc false true) [.var 0, .ent (.var 2)], .op .tup [.call 43 [.op .idx [.var 0, .var 2], .op .fdiv [.var 1, .cst (.int 11)]]]], .op (.slc true false) [.var 0, .ent (.op .add [.var 2, .cst (.int 1)])]])]
    [],
    .ifs (.or (.op .eq [.op .mod [.op .fdiv [.var 1, .cst (.int 3)], .cst (.int 2)], .cst (.int 0)]) (.op .eq [.op .len [.var 0], .cst (.int 1)]))
    [.ret (.op .add [.var 0, .op .tup [.op .tup [.cst (.str "qqq")]]])]
    [],
    .ret (.op (.slc false true) [.var 0, .ent (.op .neg [.cst (.int 1)])])]⟩
/- 45 -/
def f_holes_in : Df := ⟨"holes_in", ["front", "found", "k", "place"], 1, [], [.ifs (.op .eq [.var 0, .cst (.tup [(.str "*")])])
    [.ret (.op .lst [.op .tup []])]
    [],
    .own 1 (.op .lst []),
    .for (.v 2) (.op .rng2 [.cst (.int 1), .op .len [.var 0]])
    [.drop (.mut .ext ⟨1, none⟩ [.comp (.op .add [.op .tup [.op .sub [.var 2, .cst (.int 1)]], .var 3]) (.v 3) (.call 45 [.op .idx [.var 0, .var 2]]) none])],
    .ret (.var 1)]⟩
/- 46 -/
def f_parts_at : Df := ⟨"parts_at", ["front", "thing", "found", "k"], 2, [], [.ifs (.op .eq [.var 0, .cst (.tup [(.str "*")])])
    [.ret (.op .lst [.var 1])]
    [],
    .own 2 (.op .lst []),
    .for (.v 3) (.op .rng2 [.cst (.int 1), .op .len [.var 0]])
    [.drop (.mut .ext ⟨2, none⟩ [.call 46 [.op .idx [.var 0, .var 3], .op .idx [.var 1, .var 3]]])],
    .ret (.var 2)]⟩
/- 47 -/
def f_hung_by : Df := ⟨"hung_by", ["front", "parts", "used", "made", "k", "part"], 3, [], [.ifs (.op .eq [.var 0, .cst (.tup [(.str "*")])])
    [.ret (.op .tup [.op .idx [.var 1, .var 2], .op .add [.var 2, .cst (.int 1)]])]
    [],
    .asg (.v 3) (.op .tup [.op .idx [.var 0, .cst (.int 0)]]),
    .for (.v 4) (.op .rng2 [.cst (.int 1), .op .len [.var 0]])
    [.asg (.t [5, 2]) (.call 47 [.op .idx [.var 0, .var 4], .var 1, .var 2]),
    .asg (.v 3) (.op .add [.var 3, .op .tup [.var 5]])],
    .ret (.op .tup [.var 3, .var 2])]⟩
/- 48 -/
def f_hung : Df := ⟨"hung", ["front", "parts"], 2, [], [.ret (.op .idx [.call 47 [.var 0, .var 1, .cst (.int 0)], .cst (.int 0)])]⟩
/- 49 -/
def f_law_part : Df := ⟨"_law_part", ["one", "two"], 2, [], [.ret (.or (.op .ne [.op .idx [.var 0, .cst (.int 0)], .op .idx [.var 1, .cst (.int 0)]]) (.or (.op .ne [.op .len [.var 0], .op .len [.var 1]]) (.op .eq [.op .idx [.var 0, .cst (.int 0)], .cst (.str "?")])))]⟩
/- 66 -/
def f_states_of : Df := ⟨"states_of", ["book"], 1, [], [.ret (.op .len [.op .idx [.var 0, .cst (.int 3)]])]⟩
/- 67 -/
def f_pattern_of : Df := ⟨"pattern_of", ["book", "state", "name", "at"], 3, [], [.asg (.v 3) (.cst (.int 0)),
    .whl 1000000000 (.op .ne [.op .idx [.op .idx [.op .idx [.var 0, .cst (.int 0)], .var 3], .cst (.int 0)], .var 2])
    [.asg (.v 3) (.op .add [.var 3, .cst (.int 1)])],
    .ret (.op .idx [.op .idx [.op .idx [.var 0, .cst (.int 3)], .var 1], .var 3])]⟩
/- 68 -/
def f_law_cell : Df := ⟨"_law_cell", ["script", "k"], 2, [], [.ifs (.op .lt [.var 1, .op .len [.var 0]])
    [.ret (.op .idx [.var 0, .var 1])]
    [],
    .ret (.cst (.int 0))]⟩
/- 69 -/
def f_law_turn : Df := ⟨"_law_turn", ["cell", "k", "near"], 2, [], [.asg (.v 2) (.op .mod [.op .add [.op .add [.op .add [.var 0, .op .mul [.op .mul [.cst (.int 977), .var 1], .var 1]], .op .mul [.cst (.int 31), .var 1]], .cst (.int 1)], .cst (.int 2147483647)]),
    .asg (.v 2) (.op .mod [.op .mul [.var 2, .var 2], .cst (.int 2147483647)]),
    .ret (.op .mod [.op .mul [.op .add [.var 2, .op .mul [.cst (.int 40692), .op .add [.var 1, .cst (.int 3)]]], .cst (.int 69621)], .cst (.int 2147483629)])]⟩
/- 70 -/
def f_law_kinds_2 : Df := ⟨"_law_kinds", ["cell", "letters", "rest", "size", "more", "stem", "at", "leaf", "turn", "begun", "kinds", "k", "many", "pick", "name"], 2, [], [.asg (.v 2) (.call 69 [.var 0, .cst (.int 1)]),
    .asg (.v 3) (.op .add [.cst (.int 1), .op .mod [.var 2, .cst (.int 4)]]),
    .ifs (.op .eq [.op .mod [.op .fdiv [.var 2, .cst (.int 13824)], .cst (.int 4)], .cst (.int 1)])
    [.asg (.v 3) (.op .add [.cst (.int 5), .op .mod [.op .fdiv [.var 2, .cst (.int 55296)], .cst (.int 4)]])]
    [],
    .asg (.v 4) (.op (.slc false true) [.op .add [.var 1, .cst (.str "aeio")], .ent (.op .add [.cst (.int 4), .op .mul [.cst (.int 4), .op .intOf [.op .gt [.var 3, .cst (.int 4)]]]])]),
    .asg (.v 5) (.op (.slc false true) [.cst (.str "gumleafs"), .ent (.op .mod [.op .fdiv [.var 2, .cst (.int 4)], .cst (.int 8)])]),
    .asg (.v 6) (.op .mod [.op .fdiv [.var 2, .cst (.int 32)], .op .add [.op .len [.var 5], .cst (.int 1)]]),
    .asg (.v 7) (.op .mod [.op .fdiv [.var 2, .cst (.int 288)], .var 3]),
    .asg (.v 8) (.op .mod [.op .fdiv [.var 2, .cst (.int 1152)], .cst (.int 4)]),
    .asg (.v 9) (.op .eq [.op .mod [.op .fdiv [.var 2, .cst (.int 4608)], .cst (.int 3)], .cst (.int 1)]),
    .own 10 (.op .lst []),
    .for (.v 11) (.op .rng1 [.var 3])
    [.asg (.v 2) (.call 69 [.var 2, .op .add [.var 11, .cst (.int 2)]]),
    .asg (.v 12) (.op .mul [.op .idx [.op .lst [.cst (.int 0), .cst (.int 2), .cst (.int 1), .cst (.int 3), .cst (.int 2)], .op .mod [.var 2, .cst (.int 5)]], .op .intOf [.op .ne [.var 11, .var 7]]]),
    .asg (.v 13) (.op .mod [.op .add [.op .mul [.cst (.int 3), .var 11], .var 8], .op .len [.var 4]]),
    .asg (.v 14) (.op .add [.op .add [.op (.slc false true) [.var 5, .ent (.var 6)], .op .idx [.var 4, .var 13]], .op (.slc true false) [.var 5, .ent (.var 6)]]),
    .ifs (.var 9)
    [.asg (.v 14) (.op .mul [.op .idx [.var 1, .cst (.int 0)], .op .add [.cst (.int 1), .var 13]])]
    [],
    .drop (.mut .app ⟨10, none⟩ [.op .tup [.var 14, .var 12]])],
    .ret (.op .tupOf [.bor ⟨10, none⟩])]⟩
/- 71 -/
def f_law_leaf_6 : Df := ⟨"_law_leaf", ["kinds", "cell", "kind", "leaves"], 2, [], [.asg (.v 3) (.comp (.var 2) (.v 2) (.var 0) (some (.op .eq [.op .idx [.var 2, .cst (.int 1)], .cst (.int 0)]))),
    .ret (.op .idx [.var 3, .op .mod [.var 1, .op .len [.var 3]]])]⟩
/- 72 -/
def f_law_pattern : Df := ⟨"_law_pattern", ["cell", "outs", "states", "kids", "deep", "rest", "kind", "parts", "k"], 5, [], [.asg (.v 5) (.call 69 [.var 0, .cst (.int 3)]),
    .ifs (.and (.op .gt [.var 2, .cst (.int 0)]) (.and (.op .gt [.var 3, .cst (.int 0)]) (.op .lt [.op .mod [.var 5, .cst (.int 5)], .cst (.int 2)])))
    [.ret (.op .tup [.cst (.str "?"), .op .mod [.op .fdiv [.var 5, .cst (.int 5)], .var 2], .op .mod [.op .fdiv [.var 5, .cst (.int 97)], .var 3]])]
    [],
    .asg (.v 6) (.op .idx [.var 1, .op .mod [.op .fdiv [.var 5, .cst (.int 5)], .op .len [.var 1]]]),
    .ifs (.and (.op .eq [.var 4, .cst (.int 0)]) (.op .gt [.op .idx [.var 6, .cst (.int 1)], .cst (.int 0)]))
    [.asg (.v 6) (.call 71 [.var 1, .op .fdiv [.var 5, .cst (.int 37)]])]
    [],
    .own 7 (.op .lst []),
    .for (.v 8) (.op .rng1 [.op .idx [.var 6, .cst (.int 1)]])
    [.drop (.mut .app ⟨7, none⟩ [.call 72 [.call 69 [.var 5, .op .add [.var 8, .cst (.int 5)]], .var 1, .var 2, .var 3, .op .sub [.var 4, .cst (.int 1)]]])],
    .ret (.op .add [.op .tup [.op .idx [.var 6, .cst (.int 0)]], .op .tupOf [.bor ⟨7, none⟩]])]⟩
/- 73 -/
def f_law_digit : Df := ⟨"_law_digit", ["left", "many", "digit"], 2, [0], [.asg (.v 2) (.op .mod [.op .idx [.bor ⟨0, none⟩, .cst (.int 0)], .var 1]),
    .set ⟨0, none⟩ (.cst (.int 0)) (.op .fdiv [.op .idx [.bor ⟨0, none⟩, .cst (.int 0)], .var 1]),
    .ret (.var 2)]⟩
/- 74 -/
def f_law_by_digits : Df := ⟨"_law_by_digits", ["left", "outs", "states", "kids", "deep", "state", "kind", "some", "parts", "k"], 5, [0], [.ifs (.and (.op .gt [.var 2, .cst (.int 0)]) (.and (.op .gt [.var 3, .cst (.int 0)]) (.op .eq [.call 73 [.io ⟨0, none⟩, .cst (.int 2)], .cst (.int 1)])))
    [.asg (.v 5) (.call 73 [.io ⟨0, none⟩, .var 2]),
    .ret (.op .tup [.cst (.str "?"), .var 5, .call 73 [.io ⟨0, none⟩, .var 3]])]
    [],
    .asg (.v 7) (.comp (.var 6) (.v 6) (.var 1) (some (.or (.op .eq [.op .idx [.var 6, .cst (.int 1)], .cst (.int 0)]) (.op .gt [.var 4, .cst (.int 0)])))),
    .asg (.v 6) (.op .idx [.var 7, .call 73 [.io ⟨0, none⟩, .op .len [.var 7]]]),
    .own 8 (.op .lst []),
    .for (.v 9) (.op .rng1 [.op .idx [.var 6, .cst (.int 1)]])
    [.drop (.mut .app ⟨8, none⟩ [.call 74 [.io ⟨0, none⟩, .var 1, .var 2, .var 3, .op .sub [.var 4, .cst (.int 1)]]])],
    .ret (.op .add [.op .tup [.op .idx [.var 6, .cst (.int 0)]], .op .tupOf [.bor ⟨8, none⟩]])]⟩
/- 75 -/
def f_law_book_by_digits : Df := ⟨"_law_book_by_digits", ["cell", "ins", "outs", "states", "deep", "left", "rules", "state", "row", "k"], 5, [], [.own 5 (.op .lst [.var 0]),
    .own 6 (.op .lst []),
    .for (.v 7) (.op .rng1 [.var 3])
    [.own 8 (.op .lst []),
    .for (.v 9) (.op .rng1 [.op .len [.var 1]])
    [.drop (.mut .app ⟨8, none⟩ [.call 74 [.io ⟨5, none⟩, .var 2, .var 3, .op .idx [.op .idx [.var 1, .var 9], .cst (.int 1)], .var 4]])],
    .drop (.mut .app ⟨6, none⟩ [.op .tupOf [.bor ⟨8, none⟩]])],
    .ret (.op .tup [.var 1, .var 2, .call 74 [.io ⟨5, none⟩, .var 2, .var 3, .cst (.int 1), .cst (.int 1)], .op .tupOf [.bor ⟨6, none⟩]])]⟩
/- 76 -/
def f_law_book : Df := ⟨"_law_book", ["cell", "ins", "outs", "states", "deep", "rules", "state", "row", "k"], 5, [], [.ifs (.op .ge [.var 0, .cst (.int 4294967296)])
    [.ret (.call 75 [.op .fdiv [.var 0, .cst (.int 4294967296)], .var 1, .var 2, .var 3, .var 4])]
    [],
    .own 5 (.op .lst []),
    .for (.v 6) (.op .rng1 [.var 3])
    [.own 7 (.op .lst []),
    .for (.v 8) (.op .rng1 [.op .len [.var 1]])
    [.drop (.mut .app ⟨7, none⟩ [.call 72 [.call 69 [.var 0, .op .add [.op .add [.op .mul [.cst (.int 9), .var 6], .var 8], .cst (.int 11)]], .var 2, .var 3, .op .idx [.op .idx [.var 1, .var 8], .cst (.int 1)], .var 4]])],
    .drop (.mut .app ⟨5, none⟩ [.op .tupOf [.bor ⟨7, none⟩]])],
    .ret (.op .tup [.var 1, .var 2, .call 72 [.call 69 [.var 0, .cst (.int 7)], .var 2, .var 3, .cst (.int 1), .cst (.int 1)], .op .tupOf [.bor ⟨5, none⟩]])]⟩
end Bk

namespace Bk
open PySem
/- 96 -/
def f_law_walk_3 : Df := ⟨"_law_walk", ["front", "thing", "place", "found", "k"], 3, [], [.ifs (.op .eq [.var 0, .op .tup [.cst (.str "*")]])
    [.ret (.op .lst [.op .tup [.var 2, .var 1]])]
    [],
    .own 3 (.op .lst []),
    .for (.v 4) (.op .rng2 [.cst (.int 1), .op .len [.var 0]])
    [.drop (.mut .ext ⟨3, none⟩ [.call 96 [.op .idx [.var 0, .var 4], .op .idx [.var 1, .var 4], .op .add [.var 2, .op .tup [.op .sub [.var 4, .cst (.int 1)]]]]])],
    .ret (.var 3)]⟩
/- 97 -/
def f_law_size : Df := ⟨"_law_size", ["front", "part", "sizes", "size"], 1, [], [.ifs (.op .eq [.var 0, .op .tup [.cst (.str "*")]])
    [.ret (.op .tup [.cst (.int 0), .cst (.int 1)])]
    [],
    .asg (.v 2) (.comp (.call 97 [.var 1]) (.v 1) (.op (.slc true false) [.var 0, .ent (.cst (.int 1))]) none),
    .ret (.op .tup [.op .add [.cst (.int 1), .op .sum [.comp (.op .idx [.var 3, .cst (.int 0)]) (.v 3) (.var 2) none]], .op .add [.cst (.int 1), .op .maxl [.op .add [.comp (.op .idx [.var 3, .cst (.int 1)]) (.v 3) (.var 2) none, .op .lst [.cst (.int 0)]]]]])]⟩
/- 98 -/
def f_law_raised : Df := ⟨"_law_raised", ["thing", "kinds", "many", "pair", "wide", "leaf", "k", "name", "kids"], 3, [], [.asg (.v 4) (.comp (.var 3) (.v 3) (.var 1) (some (.op .gt [.op .idx [.var 3, .cst (.int 1)], .cst (.int 0)]))),
    .asg (.v 5) (.op .tup [.op .idx [.comp (.op .idx [.var 3, .cst (.int 0)]) (.v 3) (.var 1) (some (.op .eq [.op .idx [.var 3, .cst (.int 1)], .cst (.int 0)])), .cst (.int 0)]]),
    .for (.v 6) (.op .rng1 [.op .mul [.var 2, .op .intOf [.op .gt [.op .len [.var 4], .cst (.int 0)]]]])
    [.asg (.t [7, 8]) (.op .idx [.var 4, .op .mod [.var 6, .op .len [.var 4]]]),
    .asg (.v 0) (.op .add [.op .add [.op .add [.op .tup [.var 7], .op .mul [.op .tup [.var 5], .op .mod [.var 6, .var 8]]], .op .tup [.var 0]], .op .mul [.op .tup [.var 5], .op .sub [.op .sub [.var 8, .cst (.int 1)], .op .mod [.var 6, .var 8]]]])],
    .ret (.var 0)]⟩
end Bk

namespace Bk
open PySem
end Bk

namespace Bk
open PySem
end Bk

namespace Bk
open PySem
end Bk

namespace Bk
open PySem
end Bk

namespace Bk
open PySem
end Bk

namespace Bk
open PySem
end Bk

namespace Bk
open PySem
end Bk

namespace Bk
open PySem
end Bk

namespace Bk
open PySem
end Bk

namespace Bk
open PySem
end Bk

namespace Bk
open PySem
end Bk

namespace Bk
open PySem
/- 352 -/
def f_law_odd : Df := ⟨"_law_odd", ["cell", "kinds", "some", "pair"], 2, [], [.asg (.v 2) (.op .lst [.cst (.str "("), .cst (.str ")"), .cst (.str ","), .cst (.str "zzzzzzzz"), .cst (.str "A"), .cst (.str "1"), .cst (.str "."), .cst (.str "-"), .cst (.str "()"), .cst (.str "( )"), .cst (.str ",,")]),
    .asg (.v 2) (.op .add [.var 2, .comp (.op .idx [.var 3, .cst (.int 0)]) (.v 3) (.var 1) none]),
    .ret (.op .idx [.var 2, .op .mod [.var 0, .op .len [.var 2]]])]⟩
/- 353 -/
def f_law_spoiled_3 : Df := ⟨"_law_spoiled", ["words", "cell", "kinds", "at", "odd", "word", "half"], 3, [], [.asg (.v 3) (.op .mod [.op .fdiv [.var 1, .cst (.int 4)], .op .add [.op .len [.var 0], .cst (.int 1)]]),
    .asg (.v 4) (.call 352 [.op .fdiv [.op .fdiv [.var 1, .cst (.int 4)], .op .add [.op .len [.var 0], .cst (.int 1)]], .var 2]),
    .ifs (.and (.op .eq [.op .mod [.op .fdiv [.var 1, .cst (.int 4)], .cst (.int 6)], .cst (.int 5)]) (.op .lt [.var 3, .op .len [.var 0]]))
    [.asg (.v 5) (.op .idx [.var 0, .var 3]),
    .asg (.v 6) (.op .fdiv [.op .add [.op .len [.var 5], .cst (.int 1)], .cst (.int 2)]),
    .asg (.v 4) (.op .add [.op .add [.op (.slc false true) [.var 5, .ent (.var 6)], .cst (.str " ")], .op (.slc true false) [.var 5, .ent (.var 6)]]),
    .ret (.op .add [.op .add [.op (.slc false true) [.var 0, .ent (.var 3)], .op .lst [.var 4]], .op (.slc true false) [.var 0, .ent (.op .add [.var 3, .cst (.int 1)])]])]
    [],
    .ifs (.op .eq [.op .mod [.var 1, .cst (.int 4)], .cst (.int 0)])
    [.ret (.op .lstOf [.var 0])]
    [],
    .ifs (.op .eq [.op .mod [.var 1, .cst (.int 4)], .cst (.int 1)])
    [.ret (.op .add [.op (.slc false true) [.var 0, .ent (.var 3)], .op (.slc true false) [.var 0, .ent (.op .add [.var 3, .cst (.int 1)])]])]
    [],
    .ifs (.op .eq [.op .mod [.var 1, .cst (.int 4)], .cst (.int 2)])
    [.ret (.op .add [.op .add [.op (.slc false true) [.var 0, .ent (.var 3)], .op .lst [.var 4]], .op (.slc true false) [.var 0, .ent (.op .add [.var 3, .cst (.int 1)])]])]
    [],
    .ret (.op .add [.op .add [.op (.slc false true) [.var 0, .ent (.var 3)], .op .lst [.var 4]], .op (.slc true false) [.var 0, .ent (.var 3)]])]⟩
/- 354 -/
def f_law_words : Df := ⟨"_law_words", ["tree", "kinds", "deep", "found", "k", "kid"], 3, [], [.ifs (.or (.op .eq [.var 2, .cst (.int 0)]) (.or (.not (.op (.isi .tuple) [.var 0])) (.or (.op .lt [.op .len [.var 0], .cst (.int 1)]) (.not (.op (.isi .str) [.op .idx [.var 0, .cst (.int 0)]])))))
    [.ret (.cst .non)]
    [],
    .ifs (.op .notin [.op .tup [.op .idx [.var 0, .cst (.int 0)], .op .sub [.op .len [.var 0], .cst (.int 1)]], .var 1])
    [.ret (.cst .non)]
    [],
    .own 3 (.op .lst [.op .idx [.var 0, .cst (.int 0)]]),
    .for (.v 4) (.op .rng2 [.cst (.int 1), .op .len [.var 0]])
    [.asg (.v 5) (.call 354 [.op .idx [.var 0, .var 4], .var 1, .op .sub [.var 2, .cst (.int 1)]]),
    .ifs (.op .isN [.var 5])
    [.ret (.cst .non)]
    [],
    .own 3 (.op .add [.op .add [.bor ⟨3, none⟩, .op .lst [.op .idx [.op .lst [.cst (.str "("), .cst (.str ",")], .op .intOf [.op .gt [.var 4, .cst (.int 1)]]]]], .var 5])],
    .ifs (.op .gt [.op .len [.var 0], .cst (.int 1)])
    [.drop (.mut .app ⟨3, none⟩ [.cst (.str ")")])]
    [],
    .ret (.var 3)]⟩
/- 355 -/
def f_law_told_4 : Df := ⟨"_law_told", ["kinds", "text", "signs", "found", "e"], 2, [], [.asg (.v 2) (.op .lst []),
    .asg (.v 3) (.cst .non),
    .trA [.asg (.v 3) (.call 83 [.var 0, .var 1])] 0 4
    [.asg (.v 2) (.op .lst [.xis 4 2, .xis 4 10, .xis 4 1, .xis 4 5])],
    .ret (.op .tup [.var 3, .var 2])]⟩
/- 356 -/
def f_law_50 : Df := ⟨"law", ["script", "kinds", "made", "k", "words", "told", "found", "text", "word"], 1, [], [.asg (.v 1) (.call 3 [.call 1 [.var 0, .cst (.int 0)]]),
    .asg (.v 2) (.call 87 [.var 0, .var 1, .cst (.int 30), .cst (.int 400)]),
    .for (.v 3) (.op .rng1 [.op .len [.var 2]])
    [.asg (.v 4) (.call 353 [.op .idx [.op .idx [.var 2, .var 3], .cst (.int 3)], .op .add [.op .mul [.call 1 [.var 0, .var 3], .cst (.int 1000003)], .var 3], .var 1]),
    .asg (.v 5) (.call 355 [.var 1, .met .join (.cst (.str " ")) [.var 4]]),
    .ifs (.op .eq [.op .idx [.var 5, .cst (.int 1)], .op .lst []])
    [.asg (.v 6) (.call 354 [.op .idx [.var 5, .cst (.int 0)], .var 1, .cst (.int 30)]),
    .asg (.v 7) (.rep (.met .join (.cst (.str " ")) [.var 4]) "()" "( )" ",," ", ,"),
    .ifs (.or (.op .isN [.var 6]) (.op .ne [.met .join (.cst (.str " ")) [.var 6], .met .join (.cst (.str " ")) [.met .words (.var 7) []]]))
    [.ret (.cst (.bl false))]
    [],
    .ifs (.op .gt [.op .len [.comp (.var 8) (.v 8) (.var 6) (some (.op .notin [.var 8, .op .lst [.cst (.str "("), .cst (.str ")"), .cst (.str ",")]]))], .cst (.int 400)])
    [.ret (.cst (.bl false))]
    []]
    [.ifs (.or (.op .ne [.op .idx [.var 5, .cst (.int 1)], .op .lst [.cst (.bl true), .cst (.bl true), .cst (.bl false), .cst (.bl false)]]) (.op .eq [.var 4, .op .idx [.op .idx [.var 2, .var 3], .cst (.int 3)]]))
    [.ret (.cst (.bl false))]
    []]],
    .ret (.cst (.bl true))]⟩
end Bk

namespace Bk
open PySem
def tabT : List (Nat × Df) := [(78, f_is_name), (54, f_many_of), (16, f_knots), (79, f_words_of), (80, f_word_at), (81, f_kids_at), (82, f_tree_at), (83, f_read_tree), (1, f_law_cell_at), (2, f_law_name), (3, f_law_kinds), (85, f_law_comma), (84, f_law_over_6), (86, f_law_leaf_7), (87, f_law_grown_6), (352, f_law_odd), (353, f_law_spoiled_3), (354, f_law_words), (355, f_law_told_4), (356, f_law_50)]
def suL : List ((Nat × Nat) × Bool) := [((0, 0), true), ((0, 1), false), ((0, 2), false), ((0, 5), false), ((0, 10), true), ((1, 0), true), ((1, 1), true), ((1, 2), false), ((1, 5), false), ((1, 10), true), ((2, 0), true), ((2, 1), false), ((2, 2), true), ((2, 5), false), ((2, 10), true), ((5, 0), true), ((5, 1), false), ((5, 2), false), ((5, 5), true), ((5, 10), true)]
def suT : Subs := fun k c => suL.lookup (k, c)
def lawI : Nat := 356
end Bk

/-! E1: running the little language by simp. -/
namespace Bk
open PySem
@[simp] theorem kd_cst (d : D) : (P.cst d).kd = .val := (rfl)
@[simp] theorem kd_var (i : Nat) : (P.var i).kd = .val := (rfl)
@[simp] theorem kd_bor_ (p : Pl) : (P.bor p).kd = .bor p := (rfl)
@[simp] theorem kd_io_ (p : Pl) : (P.io p).kd = .io p := (rfl)
@[simp] theorem kd_op (p : Prim) (as : List P) : (P.op p as).kd = .val := (rfl)
@[simp] theorem kd_call (f : Nat) (as : List P) : (P.call f as).kd = .val := (rfl)
@[simp] theorem kd_callT (f : Nat) (l : P) (as : List P) : (P.callT f l as).kd = .val := (rfl)
@[simp] theorem kd_and (a b : P) : (P.and a b).kd = .val := (rfl)
@[simp] theorem kd_or (a b : P) : (P.or a b).kd = .val := (rfl)
@[simp] theorem kd_not (a : P) : (P.not a).kd = .val := (rfl)
@[simp] theorem kd_ent (a : P) : (P.ent a).kd = .val := (rfl)
@[simp] theorem kd_ite (a b c : P) : (P.ite a b c).kd = .val := (rfl)
@[simp] theorem kd_chain (o o' : Prim) (a b c : P) : (P.chain o o' a b c).kd = .val := (rfl)
@[simp] theorem kd_met (m : Met) (r : P) (as : List P) : (P.met m r as).kd = .val := (rfl)
@[simp] theorem kd_mut (m : Mut) (r : Pl) (as : List P) : (P.mut m r as).kd = .val := (rfl)
@[simp] theorem kd_dnew (t : Nat) : (P.dnew t).kd = .val := (rfl)
@[simp] theorem kd_comp (e : P) (t : Tg) (i : P) (c : Option P) : (P.comp e t i c).kd = .val := (rfl)
@[simp] theorem kd_rep (e : P) (y z y2 z2 : Str) : (P.rep e y z y2 z2).kd = .val := (rfl)
@[simp] theorem kd_xis (i c : Nat) : (P.xis i c).kd = .val := (rfl)
section
variable (q : En) (ρ : Rho)
/-! what is done with a part's end: no term under a binder -/
def readS (ρ : Rho) (i : Nat) : Option Sl → Ev D
  | some (.fz d) => .ok d ρ
  | some (.own (.lst xs)) => .ok (.lst xs) (ρ.set i (.fz (.lst xs)))
  | some (.own (.dct t ks vs)) => .ok (.dct t ks vs) (ρ.set i (.fz (.dct t ks vs)))
  | _ => .stuck
@[simp] theorem readS_fz (i : Nat) (d : D) : readS ρ i (some (.fz d)) = .ok d ρ := (rfl)
@[simp] theorem readS_own (i : Nat) (xs : List D) : readS ρ i (some (.own (.lst xs))) = .ok (.lst xs) (ρ.set i (.fz (.lst xs))) := (rfl)
@[simp] theorem readS_ownD (i t : Nat) (ks vs : List D) : readS ρ i (some (.own (.dct t ks vs))) = .ok (.dct t ks vs) (ρ.set i (.fz (.dct t ks vs))) := (rfl)
@[simp] theorem readV_eq (i : Nat) : readV ρ i = readS ρ i ρ[i]? := by
  unfold readV
  cases ρ[i]? with
  | none => rfl
  | some s => cases s with
    | un => rfl
    | fz d => rfl
    | own d => cases d <;> rfl
def lookS : Option Sl → R D
  | some (.fz d) => .ok d
  | some (.own d) => .ok d
  | _ => .stuck
@[simp] theorem lookS_fz (d : D) : lookS (some (.fz d)) = .ok d := (rfl)
@[simp] theorem lookS_own (d : D) : lookS (some (.own d)) = .ok d := (rfl)
@[simp] theorem look_eq (i : Nat) : Pl.look ρ ⟨i, none⟩ = lookS ρ[i]? := by
  unfold Pl.look
  cases ρ[i]? with
  | none => rfl
  | some s => cases s <;> rfl
def takeS (ρ : Rho) (i : Nat) : Option Sl → R (D × Rho)
  | some (.own d) => .ok (d, ρ.set i .un)
  | _ => .stuck
@[simp] theorem takeS_own (i : Nat) (d : D) : takeS ρ i (some (.own d)) = .ok (d, ρ.set i .un) := (rfl)
@[simp] theorem take_eq (i : Nat) : Pl.take ρ ⟨i, none⟩ = takeS ρ i ρ[i]? := by
  unfold Pl.take
  cases ρ[i]? with
  | none => rfl
  | some s => cases s <;> rfl
def bndS : Option Sl → Bool
  | some (.fz _) => true
  | some (.own _) => true
  | _ => false
@[simp] theorem bndS_fz (d : D) : bndS (some (.fz d)) = true := (rfl)
@[simp] theorem bndS_own (d : D) : bndS (some (.own d)) = true := (rfl)
@[simp] theorem bound_eq (i : Nat) : Pl.bound ρ ⟨i, none⟩ = bndS ρ[i]? := by
  unfold Pl.bound
  cases ρ[i]? with
  | none => rfl
  | some s => cases s <;> rfl
@[simp] theorem put_eq (i : Nat) (d : D) : Pl.put ρ ⟨i, none⟩ d = .ok (ρ.set i (.own d)) := (rfl)
def opK (p : Prim) : Ev (List D) → Ev D
  | .ok ds ρ => (evPrim p ds).at ρ
  | .exc c ρ => .exc c ρ
  | .stuck => .stuck
@[simp] theorem opK_ok (p : Prim) (ds : List D) (ρ : Rho) : opK p (.ok ds ρ) = (evPrim p ds).at ρ := (rfl)
@[simp] theorem opK_exc (p : Prim) (xc : Nat) (ρ : Rho) : opK p (.exc xc ρ) = .exc xc ρ := (rfl)
def callK (q : En) (f : Nat) (as : List P) : Ev (List D) → Ev D
  | .ok ds ρ => callE as ρ (q.F f ds)
  | .exc c ρ => .exc c ρ
  | .stuck => .stuck
@[simp] theorem callK_ok (q : En) (f : Nat) (as : List P) (ds : List D) (ρ : Rho) : callK q f as (.ok ds ρ) = callE as ρ (q.F f ds) := (rfl)
@[simp] theorem callK_exc (q : En) (f : Nat) (as : List P) (xc : Nat) (ρ : Rho) : callK q f as (.exc xc ρ) = .exc xc ρ := (rfl)
def blR (ρ : Rho) : R Bool → Ev D
  | .ok k => .ok (.bl k) ρ
  | .stuck => .stuck
@[simp] theorem blR_ok (ρ : Rho) (k : Bool) : blR ρ (.ok k) = .ok (.bl k) ρ := (rfl)
def blK  : Ev D → Ev D
  | .ok x ρ => blR ρ (asB x)
  | .exc c ρ => .exc c ρ
  | .stuck => .stuck
@[simp] theorem blK_ok  (x : D) (ρ : Rho) : blK  (.ok x ρ) = blR ρ (asB x) := (rfl)
@[simp] theorem blK_exc  (xc : Nat) (ρ : Rho) : blK  (.exc xc ρ) = .exc xc ρ := (rfl)
def andR (q : En) (b : P) (ρ : Rho) : R Bool → Ev D
  | .ok k => if k then blK (evP q b ρ) else .ok (.bl false) ρ
  | .stuck => .stuck
@[simp] theorem andR_ok (q : En) (b : P) (ρ : Rho) (k : Bool) : andR q b ρ (.ok k) = if k then blK (evP q b ρ) else .ok (.bl false) ρ := (rfl)
def andK (q : En) (b : P) : Ev D → Ev D
  | .ok x ρ => andR q b ρ (asB x)
  | .exc c ρ => .exc c ρ
  | .stuck => .stuck
@[simp] theorem andK_ok (q : En) (b : P) (x : D) (ρ : Rho) : andK q b (.ok x ρ) = andR q b ρ (asB x) := (rfl)
@[simp] theorem andK_exc (q : En) (b : P) (xc : Nat) (ρ : Rho) : andK q b (.exc xc ρ) = .exc xc ρ := (rfl)
def orR (q : En) (b : P) (ρ : Rho) : R Bool → Ev D
  | .ok k => if k then .ok (.bl true) ρ else blK (evP q b ρ)
  | .stuck => .stuck
@[simp] theorem orR_ok (q : En) (b : P) (ρ : Rho) (k : Bool) : orR q b ρ (.ok k) = if k then .ok (.bl true) ρ else blK (evP q b ρ) := (rfl)
def orK (q : En) (b : P) : Ev D → Ev D
  | .ok x ρ => orR q b ρ (asB x)
  | .exc c ρ => .exc c ρ
  | .stuck => .stuck
@[simp] theorem orK_ok (q : En) (b : P) (x : D) (ρ : Rho) : orK q b (.ok x ρ) = orR q b ρ (asB x) := (rfl)
@[simp] theorem orK_exc (q : En) (b : P) (xc : Nat) (ρ : Rho) : orK q b (.exc xc ρ) = .exc xc ρ := (rfl)
def notR_ (ρ : Rho) : R Bool → Ev D
  | .ok k => .ok (.bl (!k)) ρ
  | .stuck => .stuck
@[simp] theorem notR__ok (ρ : Rho) (k : Bool) : notR_ ρ (.ok k) = .ok (.bl (!k)) ρ := (rfl)
def notK  : Ev D → Ev D
  | .ok x ρ => notR_ ρ (asB x)
  | .exc c ρ => .exc c ρ
  | .stuck => .stuck
@[simp] theorem notK_ok  (x : D) (ρ : Rho) : notK  (.ok x ρ) = notR_ ρ (asB x) := (rfl)
@[simp] theorem notK_exc  (xc : Nat) (ρ : Rho) : notK  (.exc xc ρ) = .exc xc ρ := (rfl)
def entR (ρ : Rho) : R Int → Ev D
  | .ok i => .ok (.int i) ρ
  | .stuck => .stuck
@[simp] theorem entR_ok (ρ : Rho) (i : Int) : entR ρ (.ok i) = .ok (.int i) ρ := (rfl)
def entK  : Ev D → Ev D
  | .ok x ρ => entR ρ (asI x)
  | .exc c ρ => .exc c ρ
  | .stuck => .stuck
@[simp] theorem entK_ok  (x : D) (ρ : Rho) : entK  (.ok x ρ) = entR ρ (asI x) := (rfl)
@[simp] theorem entK_exc  (xc : Nat) (ρ : Rho) : entK  (.exc xc ρ) = .exc xc ρ := (rfl)
def iteR (q : En) (a : P) (b : P) (ρ : Rho) : R Bool → Ev D
  | .ok k => if k then evP q a ρ else evP q b ρ
  | .stuck => .stuck
@[simp] theorem iteR_ok (q : En) (a : P) (b : P) (ρ : Rho) (k : Bool) : iteR q a b ρ (.ok k) = if k then evP q a ρ else evP q b ρ := (rfl)
def iteK (q : En) (a : P) (b : P) : Ev D → Ev D
  | .ok x ρ => iteR q a b ρ (asB x)
  | .exc c ρ => .exc c ρ
  | .stuck => .stuck
@[simp] theorem iteK_ok (q : En) (a : P) (b : P) (x : D) (ρ : Rho) : iteK q a b (.ok x ρ) = iteR q a b ρ (asB x) := (rfl)
@[simp] theorem iteK_exc (q : En) (a : P) (b : P) (xc : Nat) (ρ : Rho) : iteK q a b (.exc xc ρ) = .exc xc ρ := (rfl)
def blRR (ρ : Rho) : R D → Ev D
  | .ok z => blR ρ (asB z)
  | .stuck => .stuck
@[simp] theorem blRR_ok (ρ : Rho) (z : D) : blRR ρ (.ok z) = blR ρ (asB z) := (rfl)
def ch4 (o' : Prim) (y : D) : Ev D → Ev D
  | .ok w ρ => blRR ρ (evPrim o' [y, w])
  | .exc c ρ => .exc c ρ
  | .stuck => .stuck
@[simp] theorem ch4_ok (o' : Prim) (y : D) (w : D) (ρ : Rho) : ch4 o' y (.ok w ρ) = blRR ρ (evPrim o' [y, w]) := (rfl)
@[simp] theorem ch4_exc (o' : Prim) (y : D) (xc : Nat) (ρ : Rho) : ch4 o' y (.exc xc ρ) = .exc xc ρ := (rfl)
def ch3 (q : En) (o' : Prim) (c : P) (y : D) (ρ : Rho) : R Bool → Ev D
  | .ok k => if k then ch4 o' y (evP q c ρ) else .ok (.bl false) ρ
  | .stuck => .stuck
@[simp] theorem ch3_ok (q : En) (o' : Prim) (c : P) (y : D) (ρ : Rho) (k : Bool) : ch3 q o' c y ρ (.ok k) = if k then ch4 o' y (evP q c ρ) else .ok (.bl false) ρ := (rfl)
def ch2 (q : En) (o' : Prim) (c : P) (y : D) (ρ : Rho) : R D → Ev D
  | .ok z => ch3 q o' c y ρ (asB z)
  | .stuck => .stuck
@[simp] theorem ch2_ok (q : En) (o' : Prim) (c : P) (y : D) (ρ : Rho) (z : D) : ch2 q o' c y ρ (.ok z) = ch3 q o' c y ρ (asB z) := (rfl)
def ch1 (q : En) (o : Prim) (o' : Prim) (c : P) (x : D) : Ev D → Ev D
  | .ok y ρ => ch2 q o' c y ρ (evPrim o [x, y])
  | .exc c ρ => .exc c ρ
  | .stuck => .stuck
@[simp] theorem ch1_ok (q : En) (o : Prim) (o' : Prim) (c : P) (x : D) (y : D) (ρ : Rho) : ch1 q o o' c x (.ok y ρ) = ch2 q o' c y ρ (evPrim o [x, y]) := (rfl)
@[simp] theorem ch1_exc (q : En) (o : Prim) (o' : Prim) (c : P) (x : D) (xc : Nat) (ρ : Rho) : ch1 q o o' c x (.exc xc ρ) = .exc xc ρ := (rfl)
def ch0 (q : En) (o : Prim) (o' : Prim) (b : P) (c : P) : Ev D → Ev D
  | .ok x ρ => ch1 q o o' c x (evP q b ρ)
  | .exc c ρ => .exc c ρ
  | .stuck => .stuck
@[simp] theorem ch0_ok (q : En) (o : Prim) (o' : Prim) (b : P) (c : P) (x : D) (ρ : Rho) : ch0 q o o' b c (.ok x ρ) = ch1 q o o' c x (evP q b ρ) := (rfl)
@[simp] theorem ch0_exc (q : En) (o : Prim) (o' : Prim) (b : P) (c : P) (xc : Nat) (ρ : Rho) : ch0 q o o' b c (.exc xc ρ) = .exc xc ρ := (rfl)
def mutP (p : Pl) (ρ : Rho) : R (D × D) → Ev D
  | .ok r => ((p.put ρ r.2).at ρ).bind fun ρ _ => .ok r.1 ρ
  | .stuck => .stuck
@[simp] theorem mutP_ok (p : Pl) (ρ : Rho) (r : (D × D)) : mutP p ρ (.ok r) = ((p.put ρ r.2).at ρ).bind fun ρ _ => .ok r.1 ρ := (rfl)
def mutT (m : Mut) (p : Pl) (ds : List D) : R (D × Rho) → Ev D
  | .ok dr => mutP p dr.2 (evMut m dr.1 ds)
  | .stuck => .stuck
@[simp] theorem mutT_ok (m : Mut) (p : Pl) (ds : List D) (dr : (D × Rho)) : mutT m p ds (.ok dr) = mutP p dr.2 (evMut m dr.1 ds) := (rfl)
def mutK (m : Mut) (p : Pl) : Ev (List D) → Ev D
  | .ok ds ρ => mutT m p ds (p.take ρ)
  | .exc c ρ => .exc c ρ
  | .stuck => .stuck
@[simp] theorem mutK_ok (m : Mut) (p : Pl) (ds : List D) (ρ : Rho) : mutK m p (.ok ds ρ) = mutT m p ds (p.take ρ) := (rfl)
@[simp] theorem mutK_exc (m : Mut) (p : Pl) (xc : Nat) (ρ : Rho) : mutK m p (.exc xc ρ) = .exc xc ρ := (rfl)
def mutL (q : En) (m : Mut) (p : Pl) (as : List P) (ρ : Rho) : R D → Ev D
  | .ok x => if isLst x then mutK m p (evAs q as ρ) else .stuck
  | .stuck => .stuck
@[simp] theorem mutL_ok (q : En) (m : Mut) (p : Pl) (as : List P) (ρ : Rho) (x : D) : mutL q m p as ρ (.ok x) = if isLst x then mutK m p (evAs q as ρ) else .stuck := (rfl)
@[simp] theorem mutP_n (i : Nat) (ρ : Rho) (r : D × D) : mutP ⟨i, none⟩ ρ (.ok r) = .ok r.1 (ρ.set i (.own r.2)) := (rfl)
def metK (m : Met) (x : D) : Ev (List D) → Ev D
  | .ok ds ρ => (evMet m (x :: ds)).at ρ
  | .exc c ρ => .exc c ρ
  | .stuck => .stuck
@[simp] theorem metK_ok (m : Met) (x : D) (ds : List D) (ρ : Rho) : metK m x (.ok ds ρ) = (evMet m (x :: ds)).at ρ := (rfl)
@[simp] theorem metK_exc (m : Met) (x : D) (xc : Nat) (ρ : Rho) : metK m x (.exc xc ρ) = .exc xc ρ := (rfl)
def metV (q : En) (m : Met) (as : List P) : Ev D → Ev D
  | .ok x ρ => if recvOk m x then metK m x (evAs q as ρ) else .stuck
  | .exc c ρ => .exc c ρ
  | .stuck => .stuck
@[simp] theorem metV_ok (q : En) (m : Met) (as : List P) (x : D) (ρ : Rho) : metV q m as (.ok x ρ) = if recvOk m x then metK m x (evAs q as ρ) else .stuck := (rfl)
@[simp] theorem metV_exc (q : En) (m : Met) (as : List P) (xc : Nat) (ρ : Rho) : metV q m as (.exc xc ρ) = .exc xc ρ := (rfl)
def metB2 (m : Met) (ds : List D) (ρ : Rho) : R D → Ev D
  | .ok x => (evMet m (x :: ds)).at ρ
  | .stuck => .stuck
@[simp] theorem metB2_ok (m : Met) (ds : List D) (ρ : Rho) (x : D) : metB2 m ds ρ (.ok x) = (evMet m (x :: ds)).at ρ := (rfl)
def metBK (m : Met) (p : Pl) : Ev (List D) → Ev D
  | .ok ds ρ => metB2 m ds ρ (p.look ρ)
  | .exc c ρ => .exc c ρ
  | .stuck => .stuck
@[simp] theorem metBK_ok (m : Met) (p : Pl) (ds : List D) (ρ : Rho) : metBK m p (.ok ds ρ) = metB2 m ds ρ (p.look ρ) := (rfl)
@[simp] theorem metBK_exc (m : Met) (p : Pl) (xc : Nat) (ρ : Rho) : metBK m p (.exc xc ρ) = .exc xc ρ := (rfl)
def metB (q : En) (m : Met) (p : Pl) (as : List P) (ρ : Rho) : R D → Ev D
  | .ok x => if recvOk m x then metBK m p (evAs q as ρ) else .stuck
  | .stuck => .stuck
@[simp] theorem metB_ok (q : En) (m : Met) (p : Pl) (as : List P) (ρ : Rho) (x : D) : metB q m p as ρ (.ok x) = if recvOk m x then metBK m p (evAs q as ρ) else .stuck := (rfl)
def consK2 (d : D) : Ev (List D) → Ev (List D)
  | .ok ds ρ => .ok (d :: ds) ρ
  | .exc c ρ => .exc c ρ
  | .stuck => .stuck
@[simp] theorem consK2_ok (d : D) (ds : List D) (ρ : Rho) : consK2 d (.ok ds ρ) = .ok (d :: ds) ρ := (rfl)
@[simp] theorem consK2_exc (d : D) (xc : Nat) (ρ : Rho) : consK2 d (.exc xc ρ) = .exc xc ρ := (rfl)
def consK (q : En) (es : List P) : Ev D → Ev (List D)
  | .ok x ρ => consK2 x (evAs q es ρ)
  | .exc c ρ => .exc c ρ
  | .stuck => .stuck
@[simp] theorem consK_ok (q : En) (es : List P) (x : D) (ρ : Rho) : consK q es (.ok x ρ) = consK2 x (evAs q es ρ) := (rfl)
@[simp] theorem consK_exc (q : En) (es : List P) (xc : Nat) (ρ : Rho) : consK q es (.exc xc ρ) = .exc xc ρ := (rfl)
def consB (ds : List D) (ρ : Rho) : R D → Ev (List D)
  | .ok d => .ok (d :: ds) ρ
  | .stuck => .stuck
@[simp] theorem consB_ok (ds : List D) (ρ : Rho) (d : D) : consB ds ρ (.ok d) = .ok (d :: ds) ρ := (rfl)
def consBK (p : Pl) : Ev (List D) → Ev (List D)
  | .ok ds ρ => consB ds ρ (p.look ρ)
  | .exc c ρ => .exc c ρ
  | .stuck => .stuck
@[simp] theorem consBK_ok (p : Pl) (ds : List D) (ρ : Rho) : consBK p (.ok ds ρ) = consB ds ρ (p.look ρ) := (rfl)
@[simp] theorem consBK_exc (p : Pl) (xc : Nat) (ρ : Rho) : consBK p (.exc xc ρ) = .exc xc ρ := (rfl)
def consI (ds : List D) : R (D × Rho) → Ev (List D)
  | .ok dr => .ok (dr.1 :: ds) dr.2
  | .stuck => .stuck
@[simp] theorem consI_ok (ds : List D) (dr : (D × Rho)) : consI ds (.ok dr) = .ok (dr.1 :: ds) dr.2 := (rfl)
def consIK (p : Pl) : Ev (List D) → Ev (List D)
  | .ok ds ρ => consI ds (p.take ρ)
  | .exc c ρ => .exc c ρ
  | .stuck => .stuck
@[simp] theorem consIK_ok (p : Pl) (ds : List D) (ρ : Rho) : consIK p (.ok ds ρ) = consI ds (p.take ρ) := (rfl)
@[simp] theorem consIK_exc (p : Pl) (xc : Nat) (ρ : Rho) : consIK p (.exc xc ρ) = .exc xc ρ := (rfl)
def nxR  : R Rho → O
  | .ok ρ => .nx ρ
  | .stuck => .stuck
@[simp] theorem nxR_ok  (ρ : Rho) : nxR  (.ok ρ) = .nx ρ := (rfl)
def asgK (t : Tg) : Ev D → O
  | .ok x ρ => nxR (setT t x ρ)
  | .exc c ρ => .exc c ρ
  | .stuck => .stuck
@[simp] theorem asgK_ok (t : Tg) (x : D) (ρ : Rho) : asgK t (.ok x ρ) = nxR (setT t x ρ) := (rfl)
@[simp] theorem asgK_exc (t : Tg) (xc : Nat) (ρ : Rho) : asgK t (.exc xc ρ) = .exc xc ρ := (rfl)
def ownK (i : Nat) : Ev D → O
  | .ok x ρ => if isCon x then .nx (ρ.set i (.own x)) else .stuck
  | .exc c ρ => .exc c ρ
  | .stuck => .stuck
@[simp] theorem ownK_ok (i : Nat) (x : D) (ρ : Rho) : ownK i (.ok x ρ) = if isCon x then .nx (ρ.set i (.own x)) else .stuck := (rfl)
@[simp] theorem ownK_exc (i : Nat) (xc : Nat) (ρ : Rho) : ownK i (.exc xc ρ) = .exc xc ρ := (rfl)
def setP (p : Pl) (ρ : Rho) : R D → O
  | .ok d => nxR (p.put ρ d)
  | .stuck => .stuck
@[simp] theorem setP_ok (p : Pl) (ρ : Rho) (d : D) : setP p ρ (.ok d) = nxR (p.put ρ d) := (rfl)
def setTk (p : Pl) (k : D) (v : D) : R (D × Rho) → O
  | .ok dr => setP p dr.2 (evSet dr.1 k v)
  | .stuck => .stuck
@[simp] theorem setTk_ok (p : Pl) (k : D) (v : D) (dr : (D × Rho)) : setTk p k v (.ok dr) = setP p dr.2 (evSet dr.1 k v) := (rfl)
def setK2 (p : Pl) (v : D) : Ev D → O
  | .ok k ρ => setTk p k v (p.take ρ)
  | .exc c ρ => .exc c ρ
  | .stuck => .stuck
@[simp] theorem setK2_ok (p : Pl) (v : D) (k : D) (ρ : Rho) : setK2 p v (.ok k ρ) = setTk p k v (p.take ρ) := (rfl)
@[simp] theorem setK2_exc (p : Pl) (v : D) (xc : Nat) (ρ : Rho) : setK2 p v (.exc xc ρ) = .exc xc ρ := (rfl)
def setK (q : En) (p : Pl) (kk : P) : Ev D → O
  | .ok v ρ => if p.bound ρ then setK2 p v (evP q kk ρ) else .stuck
  | .exc c ρ => .exc c ρ
  | .stuck => .stuck
@[simp] theorem setK_ok (q : En) (p : Pl) (kk : P) (v : D) (ρ : Rho) : setK q p kk (.ok v ρ) = if p.bound ρ then setK2 p v (evP q kk ρ) else .stuck := (rfl)
@[simp] theorem setK_exc (q : En) (p : Pl) (kk : P) (xc : Nat) (ρ : Rho) : setK q p kk (.exc xc ρ) = .exc xc ρ := (rfl)
def dropK  : Ev D → O
  | .ok x ρ => .nx ρ
  | .exc c ρ => .exc c ρ
  | .stuck => .stuck
@[simp] theorem dropK_ok  (x : D) (ρ : Rho) : dropK  (.ok x ρ) = .nx ρ := (rfl)
@[simp] theorem dropK_exc  (xc : Nat) (ρ : Rho) : dropK  (.exc xc ρ) = .exc xc ρ := (rfl)
def ifsR (q : En) (a : List S) (b : List S) (ρ : Rho) : R Bool → O
  | .ok k => if k then evSs q a ρ else evSs q b ρ
  | .stuck => .stuck
@[simp] theorem ifsR_ok (q : En) (a : List S) (b : List S) (ρ : Rho) (k : Bool) : ifsR q a b ρ (.ok k) = if k then evSs q a ρ else evSs q b ρ := (rfl)
def ifsK (q : En) (a : List S) (b : List S) : Ev D → O
  | .ok x ρ => ifsR q a b ρ (asB x)
  | .exc c ρ => .exc c ρ
  | .stuck => .stuck
@[simp] theorem ifsK_ok (q : En) (a : List S) (b : List S) (x : D) (ρ : Rho) : ifsK q a b (.ok x ρ) = ifsR q a b ρ (asB x) := (rfl)
@[simp] theorem ifsK_exc (q : En) (a : List S) (b : List S) (xc : Nat) (ρ : Rho) : ifsK q a b (.exc xc ρ) = .exc xc ρ := (rfl)
def forB1 (q : En) (b : List S) : R Rho → O
  | .ok ρ => evSs q b ρ
  | .stuck => .stuck
@[simp] theorem forB1_ok (b : List S) : forB1 q b (.ok ρ) = evSs q b ρ := (rfl)
/-- a for's turn -/
def forB (q : En) (t : Tg) (b : List S) (x : D) (ρ : Rho) : O := forB1 q b (setT t x ρ)
def forI2 (q : En) (t : Tg) (b : List S) (xs : List D) : R (Option (Pl × D) × Rho) → O
  | .ok l => (forL (forB q t b) xs l.2).back l.1
  | .stuck => .stuck
@[simp] theorem forI2_ok (q : En) (t : Tg) (b : List S) (xs : List D) (l : (Option (Pl × D) × Rho)) : forI2 q t b xs (.ok l) = (forL (forB q t b) xs l.2).back l.1 := (rfl)
def forI (q : En) (t : Tg) (it : P) (b : List S) (ρ : Rho) : R (List D) → O
  | .ok xs => forI2 q t b xs (lendI ρ it)
  | .stuck => .stuck
@[simp] theorem forI_ok (q : En) (t : Tg) (it : P) (b : List S) (ρ : Rho) (xs : (List D)) : forI q t it b ρ (.ok xs) = forI2 q t b xs (lendI ρ it) := (rfl)
def forK (q : En) (t : Tg) (it : P) (b : List S) : Ev D → O
  | .ok x ρ => forI q t it b ρ (itemsOf x)
  | .exc c ρ => .exc c ρ
  | .stuck => .stuck
@[simp] theorem forK_ok (q : En) (t : Tg) (it : P) (b : List S) (x : D) (ρ : Rho) : forK q t it b (.ok x ρ) = forI q t it b ρ (itemsOf x) := (rfl)
@[simp] theorem forK_exc (q : En) (t : Tg) (it : P) (b : List S) (xc : Nat) (ρ : Rho) : forK q t it b (.exc xc ρ) = .exc xc ρ := (rfl)
def retK  : Ev D → O
  | .ok x ρ => .ret x ρ
  | .exc c ρ => .exc c ρ
  | .stuck => .stuck
@[simp] theorem retK_ok  (x : D) (ρ : Rho) : retK  (.ok x ρ) = .ret x ρ := (rfl)
@[simp] theorem retK_exc  (xc : Nat) (ρ : Rho) : retK  (.exc xc ρ) = .exc xc ρ := (rfl)
def whlC (q : En) (c : P) (ρ : Rho) : Ev Bool := (evP q c ρ).bind fun d ρ => (asB d).at ρ
def seqK (q : En) (ss : List S) : O → O
  | .nx ρ => evSs q ss ρ
  | .ret d ρ => .ret d ρ
  | .brk ρ => .brk ρ
  | .cont ρ => .cont ρ
  | .exc c ρ => .exc c ρ
  | .stuck => .stuck
@[simp] theorem seqK_nx (ss : List S) : seqK q ss (.nx ρ) = evSs q ss ρ := (rfl)
@[simp] theorem seqK_ret (ss : List S) (d : D) : seqK q ss (.ret d ρ) = .ret d ρ := (rfl)
@[simp] theorem seqK_brk (ss : List S) : seqK q ss (.brk ρ) = .brk ρ := (rfl)
@[simp] theorem seqK_cont (ss : List S) : seqK q ss (.cont ρ) = .cont ρ := (rfl)
@[simp] theorem seqK_exc (ss : List S) (c : Nat) : seqK q ss (.exc c ρ) = .exc c ρ := (rfl)
theorem bl_at {r : R D} {ρ : Rho} : (r.at ρ).bind (fun z ρ => ((asB z).at ρ).bind fun k ρ => Ev.ok (D.bl k) ρ) = blRR ρ r := by
  cases r with
  | stuck => rfl
  | ok z => cases z <;> rfl
theorem blK_eq (x : Ev D) : (x.bind fun y ρ => ((asB y).at ρ).bind fun k ρ => .ok (.bl k) ρ) = blK x := by
  cases x with
  | ok y ρ => cases y <;> rfl
  | exc c ρ => rfl
  | stuck => rfl
@[simp] theorem ev_cst (d : D) : evP q (.cst d) ρ = .ok d ρ := by rw [evP]
@[simp] theorem ev_var (i : Nat) : evP q (.var i) ρ = readV ρ i := by rw [evP]
@[simp] theorem ev_bor (p : Pl) : evP q (.bor p) ρ = (p.look ρ).at ρ := by rw [evP]
@[simp] theorem ev_op (p : Prim) (as : List P) : evP q (.op p as) ρ = opK p (evAs q as ρ) := by
  rw [evP]
  cases evAs q as ρ <;> rfl
@[simp] theorem ev_call (f : Nat) (as : List P) : evP q (.call f as) ρ = callK q f as (evAs q as ρ) := by
  rw [evP]
  cases evAs q as ρ <;> rfl
def callT2 (q : En) (f : Nat) (d : D) : Ev (List D) → Ev D
  | .ok es ρ => callTR (q.F f (d :: es)) ρ
  | .exc c ρ => .exc c ρ
  | .stuck => .stuck
def callT1 (q : En) (f : Nat) (as : List P) : Ev D → Ev D
  | .ok d ρ => if isCon d = true then callT2 q f d (evAs q as ρ) else .stuck
  | .exc c ρ => .exc c ρ
  | .stuck => .stuck
@[simp] theorem callT1_ok (q : En) (f : Nat) (as : List P) (xs : List D) (ρ : Rho) : callT1 q f as (.ok (.lst xs) ρ) = callT2 q f (.lst xs) (evAs q as ρ) := (rfl)
@[simp] theorem callT1_exc (q : En) (f : Nat) (as : List P) (c : Nat) (ρ : Rho) : callT1 q f as (.exc c ρ) = .exc c ρ := (rfl)
@[simp] theorem callT2_ok (q : En) (f : Nat) (d : D) (es : List D) (ρ : Rho) : callT2 q f d (.ok es ρ) = callTR (q.F f (d :: es)) ρ := (rfl)
@[simp] theorem callT2_exc (q : En) (f : Nat) (d : D) (c : Nat) (ρ : Rho) : callT2 q f d (.exc c ρ) = .exc c ρ := (rfl)
@[simp] theorem callTR_ok (d o : D) (ρ : Rho) : callTR (.ok d [o]) ρ = .ok d ρ := (rfl)
@[simp] theorem callTR_exc (c : Nat) (o : D) (ρ : Rho) : callTR (.exc c [o]) ρ = .exc c ρ := (rfl)
@[simp] theorem ev_callT (f : Nat) (l : P) (as : List P) : evP q (.callT f l as) ρ = callT1 q f as (evP q l ρ) := by
  rw [evP]
  cases evP q l ρ with
  | ok d ρ1 =>
    show (if isCon d = true then _ else _) = (if isCon d = true then _ else _)
    split
    · cases evAs q as ρ1 <;> rfl
    · rfl
  | exc c ρ1 => rfl
  | stuck => rfl
@[simp] theorem ev_and (a b : P) : evP q (.and a b) ρ = andK q b (evP q a ρ) := by
  rw [evP]
  cases evP q a ρ with
  | ok x ρ =>
    cases x with
    | bl k =>
      cases k with
      | true => exact blK_eq _
      | false => rfl
    | _ => rfl
  | exc c ρ => rfl
  | stuck => rfl
@[simp] theorem ev_or (a b : P) : evP q (.or a b) ρ = orK q b (evP q a ρ) := by
  rw [evP]
  cases evP q a ρ with
  | ok x ρ =>
    cases x with
    | bl k =>
      cases k with
      | true => rfl
      | false => exact blK_eq _
    | _ => rfl
  | exc c ρ => rfl
  | stuck => rfl
@[simp] theorem ev_not (a : P) : evP q (.not a) ρ = notK (evP q a ρ) := by
  rw [evP]
  cases evP q a ρ with
  | ok x ρ => cases x <;> rfl
  | exc c ρ => rfl
  | stuck => rfl
@[simp] theorem ev_ent (a : P) : evP q (.ent a) ρ = entK (evP q a ρ) := by
  rw [evP]
  cases evP q a ρ with
  | ok x ρ => cases x <;> rfl
  | exc c ρ => rfl
  | stuck => rfl
@[simp] theorem ev_ite (c a b : P) : evP q (.ite c a b) ρ = iteK q a b (evP q c ρ) := by
  rw [evP]
  cases evP q c ρ with
  | ok x ρ =>
    cases x with
    | bl k => cases k <;> rfl
    | _ => rfl
  | exc c ρ => rfl
  | stuck => rfl
@[simp] theorem ev_chain (o o' : Prim) (a b c : P) : evP q (.chain o o' a b c) ρ = ch0 q o o' b c (evP q a ρ) := by
  rw [evP]
  cases evP q a ρ with
  | ok x ρ =>
    show (evP q b ρ).bind _ = ch1 q o o' c x (evP q b ρ)
    cases evP q b ρ with
    | ok y ρ =>
      show ((evPrim o [x, y]).at ρ).bind _ = ch2 q o' c y ρ (evPrim o [x, y])
      cases evPrim o [x, y] with
      | stuck => rfl
      | ok z =>
        cases z with
        | bl k =>
          cases k with
          | false => rfl
          | true =>
            show (evP q c ρ).bind _ = ch4 o' y (evP q c ρ)
            cases evP q c ρ with
            | ok w ρ => exact bl_at
            | exc c ρ => rfl
            | stuck => rfl
        | _ => rfl
    | exc c ρ => rfl
    | stuck => rfl
  | exc c ρ => rfl
  | stuck => rfl
@[simp] theorem ev_dnew (t : Nat) : evP q (.dnew t) ρ = .ok (.dct t [] []) ρ := by rw [evP]
def repK (y z y2 z2 : Str) : Ev D → Ev D
  | .ok d ρ => (evRep2 y z y2 z2 d).at ρ
  | .exc c ρ => .exc c ρ
  | .stuck => .stuck
@[simp] theorem repK_ok (y z y2 z2 : Str) (d : D) (ρ : Rho) : repK y z y2 z2 (.ok d ρ) = (evRep2 y z y2 z2 d).at ρ := (rfl)
@[simp] theorem ev_rep (e : P) (y z y2 z2 : Str) : evP q (.rep e y z y2 z2) ρ = repK y z y2 z2 (evP q e ρ) := by
  rw [evP]
  cases evP q e ρ <;> rfl
@[simp] theorem ev_xis (i c : Nat) : evP q (.xis i c) ρ = (evXis q c).at ρ := by rw [evP]
@[simp] theorem ev_mut (m : Mut) (p : Pl) (as : List P) : evP q (.mut m p as) ρ = mutL q m p as ρ (p.look ρ) := by
  rw [evP]
  cases p.look ρ with
  | stuck => rfl
  | ok x =>
    show (if isLst x then _ else _) = (if isLst x then _ else _)
    split
    · cases evAs q as ρ with
      | ok ds ρ =>
        show ((p.take ρ).at ρ).bind _ = mutT m p ds (p.take ρ)
        cases p.take ρ with
        | stuck => rfl
        | ok dr =>
          show ((evMut m dr.1 ds).at ρ).bind _ = mutP p dr.2 (evMut m dr.1 ds)
          cases evMut m dr.1 ds with
          | stuck => rfl
          | ok r =>
            show ((p.put dr.2 r.2).at ρ).bind _ = ((p.put dr.2 r.2).at dr.2).bind _
            cases p.put dr.2 r.2 <;> rfl
      | exc c ρ => rfl
      | stuck => rfl
    · rfl
theorem ev_met_v (m : Met) (r : P) (as : List P) (h : r.kd = .val) : evP q (.met m r as) ρ = metV q m as (evP q r ρ) := by
  rw [evP]
  simp only [h]
  cases evP q r ρ with
  | ok x ρ =>
    show (if recvOk m x then _ else _) = (if recvOk m x then _ else _)
    split
    · cases evAs q as ρ <;> rfl
    · rfl
  | exc c ρ => rfl
  | stuck => rfl
@[simp] theorem ev_met_c (m : Met) (d : D) (as : List P) : evP q (.met m (.cst d) as) ρ = metV q m as (.ok d ρ) := by rw [ev_met_v _ _ _ _ _ rfl, ev_cst]
@[simp] theorem ev_met_var (m : Met) (i : Nat) (as : List P) : evP q (.met m (.var i) as) ρ = metV q m as (readV ρ i) := by rw [ev_met_v _ _ _ _ _ rfl, ev_var]
@[simp] theorem ev_met_op (m : Met) (p : Prim) (bs : List P) (as : List P) : evP q (.met m (.op p bs) as) ρ = metV q m as (evP q (.op p bs) ρ) := ev_met_v _ _ _ _ _ rfl
@[simp] theorem ev_met_bor (m : Met) (p : Pl) (as : List P) : evP q (.met m (.bor p) as) ρ = metB q m p as ρ (p.look ρ) := by
  rw [evP]
  show ((p.look ρ).at ρ).bind _ = _
  cases p.look ρ with
  | stuck => rfl
  | ok x =>
    show (if recvOk m x then _ else _) = (if recvOk m x then _ else _)
    split
    · cases evAs q as ρ with
      | ok ds ρ =>
        show ((p.look ρ).at ρ).bind _ = metB2 m ds ρ (p.look ρ)
        cases p.look ρ <;> rfl
      | exc c ρ => rfl
      | stuck => rfl
    · rfl
@[simp] theorem ev_as_nil : evAs q [] ρ = .ok [] ρ := by rw [evAs]
@[simp] theorem ev_as_v (e : P) (es : List P) (h : e.kd = .val) : evAs q (e :: es) ρ = consK q es (evP q e ρ) := by
  rw [evAs]
  simp only [h]
  cases evP q e ρ with
  | ok d ρ =>
    show (evAs q es ρ).bind _ = consK2 d (evAs q es ρ)
    cases evAs q es ρ <;> rfl
  | exc c ρ => rfl
  | stuck => rfl
@[simp] theorem ev_as_b (p : Pl) (es : List P) : evAs q (.bor p :: es) ρ = if p.bound ρ then consBK p (evAs q es ρ) else .stuck := by
  rw [evAs]
  show (if p.bound ρ then _ else _) = _
  split
  · cases evAs q es ρ with
    | ok ds ρ =>
      show ((p.look ρ).at ρ).bind _ = consB ds ρ (p.look ρ)
      cases p.look ρ <;> rfl
    | exc c ρ => rfl
    | stuck => rfl
  · rfl
@[simp] theorem ev_as_i (p : Pl) (es : List P) : evAs q (.io p :: es) ρ = if p.bound ρ then consIK p (evAs q es ρ) else .stuck := by
  rw [evAs]
  show (if p.bound ρ then _ else _) = _
  split
  · cases evAs q es ρ with
    | ok ds ρ =>
      show ((p.take ρ).at ρ).bind _ = consI ds (p.take ρ)
      cases p.take ρ <;> rfl
    | exc c ρ => rfl
    | stuck => rfl
  · rfl
@[simp] theorem ev_s_asg (t : Tg) (e : P) : evS q (.asg t e) ρ = asgK t (evP q e ρ) := by
  rw [evS]
  cases evP q e ρ with
  | ok d ρ =>
    show ((setT t d ρ).at ρ).thn _ = nxR (setT t d ρ)
    cases setT t d ρ <;> rfl
  | exc c ρ => rfl
  | stuck => rfl
@[simp] theorem ev_s_own (i : Nat) (e : P) : evS q (.own i e) ρ = ownK i (evP q e ρ) := by
  rw [evS]
  cases evP q e ρ <;> rfl
def parK (i j : Nat) : Ev (List D) → O
  | .ok ds ρ => parR i j ds ρ
  | .exc c ρ => .exc c ρ
  | .stuck => .stuck
@[simp] theorem parK_ok (i j : Nat) (x y : D) (ρ : Rho) : parK i j (.ok [x, y] ρ) = .nx ((ρ.set i (.fz x)).set j (.fz y)) := (rfl)
@[simp] theorem parK_exc (i j xc : Nat) (ρ : Rho) : parK i j (.exc xc ρ) = .exc xc ρ := (rfl)
@[simp] theorem ev_s_par (i j : Nat) (a b : P) : evS q (.par i j a b) ρ = parK i j (evAs q [a, b] ρ) := by
  rw [evS]
  cases evAs q [a, b] ρ <;> rfl
@[simp] theorem ev_s_set (p : Pl) (k v : P) : evS q (.set p k v) ρ = setK q p k (evP q v ρ) := by
  rw [evS]
  cases evP q v ρ with
  | ok x ρ =>
    show (if p.bound ρ then _ else _) = (if p.bound ρ then _ else _)
    split
    · cases evP q k ρ with
      | ok kd ρ =>
        show ((p.take ρ).at ρ).thn _ = setTk p kd x (p.take ρ)
        cases p.take ρ with
        | stuck => rfl
        | ok dr =>
          show ((evSet dr.1 kd x).at ρ).thn _ = setP p dr.2 (evSet dr.1 kd x)
          cases evSet dr.1 kd x with
          | stuck => rfl
          | ok d =>
            show ((p.put dr.2 d).at ρ).thn _ = nxR (p.put dr.2 d)
            cases p.put dr.2 d <;> rfl
      | exc c ρ => rfl
      | stuck => rfl
    · rfl
  | exc c ρ => rfl
  | stuck => rfl
@[simp] theorem ev_s_drop (e : P) : evS q (.drop e) ρ = dropK (evP q e ρ) := by
  rw [evS]
  cases evP q e ρ <;> rfl
@[simp] theorem ev_s_ifs (c : P) (a b : List S) : evS q (.ifs c a b) ρ = ifsK q a b (evP q c ρ) := by
  rw [evS]
  cases evP q c ρ with
  | ok x ρ => cases x <;> rfl
  | exc c ρ => rfl
  | stuck => rfl
@[simp] theorem ev_s_for (t : Tg) (it : P) (b : List S) : evS q (.for t it b) ρ = forK q t it b (evP q it ρ) := by
  rw [evS]
  cases evP q it ρ with
  | ok x ρ =>
    show ((itemsOf x).at ρ).thn _ = forI q t it b ρ (itemsOf x)
    cases itemsOf x with
    | stuck => rfl
    | ok xs =>
      show ((lendI ρ it).at ρ).thn _ = forI2 q t b xs (lendI ρ it)
      cases lendI ρ it with
      | stuck => rfl
      | ok l =>
        have : (fun x ρ => ((setT t x ρ).at ρ).thn fun ρ _ => evSs q b ρ) = forB q t b := by
          funext x ρ
          unfold forB
          cases setT t x ρ <;> rfl
        show (forL (fun x ρ => ((setT t x ρ).at ρ).thn fun ρ _ => evSs q b ρ) xs l.2).back l.1 = (forL (forB q t b) xs l.2).back l.1
        rw [this]
  | exc c ρ => rfl
  | stuck => rfl
@[simp] theorem ev_s_whl (n : Nat) (c : P) (b : List S) : evS q (.whl n c b) ρ = whlL (whlC q c) (evSs q b) n ρ := by
  rw [evS]
  rfl
@[simp] theorem ev_s_ret (e : P) : evS q (.ret e) ρ = retK (evP q e ρ) := by
  rw [evS]
  cases evP q e ρ <;> rfl
@[simp] theorem ev_s_retN : evS q .retN ρ = .ret .non ρ := by rw [evS]
@[simp] theorem ev_s_brk : evS q .brk ρ = .brk ρ := by rw [evS]
@[simp] theorem ev_s_cont : evS q .cont ρ = .cont ρ := by rw [evS]
@[simp] theorem ev_s_pas : evS q .pas ρ = .nx ρ := by rw [evS]
@[simp] theorem ev_s_rai (c : Nat) : evS q (.rai c) ρ = .exc c ρ := by rw [evS]
@[simp] theorem ev_ss_nil : evSs q [] ρ = .nx ρ := by rw [evSs]
@[simp] theorem ev_ss (s : S) (ss : List S) : evSs q (s :: ss) ρ = seqK q ss (evS q s ρ) := by
  rw [evSs]
  cases evS q s ρ <;> rfl
end
@[simp] theorem setT_v (i : Nat) (d : D) (ρ : Rho) : setT (.v i) d ρ = .ok (ρ.set i (.fz d)) := (rfl)
@[simp] theorem asB_bl (b : Bool) : asB (.bl b) = .ok b := (rfl)
@[simp] theorem asI_int (i : Int) : asI (.int i) = .ok i := (rfl)
@[simp] theorem items_tup (xs : List D) : itemsOf (.tup xs) = .ok xs := (rfl)
@[simp] theorem items_lst (xs : List D) : itemsOf (.lst xs) = .ok xs := (rfl)
@[simp] theorem items_scr (ns : List Int) : itemsOf (.scr ns) = .ok (ns.map D.int) := (rfl)
@[simp] theorem back_none (o : O) : o.back none = o := by cases o <;> rfl
@[simp] theorem lend_val (ρ : Rho) (e : P) (h : e.kd = .val) : lendI ρ e = .ok (none, ρ) := by cases e <;> first | rfl | cases h
/-- no argument is lent -/
def noLend : List P → Bool
  | [] => true
  | .io _ :: _ => false
  | _ :: es => noLend es
@[simp] theorem noLend_nil : noLend [] = true := (rfl)
@[simp] theorem noLend_b (p : Pl) (es : List P) : noLend (.bor p :: es) = noLend es := (rfl)
@[simp] theorem noLend_v (e : P) (es : List P) (h : e.kd = .val) : noLend (e :: es) = noLend es := by
  cases e <;> first | rfl | cases h
@[simp] theorem callE_ok (es : List P) (ρ : Rho) (d : D) (h : noLend es = true) : callE es ρ (.ok d []) = .ok d ρ := by
  have : ∀ es : List P, noLend es = true → ∀ ρ, putBack es [] ρ = .ok ρ := by
    intro es
    induction es with
    | nil => intro _ ρ; rfl
    | cons e es ih =>
      intro h ρ
      cases e <;> first | (simp [noLend] at h; done) | (simp only [noLend] at h; simp only [putBack]; exact ih h ρ)
  simp only [callE, this es h ρ, R.at_ok, Ev.bind_ok]
@[simp] theorem callE_exc (es : List P) (ρ : Rho) (c : Nat) (h : noLend es = true) : callE es ρ (.exc c []) = .exc c ρ := by
  have : ∀ es : List P, noLend es = true → ∀ ρ, putBack es [] ρ = .ok ρ := by
    intro es
    induction es with
    | nil => intro _ ρ; rfl
    | cons e es ih =>
      intro h ρ
      cases e <;> first | (simp [noLend] at h; done) | (simp only [noLend] at h; simp only [putBack]; exact ih h ρ)
  simp only [callE, this es h ρ, R.at_ok, Ev.bind_ok]
@[simp] theorem O.fin_nx (ρ : Rho) : (O.nx ρ).fin [] = .ok .non [] := (rfl)
@[simp] theorem O.fin_ret (d : D) (ρ : Rho) : (O.ret d ρ).fin [] = .ok d [] := (rfl)
@[simp] theorem O.fin_exc (c : Nat) (ρ : Rho) : (O.exc c ρ).fin [] = .exc c [] := (rfl)
/-- a call, unfolded -/
theorem runD_eq {su : Subs} {Ps : Nat → Option Df} {n f : Nat} {df : Df} {ds : List D} (h : Ps f = some df) (hl : ds.length = df.np) :
    runD su Ps (n + 1) f ds = (evSs ⟨su, runD su Ps n, none⟩ df.body (startR df.io 0 ds ++ List.replicate (df.N.length - df.np) Sl.un)).fin df.io := by
  rw [runD]
  simp only [h]
  rw [if_pos hl]
/-! operations, by their kinds -/
theorem len_app (a b : Str) : (a ++ b).length = a.length + b.length := by
  show (a.cps ++ b.cps).size = _
  simp [Str.length]
@[simp] theorem pr_add_int (a b : Int) : evPrim .add [.int a, .int b] = .ok (.int (a + b)) := (rfl)
@[simp] theorem pr_add_str (a b : Str) (h : a.length + b.length ≤ 16777216) : evPrim .add [.str a, .str b] = .ok (.str (a ++ b)) := by
  show okIf (decide (a.length + b.length ≤ sizeLine)) _ = _
  rw [decide_eq_true (show a.length + b.length ≤ sizeLine from h)]; rfl
@[simp] theorem pr_add_tup (a b : List D) (h : a.length + b.length ≤ 16777216) : evPrim .add [.tup a, .tup b] = .ok (.tup (a ++ b)) := by
  show okIf (decide (a.length + b.length ≤ sizeLine)) _ = _
  rw [decide_eq_true (show a.length + b.length ≤ sizeLine from h)]; rfl
@[simp] theorem pr_add_lst (a b : List D) (h : a.length + b.length ≤ 16777216) : evPrim .add [.lst a, .lst b] = .ok (.lst (a ++ b)) := by
  show okIf (decide (a.length + b.length ≤ sizeLine)) _ = _
  rw [decide_eq_true (show a.length + b.length ≤ sizeLine from h)]; rfl
@[simp] theorem pr_sub (a b : Int) : evPrim .sub [.int a, .int b] = .ok (.int (a - b)) := (rfl)
theorem small_of {a : Int} (h : a.natAbs < 2 ^ 250) : small a = true := by
  unfold small
  exact decide_eq_true (Nat.lt_of_lt_of_le h (Nat.pow_le_pow_right (by decide) (by decide)))
@[simp] theorem pr_mul (a b : Int) (ha : a.natAbs < 2 ^ 250) (hb : b.natAbs < 2 ^ 250) : evPrim .mul [.int a, .int b] = .ok (.int (a * b)) := by
  simp only [evPrim, evMul, okIf, small_of ha, small_of hb, Bool.and_self, Bool.true_or, if_true]
@[simp] theorem pr_mulR (a b : Int) (hb : b.natAbs < 2 ^ 60) : evPrim .mul [.int a, .int b] = .ok (.int (a * b)) := by
  simp only [evPrim, evMul, okIf, decide_eq_true hb, Bool.or_true, if_true]
@[simp] theorem pr_lrg (b : Int) (h0 : 0 ≤ b) (h1 : b ≤ 16777216) : evPrim .lrg [.int b] = .ok (.lst (rngD 0 b)) := by
  show okIf (decide (0 ≤ b) && decide (b ≤ 16777216)) (.lst (rngD 0 b)) = _
  rw [decide_eq_true h0, decide_eq_true h1]; rfl
@[simp] theorem pr_zipT (xs ys : List D) : evPrim .zip2 [.tup xs, .tup ys] = .ok (.lst (zipD xs ys)) := (rfl)
@[simp] theorem pr_zipL (xs ys : List D) : evPrim .zip2 [.lst xs, .lst ys] = .ok (.lst (zipD xs ys)) := (rfl)
@[simp] theorem pr_mul_str (z : Str) (k : Int) (h1 : z.length ≤ 1000) (h2 : -1000 ≤ k) (h3 : k ≤ 4000) : evPrim .mul [.str z, .int k] = .ok (.str (Txt.mul z k)) := by
  simp only [evPrim, evMul, okIf, h1, h2, h3, decide_true, Bool.and_self, if_true]
@[simp] theorem pr_mul_lst (xs : List D) (k : Int) (h1 : xs.length ≤ 1000) (h2 : -1000 ≤ k) (h3 : k ≤ 1000) : evPrim .mul [.lst xs, .int k] = .ok (.lst (List.replicate k.toNat xs).flatten) := by
  simp only [evPrim, evMul, okIf, h1, h2, h3, decide_true, Bool.and_self, if_true]
@[simp] theorem pr_mul_tup (xs : List D) (k : Int) (h1 : xs.length ≤ 1000) (h2 : -1000 ≤ k) (h3 : k ≤ 1000) : evPrim .mul [.tup xs, .int k] = .ok (.tup (List.replicate k.toNat xs).flatten) := by
  simp only [evPrim, evMul, okIf, h1, h2, h3, decide_true, Bool.and_self, if_true]
@[simp] theorem pr_fdiv (a b : Int) (h : 0 < b) (hb : b.natAbs < 2 ^ 250) : evPrim .fdiv [.int a, .int b] = .ok (.int (a / b)) := by
  simp only [evPrim, evInt2, okIf, h, small_of hb, decide_true, Bool.and_self, if_true]
@[simp] theorem pr_mod (a b : Int) (h : 0 < b) : evPrim .mod [.int a, .int b] = .ok (.int (a % b)) := by
  show okIf (decide (0 < b)) _ = _
  rw [decide_eq_true h]; rfl
@[simp] theorem pr_pow (a b : Int) (h : 0 ≤ b) (h2 : b ≤ 100000) (h3 : a.natAbs < 2 ^ 64) : evPrim .pow [.int a, .int b] = .ok (.int (a ^ b.toNat)) := by
  show okIf (decide (0 ≤ b) && decide (b ≤ 100000) && decide (a.natAbs < 2 ^ 64)) _ = _
  rw [decide_eq_true h, decide_eq_true h2, decide_eq_true h3]; rfl
@[simp] theorem pr_rng1 (b : Int) (h0 : -4611686018427387904 ≤ b) (h : b < 4611686018427387904) : evPrim .rng1 [.int b] = .ok (.lst (rngD 0 b)) := by
  have : in62 b = true := by unfold in62; rw [decide_eq_true (show -(2 ^ 62) ≤ b by omega), decide_eq_true (show b < 2 ^ 62 by omega)]; rfl
  simp only [evPrim, evRng1, this, okIf, if_true]
@[simp] theorem pr_rng2 (a b : Int) (h1 : -4611686018427387904 ≤ a) (h2 : a < 4611686018427387904) (h0 : -4611686018427387904 ≤ b) (h : b < 4611686018427387904) : evPrim .rng2 [.int a, .int b] = .ok (.lst (rngD a b)) := by
  have e1 : in62 a = true := by unfold in62; rw [decide_eq_true (show -(2 ^ 62) ≤ a by omega), decide_eq_true (show a < 2 ^ 62 by omega)]; rfl
  have e2 : in62 b = true := by unfold in62; rw [decide_eq_true (show -(2 ^ 62) ≤ b by omega), decide_eq_true (show b < 2 ^ 62 by omega)]; rfl
  simp only [evPrim, evInt2, e1, e2, okIf, Bool.and_self, if_true]
/-- 10 ** 60 -/
def p60 : Int := 10 ^ 60
theorem p60_pos : 0 < p60 := by unfold p60; decide
theorem p60_lt : p60 < 2 ^ 200 := by unfold p60; decide
@[simp high] theorem pr_p60 : evPrim .pow [.int 10, .int 60] = .ok (.int p60) := by
  rw [pr_pow _ _ (by decide) (by decide) (by decide)]
  rfl
@[simp] theorem pr_mod60 (a : Int) : evPrim .mod [.int a, .int p60] = .ok (.int (a % p60)) := pr_mod a p60 p60_pos
@[simp] theorem pr_neg (a : Int) : evPrim .neg [.int a] = .ok (.int (-a)) := (rfl)
@[simp] theorem pr_lt (a b : Int) : evPrim .lt [.int a, .int b] = .ok (.bl (decide (a < b))) := (rfl)
@[simp] theorem pr_le (a b : Int) : evPrim .le [.int a, .int b] = .ok (.bl (decide (a ≤ b))) := (rfl)
@[simp] theorem pr_gt (a b : Int) : evPrim .gt [.int a, .int b] = .ok (.bl (decide (a > b))) := (rfl)
@[simp] theorem pr_ge (a b : Int) : evPrim .ge [.int a, .int b] = .ok (.bl (decide (a ≥ b))) := (rfl)
@[simp] theorem pr_eq_int (a b : Int) : evPrim .eq [.int a, .int b] = .ok (.bl (decide (a = b))) := by
  show eqD (.int a) (.int b) = _
  unfold eqD
  simp [D.py, PyData.plain, PyData.depth, PyData.eqv, Bool.beq_eq_decide_eq]
@[simp] theorem pr_ne_int (a b : Int) : evPrim .ne [.int a, .int b] = .ok (.bl (!decide (a = b))) := by
  show notR (evPrim .eq [.int a, .int b]) = _
  rw [pr_eq_int]; rfl
@[simp] theorem pr_eq_str (a b : Str) : evPrim .eq [.str a, .str b] = .ok (.bl (decide (a = b))) := by
  show eqD (.str a) (.str b) = _
  unfold eqD
  simp [D.py, PyData.plain, PyData.depth, PyData.eqv, Bool.beq_eq_decide_eq]
@[simp] theorem pr_ne_str (a b : Str) : evPrim .ne [.str a, .str b] = .ok (.bl (!decide (a = b))) := by
  show notR (evPrim .eq [.str a, .str b]) = _
  rw [pr_eq_str]; rfl
@[simp] theorem pr_len_tup (xs : List D) : evPrim .len [.tup xs] = .ok (.int xs.length) := (rfl)
@[simp] theorem pr_len_lst (xs : List D) : evPrim .len [.lst xs] = .ok (.int xs.length) := (rfl)
@[simp] theorem pr_len_scr (xs : List Int) : evPrim .len [.scr xs] = .ok (.int xs.length) := (rfl)
@[simp] theorem pr_len_str (s : Str) (h : s.length ≤ 16777216) : evPrim .len [.str s] = .ok (.int s.length) := by
  show okIf (decide (s.length ≤ sizeLine)) _ = _
  rw [decide_eq_true (show s.length ≤ sizeLine from h)]; rfl
@[simp] theorem pr_tup (xs : List D) (h : xs.length ≤ 16777216) : evPrim .tup xs = .ok (.tup xs) := by
  show okIf (decide (xs.length ≤ sizeLine)) _ = _
  rw [decide_eq_true (show xs.length ≤ sizeLine from h)]; rfl
@[simp] theorem pr_lst (xs : List D) (h : xs.length ≤ 16777216) : evPrim .lst xs = .ok (.lst xs) := by
  show okIf (decide (xs.length ≤ sizeLine)) _ = _
  rw [decide_eq_true (show xs.length ≤ sizeLine from h)]; rfl
@[simp] theorem pr_tupOf_l (xs : List D) : evPrim .tupOf [.lst xs] = .ok (.tup xs) := (rfl)
@[simp] theorem pr_tupOf_t (xs : List D) : evPrim .tupOf [.tup xs] = .ok (.tup xs) := (rfl)
@[simp] theorem pr_lstOf_l (xs : List D) : evPrim .lstOf [.lst xs] = .ok (.lst xs) := (rfl)
@[simp] theorem pr_lstOf_t (xs : List D) : evPrim .lstOf [.tup xs] = .ok (.lst xs) := (rfl)
@[simp] theorem pr_isi (t : Ty) (x : D) : evPrim (.isi t) [x] = ofOpt ((isTy t x).map D.bl) := (rfl)
@[simp] theorem isLst_lst (xs : List D) : isLst (.lst xs) = true := (rfl)
@[simp] theorem isCon_lst (xs : List D) : isCon (.lst xs) = true := (rfl)
@[simp] theorem isCon_dct (t : Nat) (ks vs : List D) : isCon (.dct t ks vs) = true := (rfl)
@[simp] theorem mu_app (xs : List D) (d : D) (h : xs.length < 16777216) : evMut .app (.lst xs) [d] = .ok (.non, .lst (xs ++ [d])) := by
  show (if xs.length < sizeLine then _ else _) = _
  rw [if_pos (show xs.length < sizeLine from h)]
@[simp] theorem mu_ext (xs ys : List D) (h : xs.length + ys.length ≤ 16777216) : evMut .ext (.lst xs) [.lst ys] = .ok (.non, .lst (xs ++ ys)) := by
  show (if xs.length + ys.length ≤ sizeLine then _ else _) = _
  rw [if_pos (show xs.length + ys.length ≤ sizeLine from h)]
theorem mu_pop {xs : List D} {d : D} (h : xs.getLast? = some d) : evMut .pop (.lst xs) [] = .ok (d, .lst xs.dropLast) := by
  show (match xs.getLast? with | some d => R.ok (d, D.lst xs.dropLast) | none => .stuck) = _
  rw [h]
@[simp] theorem mu_rev (xs : List D) : evMut .rev (.lst xs) [] = .ok (.non, .lst xs.reverse) := (rfl)
@[simp] theorem mu_clr (xs : List D) : evMut .clr (.lst xs) [] = .ok (.non, .lst []) := (rfl)
theorem se_lst {xs : List D} {i : Int} {v : D} (h0 : 0 ≤ i) (h : i.toNat < xs.length) : evSet (.lst xs) (.int i) v = .ok (.lst (xs.set i.toNat v)) := by
  show (match L2.ixN xs.length i with | some j => R.ok (D.lst (xs.set j v)) | none => .stuck) = _
  unfold L2.ixN
  rw [if_pos h0, if_pos (by omega)]
/-- a loop's body -/
def S.loop : S → List S
  | .for _ _ b => b
  | .whl _ _ b => b
  | _ => []
def S.thn : S → List S
  | .ifs _ a _ => a
  | _ => []
def S.els : S → List S
  | .ifs _ _ b => b
  | _ => []
/-- the i-th statement -/
def nth (b : List S) (i : Nat) : S := b.getD i .pas
theorem strsOf_map : ∀ ys : List Str, strsOf (ys.map D.str) = some ys
  | [] => rfl
  | y :: ys => by simp [strsOf, strsOf_map ys]
theorem intsOf_map : ∀ ys : List Int, intsOf (ys.map D.int) = some ys
  | [] => rfl
  | y :: ys => by simp [intsOf, intsOf_map ys]
theorem boolsOf_map : ∀ ys : List Bool, boolsOf (ys.map D.bl) = some ys
  | [] => rfl
  | y :: ys => by simp [boolsOf, boolsOf_map ys]
@[simp] theorem me_join (a : Str) (ys : List Str) (h : (ys.map (·.length)).sum + ys.length * a.length ≤ 16777216) : evMet .join [.str a, .lst (ys.map D.str)] = .ok (.str (Txt.join a ys)) := by
  show evJoin [.str a, .lst (ys.map D.str)] = _
  unfold evJoin
  simp only [strsOf_map, h, decide_true, okIf, if_true]
@[simp] theorem recv_join (s : Str) : recvOk .join (.str s) = true := (rfl)
@[simp] theorem recv_sidx (s : Str) : recvOk .sidx (.str s) = true := (rfl)
@[simp] theorem recv_lidx (s : List D) : recvOk .lidx (.lst s) = true := (rfl)
@[simp] theorem pr_sum (ys : List Int) : evPrim .sum [.lst (ys.map D.int)] = .ok (.int ys.sum) := by
  simp only [evPrim, evSum, intsOf_map]
@[simp] theorem pr_all (ys : List Bool) : evPrim .all [.lst (ys.map D.bl)] = .ok (.bl (ys.all id)) := by
  simp only [evPrim, evAll, boolsOf_map]
@[simp] theorem isTy_str (s : Str) : isTy .str (.str s) = some true := (rfl)
theorem atI_ok {α : Type} {xs : List α} {i : Int} {x : α} (h0 : 0 ≤ i) (h : xs[i.toNat]? = some x) : L2.atI xs i = some x := by
  have hl := (List.getElem?_eq_some_iff.mp h).1
  unfold L2.atI L2.ixN
  rw [if_pos h0, if_pos (by omega)]
  exact h
theorem pr_idx_tup {xs : List D} {i : Int} {x : D} (h0 : 0 ≤ i) (h : xs[i.toNat]? = some x) : evPrim .idx [.tup xs, .int i] = .ok x := by
  show ofOpt (L2.atI xs i) = _
  rw [atI_ok h0 h]; rfl
theorem pr_idx_lst {xs : List D} {i : Int} {x : D} (h0 : 0 ≤ i) (h : xs[i.toNat]? = some x) : evPrim .idx [.lst xs, .int i] = .ok x := by
  show ofOpt (L2.atI xs i) = _
  rw [atI_ok h0 h]; rfl
@[simp] theorem pr_idx_t0 (x : D) (xs : List D) : evPrim .idx [.tup (x :: xs), .int 0] = .ok x := pr_idx_tup (by decide) rfl
@[simp] theorem pr_idx_t1 (x y : D) (xs : List D) : evPrim .idx [.tup (x :: y :: xs), .int 1] = .ok y := pr_idx_tup (by decide) rfl
@[simp] theorem pr_idx_t2 (x y z : D) (xs : List D) : evPrim .idx [.tup (x :: y :: z :: xs), .int 2] = .ok z := pr_idx_tup (by decide) rfl
@[simp] theorem pr_idx_t3 (x y z w : D) (xs : List D) : evPrim .idx [.tup (x :: y :: z :: w :: xs), .int 3] = .ok w := pr_idx_tup (by decide) rfl
@[simp] theorem pr_idx_l0 (x : D) (xs : List D) : evPrim .idx [.lst (x :: xs), .int 0] = .ok x := pr_idx_lst (by decide) rfl
/-- behind the first -/
@[simp] theorem pr_slc_t1 (x : D) (xs : List D) : evPrim (.slc true false) [.tup (x :: xs), .int 1] = .ok (.tup xs) := by
  show R.ok (D.tup (cutD (x :: xs) (some 1) none)) = _
  unfold cutD
  rw [show HT.sIx (x :: xs).length 0 (some 1) = min 1 (x :: xs).length from HT.sIx_nat _ _ 1, HT.sIx_none]
  rw [show min 1 (x :: xs).length = 1 by rw [List.length_cons]; omega]
  simp
/-- a loop by its states -/
theorem forL_seq {f : D → Rho → O} : ∀ (xs : List D) (k : Nat) (Rr : Nat → Rho), (∀ i x, xs[i]? = some x → f x (Rr (k + i)) = .nx (Rr (k + i + 1))) → forL f xs (Rr k) = .nx (Rr (k + xs.length))
  | [], k, Rr, _ => rfl
  | x :: xs, k, Rr, h => by
    unfold forL
    have h0 := h 0 x rfl
    rw [Nat.add_zero] at h0
    rw [h0]
    show forL f xs (Rr (k + 1)) = _
    rw [forL_seq xs (k + 1) Rr fun i y hy => by
      have := h (i + 1) y (by simpa using hy)
      rw [show k + 1 + i = k + (i + 1) by omega]
      exact this]
    rw [List.length_cons, show k + 1 + xs.length = k + (xs.length + 1) by omega]
theorem rngD_len (a b : Int) : (rngD a b).length = (b - a).toNat := by simp [rngD]
theorem rngD_get {a b : Int} {i : Nat} {x : D} (h : (rngD a b)[i]? = some x) : x = .int (a + i) ∧ i < (b - a).toNat := by
  unfold rngD at h
  rw [List.getElem?_map, Option.map_eq_some_iff] at h
  obtain ⟨j, hj, rfl⟩ := h
  obtain ⟨hl, e⟩ := List.getElem?_eq_some_iff.mp hj
  simp only [List.length_range] at hl
  simp only [List.getElem_range] at e
  subst e
  exact ⟨rfl, hl⟩
/-- a loop over range(n) by its states -/
theorem forL_rng {f : D → Rho → O} (n : Nat) (Rr : Nat → Rho) (h : ∀ i, i < n → f (.int (i : Nat)) (Rr i) = .nx (Rr (i + 1))) : forL f (rngD 0 n) (Rr 0) = .nx (Rr n) := by
  have := forL_seq (f := f) (rngD 0 n) 0 Rr fun i x hx => by
    obtain ⟨rfl, hi⟩ := rngD_get hx
    rw [Nat.zero_add, Int.zero_add]
    exact h i (by omega)
  rw [rngD_len] at this
  rw [this]
  congr 2
  omega
/-- a loop's name: not there yet, or the last item -/
def lv : Nat → Sl
  | 0 => .un
  | i + 1 => .fz (.int (i : Nat))
/-- a loop by an invariant; it may end by a return -/
theorem forL_inv {f : D → Rho → O} {Q : O → Prop} (I : Nat → Rho → Prop) : ∀ (xs : List D) (k : Nat) (ρ : Rho), I k ρ →
    (∀ i x ρ, xs[i]? = some x → I (k + i) ρ → (∃ ρ', f x ρ = .nx ρ' ∧ I (k + i + 1) ρ') ∨ (∃ ρ', f x ρ = .cont ρ' ∧ I (k + i + 1) ρ') ∨ (∃ ρ', f x ρ = .brk ρ' ∧ Q (.nx ρ')) ∨ (∃ d ρ', f x ρ = .ret d ρ' ∧ Q (.ret d ρ')) ∨ (∃ c ρ', f x ρ = .exc c ρ' ∧ Q (.exc c ρ'))) →
    (∀ ρ, I (k + xs.length) ρ → Q (.nx ρ)) → Q (forL f xs ρ)
  | [], k, ρ, h0, _, hq => hq ρ h0
  | x :: xs, k, ρ, h0, hs, hq => by
    unfold forL
    have rec_ : ∀ ρ', I (k + 1) ρ' → Q (forL f xs ρ') := fun ρ' h' => forL_inv I xs (k + 1) ρ' h' (fun i y ρ2 hy h2 => by
      have := hs (i + 1) y ρ2 (by simpa using hy) (by rw [show k + (i + 1) = k + 1 + i by omega]; exact h2)
      rw [show k + (i + 1) + 1 = k + 1 + i + 1 by omega] at this
      exact this) (fun ρ2 h2 => hq ρ2 (by rw [List.length_cons, show k + (xs.length + 1) = k + 1 + xs.length by omega]; exact h2))
    rcases hs 0 x ρ rfl h0 with ⟨ρ', e, h'⟩ | ⟨ρ', e, h'⟩ | ⟨ρ', e, h'⟩ | ⟨d, ρ', e, h'⟩ | ⟨c, ρ', e, h'⟩
    · rw [e]; exact rec_ ρ' h'
    · rw [e]; exact rec_ ρ' h'
    · rw [e]; exact h'
    · rw [e]; exact h'
    · rw [e]; exact h'
/-! comprehensions -/
theorem compL_map {α : Type} {a g : α → D} {f : D → Rho → Ev (Option D)} {ρ : Rho} : ∀ (xs : List α), (∀ x ∈ xs, f (a x) ρ = .ok (some (g x)) ρ) → compL f (xs.map a) ρ = .ok (xs.map g) ρ
  | [], _ => rfl
  | x :: xs, h => by
    rw [List.map_cons]
    unfold compL
    rw [h x List.mem_cons_self, Ev.bind_ok, compL_map xs fun y hy => h y (List.mem_cons_of_mem _ hy)]
    rfl
theorem compL_filter {α : Type} {a : α → D} {g : α → Option D} {f : D → Rho → Ev (Option D)} {ρ : Rho} : ∀ (xs : List α), (∀ x ∈ xs, f (a x) ρ = .ok (g x) ρ) → compL f (xs.map a) ρ = .ok (xs.filterMap g) ρ
  | [], _ => rfl
  | x :: xs, h => by
    rw [List.map_cons]
    unfold compL
    rw [h x List.mem_cons_self, Ev.bind_ok, compL_filter xs fun y hy => h y (List.mem_cons_of_mem _ hy)]
    cases e : g x with
    | none => simp [List.filterMap_cons, e]
    | some y => simp [List.filterMap_cons, e]
def cmpK3 (ρ : Rho) (vs : List Nat) : Ev D → Ev (Option D)
  | .ok z ρ => .ok (some z) (wipeR ρ vs)
  | _ => .stuck
@[simp] theorem cmpK3_ok (ρ ρ2 : Rho) (vs : List Nat) (z : D) : cmpK3 ρ2 vs (.ok z ρ) = .ok (some z) (wipeR ρ vs) := (rfl)
def cmpB1 (q : En) (elt : P) (vs : List Nat) : R Rho → Ev (Option D)
  | .ok ρ => cmpK3 ρ vs (evP q elt ρ)
  | .stuck => .stuck
@[simp] theorem cmpB1_ok (q : En) (elt : P) (vs : List Nat) (ρ : Rho) : cmpB1 q elt vs (.ok ρ) = cmpK3 ρ vs (evP q elt ρ) := (rfl)
/-- a comprehension's turn -/
def cmpB (q : En) (elt : P) (tg : Tg) (x : D) (ρ : Rho) : Ev (Option D) := cmpB1 q elt tg.slots (setT tg x ρ)
def cmpI3 (q : En) (elt : P) (vs : List Nat) (ρ : Rho) : R Bool → Ev (Option D)
  | .ok k => if k then cmpK3 ρ vs (evP q elt ρ) else .ok none (wipeR ρ vs)
  | .stuck => .stuck
@[simp] theorem cmpI3_ok (q : En) (elt : P) (vs : List Nat) (ρ : Rho) (k : Bool) : cmpI3 q elt vs ρ (.ok k) = if k then cmpK3 ρ vs (evP q elt ρ) else .ok none (wipeR ρ vs) := (rfl)
def cmpI2 (q : En) (elt : P) (vs : List Nat) : Ev D → Ev (Option D)
  | .ok z ρ => cmpI3 q elt vs ρ (asB z)
  | _ => .stuck
@[simp] theorem cmpI2_ok (q : En) (elt : P) (vs : List Nat) (ρ : Rho) (z : D) : cmpI2 q elt vs (.ok z ρ) = cmpI3 q elt vs ρ (asB z) := (rfl)
def cmpI1 (q : En) (elt c : P) (vs : List Nat) : R Rho → Ev (Option D)
  | .ok ρ => cmpI2 q elt vs (evP q c ρ)
  | .stuck => .stuck
@[simp] theorem cmpI1_ok (q : En) (elt c : P) (vs : List Nat) (ρ : Rho) : cmpI1 q elt c vs (.ok ρ) = cmpI2 q elt vs (evP q c ρ) := (rfl)
def cmpI (q : En) (elt c : P) (tg : Tg) (x : D) (ρ : Rho) : Ev (Option D) := cmpI1 q elt c tg.slots (setT tg x ρ)
@[simp] theorem slots_v (i : Nat) : Tg.slots (.v i) = [i] := (rfl)
@[simp] theorem slots_t (is : List Nat) : Tg.slots (.t is) = is := (rfl)
/-- [e for .. in it], where each turn leaves the slots as they were -/
theorem ev_comp {α : Type} {q : En} {elt it : P} {tg : Tg} {ρ : Rho} (xs : List α) (a g : α → D) {x : D} (hk : it.kd = .val) (h1 : evP q it ρ = .ok x ρ) (h2 : itemsOf x = .ok (xs.map a))
    (h3 : ∀ y ∈ xs, cmpB q elt tg (a y) (wipeR ρ tg.slots) = .ok (some (g y)) (wipeR ρ tg.slots))
    (h4 : backR ρ (wipeR ρ tg.slots) tg.slots = ρ) (h5 : xs.length ≤ sizeLine) : evP q (.comp elt tg it none) ρ = .ok (.lst (xs.map g)) ρ := by
  rw [evP, h1, Ev.bind_ok, h2, R.at_ok, Ev.bind_ok, lend_val _ _ hk, R.at_ok, Ev.bind_ok]
  simp only
  have e : (fun y ρ => ((setT tg y ρ).at ρ).bind fun ρ _ => (evP q elt ρ).noX.bind fun z ρ => Ev.ok (some z) (wipeR ρ tg.slots)) = cmpB q elt tg := by
    funext y ρ
    unfold cmpB
    cases setT tg y ρ with
    | stuck => rfl
    | ok ρ2 =>
      show (evP q elt ρ2).noX.bind _ = cmpK3 ρ2 tg.slots (evP q elt ρ2)
      cases evP q elt ρ2 <;> rfl
  rw [e, compL_map xs h3, Ev.bind_ok, h4]
  simp [backI, okIf, h5]
theorem ev_compIf {α : Type} {q : En} {elt it c : P} {tg : Tg} {ρ : Rho} (xs : List α) (a : α → D) (g : α → Option D) {x : D} (hk : it.kd = .val) (h1 : evP q it ρ = .ok x ρ) (h2 : itemsOf x = .ok (xs.map a))
    (h3 : ∀ y ∈ xs, cmpI q elt c tg (a y) (wipeR ρ tg.slots) = .ok (g y) (wipeR ρ tg.slots))
    (h4 : backR ρ (wipeR ρ tg.slots) tg.slots = ρ) (h5 : xs.length ≤ sizeLine) : evP q (.comp elt tg it (some c)) ρ = .ok (.lst (xs.filterMap g)) ρ := by
  rw [evP, h1, Ev.bind_ok, h2, R.at_ok, Ev.bind_ok, lend_val _ _ hk, R.at_ok, Ev.bind_ok]
  simp only
  have e : (fun y ρ => ((setT tg y ρ).at ρ).bind fun ρ _ => (evP q c ρ).noX.bind fun z ρ => ((asB z).at ρ).bind fun k ρ => if k then (evP q elt ρ).noX.bind fun z ρ => Ev.ok (some z) (wipeR ρ tg.slots) else .ok none (wipeR ρ tg.slots)) = cmpI q elt c tg := by
    funext y ρ
    unfold cmpI
    cases setT tg y ρ with
    | stuck => rfl
    | ok ρ2 =>
      show (evP q c ρ2).noX.bind _ = cmpI2 q elt tg.slots (evP q c ρ2)
      cases evP q c ρ2 with
      | ok z ρ3 =>
        cases z with
        | bl k =>
          cases k with
          | false => rfl
          | true =>
            show (evP q elt ρ3).noX.bind _ = cmpK3 ρ3 tg.slots (evP q elt ρ3)
            cases evP q elt ρ3 <;> rfl
        | _ => rfl
      | exc c ρ => rfl
      | stuck => rfl
  rw [e, compL_filter xs h3, Ev.bind_ok, h4]
  have : (xs.filterMap g).length ≤ sizeLine := Nat.le_trans (List.length_filterMap_le _ _) h5
  simp [backI, okIf, this]
theorem set_back {ρ : Rho} {i : Nat} (s : Sl) (h : i < ρ.length) : (ρ.set i s).set i (ρ.getD i .un) = ρ := by
  rw [List.set_set]
  apply List.ext_getElem?
  intro j
  by_cases e : i = j
  · subst e
    rw [List.getElem?_set_self h, List.getD_eq_getElem?_getD, List.getElem?_eq_getElem h]
    rfl
  · rw [List.getElem?_set_ne e]
/-- [x[j] for x in it] -/
theorem ev_fld {α : Type} {q : En} {it : P} {ρ : Rho} (xs : List α) (a g : α → D) {x : D} {s : Nat} {j : Int} (hk : it.kd = .val) (h1 : evP q it ρ = .ok x ρ) (h2 : itemsOf x = .ok (xs.map a)) (hs : s < ρ.length)
    (h3 : ∀ y ∈ xs, evPrim .idx [a y, .int j] = .ok (g y)) (h5 : xs.length ≤ sizeLine) : evP q (.comp (.op .idx [.var s, .cst (.int j)]) (.v s) it none) ρ = .ok (.lst (xs.map g)) ρ := by
  refine ev_comp xs a g hk h1 h2 (fun y hy => ?_) (set_back _ hs) h5
  have e : (ρ.set s (.fz (a y)))[s]? = some (.fz (a y)) := List.getElem?_set_self hs
  simp [cmpB, wipeR, List.set_set, e, h3 y hy]
/-- [x[j] for x in l] -/
theorem ev_fld_v {α : Type} {q : En} {ρ : Rho} (xs : List α) (a g : α → D) {i s : Nat} {j : Int} (h1 : ρ[i]? = some (.fz (.lst (xs.map a)))) (hs : s < ρ.length)
    (h3 : ∀ y ∈ xs, evPrim .idx [a y, .int j] = .ok (g y)) (h5 : xs.length ≤ sizeLine) : evP q (.comp (.op .idx [.var s, .cst (.int j)]) (.v s) (.var i) none) ρ = .ok (.lst (xs.map g)) ρ :=
  ev_fld xs a g rfl (by rw [ev_var, readV_eq, h1]; rfl) rfl hs h3 h5
/-- [.. for .. in it], over one's own -/
theorem ev_comp_b {α : Type} {q : En} {elt : P} {tg : Tg} {p : Nat} {ρ : Rho} (xs : List α) (a g : α → D) {d : D} (h1 : ρ[p]? = some (.own d)) (h2 : itemsOf d = .ok (xs.map a))
    (h3 : ∀ y ∈ xs, cmpB q elt tg (a y) (wipeR (ρ.set p .un) tg.slots) = .ok (some (g y)) (wipeR (ρ.set p .un) tg.slots))
    (h4 : backR (ρ.set p .un) (wipeR (ρ.set p .un) tg.slots) tg.slots = ρ.set p .un) (h5 : xs.length ≤ sizeLine) : evP q (.comp elt tg (.bor ⟨p, none⟩) none) ρ = .ok (.lst (xs.map g)) ρ := by
  have hp : p < ρ.length := (List.getElem?_eq_some_iff.mp h1).1
  have hl : lendI ρ (.bor ⟨p, none⟩) = .ok (some (⟨p, none⟩, d), ρ.set p .un) := by
    have ht : Pl.take ρ ⟨p, none⟩ = .ok (d, ρ.set p .un) := by rw [take_eq, h1]; rfl
    simp only [lendI, ht]
  rw [evP, ev_bor, look_eq, h1, lookS_own, R.at_ok, Ev.bind_ok, h2, R.at_ok, Ev.bind_ok, hl, R.at_ok, Ev.bind_ok]
  simp only
  have e : (fun y ρ => ((setT tg y ρ).at ρ).bind fun ρ _ => (evP q elt ρ).noX.bind fun z ρ => Ev.ok (some z) (wipeR ρ tg.slots)) = cmpB q elt tg := by
    funext y ρ
    unfold cmpB
    cases setT tg y ρ with
    | stuck => rfl
    | ok ρ2 =>
      show (evP q elt ρ2).noX.bind _ = cmpK3 ρ2 tg.slots (evP q elt ρ2)
      cases evP q elt ρ2 <;> rfl
  have hb : (ρ.set p .un).set p (.own d) = ρ := by
    have := set_back (ρ := ρ) .un hp
    rw [List.getD_eq_getElem?_getD, h1] at this
    exact this
  rw [e, compL_map xs h3, Ev.bind_ok, h4]
  simp [backI, okIf, h5, hb]
theorem ev_fld_b {α : Type} {q : En} {p : Nat} {ρ : Rho} (xs : List α) (a g : α → D) {d : D} {s : Nat} {j : Int} (h1 : ρ[p]? = some (.own d)) (h2 : itemsOf d = .ok (xs.map a)) (hs : s < ρ.length)
    (h3 : ∀ y ∈ xs, evPrim .idx [a y, .int j] = .ok (g y)) (h5 : xs.length ≤ sizeLine) : evP q (.comp (.op .idx [.var s, .cst (.int j)]) (.v s) (.bor ⟨p, none⟩) none) ρ = .ok (.lst (xs.map g)) ρ := by
  have hs' : s < (ρ.set p .un).length := by rw [List.length_set]; exact hs
  refine ev_comp_b xs a g h1 h2 (fun y hy => ?_) (set_back _ hs') h5
  have e : ((ρ.set p .un).set s (.fz (a y)))[s]? = some (.fz (a y)) := List.getElem?_set_self hs'
  simp [cmpB, wipeR, List.set_set, e, h3 y hy]
/-- [x[j] for x in it if x[i] == c] -/
theorem ev_fldIf {α : Type} {q : En} {it : P} {ρ : Rho} (xs : List α) (a g : α → D) (v : α → Int) {x : D} {s : Nat} {i j c : Int} (hk : it.kd = .val) (h1 : evP q it ρ = .ok x ρ) (h2 : itemsOf x = .ok (xs.map a)) (hs : s < ρ.length)
    (h3 : ∀ y ∈ xs, evPrim .idx [a y, .int j] = .ok (g y)) (h6 : ∀ y ∈ xs, evPrim .idx [a y, .int i] = .ok (.int (v y))) (h5 : xs.length ≤ sizeLine) :
    evP q (.comp (.op .idx [.var s, .cst (.int j)]) (.v s) it (some (.op .eq [.op .idx [.var s, .cst (.int i)], .cst (.int c)]))) ρ = .ok (.lst ((xs.filter fun y => decide (v y = c)).map g)) ρ := by
  have := ev_compIf (q := q) (elt := .op .idx [.var s, .cst (.int j)]) (it := it) (c := .op .eq [.op .idx [.var s, .cst (.int i)], .cst (.int c)]) (tg := .v s) (ρ := ρ) xs a (fun y => if v y = c then some (g y) else none) hk h1 h2 (fun y hy => ?_) (set_back _ hs) h5
  · rw [this]
    congr 2
    clear this h1 h2 h3 h5 h6
    induction xs with
    | nil => rfl
    | cons y ys ih =>
      by_cases e : v y = c
      · simp [List.filterMap_cons, List.filter_cons, e, ih]
      · simp [List.filterMap_cons, List.filter_cons, e, ih]
  · have e : (ρ.set s (.fz (a y)))[s]? = some (.fz (a y)) := List.getElem?_set_self hs
    by_cases hc : v y = c
    · simp [cmpI, wipeR, List.set_set, e, h3 y hy, h6 y hy, hc]
    · simp [cmpI, wipeR, List.set_set, e, h3 y hy, h6 y hy, hc]
theorem maxOf_le : ∀ (r : List Int) (m b : Int), m ≤ b → (∀ x ∈ r, x ≤ b) → maxOf m r ≤ b
  | [], m, b, h, _ => h
  | x :: r, m, b, h, hx => by
    unfold maxOf
    refine maxOf_le r _ b ?_ fun y hy => hx y (List.mem_cons_of_mem _ hy)
    split
    · exact hx x List.mem_cons_self
    · exact h
theorem le_maxOf : ∀ (r : List Int) (m : Int), m ≤ maxOf m r ∧ ∀ x ∈ r, x ≤ maxOf m r
  | [], m => ⟨Int.le_refl m, fun x h => nomatch h⟩
  | x :: r, m => by
    unfold maxOf
    obtain ⟨h1, h2⟩ := le_maxOf r (if x > m then x else m)
    have h3 : m ≤ (if x > m then x else m) ∧ x ≤ (if x > m then x else m) := by split <;> omega
    refine ⟨Int.le_trans h3.1 h1, fun y hy => ?_⟩
    rcases List.mem_cons.mp hy with rfl | hy
    · exact Int.le_trans h3.2 h1
    · exact h2 y hy
theorem pr_maxl (m : Int) (r : List Int) : evPrim .maxl [.lst ((m :: r).map D.int)] = .ok (.int (maxOf m r)) := by
  simp only [evPrim, evMaxl, intsOf_map]
/-- behind the k-th -/
theorem pr_slc_lfrom {xs : List D} {k : Nat} : evPrim (.slc true false) [.lst xs, .int k] = .ok (.lst (xs.drop k)) := by
  show R.ok (D.lst (cutD xs (some (k : Int)) none)) = _
  unfold cutD
  rw [show HT.sIx xs.length 0 (some (k : Int)) = min k xs.length from HT.sIx_nat _ _ _, HT.sIx_none]
  by_cases h : k ≤ xs.length
  · rw [Nat.min_eq_left h, List.take_of_length_le (by rw [List.length_drop]; exact Nat.le_refl _)]
  · rw [Nat.min_eq_right (by omega), List.drop_length, List.drop_eq_nil_of_le (by omega)]
    simp
end Bk

/-! E2: trees, shown. -/
namespace Bk
open PySem
inductive Tr where | mk (nm : Str) (ks : List Tr)
mutual
def Tr.d : Tr → D
  | .mk nm ks => .tup (.str nm :: Tr.dL ks)
def Tr.dL : List Tr → List D
  | [] => []
  | t :: ts => t.d :: Tr.dL ts
end
mutual
def Tr.high : Tr → Nat
  | .mk _ ks => 1 + Tr.highL ks
def Tr.highL : List Tr → Nat
  | [] => 0
  | t :: ts => max t.high (Tr.highL ts)
end
mutual
def Tr.many : Tr → Nat
  | .mk _ ks => 1 + Tr.manyL ks
def Tr.manyL : List Tr → Nat
  | [] => 0
  | t :: ts => t.many + Tr.manyL ts
end
mutual
/-- names are short -/
def Tr.fit : Tr → Prop
  | .mk nm ks => nm.length ≤ 8 ∧ Tr.fitL ks
def Tr.fitL : List Tr → Prop
  | [] => True
  | t :: ts => t.fit ∧ Tr.fitL ts
end
mutual
def Tr.shown : Tr → Str
  | .mk nm ks => if ks = [] then nm else nm ++ "(" ++ Txt.join "," (Tr.shownL ks) ++ ")"
def Tr.shownL : List Tr → List Str
  | [] => []
  | t :: ts => t.shown :: Tr.shownL ts
end
theorem Tr.dL_map : ∀ ts : List Tr, Tr.dL ts = ts.map Tr.d
  | [] => rfl
  | t :: ts => by simp [Tr.dL, Tr.dL_map ts]
theorem join_len (a : Str) (ys : List Str) : (Txt.join a ys).length = (ys.map (·.length)).sum + (ys.length - 1) * a.length := size_glued a ys
theorem Tr.many_len : ∀ ts : List Tr, ts.length ≤ Tr.manyL ts
  | [] => Nat.le_refl _
  | .mk nm ks :: ts => by
    have := Tr.many_len ts
    unfold Tr.manyL Tr.many
    simp only [List.length_cons]
    omega
theorem Tr.high_mem : ∀ {ts : List Tr} {t : Tr}, t ∈ ts → t.high ≤ Tr.highL ts := by
  intro ts
  induction ts with
  | nil => intro t h; cases h
  | cons a ts ih =>
    intro t h
    unfold Tr.highL
    rcases List.mem_cons.mp h with rfl | h
    · omega
    · have := ih h; omega
theorem Tr.many_mem : ∀ {ts : List Tr} {t : Tr}, t ∈ ts → t.many ≤ Tr.manyL ts := by
  intro ts
  induction ts with
  | nil => intro t h; cases h
  | cons a ts ih =>
    intro t h
    unfold Tr.manyL
    rcases List.mem_cons.mp h with rfl | h
    · omega
    · have := ih h; omega
theorem Tr.highL_max : ∀ (t : Tr) (ts : List Tr), maxOf t.high (ts.map fun t => (t.high : Int)) = (Tr.highL (t :: ts) : Int) := by
  intro t ts
  have up : ∀ (us : List Tr) (b : Int), (∀ x ∈ us, (x.high : Int) ≤ b) → 0 ≤ b → ((Tr.highL us : Nat) : Int) ≤ b := by
    intro us
    induction us with
    | nil => intro b _ h; simpa [Tr.highL] using h
    | cons u us ih =>
      intro b h h0
      unfold Tr.highL
      have h1 := h u List.mem_cons_self
      have h2 := ih b (fun x hx => h x (List.mem_cons_of_mem _ hx)) h0
      omega
  have h1 : maxOf t.high (ts.map fun t => (t.high : Int)) ≤ (Tr.highL (t :: ts) : Int) := maxOf_le _ _ _ (by have := Tr.high_mem (ts := t :: ts) List.mem_cons_self; omega) fun x hx => by
    obtain ⟨u, hu, rfl⟩ := List.mem_map.mp hx
    have := Tr.high_mem (ts := t :: ts) (List.mem_cons_of_mem _ hu)
    omega
  obtain ⟨h2, h3⟩ := le_maxOf (ts.map fun t => (t.high : Int)) t.high
  have h4 := up (t :: ts) (maxOf t.high (ts.map fun t => (t.high : Int))) (fun x hx => by
    rcases List.mem_cons.mp hx with rfl | hx
    · exact h2
    · exact h3 _ (List.mem_map.mpr ⟨x, hx, rfl⟩)) (by omega)
  omega
theorem Tr.manyL_sum : ∀ ts : List Tr, (ts.map fun t => (t.many : Int)).sum = (Tr.manyL ts : Int)
  | [] => rfl
  | t :: ts => by
    have := Tr.manyL_sum ts
    unfold Tr.manyL
    simp only [List.map_cons, List.sum_cons, this]
    omega
end Bk

/-! E3: the laws' names and kinds. -/
namespace Bk
open PySem
abbrev letters : Str := Str.ofString "abcdefghijklmnopqrstuvwxyz"
theorem letters_cps : letters.cps.toList = (List.range 26).map (97 + ·) := by decide
theorem letters_len : letters.length = 26 := by decide
def ltr (j : Int) : Str := ⟨#[97 + (j % 26).toNat]⟩
@[simp] theorem ltr_len (j : Int) : (ltr j).length = 1 := (rfl)
@[simp] theorem elen : (Str.ofString "").length = 0 := (rfl)
@[simp] theorem pr_ltr (r : Int) : evPrim .idx [.str letters, .int (r % 26)] = .ok (.str (ltr r)) := by
  have h0 : 0 ≤ r % 26 := Int.emod_nonneg _ (by decide)
  have h1 : r % 26 < 26 := Int.emod_lt_of_pos _ (by decide)
  show (if letters.length ≤ sizeLine then (match L2.atI letters.cps.toList (r % 26) with | some c => R.ok (D.str ⟨#[c]⟩) | none => .stuck) else .stuck) = _
  rw [if_pos (by rw [letters_len]; decide), atI_ok h0 (x := 97 + (r % 26).toNat)]
  · rfl
  · rw [letters_cps, List.getElem?_map, List.getElem?_range (by omega)]
    rfl
theorem ltr_all : ∀ j ∈ List.range 26, Txt.index0 letters ⟨#[97 + j]⟩ = some j := by decide +kernel
@[simp] theorem me_ltr (r : Int) : evMet .sidx [.str letters, .str (ltr r)] = .ok (.int (r % 26)) := by
  have h0 : 0 ≤ r % 26 := Int.emod_nonneg _ (by decide)
  have h1 : r % 26 < 26 := Int.emod_lt_of_pos _ (by decide)
  have := ltr_all (r % 26).toNat (List.mem_range.mpr (by omega))
  show (match Txt.index0 letters ⟨#[97 + (r % 26).toNat]⟩ with | some k => R.ok (D.int (k : Nat)) | none => .stuck) = _
  rw [this]
  show R.ok (D.int ((r % 26).toNat : Int)) = _
  rw [Int.toNat_of_nonneg h0]
@[simp] theorem len_mk (l : List Nat) : Str.length ⟨l.toArray⟩ = l.length := (rfl)
theorem app_mk (a b : List Nat) : (⟨a.toArray⟩ ++ ⟨b.toArray⟩ : Str) = ⟨(a ++ b).toArray⟩ := by
  show Str.mk (a.toArray ++ b.toArray) = _
  simp
/-- the loop's rest -/
def restAt (b : Int) : Nat → Int
  | 0 => b / 112
  | k + 1 => restAt b k / 26
def wordL (b : Int) : List Nat := (List.range 8).map fun k => 97 + (restAt b k % 26).toNat
def word (b : Int) : Str := ⟨(wordL b).toArray⟩
theorem word_eq (b : Int) : Str.ofString "" ++ ltr (b / 112) ++ ltr (b / 112 / 26) ++ ltr (b / 112 / 26 / 26) ++ ltr (b / 112 / 26 / 26 / 26) ++ ltr (b / 112 / 26 / 26 / 26 / 26) ++ ltr (b / 112 / 26 / 26 / 26 / 26 / 26) ++ ltr (b / 112 / 26 / 26 / 26 / 26 / 26 / 26) ++ ltr (b / 112 / 26 / 26 / 26 / 26 / 26 / 26 / 26) = word b := rfl
@[simp] theorem word_len (b : Int) : (word b).length = 8 := (rfl)
theorem pr_slc_str {s : Str} {i j : Nat} (h : s.length ≤ 16777216) (hi : i ≤ j) (hj : j ≤ s.length) : evPrim (.slc true true) [.str s, .int i, .int j] = .ok (.str ⟨((s.cps.toList.drop i).take (j - i)).toArray⟩) := by
  show okIf (decide (s.length ≤ sizeLine)) (.str (L2.cutS s (some i) (some j))) = _
  rw [decide_eq_true (show s.length ≤ sizeLine from h)]
  unfold L2.cutS
  rw [show HT.sIx s.length 0 (some (i : Int)) = min i s.length from HT.sIx_nat _ _ _, show HT.sIx s.length s.length (some (j : Int)) = min j s.length from HT.sIx_nat _ _ _, Nat.min_eq_left hj, Nat.min_eq_left (Nat.le_trans hi hj)]
  rfl
theorem pr_slc_to {s : Str} {j : Nat} (h : s.length ≤ 16777216) : evPrim (.slc false true) [.str s, .int j] = .ok (.str ⟨(s.cps.toList.take j).toArray⟩) := by
  show okIf (decide (s.length ≤ sizeLine)) (.str (L2.cutS s none (some j))) = _
  rw [decide_eq_true (show s.length ≤ sizeLine from h)]
  unfold L2.cutS
  rw [show HT.sIx s.length s.length (some (j : Int)) = min j s.length from HT.sIx_nat _ _ _, HT.sIx_none]
  show R.ok (D.str ⟨((s.cps.toList.drop 0).take (min j s.length - 0)).toArray⟩) = _
  rw [List.drop_zero, Nat.sub_zero]
  by_cases hj : j ≤ s.length
  · rw [Nat.min_eq_left hj]
  · rw [Nat.min_eq_right (by omega), List.take_of_length_le (show s.cps.toList.length ≤ s.length from Nat.le_refl _), List.take_of_length_le (show s.cps.toList.length ≤ j by show s.length ≤ j; omega)]
theorem pr_idx_str {s : Str} {i c : Nat} (h : s.length ≤ 16777216) (hc : s.cps.toList[i]? = some c) : evPrim .idx [.str s, .int i] = .ok (.str ⟨#[c]⟩) := by
  show (if s.length ≤ sizeLine then (match L2.atI s.cps.toList (i : Int) with | some c => R.ok (D.str ⟨#[c]⟩) | none => .stuck) else .stuck) = _
  rw [if_pos (show s.length ≤ sizeLine from h), atI_ok (x := c) (by omega) (by simpa using hc)]
/-- the place of the letter that differs; the name's size -/
def nmSize (b : Int) : Nat := (1 + b / 2 % 8).toNat
def nmAt (b : Int) : Nat := (b / 16 % 7 % (1 + b / 2 % 8)).toNat
/-- what _law_name tells -/
def nameOf (b : Int) (k : Nat) : Str :=
  if b % 2 = 1 then ⟨((wordL b).take (k + 1)).toArray⟩
  else ⟨((wordL b).take (nmAt b) ++ [97 + ((restAt b (nmAt b) % 26 + k) % 26).toNat] ++ ((wordL b).drop (nmAt b + 1)).take (nmSize b - (nmAt b + 1))).toArray⟩
section
variable {su : Subs} {Ps : Nat → Option Df}
theorem law_name_ok (h2 : Ps 2 = some f_law_name) (n : Nat) (b : Int) (k : Nat) : runD su Ps (n + 1) 2 [.int b, .int k] = .ok (.str (nameOf b k)) [] := by
  rw [runD_eq h2 rfl]
  have e : rngD 0 8 = [.int 0, .int 1, .int 2, .int 3, .int 4, .int 5, .int 6, .int 7] := by rfl
  have s1 : 0 < 1 + b / 2 % 8 := by omega
  have s2 : 0 ≤ b / 16 % 7 % (1 + b / 2 % 8) := Int.emod_nonneg _ (by omega)
  have s3 : b / 16 % 7 % (1 + b / 2 % 8) < 1 + b / 2 % 8 := Int.emod_lt_of_pos _ s1
  have a1 : ((nmAt b : Nat) : Int) = b / 16 % 7 % (1 + b / 2 % 8) := by unfold nmAt; rw [Int.toNat_of_nonneg s2]
  have a2 : ((nmSize b : Nat) : Int) = 1 + b / 2 % 8 := by unfold nmSize; rw [Int.toNat_of_nonneg (by omega)]
  have l1 : nmAt b < nmSize b := by omega
  have l2 : nmSize b ≤ 8 := by omega
  have hx : evPrim .idx [.str (word b), .int (b / 16 % 7 % (1 + b / 2 % 8))] = .ok (.str (ltr (restAt b (nmAt b)))) := by
    rw [← a1]
    refine pr_idx_str (by simp) ?_
    show (wordL b)[nmAt b]? = _
    unfold wordL
    rw [List.getElem?_map, List.getElem?_range (by omega)]
    rfl
  by_cases hb : b % 2 = 1
  · have := pr_slc_to (s := word b) (j := k + 1) (by simp)
    push_cast at this
    simp [f_law_name, startR, e, forL, forB, len_app, word_eq, hb, this]
    unfold nameOf
    rw [if_pos hb]
    rfl
  · have t1 := pr_slc_to (s := word b) (j := nmAt b) (by simp)
    have t2 := pr_slc_str (s := word b) (i := nmAt b + 1) (j := nmSize b) (by simp) (by omega) (by simp; omega)
    push_cast at t1 t2
    rw [a1] at t1
    rw [a1, a2] at t2
    have hw : (word b).cps.toList.length = 8 := rfl
    simp (disch := first | assumption | omega | (simp; done) | (simp only [len_app, len_mk, ltr_len, elen, List.length_take, List.length_drop]; omega)) [f_law_name, startR, e, forL, forB, len_app, word_eq, hb, s1, hx, t1, t2]
    unfold nameOf
    rw [if_neg hb]
    unfold ltr
    rw [show (#[97 + ((restAt b (nmAt b) + (k : Int)) % 26).toNat] : Array Nat) = [97 + ((restAt b (nmAt b) + (k : Int)) % 26).toNat].toArray from rfl, app_mk, app_mk]
    rw [show (restAt b (nmAt b) % 26 + (k : Int)) % 26 = (restAt b (nmAt b) + (k : Int)) % 26 by omega]
    rfl
end
end Bk

/-! E4: the laws' cells and kinds. -/
namespace Bk
open PySem
def cellAt (ns : List Int) (k : Nat) : Int := match ns[k]? with
  | some x => x % p60
  | none => 0
theorem cellAt_lt (ns : List Int) (k : Nat) : 0 ≤ cellAt ns k ∧ cellAt ns k < p60 := by
  unfold cellAt
  split
  · have := p60_pos
    exact ⟨Int.emod_nonneg _ (by omega), Int.emod_lt_of_pos _ this⟩
  · exact ⟨Int.le_refl 0, p60_pos⟩
theorem pr_idx_scr {ns : List Int} {i : Nat} {x : Int} (h : ns[i]? = some x) : evPrim .idx [.scr ns, .int i] = .ok (.int x) := by
  show ofOpt (L2.atI (ns.map D.int) (i : Int)) = _
  rw [atI_ok (x := .int x) (by omega) (by simp [h])]
  rfl
/-- kinds, as values -/
def kD (p : Str × Int) : D := .tup [.str p.1, .int p.2]
def restK (m : Int) : Nat → Int
  | 0 => m / 7
  | k + 1 => restK m k / 4 + k
def kMany (m : Int) : Nat := (1 + m % 6).toNat
def kAt (m : Int) : Nat := (m / 6 % (1 + m % 6)).toNat
def kind0 (m : Int) (k : Nat) : Str × Int := (nameOf (m / 36) k, restK m k % 4)
def kindsOf (m : Int) : List (Str × Int) := ((List.range (kMany m)).map (kind0 m)).set (kAt m) (nameOf (m / 36) (kAt m), 0)
def mixOf (cell : Int) : Int := cell * 1000003 + 4421
section
variable {su : Subs} {Ps : Nat → Option Df}
theorem law_cell_at_ok (h1 : Ps 1 = some f_law_cell_at) (n : Nat) (ns : List Int) (k : Nat) : runD su Ps (n + 1) 1 [.scr ns, .int k] = .ok (.int (cellAt ns k)) [] := by
  rw [runD_eq h1 rfl]
  by_cases hk : k < ns.length
  · have hi := pr_idx_scr (List.getElem?_eq_getElem hk)
    simp [f_law_cell_at, startR, hk, hi, cellAt]
  · simp [f_law_cell_at, startR, hk, cellAt, List.getElem?_eq_none (Nat.le_of_not_lt hk)]
theorem law_kinds_ok (h2 : Ps 2 = some f_law_name) (h3 : Ps 3 = some f_law_kinds) (n : Nat) (c : Int) (hc : 0 ≤ c ∧ c < p60) : runD su Ps (n + 2) 3 [.int c] = .ok (.tup ((kindsOf (mixOf c)).map kD)) [] := by
  rw [runD_eq h3 rfl]
  have b1 : c.natAbs < 2 ^ 250 := by have := p60_lt
                                     omega
  have m1 : (kMany (mixOf c) : Int) = 1 + mixOf c % 6 := by unfold kMany; omega
  have m2 : kMany (mixOf c) ≤ 6 := by omega
  have m3 : ((kAt (mixOf c) : Nat) : Int) = mixOf c / 6 % (1 + mixOf c % 6) := by unfold kAt; rw [Int.toNat_of_nonneg (Int.emod_nonneg _ (by omega))]
  have m4 : kAt (mixOf c) < kMany (mixOf c) := by have := Int.emod_lt_of_pos (mixOf c / 6) (show 0 < 1 + mixOf c % 6 by omega); omega
  have hR := forL_rng (f := forB ⟨su, runD su Ps (n + 1), none⟩ (.v 5) (nth f_law_kinds.body 4).loop) (kMany (mixOf c))
    (fun i => [.fz (.int c), .fz (.int (mixOf c)), .fz (.int (1 + mixOf c % 6)), .fz (.int (restK (mixOf c) i)), .own (.lst ((List.range i).map fun i => kD (kind0 (mixOf c) i))), lv i, .un]) fun i hi => by
    have := law_name_ok (su := su) (Ps := Ps) h2 n (mixOf c / 36) i
    simp (disch := first | assumption | omega | (simp <;> omega) | fail) [forB, nth, f_law_kinds, S.loop, this, List.range_succ, kind0, kD, restK, lv]
  rw [m1] at hR
  have hx : evPrim .idx [.lst ((List.range (kMany (mixOf c))).map fun i => kD (kind0 (mixOf c) i)), .int (mixOf c / 6 % (1 + mixOf c % 6))] = .ok (kD (kind0 (mixOf c) (kAt (mixOf c)))) := by
    rw [← m3]
    exact pr_idx_lst (by omega) (by simp [List.getElem?_map, List.getElem?_range, m4])
  have hs : ∀ v, evSet (.lst ((List.range (kMany (mixOf c))).map fun i => kD (kind0 (mixOf c) i))) (.int (mixOf c / 6 % (1 + mixOf c % 6))) v = .ok (.lst (((List.range (kMany (mixOf c))).map fun i => kD (kind0 (mixOf c) i)).set (kAt (mixOf c)) v)) := fun v => by
    rw [← m3]
    exact se_lst (by omega) (by simp; exact m4)
  simp only [nth, f_law_kinds, S.loop, List.getD_cons_succ, List.getD_cons_zero, List.range_zero, List.map_nil, restK, lv] at hR
  have hm : c * 1000003 + 4421 = mixOf c := rfl
  have hfin : (((List.range (kMany (mixOf c))).map fun i => kD (kind0 (mixOf c) i)).set (kAt (mixOf c)) (.tup [.str (nameOf (mixOf c / 36) (kAt (mixOf c))), .int 0])) = (kindsOf (mixOf c)).map kD := by
    unfold kindsOf
    rw [List.map_set, List.map_map]
    rfl
  have hk0 : kD (kind0 (mixOf c) (kAt (mixOf c))) = .tup [.str (nameOf (mixOf c / 36) (kAt (mixOf c))), .int (restK (mixOf c) (kAt (mixOf c)) % 4)] := rfl
  simp (disch := first | assumption | omega | (simp <;> omega) | fail) [f_law_kinds, startR, b1, hm, hR, hx, hk0, hs, hfin]
end
end Bk

/-! G1: the walk that grows patterns, for any kind of entry. -/
namespace Bk
open PySem
def grownP (l o : Nat) : Df := ⟨"_law_grown", ["script", "kinds", "top", "most", "made", "k", "cell", "pair", "parts", "part"], 4, [], [.own 4 (.op .lst [.call l [.var 1, .cst (.int 0)]]),
    .for (.v 5) (.op .rng1 [.op .len [.var 0]])
    [.asg (.v 6) (.op .mod [.op .idx [.var 0, .var 5], .op .pow [.cst (.int 10), .cst (.int 60)]]),
    .asg (.v 7) (.op .idx [.var 1, .op .mod [.op .add [.var 6, .var 5], .op .len [.var 1]]]),
    .asg (.v 8) (.op .lst []),
    .ifs (.chain .lt .le (.cst (.int 0)) (.op .idx [.var 7, .cst (.int 1)]) (.op .len [.bor ⟨4, none⟩]))
    [.asg (.v 8) (.op (.slc true false) [.bor ⟨4, none⟩, .ent (.op .sub [.op .len [.bor ⟨4, none⟩], .op .idx [.var 7, .cst (.int 1)]])])]
    [],
    .ifs (.and (.op .gt [.op .len [.var 8], .cst (.int 0)]) (.and (.op .lt [.op .maxl [.comp (.op .idx [.var 9, .cst (.int 1)]) (.v 9) (.var 8) none], .var 2]) (.op .lt [.op .sum [.comp (.op .add [.op .idx [.var 9, .cst (.int 2)], .cst (.int 1)]) (.v 9) (.var 8) none], .var 3])))
    [.for (.v 9) (.var 8)
    [.drop (.mut .pop ⟨4, none⟩ [])],
    .drop (.mut .app ⟨4, none⟩ [.call o [.op .idx [.var 7, .cst (.int 0)], .var 8]])]
    [.ifs (.and (.op .eq [.op .mod [.op .fdiv [.var 6, .cst (.int 7)], .cst (.int 5)], .cst (.int 1)]) (.op .lt [.op .mul [.cst (.int 2), .op .sum [.comp (.op .add [.op .idx [.var 9, .cst (.int 2)], .cst (.int 1)]) (.v 9) (.bor ⟨4, none⟩) none]], .var 3]))
    [.drop (.mut .app ⟨4, none⟩ [.op .idx [.bor ⟨4, none⟩, .op .sub [.op .len [.bor ⟨4, none⟩], .cst (.int 1)]]])]
    [.drop (.mut .app ⟨4, none⟩ [.call l [.var 1, .op .add [.op .fdiv [.var 6, .cst (.int 35)], .var 5]]])]]],
    .ret (.var 4)]⟩
section
variable {su : Subs} {Ps : Nat → Option Df} {l o : Nat} {α : Type} {ent : α → D} {hi ma : α → Nat} {ns : List Int} {ks : List (Str × Int)} {top most : Nat}
def grpS (ent : α → D) (ns : List Int) (ks : List (Str × Int)) (top most : Nat) (ts : List α) (s5 s6 s7 s8 s9 : Sl) : Rho :=
  [.fz (.scr ns), .fz (.tup (ks.map kD)), .fz (.int top), .fz (.int most), .own (.lst (ts.map ent)), s5, s6, s7, s8, s9]
/-- what makes entries -/
structure GrowP (su : Subs) (Ps : Nat → Option Df) (l o : Nat) (ks : List (Str × Int)) (top most : Nat) (ent : α → D) (hi ma : α → Nat) (Good : α → Prop) : Prop where
  i1 : ∀ t, evPrim .idx [ent t, .int 1] = .ok (.int (hi t))
  i2 : ∀ t, evPrim .idx [ent t, .int 2] = .ok (.int (ma t))
  leaf : ∀ (n : Nat) (c : Int), 0 ≤ c → ∃ a, Good a ∧ runD su Ps (n + 1) l [.tup (ks.map kD), .int c] = .ok (ent a) []
  over : ∀ (n : Nat) (nm : Str) (m : Int) (T : List α), (nm, m) ∈ ks → (T.length : Int) = m → T ≠ [] → (∀ t ∈ T, Good t) → (∀ t ∈ T, hi t < top) → (T.map fun t => (ma t : Int) + 1).sum < most →
    ∃ a, Good a ∧ runD su Ps (n + 1) o [.str nm, .lst (T.map ent)] = .ok (ent a) []
end
end Bk

/-! G2: what is grown, of patterns. -/
namespace Bk
open PySem
section
variable {su : Subs} {Ps : Nat → Option Df} {l o g : Nat} {α : Type} {ent : α → D} {hi ma : α → Nat} {Good : α → Prop}
end
end Bk

/-! G3: patterns. -/
namespace Bk
open PySem
inductive Pt where | call (q k : Nat) | mk (nm : Str) (ks : List Pt)
mutual
def Pt.d : Pt → D
  | .call q k => .tup [.str (Str.ofString "?"), .int q, .int k]
  | .mk nm ks => .tup (.str nm :: Pt.dL ks)
def Pt.dL : List Pt → List D
  | [] => []
  | t :: ts => t.d :: Pt.dL ts
end
mutual
def Pt.high : Pt → Nat
  | .call _ _ => 1
  | .mk _ ks => 1 + Pt.highL ks
def Pt.highL : List Pt → Nat
  | [] => 0
  | t :: ts => max t.high (Pt.highL ts)
end
mutual
def Pt.many : Pt → Nat
  | .call _ _ => 0
  | .mk _ ks => 1 + Pt.manyL ks
def Pt.manyL : List Pt → Nat
  | [] => 0
  | t :: ts => t.many + Pt.manyL ts
end
mutual
/-- knots and calls -/
def Pt.size : Pt → Nat
  | .call _ _ => 1
  | .mk _ ks => 1 + Pt.sizeL ks
def Pt.sizeL : List Pt → Nat
  | [] => 0
  | t :: ts => t.size + Pt.sizeL ts
end
mutual
/-- each knot is of a kind, each call of one of twenty states and three kids -/
def Pt.kin (ks : List (Str × Int)) : Pt → Prop
  | .call q k => q < 20 ∧ k < 3
  | .mk nm us => (nm, (us.length : Int)) ∈ ks ∧ Pt.kinL ks us
def Pt.kinL (ks : List (Str × Int)) : List Pt → Prop
  | [] => True
  | t :: ts => t.kin ks ∧ Pt.kinL ks ts
end
theorem Pt.dL_map : ∀ ts : List Pt, Pt.dL ts = ts.map Pt.d
  | [] => rfl
  | t :: ts => by simp [Pt.dL, Pt.dL_map ts]
theorem Pt.high_mem {t : Pt} : ∀ {ts : List Pt}, t ∈ ts → t.high ≤ Pt.highL ts
  | [], h => by cases h
  | a :: ts, h => by
    rw [Pt.highL]
    rcases List.mem_cons.mp h with rfl | h
    · omega
    · have := Pt.high_mem h; omega
theorem Pt.kinL_of {ks : List (Str × Int)} : ∀ {ts : List Pt}, (∀ t ∈ ts, t.kin ks) → Pt.kinL ks ts
  | [], _ => by rw [Pt.kinL]; trivial
  | t :: ts, h => by rw [Pt.kinL]; exact ⟨h t List.mem_cons_self, Pt.kinL_of fun u hu => h u (List.mem_cons_of_mem _ hu)⟩
theorem Pt.manyL_sum : ∀ ts : List Pt, (ts.map fun t => (t.many : Int)).sum = (Pt.manyL ts : Int)
  | [] => rfl
  | t :: ts => by
    have := Pt.manyL_sum ts
    rw [Pt.manyL]
    simp only [List.map_cons, List.sum_cons, this]
    omega
theorem Pt.highL_max (t : Pt) (ts : List Pt) : maxOf t.high (ts.map fun t => (t.high : Int)) = (Pt.highL (t :: ts) : Int) := by
  have up : ∀ (us : List Pt) (b : Int), (∀ x ∈ us, (x.high : Int) ≤ b) → 0 ≤ b → ((Pt.highL us : Nat) : Int) ≤ b := by
    intro us
    induction us with
    | nil => intro b _ h; simpa [Pt.highL] using h
    | cons u us ih =>
      intro b h h0
      rw [Pt.highL]
      have h1 := h u List.mem_cons_self
      have h2 := ih b (fun x hx => h x (List.mem_cons_of_mem _ hx)) h0
      omega
  have h1 : maxOf t.high (ts.map fun t => (t.high : Int)) ≤ (Pt.highL (t :: ts) : Int) := maxOf_le _ _ _ (by have := Pt.high_mem (ts := t :: ts) List.mem_cons_self; omega) fun x hx => by
    obtain ⟨u, hu, rfl⟩ := List.mem_map.mp hx
    have := Pt.high_mem (ts := t :: ts) (List.mem_cons_of_mem _ hu)
    omega
  obtain ⟨h2, h3⟩ := le_maxOf (ts.map fun t => (t.high : Int)) t.high
  have h4 := up (t :: ts) (maxOf t.high (ts.map fun t => (t.high : Int))) (fun x hx => by
    rcases List.mem_cons.mp hx with rfl | hx
    · exact h2
    · exact h3 _ (List.mem_map.mpr ⟨x, hx, rfl⟩)) (by omega)
  omega
/-! names are no question mark -/
theorem nameOf_ne (b : Int) (k : Nat) : nameOf b k ≠ Str.ofString "?" := by
  have hq : (Str.ofString "?").cps.toList = [63] := by decide
  have hw : ∀ c ∈ wordL b, 97 ≤ c := fun c hc => by
    unfold wordL at hc
    obtain ⟨i, _, rfl⟩ := List.mem_map.mp hc
    omega
  have hall : ∀ c ∈ (nameOf b k).cps.toList, 97 ≤ c := fun c hc => by
    unfold nameOf at hc
    split at hc
    · exact hw c (List.mem_of_mem_take hc)
    · have hc : c ∈ (wordL b).take (nmAt b) ++ [97 + ((restAt b (nmAt b) % 26 + k) % 26).toNat] ++ ((wordL b).drop (nmAt b + 1)).take (nmSize b - (nmAt b + 1)) := by simpa using hc
      rcases List.mem_append.mp hc with hc | hc
      · rcases List.mem_append.mp hc with hc | hc
        · exact hw c (List.mem_of_mem_take hc)
        · rw [List.mem_singleton.mp hc]; omega
      · exact hw c (List.mem_of_mem_drop (List.mem_of_mem_take hc))
  intro e
  rw [e, hq] at hall
  have := hall 63 (List.mem_singleton.mpr rfl)
  omega
end Bk

/-! G5: entries of patterns without texts. -/
namespace Bk
open PySem
def pT (t : Pt) : D := .tup [t.d, .int t.high, .int t.many]
section
variable {su : Subs} {Ps : Nat → Option Df}
end
end Bk

/-! E6: the walk of the script. -/
namespace Bk
open PySem
/-- the walk's text: l makes a leaf, o a knot over others -/
def grownD (l o : Nat) : Df := ⟨"_law_grown", ["script", "kinds", "top", "most", "pair", "leaves", "made", "k", "cell", "parts", "part"], 4, [], [.asg (.v 5) (.comp (.op .idx [.var 4, .cst (.int 0)]) (.v 4) (.var 1) (some (.op .eq [.op .idx [.var 4, .cst (.int 1)], .cst (.int 0)]))),
    .own 6 (.op .lst [.call l [.op .idx [.var 5, .cst (.int 0)]]]),
    .for (.v 7) (.op .rng1 [.op .len [.var 0]])
    [.asg (.v 8) (.op .mod [.op .idx [.var 0, .var 7], .op .pow [.cst (.int 10), .cst (.int 60)]]),
    .asg (.v 4) (.op .idx [.var 1, .op .mod [.op .add [.var 8, .var 7], .op .len [.var 1]]]),
    .asg (.v 9) (.op .lst []),
    .ifs (.chain .lt .le (.cst (.int 0)) (.op .idx [.var 4, .cst (.int 1)]) (.op .len [.bor ⟨6, none⟩]))
    [.asg (.v 9) (.op (.slc true false) [.bor ⟨6, none⟩, .ent (.op .sub [.op .len [.bor ⟨6, none⟩], .op .idx [.var 4, .cst (.int 1)]])])]
    [],
    .ifs (.and (.op .gt [.op .len [.var 9], .cst (.int 0)]) (.and (.op .lt [.op .maxl [.comp (.op .idx [.var 10, .cst (.int 1)]) (.v 10) (.var 9) none], .var 2]) (.op .lt [.op .sum [.comp (.op .idx [.var 10, .cst (.int 2)]) (.v 10) (.var 9) none], .var 3])))
    [.for (.v 10) (.var 9)
    [.drop (.mut .pop ⟨6, none⟩ [])],
    .drop (.mut .app ⟨6, none⟩ [.call o [.op .idx [.var 4, .cst (.int 0)], .var 9]])]
    [.ifs (.and (.op .eq [.op .mod [.op .fdiv [.var 8, .cst (.int 7)], .cst (.int 5)], .cst (.int 1)]) (.op .lt [.op .mul [.cst (.int 2), .op .sum [.comp (.op .idx [.var 10, .cst (.int 2)]) (.v 10) (.bor ⟨6, none⟩) none]], .var 3]))
    [.drop (.mut .app ⟨6, none⟩ [.op .idx [.bor ⟨6, none⟩, .op .sub [.op .len [.bor ⟨6, none⟩], .cst (.int 1)]]])]
    [.drop (.mut .app ⟨6, none⟩ [.call l [.op .idx [.var 5, .op .mod [.op .fdiv [.var 8, .cst (.int 35)], .op .len [.var 5]]]]])]]],
    .ret (.var 6)]⟩
mutual
/-- each knot is of a kind -/
def Tr.kin (ks : List (Str × Int)) : Tr → Prop
  | .mk nm us => (nm, (us.length : Int)) ∈ ks ∧ Tr.kinL ks us
def Tr.kinL (ks : List (Str × Int)) : List Tr → Prop
  | [] => True
  | t :: ts => t.kin ks ∧ Tr.kinL ks ts
end
mutual
theorem Tr.kin_fit {ks : List (Str × Int)} (hk : ∀ p ∈ ks, p.1.length ≤ 8) : ∀ t : Tr, t.kin ks → t.fit
  | .mk nm us, h => by
    unfold Tr.kin at h
    unfold Tr.fit
    exact ⟨hk _ h.1, Tr.kinL_fit hk us h.2⟩
theorem Tr.kinL_fit {ks : List (Str × Int)} (hk : ∀ p ∈ ks, p.1.length ≤ 8) : ∀ ts : List Tr, Tr.kinL ks ts → Tr.fitL ts
  | [], _ => by unfold Tr.fitL; trivial
  | t :: ts, h => by
    unfold Tr.kinL at h
    unfold Tr.fitL
    exact ⟨Tr.kin_fit hk t h.1, Tr.kinL_fit hk ts h.2⟩
end
theorem Tr.kinL_of {ks : List (Str × Int)} : ∀ {ts : List Tr}, (∀ t ∈ ts, t.kin ks) → Tr.kinL ks ts
  | [], _ => by unfold Tr.kinL; trivial
  | t :: ts, h => by unfold Tr.kinL; exact ⟨h t List.mem_cons_self, Tr.kinL_of fun u hu => h u (List.mem_cons_of_mem _ hu)⟩
/-- a tree of the pile -/
structure Grn (ks : List (Str × Int)) (top most : Nat) (t : Tr) : Prop where
  kin : t.kin ks
  high : t.high ≤ max 1 top
  many : t.many ≤ max 1 most
theorem Tr.manyL_le {b : Nat} : ∀ {ts : List Tr}, (∀ t ∈ ts, t.many ≤ b) → Tr.manyL ts ≤ ts.length * b
  | [], _ => by simp [Tr.manyL]
  | t :: ts, h => by
    have h1 := h t List.mem_cons_self
    have h2 := Tr.manyL_le (ts := ts) fun u hu => h u (List.mem_cons_of_mem _ hu)
    unfold Tr.manyL
    rw [List.length_cons, Nat.add_mul]
    omega
theorem mu_pop' {xs : List D} (h : xs ≠ []) : ∃ d, evMut .pop (.lst xs) [] = .ok (d, .lst xs.dropLast) := by
  cases e : xs.getLast? with
  | none => exact absurd (List.getLast?_eq_none_iff.mp e) h
  | some d => exact ⟨d, mu_pop e⟩
section
variable {su : Subs} {Ps : Nat → Option Df} {l o : Nat} {ent : Tr → D} {ns : List Int} {ks : List (Str × Int)} {top most : Nat} {lf : List Str}
/-- the walk's slots -/
def grnS (ent : Tr → D) (ns : List Int) (ks : List (Str × Int)) (top most : Nat) (lf : List Str) (s4 : Sl) (ts : List Tr) (s7 s8 s9 s10 : Sl) : Rho :=
  [.fz (.scr ns), .fz (.tup (ks.map kD)), .fz (.int top), .fz (.int most), s4, .fz (.lst (lf.map D.str)), .own (.lst (ts.map ent)), s7, s8, s9, s10]
/-- the first four statements of a turn -/
theorem grow_a {q : En} {s4 s8 s9 s10 : Sl} {ts : List Tr} {i : Nat} (ss : List S) {x : Int} {nm : Str} {m : Int} (hi : ns[i]? = some x) (hk0 : 0 < ks.length) (hk8 : ks.length ≤ 8) (hts : ts.length ≤ 100)
    (hp : ks[((x % p60 + i) % ks.length).toNat]? = some (nm, m)) (h0 : 0 ≤ m) : ∃ p : Nat, (p = 0 ∨ (p : Int) = m ∧ 0 < p ∧ p ≤ ts.length) ∧
    evSs q ((nth (grownD l o).body 2).loop.take 4 ++ ss) (grnS ent ns ks top most lf s4 ts (.fz (.int i)) s8 s9 s10) =
      evSs q ss (grnS ent ns ks top most lf (.fz (kD (nm, m))) ts (.fz (.int i)) (.fz (.int (x % p60))) (.fz (.lst ((ts.drop (ts.length - p)).map ent))) s10) := by
  have hx := pr_idx_scr hi
  have e0 : 0 ≤ (x % p60 + (i : Int)) % (ks.length : Int) := Int.emod_nonneg _ (by omega)
  have hq : evPrim .idx [.tup (ks.map kD), .int ((x % p60 + (i : Int)) % (ks.length : Int))] = .ok (kD (nm, m)) := pr_idx_tup e0 (by rw [List.getElem?_map, hp]; rfl)
  have k0 : evPrim .idx [kD (nm, m), .int 1] = .ok (.int m) := pr_idx_t1 _ _ _
  by_cases hm : 0 < m ∧ m ≤ ts.length
  · refine ⟨m.toNat, .inr (by omega), ?_⟩
    have hs := pr_slc_lfrom (xs := ts.map ent) (k := ts.length - m.toNat)
    rw [show ((ts.length - m.toNat : Nat) : Int) = (ts.length : Int) - m by omega, ← List.map_drop] at hs
    simp (disch := first | assumption | omega | (simp <;> omega) | fail) [nth, grownD, S.loop, grnS, hx, hq, k0, hm.1, hm.2, hs]
  · refine ⟨0, .inl rfl, ?_⟩
    by_cases h1 : 0 < m
    · have h2 : ¬ m ≤ ts.length := fun z => hm ⟨h1, z⟩
      simp (disch := first | assumption | omega | (simp <;> omega) | fail) [nth, grownD, S.loop, grnS, hx, hq, k0, h1, h2]
    · simp (disch := first | assumption | omega | (simp <;> omega) | fail) [nth, grownD, S.loop, grnS, hx, hq, k0, h1]
end
end Bk

/-! E7: the walk of the script, its turn. -/
namespace Bk
open PySem
section
variable {su : Subs} {Ps : Nat → Option Df} {l o : Nat} {ent : Tr → D} {ns : List Int} {ks : List (Str × Int)} {top most : Nat} {lf : List Str}
theorem pops_ok {q : En} {s4 s7 s8 s10 : Sl} {ts : List Tr} {p : Nat} (hp : p ≤ ts.length) :
    ∃ s, forL (forB q (.v 10) [.drop (.mut .pop ⟨6, none⟩ [])]) ((ts.drop (ts.length - p)).map ent) (grnS ent ns ks top most lf s4 ts s7 s8 (.fz (.lst ((ts.drop (ts.length - p)).map ent))) s10) =
      .nx (grnS ent ns ks top most lf s4 (ts.take (ts.length - p)) s7 s8 (.fz (.lst ((ts.drop (ts.length - p)).map ent))) s) := by
  have h := forL_seq (f := forB q (.v 10) [.drop (.mut .pop ⟨6, none⟩ [])]) ((ts.drop (ts.length - p)).map ent) 0
    (fun k => grnS ent ns ks top most lf s4 (ts.take (ts.length - k)) s7 s8 (.fz (.lst ((ts.drop (ts.length - p)).map ent))) (match k with | 0 => s10 | k + 1 => .fz (((ts.drop (ts.length - p)).map ent).getD k .non)))
    fun i x hx => by
      have hi : i < p := by
        have := (List.getElem?_eq_some_iff.mp hx).1
        rw [List.length_map, List.length_drop] at this
        omega
      have hne : (ts.take (ts.length - i)).map ent ≠ [] := by
        intro z
        have := congrArg List.length z
        simp only [List.length_map, List.length_take, List.length_nil] at this
        omega
      obtain ⟨d, hd⟩ := mu_pop' hne
      have e1 : ((ts.take (ts.length - i)).map ent).dropLast = (ts.take (ts.length - (i + 1))).map ent := by
        rw [← List.map_dropLast, List.dropLast_eq_take, List.take_take, List.length_take]
        congr 2
        omega
      rw [e1] at hd
      have e2 : ((ts.drop (ts.length - p)).map ent).getD i .non = x := by
        rw [List.getD_eq_getElem?_getD, hx]
        rfl
      rw [Nat.zero_add]
      show _ = O.nx (grnS ent ns ks top most lf s4 (ts.take (ts.length - (i + 1))) s7 s8 _ (.fz (((ts.drop (ts.length - p)).map ent).getD i .non)))
      rw [e2]
      simp [forB, grnS, hd, -List.map_take, -List.map_drop]
  have hl : ((ts.drop (ts.length - p)).map ent).length = p := by rw [List.length_map, List.length_drop]; omega
  rw [hl, Nat.zero_add] at h
  have e0 : ts.take (ts.length - 0) = ts := by rw [Nat.sub_zero, List.take_length]
  simp only [e0] at h
  exact ⟨_, h⟩
theorem grow_b (i1 : ∀ t, evPrim .idx [ent t, .int 1] = .ok (.int t.high)) (i2 : ∀ t, evPrim .idx [ent t, .int 2] = .ok (.int t.many)) {n : Nat} (h4 : ∀ (nm : Str) (ts : List Tr), ts ≠ [] → Tr.fitL ts → nm.length ≤ 8 → Tr.manyL ts ≤ 1000 → runD su Ps (n + 1) o [.str nm, .lst (ts.map ent)] = .ok (ent (.mk nm ts)) []) (h5 : ∀ (n : Nat) (nm : Str), nm.length ≤ 8 → runD su Ps (n + 1) l [.str nm] = .ok (ent (.mk nm [])) [])  {nm : Str} {m c : Int} {s7 s10 : Sl} {ts : List Tr} {p : Nat} (hts : ts ≠ []) (hl : ts.length ≤ 100) (hg : ∀ t ∈ ts, Grn ks top most t)
    (htop : top ≤ 200) (hmost : 1 ≤ most ∧ most ≤ 1000) (hk : ∀ p ∈ ks, p.1.length ≤ 8) (hp : p = 0 ∨ (p : Int) = m ∧ 0 < p ∧ p ≤ ts.length) (hin : (nm, m) ∈ ks) (hlf : lf ≠ []) (hlk : ∀ s ∈ lf, (s, 0) ∈ ks) (hll : lf.length ≤ 8) (hc : 0 ≤ c) :
    ∃ ts' s10', ts' ≠ [] ∧ ts'.length ≤ ts.length + 1 ∧ (∀ t ∈ ts', Grn ks top most t) ∧
      evS ⟨su, runD su Ps (n + 1), none⟩ (nth (nth (grownD l o).body 2).loop 4) (grnS ent ns ks top most lf (.fz (kD (nm, m))) ts s7 (.fz (.int c)) (.fz (.lst ((ts.drop (ts.length - p)).map ent))) s10) =
      .nx (grnS ent ns ks top most lf (.fz (kD (nm, m))) ts' s7 (.fz (.int c)) (.fz (.lst ((ts.drop (ts.length - p)).map ent))) s10') := by
  obtain ⟨T, hT⟩ : ∃ T, T = ts.drop (ts.length - p) := ⟨_, rfl⟩
  have hTm : ∀ t ∈ T, t ∈ ts := fun t h => by rw [hT] at h; exact List.mem_of_mem_drop h
  have hTl : T.length = p := by rw [hT, List.length_drop]; omega
  rw [← hT]
  have hfitL : Tr.fitL T := Tr.kinL_fit hk T (Tr.kinL_of fun t h => (hg t (hTm t h)).kin)
  have hnm : nm.length ≤ 8 := hk _ hin
  have hmanyL : Tr.manyL ts ≤ 100 * 1000 := by
    have := Tr.manyL_le (ts := ts) fun t h => (hg t h).many
    have h2 : ts.length * (max 1 most) ≤ 100 * 1000 := Nat.mul_le_mul hl (by omega)
    omega
  -- the second choice
  have second : ∃ ts' s10', ts' ≠ [] ∧ ts'.length ≤ ts.length + 1 ∧ (∀ t ∈ ts', Grn ks top most t) ∧ evSs ⟨su, runD su Ps (n + 1), none⟩ (nth (nth (grownD l o).body 2).loop 4).els (grnS ent ns ks top most lf (.fz (kD (nm, m))) ts s7 (.fz (.int c)) (.fz (.lst (T.map ent))) s10) =
      .nx (grnS ent ns ks top most lf (.fz (kD (nm, m))) ts' s7 (.fz (.int c)) (.fz (.lst (T.map ent))) s10') := by
    have hsum : ∀ q : En, evP q (.comp (.op .idx [.var 10, .cst (.int 2)]) (.v 10) (.bor ⟨6, none⟩) none) (grnS ent ns ks top most lf (.fz (kD (nm, m))) ts s7 (.fz (.int c)) (.fz (.lst (T.map ent))) s10) = .ok (.lst ((ts.map fun t => (t.many : Int)).map D.int)) (grnS ent ns ks top most lf (.fz (kD (nm, m))) ts s7 (.fz (.int c)) (.fz (.lst (T.map ent))) s10) := fun q => by
      have := ev_fld_b (q := q) (p := 6) (ρ := grnS ent ns ks top most lf (.fz (kD (nm, m))) ts s7 (.fz (.int c)) (.fz (.lst (T.map ent))) s10) (s := 10) ts ent (fun t => .int (t.many : Nat)) rfl rfl (by simp [grnS]) (fun y _ => i2 y) (by show _ ≤ 16777216; omega)
      rw [this]
      simp
    obtain ⟨L2, e2⟩ : ∃ L, L = (ts.map fun t => (t.many : Int)).map D.int := ⟨_, rfl⟩
    have hsm := pr_sum (ts.map fun t => (t.many : Int))
    rw [Tr.manyL_sum] at hsm
    rw [← e2] at hsum hsm
    unfold grnS at hsum
    have hsmall : ((Tr.manyL ts : Nat) : Int).natAbs < 2 ^ 250 := by omega
    have hl0 : 0 < lf.length := by cases lf with | nil => exact absurd rfl hlf | cons a b => simp
    have hix : ∀ c : Int, (c / 35 % (lf.length : Int)).toNat < lf.length := fun c => by
      have h1 := Int.emod_nonneg (c / 35) (show (lf.length : Int) ≠ 0 by omega)
      have h2 := Int.emod_lt_of_pos (c / 35) (show (0 : Int) < lf.length by omega)
      omega
    -- a leaf
    have third : ∀ s, lf[(c / 35 % (lf.length : Int)).toNat]? = some s → (∀ q : En, q.F = runD su Ps (n + 1) → evSs q (nth (nth (grownD l o).body 2).loop 4).els (grnS ent ns ks top most lf (.fz (kD (nm, m))) ts s7 (.fz (.int c)) (.fz (.lst (T.map ent))) s10) = seqK q [] (evSs q (nth (nth (nth (grownD l o).body 2).loop 4).els 0).els (grnS ent ns ks top most lf (.fz (kD (nm, m))) ts s7 (.fz (.int c)) (.fz (.lst (T.map ent))) s10))) →
        ∃ ts' s10', ts' ≠ [] ∧ ts'.length ≤ ts.length + 1 ∧ (∀ t ∈ ts', Grn ks top most t) ∧ evSs ⟨su, runD su Ps (n + 1), none⟩ (nth (nth (grownD l o).body 2).loop 4).els (grnS ent ns ks top most lf (.fz (kD (nm, m))) ts s7 (.fz (.int c)) (.fz (.lst (T.map ent))) s10) =
          .nx (grnS ent ns ks top most lf (.fz (kD (nm, m))) ts' s7 (.fz (.int c)) (.fz (.lst (T.map ent))) s10') := fun s hs hq => by
      have hx : evPrim .idx [.lst (lf.map D.str), .int (c / 35 % (lf.length : Int))] = .ok (.str s) := pr_idx_lst (Int.emod_nonneg _ (by omega)) (by rw [List.getElem?_map, hs]; rfl)
      have hle := h5 n s (hk _ (hlk s (List.mem_of_getElem? hs)))
      refine ⟨ts ++ [.mk s []], s10, by simp, by simp, fun u hu => ?_, ?_⟩
      · rcases List.mem_append.mp hu with h | h
        · exact hg u h
        · rw [List.mem_singleton.mp h]
          refine ⟨?_, ?_, ?_⟩
          · unfold Tr.kin Tr.kinL; exact ⟨hlk s (List.mem_of_getElem? hs), trivial⟩
          · unfold Tr.high Tr.highL; omega
          · unfold Tr.many Tr.manyL; omega
      · rw [hq _ rfl]
        simp (disch := first | assumption | omega | (simp <;> omega) | fail) [nth, grownD, S.loop, S.els, grnS, hx, hle]
    by_cases c1 : c / 7 % 5 = 1
    · by_cases c2 : 2 * (Tr.manyL ts : Int) < most
      · obtain ⟨t, ht⟩ : ∃ t, ts[ts.length - 1]? = some t := by
          have : ts.length - 1 < ts.length := by cases ts with | nil => exact absurd rfl hts | cons a b => simp
          exact ⟨_, List.getElem?_eq_getElem this⟩
        have hlen : 0 < ts.length := by cases ts with | nil => exact absurd rfl hts | cons a b => simp
        have hx : evPrim .idx [.lst (ts.map ent), .int ((ts.length : Int) - 1)] = .ok (ent t) := by
          rw [show ((ts.length : Int) - 1) = ((ts.length - 1 : Nat) : Int) by omega]
          exact pr_idx_lst (by omega) (by rw [List.getElem?_map, Int.toNat_natCast, ht]; rfl)
        refine ⟨ts ++ [t], s10, by simp, by simp, fun u hu => ?_, ?_⟩
        · rcases List.mem_append.mp hu with h | h
          · exact hg u h
          · rw [List.mem_singleton.mp h]; exact hg t (List.mem_of_getElem? ht)
        · simp (disch := first | assumption | omega | (simp <;> omega) | fail) [nth, grownD, S.loop, S.els, grnS, c1, c2, hsum, hsm, hx]
      · obtain ⟨s, hs⟩ : ∃ s, lf[(c / 35 % (lf.length : Int)).toNat]? = some s := ⟨_, List.getElem?_eq_getElem (hix c)⟩
        exact third s hs fun q _ => by
          simp (disch := first | assumption | omega | (simp <;> omega) | fail) [nth, grownD, S.loop, S.els, S.thn, grnS, c1, c2, hsum, hsm]
    · obtain ⟨s, hs⟩ : ∃ s, lf[(c / 35 % (lf.length : Int)).toNat]? = some s := ⟨_, List.getElem?_eq_getElem (hix c)⟩
      exact third s hs fun q _ => by
        simp (disch := first | assumption | omega | (simp <;> omega) | fail) [nth, grownD, S.loop, S.els, S.thn, grnS, c1]
  by_cases h0 : T = []
  · obtain ⟨ts', s', a1, a2, a3, a4⟩ := second
    refine ⟨ts', s', a1, a2, a3, ?_⟩
    rw [← a4, h0]
    simp (disch := first | assumption | omega | (simp <;> omega) | fail) [nth, grownD, S.loop, S.els, grnS, -ev_ss]
  obtain ⟨t, r, hTr⟩ : ∃ t r, T = t :: r := by
    cases T with
    | nil => exact absurd rfl h0
    | cons t r => exact ⟨t, r, rfl⟩
  have hL : T.length ≤ sizeLine := by show _ ≤ 16777216; omega
  have hp0 : 0 < p := by rw [← hTl, hTr]; simp
  have hpm : (p : Int) = m ∧ p ≤ ts.length := by rcases hp with h | h <;> omega
  have q1 : ∀ q : En, evP q (.comp (.op .idx [.var 10, .cst (.int 1)]) (.v 10) (.var 9) none) (grnS ent ns ks top most lf (.fz (kD (nm, m))) ts s7 (.fz (.int c)) (.fz (.lst (T.map ent))) s10) = .ok (.lst (((t.high : Int) :: r.map fun t => (t.high : Int)).map D.int)) (grnS ent ns ks top most lf (.fz (kD (nm, m))) ts s7 (.fz (.int c)) (.fz (.lst (T.map ent))) s10) := fun q => by
    have := ev_fld_v (q := q) (i := 9) (ρ := grnS ent ns ks top most lf (.fz (kD (nm, m))) ts s7 (.fz (.int c)) (.fz (.lst (T.map ent))) s10) (s := 10) T ent (fun t => .int (t.high : Nat)) rfl (by simp [grnS]) (fun y _ => i1 y) hL
    rw [this, hTr]
    simp
  have q2 : ∀ q : En, evP q (.comp (.op .idx [.var 10, .cst (.int 2)]) (.v 10) (.var 9) none) (grnS ent ns ks top most lf (.fz (kD (nm, m))) ts s7 (.fz (.int c)) (.fz (.lst (T.map ent))) s10) = .ok (.lst ((T.map fun t => (t.many : Int)).map D.int)) (grnS ent ns ks top most lf (.fz (kD (nm, m))) ts s7 (.fz (.int c)) (.fz (.lst (T.map ent))) s10) := fun q => by
    have := ev_fld_v (q := q) (i := 9) (ρ := grnS ent ns ks top most lf (.fz (kD (nm, m))) ts s7 (.fz (.int c)) (.fz (.lst (T.map ent))) s10) (s := 10) T ent (fun t => .int (t.many : Nat)) rfl (by simp [grnS]) (fun y _ => i2 y) hL
    rw [this]
    simp
  have hmx := pr_maxl (t.high : Int) (r.map fun t => (t.high : Int))
  rw [Tr.highL_max, ← hTr] at hmx
  have hsm := pr_sum (T.map fun t => (t.many : Int))
  rw [Tr.manyL_sum] at hsm
  obtain ⟨L1, e1⟩ : ∃ L, L = ((t.high : Int) :: r.map fun t => (t.high : Int)).map D.int := ⟨_, rfl⟩
  obtain ⟨L2, e2⟩ : ∃ L, L = (T.map fun t => (t.many : Int)).map D.int := ⟨_, rfl⟩
  rw [← e1] at q1 hmx
  rw [← e2] at q2 hsm
  by_cases c1 : Tr.highL T < top
  · by_cases c2 : Tr.manyL T < most
    · -- a knot over the last ones
      obtain ⟨s, hpop⟩ := pops_ok (ent := ent) (q := ⟨su, runD su Ps (n + 1), none⟩) (ns := ns) (ks := ks) (top := top) (most := most) (lf := lf) (s4 := .fz (kD (nm, m))) (s7 := s7) (s8 := .fz (.int c)) (s10 := s10) hpm.2
      rw [← hT] at hpop
      have hov := h4 nm T h0 hfitL hnm (by omega)
      refine ⟨ts.take (ts.length - p) ++ [.mk nm T], s, by simp, by rw [List.length_append, List.length_take]; simp <;> omega, fun u hu => ?_, ?_⟩
      · rcases List.mem_append.mp hu with h | h
        · exact hg u (List.mem_of_mem_take h)
        · rw [List.mem_singleton.mp h]
          refine ⟨?_, ?_, ?_⟩
          · unfold Tr.kin
            refine ⟨?_, Tr.kinL_of fun t h => (hg t (hTm t h)).kin⟩
            rw [hTl, hpm.1]
            exact hin
          · unfold Tr.high; omega
          · unfold Tr.many; omega
      · have k0 : evPrim .idx [kD (nm, m), .int 0] = .ok (.str nm) := pr_idx_t0 _ _
        unfold grnS at hpop q1 q2
        have hlt : ((ts.take (ts.length - p)).map ent).length < 16777216 := by rw [List.length_map, List.length_take]; omega
        have hTp : 0 < T.length := by omega
        generalize ts.take (ts.length - p) = us at *
        simp (disch := first | assumption | omega | (simp <;> omega) | fail) [nth, grownD, S.loop, grnS, q1, q2, hmx, hsm, c1, c2, hTp, hpop, hov, k0]
    · obtain ⟨ts', s', a1, a2, a3, a4⟩ := second
      refine ⟨ts', s', a1, a2, a3, ?_⟩
      rw [← a4]
      have hTp : 0 < T.length := by omega
      unfold grnS at q1 q2
      simp (disch := first | assumption | omega | (simp <;> omega) | fail) [nth, grownD, S.loop, S.els, grnS, q1, q2, hmx, hsm, c1, c2, hTp, -ev_ss]
  · obtain ⟨ts', s', a1, a2, a3, a4⟩ := second
    refine ⟨ts', s', a1, a2, a3, ?_⟩
    rw [← a4]
    have hTp : 0 < T.length := by omega
    unfold grnS at q1 q2
    simp (disch := first | assumption | omega | (simp <;> omega) | fail) [nth, grownD, S.loop, S.els, grnS, q1, q2, hmx, hsm, c1, hTp, -ev_ss]
end
end Bk

/-! E8: what is grown. -/
namespace Bk
open PySem
theorem kinds_in {m : Int} {p : Str × Int} (h : p ∈ kindsOf m) : ∃ k, k < kMany m ∧ p.1 = nameOf (m / 36) k ∧ 0 ≤ p.2 ∧ p.2 ≤ 3 := by
  unfold kindsOf at h
  obtain ⟨i, hi⟩ := List.mem_iff_getElem?.mp h
  rw [List.getElem?_set] at hi
  split at hi
  · split at hi
    · rename_i h3
      cases hi
      rw [List.length_map, List.length_range] at h3
      exact ⟨kAt m, h3, rfl, by simp, by simp⟩
    · cases hi
  · rw [List.getElem?_map, Option.map_eq_some_iff] at hi
    obtain ⟨k, hk, rfl⟩ := hi
    obtain ⟨h1, h2⟩ := List.getElem?_eq_some_iff.mp hk
    rw [List.getElem_range] at h2
    rw [List.length_range] at h1
    subst h2
    exact ⟨i, h1, rfl, Int.emod_nonneg _ (by decide), by show restK m i % 4 ≤ 3; omega⟩
theorem kMany_le (m : Int) : 1 ≤ kMany m ∧ kMany m ≤ 6 := by unfold kMany; omega
theorem kAt_lt (m : Int) : kAt m < kMany m := by
  have h1 := Int.emod_lt_of_pos (m / 6) (show 0 < 1 + m % 6 by omega)
  have h2 := Int.emod_nonneg (m / 6) (show 1 + m % 6 ≠ 0 by omega)
  unfold kAt kMany
  omega
theorem kinds_len (m : Int) : (kindsOf m).length = kMany m := by unfold kindsOf; simp
theorem kinds_leaf (m : Int) : (nameOf (m / 36) (kAt m), 0) ∈ kindsOf m := by
  unfold kindsOf
  exact List.mem_iff_getElem?.mpr ⟨kAt m, List.getElem?_set_self (by rw [List.length_map, List.length_range]; exact kAt_lt m)⟩
theorem nmSize_le (b : Int) : 1 ≤ nmSize b ∧ nmSize b ≤ 8 := by unfold nmSize; omega
theorem nmAt_lt (b : Int) : nmAt b < nmSize b := by
  have h1 := Int.emod_lt_of_pos (b / 16 % 7) (show 0 < 1 + b / 2 % 8 by omega)
  have h2 := Int.emod_nonneg (b / 16 % 7) (show 1 + b / 2 % 8 ≠ 0 by omega)
  unfold nmAt nmSize
  omega
theorem wordL_len (b : Int) : (wordL b).length = 8 := by unfold wordL; simp
theorem nameOf_len (b : Int) (k : Nat) : (nameOf b k).length ≤ 8 := by
  have h1 := nmAt_lt b
  have h2 := nmSize_le b
  unfold nameOf
  split
  · simp only [len_mk, List.length_take, wordL_len]; omega
  · simp only [len_mk, List.length_append, List.length_take, List.length_drop, wordL_len, List.length_cons, List.length_nil]; omega
theorem kinds_name {m : Int} : ∀ p ∈ kindsOf m, p.1.length ≤ 8 := fun p h => by
  obtain ⟨k, _, e, _⟩ := kinds_in h
  rw [e]; exact nameOf_len _ _
section
variable {su : Subs} {Ps : Nat → Option Df} {l o g : Nat} {ent : Tr → D}
theorem law_grown_ok (i1 : ∀ t, evPrim .idx [ent t, .int 1] = .ok (.int t.high)) (i2 : ∀ t, evPrim .idx [ent t, .int 2] = .ok (.int t.many)) {n : Nat} (h4 : ∀ (nm : Str) (ts : List Tr), ts ≠ [] → Tr.fitL ts → nm.length ≤ 8 → Tr.manyL ts ≤ 1000 → runD su Ps (n + 1) o [.str nm, .lst (ts.map ent)] = .ok (ent (.mk nm ts)) []) (h5 : ∀ (n : Nat) (nm : Str), nm.length ≤ 8 → runD su Ps (n + 1) l [.str nm] = .ok (ent (.mk nm [])) []) (h6 : Ps g = some (grownD l o)) (ns : List Int) (ks : List (Str × Int)) (top most : Nat) (hns : ns.length ≤ 63)
    (hk0 : 0 < ks.length) (hk8 : ks.length ≤ 8) (hkn : ∀ p ∈ ks, p.1.length ≤ 8) (hk2 : ∀ p ∈ ks, 0 ≤ p.2) (hz : ∃ s, (s, 0) ∈ ks) (htop : top ≤ 200) (hmost : 1 ≤ most ∧ most ≤ 1000) :
    ∃ ts : List Tr, (∀ t ∈ ts, Grn ks top most t) ∧ ts.length ≤ 64 ∧ runD su Ps (n + 2) g [.scr ns, .tup (ks.map kD), .int top, .int most] = .ok (.lst (ts.map ent)) [] := by
  obtain ⟨lf, hlf⟩ : ∃ lf, lf = (ks.filter fun y => decide (y.2 = 0)).map (·.1) := ⟨_, rfl⟩
  have hlf0 : lf ≠ [] := by
    obtain ⟨s, hs⟩ := hz
    intro z
    have : s ∈ lf := by rw [hlf]; exact List.mem_map.mpr ⟨(s, 0), List.mem_filter.mpr ⟨hs, by simp⟩, rfl⟩
    rw [z] at this; cases this
  have hlk : ∀ s ∈ lf, (s, 0) ∈ ks := fun s hs => by
    rw [hlf] at hs
    obtain ⟨p, hp, rfl⟩ := List.mem_map.mp hs
    obtain ⟨h1, h2⟩ := List.mem_filter.mp hp
    have h3 : p.2 = 0 := of_decide_eq_true h2
    rw [← h3]; exact h1
  have hll : lf.length ≤ 8 := by rw [hlf, List.length_map]; exact Nat.le_trans (List.length_filter_le _ _) hk8
  have hlc : ∀ q : En, evP q (.comp (.op .idx [.var 4, .cst (.int 0)]) (.v 4) (.var 1) (some (.op .eq [.op .idx [.var 4, .cst (.int 1)], .cst (.int 0)]))) [.fz (.scr ns), .fz (.tup (ks.map kD)), .fz (.int top), .fz (.int most), .un, .un, .un, .un, .un, .un, .un] = .ok (.lst (lf.map D.str)) [.fz (.scr ns), .fz (.tup (ks.map kD)), .fz (.int top), .fz (.int most), .un, .un, .un, .un, .un, .un, .un] := fun q => by
    have := ev_fldIf (q := q) (it := .var 1) (ρ := [.fz (.scr ns), .fz (.tup (ks.map kD)), .fz (.int top), .fz (.int most), .un, .un, .un, .un, .un, .un, .un]) (s := 4) (i := 1) (j := 0) (c := 0) ks kD (fun p => .str p.1) (fun p => p.2) (x := .tup (ks.map kD)) rfl (by simp) rfl (by simp) (fun p _ => pr_idx_t0 _ _) (fun p _ => pr_idx_t1 _ _ _) (by show _ ≤ 16777216; omega)
    rw [this, hlf, List.map_map]
    rfl
  obtain ⟨s0, hs0⟩ : ∃ s, lf[0]? = some s := by cases lf with | nil => exact absurd rfl hlf0 | cons a b => exact ⟨a, rfl⟩
  have hx0 : evPrim .idx [.lst (lf.map D.str), .int 0] = .ok (.str s0) := pr_idx_lst (by decide) (by rw [List.getElem?_map]; simp [hs0])
  have hle := h5 n s0 (hkn _ (hlk s0 (List.mem_of_getElem? hs0)))
  -- the loop
  have loop := forL_inv (f := forB ⟨su, runD su Ps (n + 1), none⟩ (.v 7) (nth (grownD l o).body 2).loop) (Q := fun o => ∃ ts s4 s7 s8 s9 s10, (∀ t ∈ ts, Grn ks top most t) ∧ ts.length ≤ 64 ∧ o = .nx (grnS ent ns ks top most lf s4 ts s7 s8 s9 s10))
    (fun i ρ => ∃ ts s4 s7 s8 s9 s10, ts ≠ [] ∧ ts.length ≤ i + 1 ∧ (∀ t ∈ ts, Grn ks top most t) ∧ ρ = grnS ent ns ks top most lf s4 ts s7 s8 s9 s10) (rngD 0 ns.length) 0
    (grnS ent ns ks top most lf .un [.mk s0 []] .un .un .un .un) ⟨_, _, _, _, _, _, by simp, by simp, fun t ht => by
      rw [List.mem_singleton.mp ht]
      refine ⟨?_, ?_, ?_⟩
      · unfold Tr.kin Tr.kinL; exact ⟨hlk s0 (List.mem_of_getElem? hs0), trivial⟩
      · unfold Tr.high Tr.highL; omega
      · unfold Tr.many Tr.manyL; omega, rfl⟩
    (fun i x ρ hx hI => by
      obtain ⟨rfl, hi⟩ := rngD_get hx
      obtain ⟨ts, s4, s7, s8, s9, s10, a1, a2, a3, rfl⟩ := hI
      have hi' : i < ns.length := by omega
      left
      have hxi : ns[i]? = some ns[i] := List.getElem?_eq_getElem hi'
      have hj1 := Int.emod_nonneg (ns[i] % p60 + (i : Int)) (show (ks.length : Int) ≠ 0 by omega)
      have hj2 := Int.emod_lt_of_pos (ns[i] % p60 + (i : Int)) (show (0 : Int) < ks.length by omega)
      obtain ⟨⟨nm, m⟩, hp⟩ : ∃ p, ks[((ns[i] % p60 + (i : Int)) % (ks.length : Int)).toNat]? = some p := ⟨_, List.getElem?_eq_getElem (show ((ns[i] % p60 + (i : Int)) % (ks.length : Int)).toNat < ks.length by omega)⟩
      have hpm := List.mem_of_getElem? hp
      obtain ⟨p, hp1, hA⟩ := grow_a (q := ⟨su, runD su Ps (n + 1), none⟩) (top := top) (most := most) (lf := lf) (s4 := s4) (s8 := s8) (s9 := s9) (s10 := s10) (ts := ts) [nth (nth (grownD l o).body 2).loop 4] hxi hk0 hk8 (by omega) hp (hk2 _ hpm)
      obtain ⟨ts', s10', b1, b2, b3, b4⟩ := grow_b (su := su) (ns := ns) (s7 := .fz (.int (i : Nat))) (s10 := s10) (n := n) i1 i2 h4 h5 a1 (by omega) a3 htop hmost hkn hp1 hpm hlf0 hlk hll (Int.emod_nonneg ns[i] (show p60 ≠ 0 by have := p60_pos; omega))
      have e1 : forB ⟨su, runD su Ps (n + 1), none⟩ (.v 7) (nth (grownD l o).body 2).loop (.int (0 + (i : Nat))) (grnS ent ns ks top most lf s4 ts s7 s8 s9 s10) = evSs ⟨su, runD su Ps (n + 1), none⟩ ((nth (grownD l o).body 2).loop.take 4 ++ [nth (nth (grownD l o).body 2).loop 4]) (grnS ent ns ks top most lf s4 ts (.fz (.int i)) s8 s9 s10) := by
        rw [Int.zero_add]; rfl
      have e3 := (e1.trans (hA.trans ((ev_ss _ _ _ _).trans (congrArg (seqK ⟨su, runD su Ps (n + 1), none⟩ []) b4)))).trans (ev_ss_nil ⟨su, runD su Ps (n + 1), none⟩ _)
      exact ⟨_, e3, ts', _, _, _, _, _, b1, by omega, b3, rfl⟩)
    (fun ρ hI => by
      obtain ⟨ts, s4, s7, s8, s9, s10, a1, a2, a3, rfl⟩ := hI
      rw [rngD_len] at a2
      exact ⟨ts, s4, s7, s8, s9, s10, a3, by omega, rfl⟩)
  obtain ⟨ts, s4, s7, s8, s9, s10, b1, b2, b3⟩ := loop
  refine ⟨ts, b1, b2, ?_⟩
  rw [runD_eq h6 rfl]
  have hlen : (ns.length : Int) < 4611686018427387904 := by omega
  unfold grnS at b3
  simp only [nth, grownD, S.loop, List.getD_cons_succ, List.getD_cons_zero, List.map_cons, List.map_nil] at b3
  simp (disch := first | assumption | omega | (simp <;> omega) | fail) [grownD, startR, hlc, hx0, hle, b3]
end
end Bk

/-! H1: things: patterns with holes. -/
namespace Bk
open PySem
inductive Th where | hole | call (q k : Nat) | mk (nm : Str) (ks : List Th)
mutual
def Th.d : Th → D
  | .hole => .tup [.str (Str.ofString "*")]
  | .call q k => .tup [.str (Str.ofString "?"), .int q, .int k]
  | .mk nm ks => .tup (.str nm :: Th.dL ks)
def Th.dL : List Th → List D
  | [] => []
  | t :: ts => t.d :: Th.dL ts
end
mutual
/-- a front lies on a thing -/
def Th.lies : Th → Th → Bool
  | .hole, _ => true
  | .mk nm us, .mk nm' vs => decide (nm = nm') && Th.liesL us vs
  | _, _ => false
def Th.liesL : List Th → List Th → Bool
  | [], [] => true
  | u :: us, v :: vs => u.lies v && Th.liesL us vs
  | _, _ => false
end
mutual
/-- what two things have in common -/
def Th.com : Th → Th → Th
  | .mk nm us, .mk nm' vs => if nm = nm' ∧ us.length = vs.length then .mk nm (Th.comL us vs) else .hole
  | _, _ => .hole
def Th.comL : List Th → List Th → List Th
  | u :: us, v :: vs => u.com v :: Th.comL us vs
  | _, _ => []
end
mutual
/-- holes for calls -/
def Th.bare : Th → Th
  | .mk nm us => .mk nm (Th.bareL us)
  | _ => .hole
def Th.bareL : List Th → List Th
  | [] => []
  | u :: us => u.bare :: Th.bareL us
end
end Bk

/-! H2: lies_on. -/
namespace Bk
open PySem
mutual
/-- no name is a sign -/
def Th.ok : Th → Prop
  | .mk nm us => nm ≠ Str.ofString "?" ∧ nm ≠ Str.ofString "*" ∧ us.length ≤ 100000 ∧ Th.okL us
  | _ => True
def Th.okL : List Th → Prop
  | [] => True
  | u :: us => u.ok ∧ Th.okL us
end
mutual
def Th.high : Th → Nat
  | .mk _ us => 1 + Th.highL us
  | _ => 1
def Th.highL : List Th → Nat
  | [] => 0
  | u :: us => max u.high (Th.highL us)
end
theorem Th.dL_map : ∀ ts : List Th, Th.dL ts = ts.map Th.d
  | [] => rfl
  | t :: ts => by simp [Th.dL, Th.dL_map ts]
theorem Th.high_mem {t : Th} : ∀ {ts : List Th}, t ∈ ts → t.high ≤ Th.highL ts
  | [], h => by cases h
  | a :: ts, h => by
    rw [Th.highL]
    rcases List.mem_cons.mp h with rfl | h
    · omega
    · have := Th.high_mem h; omega
def Th.isMk : Th → Bool
  | .mk _ _ => true
  | _ => false
def Th.isHole : Th → Bool
  | .hole => true
  | _ => false
def Th.like : Th → Th → Bool
  | .mk n us, .mk m vs => decide (n = m) && decide (us.length = vs.length)
  | _, _ => false
section
variable {su : Subs} {Ps : Nat → Option Df}
end
mutual
theorem Th.plain : ∀ t : Th, t.d.py.plain = true
  | .hole => rfl
  | .call _ _ => rfl
  | .mk nm us => by
    have := Th.plainL us
    simp only [Th.d, D.py, D.pyL, PyData.plain, PyData.plainAll, this, Bool.and_self]
theorem Th.plainL : ∀ us : List Th, PyData.plainAll (D.pyL (Th.dL us)) = true
  | [] => rfl
  | u :: us => by
    have h1 := Th.plain u
    have h2 := Th.plainL us
    simp only [Th.dL, D.pyL, PyData.plainAll, h1, h2, Bool.and_self]
end
end Bk

/-! H3: common, and holes for calls. -/
namespace Bk
open PySem
section
variable {su : Subs} {Ps : Nat → Option Df}
end
end Bk

/-! H4: holes for calls; a thing as a Th. -/
namespace Bk
open PySem
mutual
def Pt.th : Pt → Th
  | .call q k => .call q k
  | .mk nm us => .mk nm (Pt.thL us)
def Pt.thL : List Pt → List Th
  | [] => []
  | u :: us => u.th :: Pt.thL us
end
end Bk

/-! E10: the laws' comparison. -/
namespace Bk
open PySem
/-- tuples, texts and whole numbers, at most n deep -/
def tsi : Nat → D → Prop
  | 0, _ => False
  | n + 1, .tup xs => xs.length ≤ 16777216 ∧ ∀ x ∈ xs, tsi n x
  | _ + 1, .str _ => True
  | _ + 1, .int _ => True
  | _ + 1, _ => False
end Bk

/-! E11: places. -/
namespace Bk
open PySem
def pD (p : List Int) : D := .tup (p.map D.int)
mutual
def Tr.places : Tr → List (List Int)
  | .mk _ us => [] :: Tr.placesL 0 us
def Tr.placesL : Nat → List Tr → List (List Int)
  | _, [] => []
  | k, u :: us => u.places.map (fun p => (k : Int) :: p) ++ Tr.placesL (k + 1) us
end
/-- range(1, n)'s name -/
def lv1 : Nat → Sl
  | 0 => .un
  | i + 1 => .fz (.int (1 + (i : Nat)))
end Bk

/-! H5: things turned and pruned. -/
namespace Bk
open PySem
mutual
def Th.turn (o : Th) : Th → Int → Th
  | .mk nm us, c => if c % 6 = 0 then o else .mk nm (Th.turnL o us 1 c)
  | t, c => if c % 6 = 0 then o else t
def Th.turnL (o : Th) : List Th → Int → Int → List Th
  | [], _, _ => []
  | u :: us, k, c => Th.turn o u ((c / 6 + 1) * 69621 * k % 2147483647) :: Th.turnL o us (k + 1) c
end
mutual
/-- holes in the place of drawn parts, and of calls -/
def Th.prune : Th → Int → Th
  | .mk nm us, c => if c % 5 = 0 then .hole else .mk nm (Th.pruneL us 1 c)
  | _, _ => .hole
def Th.pruneL : List Th → Int → Int → List Th
  | [], _, _ => []
  | u :: us, k, c => u.prune ((c / 5 + 1) * 48271 * k % 2147483647) :: Th.pruneL us (k + 1) c
end
section
variable {su : Subs} {Ps : Nat → Option Df}
end
end Bk

/-! W1: what a run ends with, by predicates; rules for loops and comprehensions that fit where simp stops. -/
namespace Bk
open PySem
/-- the call ends with a value such that .. -/
def Ret (r : Rs) (Q : D → Prop) : Prop := ∃ d, r = .ok d [] ∧ Q d
/-- the call raises c -/
def W (K : O → Prop) (o : O) : Prop := K o
/-- a def's end: its value; or the class that it raises -/
def FinK (Q : D → Prop) (X : Nat → Prop) : O → Prop
  | .nx _ => Q .non
  | .ret d _ => Q d
  | .exc c _ => X c
  | _ => False
def TurnK (J : Rho → Prop) (K : O → Prop) : O → Prop
  | .nx ρ => J ρ
  | .cont ρ => J ρ
  | .brk ρ => K (.nx ρ)
  | .ret d ρ => K (.ret d ρ)
  | .exc c ρ => K (.exc c ρ)
  | .stuck => False
def SeqK (q : En) (ss : List S) (K : O → Prop) : O → Prop := fun o => W K (seqK q ss o)
def NxK (J : Rho → Prop) : O → Prop
  | .nx ρ => J ρ
  | _ => False
section
variable (Q : D → Prop) (X : Nat → Prop) (J : Rho → Prop) (K : O → Prop) (ρ : Rho) (d : D) (c : Nat) (q : En) (ss : List S)
@[simp] theorem w_fin_nx : W (FinK Q X) (.nx ρ) = Q .non := (rfl)
@[simp] theorem w_fin_ret : W (FinK Q X) (.ret d ρ) = Q d := (rfl)
@[simp] theorem w_fin_exc : W (FinK Q X) (.exc c ρ) = X c := (rfl)
@[simp] theorem w_turn_nx : W (TurnK J K) (.nx ρ) = J ρ := (rfl)
@[simp] theorem w_turn_cont : W (TurnK J K) (.cont ρ) = J ρ := (rfl)
@[simp] theorem w_turn_brk : W (TurnK J K) (.brk ρ) = W K (.nx ρ) := (rfl)
@[simp] theorem w_turn_ret : W (TurnK J K) (.ret d ρ) = W K (.ret d ρ) := (rfl)
@[simp] theorem w_turn_exc : W (TurnK J K) (.exc c ρ) = W K (.exc c ρ) := (rfl)
@[simp] theorem w_seq_nx : W (SeqK q ss K) (.nx ρ) = W K (evSs q ss ρ) := (rfl)
@[simp] theorem w_seq_ret : W (SeqK q ss K) (.ret d ρ) = W K (.ret d ρ) := (rfl)
@[simp] theorem w_seq_brk : W (SeqK q ss K) (.brk ρ) = W K (.brk ρ) := (rfl)
@[simp] theorem w_seq_cont : W (SeqK q ss K) (.cont ρ) = W K (.cont ρ) := (rfl)
@[simp] theorem w_seq_exc : W (SeqK q ss K) (.exc c ρ) = W K (.exc c ρ) := (rfl)
@[simp] theorem w_nx : W (NxK J) (.nx ρ) = J ρ := (rfl)
end
theorem ret_of {su : Subs} {Ps : Nat → Option Df} {n f : Nat} {df : Df} {ds : List D} {Q : D → Prop} (h : Ps f = some df) (hl : ds.length = df.np) (hio : df.io = [])
    (hw : W (FinK Q fun _ => False) (evSs ⟨su, runD su Ps n, none⟩ df.body (startR df.io 0 ds ++ List.replicate (df.N.length - df.np) Sl.un))) : Ret (runD su Ps (n + 1) f ds) Q := by
  rw [runD_eq h hl, hio] at *
  generalize evSs ⟨su, runD su Ps n, none⟩ df.body _ = o at *
  cases o with
  | nx ρ => exact ⟨_, rfl, hw⟩
  | ret d ρ => exact ⟨_, rfl, hw⟩
  | _ => exact hw.elim
/-- a def that may raise -/
def RetX (r : Rs) (Q : D → Prop) (X : Nat → Prop) : Prop := (∃ d, r = .ok d [] ∧ Q d) ∨ (∃ c, r = .exc c [] ∧ X c)
theorem retX_of {su : Subs} {Ps : Nat → Option Df} {n f : Nat} {df : Df} {ds : List D} {Q : D → Prop} {X : Nat → Prop} (h : Ps f = some df) (hl : ds.length = df.np) (hio : df.io = [])
    (hw : W (FinK Q X) (evSs ⟨su, runD su Ps n, none⟩ df.body (startR df.io 0 ds ++ List.replicate (df.N.length - df.np) Sl.un))) : RetX (runD su Ps (n + 1) f ds) Q X := by
  rw [runD_eq h hl, hio] at *
  generalize evSs ⟨su, runD su Ps n, none⟩ df.body _ = o at *
  cases o with
  | nx ρ => exact .inl ⟨_, rfl, hw⟩
  | ret d ρ => exact .inl ⟨_, rfl, hw⟩
  | exc c ρ => exact .inr ⟨_, rfl, hw⟩
  | _ => exact hw.elim
theorem Ret.eq {r : Rs} {d : D} (h : Ret r (· = d)) : r = .ok d [] := by
  obtain ⟨_, e, rfl⟩ := h
  exact e
theorem Ret.mono {r : Rs} {Q Q' : D → Prop} (h : Ret r Q) (hq : ∀ d, Q d → Q' d) : Ret r Q' := by
  obtain ⟨d, e, h⟩ := h
  exact ⟨d, e, hq d h⟩
/-- a for by an invariant -/
theorem w_for {K : O → Prop} {q : En} {ss : List S} {f : D → Rho → O} {xs : List D} {ρ : Rho} (I : Nat → Rho → Prop) (h0 : I 0 ρ)
    (hs : ∀ i x ρ, xs[i]? = some x → i < xs.length → I i ρ → W (TurnK (I (i + 1)) (SeqK q ss K)) (f x ρ)) (he : ∀ ρ, I xs.length ρ → W K (evSs q ss ρ)) : W K (seqK q ss (forL f xs ρ)) := by
  refine forL_inv (Q := fun o => W K (seqK q ss o)) I xs 0 ρ h0 (fun i x ρ hx hI => ?_) (fun ρ hI => ?_)
  · rw [Nat.zero_add] at hI ⊢
    have := hs i x ρ hx (List.getElem?_eq_some_iff.mp hx).1 hI
    generalize f x ρ = o at *
    cases o with
    | nx ρ => exact .inl ⟨_, rfl, this⟩
    | cont ρ => exact .inr (.inl ⟨_, rfl, this⟩)
    | brk ρ => exact .inr (.inr (.inl ⟨_, rfl, this⟩))
    | ret d ρ => exact .inr (.inr (.inr (.inl ⟨_, _, rfl, this⟩)))
    | exc c ρ => exact .inr (.inr (.inr (.inr ⟨_, _, rfl, this⟩)))
    | stuck => exact this.elim
  · rw [Nat.zero_add] at hI
    exact he ρ hI
/-- a for over list items: the invariant speaks of what is done -/
theorem w_for_l {α : Type} {K : O → Prop} {q : En} {ss : List S} {f : D → Rho → O} {a : α → D} {L : List α} {ρ : Rho} (I : List α → Rho → Prop) (h0 : I [] ρ)
    (hs : ∀ pre x post ρ, L = pre ++ x :: post → I pre ρ → W (TurnK (I (pre ++ [x])) (SeqK q ss K)) (f (a x) ρ)) (he : ∀ ρ, I L ρ → W K (evSs q ss ρ)) : W K (seqK q ss (forL f (L.map a) ρ)) := by
  refine w_for (fun i => I (L.take i)) (by rw [List.take_zero]; exact h0) (fun i x ρ hx hi hI => ?_) (fun ρ hI => ?_)
  · rw [List.length_map] at hi
    rw [List.getElem?_map, List.getElem?_eq_getElem hi] at hx
    cases hx
    have e : L = L.take i ++ L[i] :: L.drop (i + 1) := by rw [List.getElem_cons_drop, List.take_append_drop]
    have := hs _ _ _ ρ e hI
    rw [show L.take (i + 1) = L.take i ++ [L[i]] by rw [List.take_add_one, List.getElem?_eq_getElem hi]; rfl]
    exact this
  · rw [List.length_map, List.take_length] at hI
    exact he ρ hI
/-- a for over range(a, b) -/
theorem w_for_r {K : O → Prop} {q : En} {ss : List S} {f : D → Rho → O} {a b : Int} {ρ : Rho} (I : Nat → Rho → Prop) (h0 : I 0 ρ)
    (hs : ∀ (i : Nat) ρ, i < (b - a).toNat → I i ρ → W (TurnK (I (i + 1)) (SeqK q ss K)) (f (.int (a + (i : Nat))) ρ)) (he : ∀ ρ, I (b - a).toNat ρ → W K (evSs q ss ρ)) : W K (seqK q ss (forL f (rngD a b) ρ)) := by
  refine w_for I h0 (fun i x ρ hx hi hI => ?_) (fun ρ hI => ?_)
  · obtain ⟨rfl, h⟩ := rngD_get hx
    exact hs i ρ h hI
  · rw [rngD_len] at hI
    exact he ρ hI
/-- for k in range(1, len(x)), x a knot's tuple: the items in turn -/
theorem w_for_k {α : Type} {K : O → Prop} {q : En} {ss : List S} {f : D → Rho → O} {L : List α} {b : Int} {ρ : Rho} (hb : b = (L.length : Int) + 1) (I : List α → Rho → Prop) (h0 : I [] ρ)
    (hs : ∀ pre x post ρ, L = pre ++ x :: post → I pre ρ → W (TurnK (I (pre ++ [x])) (SeqK q ss K)) (f (.int (1 + (pre.length : Int))) ρ)) (he : ∀ ρ, I L ρ → W K (evSs q ss ρ)) : W K (seqK q ss (forL f (rngD 1 b) ρ)) := by
  refine w_for_r (fun i => I (L.take i)) (by rw [List.take_zero]; exact h0) (fun i ρ hi hI => ?_) (fun ρ hI => ?_)
  · have hi : i < L.length := by omega
    have e : L = L.take i ++ L[i] :: L.drop (i + 1) := by rw [List.getElem_cons_drop, List.take_append_drop]
    have := hs _ _ _ ρ e hI
    rw [show L.take (i + 1) = L.take i ++ [L[i]] by rw [List.take_add_one, List.getElem?_eq_getElem hi]; rfl]
    rw [List.length_take, Nat.min_eq_left (by omega)] at this
    exact this
  · rw [show (b - 1).toNat = L.length by omega, List.take_length] at hI
    exact he ρ hI
/-- the kid behind pre -/
@[simp] theorem idx_app (x : D) (A B : List D) (y : D) (k : Nat) (h : A.length = k) : evPrim .idx [.tup (x :: (A ++ y :: B)), .int (1 + (k : Int))] = .ok y :=
  pr_idx_tup (by omega) (by rw [show (1 + (k : Int)).toNat = k + 1 by omega, ← h]; simp)
@[simp] theorem idx_app0 (A B : List D) (y : D) (k : Nat) (h : A.length = k) : evPrim .idx [.tup (A ++ y :: B), .int (k : Int)] = .ok y :=
  pr_idx_tup (by omega) (by rw [Int.toNat_natCast, ← h]; simp)
@[simp] theorem idx_appl (A B : List D) (y : D) (k : Nat) (h : A.length = k) : evPrim .idx [.lst (A ++ y :: B), .int (k : Int)] = .ok y :=
  pr_idx_lst (by omega) (by rw [Int.toNat_natCast, ← h]; simp)
/-- the i-th item -/
theorem idx_get {xs : List D} {i : Int} {j : Nat} {x : D} (e : i = (j : Int)) (h : xs[j]? = some x) : evPrim .idx [.tup xs, .int i] = .ok x := pr_idx_tup (by omega) (by rw [e, Int.toNat_natCast]; exact h)
theorem idxl_get {xs : List D} {i : Int} {j : Nat} {x : D} (e : i = (j : Int)) (h : xs[j]? = some x) : evPrim .idx [.lst xs, .int i] = .ok x := pr_idx_lst (by omega) (by rw [e, Int.toNat_natCast]; exact h)
/-! comprehensions, where simp stops -/
def cmpF (q : En) (elt : P) (tg : Tg) : Option P → D → Rho → Ev (Option D)
  | none => cmpB q elt tg
  | some c => cmpI q elt c tg
def cmpEnd (ρ : Rho) (l : Option (Pl × D)) (r : List D) : R Rho → Ev D
  | .ok ρ' => (okIf (decide (r.length ≤ sizeLine)) (.lst r)).at ρ'
  | .stuck => .stuck
def cmpRun2 (q : En) (elt : P) (tg : Tg) (c : Option P) (ρ : Rho) (xs : List D) : R (Option (Pl × D) × Rho) → Ev D
  | .ok l => (compL (cmpF q elt tg c) xs (wipeR l.2 tg.slots)).bind fun r ρ' => cmpEnd ρ l.1 r (backI (backR l.2 ρ' tg.slots) l.1)
  | .stuck => .stuck
def cmpRun1 (q : En) (elt : P) (tg : Tg) (it : P) (c : Option P) (ρ : Rho) : R (List D) → Ev D
  | .ok xs => cmpRun2 q elt tg c ρ xs (lendI ρ it)
  | .stuck => .stuck
@[simp] theorem cmpRun1_ok (q : En) (elt : P) (tg : Tg) (it : P) (c : Option P) (ρ : Rho) (xs : List D) : cmpRun1 q elt tg it c ρ (.ok xs) = cmpRun2 q elt tg c ρ xs (lendI ρ it) := (rfl)
def cmpRun (q : En) (elt : P) (tg : Tg) (it : P) (c : Option P) : Ev D → Ev D
  | .ok x ρ => cmpRun1 q elt tg it c ρ (itemsOf x)
  | .exc k ρ => .exc k ρ
  | .stuck => .stuck
@[simp] theorem cmpRun_ok (q : En) (elt : P) (tg : Tg) (it : P) (c : Option P) (x : D) (ρ : Rho) : cmpRun q elt tg it c (.ok x ρ) = cmpRun1 q elt tg it c ρ (itemsOf x) := (rfl)
@[simp] theorem ev_cmp (q : En) (ρ : Rho) (elt : P) (tg : Tg) (it : P) (c : Option P) : evP q (.comp elt tg it c) ρ = cmpRun q elt tg it c (evP q it ρ) := by
  have fin : ∀ (ρ : Rho) (l : Option (Pl × D) × Rho) (f : D → Rho → Ev (Option D)) (xs : List D), ((compL f xs (wipeR l.2 tg.slots)).bind fun r ρ' =>
        ((backI (backR l.2 ρ' tg.slots) l.1).at ρ).bind fun ρ _ => (okIf (decide (r.length ≤ sizeLine)) (.lst r)).at ρ) = (compL f xs (wipeR l.2 tg.slots)).bind fun r ρ' => cmpEnd ρ l.1 r (backI (backR l.2 ρ' tg.slots) l.1) := by
    intro ρ l f xs
    cases compL f xs (wipeR l.2 tg.slots) with
    | ok r ρ' =>
      simp only [Ev.bind_ok]
      cases backI (backR l.2 ρ' tg.slots) l.1 <;> rfl
    | exc c ρ => rfl
    | stuck => rfl
  cases c with
  | none =>
    rw [evP]
    have e : (fun y ρ => ((setT tg y ρ).at ρ).bind fun ρ _ => (evP q elt ρ).noX.bind fun z ρ => Ev.ok (some z) (wipeR ρ tg.slots)) = cmpB q elt tg := by
      funext y ρ
      unfold cmpB
      cases setT tg y ρ with
      | stuck => rfl
      | ok ρ2 =>
        show (evP q elt ρ2).noX.bind _ = cmpK3 ρ2 tg.slots (evP q elt ρ2)
        cases evP q elt ρ2 <;> rfl
    rw [e]
    cases evP q it ρ with
    | ok x ρ =>
      simp only [Ev.bind_ok, cmpRun_ok]
      cases itemsOf x with
      | ok xs =>
        simp only [Ev.bind_ok, R.at_ok, cmpRun1_ok]
        cases lendI ρ it with
        | ok l => exact fin ρ l _ xs
        | stuck => rfl
      | stuck => rfl
    | exc c ρ => rfl
    | stuck => rfl
  | some c =>
    rw [evP]
    have e : (fun y ρ => ((setT tg y ρ).at ρ).bind fun ρ _ => (evP q c ρ).noX.bind fun z ρ => ((asB z).at ρ).bind fun k ρ => if k then (evP q elt ρ).noX.bind fun z ρ => Ev.ok (some z) (wipeR ρ tg.slots) else .ok none (wipeR ρ tg.slots)) = cmpI q elt c tg := by
      funext y ρ
      unfold cmpI
      cases setT tg y ρ with
      | stuck => rfl
      | ok ρ2 =>
        show (evP q c ρ2).noX.bind _ = cmpI2 q elt tg.slots (evP q c ρ2)
        cases evP q c ρ2 with
        | ok z ρ3 =>
          cases z with
          | bl k =>
            cases k with
            | false => rfl
            | true =>
              show (evP q elt ρ3).noX.bind _ = cmpK3 ρ3 tg.slots (evP q elt ρ3)
              cases evP q elt ρ3 <;> rfl
          | _ => rfl
        | exc c ρ => rfl
        | stuck => rfl
    rw [e]
    cases evP q it ρ with
    | ok x ρ =>
      simp only [Ev.bind_ok, cmpRun_ok]
      cases itemsOf x with
      | ok xs =>
        simp only [Ev.bind_ok, R.at_ok, cmpRun1_ok]
        cases lendI ρ it with
        | ok l => exact fin ρ l _ xs
        | stuck => rfl
      | stuck => rfl
    | exc c ρ => rfl
    | stuck => rfl
/-- one's own is lent -/
@[simp] theorem lend_bor (ρ : Rho) (i : Nat) : lendI ρ (.bor ⟨i, none⟩) = (match takeS ρ i ρ[i]? with | .ok dr => .ok (some (⟨i, none⟩, dr.1), dr.2) | .stuck => .ok (none, ρ)) := by
  simp only [lendI, take_eq]
  cases takeS ρ i ρ[i]? <;> rfl
/-- slots wiped and given back -/
theorem back_wipe {ρ : Rho} : ∀ (is : List Nat), (∀ i ∈ is, i < ρ.length) → backR ρ (wipeR ρ is) is = ρ := by
  have hw : ∀ (is : List Nat), (wipeR ρ is).length = ρ.length := by
    intro is
    induction is with
    | nil => rfl
    | cons i is ih => rw [wipeR, List.length_set, ih]
  have hn : ∀ (is : List Nat) (j : Nat), j ∉ is → (wipeR ρ is)[j]? = ρ[j]? := by
    intro is
    induction is with
    | nil => intro j _; rfl
    | cons i is ih =>
      intro j hj
      rw [wipeR, List.getElem?_set_ne (fun h => hj (by rw [h]; exact List.mem_cons_self)), ih j (fun h => hj (List.mem_cons_of_mem _ h))]
  have hb : ∀ (is : List Nat) (σ : Rho), σ.length = ρ.length → (∀ i ∈ is, i < ρ.length) → (backR ρ σ is).length = ρ.length ∧ ∀ j, (backR ρ σ is)[j]? = if j ∈ is then ρ[j]? else σ[j]? := by
    intro is
    induction is with
    | nil => intro σ h _; exact ⟨h, fun j => by simp [backR]⟩
    | cons i is ih =>
      intro σ hl hi
      obtain ⟨e1, e2⟩ := ih σ hl (fun j hj => hi j (List.mem_cons_of_mem _ hj))
      have hil := hi i List.mem_cons_self
      refine ⟨by rw [backR, List.length_set]; exact e1, fun j => ?_⟩
      rw [backR]
      by_cases e : i = j
      · subst e
        rw [List.getElem?_set_self (by omega), if_pos List.mem_cons_self, List.getD_eq_getElem?_getD, List.getElem?_eq_getElem hil]
        rfl
      · rw [List.getElem?_set_ne e, e2 j]
        have : (j ∈ i :: is) = (j ∈ is) := by
          rw [List.mem_cons]
          exact propext ⟨fun h => h.resolve_left (fun z => e z.symm), .inr⟩
        simp only [this]
  intro is hi
  obtain ⟨_, h2⟩ := hb is (wipeR ρ is) (hw is) hi
  refine List.ext_getElem? fun j => ?_
  rw [h2 j]
  by_cases h : j ∈ is
  · rw [if_pos h]
  · rw [if_neg h]
    exact hn is j h
/-- .. for .. in L: where each turn's value is known -/
theorem comp_run {α : Type} {q : En} {elt : P} {tg : Tg} {ρ σ : Rho} (L : List α) (a g : α → D) (hl : L.length ≤ 16777216) (hi : ∀ i ∈ tg.slots, i < ρ.length)
    (h : ∀ y ∈ L, cmpB q elt tg (a y) (wipeR ρ tg.slots) = .ok (some (g y)) (wipeR ρ tg.slots)) : cmpRun2 q elt tg none σ (L.map a) (.ok (none, ρ)) = .ok (.lst (L.map g)) ρ := by
  show (compL (cmpB q elt tg) (L.map a) (wipeR ρ tg.slots)).bind _ = _
  rw [compL_map L h, Ev.bind_ok, back_wipe _ hi]
  show (okIf (decide ((L.map g).length ≤ sizeLine)) (.lst (L.map g))).at ρ = _
  rw [List.length_map, decide_eq_true (show L.length ≤ sizeLine from hl)]
  rfl
theorem comp_runIf {α : Type} {q : En} {elt c : P} {tg : Tg} {ρ σ : Rho} (L : List α) (a : α → D) (g : α → Option D) (hl : L.length ≤ 16777216) (hi : ∀ i ∈ tg.slots, i < ρ.length)
    (h : ∀ y ∈ L, cmpI q elt c tg (a y) (wipeR ρ tg.slots) = .ok (g y) (wipeR ρ tg.slots)) : cmpRun2 q elt tg (some c) σ (L.map a) (.ok (none, ρ)) = .ok (.lst (L.filterMap g)) ρ := by
  show (compL (cmpI q elt c tg) (L.map a) (wipeR ρ tg.slots)).bind _ = _
  rw [compL_filter L h, Ev.bind_ok, back_wipe _ hi]
  show (okIf (decide ((L.filterMap g).length ≤ sizeLine)) (.lst (L.filterMap g))).at ρ = _
  rw [decide_eq_true (show (L.filterMap g).length ≤ sizeLine from Nat.le_trans (List.length_filterMap_le _ _) hl)]
  rfl
/-! a for over few items, in turn -/
def turnL (f : D → Rho → O) (xs : List D) (o : O) : O := o.turn (forL f xs)
section
variable (f : D → Rho → O) (x : D) (xs : List D) (ρ : Rho) (d : D) (c : Nat)
@[simp] theorem turnL_nx : turnL f xs (.nx ρ) = forL f xs ρ := (rfl)
@[simp] theorem turnL_cont : turnL f xs (.cont ρ) = forL f xs ρ := (rfl)
@[simp] theorem turnL_brk : turnL f xs (.brk ρ) = .nx ρ := (rfl)
@[simp] theorem turnL_ret : turnL f xs (.ret d ρ) = .ret d ρ := (rfl)
@[simp] theorem turnL_exc : turnL f xs (.exc c ρ) = .exc c ρ := (rfl)
end
@[simp] theorem pr_eq_bl (a b : Bool) : evPrim .eq [.bl a, .bl b] = .ok (.bl (a == b)) := by
  show eqD (.bl a) (.bl b) = _
  unfold eqD
  simp [D.py, PyData.plain, PyData.depth, PyData.eqv]
@[simp] theorem pr_ne_bl (a b : Bool) : evPrim .ne [.bl a, .bl b] = .ok (.bl (!(a == b))) := by
  show notR (evPrim .eq [.bl a, .bl b]) = _
  rw [pr_eq_bl]; rfl
@[simp] theorem ite_ok {α : Type} (p : Prop) [Decidable p] (a b : α) (ρ : Rho) : (if p then Ev.ok a ρ else Ev.ok b ρ) = Ev.ok (if p then a else b) ρ := by split <;> rfl
@[simp] theorem ite_bl (p : Prop) [Decidable p] (a b : Bool) : (if p then D.bl a else D.bl b) = D.bl (if p then a else b) := by split <;> rfl
@[simp] theorem ite_int (p : Prop) [Decidable p] (a b : Int) : (if p then D.int a else D.int b) = D.int (if p then a else b) := by split <;> rfl
@[simp] theorem setT_t (is : List Nat) (xs : List D) (ρ : Rho) : setT (.t is) (.tup xs) ρ = setL is xs ρ := (rfl)
@[simp] theorem setL_nil (ρ : Rho) : setL [] [] ρ = .ok ρ := (rfl)
@[simp] theorem setL_cons (i : Nat) (is : List Nat) (x : D) (xs : List D) (ρ : Rho) : setL (i :: is) (x :: xs) ρ = setL is xs (ρ.set i (.fz x)) := (rfl)
/-- up to the j-th -/
theorem pr_slc_lto {xs : List D} {j : Nat} : evPrim (.slc false true) [.lst xs, .int j] = .ok (.lst (xs.take j)) := by
  show R.ok (D.lst (cutD xs none (some (j : Int)))) = _
  unfold cutD
  rw [HT.sIx_none, List.drop_zero, Nat.sub_zero, show HT.sIx xs.length xs.length (some (j : Int)) = min j xs.length from HT.sIx_nat _ _ _]
  by_cases h : j ≤ xs.length
  · rw [Nat.min_eq_left h]
  · rw [Nat.min_eq_right (by omega), List.take_length, List.take_of_length_le (by omega)]
/-- [x[j] for x in L] -/
theorem comp_fld {α : Type} {q : En} {ρ σ : Rho} (L : List α) (a g : α → D) (s : Nat) (j : Int) (hl : L.length ≤ 16777216) (hg : ∀ y ∈ L, evPrim .idx [a y, .int j] = .ok (g y)) (hs : s < ρ.length) :
    cmpRun2 q (.op .idx [.var s, .cst (.int j)]) (.v s) none σ (L.map a) (.ok (none, ρ)) = .ok (.lst (L.map g)) ρ :=
  comp_run L a g hl (by simpa using hs) (fun y hy => by
    have e : (ρ.set s (.fz (a y)))[s]? = some (.fz (a y)) := List.getElem?_set_self hs
    simp [cmpB, wipeR, List.set_set, e, hg y hy])
@[simp] theorem pr_intOf_bl (b : Bool) : evPrim .intOf [.bl b] = .ok (.int (if b then 1 else 0)) := (rfl)
@[simp] theorem pr_intOf_int (i : Int) : evPrim .intOf [.int i] = .ok (.int i) := (rfl)
theorem w_turn_mono {J J' : Rho → Prop} {K : O → Prop} {o : O} (h : ∀ ρ, J' ρ → J ρ) (w : W (TurnK J' K) o) : W (TurnK J K) o := by
  cases o with
  | nx ρ => exact h ρ w
  | cont ρ => exact h ρ w
  | _ => exact w
end Bk

/-! H9: things made of things are ok, and not too tall. -/
namespace Bk
open PySem
theorem nameOf_ge (b : Int) (k : Nat) : ∀ c ∈ (nameOf b k).cps.toList, 97 ≤ c := by
  have hw : ∀ c ∈ wordL b, 97 ≤ c := fun c hc => by
    unfold wordL at hc
    obtain ⟨i, _, rfl⟩ := List.mem_map.mp hc
    omega
  intro c hc
  unfold nameOf at hc
  split at hc
  · exact hw c (List.mem_of_mem_take hc)
  · have hc : c ∈ (wordL b).take (nmAt b) ++ [97 + ((restAt b (nmAt b) % 26 + k) % 26).toNat] ++ ((wordL b).drop (nmAt b + 1)).take (nmSize b - (nmAt b + 1)) := by simpa using hc
    rcases List.mem_append.mp hc with hc | hc
    · rcases List.mem_append.mp hc with hc | hc
      · exact hw c (List.mem_of_mem_take hc)
      · rw [List.mem_singleton.mp hc]; omega
    · exact hw c (List.mem_of_mem_drop (List.mem_of_mem_take hc))
theorem nameOf_ne2 (b : Int) (k : Nat) : nameOf b k ≠ Str.ofString "*" := by
  have hq : (Str.ofString "*").cps.toList = [42] := by decide
  intro e
  have hall := nameOf_ge b k
  rw [e, hq] at hall
  have := hall 42 (List.mem_singleton.mpr rfl)
  omega
end Bk

/-! P4: the pile of patterns (k11, k13, k17, k18). -/
namespace Bk
open PySem
structure KsOk (ks : List (Str × Int)) : Prop where
  len : 1 ≤ ks.length ∧ ks.length ≤ 8
  nm : ∀ p ∈ ks, p.1.length ≤ 8
  lo : ∀ p ∈ ks, 0 ≤ p.2
  hi : ∀ p ∈ ks, p.2 ≤ 3
  q : ∀ p ∈ ks, p.1 ≠ Str.ofString "?"
  st : ∀ p ∈ ks, p.1 ≠ Str.ofString "*"
  lf : ∃ s, (s, 0) ∈ ks
theorem ksOk_mk (c : Int) : KsOk (kindsOf (mixOf c)) := by
  have hk := kMany_le (mixOf c)
  have hl := kinds_len (mixOf c)
  exact {
    len := by omega
    nm := kinds_name
    lo := fun p hp => by obtain ⟨_, _, _, h2, _⟩ := kinds_in hp; exact h2
    hi := fun p hp => by obtain ⟨_, _, _, _, h2⟩ := kinds_in hp; exact h2
    q := fun p hp => by obtain ⟨k, _, e, _⟩ := kinds_in hp; rw [e]; exact nameOf_ne _ _
    st := fun p hp => by obtain ⟨k, _, e, _⟩ := kinds_in hp; rw [e]; exact nameOf_ne2 _ _
    lf := ⟨_, kinds_leaf _⟩ }
section
variable {su : Subs} {Ps : Nat → Option Df}
end
end Bk

/-! P5: kinds have unlike names; many_of. -/
namespace Bk
open PySem
theorem str_ext {a b : Str} (h : a.cps.toList = b.cps.toList) : a = b := by
  cases a; cases b
  simp only [Str.mk.injEq]
  exact Array.toList_inj.mp h
theorem nameOf_inj (b : Int) (i j : Nat) (hi : i < 8) (hj : j < 8) (h : nameOf b i = nameOf b j) : i = j := by
  have h := congrArg (fun s : Str => s.cps.toList) h
  simp only [nameOf] at h
  split at h
  · have := congrArg List.length h
    simp only [List.length_take, wordL_len] at this
    omega
  · have ha := nmAt_lt b
    have hs := nmSize_le b
    have hl : ((wordL b).take (nmAt b)).length = nmAt b := by rw [List.length_take, wordL_len]; omega
    have h2 := congrArg (fun l : List Nat => l[nmAt b]?) h
    simp only [List.append_assoc, List.cons_append, List.nil_append] at h2
    rw [List.getElem?_append_right (by omega), List.getElem?_append_right (by omega), hl, Nat.sub_self] at h2
    simp only [List.getElem?_cons_zero, Option.some.injEq] at h2
    omega
/-- how many kids a knot of a name has -/
def manyOf : List (Str × Int) → Str → Int
  | [], _ => -1
  | p :: ks, nm => if p.1 = nm then p.2 else manyOf ks nm
theorem manyOf_mem {nm : Str} {m : Int} : ∀ {ks : List (Str × Int)}, (ks.map (·.1)).Nodup → (nm, m) ∈ ks → manyOf ks nm = m
  | [], _, h => by cases h
  | p :: ks, hd, h => by
    rw [List.map_cons, List.nodup_cons] at hd
    rw [manyOf]
    rcases List.mem_cons.mp h with rfl | h
    · simp
    · rw [if_neg, manyOf_mem hd.2 h]
      intro e
      exact hd.1 (by rw [e]; exact List.mem_map.mpr ⟨_, h, rfl⟩)
theorem manyOf_in {nm : Str} : ∀ {ks : List (Str × Int)}, manyOf ks nm ≠ -1 → (nm, manyOf ks nm) ∈ ks
  | [], h => absurd rfl h
  | p :: ks, h => by
    rw [manyOf] at h ⊢
    split
    · rename_i e; subst e; exact List.mem_cons_self
    · rename_i e
      rw [if_neg e] at h
      exact List.mem_cons_of_mem _ (manyOf_in h)
theorem kinds_names (m : Int) : (kindsOf m).map (·.1) = (List.range (kMany m)).map (nameOf (m / 36)) := by
  unfold kindsOf
  rw [List.map_set]
  have h := kAt_lt m
  apply List.ext_getElem?
  intro i
  by_cases e : kAt m = i
  · subst e
    rw [List.getElem?_set_self (by simpa using h)]
    simp [h]
  · rw [List.getElem?_set_ne e]
    simp only [List.map_map, List.getElem?_map]
    rfl
theorem kinds_nodup (m : Int) : ((kindsOf m).map (·.1)).Nodup := by
  rw [kinds_names]
  have hk := kMany_le m
  refine List.pairwise_map.mpr (List.Pairwise.imp_of_mem (R := fun a b => a ≠ b) (fun {a b} ha hb hne h => hne ?_) List.nodup_range)
  exact nameOf_inj _ a b (by have := List.mem_range.mp ha; omega) (by have := List.mem_range.mp hb; omega) h
section
variable {su : Subs} {Ps : Nat → Option Df}
theorem many_of_ok (h54 : Ps 54 = some f_many_of) (n : Nat) (ks : List (Str × Int)) (nm : Str) : runD su Ps (n + 1) 54 [.tup (ks.map kD), .str nm] = .ok (.int (manyOf ks nm)) [] := by
  refine (ret_of h54 rfl rfl ?_).eq
  simp (disch := first | assumption | omega | (simp <;> omega) | fail) [f_many_of, startR]
  refine w_for_l (fun pre ρ => (∀ post, ks = pre ++ post → manyOf ks nm = manyOf post nm) ∧ ∃ s s', ρ = [.fz (.tup (ks.map kD)), .fz (.str nm), s, s']) ⟨fun _ e => by rw [e]; rfl, _, _, rfl⟩ (fun pre p post ρ e hI => ?_) (fun ρ hI => ?_)
  · obtain ⟨h, s, s', rfl⟩ := hI
    have h2 := h _ e
    rw [manyOf] at h2
    by_cases z : p.1 = nm
    · rw [if_pos z] at h2
      simp [forB, kD, z, h2]
    · rw [if_neg z] at h2
      simp [forB, kD, z]
      intro q eq
      have : q = post := by
        rw [e] at eq
        simpa using eq.symm
      rw [this]; exact h2
  · obtain ⟨h, s, s', rfl⟩ := hI
    have := h [] (by simp)
    rw [manyOf] at this
    simp [this]
end
end Bk

/-! R1: signs, names, words of a text. -/
namespace Bk
open PySem
def isL (c : Nat) : Bool := decide (97 ≤ c) && decide (c < 123)
@[simp] theorem items_str (s : Str) : itemsOf (.str s) = .ok (s.cps.toList.map fun c => D.str ⟨#[c]⟩) := (rfl)
abbrev abc : Str := Str.ofString "abcdefghijklmnopqrstuvwxyz"
theorem abc_cps : abc.cps.toList = (List.range 26).map (97 + ·) := by decide
theorem abc_mem (c : Nat) : decide (c ∈ abc.cps.toList) = isL c := by
  rw [abc_cps]
  unfold isL
  by_cases h : 97 ≤ c ∧ c < 123
  · rw [decide_eq_true h.1, decide_eq_true h.2, Bool.and_self, decide_eq_true]
    exact List.mem_map.mpr ⟨c - 97, List.mem_range.mpr (by omega), by omega⟩
  · have : c ∉ (List.range 26).map (97 + ·) := fun z => by
      obtain ⟨i, hi, e⟩ := List.mem_map.mp z
      have := List.mem_range.mp hi
      omega
    rw [decide_eq_false this]
    by_cases h1 : 97 ≤ c
    · have h2 : ¬ c < 123 := fun z => h ⟨h1, z⟩
      rw [decide_eq_false h2, Bool.and_false]
    · rw [decide_eq_false h1, Bool.false_and]
@[simp] theorem pr_in_abc (c : Nat) : evPrim .inn [.str ⟨#[c]⟩, .str (Str.ofString "abcdefghijklmnopqrstuvwxyz")] = .ok (.bl (isL c)) := by
  show R.ok (D.bl (decide (c ∈ abc.cps.toList))) = _
  rw [abc_mem]
@[simp] theorem pr_notin_abc (c : Nat) : evPrim .notin [.str ⟨#[c]⟩, .str (Str.ofString "abcdefghijklmnopqrstuvwxyz")] = .ok (.bl (!isL c)) := by
  show notR (evPrim .inn [.str ⟨#[c]⟩, .str (Str.ofString "abcdefghijklmnopqrstuvwxyz")]) = _
  rw [pr_in_abc]; rfl
/-- is a text a name -/
def isWd (s : Str) : Bool := s.cps.toList.all isL && (decide (1 ≤ s.length) && decide (s.length ≤ 8))
def lastL : Option Nat → Bool
  | some l => isL l
  | none => false
def lastD : Option Nat → D
  | some l => .str ⟨#[l]⟩
  | none => .str (Str.ofString "")
theorem one_ne (l : Nat) : ¬ (⟨#[l]⟩ : Str) = Str.ofString "" := fun z => by
  have := congrArg Str.length z
  have e1 : (Str.ofString "").length = 0 := rfl
  have e2 : (⟨#[l]⟩ : Str).length = 1 := rfl
  omega
/-- one sign more: the words so far, and the last sign -/
def wStep (w : List (List Nat) × Option Nat) (c : Nat) : List (List Nat) × Option Nat :=
  (if isL c && lastL w.2 then w.1.dropLast ++ [w.1.getLastD [] ++ [c]] else if c = 32 then w.1 else w.1 ++ [[c]], some c)
def wordsL (cs : List Nat) : List (List Nat) := (cs.foldl wStep ([], none)).1
def stL (l : List Nat) : D := .str ⟨l.toArray⟩
section
variable {su : Subs} {Ps : Nat → Option Df}
theorem is_name_ok (h78 : Ps 78 = some f_is_name) (n : Nat) (s : Str) (hs : s.length ≤ 16777216) : runD su Ps (n + 1) 78 [.str s] = .ok (.bl (isWd s)) [] := by
  refine (ret_of h78 rfl rfl ?_).eq
  simp (disch := first | assumption | omega | (simp <;> omega) | fail) [f_is_name, startR]
  refine w_for_l (fun pre ρ => pre.all isL = true ∧ ∃ s1, ρ = [.fz (.str s), s1]) ⟨rfl, _, rfl⟩ (fun pre c post ρ e hI => ?_) (fun ρ hI => ?_)
  · obtain ⟨h, s1, rfl⟩ := hI
    cases hc : isL c with
    | true =>
      simp (disch := first | assumption | omega | (simp <;> omega) | fail) [forB, hc]
      simpa using h
    | false =>
      simp (disch := first | assumption | omega | (simp <;> omega) | fail) [forB, hc]
      unfold isWd
      rw [e]
      simp [hc]
  · obtain ⟨h, s1, rfl⟩ := hI
    by_cases h1 : 1 ≤ s.length
    · have h2 : (1 : Int) ≤ (s.length : Int) := by omega
      have h3 : decide ((s.length : Int) ≤ 8) = decide (s.length ≤ 8) := decide_eq_decide.mpr (by omega)
      simp (disch := first | assumption | omega | (simp <;> omega) | fail) [h2, isWd, h, h1, h3]
    · have h2 : ¬ (1 : Int) ≤ (s.length : Int) := by omega
      simp (disch := first | assumption | omega | (simp <;> omega) | fail) [h2, isWd, h, h1]
theorem words_of_ok (h79 : Ps 79 = some f_words_of) (n : Nat) (s : Str) (hs : s.length ≤ 1000000) : runD su Ps (n + 1) 79 [.str s] = .ok (.lst ((wordsL s.cps.toList).map stL)) [] := by
  refine (ret_of h79 rfl rfl ?_).eq
  simp (disch := first | assumption | omega | (simp <;> omega) | fail) [f_words_of, startR]
  obtain ⟨J, hJ⟩ : ∃ J : List Nat → Rho → Prop, ∀ pre ρ, J pre ρ ↔ ∃ (w : List (List Nat) × Option Nat) (s3 : Sl), w = pre.foldl wStep ([], none) ∧ (∀ l, w.2 = some l → isL l = true → w.1 ≠ []) ∧ w.1.length ≤ pre.length ∧ (∀ x ∈ w.1, x.length ≤ pre.length) ∧
    ρ = [.fz (.str s), .own (.lst (w.1.map stL)), .fz (lastD w.2), s3] := ⟨_, fun _ _ => Iff.rfl⟩
  refine w_for_l J ((hJ _ _).mpr ⟨([], none), _, rfl, (fun l h => by cases h), Nat.le_refl _, (fun x h => nomatch h), rfl⟩) (fun pre c post ρ e hI => ?_) (fun ρ hI => ?_)
  · obtain ⟨w, s3, hw, hne, hl, hx, rfl⟩ := (hJ _ _).mp hI
    have hpl : pre.length < s.length := by
      have := congrArg List.length e
      rw [List.length_append, List.length_cons] at this
      have h2 : s.cps.toList.length = s.length := rfl
      omega
    have hfold : (pre ++ [c]).foldl wStep ([], none) = wStep w c := by rw [List.foldl_append, ← hw]; rfl
    obtain ⟨ws, last⟩ := w
    simp only at hne hl hx
    by_cases hc : isL c = true ∧ ∃ l, last = some l ∧ isL l = true
    · obtain ⟨c1, l, rfl, c2⟩ := hc
      have hn := hne l rfl c2
      obtain ⟨A, b, rfl⟩ : ∃ A b, ws = A ++ [b] := ⟨ws.dropLast, ws.getLast hn, (List.dropLast_concat_getLast hn).symm⟩
      have hst : wStep (A ++ [b], some l) c = (A ++ [b ++ [c]], some c) := by simp [wStep, lastL, c1, c2]
      have hl1 := one_ne l
      have il : ((A.map stL ++ [stL b]).length : Int) - 1 = (A.length : Nat) := by rw [List.length_append, List.length_map]; simp
      have X : evPrim .idx [.lst (A.map stL ++ [stL b]), .int (A.length : Nat)] = .ok (stL b) := idxl_get rfl (by rw [List.getElem?_append_right (by simp)]; simp)
      have bl := hx b (by simp)
      have ad : evPrim .add [stL b, .str ⟨#[c]⟩] = .ok (stL (b ++ [c])) := by
        unfold stL
        rw [pr_add_str _ _ (by rw [len_mk, show (⟨#[c]⟩ : Str).length = 1 from rfl]; omega)]
        congr 2
        exact str_ext (by show (_ ++ _ : Array Nat).toList = _; simp)
      have se : evSet (.lst (A.map stL ++ [stL b])) (.int (A.length : Nat)) (stL (b ++ [c])) = .ok (.lst (A.map stL ++ [stL (b ++ [c])])) := by
        rw [se_lst (by omega) (by rw [Int.toNat_natCast]; simp)]
        congr 2
        rw [Int.toNat_natCast]
        rw [List.set_append_right _ _ (by simp)]
        simp
      refine w_turn_mono (J' := fun ρ => ρ = [.fz (.str s), .own (.lst (A.map stL ++ [stL (b ++ [c])])), .fz (.str ⟨#[c]⟩), .fz (.str ⟨#[c]⟩)]) (fun ρ h => (hJ _ _).mpr ⟨(A ++ [b ++ [c]], some c), .fz (.str ⟨#[c]⟩), by rw [hfold, hst], fun l h1 _ => by simp, by simp only [List.length_append, List.length_cons, List.length_nil] at hl ⊢; omega, fun x h1 => ?_, by rw [h]; simp [lastD]⟩) ?_
      · rw [List.length_append]
        rcases List.mem_append.mp h1 with h1 | h1
        · have := hx x (List.mem_append_left _ h1); simp only [List.length_cons, List.length_nil]; omega
        · rw [List.mem_singleton.mp h1, List.length_append]; simp only [List.length_cons, List.length_nil]; omega
      · have ml : (A.map stL ++ [stL b]) = (A ++ [b]).map stL := by simp
        rw [ml] at il X se
        simp (disch := first | assumption | omega | (simp <;> omega) | fail) [forB, c1, c2, hl1, lastD]
        simp only [List.map_append, List.map_cons, List.map_nil] at il X se
        simp (disch := first | assumption | omega | (simp <;> omega) | fail) [il, X, ad, se]
    · have hcond : (isL c && lastL last) = false := by
        cases h1 : isL c with
        | false => rfl
        | true =>
          cases last with
          | none => rfl
          | some l =>
            cases h2 : isL l with
            | false => simp [lastL, h2]
            | true => exact absurd ⟨h1, l, rfl, h2⟩ hc
      have hml : (ws.map stL).length < 16777216 := by rw [List.length_map]; omega
      have c32 : ((⟨#[c]⟩ : Str) = Str.ofString " ") ↔ c = 32 := by
        constructor
        · intro z
          have h0 : (Str.ofString " ").cps = #[32] := by decide
          have := congrArg Str.cps z
          rw [h0] at this
          simpa using this
        · rintro rfl; decide
      have fin : ∀ ws2, ws2 = (wStep (ws, last) c).1 → ws2.length ≤ ws.length + 1 → (∀ x ∈ ws2, x ∈ ws ∨ x = [c]) → (isL c = true → ws2 ≠ []) → ∀ ρ, ρ = [.fz (.str s), .own (.lst (ws2.map stL)), .fz (.str ⟨#[c]⟩), .fz (.str ⟨#[c]⟩)] → J (pre ++ [c]) ρ := fun ws2 h1 h2 h3 h4 ρ h => (hJ _ _).mpr ⟨(ws2, some c), .fz (.str ⟨#[c]⟩), by rw [hfold, h1]; rfl, fun l hl hll => by cases hl; exact h4 hll, by simp only [List.length_append, List.length_cons, List.length_nil]; omega, fun x hxm => by
        rw [List.length_append]
        rcases h3 x hxm with h | h
        · have := hx x h; omega
        · rw [h]; simp only [List.length_cons, List.length_nil]; omega, by rw [h]; rfl⟩
      by_cases h32 : c = 32
      · have hc0 : isL c = false := by rw [h32]; rfl
        have hw2 : (wStep (ws, last) c).1 = ws := by
          show (if (isL c && lastL last) = true then _ else if c = 32 then ws else _) = ws
          rw [hcond, if_neg (by simp), if_pos h32]
        have hsp : (⟨#[c]⟩ : Str) = Str.ofString " " := c32.mpr h32
        refine w_turn_mono (fin ws hw2.symm (by omega) (fun x h => .inl h) (fun h => by rw [hc0] at h; cases h)) ?_
        simp (disch := first | assumption | omega | (simp <;> omega) | fail) [forB, hc0]
        rw [if_pos hsp]
        simp
      · have hw2 : (wStep (ws, last) c).1 = ws ++ [[c]] := by
          unfold wStep
          simp only [hcond, h32, if_false]
          simp
        have hsp : ¬ (⟨#[c]⟩ : Str) = Str.ofString " " := fun z => h32 (c32.mp z)
        refine w_turn_mono (fin (ws ++ [[c]]) hw2.symm (by simp) (fun x h => by simpa using h) (fun _ => by simp)) ?_
        cases h1 : isL c with
        | false =>
          simp (disch := first | assumption | omega | (simp <;> omega) | fail) [forB, h1]
          rw [if_neg hsp]
          simp [stL]
        | true =>
          cases last with
          | none =>
            simp (disch := first | assumption | omega | (simp <;> omega) | fail) [forB, h1, lastD, hsp]
            simp [stL]
          | some l =>
            have h2 : isL l = false := by simpa [h1, lastL] using hcond
            have hl1 := one_ne l
            simp (disch := first | assumption | omega | (simp <;> omega) | fail) [forB, h1, h2, hl1, lastD, hsp]
            simp [stL]
  · obtain ⟨w, s3, hw, hne, hl, hx, rfl⟩ := (hJ _ _).mp hI
    simp (disch := first | assumption | omega | (simp <;> omega) | fail) []
    unfold wordsL
    rw [← hw]
end
end Bk

/-! R2: trees read from words. -/
namespace Bk
open PySem
/-- the word at a place -/
def wAt (ws : List Str) (i : Nat) : Str := ws.getD i (Str.ofString "")
def sgn (b : Bool) : Str := if b then Str.ofString "(" else Str.ofString ","
/-- so many trees, each behind a sign -/
def lpK (ws : List Str) (f : Nat → Option (Tr × Nat)) : Nat → Bool → Nat → Option (List Tr × Nat)
  | 0, _, a => some ([], a)
  | m + 1, b, a => if wAt ws a = sgn b then (match f (a + 1) with
      | some (t, a2) => (match lpK ws f m false a2 with | some (ts, e) => some (t :: ts, e) | none => none)
      | none => none) else none
def kdK (ws : List Str) (f : Nat → Option (Tr × Nat)) (m a : Nat) : Option (List Tr × Nat) := match lpK ws f m true a with
  | some (ts, e) => if 0 < m then (if wAt ws e = Str.ofString ")" then some (ts, e + 1) else none) else some (ts, e)
  | none => none
/-- the tree at a place, at most so tall -/
def trK (ks : List (Str × Int)) (ws : List Str) : Nat → Nat → Option (Tr × Nat)
  | 0, _ => none
  | d + 1, a => if isWd (wAt ws a) = true ∧ 0 ≤ manyOf ks (wAt ws a) then (match kdK ws (trK ks ws d) (manyOf ks (wAt ws a)).toNat (a + 1) with
      | some (us, e) => some (.mk (wAt ws a) us, e)
      | none => none) else none
def rsK : Option (Tr × Nat) → Rs
  | some (t, e) => .ok (.tup [t.d, .int (e : Nat)]) []
  | none => .exc 2 []
def rsL : Option (List Tr × Nat) → Rs
  | some (ts, e) => .ok (.tup [.tup (ts.map Tr.d), .int (e : Nat)]) []
  | none => .exc 2 []
theorem lpK_bound {ws : List Str} {f : Nat → Option (Tr × Nat)} (hf : ∀ a t e, f a = some (t, e) → e ≤ ws.length) : ∀ (m : Nat) (b : Bool) (a : Nat) (ts : List Tr) (e : Nat), a ≤ ws.length → lpK ws f m b a = some (ts, e) → e ≤ ws.length ∧ ts.length = m
  | 0, b, a, ts, e, ha, h => by
    rw [lpK] at h
    cases h
    exact ⟨ha, rfl⟩
  | m + 1, b, a, ts, e, ha, h => by
    rw [lpK] at h
    split at h
    · split at h
      · rename_i t a2 hfa
        split at h
        · rename_i ts2 e2 hl
          cases h
          have := lpK_bound hf m false a2 ts2 e (hf _ _ _ hfa) hl
          exact ⟨this.1, by simp [this.2]⟩
        · cases h
      · cases h
    · cases h
theorem wAt_lt {ws : List Str} {i : Nat} {s : Str} (h : wAt ws i = s) (hs : s ≠ Str.ofString "") : i < ws.length := by
  by_cases hi : i < ws.length
  · exact hi
  · exfalso
    unfold wAt at h
    rw [List.getD_eq_getElem?_getD, List.getElem?_eq_none (by omega)] at h
    exact hs h.symm
theorem trK_bound {ks : List (Str × Int)} {ws : List Str} : ∀ (d a : Nat) (t : Tr) (e : Nat), trK ks ws d a = some (t, e) → e ≤ ws.length
  | 0, a, t, e, h => by cases h
  | d + 1, a, t, e, h => by
    rw [trK] at h
    split at h
    · rename_i hc
      have ha : a < ws.length := wAt_lt (s := wAt ws a) rfl (fun z => by
        have := hc.1
        rw [z] at this
        revert this; decide)
      split at h
      · rename_i us e2 hk
        cases h
        unfold kdK at hk
        split at hk
        · rename_i ts e3 hl
          have b := (lpK_bound (fun a t e h => trK_bound d a t e h) _ _ _ _ _ (by omega) hl).1
          split at hk
          · split at hk
            · rename_i hp
              cases hk
              have := wAt_lt hp (by decide)
              omega
            · cases hk
          · cases hk; exact b
        · cases hk
      · cases h
    · cases h
section
variable {su : Subs} {Ps : Nat → Option Df}
theorem word_at_ok (h80 : Ps 80 = some f_word_at) (n : Nat) (ws : List Str) (a : Nat) : runD su Ps (n + 1) 80 [.lst (ws.map D.str), .int a] = .ok (.str (wAt ws a)) [] := by
  rw [runD_eq h80 rfl]
  unfold wAt
  by_cases h : a < ws.length
  · have h2 : (a : Int) < (ws.length : Int) := by omega
    have X : evPrim .idx [.lst (ws.map D.str), .int (a : Nat)] = .ok (.str ws[a]) := idxl_get rfl (by rw [List.getElem?_map, List.getElem?_eq_getElem h]; rfl)
    simp (disch := first | assumption | omega | (simp <;> omega) | fail) [f_word_at, startR, h, X]
  · have h2 : ¬ (a : Int) < (ws.length : Int) := by omega
    have h3 : ws.getD a (Str.ofString "") = Str.ofString "" := by rw [List.getD_eq_getElem?_getD, List.getElem?_eq_none (by omega)]; rfl
    rw [h3]
    simp (disch := first | assumption | omega | (simp <;> omega) | fail) [f_word_at, startR, h]
theorem kids_at_ok (h80 : Ps 80 = some f_word_at) (h81 : Ps 81 = some f_kids_at) (n : Nat) (ks : List (Str × Int)) (ws : List Str) (hws : ∀ w ∈ ws, w.length ≤ 16777216) (d : Nat)
    (ih : ∀ a, runD su Ps n 82 [.tup (ks.map kD), .lst (ws.map D.str), .int (a : Nat), .int d] = rsK (trK ks ws d a)) (m : Nat) (hm : m ≤ 100) (a : Nat) (h1 : 1 ≤ n) :
    runD su Ps (n + 1) 81 [.tup (ks.map kD), .lst (ws.map D.str), .int (a : Nat), .int (m : Nat), .int ((d : Int) + 1)] = rsL (kdK ws (trK ks ws d) m a) := by
  obtain ⟨n', rfl⟩ : ∃ n', n = n' + 1 := ⟨n - 1, by omega⟩
  have wa := word_at_ok (su := su) h80 n' ws
  suffices hw : RetX (runD su Ps (n' + 1 + 1) 81 [.tup (ks.map kD), .lst (ws.map D.str), .int (a : Nat), .int (m : Nat), .int ((d : Int) + 1)]) (fun x => ∃ ts e, kdK ws (trK ks ws d) m a = some (ts, e) ∧ x = .tup [.tup (ts.map Tr.d), .int (e : Nat)]) (fun c => c = 2 ∧ kdK ws (trK ks ws d) m a = none) by
    rcases hw with ⟨x, e, ts, z, h, rfl⟩ | ⟨c, e, rfl, h⟩
    · rw [e, h]; rfl
    · rw [e, h]; rfl
  refine retX_of h81 rfl rfl ?_
  simp (disch := first | assumption | omega | (simp <;> omega) | fail) [f_kids_at, startR]
  obtain ⟨KR, hKR⟩ : ∃ x, x = kdK ws (trK ks ws d) m a := ⟨_, rfl⟩
  rw [← hKR]
  refine w_for_r (fun i ρ => ∃ (us : List Tr) (a2 : Nat) (s6 s7 : Sl), us.length = i ∧
    KR = (match lpK ws (trK ks ws d) (m - i) (decide (i = 0)) a2 with | some (ts, e) => (if 0 < m then (if wAt ws e = Str.ofString ")" then some (us ++ ts, e + 1) else none) else some (us ++ ts, e)) | none => none) ∧
    ρ = [.fz (.tup (ks.map kD)), .fz (.lst (ws.map D.str)), .fz (.int (a2 : Nat)), .fz (.int (m : Nat)), .fz (.int ((d : Int) + 1)), .fz (.tup (us.map Tr.d)), s6, s7]) ⟨[], a, _, _, rfl, by rw [hKR]; simp [kdK], rfl⟩ (fun i ρ hi hI => ?_) (fun ρ hI => ?_)
  · obtain ⟨us, a2, s6, s7, hl, hK, rfl⟩ := hI
    have hi' : i < m := by omega
    obtain ⟨r, hr⟩ : ∃ r, m - i = r + 1 := ⟨m - i - 1, by omega⟩
    rw [hr, lpK] at hK
    have sg : evPrim .idx [.lst [.str (Str.ofString "("), .str (Str.ofString ",")], .int (if 0 < i then 1 else 0)] = .ok (.str (sgn (decide (i = 0)))) := by
      unfold sgn
      by_cases z : i = 0
      · subst z; exact idxl_get (j := 0) rfl rfl
      · rw [if_pos (by omega), if_neg (by simpa using z)]; exact idxl_get (j := 1) rfl rfl
    obtain ⟨SG, hSG⟩ : ∃ x, x = sgn (decide (i = 0)) := ⟨_, rfl⟩
    rw [← hSG] at hK sg
    by_cases c : wAt ws a2 = SG
    · rw [if_pos c] at hK
      have iha := ih (a2 + 1)
      rw [show ((a2 + 1 : Nat) : Int) = (a2 : Int) + 1 by omega] at iha
      cases ht : trK ks ws d (a2 + 1) with
      | none =>
        rw [ht] at hK iha
        simp only [rsK] at iha
        simp only at hK
        simp (disch := first | assumption | omega | (simp <;> omega) | fail) [forB, wa, sg, c, iha]
        exact hK
      | some p =>
        obtain ⟨t, a3⟩ := p
        rw [ht] at hK iha
        simp only [rsK] at iha
        simp only at hK
        have hlm : (us.map Tr.d).length ≤ 100 := by rw [List.length_map]; omega
        refine w_turn_mono (J' := fun ρ => ∃ s6 s7, ρ = [.fz (.tup (ks.map kD)), .fz (.lst (ws.map D.str)), .fz (.int (a3 : Nat)), .fz (.int (m : Nat)), .fz (.int ((d : Int) + 1)), .fz (.tup (us.map Tr.d ++ [t.d])), s6, s7]) (fun ρ ⟨s6, s7, e⟩ => ⟨us ++ [t], a3, s6, s7, by simp [hl], ?_, by rw [e]; simp⟩) ?_
        · rw [hK, show m - (i + 1) = r by omega, show decide (i + 1 = 0) = false by simp]
          cases lpK ws (trK ks ws d) r false a3 with
          | none => rfl
          | some q => simp
        · simp (disch := first | assumption | omega | (simp <;> omega) | fail) [forB, wa, sg, c, iha]
    · rw [if_neg c] at hK
      simp only at hK
      simp (disch := first | assumption | omega | (simp <;> omega) | fail) [forB, wa, sg, c]
      exact hK
  · obtain ⟨us, a2, s6, s7, hl, hK, rfl⟩ := hI
    have e0 : m - us.length = 0 := by omega
    rw [hl] at e0
    rw [e0, lpK] at hK
    simp only [List.append_nil] at hK
    by_cases hm0 : 0 < m
    · rw [if_pos hm0] at hK
      by_cases c : wAt ws a2 = Str.ofString ")"
      · rw [if_pos c] at hK
        have hmi : (0 : Int) < (m : Int) := by omega
        simp (disch := first | assumption | omega | (simp <;> omega) | fail) [wa, c, hm0]
        exact ⟨us, a2 + 1, hK, by simp⟩
      · rw [if_neg c] at hK
        simp (disch := first | assumption | omega | (simp <;> omega) | fail) [wa, c, hm0]
        exact hK
    · rw [if_neg hm0] at hK
      have : m = 0 := by omega
      simp (disch := first | assumption | omega | (simp <;> omega) | fail) [this]
      exact ⟨us, a2, hK, by simp⟩
theorem tree_at_ok (h54 : Ps 54 = some f_many_of) (h78 : Ps 78 = some f_is_name) (h80 : Ps 80 = some f_word_at) (h81 : Ps 81 = some f_kids_at) (h82 : Ps 82 = some f_tree_at) (ks : List (Str × Int)) (h3 : ∀ p ∈ ks, p.2 ≤ 3) (ws : List Str) (hws : ∀ w ∈ ws, w.length ≤ 16777216) : ∀ (d n a : Nat), 2 * d + 2 ≤ n →
    runD su Ps n 82 [.tup (ks.map kD), .lst (ws.map D.str), .int (a : Nat), .int d] = rsK (trK ks ws d a)
  | d, 0, a, h => by omega
  | d, 1, a, h => by omega
  | d, n + 2, a, h => by
    have wa := word_at_ok (su := su) h80 n ws a
    have mo := many_of_ok (su := su) h54 n ks (wAt ws a)
    have wl : (wAt ws a).length ≤ 16777216 := by
      unfold wAt
      rw [List.getD_eq_getElem?_getD]
      cases e : ws[a]? with
      | none => exact (by decide : (Str.ofString "").length ≤ 16777216)
      | some w => exact hws w (List.mem_of_getElem? e)
    have nmk := is_name_ok (su := su) h78 n (wAt ws a) wl
    rw [runD_eq h82 rfl]
    cases d with
    | zero =>
      rw [trK]
      simp (disch := first | assumption | omega | (simp <;> omega) | fail) [f_tree_at, startR, wa, mo, rsK]
    | succ d =>
      rw [trK]
      have hd : ¬ ((d : Int) + 1 = 0) := by omega
      by_cases c1 : isWd (wAt ws a) = true
      · by_cases c2 : 0 ≤ manyOf ks (wAt ws a)
        · rw [if_pos ⟨c1, c2⟩]
          have hm3 : manyOf ks (wAt ws a) ≤ 3 := h3 _ (manyOf_in (by omega))
          have kk := kids_at_ok (su := su) h80 h81 n ks ws hws d (fun a => tree_at_ok h54 h78 h80 h81 h82 ks h3 ws hws d n a (by omega)) (manyOf ks (wAt ws a)).toNat (by omega) (a + 1) (by omega)
          rw [Int.toNat_of_nonneg c2, show ((a + 1 : Nat) : Int) = (a : Int) + 1 by omega] at kk
          have c3 : ¬ manyOf ks (wAt ws a) < 0 := by omega
          cases hk : kdK ws (trK ks ws d) (manyOf ks (wAt ws a)).toNat (a + 1) with
          | none =>
            rw [hk] at kk
            simp only [rsL] at kk
            simp (disch := first | assumption | omega | (simp <;> omega) | fail) [f_tree_at, startR, wa, mo, nmk, hd, c1, c3, kk, rsK]
          | some p =>
            obtain ⟨us, e⟩ := p
            rw [hk] at kk
            simp only [rsL] at kk
            have hul : us.length ≤ 3 := by
              unfold kdK at hk
              split at hk
              · rename_i ts e3 hl
                have := (lpK_bound (fun a t e h => trK_bound d a t e h) _ _ _ _ _ (by
                  have := wAt_lt (ws := ws) (i := a) (s := wAt ws a) rfl (fun z => by
                    rw [z] at c1
                    revert c1; decide)
                  omega) hl).2
                split at hk
                · split at hk
                  · cases hk; omega
                  · cases hk
                · cases hk; omega
              · cases hk
            have hlm : (us.map Tr.d).length ≤ 3 := by rw [List.length_map]; exact hul
            simp (disch := first | assumption | omega | (simp <;> omega) | fail) [f_tree_at, startR, wa, mo, nmk, hd, c1, c3, kk, rsK, Tr.d, Tr.dL_map]
        · rw [if_neg (fun z => c2 z.2)]
          have c3 : manyOf ks (wAt ws a) < 0 := by omega
          simp (disch := first | assumption | omega | (simp <;> omega) | fail) [f_tree_at, startR, wa, mo, nmk, hd, c1, c3, rsK]
      · rw [if_neg (fun z => c1 z.1)]
        simp (disch := first | assumption | omega | (simp <;> omega) | fail) [f_tree_at, startR, wa, mo, nmk, hd, c1, rsK]
end
end Bk

/-! R3: a tree's words; they are read. -/
namespace Bk
open PySem
mutual
/-- the words that write a tree -/
def Tr.toks : Tr → List Str
  | .mk nm us => nm :: (if us = [] then [] else Tr.lpT true us ++ [Str.ofString ")"])
def Tr.lpT : Bool → List Tr → List Str
  | _, [] => []
  | b, u :: us => sgn b :: (u.toks ++ Tr.lpT false us)
end
/-- the words from a place on begin so -/
def Seg (ws : List Str) (a : Nat) (l : List Str) : Prop := ∃ rest, ws.drop a = l ++ rest
theorem Seg.head {ws : List Str} {a : Nat} {x : Str} {l : List Str} (h : Seg ws a (x :: l)) : wAt ws a = x ∧ Seg ws (a + 1) l := by
  obtain ⟨rest, e⟩ := h
  have hx : ws[a]? = some x := by
    have := congrArg (fun l => l[0]?) e
    simpa using this
  refine ⟨by unfold wAt; rw [List.getD_eq_getElem?_getD, hx]; rfl, rest, ?_⟩
  have := congrArg (List.drop 1) e
  rw [List.drop_drop] at this
  simpa using this
theorem Seg.app {ws : List Str} {a : Nat} {l l2 : List Str} (h : Seg ws a (l ++ l2)) : Seg ws a l ∧ Seg ws (a + l.length) l2 := by
  obtain ⟨rest, e⟩ := h
  refine ⟨⟨l2 ++ rest, by rw [e, List.append_assoc]⟩, rest, ?_⟩
  have := congrArg (List.drop l.length) e
  rw [List.drop_drop] at this
  simpa using this
mutual
/-- each knot is of a kind that is found by its name -/
def Tr.knd (ks : List (Str × Int)) : Tr → Prop
  | .mk nm us => manyOf ks nm = us.length ∧ isWd nm = true ∧ Tr.kndL ks us
def Tr.kndL (ks : List (Str × Int)) : List Tr → Prop
  | [] => True
  | t :: ts => t.knd ks ∧ Tr.kndL ks ts
end
theorem sgn_ne (b : Bool) : sgn b ≠ Str.ofString "" := by cases b <;> decide
mutual
theorem Tr.read {ks : List (Str × Int)} {ws : List Str} : ∀ (t : Tr) (d a : Nat), t.knd ks → t.high ≤ d → Seg ws a t.toks → trK ks ws d a = some (t, a + t.toks.length)
  | .mk nm us, 0, a, _, h, _ => by rw [Tr.high] at h; omega
  | .mk nm us, d + 1, a, hk, hh, hs => by
    rw [Tr.knd] at hk
    rw [Tr.high] at hh
    rw [Tr.toks] at hs ⊢
    obtain ⟨w, hs⟩ := hs.head
    rw [trK, w, if_pos ⟨hk.2.1, by omega⟩, hk.1, Int.toNat_natCast]
    unfold kdK
    by_cases h0 : us = []
    · subst h0
      simp [lpK]
    · rw [if_neg h0] at hs ⊢
      obtain ⟨s1, s2⟩ := hs.app
      have := Tr.readL us d true (a + 1) hk.2.2 (by omega) s1
      rw [this]
      have hp := s2.head.1
      have hl : 0 < us.length := List.length_pos_iff.mpr h0
      simp only [hl, if_true, hp, List.length_cons, List.length_append, List.length_nil, Option.some.injEq, Prod.mk.injEq, true_and]
      omega
theorem Tr.readL {ks : List (Str × Int)} {ws : List Str} : ∀ (us : List Tr) (d : Nat) (b : Bool) (a : Nat), Tr.kndL ks us → Tr.highL us ≤ d → Seg ws a (Tr.lpT b us) → lpK ws (trK ks ws d) us.length b a = some (us, a + (Tr.lpT b us).length)
  | [], d, b, a, _, _, _ => by simp [lpK, Tr.lpT]
  | u :: us, d, b, a, hk, hh, hs => by
    rw [Tr.kndL] at hk
    rw [Tr.highL] at hh
    rw [Tr.lpT] at hs ⊢
    obtain ⟨w, hs⟩ := hs.head
    obtain ⟨s1, s2⟩ := hs.app
    have h1 := Tr.read u d (a + 1) hk.1 (by omega) s1
    have h2 := Tr.readL us d false (a + 1 + u.toks.length) hk.2 (by omega) s2
    rw [List.length_cons, lpK, if_pos w, h1]
    simp only [h2, List.length_cons, List.length_append, Option.some.injEq, Prod.mk.injEq, true_and]
    omega
end
/-! words of a text -/
def isLw (w : List Nat) : Bool := w.all isL
/-- no two words of letters side by side -/
def alt : Bool → List (List Nat) → Prop
  | _, [] => True
  | b, w :: ws => ((w ≠ [] ∧ isLw w = true ∧ b = false) ∨ (∃ c, w = [c] ∧ isL c = false ∧ c ≠ 32)) ∧ alt (isLw w) ws
theorem alt_mono : ∀ {ws : List (List Nat)}, alt true ws → ∀ b, alt b ws
  | [], _, b => trivial
  | w :: ws, h, b => by
    obtain ⟨h1, h2⟩ := h
    rcases h1 with ⟨_, _, h⟩ | h
    · cases h
    · exact ⟨.inr h, h2⟩
/-- words, each with blanks behind -/
def flatW (W : List (List Nat × Nat)) : List Nat := W.flatMap fun p => p.1 ++ List.replicate p.2 32
theorem fold_blanks : ∀ (n : Nat) (F : List (List Nat)) (l : Option Nat), (List.replicate n 32).foldl wStep (F, l) = (F, if n = 0 then l else some 32)
  | 0, F, l => rfl
  | n + 1, F, l => by
    rw [List.replicate_succ, List.foldl_cons]
    have : wStep (F, l) 32 = (F, some 32) := by
      have h : isL 32 = false := rfl
      simp [wStep, h]
    rw [this, fold_blanks n F (some 32)]
    simp
theorem fold_letters : ∀ (cs : List Nat) (F : List (List Nat)) (w : List Nat) (l : Nat), (∀ c ∈ cs, isL c = true) → isL l = true → ∃ l', isL l' = true ∧ cs.foldl wStep (F ++ [w], some l) = (F ++ [w ++ cs], some l')
  | [], F, w, l, _, hl => ⟨l, hl, by simp⟩
  | c :: cs, F, w, l, h, hl => by
    have hc := h c List.mem_cons_self
    obtain ⟨l', h1, h2⟩ := fold_letters cs F (w ++ [c]) c (fun x hx => h x (List.mem_cons_of_mem _ hx)) hc
    refine ⟨l', h1, ?_⟩
    rw [List.foldl_cons]
    have : wStep (F ++ [w], some l) c = (F ++ [w ++ [c]], some c) := by simp [wStep, lastL, hc, hl]
    rw [this, h2, List.append_assoc]
    rfl
theorem fold_words : ∀ (W : List (List Nat × Nat)) (F : List (List Nat)) (l : Option Nat), alt (lastL l) (W.map (·.1)) → ((flatW W).foldl wStep (F, l)).1 = F ++ W.map (·.1)
  | [], F, l, _ => by simp [flatW]
  | (w, n) :: W, F, l, h => by
    rw [List.map_cons] at h
    obtain ⟨h1, h2⟩ := h
    have e : flatW ((w, n) :: W) = w ++ (List.replicate n 32 ++ flatW W) := by simp [flatW]
    rw [e, List.foldl_append, List.foldl_append]
    have key : ∃ l', w.foldl wStep (F, l) = (F ++ [w], some l') ∧ isL l' = isLw w := by
      rcases h1 with ⟨hne, hl, hb⟩ | ⟨c, rfl, hc, h32⟩
      · cases w with
        | nil => exact absurd rfl hne
        | cons c cs =>
          have hall : ∀ x ∈ c :: cs, isL x = true := fun x hx => by
            unfold isLw at hl
            exact List.all_eq_true.mp hl x hx
          have hc := hall c List.mem_cons_self
          have h32 : c ≠ 32 := fun z => by rw [z] at hc; cases hc
          obtain ⟨l', k1, k2⟩ := fold_letters cs F [c] c (fun x hx => hall x (List.mem_cons_of_mem _ hx)) hc
          refine ⟨l', ?_, by rw [k1, hl]⟩
          rw [List.foldl_cons]
          have : wStep (F, l) c = (F ++ [[c]], some c) := by
            have hb2 : lastL (F, l).2 = false := hb
            simp [wStep, hb2, h32]
          rw [this, k2]
          rfl
      · refine ⟨c, ?_, by simp [isLw, hc]⟩
        rw [List.foldl_cons, List.foldl_nil]
        simp [wStep, hc, h32]
    obtain ⟨l', k1, k2⟩ := key
    rw [k1, fold_blanks]
    rw [fold_words W (F ++ [w]) (if n = 0 then some l' else some 32)]
    · simp
    · by_cases h0 : n = 0
      · rw [if_pos h0]
        show alt (isL l') _
        rw [k2]; exact h2
      · rw [if_neg h0]
        show alt false _
        cases hw : isLw w with
        | true => rw [hw] at h2; exact alt_mono h2 false
        | false => rw [hw] at h2; exact h2
def cpsL (ws : List Str) : List (List Nat) := ws.map fun s => s.cps.toList
theorem wd_letters {s : Str} (h : isWd s = true) : s.cps.toList ≠ [] ∧ isLw s.cps.toList = true ∧ s.length ≤ 8 := by
  unfold isWd at h
  simp only [Bool.and_eq_true, decide_eq_true_eq] at h
  refine ⟨fun z => ?_, h.1, h.2.2⟩
  have : s.length = s.cps.toList.length := rfl
  rw [z] at this
  simp at this
  omega
/-! texts -/
theorem join_cps (sep : Str) : ∀ (p : Str) (r : List Str), (Txt.join sep (p :: r)).cps.toList = p.cps.toList ++ r.flatMap fun q => sep.cps.toList ++ q.cps.toList := by
  intro p r
  show (r.foldl (fun acc q => acc ++ sep.cps ++ q.cps) p.cps).toList = _
  generalize p.cps = a
  induction r generalizing a with
  | nil => simp
  | cons q r ih => rw [List.foldl_cons, ih]; simp
end Bk

/-! W3: texts. -/
namespace Bk
open PySem
/-- max of mapped numbers -/
theorem maxOf_map {α : Type} (g : α → Nat) (gl : List α → Nat) (h0 : gl [] = 0) (hc : ∀ u us, gl (u :: us) = max (g u) (gl us)) (t : α) (ts : List α) : maxOf (g t) (ts.map fun t => (g t : Int)) = (gl (t :: ts) : Int) := by
  have mem : ∀ (us : List α) (x : α), x ∈ us → g x ≤ gl us := by
    intro us
    induction us with
    | nil => intro x h; cases h
    | cons u us ih =>
      intro x h
      rw [hc]
      rcases List.mem_cons.mp h with rfl | h
      · omega
      · have := ih x h; omega
  have up : ∀ (us : List α) (b : Int), (∀ x ∈ us, (g x : Int) ≤ b) → 0 ≤ b → ((gl us : Nat) : Int) ≤ b := by
    intro us
    induction us with
    | nil => intro b _ h; rw [h0]; simpa using h
    | cons u us ih =>
      intro b h h0
      rw [hc]
      have h1 := h u List.mem_cons_self
      have h2 := ih b (fun x hx => h x (List.mem_cons_of_mem _ hx)) h0
      omega
  have h1 : maxOf (g t) (ts.map fun t => (g t : Int)) ≤ (gl (t :: ts) : Int) := maxOf_le _ _ _ (by have := mem (t :: ts) t List.mem_cons_self; omega) fun x hx => by
    obtain ⟨u, hu, rfl⟩ := List.mem_map.mp hx
    have := mem (t :: ts) u (List.mem_cons_of_mem _ hu)
    omega
  obtain ⟨h2, h3⟩ := le_maxOf (ts.map fun t => (g t : Int)) (g t)
  have h4 := up (t :: ts) (maxOf (g t) (ts.map fun t => (g t : Int))) (fun x hx => by
    rcases List.mem_cons.mp hx with rfl | hx
    · exact h2
    · exact h3 _ (List.mem_map.mpr ⟨x, hx, rfl⟩)) (by omega)
  omega
theorem pr_maxl_map {α : Type} (g : α → Nat) (gl : List α → Nat) (h0 : gl [] = 0) (hc : ∀ u us, gl (u :: us) = max (g u) (gl us)) {us : List α} (hu : us ≠ []) : evPrim .maxl [.lst (us.map fun u => .int (g u : Nat))] = .ok (.int (gl us : Nat)) := by
  cases us with
  | nil => exact absurd rfl hu
  | cons u us =>
    have e : ((u :: us).map fun u => D.int (g u : Nat)) = (((g u : Nat) : Int) :: us.map fun u => ((g u : Nat) : Int)).map D.int := by simp
    rw [e, pr_maxl, maxOf_map g gl h0 hc u us]
theorem pr_sum_map {α : Type} (g : α → Nat) (gl : List α → Nat) (h0 : gl [] = 0) (hc : ∀ u us, gl (u :: us) = g u + gl us) (us : List α) : evPrim .sum [.lst (us.map fun u => .int (g u : Nat))] = .ok (.int (gl us : Nat)) := by
  have e : (us.map fun u => D.int (g u : Nat)) = (us.map fun u => ((g u : Nat) : Int)).map D.int := by simp
  rw [e, pr_sum]
  congr 2
  induction us with
  | nil => simp [h0]
  | cons u us ih =>
    rw [List.map_cons, List.sum_cons, ih (by simp), hc]
    omega
end Bk

/-! E12: what stands at places. -/
namespace Bk
open PySem
def Tr.kids : Tr → List Tr
  | .mk _ us => us
/-- what stands there -/
def Tr.at : Tr → List Int → Option Tr
  | t, [] => some t
  | t, k :: p => if 0 ≤ k then (match t.kids[k.toNat]? with | some u => u.at p | none => none) else none
def wD (x : List Int × Tr) : D := .tup [pD x.1, x.2.d]
mutual
def Tr.walk : Tr → List Int → List (List Int × Tr)
  | .mk nm us, p => (p, .mk nm us) :: Tr.walkL 0 us p
def Tr.walkL : Nat → List Tr → List Int → List (List Int × Tr)
  | _, [], _ => []
  | k, u :: us, p => u.walk (p ++ [(k : Int)]) ++ Tr.walkL (k + 1) us p
end
end Bk

/-! E13: knots counted, trees put, ways drawn. -/
namespace Bk
open PySem
def Tr.put : Tr → List Int → Tr → Tr
  | _, [], o => o
  | .mk nm us, k :: p, o => match us[k.toNat]? with
    | some u => .mk nm (us.set k.toNat (u.put p o))
    | none => .mk nm us
end Bk

namespace Bk
open PySem
section
variable {su : Subs} {Ps : Nat → Option Df}
theorem knots_ok (h16 : Ps 16 = some f_knots) : ∀ (n : Nat) (t : Tr), t.high ≤ n → t.many ≤ 100000 → runD su Ps n 16 [t.d] = .ok (.int t.many) []
  | 0, .mk nm ks, h, _ => by unfold Tr.high at h; omega
  | n + 1, .mk nm ks, h, hm => by
    unfold Tr.high at h
    unfold Tr.many at hm
    rw [runD_eq h16 rfl]
    have hlen := Tr.many_len ks
    have hc := ev_comp (q := ⟨su, runD su Ps n, none⟩) (elt := .call 16 [.var 1]) (it := .op (.slc true false) [.var 0, .ent (.cst (.int 1))]) (tg := .v 1) (ρ := [.fz (.tup (.str nm :: ks.map Tr.d)), .un]) ks Tr.d (fun t => .int (t.many : Nat)) (x := .tup (ks.map Tr.d)) rfl (by simp) rfl (fun t ht => by
      have ih := knots_ok h16 n t (by have := Tr.high_mem ht; omega) (by have := Tr.many_mem ht; omega)
      simp [wipeR, cmpB, ih]) (by simp [wipeR, backR]) (by show _ ≤ 16777216; omega)
    have hs := pr_sum (ks.map fun t => (t.many : Int))
    rw [Tr.manyL_sum] at hs
    obtain ⟨L, hL⟩ : ∃ L, L = ks.map (fun t => D.int (t.many : Nat)) := ⟨_, rfl⟩
    have hL2 : L = (ks.map fun t => (t.many : Int)).map D.int := by rw [hL, List.map_map]; rfl
    rw [← hL] at hc
    rw [← hL2] at hs
    simp [f_knots, startR, Tr.d, Tr.dL_map, hc, hs, Tr.many]
end
end Bk

/-! E10p: what is compared with itself. -/
namespace Bk
open PySem
theorem tsi_plain : ∀ (n : Nat) (d : D), tsi n d → d.py.plain = true ∧ d.py.depth ≤ n
  | 0, _, h => h.elim
  | n + 1, .str s, _ => ⟨rfl, Nat.zero_le _⟩
  | n + 1, .int s, _ => ⟨rfl, Nat.zero_le _⟩
  | n + 1, .tup xs, h => by
    have hall : PyData.plainAll (D.pyL xs) = true ∧ PyData.depthAll (D.pyL xs) ≤ n := by
      have h2 := h.2
      clear h
      induction xs with
      | nil => exact ⟨rfl, Nat.zero_le _⟩
      | cons x xs ih =>
        obtain ⟨a, b⟩ := tsi_plain n x (h2 x List.mem_cons_self)
        obtain ⟨c, d⟩ := ih fun y hy => h2 y (List.mem_cons_of_mem _ hy)
        constructor
        · simp only [D.pyL, PyData.plainAll, a, c, Bool.and_self]
        · simp only [D.pyL, PyData.depthAll]; omega
    refine ⟨hall.1, ?_⟩
    show PyData.depth (.tuple (D.pyL xs)) ≤ n + 1
    have := hall.2
    simp only [PyData.depth]
    omega
  | n + 1, .non, h => h.elim
  | n + 1, .bl _, h => h.elim
  | n + 1, .lst _, h => h.elim
  | n + 1, .dct _ _ _, h => h.elim
  | n + 1, .fn _, h => h.elim
  | n + 1, .obj _ _ _, h => h.elim
  | n + 1, .box _, h => h.elim
  | n + 1, .gone, h => h.elim
  | n + 1, .scr _, h => h.elim
end Bk

/-! R4: a tree's text is read; k07's pile; texts with blanks. -/
namespace Bk
open PySem
mutual
theorem Tr.toks_len : ∀ t : Tr, t.toks.length + 2 ≤ 3 * t.many
  | .mk nm us => by
    rw [Tr.toks, Tr.many]
    by_cases h : us = []
    · subst h; simp [Tr.manyL]
    · rw [if_neg h]
      have := Tr.lpT_len us true
      have h1 : 0 < us.length := List.length_pos_iff.mpr h
      simp only [List.length_cons, List.length_append, List.length_nil]
      omega
theorem Tr.lpT_len : ∀ (us : List Tr) (b : Bool), (Tr.lpT b us).length + us.length ≤ 3 * Tr.manyL us
  | [], b => by simp [Tr.lpT]
  | u :: us, b => by
    rw [Tr.lpT, Tr.manyL]
    have h1 := Tr.toks_len u
    have h2 := Tr.lpT_len us false
    simp only [List.length_cons, List.length_append]
    omega
end
mutual
theorem Tr.toks_short : ∀ t : Tr, t.fit → ∀ w ∈ t.toks, w.length ≤ 8
  | .mk nm us, h => fun w hw => by
    unfold Tr.fit at h
    rw [Tr.toks] at hw
    rcases List.mem_cons.mp hw with rfl | hw
    · exact h.1
    · split at hw
      · cases hw
      · rcases List.mem_append.mp hw with hw | hw
        · exact Tr.lpT_short us true h.2 w hw
        · rw [List.mem_singleton.mp hw]; decide
theorem Tr.lpT_short : ∀ (us : List Tr) (b : Bool), Tr.fitL us → ∀ w ∈ Tr.lpT b us, w.length ≤ 8
  | [], b, _ => fun w hw => by simp [Tr.lpT] at hw
  | u :: us, b, h => fun w hw => by
    unfold Tr.fitL at h
    rw [Tr.lpT] at hw
    rcases List.mem_cons.mp hw with rfl | hw
    · cases b <;> decide
    · rcases List.mem_append.mp hw with hw | hw
      · exact Tr.toks_short u h.1 w hw
      · exact Tr.lpT_short us false h.2 w hw
end
theorem Tr.lpT_snoc (u : Tr) : ∀ (us : List Tr) (b : Bool), Tr.lpT b (us ++ [u]) = Tr.lpT b us ++ sgn (b && us.isEmpty) :: u.toks
  | [], b => by simp [Tr.lpT]
  | v :: us, b => by
    rw [List.cons_append, Tr.lpT, Tr.lpT_snoc u us false, Tr.lpT]
    simp
def tkD (t : Tr) : D := .tup [t.d, .int t.high, .int t.many, .lst (t.toks.map D.str)]
theorem tkD0 (t : Tr) : evPrim .idx [tkD t, .int 0] = .ok t.d := pr_idx_t0 _ _
theorem tkD1 (t : Tr) : evPrim .idx [tkD t, .int 1] = .ok (.int t.high) := pr_idx_t1 _ _ _
theorem tkD2 (t : Tr) : evPrim .idx [tkD t, .int 2] = .ok (.int t.many) := pr_idx_t2 _ _ _ _
theorem tkD3 (t : Tr) : evPrim .idx [tkD t, .int 3] = .ok (.lst (t.toks.map D.str)) := pr_idx_t3 _ _ _ _ _
theorem str_back (s : Str) : (⟨s.cps.toList.toArray⟩ : Str) = s := by cases s; simp
theorem Tr.d_mk (nm : Str) (us : List Tr) : (Tr.mk nm us).d = .tup (.str nm :: us.map Tr.d) := by simp [Tr.d, Tr.dL_map]
/-- words with blanks behind, by the law's numbers -/
def blC (c : Int) (k : Nat) : Nat := ((c / 3 + (k : Int) * k) % 3).toNat
def wkC (c : Int) : Nat → List Str → List (List Nat × Nat)
  | _, [] => []
  | k, w :: ws => (w.cps.toList, blC c k) :: wkC c (k + 1) ws
section
variable {su : Subs} {Ps : Nat → Option Df}
theorem read_tree_ok (h16 : Ps 16 = some f_knots) (h54 : Ps 54 = some f_many_of) (h78 : Ps 78 = some f_is_name) (h79 : Ps 79 = some f_words_of) (h80 : Ps 80 = some f_word_at) (h81 : Ps 81 = some f_kids_at) (h82 : Ps 82 = some f_tree_at) (h83 : Ps 83 = some f_read_tree)
    {ks : List (Str × Int)} (h3 : ∀ p ∈ ks, p.2 ≤ 3) {t : Tr} (hk : t.knd ks) (hf : t.fit) (hh : t.high ≤ 30) (hm : t.many ≤ 400) {s : Str} (hs : wordsL s.cps.toList = cpsL t.toks) (hl : s.length ≤ 1000000) (n : Nat) (hn : 70 ≤ n) :
    runD su Ps (n + 1) 83 [.tup (ks.map kD), .str s] = .ok t.d [] := by
  obtain ⟨n', rfl⟩ : ∃ n', n = n' + 1 := ⟨n - 1, by omega⟩
  have w := words_of_ok (su := su) h79 n' s hl
  have e : (wordsL s.cps.toList).map stL = t.toks.map D.str := by
    rw [hs]
    unfold cpsL
    rw [List.map_map]
    exact List.map_congr_left fun x _ => by simp [stL, str_back]
  rw [e] at w
  have ta := tree_at_ok (su := su) h54 h78 h80 h81 h82 ks h3 t.toks (fun w hw => Nat.le_trans (Tr.toks_short t hf w hw) (by decide)) 30 (n' + 1) 0 (by omega)
  have rd := Tr.read (ws := t.toks) t 30 0 hk hh ⟨[], by simp⟩
  rw [rd, Nat.zero_add] at ta
  simp only [rsK] at ta
  have e0 : ((0 : Nat) : Int) = 0 := rfl
  have e30 : ((30 : Nat) : Int) = 30 := rfl
  rw [e0, e30] at ta
  have kn := knots_ok (su := su) h16 (n' + 1) t (by omega) (by omega)
  have c1 : ¬ (400 : Int) < (t.many : Int) := by omega
  rw [runD_eq h83 rfl]
  simp (disch := first | assumption | omega | (simp <;> omega) | fail) [f_read_tree, startR, w, ta, kn, c1]
theorem leaf7_ok (h86 : Ps 86 = some f_law_leaf_7) (n : Nat) (nm : Str) : runD su Ps (n + 1) 86 [.str nm] = .ok (tkD (.mk nm [])) [] := by
  rw [runD_eq h86 rfl]
  simp [f_law_leaf_7, startR, tkD, Tr.d, Tr.dL, Tr.high, Tr.highL, Tr.many, Tr.manyL, Tr.toks]
theorem comma_ok (h85 : Ps 85 = some f_law_comma) (n : Nat) (ts : List Tr) (hm : Tr.manyL ts ≤ 1000) : runD su Ps (n + 1) 85 [.lst (ts.map tkD)] = .ok (.lst (((Tr.lpT true ts).drop 1).map D.str)) [] := by
  refine (ret_of h85 rfl rfl ?_).eq
  simp (disch := first | assumption | omega | (simp <;> omega) | fail) [f_law_comma, startR]
  refine w_for_l (fun pre ρ => ∃ s, ρ = [.fz (.lst (ts.map tkD)), .own (.lst (((Tr.lpT true pre).drop 1).map D.str)), s]) ⟨_, by simp [Tr.lpT]; rfl⟩ (fun pre u post ρ e hI => ?_) (fun ρ hI => ?_)
  · obtain ⟨s, rfl⟩ := hI
    have hml : Tr.manyL pre + u.many ≤ 1000 := by
      have : ∀ a : List Tr, Tr.manyL (a ++ u :: post) = Tr.manyL a + u.many + Tr.manyL post := by
        intro a
        induction a with
        | nil => rw [List.nil_append, Tr.manyL, Tr.manyL]; omega
        | cons b a ih => rw [List.cons_append, Tr.manyL, Tr.manyL, ih]; omega
      rw [e, this] at hm
      omega
    have b1 := Tr.lpT_len pre true
    have b2 := Tr.toks_len u
    have sn : (Tr.lpT true (pre ++ [u])).drop 1 = (Tr.lpT true pre).drop 1 ++ (if pre = [] then u.toks else Str.ofString "," :: u.toks) := by
      rw [Tr.lpT_snoc]
      cases pre with
      | nil => simp [Tr.lpT]
      | cons v pre =>
        rw [Tr.lpT]
        simp [sgn]
    obtain ⟨A, hA⟩ : ∃ A, A = ((Tr.lpT true pre).drop 1).map D.str := ⟨_, rfl⟩
    obtain ⟨B, hB⟩ : ∃ B, B = u.toks.map D.str := ⟨_, rfl⟩
    have hAl : A.length ≤ 3000 := by rw [hA, List.length_map, List.length_drop]; omega
    have hBl : B.length ≤ 3000 := by rw [hB, List.length_map]; omega
    have t3 := tkD3 u
    rw [← hB] at t3
    by_cases h0 : pre = []
    · have hA0 : A = [] := by rw [hA, h0]; simp [Tr.lpT]
      have hAB : ((Tr.lpT true (pre ++ [u])).drop 1).map D.str = B := by rw [sn, if_pos h0, List.map_append, ← hA, hA0, hB]; rfl
      simp only [hAB, ← hA]
      rw [hA0]
      simp (disch := first | assumption | omega | (simp <;> omega) | fail) [forB, t3]
    · have hAp : 0 < A.length := by
        rw [hA, List.length_map, List.length_drop]
        cases pre with
        | nil => exact absurd rfl h0
        | cons v pre =>
          rw [Tr.lpT]
          have : 0 < v.toks.length := by cases v; rw [Tr.toks]; simp
          simp only [List.length_cons, List.length_append]
          omega
      have hAB : ((Tr.lpT true (pre ++ [u])).drop 1).map D.str = A ++ [.str (Str.ofString ",")] ++ B := by rw [sn, if_neg h0, List.map_append, ← hA, hB]; simp
      simp only [hAB, ← hA]
      have hA0 : A ≠ [] := List.length_pos_iff.mp hAp
      simp (disch := first | assumption | omega | (simp <;> omega) | fail) [forB, t3, hAp, hA0]
  · obtain ⟨s, rfl⟩ := hI
    simp
theorem over6_ok (h84 : Ps 84 = some f_law_over_6) (h85 : Ps 85 = some f_law_comma) (n : Nat) (nm : Str) (ts : List Tr) (h0 : ts ≠ []) (hm : Tr.manyL ts ≤ 1000) : runD su Ps (n + 2) 84 [.str nm, .lst (ts.map tkD)] = .ok (tkD (.mk nm ts)) [] := by
  have hlen := Tr.many_len ts
  have cm := comma_ok (su := su) h85 n ts hm
  have g1 := pr_maxl_map Tr.high Tr.highL rfl (fun u us => by rw [Tr.highL]) h0
  have g2 := pr_sum_map Tr.many Tr.manyL rfl (fun u us => by rw [Tr.manyL]) ts
  have f0 := fun (q : En) (ρ σ : Rho) (h : 2 < ρ.length) => comp_fld (q := q) (ρ := ρ) (σ := σ) ts tkD Tr.d 2 0 (by omega) (fun u _ => tkD0 u) h
  have f1 := fun (q : En) (ρ σ : Rho) (h : 2 < ρ.length) => comp_fld (q := q) (ρ := ρ) (σ := σ) ts tkD (fun u => .int (u.high : Nat)) 2 1 (by omega) (fun u _ => tkD1 u) h
  have f2 := fun (q : En) (ρ σ : Rho) (h : 2 < ρ.length) => comp_fld (q := q) (ρ := ρ) (σ := σ) ts tkD (fun u => .int (u.many : Nat)) 2 2 (by omega) (fun u _ => tkD2 u) h
  have tk : (Tr.mk nm ts).toks = [nm, Str.ofString "("] ++ (Tr.lpT true ts).drop 1 ++ [Str.ofString ")"] := by
    rw [Tr.toks, if_neg h0]
    cases ts with
    | nil => exact absurd rfl h0
    | cons u us => rw [Tr.lpT]; simp [sgn]
  have hl := Tr.lpT_len ts true
  have hdl : (((Tr.lpT true ts).drop 1).map D.str).length ≤ 3000 := by rw [List.length_map, List.length_drop]; omega
  have hdd : (ts.map Tr.d).length ≤ 1000 := by rw [List.length_map]; omega
  rw [runD_eq h84 rfl]
  unfold tkD
  rw [tk, Tr.d_mk, Tr.high, Tr.many]
  have hT : (([nm, Str.ofString "("] ++ (Tr.lpT true ts).drop 1 ++ [Str.ofString ")"]).map D.str) = [.str nm, .str (Str.ofString "(")] ++ ((Tr.lpT true ts).drop 1).map D.str ++ [.str (Str.ofString ")")] := by simp
  rw [hT]
  have cm' : runD su Ps (n + 1) 85 [.lst (ts.map fun t => .tup [t.d, .int t.high, .int t.many, .lst (t.toks.map D.str)])] = .ok (.lst (((Tr.lpT true ts).drop 1).map D.str)) [] := cm
  have f0' := f0
  have f1' := f1
  have f2' := f2
  unfold tkD at f0' f1' f2'
  generalize ((Tr.lpT true ts).drop 1).map D.str = C at *
  simp (disch := first | assumption | omega | (simp <;> omega) | fail) [f_law_over_6, startR, f0', f1', f2', g1, g2, cm']
end
end Bk

/-! E2s: a tree's text. -/
namespace Bk
open PySem
section
variable {su : Subs} {Ps : Nat → Option Df}
end
end Bk

namespace Bk
open PySem
section
variable {su : Subs} {Ps : Nat → Option Df}
end
end Bk

/-! R5: k07's kinds. -/
namespace Bk
open PySem
theorem nameOf_wd (b : Int) (k : Nat) : isWd (nameOf b k) = true := by
  have hw : ∀ c ∈ wordL b, isL c = true := fun c hc => by
    unfold wordL at hc
    obtain ⟨i, _, rfl⟩ := List.mem_map.mp hc
    unfold isL
    rw [decide_eq_true (by omega), decide_eq_true (by omega)]
    rfl
  have h8 := nameOf_len b k
  have hall : ∀ c ∈ (nameOf b k).cps.toList, isL c = true := by
    intro c hc
    unfold nameOf at hc
    split at hc
    · exact hw c (List.mem_of_mem_take hc)
    · have hc : c ∈ (wordL b).take (nmAt b) ++ [97 + ((restAt b (nmAt b) % 26 + k) % 26).toNat] ++ ((wordL b).drop (nmAt b + 1)).take (nmSize b - (nmAt b + 1)) := by simpa using hc
      rcases List.mem_append.mp hc with hc | hc
      · rcases List.mem_append.mp hc with hc | hc
        · exact hw c (List.mem_of_mem_take hc)
        · rw [List.mem_singleton.mp hc]
          unfold isL
          rw [decide_eq_true (by omega), decide_eq_true (by omega)]
          rfl
      · exact hw c (List.mem_of_mem_drop (List.mem_of_mem_take hc))
  have h1 : 1 ≤ (nameOf b k).length := by
    unfold nameOf
    split
    · rw [len_mk, List.length_take, wordL_len]; omega
    · rw [len_mk]; simp only [List.length_append, List.length_cons]; omega
  unfold isWd
  rw [List.all_eq_true.mpr hall, decide_eq_true h1, decide_eq_true h8]
  rfl
theorem kinds_wd (m : Int) : ∀ p ∈ kindsOf m, isWd p.1 = true := fun p hp => by
  obtain ⟨k, _, e, _⟩ := kinds_in hp
  rw [e]; exact nameOf_wd _ _
mutual
theorem Tr.kin_knd {ks : List (Str × Int)} (hn : (ks.map (·.1)).Nodup) (hw : ∀ p ∈ ks, isWd p.1 = true) : ∀ t : Tr, t.kin ks → t.knd ks
  | .mk nm us, h => by
    unfold Tr.kin at h
    rw [Tr.knd]
    exact ⟨manyOf_mem hn h.1, hw _ h.1, Tr.kinL_knd hn hw us h.2⟩
theorem Tr.kinL_knd {ks : List (Str × Int)} (hn : (ks.map (·.1)).Nodup) (hw : ∀ p ∈ ks, isWd p.1 = true) : ∀ us : List Tr, Tr.kinL ks us → Tr.kndL ks us
  | [], _ => by rw [Tr.kndL]; trivial
  | u :: us, h => by
    unfold Tr.kinL at h
    rw [Tr.kndL]
    exact ⟨Tr.kin_knd hn hw u h.1, Tr.kinL_knd hn hw us h.2⟩
end
theorem pr_notin_strs {ss : List Str} {z : Str} : evPrim .notin [.str z, .lst (ss.map D.str)] = .ok (.bl (!decide (z ∈ ss))) := by
  show notR (evIn [.str z, .lst (ss.map D.str)]) = _
  have hp : PyData.plainAll (D.pyL (ss.map D.str)) = true := by
    induction ss with
    | nil => rfl
    | cons p ks ih => simp [D.pyL, PyData.plainAll, D.py, PyData.plain, ih]
  have hx : ((D.pyL (ss.map D.str)).any fun y => PyData.eqv y (D.str z).py) = decide (z ∈ ss) := by
    clear hp
    induction ss with
    | nil => rfl
    | cons p ks ih =>
      rw [List.map_cons, D.pyL, List.any_cons, ih]
      simp only [D.py, PyData.eqv, List.mem_cons, Bool.decide_or]
      congr 1
      by_cases e : p = z
      · simp [e]
      · have e' : ¬ z = p := fun y => e y.symm
        simp [e, e']
  unfold evIn
  have h0 : (D.str z).py.plain = true := rfl
  have hd : (D.str z).py.depth ≤ 160 := by simp [D.py, PyData.depth]
  simp only [h0, hp, Bool.true_and, decide_eq_true (Nat.le_trans (Nat.min_le_right _ _) hd), okIf, if_true, hx, notR, R.bind_ok]
end Bk

/-! W2: defs that change what is lent. -/
namespace Bk
open PySem
/-- the call ends with a value, and what was lent is so then -/
def RetO (r : Rs) (Q : D → List D → Prop) : Prop := ∃ d os, r = .ok d os ∧ Q d os
def outsS (is : List Nat) (ρ : Rho) : Option Sl → R (List D)
  | some (.own d) => (outs is ρ).bind fun ds => .ok (d :: ds)
  | _ => .stuck
@[simp] theorem outs_nil (ρ : Rho) : outs [] ρ = .ok [] := (rfl)
@[simp] theorem outs_cons (i : Nat) (is : List Nat) (ρ : Rho) : outs (i :: is) ρ = outsS is ρ ρ[i]? := by
  rw [outs]
  cases ρ[i]? with
  | none => rfl
  | some s => cases s <;> rfl
@[simp] theorem outsS_own (is : List Nat) (ρ : Rho) (d : D) : outsS is ρ (some (.own d)) = (outs is ρ).bind fun ds => .ok (d :: ds) := (rfl)
def okQ (Q : List D → Prop) : R (List D) → Prop
  | .ok os => Q os
  | .stuck => False
@[simp] theorem okQ_ok (Q : List D → Prop) (os : List D) : okQ Q (.ok os) = Q os := (rfl)
def FinO (io : List Nat) (Q : D → List D → Prop) : O → Prop
  | .nx ρ => okQ (Q .non) (outs io ρ)
  | .ret d ρ => okQ (Q d) (outs io ρ)
  | _ => False
@[simp] theorem w_fino_nx (io : List Nat) (Q : D → List D → Prop) (ρ : Rho) : W (FinO io Q) (.nx ρ) = okQ (Q .non) (outs io ρ) := (rfl)
@[simp] theorem w_fino_ret (io : List Nat) (Q : D → List D → Prop) (d : D) (ρ : Rho) : W (FinO io Q) (.ret d ρ) = okQ (Q d) (outs io ρ) := (rfl)
theorem putBack_none : ∀ {es : List P} {ρ : Rho}, noLend es = true → putBack es [] ρ = .ok ρ := by
  intro es
  induction es with
  | nil => intro ρ _; rfl
  | cons e es ih =>
    intro ρ h
    cases e <;> first | (simp [noLend] at h; done) | (simp only [noLend] at h; simp only [putBack]; exact ih h)
/-- one's own lent as the first argument -/
@[simp] theorem callE_io (i : Nat) (es : List P) (ρ : Rho) (d o : D) (h : noLend es = true) : callE (.io ⟨i, none⟩ :: es) ρ (.ok d [o]) = .ok d (ρ.set i (.own o)) := by
  simp only [callE, putBack, putBack_none h, R.bind_ok, put_eq, R.at_ok, Ev.bind_ok]
end Bk

/-! Q1: the cells, draws and kinds of the laws on books. -/
namespace Bk
open PySem
theorem pr_slc_sfrom {s : Str} {i : Nat} (h : s.length ≤ 16777216) : evPrim (.slc true false) [.str s, .int i] = .ok (.str ⟨(s.cps.toList.drop i).toArray⟩) := by
  show okIf (decide (s.length ≤ sizeLine)) (.str (L2.cutS s (some i) none)) = _
  rw [decide_eq_true (show s.length ≤ sizeLine from h)]
  unfold L2.cutS
  rw [show HT.sIx s.length 0 (some (i : Int)) = min i s.length from HT.sIx_nat _ _ _, HT.sIx_none]
  show R.ok (D.str ⟨((s.cps.toList.drop (min i s.length)).take (s.length - min i s.length)).toArray⟩) = _
  have hl : s.cps.toList.length = s.length := rfl
  by_cases hi : i ≤ s.length
  · rw [Nat.min_eq_left hi, List.take_of_length_le (by rw [List.length_drop, hl]; exact Nat.le_refl _)]
  · rw [Nat.min_eq_right (by omega), List.drop_eq_nil_of_le (show s.cps.toList.length ≤ s.length from Nat.le_refl _), List.drop_eq_nil_of_le (by omega)]
    simp
/-- the letters that tell names apart -/
def moreL (l4 : List Nat) : List Nat := l4 ++ [97, 101, 105, 111]
def stemL : List Nat := [103, 117, 109, 108, 101, 97, 102, 115]
def nm2 (b : Bool) (l4 : List Nat) (st a : Nat) (p : Nat) : Str :=
  if b then ⟨(List.replicate (1 + p) (l4.getD 0 0)).toArray⟩ else ⟨((stemL.take st).take a ++ [(moreL l4).getD p 0] ++ (stemL.take st).drop a).toArray⟩
/-- four letters, none of which stands among the others -/
def Lets (z : Str) (l4 : List Nat) : Prop := z.cps.toList = l4 ∧ l4.length = 4 ∧ (moreL l4).Nodup ∧ ∀ c ∈ moreL l4, 97 ≤ c
/-- kinds, fit for books -/
structure KsB (ks : List (Str × Int)) : Prop extends KsOk ks where
  nd : (ks.map (·.1)).Nodup
section
variable {su : Subs} {Ps : Nat → Option Df}
def cell2 (ns : List Int) (k : Nat) : Int := ns.getD k 0
end
end Bk

/-! K1: holes, the parts that stand at them, what is hung. -/
namespace Bk
open PySem
mutual
/-- how many holes -/
def Th.nh : Th → Nat
  | .hole => 1
  | .call _ _ => 0
  | .mk _ us => Th.nhL us
def Th.nhL : List Th → Nat
  | [] => 0
  | u :: us => u.nh + Th.nhL us
end
mutual
/-- what stands in a thing at the holes of a front -/
def Th.parts : Th → Th → List Th
  | .hole, t => [t]
  | .mk _ us, .mk _ vs => Th.partsL us vs
  | _, _ => []
def Th.partsL : List Th → List Th → List Th
  | u :: us, v :: vs => u.parts v ++ Th.partsL us vs
  | _, _ => []
end
mutual
/-- parts put in for holes; those that are left -/
def Th.hang : Th → List Th → Th × List Th
  | .hole, p :: ps => (p, ps)
  | .hole, [] => (.hole, [])
  | .call q k, ps => (.call q k, ps)
  | .mk nm us, ps => (.mk nm (Th.hangL us ps).1, (Th.hangL us ps).2)
def Th.hangL : List Th → List Th → List Th × List Th
  | [], ps => ([], ps)
  | u :: us, ps => ((u.hang ps).1 :: (Th.hangL us (u.hang ps).2).1, (Th.hangL us (u.hang ps).2).2)
end
mutual
/-- no calls -/
def Th.front : Th → Prop
  | .call _ _ => False
  | .hole => True
  | .mk _ us => Th.frontL us
def Th.frontL : List Th → Prop
  | [] => True
  | u :: us => u.front ∧ Th.frontL us
end
mutual
/-- no holes -/
def Th.noh : Th → Prop
  | .call _ _ => True
  | .hole => False
  | .mk _ us => Th.nohL us
def Th.nohL : List Th → Prop
  | [] => True
  | u :: us => u.noh ∧ Th.nohL us
end
mutual
/-- few holes where few knots are -/
def Th.size : Th → Nat
  | .mk _ us => 1 + Th.sizeL us
  | _ => 1
def Th.sizeL : List Th → Nat
  | [] => 0
  | u :: us => u.size + Th.sizeL us
end
end Bk

/-! K2: holes_in, parts_at, hung_by, hung. -/
namespace Bk
open PySem
mutual
def Th.holes : Th → List (List Int)
  | .hole => [[]]
  | .call _ _ => []
  | .mk _ us => Th.holesL 0 us
def Th.holesL : Nat → List Th → List (List Int)
  | _, [] => []
  | k, u :: us => u.holes.map (fun p => (k : Int) :: p) ++ Th.holesL (k + 1) us
end
theorem Th.d_mk (nm : Str) (us : List Th) : (Th.mk nm us).d = .tup (.str nm :: us.map Th.d) := by simp [Th.d, Th.dL_map]
section
variable {su : Subs} {Ps : Nat → Option Df}
end
end Bk

/-! K3: what stands at the holes of a common front is unlike. -/
namespace Bk
open PySem
section
variable {su : Subs} {Ps : Nat → Option Df}
end
end Bk

/-! Z1: patterns whose calls name any numbers. -/
namespace Bk
open PySem
inductive Pz where | call (a b : Int) | mk (nm : Str) (us : List Pz)
mutual
def Pz.d : Pz → D
  | .call a b => .tup [.str (Str.ofString "?"), .int a, .int b]
  | .mk nm us => .tup (.str nm :: Pz.dL us)
def Pz.dL : List Pz → List D
  | [] => []
  | u :: us => u.d :: Pz.dL us
end
theorem Pz.dL_map : ∀ us : List Pz, Pz.dL us = us.map Pz.d
  | [] => rfl
  | u :: us => by simp [Pz.dL, Pz.dL_map us]
theorem Pz.d_mk (nm : Str) (us : List Pz) : (Pz.mk nm us).d = .tup (.str nm :: us.map Pz.d) := by simp [Pz.d, Pz.dL_map]
mutual
def Pz.ok : Pz → Prop
  | .call _ _ => True
  | .mk nm us => nm ≠ Str.ofString "?" ∧ us.length ≤ 100000 ∧ Pz.okL us
def Pz.okL : List Pz → Prop
  | [] => True
  | u :: us => u.ok ∧ Pz.okL us
end
mutual
def Pz.high : Pz → Nat
  | .call _ _ => 1
  | .mk _ us => 1 + Pz.highL us
def Pz.highL : List Pz → Nat
  | [] => 0
  | u :: us => max u.high (Pz.highL us)
end
mutual
/-- is it a pattern over kinds -/
def Pz.fits (ks : List (Str × Int)) (st ki : Int) : Pz → Bool
  | .call a b => (decide (0 ≤ a) && decide (a < st)) && (decide (0 ≤ b) && decide (b < ki))
  | .mk nm us => decide (manyOf ks nm = us.length) && Pz.fitsL ks st ki us
def Pz.fitsL (ks : List (Str × Int)) (st ki : Int) : List Pz → Bool
  | [] => true
  | u :: us => u.fits ks st ki && Pz.fitsL ks st ki us
end
theorem Pz.high_mem {t : Pz} : ∀ {ts : List Pz}, t ∈ ts → t.high ≤ Pz.highL ts
  | [], h => by cases h
  | a :: ts, h => by
    rw [Pz.highL]
    rcases List.mem_cons.mp h with rfl | h
    · omega
    · have := Pz.high_mem h; omega
mutual
def Pt.z : Pt → Pz
  | .call q k => .call q k
  | .mk nm us => .mk nm (Pt.zL us)
def Pt.zL : List Pt → List Pz
  | [] => []
  | u :: us => u.z :: Pt.zL us
end
mutual
/-- so many states, so many kids do calls want -/
def Pt.sts : Pt → Nat
  | .call q _ => q + 1
  | .mk _ us => Pt.stsL us
def Pt.stsL : List Pt → Nat
  | [] => 0
  | u :: us => max u.sts (Pt.stsL us)
end
mutual
def Pt.kds : Pt → Nat
  | .call _ k => k + 1
  | .mk _ us => Pt.kdsL us
def Pt.kdsL : List Pt → Nat
  | [] => 0
  | u :: us => max u.kds (Pt.kdsL us)
end
section
variable {su : Subs} {Ps : Nat → Option Df}
theorem pr_notin_kinds {ks : List (Str × Int)} {nm : Str} {m : Int} : evPrim .notin [.tup [.str nm, .int m], .tup (ks.map kD)] = .ok (.bl (!decide ((nm, m) ∈ ks))) := by
  show notR (evIn [.tup [.str nm, .int m], .tup (ks.map kD)]) = _
  have hp : PyData.plainAll (D.pyL (ks.map kD)) = true := by
    induction ks with
    | nil => rfl
    | cons p ks ih => simp [D.pyL, PyData.plainAll, kD, D.py, PyData.plain, ih]
  have hdp : (D.tup [.str nm, .int m]).py.depth ≤ 160 := by simp [D.py, D.pyL, PyData.depth, PyData.depthAll]
  have hx : ((D.pyL (ks.map kD)).any fun y => PyData.eqv y (D.tup [.str nm, .int m]).py) = decide ((nm, m) ∈ ks) := by
    clear hp
    induction ks with
    | nil => rfl
    | cons p ks ih =>
      rw [List.map_cons, D.pyL, List.any_cons, ih]
      obtain ⟨a, b⟩ := p
      simp only [kD, D.py, D.pyL, PyData.eqv, PyData.eqvAll, List.mem_cons, Prod.mk.injEq, Bool.decide_or, Bool.decide_and, Bool.and_true]
      congr 1
      by_cases e1 : a = nm
      · by_cases e2 : b = m
        · simp [e1, e2]
        · have e2' : ¬ m = b := fun z => e2 z.symm
          simp [e1, e2, e2']
      · have e1' : ¬ nm = a := fun z => e1 z.symm
        simp [e1, e1']
  unfold evIn
  have h0 : (D.tup [.str nm, .int m]).py.plain = true := rfl
  simp only [h0, hp, Bool.true_and, decide_eq_true (Nat.le_trans (Nat.min_le_right _ _) hdp), okIf, if_true, hx, notR, R.bind_ok]
end
end Bk

/-! H8: a kid more or less. -/
namespace Bk
open PySem
def qqq : Th := .mk (Str.ofString "qqq") []
def Th.more : Nat → Th → Int → Th
  | n + 1, .mk nm us, c =>
    if 0 < us.length ∧ 0 < c % 3 then (match us[(c / 3 % (us.length : Int)).toNat]? with
      | some u => .mk nm (us.set (c / 3 % (us.length : Int)).toNat (Th.more n u (c / 11)))
      | none => .mk nm us)
    else if c / 3 % 2 = 0 ∨ us.length = 0 then .mk nm (us ++ [qqq]) else .mk nm us.dropLast
  | _, t, _ => t
section
variable {su : Subs} {Ps : Nat → Option Df}
end
end Bk

/-! Z2: knots_of, tall_of; what k10 spoils; its pile. -/
namespace Bk
open PySem
mutual
def Th.knots : Th → Nat
  | .mk _ us => 1 + Th.knotsL us
  | _ => 0
def Th.knotsL : List Th → Nat
  | [] => 0
  | u :: us => u.knots + Th.knotsL us
end
theorem Th.highL_max (t : Th) (ts : List Th) : maxOf t.high (ts.map fun t => (t.high : Int)) = (Th.highL (t :: ts) : Int) := by
  have up : ∀ (us : List Th) (b : Int), (∀ x ∈ us, (x.high : Int) ≤ b) → 0 ≤ b → ((Th.highL us : Nat) : Int) ≤ b := by
    intro us
    induction us with
    | nil => intro b _ h; simpa [Th.highL] using h
    | cons u us ih =>
      intro b h h0
      rw [Th.highL]
      have h1 := h u List.mem_cons_self
      have h2 := ih b (fun x hx => h x (List.mem_cons_of_mem _ hx)) h0
      omega
  have h1 : maxOf t.high (ts.map fun t => (t.high : Int)) ≤ (Th.highL (t :: ts) : Int) := maxOf_le _ _ _ (by have := Th.high_mem (ts := t :: ts) List.mem_cons_self; omega) fun x hx => by
    obtain ⟨u, hu, rfl⟩ := List.mem_map.mp hx
    have := Th.high_mem (ts := t :: ts) (List.mem_cons_of_mem _ hu)
    omega
  obtain ⟨h2, h3⟩ := le_maxOf (ts.map fun t => (t.high : Int)) t.high
  have h4 := up (t :: ts) (maxOf t.high (ts.map fun t => (t.high : Int))) (fun x hx => by
    rcases List.mem_cons.mp hx with rfl | hx
    · exact h2
    · exact h3 _ (List.mem_map.mpr ⟨x, hx, rfl⟩)) (by omega)
  omega
section
variable {su : Subs} {Ps : Nat → Option Df}
end
end Bk

/-! Z3: k10's pile. -/
namespace Bk
open PySem
def pT5 (t : Pt) : D := .tup [t.d, .int t.high, .int t.many, .int t.sts, .int t.kds]
/-- names of kinds without kids -/
def lfOf (ks : List (Str × Int)) : List Str := (ks.filter fun y => decide (y.2 = 0)).map (·.1)
section
variable {su : Subs} {Ps : Nat → Option Df}
end
end Bk

/-! Q2: patterns by draws and by digits. -/
namespace Bk
open PySem
mutual
/-- a pattern over kinds, its calls of so many states and kids -/
def Pt.fit (ks : List (Str × Int)) (st ki : Nat) : Pt → Prop
  | .call q k => q < st ∧ k < ki
  | .mk nm us => (nm, (us.length : Int)) ∈ ks ∧ Pt.fitL ks st ki us
def Pt.fitL (ks : List (Str × Int)) (st ki : Nat) : List Pt → Prop
  | [] => True
  | u :: us => u.fit ks st ki ∧ Pt.fitL ks st ki us
end
theorem Pt.d_mk (nm : Str) (us : List Pt) : (Pt.mk nm us).d = .tup (.str nm :: us.map Pt.d) := by simp [Pt.d, Pt.dL_map]
section
variable {su : Subs} {Ps : Nat → Option Df}
end
end Bk

/-! Q3: patterns by digits; books. -/
namespace Bk
open PySem
def bkD (ins outs : List (Str × Int)) (head : Pt) (rules : List (List Pt)) : D :=
  .tup [.tup (ins.map kD), .tup (outs.map kD), head.d, .tup (rules.map fun row => .tup (row.map Pt.d))]
/-- a book: patterns over outs, their calls of so many states and of the kind's kids; at most h tall -/
structure BkOk (ins outs : List (Str × Int)) (head : Pt) (rules : List (List Pt)) (h : Nat) : Prop where
  hd : head.fit outs rules.length 1
  hh : head.high ≤ h
  len : ∀ row ∈ rules, row.length = ins.length
  fit : ∀ row ∈ rules, ∀ (j : Nat) (k : Str × Int) (p : Pt), ins[j]? = some k → row[j]? = some p → p.fit outs rules.length k.2.toNat ∧ p.high ≤ h
section
variable {su : Subs} {Ps : Nat → Option Df}
end
end Bk

/-! Q4: books by draws and by digits; what is asked of them. -/
namespace Bk
open PySem
def RwOk (ins outs : List (Str × Int)) (st h : Nat) (us : List Pt) : Prop := ∀ (j : Nat) (k : Str × Int) (p : Pt), ins[j]? = some k → us[j]? = some p → p.fit outs st k.2.toNat ∧ p.high ≤ h
theorem RwOk.snoc {ins outs : List (Str × Int)} {st h : Nat} {us : List Pt} {p : Pt} (r : RwOk ins outs st h us) {k : Str × Int} (hk : ins[us.length]? = some k) (hp : p.fit outs st k.2.toNat ∧ p.high ≤ h) : RwOk ins outs st h (us ++ [p]) := by
  intro j k' p' hj hp'
  by_cases e : j < us.length
  · rw [List.getElem?_append_left e] at hp'
    exact r j k' p' hj hp'
  · rw [List.getElem?_append_right (by omega)] at hp'
    have hj2 : j = us.length := by
      have := (List.getElem?_eq_some_iff.mp hp').1
      simp at this; omega
    subst hj2
    rw [Nat.sub_self] at hp'
    simp only [List.getElem?_cons_zero, Option.some.injEq] at hp'
    subst hp'
    rw [hk] at hj
    cases hj
    exact hp
def rwD (us : List Pt) : D := .tup (us.map Pt.d)
theorem kd0 (p : Str × Int) : evPrim .idx [kD p, .int 0] = .ok (.str p.1) := pr_idx_t0 _ _
section
variable {su : Subs} {Ps : Nat → Option Df}
end
end Bk

/-! A81: words of a text, told two ways (k08). -/
namespace Bk
open PySem
theorem spc32 : Unicode.isSpace 32 = true := by decide +kernel
theorem spcL {c : Nat} (h : isL c = true) : Unicode.isSpace c = false := by
  unfold isL at h
  simp only [Bool.and_eq_true, decide_eq_true_eq] at h
  have : ∀ i ∈ List.range 26, Unicode.isSpace (97 + i) = false := by decide +kernel
  have := this (c - 97) (List.mem_range.mpr (by omega))
  rwa [show 97 + (c - 97) = c by omega] at this
/-- the runs of signs that are no blanks -/
def spW (cs : List Nat) : List (List Nat) := TL.wfin (cs.foldl TL.wstep ([], []))
theorem spW_shift : ∀ (cs : List Nat) (A B : List (List Nat)) (u : List Nat), cs.foldl TL.wstep (A ++ B, u) = (A ++ (cs.foldl TL.wstep (B, u)).1, (cs.foldl TL.wstep (B, u)).2)
  | [], A, B, u => rfl
  | c :: cs, A, B, u => by
    rw [List.foldl_cons, List.foldl_cons]
    unfold TL.wstep
    by_cases h : Unicode.isSpace c = true
    · simp only [h, if_true]
      by_cases hu : u = []
      · simp only [hu, if_true]
        exact spW_shift cs A B []
      · simp only [hu, if_false]
        rw [List.append_assoc]
        exact spW_shift cs A (B ++ [u]) []
    · simp only [h, if_false]
      exact spW_shift cs A B (u ++ [c])
theorem spW_app (a b : List Nat) : spW (a ++ 32 :: b) = spW a ++ spW b := by
  unfold spW
  rw [List.foldl_append, List.foldl_cons]
  obtain ⟨A, u⟩ := a.foldl TL.wstep ([], [])
  have : TL.wstep (A, u) 32 = (TL.wfin (A, u) ++ [], []) := by
    unfold TL.wstep TL.wfin
    simp only [spc32, if_true]
    by_cases hu : u = []
    · simp [hu]
    · simp [hu]
  rw [this, spW_shift]
  generalize TL.wfin (A, u) = W
  obtain ⟨B, v⟩ := b.foldl TL.wstep ([], [])
  unfold TL.wfin
  simp only
  by_cases hv : v = []
  · rw [if_pos hv, if_pos hv]
  · rw [if_neg hv, if_neg hv, List.append_assoc]
theorem wStep_shift (A B : List (List Nat)) (l : Option Nat) (c : Nat) (h : lastL l = true → B ≠ []) : wStep (A ++ B, l) c = (A ++ (wStep (B, l) c).1, (wStep (B, l) c).2) ∧ (lastL (wStep (B, l) c).2 = true → (wStep (B, l) c).1 ≠ []) := by
  unfold wStep
  simp only
  cases hc : isL c with
  | false =>
    simp only [Bool.false_and, Bool.false_eq_true, if_false]
    refine ⟨?_, fun z => by rw [lastL, hc] at z; cases z⟩
    by_cases h32 : c = 32
    · simp [h32]
    · simp [h32]
  | true =>
    have h32 : c ≠ 32 := fun e => by rw [e] at hc; cases hc
    cases hl : lastL l with
    | true =>
      simp only [Bool.true_and, if_true]
      have hB := h hl
      obtain ⟨B0, b, rfl⟩ : ∃ B0 b, B = B0 ++ [b] := ⟨B.dropLast, B.getLast hB, (List.dropLast_concat_getLast hB).symm⟩
      refine ⟨?_, fun _ => by simp⟩
      have g : ∀ L : List (List Nat), (L ++ [b]).getLastD [] = b := fun L => by
        rw [List.getLastD_eq_getLast?, List.getLast?_append]
        rfl
      rw [← List.append_assoc, g, g, List.dropLast_concat, List.dropLast_concat, List.append_assoc]
    | false =>
      simp only [Bool.true_and, Bool.false_eq_true, if_false, h32]
      exact ⟨by rw [List.append_assoc], fun _ => by simp⟩
theorem wordsL_shift : ∀ (cs : List Nat) (A B : List (List Nat)) (l : Option Nat), (lastL l = true → B ≠ []) → (cs.foldl wStep (A ++ B, l)).1 = A ++ (cs.foldl wStep (B, l)).1
  | [], A, B, l, _ => rfl
  | c :: cs, A, B, l, h => by
    rw [List.foldl_cons, List.foldl_cons]
    obtain ⟨h1, h2⟩ := wStep_shift A B l c h
    rw [h1]
    exact wordsL_shift cs A _ _ h2
theorem wordsL_none : ∀ (cs : List Nat) (A : List (List Nat)), (cs.foldl wStep (A, some 32)).1 = (cs.foldl wStep (A, none)).1
  | [], A => rfl
  | c :: cs, A => rfl
theorem wordsL_app (a b : List Nat) : wordsL (a ++ 32 :: b) = wordsL a ++ wordsL b := by
  unfold wordsL
  rw [List.foldl_append, List.foldl_cons]
  obtain ⟨A, l⟩ := a.foldl wStep ([], none)
  have : wStep (A, l) 32 = (A ++ [], some 32) := by
    have h : isL 32 = false := rfl
    simp [wStep, h]
  rw [this, wordsL_shift b A [] (some 32) (fun z => by cases z), wordsL_none]
/-- no a with b right behind it -/
def nadj (a b : Nat) : List Nat → Prop
  | x :: y :: l => ¬ (x = a ∧ y = b) ∧ nadj a b (y :: l)
  | _ => True
theorem nadj_app {a b : Nat} (ha : a ≠ 32) (hb : b ≠ 32) : ∀ (l1 l2 : List Nat), nadj a b l1 → nadj a b l2 → nadj a b (l1 ++ 32 :: l2)
  | [], [], _, _ => trivial
  | [], y :: l2, _, h2 => ⟨fun z => ha z.1.symm, h2⟩
  | [x], l2, _, h2 => ⟨fun z => hb z.2.symm, nadj_app ha hb [] l2 trivial h2⟩
  | x :: y :: l1, l2, h1, h2 => ⟨h1.1, nadj_app ha hb (y :: l1) l2 h1.2 h2⟩
theorem nadj_drop {a b : Nat} : ∀ (l : List Nat) (i : Nat), nadj a b l → (l.drop i).take 2 ≠ [a, b]
  | [], i, _ => by simp
  | [x], 0, _ => by simp
  | [x], i + 1, _ => by simp
  | x :: y :: l, 0, h => by
    intro z
    simp at z
    exact h.1 z
  | x :: y :: l, i + 1, h => by
    rw [List.drop_succ_cons]
    exact nadj_drop (y :: l) i h.2
theorem nadj_letters {a b : Nat} (ha : isL a = false) : ∀ (l : List Nat), (∀ c ∈ l, isL c = true) → nadj a b l
  | [], _ => trivial
  | [x], _ => trivial
  | x :: y :: l, h => ⟨fun z => by have := h x List.mem_cons_self; rw [z.1, ha] at this; exact absurd this Bool.false_ne_true, nadj_letters ha (y :: l) fun c hc => h c (List.mem_cons_of_mem _ hc)⟩
theorem rep_same {x y z : Str} {a b : Nat} (hy : y.cps.toList = [a, b]) (h : nadj a b x.cps.toList) : Txt.replace x y z = x := by
  have e : Builtin.Str.occurrences x y 0 x.length (x.length + 1) = [] := by
    rcases StrLaws.occ_head x y (x.length + 1) (by omega) with ⟨h, _⟩ | ⟨i, _, _, h2, _⟩
    · exact h
    · exfalso
      have h3 := h2.2
      rw [StrLaws.subAt_eq, hy] at h3
      have yl : y.length = 2 := by
        have : y.length = y.cps.toList.length := rfl
        rw [this, hy]; rfl
      rw [yl] at h3
      exact nadj_drop _ i h (eq_of_beq h3)
  unfold Txt.replace
  rw [e]
  rfl
/-- a text whose words are told alike both ways -/
structure GoodL (cs : List Nat) : Prop where
  eq : wordsL cs = spW cs
  n1 : nadj 40 41 cs
  n2 : nadj 44 44 cs
theorem GoodL.app {a b : List Nat} (h1 : GoodL a) (h2 : GoodL b) : GoodL (a ++ 32 :: b) := ⟨by rw [wordsL_app, spW_app, h1.eq, h2.eq], nadj_app (by decide) (by decide) _ _ h1.n1 h2.n1, nadj_app (by decide) (by decide) _ _ h1.n2 h2.n2⟩
theorem GoodL.letters {cs : List Nat} (h : ∀ c ∈ cs, isL c = true) : GoodL cs := by
  refine ⟨?_, nadj_letters rfl cs h, nadj_letters rfl cs h⟩
  cases cs with
  | nil => rfl
  | cons c cs =>
    have e1 : wordsL (c :: cs) = [c :: cs] := by
      have := fold_words [(c :: cs, 0)] [] none ⟨.inl ⟨by simp, List.all_eq_true.mpr h, rfl⟩, trivial⟩
      rw [List.nil_append] at this
      unfold wordsL
      simpa [flatW] using this
    have e2 : spW (c :: cs) = [c :: cs] := by
      unfold spW
      rw [TL.wfold_word (c :: cs) [] [] fun x hx => spcL (h x hx)]
      rfl
    rw [e1, e2]
theorem GoodL.sign {c : Nat} (h : c ∈ [40, 41, 44, 65, 49, 46, 45]) : GoodL [c] := by
  have e : ∀ c ∈ [40, 41, 44, 65, 49, 46, 45], wordsL [c] = [[c]] ∧ Unicode.isSpace c = false := by decide +kernel
  obtain ⟨e1, e2⟩ := e c h
  refine ⟨?_, trivial, trivial⟩
  rw [e1]
  unfold spW
  rw [TL.wfold_word [c] [] [] fun x hx => by rw [List.mem_singleton.mp hx]; exact e2]
  rfl
/-- a text that no tree can have: () or ,, -/
def BadL (cs : List Nat) : Prop := wordsL cs = [[40], [41]] ∨ wordsL cs = [[44], [44]]
/-- texts side by side, a blank between -/
def jnS (a : List Nat) (ws : List Str) : List Nat := a ++ ws.flatMap fun q => 32 :: q.cps.toList
theorem jnS_cons (a : List Nat) (w : Str) (ws : List Str) : jnS a (w :: ws) = a ++ 32 :: jnS w.cps.toList ws := by
  unfold jnS
  rw [List.flatMap_cons]
  simp
theorem jnS_words : ∀ (ws : List Str) (a : List Nat), wordsL (jnS a ws) = wordsL a ++ ws.flatMap fun q => wordsL q.cps.toList
  | [], a => by simp [jnS]
  | w :: ws, a => by rw [jnS_cons, wordsL_app, jnS_words ws, List.flatMap_cons]
theorem jnS_good : ∀ (ws : List Str) (a : List Nat), GoodL a → (∀ w ∈ ws, GoodL w.cps.toList) → GoodL (jnS a ws)
  | [], a, h, _ => by simpa [jnS] using h
  | w :: ws, a, h, hw => by
    rw [jnS_cons]
    exact h.app (jnS_good ws _ (hw w List.mem_cons_self) fun q hq => hw q (List.mem_cons_of_mem _ hq))
theorem join_words (ws : List Str) : wordsL (Txt.join (Str.ofString " ") ws).cps.toList = ws.flatMap fun q => wordsL q.cps.toList := by
  have e : (Str.ofString " ").cps.toList = [32] := by decide
  cases ws with
  | nil => rfl
  | cons w ws =>
    rw [join_cps, e, List.flatMap_cons, ← jnS_words]
    rfl
theorem join_good {ws : List Str} (h : ∀ w ∈ ws, GoodL w.cps.toList) : GoodL (Txt.join (Str.ofString " ") ws).cps.toList := by
  have e : (Str.ofString " ").cps.toList = [32] := by decide
  cases ws with
  | nil => exact GoodL.letters (cs := []) fun c hc => nomatch hc
  | cons w ws =>
    rw [join_cps, e]
    exact jnS_good ws _ (h w List.mem_cons_self) fun q hq => h q (List.mem_cons_of_mem _ hq)
/-- behind a bracket or a comma a name stands -/
def adjOk : List Str → Prop
  | x :: y :: l => ((x = Str.ofString "(" ∨ x = Str.ofString ",") → isWd y = true) ∧ adjOk (y :: l)
  | _ => True
theorem wd_ne {s : Str} (h : isWd s = true) : s ≠ Str.ofString "(" ∧ s ≠ Str.ofString "," ∧ s ≠ Str.ofString ")" := by
  refine ⟨?_, ?_, ?_⟩ <;> (rintro rfl; revert h; decide)
theorem adjOk_cons {x : Str} {l : List Str} (h : x ≠ Str.ofString "(" ∧ x ≠ Str.ofString ",") (hl : adjOk l) : adjOk (x :: l) := by
  cases l with
  | nil => trivial
  | cons y l => exact ⟨fun z => z.elim (fun z => absurd z h.1) fun z => absurd z h.2, hl⟩
mutual
theorem Tr.toks_adj {ks : List (Str × Int)} : ∀ (t : Tr) (rest : List Str), t.knd ks → adjOk rest → adjOk (t.toks ++ rest)
  | .mk nm us, rest, hk, hr => by
    rw [Tr.knd] at hk
    have w := wd_ne hk.2.1
    rw [Tr.toks, List.cons_append]
    by_cases h0 : us = []
    · rw [if_pos h0, List.nil_append]
      exact adjOk_cons ⟨w.1, w.2.1⟩ hr
    · rw [if_neg h0, List.append_assoc]
      refine adjOk_cons ⟨w.1, w.2.1⟩ (Tr.lpT_adj us true _ hk.2.2 ?_)
      exact adjOk_cons (by decide) hr
theorem Tr.lpT_adj {ks : List (Str × Int)} : ∀ (us : List Tr) (b : Bool) (rest : List Str), Tr.kndL ks us → adjOk rest → adjOk (Tr.lpT b us ++ rest)
  | [], b, rest, _, hr => by rw [Tr.lpT, List.nil_append]; exact hr
  | .mk nm vs :: us, b, rest, hk, hr => by
    rw [Tr.kndL] at hk
    have h1 := Tr.toks_adj (.mk nm vs) _ hk.1 (Tr.lpT_adj us false rest hk.2 hr)
    rw [Tr.lpT, List.cons_append, List.append_assoc]
    rw [Tr.toks, List.cons_append] at h1 ⊢
    have := hk.1
    rw [Tr.knd] at this
    exact ⟨fun _ => this.2.1, h1⟩
end
theorem adjOk_tail {x : Str} {l : List Str} (h : adjOk (x :: l)) : adjOk l := by
  cases l with
  | nil => trivial
  | cons y l => exact h.2
theorem adjOk_at : ∀ (A : List Str) {x y : Str} {B : List Str}, adjOk (A ++ x :: y :: B) → (x = Str.ofString "(" ∨ x = Str.ofString ",") → isWd y = true
  | [], x, y, B, h, hx => h.1 hx
  | a :: A, x, y, B, h, hx => by
    rw [List.cons_append] at h
    exact adjOk_at A (adjOk_tail h) hx
theorem cps_one {s z : Str} {c : Nat} (h : s.cps.toList = [c]) (hz : z.cps.toList = [c]) : s = z := str_ext (by rw [h, hz])
theorem no_bad {ks : List (Str × Int)} {t : Tr} (hk : t.knd ks) {A B : List (List Nat)} {c d : Nat} (h : cpsL t.toks = A ++ [c] :: [d] :: B) (hcd : (c = 40 ∧ d = 41) ∨ (c = 44 ∧ d = 44)) : False := by
  have ad := Tr.toks_adj t [] hk trivial
  rw [List.append_nil] at ad
  unfold cpsL at h
  obtain ⟨l1, l2, e, h1, h2⟩ := List.map_eq_append_iff.mp h
  obtain ⟨x, l3, rfl, hx, h3⟩ := List.map_eq_cons_iff.mp h2
  obtain ⟨y, l4, rfl, hy, h4⟩ := List.map_eq_cons_iff.mp h3
  rw [e] at ad
  rcases hcd with ⟨rfl, rfl⟩ | ⟨rfl, rfl⟩
  · have w := adjOk_at l1 ad (.inl (cps_one hx (by decide)))
    rw [cps_one hy (z := Str.ofString ")") (by decide)] at w
    revert w; decide
  · have w := adjOk_at l1 ad (.inr (cps_one hx (by decide)))
    rw [cps_one hy (z := Str.ofString ",") (by decide)] at w
    revert w; decide
/-- where such words tell a tree, the two ways agree -/
theorem told_words {ks : List (Str × Int)} {t : Tr} (hk : t.knd ks) {ws : List Str} (hw : ∀ w ∈ ws, GoodL w.cps.toList ∨ BadL w.cps.toList) (h : wordsL (Txt.join (Str.ofString " ") ws).cps.toList = cpsL t.toks) :
    Txt.words (Txt.join (Str.ofString " ") ws) = t.toks ∧ nadj 40 41 (Txt.join (Str.ofString " ") ws).cps.toList ∧ nadj 44 44 (Txt.join (Str.ofString " ") ws).cps.toList := by
  have good : ∀ w ∈ ws, GoodL w.cps.toList := fun w hm => by
    rcases hw w hm with g | b
    · exact g
    · exfalso
      rw [join_words] at h
      obtain ⟨X, Y, rfl⟩ := List.append_of_mem hm
      rw [List.flatMap_append, List.flatMap_cons] at h
      rcases b with b | b
      · rw [b] at h
        exact no_bad hk (A := X.flatMap fun q => wordsL q.cps.toList) (B := Y.flatMap fun q => wordsL q.cps.toList) (c := 40) (d := 41) (by rw [← h]; simp) (.inl ⟨rfl, rfl⟩)
      · rw [b] at h
        exact no_bad hk (A := X.flatMap fun q => wordsL q.cps.toList) (B := Y.flatMap fun q => wordsL q.cps.toList) (c := 44) (d := 44) (by rw [← h]; simp) (.inr ⟨rfl, rfl⟩)
  have G := join_good good
  refine ⟨TL.map_tl_inj ?_, G.n1, G.n2⟩
  rw [TL.words_tl]
  show spW _ = _
  rw [← G.eq, h]
  rfl
end Bk

/-! H2l: lies_on. -/
namespace Bk
open PySem
section
variable {su : Subs} {Ps : Nat → Option Df}
end
end Bk

/-! K4: raised things; walks over holes; sizes. -/
namespace Bk
open PySem
/-- a knot over a thing, leaves beside it -/
def Th.step (wide : List (Str × Int)) (lf : Th) (i : Nat) (t : Th) : Th := match wide[i % wide.length]? with
  | some p => .mk p.1 (List.replicate (i % p.2.toNat) lf ++ t :: List.replicate (p.2.toNat - 1 - i % p.2.toNat) lf)
  | none => t
def Th.upTo (wide : List (Str × Int)) (lf : Th) : Nat → Th → Th
  | 0, t => t
  | i + 1, t => Th.step wide lf i (Th.upTo wide lf i t)
def wideOf (ks : List (Str × Int)) : List (Str × Int) := ks.filter fun p => decide (p.2 > 0)
/-- places of holes, and what stands there -/
def wkD (p : List Int) (x : List Int × Th) : D := .tup [pD (p ++ x.1), x.2.d]
theorem depth_lst {n : Nat} {xs : List D} (h : ∀ x ∈ xs, tsi n x) : (D.lst xs).py.plain = true ∧ (D.lst xs).py.depth ≤ n + 1 := by
  by_cases hx : xs = []
  · subst hx; exact ⟨rfl, by simp [D.py, D.pyL, PyData.depth, PyData.depthAll]⟩
  have : PyData.plainAll (D.pyL xs) = true ∧ PyData.depthAll (D.pyL xs) ≤ n := by
    clear hx
    induction xs with
    | nil => exact ⟨rfl, by simp [D.pyL, PyData.depthAll]⟩
    | cons x xs ih =>
      obtain ⟨a, b⟩ := tsi_plain n x (h x List.mem_cons_self)
      obtain ⟨c, d⟩ := ih fun y hy => h y (List.mem_cons_of_mem _ hy)
      exact ⟨by simp [D.pyL, PyData.plainAll, a, c], by simp only [D.pyL, PyData.depthAll]; omega⟩
  exact ⟨by simp only [D.py, PyData.plain, this.1], by simp only [D.py, PyData.depth]; omega⟩
section
variable {su : Subs} {Ps : Nat → Option Df}
def lfTh (ks : List (Str × Int)) : Th := .mk ((lfOf ks).getD 0 (Str.ofString "")) []
end
end Bk

/-! W4: try. -/
namespace Bk
open PySem
def trMK (q : En) (cs : List Nat) (hs : List (List S)) : O → O
  | .exc k ρ => pick q.su k cs (evHs { q with hx := some k } hs) ρ
  | o => o
def trAK (q : En) (c i : Nat) (h : List S) : O → O
  | .exc k ρ => match q.su k c with
    | some true => (evSs { q with hx := some k } h (ρ.set i .un)).unN i
    | some false => .exc k ρ
    | none => .stuck
  | o => o
def pickK (su : Subs) (k : Nat) (cs : List Nat) (h : Rho → O) (hs : List (Rho → O)) (ρ : Rho) : Option Bool → O
  | some true => (h ρ).noX
  | some false => pick su k cs hs ρ
  | none => .stuck
@[simp] theorem pr_min2 (a b : Int) : evPrim .min2 [.int a, .int b] = .ok (.int (if b < a then b else a)) := (rfl)
@[simp] theorem pr_max2 (a b : Int) : evPrim .max2 [.int a, .int b] = .ok (.int (if b > a then b else a)) := (rfl)
section
variable (q : En) (cs : List Nat) (hs : List (List S)) (ρ : Rho) (d : D) (c i k : Nat) (h b : List S) (su : Subs) (h1 : Rho → O) (hs1 : List (Rho → O))
@[simp] theorem ev_s_trM : evS q (.trM b cs hs) ρ = trMK q cs hs (evSs q b ρ) := by
  rw [evS]; cases evSs q b ρ <;> rfl
@[simp] theorem ev_s_trA : evS q (.trA b c i h) ρ = trAK q c i h (evSs q b ρ) := by
  rw [evS]; cases evSs q b ρ <;> rfl
@[simp] theorem trMK_nx : trMK q cs hs (.nx ρ) = .nx ρ := (rfl)
@[simp] theorem trMK_ret : trMK q cs hs (.ret d ρ) = .ret d ρ := (rfl)
@[simp] theorem trMK_brk : trMK q cs hs (.brk ρ) = .brk ρ := (rfl)
@[simp] theorem trMK_cont : trMK q cs hs (.cont ρ) = .cont ρ := (rfl)
@[simp] theorem trMK_exc : trMK q cs hs (.exc k ρ) = pick q.su k cs (evHs { q with hx := some k } hs) ρ := (rfl)
@[simp] theorem trAK_nx : trAK q c i h (.nx ρ) = .nx ρ := (rfl)
@[simp] theorem trAK_ret : trAK q c i h (.ret d ρ) = .ret d ρ := (rfl)
@[simp] theorem trAK_brk : trAK q c i h (.brk ρ) = .brk ρ := (rfl)
@[simp] theorem trAK_cont : trAK q c i h (.cont ρ) = .cont ρ := (rfl)
@[simp] theorem trAK_exc : trAK q c i h (.exc k ρ) = (match q.su k c with
    | some true => (evSs { q with hx := some k } h (ρ.set i .un)).unN i
    | some false => .exc k ρ
    | none => .stuck) := (rfl)
@[simp] theorem pick_cons : pick su k (c :: cs) (h1 :: hs1) ρ = pickK su k cs h1 hs1 ρ (su k c) := by
  rw [pick]
  cases su k c with
  | none => rfl
  | some b => cases b <;> rfl
@[simp] theorem pick_nil : pick su k [] hs1 ρ = .exc k ρ := by unfold pick; rfl
@[simp] theorem pickK_t : pickK su k cs h1 hs1 ρ (some true) = (h1 ρ).noX := (rfl)
@[simp] theorem pickK_f : pickK su k cs h1 hs1 ρ (some false) = pick su k cs hs1 ρ := (rfl)
@[simp] theorem evHs_nil : evHs q [] = [] := by rw [evHs]
@[simp] theorem evHs_cons : evHs q (h :: hs) = (fun ρ => evSs q h ρ) :: evHs q hs := by rw [evHs]
@[simp] theorem noX_nx : (O.nx ρ).noX = .nx ρ := (rfl)
@[simp] theorem noX_ret : (O.ret d ρ).noX = .ret d ρ := (rfl)
@[simp] theorem noX_brk : (O.brk ρ).noX = .brk ρ := (rfl)
@[simp] theorem noX_cont : (O.cont ρ).noX = .cont ρ := (rfl)
@[simp] theorem unN_nx : (O.nx ρ).unN i = .nx (ρ.set i .un) := (rfl)
@[simp] theorem unN_ret : (O.ret d ρ).unN i = .ret d (ρ.set i .un) := (rfl)
@[simp] theorem unN_brk : (O.brk ρ).unN i = .brk (ρ.set i .un) := (rfl)
@[simp] theorem unN_cont : (O.cont ρ).unN i = .cont (ρ.set i .un) := (rfl)
end
end Bk

/-! A82: trees read, told exactly (k08). -/
namespace Bk
open PySem
theorem Seg.nil (ws : List Str) (a : Nat) : Seg ws a [] := ⟨ws.drop a, rfl⟩
theorem Seg.cons {ws : List Str} {a : Nat} {x : Str} {l : List Str} (h : wAt ws a = x) (hx : x ≠ Str.ofString "") (s : Seg ws (a + 1) l) : Seg ws a (x :: l) := by
  have hl := wAt_lt h hx
  have e : ws[a]? = some x := by
    rw [← h]
    unfold wAt
    rw [List.getD_eq_getElem?_getD, List.getElem?_eq_getElem hl]
    rfl
  obtain ⟨rest, r⟩ := s
  refine ⟨rest, ?_⟩
  rw [List.drop_eq_getElem_cons hl, r, List.cons_append]
  congr 1
  rw [List.getElem?_eq_getElem hl] at e
  cases e
  rfl
theorem Seg.join {ws : List Str} {a : Nat} {l1 l2 : List Str} (h1 : Seg ws a l1) (h2 : Seg ws (a + l1.length) l2) : Seg ws a (l1 ++ l2) := by
  obtain ⟨r1, e1⟩ := h1
  obtain ⟨r2, e2⟩ := h2
  refine ⟨r2, ?_⟩
  rw [e1, List.append_assoc]
  congr 1
  rw [← List.drop_drop, e1, List.drop_left] at e2
  exact e2
theorem lpK_sound {ks : List (Str × Int)} {ws : List Str} {d : Nat} {f : Nat → Option (Tr × Nat)} (hf : ∀ a t e, f a = some (t, e) → t.knd ks ∧ t.high ≤ d ∧ Seg ws a t.toks ∧ e = a + t.toks.length) :
    ∀ (m : Nat) (b : Bool) (a : Nat) (ts : List Tr) (e : Nat), lpK ws f m b a = some (ts, e) → (Tr.kndL ks ts ∧ ts.length = m) ∧ Tr.highL ts ≤ d ∧ Seg ws a (Tr.lpT b ts) ∧ e = a + (Tr.lpT b ts).length
  | 0, b, a, ts, e, h => by
    rw [lpK] at h
    cases h
    refine ⟨⟨by rw [Tr.kndL]; trivial, rfl⟩, by rw [Tr.highL]; omega, ?_, ?_⟩
    · rw [Tr.lpT]; exact Seg.nil _ _
    · rw [Tr.lpT]; rfl
  | m + 1, b, a, ts, e, h => by
    rw [lpK] at h
    split at h
    · rename_i hw
      split at h
      · rename_i t a2 hfa
        split at h
        · rename_i ts2 e2 hl
          cases h
          obtain ⟨k1, k2, k3, k4⟩ := hf _ _ _ hfa
          obtain ⟨⟨l1, l5⟩, l2, l3, l4⟩ := lpK_sound hf m false a2 ts2 e hl
          subst k4
          refine ⟨⟨by rw [Tr.kndL]; exact ⟨k1, l1⟩, by simp [l5]⟩, by rw [Tr.highL]; omega, ?_, ?_⟩
          · rw [Tr.lpT]
            exact Seg.cons hw (sgn_ne b) (k3.join l3)
          · rw [Tr.lpT, l4, List.length_cons, List.length_append]
            omega
        · cases h
      · cases h
    · cases h
theorem trK_sound {ks : List (Str × Int)} {ws : List Str} : ∀ (d a : Nat) (t : Tr) (e : Nat), trK ks ws d a = some (t, e) → t.knd ks ∧ t.high ≤ d ∧ Seg ws a t.toks ∧ e = a + t.toks.length
  | 0, a, t, e, h => by cases h
  | d + 1, a, t, e, h => by
    rw [trK] at h
    split at h
    · rename_i hc
      split at h
      · rename_i us e2 hk
        cases h
        have wne : wAt ws a ≠ Str.ofString "" := fun z => by
          have := hc.1
          rw [z] at this
          revert this; decide
        unfold kdK at hk
        split at hk
        · rename_i ts e3 hl
          obtain ⟨⟨l1, l5⟩, l2, l3, l4⟩ := lpK_sound (fun a t e h => trK_sound d a t e h) _ _ _ _ _ hl
          have hm : manyOf ks (wAt ws a) = ((manyOf ks (wAt ws a)).toNat : Int) := (Int.toNat_of_nonneg hc.2).symm
          have key : us = ts ∧ Seg ws (a + 1) (if ts = [] then [] else Tr.lpT true ts ++ [Str.ofString ")"]) ∧ e = a + 1 + (if ts = [] then [] else Tr.lpT true ts ++ [Str.ofString ")"]).length := by
            split at hk
            · rename_i hpos
              split at hk
              · rename_i hp
                cases hk
                have hne : us ≠ [] := fun z => by rw [z] at l5; simp at l5; omega
                refine ⟨rfl, ?_, ?_⟩
                · rw [if_neg hne]
                  refine l3.join (Seg.cons ?_ (by decide) (Seg.nil _ _))
                  rw [← l4]; exact hp
                · rw [if_neg hne, List.length_append, l4]
                  simp only [List.length_cons, List.length_nil]
                  omega
              · cases hk
            · rename_i hpos
              cases hk
              have hne : us = [] := List.eq_nil_of_length_eq_zero (by omega)
              subst hne
              refine ⟨rfl, ?_, ?_⟩
              · simp only [if_true]; exact Seg.nil _ _
              · rw [l4, Tr.lpT]; rfl
          obtain ⟨rfl, s1, s2⟩ := key
          refine ⟨?_, by rw [Tr.high]; omega, ?_, ?_⟩
          · rw [Tr.knd]
            exact ⟨by rw [l5]; exact hm, hc.1, l1⟩
          · rw [Tr.toks]
            exact Seg.cons rfl wne s1
          · rw [Tr.toks, List.length_cons, s2]
            omega
        · cases hk
      · cases h
    · cases h
theorem wordsL_lens : ∀ (cs : List Nat) (F : List (List Nat)) (l : Option Nat) (B : Nat), (∀ x ∈ F, x.length ≤ B) → (∀ x ∈ (cs.foldl wStep (F, l)).1, x.length ≤ B + cs.length) ∧ (cs.foldl wStep (F, l)).1.length ≤ F.length + cs.length
  | [], F, l, B, h => ⟨fun x hx => by have := h x hx; simpa using this, Nat.le_refl _⟩
  | c :: cs, F, l, B, h => by
    rw [List.foldl_cons]
    have key : (∀ x ∈ (wStep (F, l) c).1, x.length ≤ B + 1) ∧ (wStep (F, l) c).1.length ≤ F.length + 1 := by
      unfold wStep
      simp only
      split
      · refine ⟨fun x hx => ?_, ?_⟩
        · rcases List.mem_append.mp hx with hx | hx
          · have := h x (List.dropLast_subset _ hx); omega
          · rw [List.mem_singleton.mp hx, List.length_append]
            cases hF : F with
            | nil => simp
            | cons y F' =>
              have hne : F ≠ [] := by rw [hF]; simp
              have := h _ (List.getLast_mem hne)
              rw [← hF, List.getLastD_eq_getLast?, List.getLast?_eq_some_getLast hne]
              simpa using this
        · rw [List.length_append, List.length_dropLast]
          simp only [List.length_cons, List.length_nil]
          omega
      · split
        · exact ⟨fun x hx => by have := h x hx; omega, by omega⟩
        · refine ⟨fun x hx => ?_, by simp⟩
          rcases List.mem_append.mp hx with hx | hx
          · have := h x hx; omega
          · rw [List.mem_singleton.mp hx]; simp
    obtain ⟨k1, k2⟩ := key
    generalize wStep (F, l) c = w at k1 k2 ⊢
    obtain ⟨F2, l2⟩ := w
    obtain ⟨r1, r2⟩ := wordsL_lens cs F2 l2 (B + 1) k1
    refine ⟨fun x hx => ?_, ?_⟩
    · have := r1 x hx; rw [List.length_cons]; omega
    · have k2 : F2.length ≤ F.length + 1 := k2
      rw [List.length_cons]; omega
mutual
theorem Tr.many_toks : ∀ t : Tr, t.many ≤ t.toks.length
  | .mk nm us => by
    rw [Tr.many, Tr.toks]
    by_cases h : us = []
    · subst h; simp [Tr.manyL]
    · rw [if_neg h]
      have := Tr.manyL_toks us true
      simp only [List.length_cons, List.length_append, List.length_nil]
      omega
theorem Tr.manyL_toks : ∀ (us : List Tr) (b : Bool), Tr.manyL us ≤ (Tr.lpT b us).length
  | [], b => by simp [Tr.manyL]
  | u :: us, b => by
    have h1 := Tr.many_toks u
    have h2 := Tr.manyL_toks us false
    rw [Tr.manyL, Tr.lpT]
    simp only [List.length_cons, List.length_append]
    omega
end
theorem strs_eqv : ∀ a b : List Str, PyData.eqvAll (D.pyL (a.map D.str)) (D.pyL (b.map D.str)) = true → a = b
  | [], [], _ => rfl
  | [], _ :: _, e => by simp [D.pyL, PyData.eqvAll] at e
  | _ :: _, [], e => by simp [D.pyL, PyData.eqvAll] at e
  | x :: a, y :: b, e => by
    rw [List.map_cons, List.map_cons, D.pyL, D.pyL, D.py, D.py] at e
    simp only [PyData.eqvAll, PyData.eqv, Bool.and_eq_true, decide_eq_true_eq, beq_iff_eq] at e
    rw [e.1, strs_eqv a b e.2]
theorem strs_ne {a b : List Str} (h : a ≠ b) : evPrim .eq [.lst (a.map D.str), .lst (b.map D.str)] = .ok (.bl false) := by
  have t : ∀ l : List Str, ∀ x ∈ l.map D.str, tsi 1 x := fun l x hx => by
    obtain ⟨s, _, rfl⟩ := List.mem_map.mp hx
    trivial
  obtain ⟨a1, a2⟩ := depth_lst (t a)
  obtain ⟨b1, b2⟩ := depth_lst (t b)
  show eqD _ _ = _
  unfold eqD
  rw [a1, b1, decide_eq_true (show min (D.lst (a.map D.str)).py.depth (D.lst (b.map D.str)).py.depth ≤ 160 by omega)]
  cases e : PyData.eqv (D.lst (a.map D.str)).py (D.lst (b.map D.str)).py with
  | false => rfl
  | true =>
    rw [D.py, D.py] at e
    simp only [PyData.eqv] at e
    exact absurd (strs_eqv a b e) h
mutual
theorem Tr.toks_form {ks : List (Str × Int)} : ∀ t : Tr, t.knd ks → ∀ w ∈ t.toks, isWd w = true ∨ w ∈ [Str.ofString "(", Str.ofString ")", Str.ofString ","]
  | .mk nm us, h => fun w hw => by
    rw [Tr.knd] at h
    rw [Tr.toks] at hw
    rcases List.mem_cons.mp hw with rfl | hw
    · exact .inl h.2.1
    · split at hw
      · cases hw
      · rcases List.mem_append.mp hw with hw | hw
        · exact Tr.lpT_form us true h.2.2 w hw
        · rw [List.mem_singleton.mp hw]; exact .inr (by simp)
theorem Tr.lpT_form {ks : List (Str × Int)} : ∀ (us : List Tr) (b : Bool), Tr.kndL ks us → ∀ w ∈ Tr.lpT b us, isWd w = true ∨ w ∈ [Str.ofString "(", Str.ofString ")", Str.ofString ","]
  | [], b, _ => fun w hw => by simp [Tr.lpT] at hw
  | u :: us, b, h => fun w hw => by
    rw [Tr.kndL] at h
    rw [Tr.lpT] at hw
    rcases List.mem_cons.mp hw with rfl | hw
    · cases b <;> exact .inr (by simp [sgn])
    · rcases List.mem_append.mp hw with hw | hw
      · exact Tr.toks_form u h.1 w hw
      · exact Tr.lpT_form us false h.2 w hw
end
/-- the names among a tree's words -/
def nmW (w : Str) : Option D := if w ∈ [Str.ofString "(", Str.ofString ")", Str.ofString ","] then none else some (.str w)
theorem wd_not {w : Str} (h : isWd w = true) : w ∉ [Str.ofString "(", Str.ofString ")", Str.ofString ","] := fun z => by
  obtain ⟨h1, h2, h3⟩ := wd_ne h
  simp at z
  rcases z with z | z | z
  · exact h1 z
  · exact h3 z
  · exact h2 z
mutual
theorem Tr.toks_names {ks : List (Str × Int)} : ∀ t : Tr, t.knd ks → (t.toks.filterMap nmW).length = t.many
  | .mk nm us, h => by
    rw [Tr.knd] at h
    have e : nmW nm = some (.str nm) := if_neg (wd_not h.2.1)
    rw [Tr.toks, Tr.many, List.filterMap_cons, e]
    by_cases h0 : us = []
    · subst h0; simp [Tr.manyL]
    · rw [if_neg h0]
      have := Tr.lpT_names us true h.2.2
      have e2 : nmW (Str.ofString ")") = none := if_pos (by simp)
      simp only [List.filterMap_append, List.filterMap_cons, e2, List.filterMap_nil, List.append_nil, List.length_cons, this]
      omega
theorem Tr.lpT_names {ks : List (Str × Int)} : ∀ (us : List Tr) (b : Bool), Tr.kndL ks us → ((Tr.lpT b us).filterMap nmW).length = Tr.manyL us
  | [], b, _ => by simp [Tr.lpT, Tr.manyL]
  | u :: us, b, h => by
    rw [Tr.kndL] at h
    have e : nmW (sgn b) = none := if_pos (by cases b <;> simp [sgn])
    rw [Tr.lpT, Tr.manyL, List.filterMap_cons, e]
    simp only [List.filterMap_append, List.length_append, Tr.toks_names u h.1, Tr.lpT_names us false h.2]
end
section
variable {su : Subs} {Ps : Nat → Option Df}
structure RdF (Ps : Nat → Option Df) : Prop where
  h16 : Ps 16 = some f_knots
  h54 : Ps 54 = some f_many_of
  h78 : Ps 78 = some f_is_name
  h79 : Ps 79 = some f_words_of
  h80 : Ps 80 = some f_word_at
  h81 : Ps 81 = some f_kids_at
  h82 : Ps 82 = some f_tree_at
  h83 : Ps 83 = some f_read_tree
theorem read_tree_all (M : RdF Ps) {ks : List (Str × Int)} (h3 : ∀ p ∈ ks, p.2 ≤ 3) {s : Str} (hl : s.length ≤ 50000) (n : Nat) (hn : 70 ≤ n) :
    (∃ t : Tr, (t.knd ks ∧ t.high ≤ 30 ∧ t.many ≤ 400 ∧ wordsL s.cps.toList = cpsL t.toks) ∧ runD su Ps (n + 1) 83 [.tup (ks.map kD), .str s] = .ok t.d []) ∨ runD su Ps (n + 1) 83 [.tup (ks.map kD), .str s] = .exc 2 [] := by
  obtain ⟨n', rfl⟩ : ∃ n', n = n' + 1 := ⟨n - 1, by omega⟩
  obtain ⟨ws, hws⟩ : ∃ ws : List Str, ws = (wordsL s.cps.toList).map fun l => ⟨l.toArray⟩ := ⟨_, rfl⟩
  have hcp : wordsL s.cps.toList = cpsL ws := by
    rw [hws]
    unfold cpsL
    rw [List.map_map]
    conv => lhs; rw [← List.map_id (wordsL s.cps.toList)]
    exact List.map_congr_left fun x _ => by simp
  obtain ⟨b1, b2⟩ := wordsL_lens s.cps.toList [] none 0 (fun x h => nomatch h)
  have sl : s.cps.toList.length = s.length := rfl
  have wl : ws.length ≤ 50000 := by
    rw [hws, List.length_map]
    unfold wordsL
    have : ([] : List (List Nat)).length = 0 := rfl
    omega
  have wsh : ∀ w ∈ ws, w.length ≤ 16777216 := fun w hw => by
    rw [hws] at hw
    obtain ⟨l, hl2, rfl⟩ := List.mem_map.mp hw
    have := b1 l hl2
    rw [len_mk]
    omega
  have w := words_of_ok (su := su) M.h79 n' s (by omega)
  have e : (wordsL s.cps.toList).map stL = ws.map D.str := by
    rw [hws, List.map_map]
    rfl
  rw [e] at w
  have ta := tree_at_ok (su := su) M.h54 M.h78 M.h80 M.h81 M.h82 ks h3 ws wsh 30 (n' + 1) 0 (by omega)
  have e0 : ((0 : Nat) : Int) = 0 := rfl
  have e30 : ((30 : Nat) : Int) = 30 := rfl
  rw [e0, e30] at ta
  rw [runD_eq M.h83 rfl]
  cases ht : trK ks ws 30 0 with
  | none =>
    rw [ht] at ta
    simp only [rsK] at ta
    right
    simp (disch := first | assumption | omega | (simp <;> omega) | fail) [f_read_tree, startR, w, ta]
  | some p =>
    obtain ⟨t, e⟩ := p
    rw [ht] at ta
    simp only [rsK] at ta
    obtain ⟨k1, k2, k3, k4⟩ := trK_sound 30 0 t e ht
    rw [Nat.zero_add] at k4
    obtain ⟨rest, k3⟩ := k3
    rw [List.drop_zero] at k3
    have k5 := congrArg List.length k3
    rw [List.length_append] at k5
    have mt := Tr.many_toks t
    have kn := knots_ok (su := su) M.h16 (n' + 1) t (by omega) (by omega)
    by_cases c1 : e = ws.length
    · have c1' : ((e : Nat) : Int) = (ws.length : Int) := by omega
      by_cases c2 : t.many ≤ 400
      · have c2' : ¬ (400 : Int) < (t.many : Int) := by omega
        left
        have hr : rest = [] := List.eq_nil_of_length_eq_zero (by omega)
        refine ⟨t, ⟨k1, k2, c2, ?_⟩, ?_⟩
        · rw [hcp, k3, hr, List.append_nil]
        · rw [c1] at ta
          simp (disch := first | assumption | omega | (simp <;> omega) | fail) [f_read_tree, startR, w, ta, kn, c2']
      · have c2' : (400 : Int) < (t.many : Int) := by omega
        right
        rw [c1] at ta
        simp (disch := first | assumption | omega | (simp <;> omega) | fail) [f_read_tree, startR, w, ta, kn, c2']
    · have c1' : ¬ ((e : Nat) : Int) = (ws.length : Int) := by omega
      right
      simp (disch := first | assumption | omega | (simp <;> omega) | fail) [f_read_tree, startR, w, ta, c1']
theorem law_told4_ok (M : RdF Ps) (h355 : Ps 355 = some f_law_told_4) (a0 : su 2 0 = some true) (a2 : su 2 2 = some true) (a10 : su 2 10 = some true) (a1 : su 2 1 = some false) (a5 : su 2 5 = some false) {ks : List (Str × Int)} (h3 : ∀ p ∈ ks, p.2 ≤ 3) {s : Str} (hl : s.length ≤ 50000) (n : Nat) (hn : 70 ≤ n) :
    (∃ t : Tr, (t.knd ks ∧ t.high ≤ 30 ∧ t.many ≤ 400 ∧ wordsL s.cps.toList = cpsL t.toks) ∧ runD su Ps (n + 2) 355 [.tup (ks.map kD), .str s] = .ok (.tup [t.d, .lst []]) []) ∨
    (runD su Ps (n + 1) 83 [.tup (ks.map kD), .str s] = .exc 2 [] ∧ runD su Ps (n + 2) 355 [.tup (ks.map kD), .str s] = .ok (.tup [.non, .lst [.bl true, .bl true, .bl false, .bl false]]) []) := by
  rcases read_tree_all (su := su) M h3 hl n hn with ⟨t, ht, e⟩ | e
  · left
    refine ⟨t, ht, ?_⟩
    refine (ret_of h355 rfl rfl ?_).eq
    simp (disch := first | assumption | omega | (simp <;> omega) | fail) [f_law_told_4, startR, e]
  · right
    refine ⟨e, ?_⟩
    refine (ret_of h355 rfl rfl ?_).eq
    simp (disch := first | assumption | omega | (simp <;> omega) | fail) [f_law_told_4, startR, e, evXis, a0, a1, a2, a5, a10]
theorem law_words_ok (h354 : Ps 354 = some f_law_words) {ks : List (Str × Int)} (h3 : ∀ p ∈ ks, p.2 ≤ 3) : ∀ (n : Nat) (t : Tr) (d : Nat), t.knd ks → t.high ≤ n → t.high ≤ d → t.many ≤ 1000 → runD su Ps n 354 [t.d, .tup (ks.map kD), .int d] = .ok (.lst (t.toks.map D.str)) []
  | 0, .mk nm us, d, _, h, _, _ => by rw [Tr.high] at h; omega
  | n + 1, .mk nm us, d, hk, hn, hd, hm => by
    have hk0 := hk
    rw [Tr.knd] at hk
    rw [Tr.high] at hn hd
    rw [Tr.many] at hm
    obtain ⟨d, rfl⟩ : ∃ m, d = m + 1 := ⟨d - 1, by omega⟩
    have hin := manyOf_in (nm := nm) (ks := ks) (by omega)
    have u3 : (us.length : Int) ≤ 3 := by have := h3 _ hin; omega
    rw [hk.1] at hin
    have ni := pr_notin_kinds (ks := ks) (nm := nm) (m := us.length)
    rw [decide_eq_true hin] at ni
    have dl : evPrim .len [.tup (.str nm :: us.map Tr.d)] = .ok (.int ((us.length : Int) + 1)) := by
      show Bk.R.ok (D.int (((D.str nm :: us.map Tr.d).length : Nat) : Int)) = _
      rw [List.length_cons, List.length_map]
      rfl
    have i0 : evPrim .idx [.tup (.str nm :: us.map Tr.d), .int 0] = .ok (.str nm) := pr_idx_t0 _ _
    have ty : evPrim (.isi .tuple) [.tup (.str nm :: us.map Tr.d)] = .ok (.bl true) := rfl
    have d0 : ¬ ((d : Int) + 1 = 0) := by omega
    have l1 : ¬ ((us.length : Int) + 1 < 1) := by omega
    have sg : ∀ b : Bool, evPrim .idx [.lst [.str (Str.ofString "("), .str (Str.ofString ",")], .int (if b = true then 1 else 0)] = .ok (.str (sgn (!b))) := fun b => by
      cases b
      · exact idxl_get (j := 0) rfl rfl
      · exact idxl_get (j := 1) rfl rfl
    have X : ∀ (j : Nat) (u : Tr), us[j]? = some u → evPrim .idx [.tup (.str nm :: us.map Tr.d), .int (1 + (j : Int))] = .ok u.d := fun j u h => idx_get (j := j + 1) (by omega) (by rw [List.getElem?_cons_succ, List.getElem?_map, h]; rfl)
    rw [Tr.d_mk]
    obtain ⟨TD, hTD⟩ : ∃ x, x = D.tup (.str nm :: us.map Tr.d) := ⟨_, rfl⟩
    rw [← hTD] at dl i0 ty X ⊢
    have fin : ((Tr.mk nm us).toks.map D.str) = (if us = [] then [.str nm] else .str nm :: ((Tr.lpT true us).map D.str ++ [.str (Str.ofString ")")])) := by
      rw [Tr.toks]
      by_cases h0 : us = []
      · simp [h0]
      · simp [h0]
    rw [fin]
    refine (ret_of h354 rfl rfl ?_).eq
    simp (disch := first | assumption | omega | (simp <;> omega) | fail) [f_law_words, startR, dl, i0, ty, ni, d0, l1, ofOpt, isTy]
    refine w_for_k (L := us) (ρ := [.fz TD, .fz (.tup (ks.map kD)), .fz (.int ((d : Int) + 1)), .own (.lst [.str nm]), .un, .un]) rfl (fun pre ρ => ∃ s4 s5, ρ = [.fz TD, .fz (.tup (ks.map kD)), .fz (.int ((d : Int) + 1)), .own (.lst (.str nm :: (Tr.lpT true pre).map D.str)), s4, s5]) ⟨.un, .un, by simp [Tr.lpT]⟩ (fun pre u post ρ e hI => ?_) (fun ρ hI => ?_)
    · obtain ⟨s4, s5, rfl⟩ := hI
      have mu : u ∈ us := by rw [e]; simp
      have uh := Tr.high_mem mu
      have um := Tr.many_mem mu
      have pl : pre.length < us.length := by rw [e, List.length_append, List.length_cons]; omega
      have hx : us[pre.length]? = some u := by rw [e, List.getElem?_append_right (Nat.le_refl _), Nat.sub_self]; rfl
      have ku : u.knd ks := by
        have : ∀ l : List Tr, Tr.kndL ks l → u ∈ l → u.knd ks := by
          intro l
          induction l with
          | nil => intro _ h; cases h
          | cons v l ih =>
            intro h1 h2
            rw [Tr.kndL] at h1
            rcases List.mem_cons.mp h2 with rfl | h2
            · exact h1.1
            · exact ih h1.2 h2
        exact this us hk.2.2 mu
      have ih := law_words_ok h354 h3 n u d ku (by omega) (by omega) (by omega)
      have Xu := X pre.length u hx
      have dd : (d : Int) + 1 - 1 = (d : Int) := by omega
      have s1 := sg (decide (0 < pre.length))
      have es : (!decide (0 < pre.length)) = (true && pre.isEmpty) := by cases pre <;> simp
      rw [es] at s1
      have bl : (if decide (0 < pre.length) = true then (1 : Int) else 0) = (if (1 : Int) < 1 + (pre.length : Int) then 1 else 0) := by
        by_cases h : 0 < pre.length
        · have h' : (1 : Int) < 1 + (pre.length : Int) := by omega
          rw [if_pos h', if_pos (decide_eq_true h)]
        · have h' : ¬ (1 : Int) < 1 + (pre.length : Int) := by omega
          rw [if_neg h', if_neg (by simpa using h)]
      rw [bl] at s1
      have tl := Tr.toks_len u
      have ll := Tr.lpT_len pre true
      have pm : Tr.manyL pre ≤ Tr.manyL us := by
        have : ∀ a : List Tr, Tr.manyL a ≤ Tr.manyL (a ++ u :: post) := by
          intro a
          induction a with
          | nil => rw [Tr.manyL]; omega
          | cons b a ih => rw [List.cons_append, Tr.manyL, Tr.manyL]; omega
        rw [e]
        exact this pre
      rw [Tr.lpT_snoc]
      generalize sgn (true && pre.isEmpty) = SG at *
      obtain ⟨A, hA⟩ : ∃ A, A = (Tr.lpT true pre).map D.str := ⟨_, rfl⟩
      obtain ⟨B, hB⟩ : ∃ B, B = u.toks.map D.str := ⟨_, rfl⟩
      have Al : A.length ≤ 5000 := by rw [hA, List.length_map]; omega
      have Bl : B.length ≤ 5000 := by rw [hB, List.length_map]; omega
      have goal : .str nm :: (Tr.lpT true pre ++ SG :: u.toks).map D.str = D.str nm :: A ++ [.str SG] ++ B := by rw [hA, hB]; simp
      rw [goal, ← hA]
      rw [← hB] at ih
      have nN : evPrim .isN [.lst B] = .ok (.bl false) := rfl
      simp (disch := first | assumption | omega | (simp <;> omega) | fail) [forB, Xu, dd, ih, s1, nN]
    · obtain ⟨s4, s5, rfl⟩ := hI
      have ll := Tr.lpT_len us true
      obtain ⟨A, hA⟩ : ∃ A, A = (Tr.lpT true us).map D.str := ⟨_, rfl⟩
      have Al : A.length ≤ 5000 := by rw [hA, List.length_map]; omega
      rw [← hA]
      by_cases h0 : us = []
      · have hA0 : A = [] := by rw [hA, h0]; simp [Tr.lpT]
        rw [hA0]
        have c : ¬ ((us.length : Int) + 1 > 1) := by rw [h0]; simp
        simp (disch := first | assumption | omega | (simp <;> omega) | fail) [dl, c, h0]
      · have c : (us.length : Int) + 1 > 1 := by
          have := List.length_pos_iff.mpr h0
          omega
        simp (disch := first | assumption | omega | (simp <;> omega) | fail) [dl, c, h0]
end
end Bk

/-! A83: words spoilt (k08: 352, 353). -/
namespace Bk
open PySem
/-- a word of such a text -/
def WdOk (w : Str) : Prop := (GoodL w.cps.toList ∨ BadL w.cps.toList) ∧ w.length ≤ 9
theorem wd_good {w : Str} (h : isWd w = true) : WdOk w := by
  obtain ⟨h1, h2, h3⟩ := wd_letters h
  exact ⟨.inl (GoodL.letters fun c hc => List.all_eq_true.mp h2 c hc), by omega⟩
theorem sign_good {w : Str} {c : Nat} (h : w.cps.toList = [c]) (hc : c ∈ [40, 41, 44, 65, 49, 46, 45]) : WdOk w := by
  refine ⟨.inl (by rw [h]; exact GoodL.sign hc), ?_⟩
  have : w.length = w.cps.toList.length := rfl
  rw [this, h]
  show 1 ≤ 9
  decide
def oddL : List Str := [Str.ofString "(", Str.ofString ")", Str.ofString ",", Str.ofString "zzzzzzzz", Str.ofString "A", Str.ofString "1", Str.ofString ".", Str.ofString "-", Str.ofString "()", Str.ofString "( )", Str.ofString ",,"]
theorem oddL_ok : ∀ w ∈ oddL, WdOk w := fun w hw => by
  unfold oddL at hw
  simp only [List.mem_cons, List.not_mem_nil, or_false] at hw
  rcases hw with rfl | rfl | rfl | rfl | rfl | rfl | rfl | rfl | rfl | rfl | rfl
  · exact sign_good (c := 40) (by decide) (by decide)
  · exact sign_good (c := 41) (by decide) (by decide)
  · exact sign_good (c := 44) (by decide) (by decide)
  · exact wd_good (by decide)
  · exact sign_good (c := 65) (by decide) (by decide)
  · exact sign_good (c := 49) (by decide) (by decide)
  · exact sign_good (c := 46) (by decide) (by decide)
  · exact sign_good (c := 45) (by decide) (by decide)
  · exact ⟨.inr (.inl (by decide)), by decide⟩
  · refine ⟨.inl ?_, by decide⟩
    have e : (Str.ofString "( )").cps.toList = [40] ++ 32 :: [41] := by decide
    rw [e]
    exact (GoodL.sign (by decide)).app (GoodL.sign (by decide))
  · exact ⟨.inr (.inr (by decide)), by decide⟩
/-- a word of a tree -/
def TkOk (w : Str) : Prop := isWd w = true ∨ w ∈ [Str.ofString "(", Str.ofString ")", Str.ofString ","]
theorem TkOk.wd {w : Str} (h : TkOk w) : WdOk w ∧ 1 ≤ w.length ∧ w.length ≤ 8 := by
  rcases h with h | h
  · refine ⟨wd_good h, ?_⟩
    unfold isWd at h
    simp only [Bool.and_eq_true, decide_eq_true_eq] at h
    exact h.2
  · simp only [List.mem_cons, List.not_mem_nil, or_false] at h
    rcases h with rfl | rfl | rfl
    · exact ⟨sign_good (c := 40) (by decide) (by decide), by decide, by decide⟩
    · exact ⟨sign_good (c := 41) (by decide) (by decide), by decide, by decide⟩
    · exact ⟨sign_good (c := 44) (by decide) (by decide), by decide, by decide⟩
/-- such a word with a blank within -/
theorem TkOk.cut {w : Str} (h : TkOk w) (k : Nat) (hk : 1 ≤ k) : GoodL (w.cps.toList.take k ++ 32 :: w.cps.toList.drop k) := by
  rcases h with h | h
  · obtain ⟨h1, h2, h3⟩ := wd_letters h
    have hl : ∀ c ∈ w.cps.toList, isL c = true := fun c hc => List.all_eq_true.mp h2 c hc
    exact (GoodL.letters fun c hc => hl c (List.mem_of_mem_take hc)).app (GoodL.letters fun c hc => hl c (List.mem_of_mem_drop hc))
  · obtain ⟨c, e, hc⟩ : ∃ c, w.cps.toList = [c] ∧ c ∈ [40, 41, 44, 65, 49, 46, 45] := by
      simp only [List.mem_cons, List.not_mem_nil, or_false] at h
      rcases h with rfl | rfl | rfl
      · exact ⟨40, by decide, by decide⟩
      · exact ⟨41, by decide, by decide⟩
      · exact ⟨44, by decide, by decide⟩
    rw [e, List.take_of_length_le (by simpa using hk), List.drop_of_length_le (by simpa using hk)]
    exact (GoodL.sign hc).app (GoodL.letters fun c hc => nomatch hc)
section
variable {su : Subs} {Ps : Nat → Option Df}
theorem law_odd_ok (h352 : Ps 352 = some f_law_odd) {ks : List (Str × Int)} (hw : ∀ p ∈ ks, isWd p.1 = true) (kl : ks.length ≤ 8) (n : Nat) (c : Int) : ∃ w, WdOk w ∧ runD su Ps (n + 1) 352 [.int c, .tup (ks.map kD)] = .ok (.str w) [] := by
  obtain ⟨L, hL⟩ : ∃ L, L = oddL ++ ks.map (·.1) := ⟨_, rfl⟩
  have ok : ∀ w ∈ L, WdOk w := fun w h => by
    rw [hL] at h
    rcases List.mem_append.mp h with h | h
    · exact oddL_ok w h
    · obtain ⟨p, hp, rfl⟩ := List.mem_map.mp h
      exact wd_good (hw p hp)
  have ll : L.length = 11 + ks.length := by rw [hL, List.length_append, List.length_map]; rfl
  have i0 := Int.emod_nonneg c (show (L.length : Int) ≠ 0 by omega)
  have i1 := Int.emod_lt_of_pos c (show (0 : Int) < (L.length : Int) by omega)
  obtain ⟨i, hi⟩ : ∃ i : Nat, c % (L.length : Int) = (i : Nat) := ⟨_, (Int.toNat_of_nonneg i0).symm⟩
  have il : i < L.length := by omega
  refine ⟨L[i], ok _ (List.getElem_mem il), ?_⟩
  have X : evPrim .idx [.lst (L.map D.str), .int (i : Nat)] = .ok (.str L[i]) := idxl_get rfl (by rw [List.getElem?_map, List.getElem?_eq_getElem il]; rfl)
  have md : evPrim .mod [.int c, .int (L.length : Nat)] = .ok (.int (i : Nat)) := by rw [← hi]; exact pr_mod _ _ (by omega)
  have hcr : ∀ (q : En) (σ : Rho) (a b d e : Sl), cmpRun2 q (.op .idx [.var 3, .cst (.int 0)]) (.v 3) none σ (ks.map kD) (.ok (none, [a, b, d, e])) = .ok (.lst (ks.map fun p => .str p.1)) [a, b, d, e] := fun q σ a b d e =>
    comp_run ks kD (fun p => .str p.1) (by omega) (by simp) (fun y hy => by simp [cmpB, wipeR, kd0])
  have it : itemsOf (.tup (ks.map kD)) = .ok (ks.map kD) := rfl
  obtain ⟨OD, hOD⟩ : ∃ x, x = oddL.map D.str := ⟨_, rfl⟩
  have odl : OD.length = 11 := by rw [hOD]; rfl
  have ol : evPrim .lst [.str (Str.ofString "("), .str (Str.ofString ")"), .str (Str.ofString ","), .str (Str.ofString "zzzzzzzz"), .str (Str.ofString "A"), .str (Str.ofString "1"), .str (Str.ofString "."), .str (Str.ofString "-"), .str (Str.ofString "()"), .str (Str.ofString "( )"), .str (Str.ofString ",,")] = .ok (.lst OD) := by rw [hOD]; rfl
  have ad : evPrim .add [.lst OD, .lst (ks.map fun p => .str p.1)] = .ok (.lst (L.map D.str)) := by
    rw [pr_add_lst _ _ (by rw [List.length_map]; omega), hOD, hL, List.map_append, List.map_map]
    rfl
  have len : evPrim .len [.lst (L.map D.str)] = .ok (.int (L.length : Nat)) := congrArg (fun k : Nat => R.ok (D.int k)) (List.length_map ..)
  generalize L[i] = w at *
  obtain ⟨LD, hLD⟩ : ∃ x, x = L.map D.str := ⟨_, rfl⟩
  rw [← hLD] at X ad len
  obtain ⟨KN, hKN⟩ : ∃ x, x = ks.map (fun p => D.str p.1) := ⟨_, rfl⟩
  rw [← hKN] at hcr ad
  generalize ks.map kD = KT at *
  refine (ret_of h352 rfl rfl ?_).eq
  simp only [f_law_odd]
  simp (disch := first | assumption | omega | (simp <;> omega) | fail) [startR, -pr_lst, ol, it, hcr, ad, len, md, X]
/-- words that are spoilt -/
structure SpOk (TW ws : List Str) : Prop where
  ok : ∀ w ∈ ws, WdOk w
  len : ws.length ≤ TW.length + 1
theorem law_spoiled3_ok (h352 : Ps 352 = some f_law_odd) (h353 : Ps 353 = some f_law_spoiled_3) {ks : List (Str × Int)} (hw : ∀ p ∈ ks, isWd p.1 = true) (kl : ks.length ≤ 8) (n : Nat) {TW : List Str} (ht : ∀ w ∈ TW, TkOk w) (tl : TW.length ≤ 5000) (c : Int) :
    ∃ ws, SpOk TW ws ∧ runD su Ps (n + 2) 353 [.lst (TW.map D.str), .int c, .tup (ks.map kD)] = .ok (.lst (ws.map D.str)) [] := by
  have i0 := Int.emod_nonneg (c / 4) (show (TW.length : Int) + 1 ≠ 0 by omega)
  have i1 := Int.emod_lt_of_pos (c / 4) (show (0 : Int) < (TW.length : Int) + 1 by omega)
  obtain ⟨i, hi⟩ : ∃ i : Nat, c / 4 % ((TW.length : Int) + 1) = (i : Nat) := ⟨_, (Int.toNat_of_nonneg i0).symm⟩
  have il : i ≤ TW.length := by omega
  have md : evPrim .mod [.int (c / 4), .int ((TW.length : Int) + 1)] = .ok (.int (i : Nat)) := by rw [← hi]; exact pr_mod _ _ (by omega)
  obtain ⟨y, hy⟩ : ∃ y, y = c / 4 / ((TW.length : Int) + 1) := ⟨_, rfl⟩
  have fd : evPrim .fdiv [.int (c / 4), .int ((TW.length : Int) + 1)] = .ok (.int y) := by rw [hy]; exact pr_fdiv _ _ (by omega) (by omega)
  obtain ⟨od, od1, OD⟩ := law_odd_ok (su := su) h352 hw kl n y
  have len : evPrim .len [.lst (TW.map D.str)] = .ok (.int (TW.length : Nat)) := congrArg (fun k : Nat => R.ok (D.int k)) (List.length_map ..)
  have sT : evPrim (.slc false true) [.lst (TW.map D.str), .int (i : Nat)] = .ok (.lst ((TW.take i).map D.str)) := by rw [pr_slc_lto, List.map_take]
  have sF : evPrim (.slc true false) [.lst (TW.map D.str), .int (i : Nat)] = .ok (.lst ((TW.drop i).map D.str)) := by rw [pr_slc_lfrom, List.map_drop]
  have sG : evPrim (.slc true false) [.lst (TW.map D.str), .int ((i : Int) + 1)] = .ok (.lst ((TW.drop (i + 1)).map D.str)) := by rw [show ((i : Int) + 1) = ((i + 1 : Nat) : Int) by omega, pr_slc_lfrom, List.map_drop]
  have lo1 : evPrim .lstOf [.lst (TW.map D.str)] = .ok (.lst (TW.map D.str)) := rfl
  have tkw : ∀ w ∈ TW, WdOk w := fun w h => (ht w h).wd.1
  have pieces : ∀ (A B C : List Str), (∀ w ∈ A, w ∈ TW) → (∀ w ∈ B, WdOk w) → (∀ w ∈ C, w ∈ TW) → A.length + B.length + C.length ≤ TW.length + 1 → SpOk TW (A ++ B ++ C) := fun A B C hA hB hC hl => ⟨fun w h => by
    rcases List.mem_append.mp h with h | h
    · rcases List.mem_append.mp h with h | h
      · exact tkw w (hA w h)
      · exact hB w h
    · exact tkw w (hC w h), by rw [List.length_append, List.length_append]; exact hl⟩
  have mT : ∀ w ∈ TW.take i, w ∈ TW := fun w h => List.mem_of_mem_take h
  have mF : ∀ w ∈ TW.drop i, w ∈ TW := fun w h => List.mem_of_mem_drop h
  have mG : ∀ w ∈ TW.drop (i + 1), w ∈ TW := fun w h => List.mem_of_mem_drop h
  have lT : (TW.take i).length = i := by rw [List.length_take]; omega
  have lF : (TW.drop i).length = TW.length - i := List.length_drop ..
  have lG : (TW.drop (i + 1)).length = TW.length - (i + 1) := List.length_drop ..
  have ad1 : ∀ (w : Str), evPrim .add [.lst ((TW.take i).map D.str), .lst [.str w]] = .ok (.lst ((TW.take i ++ [w]).map D.str)) := fun w => by
    rw [pr_add_lst _ _ (by rw [List.length_map]; simp only [List.length_cons, List.length_nil]; omega), List.map_append]
    rfl
  have ad2 : ∀ (A B : List Str), A.length ≤ 6000 → B.length ≤ 6000 → evPrim .add [.lst (A.map D.str), .lst (B.map D.str)] = .ok (.lst ((A ++ B).map D.str)) := fun A B hA hB => by
    rw [pr_add_lst _ _ (by rw [List.length_map, List.length_map]; omega), List.map_append]
  by_cases c5 : c / 4 % 6 = 5 ∧ (i : Int) < (TW.length : Int)
  · obtain ⟨c5, c6⟩ := c5
    have il : i < TW.length := by omega
    obtain ⟨w, hw0⟩ : ∃ w, w = TW[i] := ⟨_, rfl⟩
    have X : evPrim .idx [.lst (TW.map D.str), .int (i : Nat)] = .ok (.str w) := by rw [hw0]; exact idxl_get rfl (by rw [List.getElem?_map, List.getElem?_eq_getElem il]; rfl)
    have wk := ht w (by rw [hw0]; exact List.getElem_mem il)
    obtain ⟨w1, w2, w3⟩ := wk.wd
    obtain ⟨h, hh, h1⟩ : ∃ h : Nat, ((w.length : Int) + 1) / 2 = (h : Nat) ∧ 1 ≤ h := ⟨(w.length + 1) / 2, by omega, by omega⟩
    obtain ⟨A, hA⟩ : ∃ x, x = (⟨(w.cps.toList.take h).toArray⟩ : Str) := ⟨_, rfl⟩
    obtain ⟨B, hB⟩ : ∃ x, x = (⟨(w.cps.toList.drop h).toArray⟩ : Str) := ⟨_, rfl⟩
    have s1 : evPrim (.slc false true) [.str w, .int (h : Nat)] = .ok (.str A) := by rw [hA]; exact pr_slc_to (by omega)
    have s2 : evPrim (.slc true false) [.str w, .int (h : Nat)] = .ok (.str B) := by rw [hB]; exact pr_slc_sfrom (by omega)
    have wl : w.cps.toList.length = w.length := rfl
    have bl : (Str.ofString " ").length = 1 := rfl
    have bc : (Str.ofString " ").cps.toList = [32] := by decide
    have Al : A.length ≤ 8 := by rw [hA, len_mk, List.length_take]; omega
    have Bl : B.length ≤ 8 := by rw [hB, len_mk, List.length_drop]; omega
    obtain ⟨U, hU⟩ : ∃ x, x = A ++ Str.ofString " " := ⟨_, rfl⟩
    have Uc : U.cps.toList = A.cps.toList ++ [32] := by rw [hU]; show (A.cps ++ (Str.ofString " ").cps).toList = _; rw [Array.toList_append, bc]
    have Ul : U.length ≤ 9 := by
      have : U.length = U.cps.toList.length := rfl
      rw [this, Uc, List.length_append]
      have : A.cps.toList.length = A.length := rfl
      simp only [List.length_cons, List.length_nil]; omega
    have a1 : evPrim .add [.str A, .str (Str.ofString " ")] = .ok (.str U) := by rw [hU]; exact pr_add_str _ _ (by omega)
    obtain ⟨V, hV⟩ : ∃ x, x = U ++ B := ⟨_, rfl⟩
    have Vc : V.cps.toList = w.cps.toList.take h ++ 32 :: w.cps.toList.drop h := by
      rw [hV]
      show (U.cps ++ B.cps).toList = _
      rw [Array.toList_append, Uc, hA, hB]
      simp
    have Vl : V.length ≤ 9 := by
      have : V.length = V.cps.toList.length := rfl
      rw [this, Vc, List.length_append, List.length_cons, List.length_take, List.length_drop]
      omega
    have a2 : evPrim .add [.str U, .str B] = .ok (.str V) := by rw [hV]; exact pr_add_str _ _ (by omega)
    have Vk : WdOk V := ⟨.inl (by rw [Vc]; exact wk.cut h h1), Vl⟩
    have wlen : evPrim .len [.str w] = .ok (.int (w.length : Nat)) := by simp (disch := first | assumption | omega | (simp <;> omega) | fail) []
    refine ⟨TW.take i ++ [V] ++ TW.drop (i + 1), pieces _ _ _ mT (fun x hx => by rw [List.mem_singleton.mp hx]; exact Vk) mG (by rw [lT, lG]; simp only [List.length_cons, List.length_nil]; omega), ?_⟩
    have b1 := ad1 V
    have b2 := ad2 (TW.take i ++ [V]) (TW.drop (i + 1)) (by rw [List.length_append, lT]; simp only [List.length_cons, List.length_nil]; omega) (by omega)
    generalize (TW.take i ++ [V] ++ TW.drop (i + 1)).map D.str = Z at *
    generalize (TW.take i ++ [V]).map D.str = Z1 at *
    generalize (TW.take i).map D.str = Z2 at *
    generalize (TW.drop (i + 1)).map D.str = Z3 at *
    generalize TW.map D.str = TD at *
    generalize D.tup (ks.map kD) = KT at *
    refine (ret_of h353 rfl rfl ?_).eq
    simp (disch := first | assumption | omega | (simp <;> omega) | fail) [f_law_spoiled_3, startR, len, md, fd, OD, c5, c6, X, wlen, hh, s1, s2, a1, a2, sT, sG, b1, b2]
  · have cc : ∀ (K : Prop), (c / 4 % 6 = 5 → (i : Int) < (TW.length : Int) → K) := fun K h1 h2 => absurd ⟨h1, h2⟩ c5
    have run : ∀ (ws : List Str), (∃ m : Int, c % 4 = m ∧ ((m = 0 ∧ ws = TW) ∨ (m = 1 ∧ ws = TW.take i ++ TW.drop (i + 1)) ∨ (m = 2 ∧ ws = TW.take i ++ [od] ++ TW.drop (i + 1)) ∨ (m = 3 ∧ ws = TW.take i ++ [od] ++ TW.drop i))) →
        runD su Ps (n + 2) 353 [.lst (TW.map D.str), .int c, .tup (ks.map kD)] = .ok (.lst (ws.map D.str)) [] := fun ws hws => by
      have b0 := ad2 (TW.take i) (TW.drop (i + 1)) (by omega) (by omega)
      have b1 := ad1 od
      have b2 := ad2 (TW.take i ++ [od]) (TW.drop (i + 1)) (by rw [List.length_append, lT]; simp only [List.length_cons, List.length_nil]; omega) (by omega)
      have b3 := ad2 (TW.take i ++ [od]) (TW.drop i) (by rw [List.length_append, lT]; simp only [List.length_cons, List.length_nil]; omega) (by omega)
      obtain ⟨m, cm, hws⟩ := hws
      rcases hws with ⟨rfl, e⟩ | ⟨rfl, e⟩ | ⟨rfl, e⟩ | ⟨rfl, e⟩
      all_goals
        rw [e]
        clear e
        generalize (TW.take i ++ [od] ++ TW.drop (i + 1)).map D.str = Z at *
        generalize (TW.take i ++ [od] ++ TW.drop i).map D.str = Z0 at *
        generalize (TW.take i ++ TW.drop (i + 1)).map D.str = Z4 at *
        generalize (TW.take i ++ [od]).map D.str = Z1 at *
        generalize (TW.take i).map D.str = Z2 at *
        generalize (TW.drop (i + 1)).map D.str = Z3 at *
        generalize (TW.drop i).map D.str = Z5 at *
        generalize TW.map D.str = TD at *
        generalize D.tup (ks.map kD) = KT at *
        refine (ret_of h353 rfl rfl ?_).eq
        by_cases c7 : c / 4 % 6 = 5
        · have c6 : ¬ (i : Int) < (TW.length : Int) := fun z => c5 ⟨c7, z⟩
          simp (disch := first | assumption | omega | (simp <;> omega) | fail) [f_law_spoiled_3, startR, len, md, fd, OD, c7, c6, cm, lo1, sT, sG, sF, b0, b1, b2, b3]
        · simp (disch := first | assumption | omega | (simp <;> omega) | fail) [f_law_spoiled_3, startR, len, md, fd, OD, c7, cm, lo1, sT, sG, sF, b0, b1, b2, b3]
    have ms : c % 4 = 0 ∨ c % 4 = 1 ∨ c % 4 = 2 ∨ c % 4 = 3 := by omega
    rcases ms with e | e | e | e
    · exact ⟨TW, ⟨tkw, by omega⟩, run _ ⟨_, e, .inl ⟨rfl, rfl⟩⟩⟩
    · refine ⟨TW.take i ++ TW.drop (i + 1), ?_, run _ ⟨_, e, .inr (.inl ⟨rfl, rfl⟩)⟩⟩
      have := pieces (TW.take i) [] (TW.drop (i + 1)) mT (fun w h => nomatch h) mG (by rw [lT, lG]; simp only [List.length_nil]; omega)
      rwa [List.append_nil] at this
    · exact ⟨_, pieces _ _ _ mT (fun x hx => by rw [List.mem_singleton.mp hx]; exact od1) mG (by rw [lT, lG]; simp only [List.length_cons, List.length_nil]; omega), run _ ⟨_, e, .inr (.inr (.inl ⟨rfl, rfl⟩))⟩⟩
    · exact ⟨_, pieces _ _ _ mT (fun x hx => by rw [List.mem_singleton.mp hx]; exact od1) mF (by rw [lT, lF]; simp only [List.length_cons, List.length_nil]; omega), run _ ⟨_, e, .inr (.inr (.inr ⟨rfl, rfl⟩))⟩⟩
end
end Bk

/-! k08: no other text. -/
namespace Bk
open PySem
theorem TkOk.one {w : Str} (h : TkOk w) : wordsL w.cps.toList = [w.cps.toList] := by
  rcases h with h | h
  · obtain ⟨h1, h2, h3⟩ := wd_letters h
    have := fold_words [(w.cps.toList, 0)] [] none ⟨.inl ⟨h1, h2, rfl⟩, trivial⟩
    rw [List.nil_append] at this
    unfold wordsL
    simpa [flatW] using this
  · simp only [List.mem_cons, List.not_mem_nil, or_false] at h
    rcases h with rfl | rfl | rfl <;> decide
theorem toks_words {ks : List (Str × Int)} {t : Tr} (hk : t.knd ks) : wordsL (Txt.join (Str.ofString " ") t.toks).cps.toList = cpsL t.toks := by
  rw [join_words]
  have : ∀ l : List Str, (∀ w ∈ l, TkOk w) → (l.flatMap fun q => wordsL q.cps.toList) = cpsL l := by
    intro l
    induction l with
    | nil => intro _; rfl
    | cons w l ih =>
      intro h
      rw [List.flatMap_cons, (h w List.mem_cons_self).one, ih fun x hx => h x (List.mem_cons_of_mem _ hx)]
      rfl
  exact this _ (Tr.toks_form t hk)
theorem sum_le (b : Nat) : ∀ l : List Str, (∀ w ∈ l, w.length ≤ b) → (l.map (·.length)).sum ≤ b * l.length
  | [], _ => by simp
  | w :: l, h => by
    have h1 := h w List.mem_cons_self
    have h2 := sum_le b l fun x hx => h x (List.mem_cons_of_mem _ hx)
    simp only [List.map_cons, List.sum_cons, List.length_cons, Nat.mul_add, Nat.mul_one]
    omega
theorem rep08 {T : Str} (hl : T.length ≤ 50000) (h1 : nadj 40 41 T.cps.toList) (h2 : nadj 44 44 T.cps.toList) : evRep2 (Str.ofString "()") (Str.ofString "( )") (Str.ofString ",,") (Str.ofString ", ,") (.str T) = .ok (.str T) := by
  have l1 : (Str.ofString "( )").length = 3 := by decide
  have l2 : (Str.ofString ", ,").length = 3 := by decide
  have n1 : (Str.ofString "()" == Str.ofString "( )") = false := by decide
  have n2 : (Str.ofString ",," == Str.ofString ", ,") = false := by decide
  have a : evRep1 (Str.ofString "()") (Str.ofString "( )") (.str T) = .ok (.str T) := by
    show okIf (decide (T.length + (T.length + 1) * (Str.ofString "( )").length ≤ 16777216) && !(Str.ofString "()" == Str.ofString "( )")) (.str (Txt.replace T (Str.ofString "()") (Str.ofString "( )"))) = _
    rw [l1, n1, decide_eq_true (by omega), rep_same (a := 40) (b := 41) (by decide) h1]
    rfl
  have b : evRep1 (Str.ofString ",,") (Str.ofString ", ,") (.str T) = .ok (.str T) := by
    show okIf (decide (T.length + (T.length + 1) * (Str.ofString ", ,").length ≤ 16777216) && !(Str.ofString ",," == Str.ofString ", ,")) (.str (Txt.replace T (Str.ofString ",,") (Str.ofString ", ,"))) = _
    rw [l2, n2, decide_eq_true (by omega), rep_same (a := 44) (b := 44) (by decide) h2]
    rfl
  unfold evRep2
  rw [a]
  exact b
theorem plain (ns : List Int) (h : ns.length ≤ 63) : runD suT (tbl tabT) 228 lawI [.scr ns] = .ok (.bl true) [] := by
  have M : RdF (tbl tabT) := ⟨rfl, rfl, rfl, rfl, rfl, rfl, rfl, rfl⟩
  have hc := law_cell_at_ok (su := suT) (Ps := tbl tabT) rfl 226 ns
  have hki := law_kinds_ok (su := suT) (Ps := tbl tabT) rfl rfl 225 (cellAt ns 0) (cellAt_lt ns 0)
  have p6 := p60_lt
  have K := ksOk_mk (cellAt ns 0)
  have hd := kinds_nodup (mixOf (cellAt ns 0))
  have hwd := kinds_wd (mixOf (cellAt ns 0))
  have hmy := kMany_le (mixOf (cellAt ns 0))
  have hml := kinds_len (mixOf (cellAt ns 0))
  obtain ⟨ks, hks⟩ : ∃ ks, ks = kindsOf (mixOf (cellAt ns 0)) := ⟨_, rfl⟩
  rw [← hks] at hki K hd hwd hml
  have hc0 := hc 0
  have e0 : ((0 : Nat) : Int) = 0 := rfl
  rw [e0] at hc0
  obtain ⟨ts, g1, g2, g3⟩ := law_grown_ok (su := suT) (Ps := tbl tabT) (ent := tkD) (l := 86) (o := 84) (g := 87) (n := 225) tkD1 tkD2
    (fun nm ts h0 _ _ hm => over6_ok (su := suT) (Ps := tbl tabT) rfl rfl 224 nm ts h0 hm) (fun n nm _ => leaf7_ok (su := suT) (Ps := tbl tabT) rfl n nm) rfl ns ks 30 400 h (by have := K.len; omega) K.len.2 K.nm K.lo K.lf (by omega) (by omega)
  have e30 : ((30 : Nat) : Int) = 30 := rfl
  have e400 : ((400 : Nat) : Int) = 400 := rfl
  rw [e30, e400] at g3
  obtain ⟨KT, hKT⟩ : ∃ x, x = D.tup (ks.map kD) := ⟨_, rfl⟩
  rw [← hKT] at hki g3
  have ml : evPrim .len [.lst (ts.map tkD)] = .ok (.int (ts.length : Nat)) := congrArg (fun k : Nat => R.ok (D.int k)) (List.length_map ..)
  obtain ⟨MD, hMD⟩ : ∃ x, x = D.lst (ts.map tkD) := ⟨_, rfl⟩
  rw [← hMD] at g3 ml
  refine (ret_of (df := f_law_50) (n := 227) rfl rfl rfl ?_).eq
  simp (disch := first | assumption | omega | (simp <;> omega) | fail) [f_law_50, startR, hc0, hki, g3, ml]
  obtain ⟨J, hJ⟩ : ∃ J : Nat → Rho → Prop, ∀ i ρ, J i ρ ↔ ∃ s3 s4 s5 s6 s7 s8, ρ = [.fz (.scr ns), .fz KT, .fz MD, s3, s4, s5, s6, s7, s8] := ⟨_, fun _ _ => Iff.rfl⟩
  refine w_for_r J ((hJ _ _).mpr ⟨_, _, _, _, _, _, rfl⟩) (fun i ρ hi hI => ?_) (fun ρ hI => ?_)
  · obtain ⟨s3, s4, s5, s6, s7, s8, rfl⟩ := (hJ _ _).mp hI
    have hi' : i < ts.length := by omega
    obtain ⟨t, ht⟩ : ∃ t, ts[i]? = some t := ⟨_, List.getElem?_eq_getElem hi'⟩
    have G := g1 t (List.mem_of_getElem? ht)
    have hk := Tr.kin_knd hd hwd t G.kin
    have hf := Tr.kin_fit K.nm t G.kin
    have hh := G.high
    have hm := G.many
    have tl := Tr.toks_len t
    have X : evPrim .idx [MD, .int (i : Nat)] = .ok (tkD t) := by rw [hMD]; exact idxl_get rfl (by rw [List.getElem?_map, ht]; rfl)
    have x3 := tkD3 t
    have hci := hc i
    obtain ⟨C, hC⟩ : ∃ C, C = cellAt ns i := ⟨_, rfl⟩
    rw [← hC] at hci
    obtain ⟨ws, sp, SP⟩ := law_spoiled3_ok (su := suT) (Ps := tbl tabT) rfl rfl hwd (by omega) 225 (TW := t.toks) (Tr.toks_form t hk) (by omega) (C * 1000003 + (i : Int))
    have wsl := sp.len
    have sum9 := sum_le 9 ws fun w hw => (sp.ok w hw).2
    have bl : (Str.ofString " ").length = 1 := rfl
    have jl := join_len (Str.ofString " ") ws
    have jn := me_join (Str.ofString " ") ws (by rw [bl]; omega)
    rw [bl, Nat.mul_one] at jl
    have told := law_told4_ok (su := suT) (Ps := tbl tabT) M rfl rfl rfl rfl rfl rfl K.hi (s := Txt.join (Str.ofString " ") ws) (by omega) 225 (by omega)
    have tw := fun (t' : Tr) (k : t'.knd ks) (e : wordsL (Txt.join (Str.ofString " ") ws).cps.toList = cpsL t'.toks) => told_words k (fun w hw => (sp.ok w hw).1) e
    have same : ws = t.toks → wordsL (Txt.join (Str.ofString " ") ws).cps.toList = cpsL t.toks := fun e => by rw [e]; exact toks_words hk
    have rdt := fun (e : wordsL (Txt.join (Str.ofString " ") ws).cps.toList = cpsL t.toks) => read_tree_ok (su := suT) (Ps := tbl tabT) rfl rfl rfl rfl rfl rfl rfl rfl K.hi hk hf (by omega) (by omega) e (by omega) 225 (by omega)
    obtain ⟨TX, hTX⟩ : ∃ x, x = Txt.join (Str.ofString " ") ws := ⟨_, rfl⟩
    rw [← hTX] at jn jl told tw same rdt
    rw [← hKT] at SP told rdt
    have eE : evPrim .eq [.lst [], .lst []] = .ok (.bl true) := rfl
    have eF : evPrim .eq [.lst [.bl true, .bl true, .bl false, .bl false], .lst []] = .ok (.bl false) := rfl
    have eN : evPrim .ne [.lst [.bl true, .bl true, .bl false, .bl false], .lst [.bl true, .bl true, .bl false, .bl false]] = .ok (.bl false) := rfl
    refine w_turn_mono (J' := fun ρ => ∃ s3 s4 s5 s6 s7 s8, ρ = [.fz (.scr ns), .fz KT, .fz MD, s3, s4, s5, s6, s7, s8]) (fun ρ h => (hJ _ _).mpr h) ?_
    rcases told with ⟨t', ⟨k1, k2, k3, k4⟩, TO⟩ | ⟨ex, TO⟩
    · obtain ⟨w1, w2, w3⟩ := tw t' k1 k4
      have rp := rep08 (T := TX) (by omega) w2 w3
      have LW := law_words_ok (su := suT) (Ps := tbl tabT) rfl K.hi 227 t' 30 k1 (by omega) (by omega) (by omega)
      rw [e30, ← hKT] at LW
      have wd : evMet .words [.str TX] = .ok (.lst (t'.toks.map D.str)) := by
        rw [← w1]
        show okIf (decide (TX.length + 2 ≤ sizeLine)) _ = _
        rw [decide_eq_true (by unfold sizeLine; omega)]
        rfl
      have tl2 := Tr.toks_len t'
      have s8l := sum_le 8 t'.toks fun w hw => (TkOk.wd (Tr.toks_form t' k1 w hw)).2.2
      have jn2 := me_join (Str.ofString " ") t'.toks (by rw [bl]; omega)
      have nmz := Tr.toks_names t' k1
      have hcr : ∀ (q : En) (σ : Rho) (a b c d e f g h i : Sl), cmpRun2 q (.var 8) (.v 8) (some (.op .notin [.var 8, .op .lst [.cst (.str (Str.ofString "(")), .cst (.str (Str.ofString ")")), .cst (.str (Str.ofString ","))]])) σ (t'.toks.map D.str) (.ok (none, [a, b, c, d, e, f, g, h, i])) = .ok (.lst (t'.toks.filterMap nmW)) [a, b, c, d, e, f, g, h, i] := fun q σ a b c d e f g h i =>
        comp_runIf t'.toks D.str nmW (by omega) (by simp) (fun w hw => by
          have ni : evPrim .notin [.str w, .lst [.str (Str.ofString "("), .str (Str.ofString ")"), .str (Str.ofString ",")]] = .ok (.bl (!decide (w ∈ [Str.ofString "(", Str.ofString ")", Str.ofString ","]))) := pr_notin_strs (ss := [Str.ofString "(", Str.ofString ")", Str.ofString ","])
          unfold nmW
          by_cases hm : w ∈ [Str.ofString "(", Str.ofString ")", Str.ofString ","]
          · rw [decide_eq_true hm] at ni
            rw [if_pos hm]
            simp [cmpI, wipeR, ni]
          · rw [decide_eq_false hm] at ni
            rw [if_neg hm]
            simp [cmpI, wipeR, ni])
      have flen : evPrim .len [.lst (t'.toks.filterMap nmW)] = .ok (.int (t'.many : Nat)) := by
        show R.ok (D.int ((t'.toks.filterMap nmW).length : Nat)) = _
        rw [nmz]
      have c4 : ¬ ((t'.many : Int) > 400) := by omega
      have rok : recvOk .words (.str TX) = true := rfl
      have isn : evPrim .isN [.lst (t'.toks.map D.str)] = .ok (.bl false) := rfl
      have it : itemsOf (.lst (t'.toks.map D.str)) = .ok (t'.toks.map D.str) := rfl
      generalize t'.toks.filterMap nmW = FL at *
      generalize t'.toks.map D.str = TL at *
      generalize Txt.join (Str.ofString " ") t'.toks = T2 at *
      generalize ws.map D.str = WL at *
      generalize t.toks.map D.str = TT at *
      generalize t'.d = TD at *
      generalize tkD t = TK at *
      simp (disch := first | assumption | omega | (simp <;> omega) | fail) [forB, X, x3, hci, SP, jn, TO, eE, LW, rp, wd, rok, jn2, isn, hcr, it, flen, c4]
    · have ne : ws ≠ t.toks := fun e => by
        have := rdt (same e)
        rw [ex] at this
        cases this
      have sn := strs_ne ne
      generalize ws.map D.str = WL at *
      generalize t.toks.map D.str = TT at *
      generalize tkD t = TK at *
      simp (disch := first | assumption | omega | (simp <;> omega) | fail) [forB, X, x3, hci, SP, jn, TO, eF, eN, sn]
  · obtain ⟨s3, s4, s5, s6, s7, s8, rfl⟩ := (hJ _ _).mp hI
    simp (disch := first | assumption | omega | (simp <;> omega) | fail) []
end Bk

namespace Bk
open PySem PySem.Spec PyProof.Rows L2
def topS (i : Nat) : Stmt := PySem.Challenge.pw_boughbook_k08_whole_no_other_text.main.body.getD i (.Pass ⟨0, 0, 0, 0⟩)
def cnT : List (Str × D) := [("LETTERS", (.str "abcdefghijklmnopqrstuvwxyz")), ("TALLEST", (.int 30)), ("MOST", (.int 400))]
def clL : List (Nat × (Str × Bool)) := [(0, ("BookError", true)), (1, ("NoKinds", true)), (2, ("NoTree", true)), (5, ("NoText", true)), (10, ("ValueError", false))]
def clT : Nat → Option (Str × Bool) := fun c => clL.lookup c
def nmT : Nm := nmOf (tbl tabT) cnT clT
theorem sc_f_is_name : scOk f_is_name (defScope (topS 7)) = true := by decide +kernel
theorem cm_f_is_name : cmF nmT 1000 f_is_name (topS 7) = true := by decide +kernel
theorem sc_f_many_of : scOk f_many_of (defScope (topS 8)) = true := by decide +kernel
theorem cm_f_many_of : cmF nmT 1000 f_many_of (topS 8) = true := by decide +kernel
theorem sc_f_knots : scOk f_knots (defScope (topS 9)) = true := by decide +kernel
theorem cm_f_knots : cmF nmT 1000 f_knots (topS 9) = true := by decide +kernel
theorem sc_f_words_of : scOk f_words_of (defScope (topS 13)) = true := by decide +kernel
theorem cm_f_words_of : cmF nmT 1000 f_words_of (topS 13) = true := by decide +kernel
theorem sc_f_word_at : scOk f_word_at (defScope (topS 14)) = true := by decide +kernel
theorem cm_f_word_at : cmF nmT 1000 f_word_at (topS 14) = true := by decide +kernel
theorem sc_f_kids_at : scOk f_kids_at (defScope (topS 15)) = true := by decide +kernel
theorem cm_f_kids_at : cmF nmT 1000 f_kids_at (topS 15) = true := by decide +kernel
theorem sc_f_tree_at : scOk f_tree_at (defScope (topS 16)) = true := by decide +kernel
theorem cm_f_tree_at : cmF nmT 1000 f_tree_at (topS 16) = true := by decide +kernel
theorem sc_f_read_tree : scOk f_read_tree (defScope (topS 17)) = true := by decide +kernel
theorem cm_f_read_tree : cmF nmT 1000 f_read_tree (topS 17) = true := by decide +kernel
theorem sc_f_law_cell_at : scOk f_law_cell_at (defScope (topS 19)) = true := by decide +kernel
theorem cm_f_law_cell_at : cmF nmT 1000 f_law_cell_at (topS 19) = true := by decide +kernel
theorem sc_f_law_name : scOk f_law_name (defScope (topS 20)) = true := by decide +kernel
theorem cm_f_law_name : cmF nmT 1000 f_law_name (topS 20) = true := by decide +kernel
theorem sc_f_law_kinds : scOk f_law_kinds (defScope (topS 21)) = true := by decide +kernel
theorem cm_f_law_kinds : cmF nmT 1000 f_law_kinds (topS 21) = true := by decide +kernel
theorem sc_f_law_comma : scOk f_law_comma (defScope (topS 22)) = true := by decide +kernel
theorem cm_f_law_comma : cmF nmT 1000 f_law_comma (topS 22) = true := by decide +kernel
theorem sc_f_law_over_6 : scOk f_law_over_6 (defScope (topS 23)) = true := by decide +kernel
theorem cm_f_law_over_6 : cmF nmT 1000 f_law_over_6 (topS 23) = true := by decide +kernel
theorem sc_f_law_leaf_7 : scOk f_law_leaf_7 (defScope (topS 24)) = true := by decide +kernel
theorem cm_f_law_leaf_7 : cmF nmT 1000 f_law_leaf_7 (topS 24) = true := by decide +kernel
theorem sc_f_law_grown_6 : scOk f_law_grown_6 (defScope (topS 25)) = true := by decide +kernel
theorem cm_f_law_grown_6 : cmF nmT 1000 f_law_grown_6 (topS 25) = true := by decide +kernel
theorem sc_f_law_odd : scOk f_law_odd (defScope (topS 26)) = true := by decide +kernel
theorem cm_f_law_odd : cmF nmT 1000 f_law_odd (topS 26) = true := by decide +kernel
theorem sc_f_law_spoiled_3 : scOk f_law_spoiled_3 (defScope (topS 27)) = true := by decide +kernel
theorem cm_f_law_spoiled_3 : cmF nmT 1000 f_law_spoiled_3 (topS 27) = true := by decide +kernel
theorem sc_f_law_words : scOk f_law_words (defScope (topS 28)) = true := by decide +kernel
theorem cm_f_law_words : cmF nmT 1000 f_law_words (topS 28) = true := by decide +kernel
theorem sc_f_law_told_4 : scOk f_law_told_4 (defScope (topS 29)) = true := by decide +kernel
theorem cm_f_law_told_4 : cmF nmT 1000 f_law_told_4 (topS 29) = true := by decide +kernel
theorem sc_f_law_50 : scOk f_law_50 (defScope (topS 30)) = true := by decide +kernel
theorem cm_f_law_50 : cmF nmT 1000 f_law_50 (topS 30) = true := by decide +kernel
section
set_option maxHeartbeats 0 in
theorem all_mk {P : Program} {w : World} {K : PySem.W.Frag} {h : Heap} {mg : Str → Option Value} {fa : Addr} (X : K.In h) (G : h.Ns mainGlobals mg) (hfa : mg "law" = some (.ref fa)) {f0 f1 f2 f3 f4 f5 f6 f7 f8 f9 f10 f11 f12 f13 f14 f15 f16 f17 f18 f19 C0 C1 C2 C3 : Addr}
    {od0 an0 od1 an1 od2 an2 od3 an3 od4 an4 od5 an5 od6 an6 od7 an7 od8 an8 od9 an9 od10 an10 od11 an11 od12 an12 od13 an13 od14 an14 od15 an15 od16 an16 od17 an17 od18 an18 od19 an19 : Option Addr} {sl0 sl1 sl2 sl3 sl4 sl5 sl6 sl7 sl8 sl9 sl10 sl11 sl12 sl13 sl14 sl15 sl16 sl17 sl18 sl19 : Array (Option Value)}
    {t0 t1 t2 : Tok}
    {oc0 kV0 dc0 pm0 cd0 ct0 oc1 kV1 dc1 pm1 cd1 ct1 oc2 kV2 dc2 pm2 cd2 ct2 oc3 kV3 dc3 pm3 cd3 ct3 oc4 kV4 dc4 pm4 cd4 ct4 oc5 kV5 dc5 pm5 cd5 ct5 oc6 kV6 dc6 pm6 cd6 ct6 oc7 kV7 dc7 pm7 cd7 ct7 oc8 kV8 dc8 pm8 cd8 ct8 oc9 kV9 dc9 pm9 cd9 ct9 oc10 kV10 dc10 pm10 cd10 ct10 oc11 kV11 dc11 pm11 cd11 ct11 oc12 kV12 dc12 pm12 cd12 ct12 oc13 kV13 dc13 pm13 cd13 ct13 oc14 kV14 dc14 pm14 cd14 ct14 oc15 kV15 dc15 pm15 cd15 ct15 oc16 kV16 dc16 pm16 cd16 ct16 oc17 kV17 dc17 pm17 cd17 ct17 oc18 kV18 dc18 pm18 cd18 ct18 oc19 kV19 dc19 pm19 cd19 ct19 : Value}
    (a0 : PySem.W.nsIn K mainGlobals "is_name" = some (some (.ref f0))) (l0 : K.lookup f0 = some ⟨oc0, od0, .func (PySem.W.fnOf "is_name" "is_name" (defArgs (topS 7)) (defBody (topS 7)) (defScope (topS 7)) .none kV0 dc0 pm0 an0 cd0 ct0), sl0⟩) (c0 : PySem.W.codeIn K cd0 "is_name" = true) (k0 : PySem.W.keepIn K (.ref f0) = true)
    (a1 : PySem.W.nsIn K mainGlobals "many_of" = some (some (.ref f1))) (l1 : K.lookup f1 = some ⟨oc1, od1, .func (PySem.W.fnOf "many_of" "many_of" (defArgs (topS 8)) (defBody (topS 8)) (defScope (topS 8)) .none kV1 dc1 pm1 an1 cd1 ct1), sl1⟩) (c1 : PySem.W.codeIn K cd1 "many_of" = true) (k1 : PySem.W.keepIn K (.ref f1) = true)
    (a2 : PySem.W.nsIn K mainGlobals "knots" = some (some (.ref f2))) (l2 : K.lookup f2 = some ⟨oc2, od2, .func (PySem.W.fnOf "knots" "knots" (defArgs (topS 9)) (defBody (topS 9)) (defScope (topS 9)) .none kV2 dc2 pm2 an2 cd2 ct2), sl2⟩) (c2 : PySem.W.codeIn K cd2 "knots" = true) (k2 : PySem.W.keepIn K (.ref f2) = true)
    (a3 : PySem.W.nsIn K mainGlobals "words_of" = some (some (.ref f3))) (l3 : K.lookup f3 = some ⟨oc3, od3, .func (PySem.W.fnOf "words_of" "words_of" (defArgs (topS 13)) (defBody (topS 13)) (defScope (topS 13)) .none kV3 dc3 pm3 an3 cd3 ct3), sl3⟩) (c3 : PySem.W.codeIn K cd3 "words_of" = true) (k3 : PySem.W.keepIn K (.ref f3) = true)
    (a4 : PySem.W.nsIn K mainGlobals "word_at" = some (some (.ref f4))) (l4 : K.lookup f4 = some ⟨oc4, od4, .func (PySem.W.fnOf "word_at" "word_at" (defArgs (topS 14)) (defBody (topS 14)) (defScope (topS 14)) .none kV4 dc4 pm4 an4 cd4 ct4), sl4⟩) (c4 : PySem.W.codeIn K cd4 "word_at" = true) (k4 : PySem.W.keepIn K (.ref f4) = true)
    (a5 : PySem.W.nsIn K mainGlobals "kids_at" = some (some (.ref f5))) (l5 : K.lookup f5 = some ⟨oc5, od5, .func (PySem.W.fnOf "kids_at" "kids_at" (defArgs (topS 15)) (defBody (topS 15)) (defScope (topS 15)) .none kV5 dc5 pm5 an5 cd5 ct5), sl5⟩) (c5 : PySem.W.codeIn K cd5 "kids_at" = true) (k5 : PySem.W.keepIn K (.ref f5) = true)
    (a6 : PySem.W.nsIn K mainGlobals "tree_at" = some (some (.ref f6))) (l6 : K.lookup f6 = some ⟨oc6, od6, .func (PySem.W.fnOf "tree_at" "tree_at" (defArgs (topS 16)) (defBody (topS 16)) (defScope (topS 16)) .none kV6 dc6 pm6 an6 cd6 ct6), sl6⟩) (c6 : PySem.W.codeIn K cd6 "tree_at" = true) (k6 : PySem.W.keepIn K (.ref f6) = true)
    (a7 : PySem.W.nsIn K mainGlobals "read_tree" = some (some (.ref f7))) (l7 : K.lookup f7 = some ⟨oc7, od7, .func (PySem.W.fnOf "read_tree" "read_tree" (defArgs (topS 17)) (defBody (topS 17)) (defScope (topS 17)) .none kV7 dc7 pm7 an7 cd7 ct7), sl7⟩) (c7 : PySem.W.codeIn K cd7 "read_tree" = true) (k7 : PySem.W.keepIn K (.ref f7) = true)
    (a8 : PySem.W.nsIn K mainGlobals "_law_cell_at" = some (some (.ref f8))) (l8 : K.lookup f8 = some ⟨oc8, od8, .func (PySem.W.fnOf "_law_cell_at" "_law_cell_at" (defArgs (topS 19)) (defBody (topS 19)) (defScope (topS 19)) .none kV8 dc8 pm8 an8 cd8 ct8), sl8⟩) (c8 : PySem.W.codeIn K cd8 "_law_cell_at" = true) (k8 : PySem.W.keepIn K (.ref f8) = true)
    (a9 : PySem.W.nsIn K mainGlobals "_law_name" = some (some (.ref f9))) (l9 : K.lookup f9 = some ⟨oc9, od9, .func (PySem.W.fnOf "_law_name" "_law_name" (defArgs (topS 20)) (defBody (topS 20)) (defScope (topS 20)) .none kV9 dc9 pm9 an9 cd9 ct9), sl9⟩) (c9 : PySem.W.codeIn K cd9 "_law_name" = true) (k9 : PySem.W.keepIn K (.ref f9) = true)
    (a10 : PySem.W.nsIn K mainGlobals "_law_kinds" = some (some (.ref f10))) (l10 : K.lookup f10 = some ⟨oc10, od10, .func (PySem.W.fnOf "_law_kinds" "_law_kinds" (defArgs (topS 21)) (defBody (topS 21)) (defScope (topS 21)) .none kV10 dc10 pm10 an10 cd10 ct10), sl10⟩) (c10 : PySem.W.codeIn K cd10 "_law_kinds" = true) (k10 : PySem.W.keepIn K (.ref f10) = true)
    (a11 : PySem.W.nsIn K mainGlobals "_law_comma" = some (some (.ref f11))) (l11 : K.lookup f11 = some ⟨oc11, od11, .func (PySem.W.fnOf "_law_comma" "_law_comma" (defArgs (topS 22)) (defBody (topS 22)) (defScope (topS 22)) .none kV11 dc11 pm11 an11 cd11 ct11), sl11⟩) (c11 : PySem.W.codeIn K cd11 "_law_comma" = true) (k11 : PySem.W.keepIn K (.ref f11) = true)
    (a12 : PySem.W.nsIn K mainGlobals "_law_over" = some (some (.ref f12))) (l12 : K.lookup f12 = some ⟨oc12, od12, .func (PySem.W.fnOf "_law_over" "_law_over" (defArgs (topS 23)) (defBody (topS 23)) (defScope (topS 23)) .none kV12 dc12 pm12 an12 cd12 ct12), sl12⟩) (c12 : PySem.W.codeIn K cd12 "_law_over" = true) (k12 : PySem.W.keepIn K (.ref f12) = true)
    (a13 : PySem.W.nsIn K mainGlobals "_law_leaf" = some (some (.ref f13))) (l13 : K.lookup f13 = some ⟨oc13, od13, .func (PySem.W.fnOf "_law_leaf" "_law_leaf" (defArgs (topS 24)) (defBody (topS 24)) (defScope (topS 24)) .none kV13 dc13 pm13 an13 cd13 ct13), sl13⟩) (c13 : PySem.W.codeIn K cd13 "_law_leaf" = true) (k13 : PySem.W.keepIn K (.ref f13) = true)
    (a14 : PySem.W.nsIn K mainGlobals "_law_grown" = some (some (.ref f14))) (l14 : K.lookup f14 = some ⟨oc14, od14, .func (PySem.W.fnOf "_law_grown" "_law_grown" (defArgs (topS 25)) (defBody (topS 25)) (defScope (topS 25)) .none kV14 dc14 pm14 an14 cd14 ct14), sl14⟩) (c14 : PySem.W.codeIn K cd14 "_law_grown" = true) (k14 : PySem.W.keepIn K (.ref f14) = true)
    (a15 : PySem.W.nsIn K mainGlobals "_law_odd" = some (some (.ref f15))) (l15 : K.lookup f15 = some ⟨oc15, od15, .func (PySem.W.fnOf "_law_odd" "_law_odd" (defArgs (topS 26)) (defBody (topS 26)) (defScope (topS 26)) .none kV15 dc15 pm15 an15 cd15 ct15), sl15⟩) (c15 : PySem.W.codeIn K cd15 "_law_odd" = true) (k15 : PySem.W.keepIn K (.ref f15) = true)
    (a16 : PySem.W.nsIn K mainGlobals "_law_spoiled" = some (some (.ref f16))) (l16 : K.lookup f16 = some ⟨oc16, od16, .func (PySem.W.fnOf "_law_spoiled" "_law_spoiled" (defArgs (topS 27)) (defBody (topS 27)) (defScope (topS 27)) .none kV16 dc16 pm16 an16 cd16 ct16), sl16⟩) (c16 : PySem.W.codeIn K cd16 "_law_spoiled" = true) (k16 : PySem.W.keepIn K (.ref f16) = true)
    (a17 : PySem.W.nsIn K mainGlobals "_law_words" = some (some (.ref f17))) (l17 : K.lookup f17 = some ⟨oc17, od17, .func (PySem.W.fnOf "_law_words" "_law_words" (defArgs (topS 28)) (defBody (topS 28)) (defScope (topS 28)) .none kV17 dc17 pm17 an17 cd17 ct17), sl17⟩) (c17 : PySem.W.codeIn K cd17 "_law_words" = true) (k17 : PySem.W.keepIn K (.ref f17) = true)
    (a18 : PySem.W.nsIn K mainGlobals "_law_told" = some (some (.ref f18))) (l18 : K.lookup f18 = some ⟨oc18, od18, .func (PySem.W.fnOf "_law_told" "_law_told" (defArgs (topS 29)) (defBody (topS 29)) (defScope (topS 29)) .none kV18 dc18 pm18 an18 cd18 ct18), sl18⟩) (c18 : PySem.W.codeIn K cd18 "_law_told" = true) (k18 : PySem.W.keepIn K (.ref f18) = true)
    (a19 : PySem.W.nsIn K mainGlobals "law" = some (some (.ref f19))) (l19 : K.lookup f19 = some ⟨oc19, od19, .func (PySem.W.fnOf "law" "law" (defArgs (topS 30)) (defBody (topS 30)) (defScope (topS 30)) .none kV19 dc19 pm19 an19 cd19 ct19), sl19⟩) (c19 : PySem.W.codeIn K cd19 "law" = true) (k19 : PySem.W.keepIn K (.ref f19) = true)
    (z0 : PySem.W.nsIn K mainGlobals "len" = some none)
    (z1 : PySem.W.nsIn K mainGlobals "sum" = some none)
    (z2 : PySem.W.nsIn K mainGlobals "max" = some none)
    (z3 : PySem.W.nsIn K mainGlobals "min" = some none)
    (z4 : PySem.W.nsIn K mainGlobals "tuple" = some none)
    (z5 : PySem.W.nsIn K mainGlobals "list" = some none)
    (z6 : PySem.W.nsIn K mainGlobals "str" = some none)
    (z7 : PySem.W.nsIn K mainGlobals "int" = some none)
    (z8 : PySem.W.nsIn K mainGlobals "all" = some none)
    (z9 : PySem.W.nsIn K mainGlobals "range" = some none)
    (z10 : PySem.W.nsIn K mainGlobals "isinstance" = some none)
    (z11 : PySem.W.nsIn K mainGlobals "bool" = some none)
    (z12 : PySem.W.nsIn K mainGlobals "ValueError" = some none)
    (z13 : PySem.W.nsIn K mainGlobals "zip" = some none)
    (z14 : PySem.W.nsIn K mainGlobals "set" = some none)
    (q0 : PySem.W.nsIn K mainGlobals "LETTERS" = some (some (.str "abcdefghijklmnopqrstuvwxyz" t0)))
    (q1 : PySem.W.nsIn K mainGlobals "TALLEST" = some (some (.int 30 t1)))
    (q2 : PySem.W.nsIn K mainGlobals "MOST" = some (some (.int 400 t2)))
    (e0 : PySem.W.nsIn K mainGlobals "BookError" = some (some (.ref C0))) (x0 : PySem.W.excIn K C0 veMro "ValueError.__new__" = true) (kp0 : PySem.W.keepIn K (.ref C0) = true) (ci0 : PySem.W.isClsIn K C0 = true) (ty0 : PySem.W.typeIn K (.ref C0) = some (.type "type")) (sb0 : PySem.W.subIn K (.ref C0) (.type "BaseException") = some true) (gg0 : PySem.W.findIn K (.ref C0) "__getattribute__" = some (some (.builtin "BaseException.__getattribute__"))) (hh0 : PySem.W.findIn K (.ref C0) "__getattr__" = some none) (hd0 : PySem.W.hasDictIn K C0 = true) (ha0 : PySem.W.findIn K (.ref C0) "__class__" = some (some (.builtin "object.__class__"))) (hm0 : PySem.W.mroIn K C0 (.type "object") = some true)
    (e1 : PySem.W.nsIn K mainGlobals "NoKinds" = some (some (.ref C1))) (x1 : PySem.W.excIn K C1 veMro "ValueError.__new__" = true) (kp1 : PySem.W.keepIn K (.ref C1) = true) (ci1 : PySem.W.isClsIn K C1 = true) (ty1 : PySem.W.typeIn K (.ref C1) = some (.type "type")) (sb1 : PySem.W.subIn K (.ref C1) (.type "BaseException") = some true) (gg1 : PySem.W.findIn K (.ref C1) "__getattribute__" = some (some (.builtin "BaseException.__getattribute__"))) (hh1 : PySem.W.findIn K (.ref C1) "__getattr__" = some none) (hd1 : PySem.W.hasDictIn K C1 = true) (ha1 : PySem.W.findIn K (.ref C1) "__class__" = some (some (.builtin "object.__class__"))) (hm1 : PySem.W.mroIn K C1 (.type "object") = some true)
    (e2 : PySem.W.nsIn K mainGlobals "NoTree" = some (some (.ref C2))) (x2 : PySem.W.excIn K C2 veMro "ValueError.__new__" = true) (kp2 : PySem.W.keepIn K (.ref C2) = true) (ci2 : PySem.W.isClsIn K C2 = true) (ty2 : PySem.W.typeIn K (.ref C2) = some (.type "type")) (sb2 : PySem.W.subIn K (.ref C2) (.type "BaseException") = some true) (gg2 : PySem.W.findIn K (.ref C2) "__getattribute__" = some (some (.builtin "BaseException.__getattribute__"))) (hh2 : PySem.W.findIn K (.ref C2) "__getattr__" = some none) (hd2 : PySem.W.hasDictIn K C2 = true) (ha2 : PySem.W.findIn K (.ref C2) "__class__" = some (some (.builtin "object.__class__"))) (hm2 : PySem.W.mroIn K C2 (.type "object") = some true)
    (e3 : PySem.W.nsIn K mainGlobals "NoText" = some (some (.ref C3))) (x3 : PySem.W.excIn K C3 veMro "ValueError.__new__" = true) (kp3 : PySem.W.keepIn K (.ref C3) = true) (ci3 : PySem.W.isClsIn K C3 = true) (ty3 : PySem.W.typeIn K (.ref C3) = some (.type "type")) (sb3 : PySem.W.subIn K (.ref C3) (.type "BaseException") = some true) (gg3 : PySem.W.findIn K (.ref C3) "__getattribute__" = some (some (.builtin "BaseException.__getattribute__"))) (hh3 : PySem.W.findIn K (.ref C3) "__getattr__" = some none) (hd3 : PySem.W.hasDictIn K C3 = true) (ha3 : PySem.W.findIn K (.ref C3) "__class__" = some (some (.builtin "object.__class__"))) (hm3 : PySem.W.mroIn K C3 (.type "object") = some true)
    (hn : PySem.W.specialIn K (.builtin "object.__class__") "__get__" = some (some (.builtin "getset_descriptor.__get__"))) (ht : PySem.W.takesIn K (.builtin "object.__class__") = some true)
    (s0_0 : PySem.W.subIn K (.ref C0) (.ref C0) = some true)
    (s0_1 : PySem.W.subIn K (.ref C0) (.ref C1) = some false)
    (s0_2 : PySem.W.subIn K (.ref C0) (.ref C2) = some false)
    (s0_3 : PySem.W.subIn K (.ref C0) (.ref C3) = some false)
    (sv0 : PySem.W.subIn K (.ref C0) (.type "ValueError") = some true)
    (s1_0 : PySem.W.subIn K (.ref C1) (.ref C0) = some true)
    (s1_1 : PySem.W.subIn K (.ref C1) (.ref C1) = some true)
    (s1_2 : PySem.W.subIn K (.ref C1) (.ref C2) = some false)
    (s1_3 : PySem.W.subIn K (.ref C1) (.ref C3) = some false)
    (sv1 : PySem.W.subIn K (.ref C1) (.type "ValueError") = some true)
    (s2_0 : PySem.W.subIn K (.ref C2) (.ref C0) = some true)
    (s2_1 : PySem.W.subIn K (.ref C2) (.ref C1) = some false)
    (s2_2 : PySem.W.subIn K (.ref C2) (.ref C2) = some true)
    (s2_3 : PySem.W.subIn K (.ref C2) (.ref C3) = some false)
    (sv2 : PySem.W.subIn K (.ref C2) (.type "ValueError") = some true)
    (s3_0 : PySem.W.subIn K (.ref C3) (.ref C0) = some true)
    (s3_1 : PySem.W.subIn K (.ref C3) (.ref C1) = some false)
    (s3_2 : PySem.W.subIn K (.ref C3) (.ref C2) = some false)
    (s3_3 : PySem.W.subIn K (.ref C3) (.ref C3) = some true)
    (sv3 : PySem.W.subIn K (.ref C3) (.type "ValueError") = some true)
    : ∃ fd : FuncData, (∀ (s : Shared) (v : Value), BindsTo s fd ⟨[v], []⟩ [(("script" : Str), v)]) ∧ ∀ base : Heap, K.In base → base.Ns mainGlobals mg → FnOk P w K mg base (L2.CX P w) 231 fa fd [("script" : Str)] (spLaw clT (tbl tabT) (runD suT (tbl tabT) 228 lawI) K w) := by
  have T0 : ExT K "BookError" C0 := ⟨e0, x0, kp0, ci0, ty0, sb0, s0_0, ⟨gg0, hh0, sb0, hd0, ha0, hn, ht, hm0⟩⟩
  have T1 : ExT K "NoKinds" C1 := ⟨e1, x1, kp1, ci1, ty1, sb1, s1_1, ⟨gg1, hh1, sb1, hd1, ha1, hn, ht, hm1⟩⟩
  have T2 : ExT K "NoTree" C2 := ⟨e2, x2, kp2, ci2, ty2, sb2, s2_2, ⟨gg2, hh2, sb2, hd2, ha2, hn, ht, hm2⟩⟩
  have T3 : ExT K "NoText" C3 := ⟨e3, x3, kp3, ci3, ty3, sb3, s3_3, ⟨gg3, hh3, sb3, hd3, ha3, hn, ht, hm3⟩⟩
  have hcl : ∀ p ∈ clL, ClP K mg clT p := allP_cons (cl_own X G rfl T0) (allP_cons (cl_own X G rfl T1) (allP_cons (cl_own X G rfl T2) (allP_cons (cl_own X G rfl T3) (allP_cons (cl_ve X G rfl z12) (allP_nil)))))
  have hsu : ∀ p ∈ suL, SuP K clT p := allP_cons (su_own rfl rfl T0 T0 s0_0) (allP_cons (su_own rfl rfl T0 T1 s0_1) (allP_cons (su_own rfl rfl T0 T2 s0_2) (allP_cons (su_own rfl rfl T0 T3 s0_3) (allP_cons (su_ve rfl rfl T0 z12 sv0) (allP_cons (su_own rfl rfl T1 T0 s1_0) (allP_cons (su_own rfl rfl T1 T1 s1_1) (allP_cons (su_own rfl rfl T1 T2 s1_2) (allP_cons (su_own rfl rfl T1 T3 s1_3) (allP_cons (su_ve rfl rfl T1 z12 sv1) (allP_cons (su_own rfl rfl T2 T0 s2_0) (allP_cons (su_own rfl rfl T2 T1 s2_1) (allP_cons (su_own rfl rfl T2 T2 s2_2) (allP_cons (su_own rfl rfl T2 T3 s2_3) (allP_cons (su_ve rfl rfl T2 z12 sv2) (allP_cons (su_own rfl rfl T3 T0 s3_0) (allP_cons (su_own rfl rfl T3 T1 s3_1) (allP_cons (su_own rfl rfl T3 T2 s3_2) (allP_cons (su_own rfl rfl T3 T3 s3_3) (allP_cons (su_ve rfl rfl T3 z12 sv3) (allP_nil))))))))))))))))))))
  have hcn : ∀ p ∈ cnT, CnP K mg (woOf K clT (tbl tabT)) p := allP_cons (cn_str X G q0) (allP_cons (cn_int X G q1) (allP_cons (cn_int X G q2) (allP_nil)))
  have T : Tb K mg (woOf K clT (tbl tabT)) suT (tbl tabT) cnT clT 1000 := {
    fn := tbl_fn (
      all_cons (fnT_mk (st := topS 7) X G a0 l0 c0 k0 sc_f_is_name (fun us hl => match us, hl with | [_], _ => rfl) cm_f_is_name) (
      all_cons (fnT_mk (st := topS 8) X G a1 l1 c1 k1 sc_f_many_of (fun us hl => match us, hl with | [_, _], _ => rfl) cm_f_many_of) (
      all_cons (fnT_mk (st := topS 9) X G a2 l2 c2 k2 sc_f_knots (fun us hl => match us, hl with | [_], _ => rfl) cm_f_knots) (
      all_cons (fnT_mk (st := topS 13) X G a3 l3 c3 k3 sc_f_words_of (fun us hl => match us, hl with | [_], _ => rfl) cm_f_words_of) (
      all_cons (fnT_mk (st := topS 14) X G a4 l4 c4 k4 sc_f_word_at (fun us hl => match us, hl with | [_, _], _ => rfl) cm_f_word_at) (
      all_cons (fnT_mk (st := topS 15) X G a5 l5 c5 k5 sc_f_kids_at (fun us hl => match us, hl with | [_, _, _, _, _], _ => rfl) cm_f_kids_at) (
      all_cons (fnT_mk (st := topS 16) X G a6 l6 c6 k6 sc_f_tree_at (fun us hl => match us, hl with | [_, _, _, _], _ => rfl) cm_f_tree_at) (
      all_cons (fnT_mk (st := topS 17) X G a7 l7 c7 k7 sc_f_read_tree (fun us hl => match us, hl with | [_, _], _ => rfl) cm_f_read_tree) (
      all_cons (fnT_mk (st := topS 19) X G a8 l8 c8 k8 sc_f_law_cell_at (fun us hl => match us, hl with | [_, _], _ => rfl) cm_f_law_cell_at) (
      all_cons (fnT_mk (st := topS 20) X G a9 l9 c9 k9 sc_f_law_name (fun us hl => match us, hl with | [_, _], _ => rfl) cm_f_law_name) (
      all_cons (fnT_mk (st := topS 21) X G a10 l10 c10 k10 sc_f_law_kinds (fun us hl => match us, hl with | [_], _ => rfl) cm_f_law_kinds) (
      all_cons (fnT_mk (st := topS 22) X G a11 l11 c11 k11 sc_f_law_comma (fun us hl => match us, hl with | [_], _ => rfl) cm_f_law_comma) (
      all_cons (fnT_mk (st := topS 23) X G a12 l12 c12 k12 sc_f_law_over_6 (fun us hl => match us, hl with | [_, _], _ => rfl) cm_f_law_over_6) (
      all_cons (fnT_mk (st := topS 24) X G a13 l13 c13 k13 sc_f_law_leaf_7 (fun us hl => match us, hl with | [_], _ => rfl) cm_f_law_leaf_7) (
      all_cons (fnT_mk (st := topS 25) X G a14 l14 c14 k14 sc_f_law_grown_6 (fun us hl => match us, hl with | [_, _, _, _], _ => rfl) cm_f_law_grown_6) (
      all_cons (fnT_mk (st := topS 26) X G a15 l15 c15 k15 sc_f_law_odd (fun us hl => match us, hl with | [_, _], _ => rfl) cm_f_law_odd) (
      all_cons (fnT_mk (st := topS 27) X G a16 l16 c16 k16 sc_f_law_spoiled_3 (fun us hl => match us, hl with | [_, _, _], _ => rfl) cm_f_law_spoiled_3) (
      all_cons (fnT_mk (st := topS 28) X G a17 l17 c17 k17 sc_f_law_words (fun us hl => match us, hl with | [_, _, _], _ => rfl) cm_f_law_words) (
      all_cons (fnT_mk (st := topS 29) X G a18 l18 c18 k18 sc_f_law_told_4 (fun us hl => match us, hl with | [_, _], _ => rfl) cm_f_law_told_4) (
      all_cons (fnT_mk (st := topS 30) X G a19 l19 c19 k19 sc_f_law_50 (fun us hl => match us, hl with | [_], _ => rfl) cm_f_law_50) (
      all_nil)))))))))))))))))))))
    blt := fun x hx => by
      simp only [blts, List.mem_cons, List.not_mem_nil, or_false] at hx
      rcases hx with rfl | rfl | rfl | rfl | rfl | rfl | rfl | rfl | rfl | rfl | rfl | rfl | rfl | rfl | rfl
      · exact PySem.W.mg_none_of X G z0
      · exact PySem.W.mg_none_of X G z1
      · exact PySem.W.mg_none_of X G z2
      · exact PySem.W.mg_none_of X G z3
      · exact PySem.W.mg_none_of X G z4
      · exact PySem.W.mg_none_of X G z5
      · exact PySem.W.mg_none_of X G z6
      · exact PySem.W.mg_none_of X G z7
      · exact PySem.W.mg_none_of X G z8
      · exact PySem.W.mg_none_of X G z9
      · exact PySem.W.mg_none_of X G z10
      · exact PySem.W.mg_none_of X G z11
      · exact PySem.W.mg_none_of X G z12
      · exact PySem.W.mg_none_of X G z13
      · exact PySem.W.mg_none_of X G z14
    cst := fun x d hx => hcn (x, d) (lks_mem hx)
    ev := wo_ev
    en := wo_en
    row := fun hx => by cases hx
    kls := fun c x b hx => (hcl (c, (x, b)) (lk_mem hx)).1
    rai := fun c x hx => (hcl (c, (x, true)) (lk_mem hx)).2 rfl
    sub := fun k c b hx => hsu ((k, c), b) (lk2_mem hx) }
  exact law_mk T (df := f_law_50) (by rfl) hfa (by rfl) (by rfl)
end
end Bk
open PySem PySem.W PyProof.Rows
set_option maxHeartbeats 0 in
theorem PySem.Challenge.cw_boughbook_k08_whole_no_other_text_holds : PySem.Challenge.rw_boughbook_k08_whole_no_other_text.Holds := by
  w_on; o_law; k_head; (case hw => w_witness2)
  k_fill
  refine L2.walk_of (l := PySem.Challenge.rw_boughbook_k08_whole_no_other_text) (n := 63) (k := 231) (x := "script") (CX := fun w => L2.CX PySem.Challenge.rw_boughbook_k08_whole_no_other_text.prog w) (sp := fun w => Bk.spLaw Bk.clT (Bk.tbl Bk.tabT) (Bk.runD Bk.suT (Bk.tbl Bk.tabT) 228 Bk.lawI) _ w) rfl (by decide) rfl ⟨rfl, by decide, by decide⟩ (fun w h Y => PySem.W.kIn_of Y) ?F (fun _ _ a ns hl _ hS => Bk.sp_law hS (Bk.plain ns hl)) (fun _ _ _ _ _ h => Bk.cx_end h)
  case F =>
    intro w mg fa h KX G hmg
    refine' Bk.all_mk KX G hmg ?a0 ?l0 ?c0 ?k0 ?a1 ?l1 ?c1 ?k1 ?a2 ?l2 ?c2 ?k2 ?a3 ?l3 ?c3 ?k3 ?a4 ?l4 ?c4 ?k4 ?a5 ?l5 ?c5 ?k5 ?a6 ?l6 ?c6 ?k6 ?a7 ?l7 ?c7 ?k7 ?a8 ?l8 ?c8 ?k8 ?a9 ?l9 ?c9 ?k9 ?a10 ?l10 ?c10 ?k10 ?a11 ?l11 ?c11 ?k11 ?a12 ?l12 ?c12 ?k12 ?a13 ?l13 ?c13 ?k13 ?a14 ?l14 ?c14 ?k14 ?a15 ?l15 ?c15 ?k15 ?a16 ?l16 ?c16 ?k16 ?a17 ?l17 ?c17 ?k17 ?a18 ?l18 ?c18 ?k18 ?a19 ?l19 ?c19 ?k19 ?z0 ?z1 ?z2 ?z3 ?z4 ?z5 ?z6 ?z7 ?z8 ?z9 ?z10 ?z11 ?z12 ?z13 ?z14 ?q0 ?q1 ?q2 ?e0 ?x0 ?kp0 ?ci0 ?ty0 ?sb0 ?gg0 ?hh0 ?hd0 ?ha0 ?hm0 ?e1 ?x1 ?kp1 ?ci1 ?ty1 ?sb1 ?gg1 ?hh1 ?hd1 ?ha1 ?hm1 ?e2 ?x2 ?kp2 ?ci2 ?ty2 ?sb2 ?gg2 ?hh2 ?hd2 ?ha2 ?hm2 ?e3 ?x3 ?kp3 ?ci3 ?ty3 ?sb3 ?gg3 ?hh3 ?hd3 ?ha3 ?hm3 ?hn ?ht ?s0_0 ?s0_1 ?s0_2 ?s0_3 ?sv0 ?s1_0 ?s1_1 ?s1_2 ?s1_3 ?sv1 ?s2_0 ?s2_1 ?s2_2 ?s2_3 ?sv2 ?s3_0 ?s3_1 ?s3_2 ?s3_3 ?sv3
    (case a0 => k_is); (case l0 => k_is); (case c0 => k_is); (case k0 => k_is); (case a1 => k_is); (case l1 => k_is); (case c1 => k_is); (case k1 => k_is); (case a2 => k_is); (case l2 => k_is); (case c2 => k_is); (case k2 => k_is); (case a3 => k_is); (case l3 => k_is); (case c3 => k_is); (case k3 => k_is); (case a4 => k_is); (case l4 => k_is); (case c4 => k_is); (case k4 => k_is); (case a5 => k_is); (case l5 => k_is); (case c5 => k_is); (case k5 => k_is); (case a6 => k_is); (case l6 => k_is); (case c6 => k_is); (case k6 => k_is); (case a7 => k_is); (case l7 => k_is); (case c7 => k_is); (case k7 => k_is); (case a8 => k_is); (case l8 => k_is); (case c8 => k_is); (case k8 => k_is); (case a9 => k_is); (case l9 => k_is); (case c9 => k_is); (case k9 => k_is); (case a10 => k_is); (case l10 => k_is); (case c10 => k_is); (case k10 => k_is); (case a11 => k_is); (case l11 => k_is); (case c11 => k_is); (case k11 => k_is); (case a12 => k_is); (case l12 => k_is); (case c12 => k_is); (case k12 => k_is); (case a13 => k_is); (case l13 => k_is); (case c13 => k_is); (case k13 => k_is); (case a14 => k_is); (case l14 => k_is); (case c14 => k_is); (case k14 => k_is); (case a15 => k_is); (case l15 => k_is); (case c15 => k_is); (case k15 => k_is); (case a16 => k_is); (case l16 => k_is); (case c16 => k_is); (case k16 => k_is); (case a17 => k_is); (case l17 => k_is); (case c17 => k_is); (case k17 => k_is); (case a18 => k_is); (case l18 => k_is); (case c18 => k_is); (case k18 => k_is); (case a19 => k_is); (case l19 => k_is); (case c19 => k_is); (case k19 => k_is); (case z0 => k_is); (case z1 => k_is); (case z2 => k_is); (case z3 => k_is); (case z4 => k_is); (case z5 => k_is); (case z6 => k_is); (case z7 => k_is); (case z8 => k_is); (case z9 => k_is); (case z10 => k_is); (case z11 => k_is); (case z12 => k_is); (case z13 => k_is); (case z14 => k_is); (case q0 => k_is); (case q1 => k_is); (case q2 => k_is); (case e0 => k_is); (case x0 => k_exc); (case kp0 => k_is); (case ci0 => k_is); (case ty0 => k_is); (case sb0 => k_is); (case gg0 => k_is); (case hh0 => k_is); (case hd0 => k_is); (case ha0 => k_is); (case hm0 => k_is); (case e1 => k_is); (case x1 => k_exc); (case kp1 => k_is); (case ci1 => k_is); (case ty1 => k_is); (case sb1 => k_is); (case gg1 => k_is); (case hh1 => k_is); (case hd1 => k_is); (case ha1 => k_is); (case hm1 => k_is); (case e2 => k_is); (case x2 => k_exc); (case kp2 => k_is); (case ci2 => k_is); (case ty2 => k_is); (case sb2 => k_is); (case gg2 => k_is); (case hh2 => k_is); (case hd2 => k_is); (case ha2 => k_is); (case hm2 => k_is); (case e3 => k_is); (case x3 => k_exc); (case kp3 => k_is); (case ci3 => k_is); (case ty3 => k_is); (case sb3 => k_is); (case gg3 => k_is); (case hh3 => k_is); (case hd3 => k_is); (case ha3 => k_is); (case hm3 => k_is); (case hn => k_is); (case ht => k_is); (case s0_0 => k_is); (case s0_1 => k_is); (case s0_2 => k_is); (case s0_3 => k_is); (case sv0 => k_is); (case s1_0 => k_is); (case s1_1 => k_is); (case s1_2 => k_is); (case s1_3 => k_is); (case sv1 => k_is); (case s2_0 => k_is); (case s2_1 => k_is); (case s2_2 => k_is); (case s2_3 => k_is); (case sv2 => k_is); (case s3_0 => k_is); (case s3_1 => k_is); (case s3_2 => k_is); (case s3_3 => k_is); (case sv3 => k_is)

