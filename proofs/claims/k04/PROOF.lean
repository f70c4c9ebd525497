import PyProof.Rows.All
import Wide.All
import OpenK.AllK
import Wide.FinOn
import PySem.Str
import PyProof.ReprReads
import HandS.ForMost
import HandS.ForExc
import HandS.Exc
import HandS.Lambda
import HandS.TupAny
import HandS.Wide
import HandS.TupLe
import HandS.IsInst
import HandS.More
import HandS.Comp
import HandS.ExcInit
import HandS.Defaults
import HandS.ExcOwn
import HandS.ExcIs
import HandS.ExcField
import HandS.Iter
import HandS.Small
import HandS.Nested
import HandS.NestedK
import PyProof.CollectIter
import PyProof.WalksMore
import KE.KUnpackStar
import HandS.NoneIn
import HandS.WrittenGet
import KE.GoesMore
import HandS.Style
import PyProof.ExcBaseAll.ValueError
import KE.KExcIs
import HandS.TryOnly
import HandS.SetTxt0
import HandS.SetFor
import HandS.Strs
import PyProof.Rows.SortShellAny
import HandS.Head0
import HandS.Head1
import HandS.Head2
import HandS.HeadEnd
import HandS.HeadHook1
import HandS.HeadHook2
import HandS.HeadHook3
import PyProof.ReprLen
import PyProof.StrLawsRepr
import PySem.Challenge.RW_prooffruit_k04_worths_of_terms
set_option linter.all false
set_option autoImplicit false
namespace PV
open PySem (Str)
abbrev Cs := List Nat
/-- the signs of a written text -/
def w (s : String) : Cs := (Str.ofString s).cps.toList

/-- data: what a value is worth, its tuples, frozen lists, dicts, instances within; ref: a cell of the heap -/
inductive D where
  | non | bl (b : Bool) | int (i : Int) | str (x : Cs)
  | tup (l : List D) | lst (l : List D) | dct (l : List (D × D)) | ins (c : Nat) (l : List D) | exc (c : Nat) (l : List D)
  | ref (i : Nat) | fn (f : Nat) | clo (f : Nat) (l : List D)
  deriving Inhabited

mutual
def D.same : D → D → Bool
  | .non, .non => true
  | .bl a, .bl b => a == b
  | .int a, .int b => a == b
  | .str a, .str b => a == b
  | .tup a, .tup b => D.sameL a b
  | .lst a, .lst b => D.sameL a b
  | .dct a, .dct b => D.sameP a b
  | .ins c a, .ins d b => c == d && D.sameL a b
  | .exc c a, .exc d b => c == d && D.sameL a b
  | .ref a, .ref b => a == b
  | .fn a, .fn b => a == b
  | .clo c a, .clo d b => c == d && D.sameL a b
  | _, _ => false
def D.sameL : List D → List D → Bool
  | [], [] => true
  | x :: r, y :: s => D.same x y && D.sameL r s
  | _, _ => false
def D.sameP : List (D × D) → List (D × D) → Bool
  | [], [] => true
  | (x, u) :: r, (y, v) :: s => D.same x y && D.same u v && D.sameP r s
  | _, _ => false
end
mutual
theorem D.same_eq : ∀ a b : D, D.same a b = true → a = b
  | .non, b, h => by cases b <;> simp_all [D.same]
  | .bl a, b, h => by cases b <;> simp_all [D.same]
  | .int a, b, h => by cases b <;> simp_all [D.same]
  | .str a, b, h => by cases b <;> simp_all [D.same]
  | .ref a, b, h => by cases b <;> simp_all [D.same]
  | .fn a, b, h => by cases b <;> simp_all [D.same]
  | .tup a, b, h => by
    cases b with
    | tup b => rw [D.sameL_eq a b (by simpa [D.same] using h)]
    | _ => simp [D.same] at h
  | .lst a, b, h => by
    cases b with
    | lst b => rw [D.sameL_eq a b (by simpa [D.same] using h)]
    | _ => simp [D.same] at h
  | .dct a, b, h => by
    cases b with
    | dct b => rw [D.sameP_eq a b (by simpa [D.same] using h)]
    | _ => simp [D.same] at h
  | .ins c a, b, h => by
    cases b with
    | ins d b =>
      have h : c = d ∧ D.sameL a b = true := by simpa [D.same] using h
      rw [D.sameL_eq a b h.2, h.1]
    | _ => simp [D.same] at h
  | .exc c a, b, h => by
    cases b with
    | exc d b =>
      have h : c = d ∧ D.sameL a b = true := by simpa [D.same] using h
      rw [D.sameL_eq a b h.2, h.1]
    | _ => simp [D.same] at h
  | .clo c a, b, h => by
    cases b with
    | clo d b =>
      have h : c = d ∧ D.sameL a b = true := by simpa [D.same] using h
      rw [D.sameL_eq a b h.2, h.1]
    | _ => simp [D.same] at h
theorem D.sameL_eq : ∀ a b : List D, D.sameL a b = true → a = b
  | [], b, h => by cases b <;> simp_all [D.sameL]
  | x :: r, [], h => by simp [D.sameL] at h
  | x :: r, y :: s, h => by
    have h : D.same x y = true ∧ D.sameL r s = true := by simpa [D.sameL] using h
    rw [D.same_eq x y h.1, D.sameL_eq r s h.2]
theorem D.sameP_eq : ∀ a b : List (D × D), D.sameP a b = true → a = b
  | [], b, h => by cases b <;> simp_all [D.sameP]
  | (x, u) :: r, [], h => by simp [D.sameP] at h
  | (x, u) :: r, (y, v) :: s, h => by
    have h : (D.same x y = true ∧ D.same u v = true) ∧ D.sameP r s = true := by simpa [D.sameP] using h
    rw [D.same_eq x y h.1.1, D.same_eq u v h.1.2, D.sameP_eq r s h.2]
end
mutual
theorem D.same_refl : ∀ a : D, D.same a a = true
  | .non | .bl _ | .int _ | .str _ | .ref _ | .fn _ => by simp [D.same]
  | .tup a | .lst a => by simp [D.same, D.sameL_refl a]
  | .ins _ a | .exc _ a | .clo _ a => by simp [D.same, D.sameL_refl a]
  | .dct a => by simp [D.same, D.sameP_refl a]
theorem D.sameL_refl : ∀ a : List D, D.sameL a a = true
  | [] => by simp [D.sameL]
  | x :: r => by simp [D.sameL, D.same_refl x, D.sameL_refl r]
theorem D.sameP_refl : ∀ a : List (D × D), D.sameP a a = true
  | [] => by simp [D.sameP]
  | (x, y) :: r => by simp [D.sameP, D.same_refl x, D.same_refl y, D.sameP_refl r]
end
instance : DecidableEq D := fun a b => if h : D.same a b = true then isTrue (D.same_eq a b h) else isFalse fun e => h (e ▸ D.same_refl a)

mutual
/-- how far within one another -/
def D.dep : D → Nat
  | .tup l | .lst l => D.depL l + 1
  | .dct l => D.depP l + 1
  | _ => 0
def D.depL : List D → Nat
  | [] => 0
  | x :: r => max x.dep (D.depL r)
def D.depP : List (D × D) → Nat
  | [] => 0
  | (x, y) :: r => max (max x.dep y.dep) (D.depP r)
end
mutual
/-- numbers, texts, truths, None, tuples and lists of them alone: what == may ask -/
def D.flat : D → Bool
  | .non | .bl _ | .int _ => true
  | .str x => x.all (· < 1114112)
  | .tup l | .lst l => D.flatL l
  | _ => false
def D.flatL : List D → Bool
  | [] => true
  | x :: r => x.flat && D.flatL r
end
mutual
/-- Python's == -/
def D.eqv : D → D → Bool
  | .non, .non => true
  | .bl a, .bl b => a == b
  | .bl a, .int j => (if a then 1 else 0) == j
  | .int i, .bl b => i == (if b then 1 else 0)
  | .int i, .int j => i == j
  | .str x, .str y => x == y
  | .lst a, .lst b => D.eqvL a b
  | .tup a, .tup b => D.eqvL a b
  | _, _ => false
def D.eqvL : List D → List D → Bool
  | [], [] => true
  | x :: r, y :: s => D.eqv x y && D.eqvL r s
  | _, _ => false
end
mutual
/-- all cells that it names are among the first n -/
def D.within (n : Nat) : D → Bool
  | .tup l | .lst l | .ins _ l | .exc _ l | .clo _ l => D.withinL n l
  | .dct l => D.withinP n l
  | .ref i => decide (i < n)
  | _ => true
def D.withinL (n : Nat) : List D → Bool
  | [] => true
  | x :: r => x.within n && D.withinL n r
def D.withinP (n : Nat) : List (D × D) → Bool
  | [] => true
  | (x, y) :: r => x.within n && y.within n && D.withinP n r
end

/-- the cells -/
abbrev Hs := List D
/-- what comes: a value, an exception by its class and fields, or nothing that is told here -/
inductive R (α : Type) where
  | ok (a : α) (h : Hs) | ex (c : Nat) (l : List D) (h : Hs) | bad
  deriving Inhabited
abbrev M (α : Type) := Hs → R α
def M.bind {α β : Type} (m : M α) (f : α → M β) : M β := fun h => match m h with
  | .ok a h' => f a h'
  | .ex c l h' => .ex c l h'
  | .bad => .bad
instance : Monad M where
  pure a h := .ok a h
  bind := M.bind
def M.bad {α : Type} : M α := fun _ => .bad
def M.of {α : Type} : Option α → M α
  | some a => fun h => .ok a h
  | none => M.bad
/-- what is to be seen of a value: a cell's content -/
def vw (h : Hs) : D → D
  | .ref i => match h.getD i .non with
    | .non => .ref i
    | d => d
  | d => d
def M.see (d : D) : M D := fun h => .ok (vw h d) h

def line : Nat := 2 ^ 24
inductive Bop where | add | sub | mul | fdiv | mod | pow
  deriving DecidableEq, Repr
inductive Cop where | eq | ne | lt | le | gt | ge | is | isnot | inn | nin
  deriving DecidableEq, Repr
/-- the kinds that isinstance asks -/
inductive Ty where | tuple | str | int | bool | list | dict
  deriving DecidableEq, Repr
/-- built-in functions and methods that change nothing -/
inductive Blt where
  | len | isin (t : Ty) | int | str | tuple | abs | min2 | max2 | minL | maxL | sum | any | all | repr
  | list | dict | sorted | get | getd | join | split | index | count | values | items | set
  /-- of a written table: k in it, k not in it, it[k], it.get(k, d) -/
  | kin | knin | kix | kget
  | isin2 (t u : Ty)
  /-- of a caught exception: one of these classes, or of those -/
  | isx (cs ds : List Nat)
  deriving DecidableEq, Repr
/-- methods that change their cell -/
inductive Mt where | append | extend | pop | popat | setdef | dpop | update | remove
  deriving DecidableEq, Repr
/-- what is gone through -/
inductive Ik where | plain | enum | zip | range | range2 | rev | items | values
  deriving DecidableEq, Repr
/-- targets: a name, several, names and the rest -/
inductive Pat where
  | nm (i : Nat) | tp (l : List Pat) | st (l : List Nat) (i : Nat)
  deriving Repr
mutual
inductive E where
  | cst (d : D) | var (i : Nat)
  | op (o : Bop) (a b : E) | neg (a : E) | not (a : E)
  | cmp (o : Cop) (a b : E) | chain (o p : Cop) (a b c : E)
  | and (a b : E) | or (a b : E) | ife (c a b : E)
  | tup (l : EL) | lst (l : EL) | dct (k v : EL)
  | idx (a b : E) | slc (a : E) (lo hi : EL) | rev (a : E) | fld (a : E) (k : Cs)
  | call (f : Nat) (l : EL) | app (g : E) (l : EL) | meth (o : E) (k : Cs) (l : EL) | make (c : Nat) (l : EL)
  | blt (b : Blt) (l : EL) | mut (m : Mt) (o : E) (l : EL)
  | comp (p : Pat) (k : Ik) (s : EL) (c : EL) (e : E)
  | comp2 (p : Pat) (k : Ik) (s : EL) (q : Pat) (j : Ik) (t : EL) (c : EL) (e : E)
  | dcomp (p : Pat) (k : Ik) (s : EL) (c : EL) (e v : E)
  | lam (f : Nat) (l : List Nat)
  | capp (l : EL) | calll (f : Nat) (l : EL) (g : Nat) (is : List Nat) | callp (f : Nat) (l : EL)
  | box (a : E) | frz (a : E)
inductive EL where
  | nil | cons (a : E) (l : EL)
end
def EL.of : List E → EL
  | [] => .nil
  | a :: l => .cons a (EL.of l)
def EL.to : EL → List E
  | .nil => []
  | .cons a l => a :: l.to
mutual
inductive S where
  | asg (p : Pat) (e : E) | par (l : List Nat) (e : EL) | aug (i : Nat) (o : Bop) (e : E)
  | fset (o : E) (k : Cs) (e : E) | faug (o : E) (k : Cs) (p : Bop) (e : E) | sset (o i e : E) | del (o i : E)
  | ife (c : E) (a b : SL) | whl (c : E) (b : SL) | for_ (p : Pat) (k : Ik) (s : EL) (b : SL)
  | ret (e : E) | expr (e : E) | raise (c : Nat) (l : EL) | tryx (b : SL) (hs : HL)
  | pass | brk | cont
inductive SL where
  | nil | cons (a : S) (l : SL)
/-- except clauses: the classes that it takes, the slot of its name, the suite -/
inductive HL where
  | nil | cons (cs : List Nat) (x : Option Nat) (b : SL) (l : HL)
end
def SL.of : List S → SL
  | [] => .nil
  | a :: l => .cons a (SL.of l)
/-- a def: how many parameters, how many names, its body -/
structure Fd where
  np : Nat
  nv : Nat
  body : SL
structure Prog where
  fn : Nat → Option Fd
  /-- of a class: the def that tells the fields of a new one, in their order -/
  cls : Nat → Option Nat
  /-- the place of a field in a class of exceptions, in a plain class -/
  fix : Nat → Cs → Option Nat
  /-- the method of a class -/
  mth : Nat → Cs → Option Nat
  fixI : Nat → Cs → Option Nat := fun _ _ => none

abbrev Env := List (Option D)
/-- how calls end, at a level -/
structure Cl where
  P : Prog
  lev : Nat
  call : Nat → List D → M D
  /-- a call of a def that gets a lambda with what it captured; the lambda that one got oneself -/
  kall : Nat × List D → Nat → List D → M D
  ks : Option (Nat × List D)
end PV
set_option autoImplicit false
namespace PV
/-! ### by values -/
def okLen {α : Type} (l : List α) : Bool := decide (l.length ≤ line)
def small (i : Int) : Bool := decide (-(2 ^ 64) < i) && decide (i < 2 ^ 64)
def mid (i : Int) : Bool := decide (i.natAbs < 2 ^ 4000)
def bop : Bop → D → D → Option D
  | .add, .int i, .int j => some (.int (i + j))
  | .add, .str a, .str b => if okLen (a ++ b) then some (.str (a ++ b)) else none
  | .add, .tup a, .tup b => if okLen (a ++ b) then some (.tup (a ++ b)) else none
  | .add, .lst a, .lst b => if okLen (a ++ b) then some (.lst (a ++ b)) else none
  | .sub, .int i, .int j => some (.int (i - j))
  | .mul, .int i, .int j => if small i || small j || (mid i && mid j) then some (.int (i * j)) else none
  | .fdiv, .int i, .int j => if decide (0 < j) && mid j then some (.int (i / j)) else none
  | .mod, .int i, .int j => if 0 < j then some (.int (i % j)) else none
  | .pow, .int i, .int j => if decide (0 ≤ j) && decide (j ≤ 1000000) && small i then some (.int (i ^ j.toNat)) else none
  | _, _, _ => none
def isKey : D → Bool
  | .str _ => true
  | .int _ => true
  | _ => false
def dget (l : List (D × D)) (k : D) : Option D := (l.find? fun p => decide (p.1 = k)).map (·.2)
def dput (l : List (D × D)) (k v : D) : List (D × D) :=
  if l.any fun p => decide (p.1 = k) then l.map fun p => if p.1 = k then (p.1, v) else p else l ++ [(k, v)]
def ddrop (l : List (D × D)) (k : D) : List (D × D) := l.filter fun p => decide (p.1 ≠ k)
def scal : D → Bool
  | .non | .bl _ | .int _ | .str _ => true
  | _ => false
/-- a comparison; b: how far within one another it may be asked -/
def cop (b : Nat) : Cop → D → D → Option D
  | .eq, x, y => if x.flat && y.flat && decide (min x.dep y.dep ≤ b) then some (.bl (D.eqv x y)) else none
  | .ne, x, y => if x.flat && y.flat && decide (min x.dep y.dep ≤ b) then some (.bl (!D.eqv x y)) else none
  | .lt, .int i, .int j => some (.bl (decide (i < j)))
  | .le, .int i, .int j => some (.bl (decide (i ≤ j)))
  | .gt, .int i, .int j => some (.bl (decide (j < i)))
  | .ge, .int i, .int j => some (.bl (decide (j ≤ i)))
  | .is, x, .non => some (.bl (decide (x = .non)))
  | .isnot, x, .non => some (.bl (decide (x ≠ .non)))
  | .is, .bl a, .bl c => some (.bl (a == c))
  | .isnot, .bl a, .bl c => some (.bl (a != c))
  | .inn, .str [c], .str y => some (.bl (decide (c ∈ y)))
  | .nin, .str [c], .str y => some (.bl (!decide (c ∈ y)))
  | .inn, x, .tup l => if x.flat && D.flatL l && decide (min x.dep (D.depL l) ≤ b) then some (.bl (l.any fun y => D.eqv y x)) else none
  | .nin, x, .tup l => if x.flat && D.flatL l && decide (min x.dep (D.depL l) ≤ b) then some (.bl (!l.any fun y => D.eqv y x)) else none
  | .inn, x, .lst l => if x.flat && D.flatL l && decide (min x.dep (D.depL l) ≤ b) then some (.bl (l.any fun y => D.eqv y x)) else none
  | .nin, x, .lst l => if x.flat && D.flatL l && decide (min x.dep (D.depL l) ≤ b) then some (.bl (!l.any fun y => D.eqv y x)) else none
  | .inn, x, .dct l => if isKey x then some (.bl (dget l x).isSome) else none
  | .nin, x, .dct l => if isKey x then some (.bl (!(dget l x).isSome)) else none
  | _, _, _ => none
def sIx (n d : Nat) : Option Int → Nat
  | none => d
  | some i => if i < 0 then (i + n).toNat else min i.toNat n
def cut {α : Type} (xs : List α) (lo hi : Option Int) : List α := (xs.drop (sIx xs.length 0 lo)).take (sIx xs.length xs.length hi - sIx xs.length 0 lo)
def ixN (n : Nat) (i : Int) : Option Nat := if 0 ≤ i then (if i < n then some i.toNat else none) else if -(n : Int) ≤ i then some (i + n).toNat else none
def atI {α : Type} (xs : List α) (i : Int) : Option α := (ixN xs.length i).bind fun j => xs[j]?
def item : D → D → Option D
  | .tup l, .int i => atI l i
  | .lst l, .int i => atI l i
  | .str x, .int i => if okLen x then (atI x i).map fun c => .str [c] else none
  | .dct l, k => if isKey k then dget l k else none
  | _, _ => none
def slice (lo hi : Option Int) : D → Option D
  | .tup l => some (.tup (cut l lo hi))
  | .lst l => some (.lst (cut l lo hi))
  | .str x => if okLen x then some (.str (cut x lo hi)) else none
  | _ => none
def tyOf : Ty → D → Option Bool
  | .tuple, .tup _ => some true
  | .str, .str _ => some true
  | .int, .int _ => some true
  | .int, .bl _ => some true
  | .bool, .bl _ => some true
  | .list, .lst _ => some true
  | .dict, .dct _ => some true
  | _, .non | _, .bl _ | _, .int _ | _, .str _ | _, .tup _ | _, .lst _ | _, .dct _ => some false
  | _, _ => none
def allBl : List D → Option (List Bool)
  | [] => some []
  | .bl b :: r => (allBl r).map (b :: ·)
  | _ => none
def allInt : List D → Option (List Int)
  | [] => some []
  | .int b :: r => (allInt r).map (b :: ·)
  | _ => none
def allStr : List D → Option (List Cs)
  | [] => some []
  | .str b :: r => (allStr r).map (b :: ·)
  | _ => none
def csLt : Cs → Cs → Bool
  | _, [] => false
  | [], _ :: _ => true
  | a :: r, b :: s => decide (a < b) || (a == b && csLt r s)
def insC (x : Cs) : List Cs → List Cs
  | [] => [x]
  | y :: r => if csLt x y then x :: y :: r else y :: insC x r
/-- texts, rising -/
def sortC : List Cs → List Cs
  | [] => []
  | x :: r => insC x (sortC r)
def joinC (s : Cs) : List Cs → Cs
  | [] => []
  | [x] => x
  | x :: y :: r => x ++ s ++ joinC s (y :: r)
def splitC (c : Nat) : Cs → List Cs
  | [] => [[]]
  | a :: r => if a = c then [] :: splitC c r else match splitC c r with
    | [] => [[a]]
    | x :: s => (a :: x) :: s
end PV
set_option autoImplicit false
namespace PV
open PySem (Str PyData)
/-! ### repr -/
mutual
def D.py : D → PyData
  | .non => .none
  | .bl b => .bool b
  | .int i => .int i
  | .str x => .str ⟨x.toArray⟩
  | .tup l => .tuple (D.pyL l)
  | .lst l => .list (D.pyL l)
  | .dct l => .dict (D.pyP l)
  | _ => .none
def D.pyL : List D → List PyData
  | [] => []
  | x :: r => x.py :: D.pyL r
def D.pyP : List (D × D) → List (PyData × PyData)
  | [] => []
  | (x, y) :: r => (x.py, y.py) :: D.pyP r
end
/-- numbers, texts, truths, None -/
def scalF (d : D) : Bool := match d with
  | .non | .bl _ | .int _ | .str _ => d.flat
  | _ => false
/-- a dict of such by texts -/
def dctFlat : D → Bool
  | .dct l => l.all fun p => (match p.1 with
    | .str _ => true
    | _ => false) && (scalF p.1 && scalF p.2)
  | _ => false
def shown (d : D) : Cs := d.py.shown.cps.toList
def reprOk (d : D) : Bool := (d.flat || dctFlat d) && d.py.showable && okLen (shown d)

/-- the first place -/
def ixC : List Cs → Cs → Option Nat
  | [], _ => none
  | y :: r, s => if y = s then some 0 else (ixC r s).map (· + 1)
def revD : D → Option D
  | .tup l => some (.tup l.reverse)
  | .lst l => some (.lst l.reverse)
  | _ => none
/-- each once -/
def once : List Cs → List Cs
  | [] => []
  | x :: r => if x ∈ once r then once r else x :: once r
theorem once_mem {s : Cs} : ∀ {l : List Cs}, s ∈ once l ↔ s ∈ l
  | [] => Iff.rfl
  | x :: r => by
    unfold once
    split
    · rename_i q
      rw [once_mem, List.mem_cons]
      refine ⟨.inr, fun h => h.elim (fun e => ?_) id⟩
      rw [e]; exact once_mem.mp q
    · simp only [List.mem_cons, once_mem]
theorem once_nd : ∀ l : List Cs, (once l).Nodup
  | [] => List.nodup_nil
  | x :: r => by
    unfold once
    split
    · exact once_nd r
    · exact List.nodup_cons.mpr ⟨‹_›, once_nd r⟩
def upC (l : List Cs) : List Cs := sortC (once l)
def blt (b : Nat) (h : Hs) : Blt → List D → Option D
  | .len, [x] => match vw h x with
    | .tup l => some (.int l.length)
    | .lst l => some (.int l.length)
    | .dct l => some (.int l.length)
    | .str l => if okLen l then some (.int l.length) else none
    | _ => none
  | .isin t, [x] => (tyOf t (vw h x)).map .bl
  | .int, [.bl b] => some (.int (if b then 1 else 0))
  | .int, [.int b] => some (.int b)
  | .tuple, [x] => match vw h x with
    | .tup l => some (.tup l)
    | .lst l => some (.tup l)
    | _ => none
  | .list, [x] => match vw h x with
    | .tup l => some (.lst l)
    | .lst l => some (.lst l)
    | .dct l => some (.lst (l.map (·.1)))
    | _ => none
  | .dict, [x] => match vw h x with
    | .dct l => some (.dct l)
    | _ => none
  | .abs, [.int i] => some (.int i.natAbs)
  | .min2, [.int i, .int j] => some (.int (if j < i then j else i))
  | .max2, [.int i, .int j] => some (.int (if j > i then j else i))
  | .sum, [x] => match vw h x with
    | .lst l => (allInt l).map fun l => .int l.sum
    | _ => none
  | .any, [x] => match vw h x with
    | .lst l => (allBl l).map fun l => .bl (l.any id)
    | _ => none
  | .all, [x] => match vw h x with
    | .lst l => (allBl l).map fun l => .bl (l.all id)
    | _ => none
  | .repr, [x] => if reprOk (vw h x) && decide ((vw h x).dep ≤ b) then some (.str (shown (vw h x))) else none
  | .sorted, [x] => match vw h x with
    | .lst l => if decide (l.length < 64) then (allStr l).map fun l => .lst ((sortC l).map .str) else none
    | .dct l => if decide (l.length < 64) then (allStr (l.map (·.1))).map fun l => .lst ((sortC l).map .str) else none
    | _ => none
  | .set, [x] => match vw h x with
    | .lst l => if decide (l.length < 4000) then (allStr l).map fun l => .lst ((upC l).map .str) else none
    | _ => none
  | .get, [x, k] => match vw h x with
    | .dct l => if isKey k then some ((dget l k).getD .non) else none
    | _ => none
  | .getd, [x, k, d] => match vw h x with
    | .dct l => if isKey k then some ((dget l k).getD d) else none
    | _ => none
  | .kin, [.dct l, .str s] => some (.bl (dget l (.str s)).isSome)
  | .knin, [.dct l, .str s] => some (.bl (!(dget l (.str s)).isSome))
  | .kix, [.dct l, .str s] => dget l (.str s)
  | .kget, [.dct l, .str s, d] => some ((dget l (.str s)).getD d)
  | .join, [.str s, x] => match vw h x with
    | .lst l => match allStr l with
      | some l => if decide ((l.map List.length).sum + l.length * s.length ≤ line) then some (.str (joinC s l)) else none
      | none => none
    | _ => none
  | .index, [x, .str s] => match vw h x with
    | .lst l => (allStr l).bind fun l => (ixC l s).map fun j => .int (j : Nat)
    | _ => none
  | .isx cs ds, [x] => match vw h x with
    | .exc c _ => some (.bl (cs.contains c || ds.contains c))
    | _ => none
  | .isin2 t u, [x] => match tyOf t (vw h x), tyOf u (vw h x) with
    | some a, some b => some (.bl (a || b))
    | _, _ => none
  | _, _ => none
/-- a method that changes its cell: the new content, what is told -/
def mtd : Mt → D → List D → Hs → Option (D × D)
  | .append, .lst l, [x], _ => if decide (l.length < line) then some (.lst (l ++ [x]), .non) else none
  | .extend, .lst l, [x], h => match vw h x with
    | .lst k => if okLen (l ++ k) then some (.lst (l ++ k), .non) else none
    | _ => none
  | .pop, .lst l, [], _ => l.getLast?.map fun x => (.lst l.dropLast, x)
  | .popat, .lst l, [.int i], _ => if decide (0 ≤ i) && small i then (l[i.toNat]?).map fun x => (.lst (l.eraseIdx i.toNat), x) else none
  | .dpop, .dct l, [k, d], _ => if isKey k then some (.dct (ddrop l k), (dget l k).getD d) else none
  | .setdef, .dct l, [k, d], _ => if isKey k && decide (l.length < line) then match dget l k with
      | some x => some (.dct l, x)
      | none => some (.dct (l ++ [(k, d)]), d) else none
  | .update, .dct l, [x], h => match vw h x with
    | .dct k => if k.all (fun p => isKey p.1) && decide (l.length + k.length < line) then some (.dct (k.foldl (fun a p => dput a p.1 p.2) l), .non) else none
    | _ => none
  | _, _, _, _ => none
/-- what it is a method of -/
def mtTy : Mt → D → Bool
  | .append, .lst _ | .extend, .lst _ | .pop, .lst _ | .popat, .lst _ | .remove, .lst _ => true
  | .setdef, .dct _ | .dpop, .dct _ | .update, .dct _ => true
  | _, _ => false
/-- o[i] = x -/
def setAt : D → D → D → Option D
  | .lst l, .int i, x => (ixN l.length i).map fun j => .lst (l.set j x)
  | .dct l, k, x => if isKey k && decide (l.length < line) then some (.dct (dput l k x)) else none
  | _, _, _ => none
def delAt : D → D → Option D
  | .dct l, k => if isKey k && (dget l k).isSome then some (.dct (ddrop l k)) else none
  | _, _ => none
/-- the items that are gone through -/
def rangeD (lo : Int) (n : Nat) : List D := (List.range n).map fun k => .int (lo + (k : Nat))
def zipD : List D → List D → List D
  | x :: r, y :: s => .tup [x, y] :: zipD r s
  | _, _ => []
def enumD (k : Nat) : List D → List D
  | [] => []
  | x :: r => .tup [.int k, x] :: enumD (k + 1) r
def seqOf : D → Option (List D)
  | .tup l => some l
  | .lst l => some l
  | _ => none
/-- the same, texts too -/
def seqS : D → Option (List D)
  | .tup l => some l
  | .lst l => some l
  | .str x => some (x.map fun c => .str [c])
  | _ => none
def rngOk (i : Int) : Bool := decide (-(2 ^ 62) ≤ i) && decide (i < 2 ^ 62)
def through (h : Hs) : Ik → List D → Option (List D)
  | .plain, [x] => match vw h x with
    | .tup l => some l
    | .lst l => some l
    | .str l => some (l.map fun c => .str [c])
    | _ => none
  | .enum, [x] => (seqOf (vw h x)).map (enumD 0)
  | .zip, [x, y] => (seqS (vw h x)).bind fun l => (seqS (vw h y)).map (zipD l)
  | .range, [.int i] => if rngOk i then some (rangeD 0 i.toNat) else none
  | .range2, [.int i, .int j] => if rngOk i && rngOk j then some (rangeD i (j - i).toNat) else none
  | .rev, [x] => (seqOf (vw h x)).map List.reverse
  | .items, [x] => match vw h x with
    | .dct l => some (l.map fun p => .tup [p.1, p.2])
    | _ => none
  | .values, [x] => match vw h x with
    | .dct l => some (l.map (·.2))
    | _ => none
  | _, _ => none
/-- what is gone through is as it was -/
def stay (h h' : Hs) : List D → Bool
  | [] => true
  | .ref i :: r => decide (h'[i]? = h[i]?) && stay h h' r
  | _ :: r => stay h h' r
def setsN (ρ : Env) : List Nat → List D → Option Env
  | [], [] => some ρ
  | i :: r, x :: l => setsN (ρ.set i (some x)) r l
  | _, _ => none
def setsOf (ρ : Env) : List Nat → Option (List D)
  | [] => some []
  | i :: r => match ρ.getD i none with
    | some d => (setsOf ρ r).map (d :: ·)
    | none => none
mutual
def Pat.bnd (h : Hs) : Pat → D → Env → Option Env
  | .nm i, d, ρ => some (ρ.set i (some d))
  | .tp ps, .tup l, ρ => Pat.bndL h ps l ρ
  | .tp ps, .lst l, ρ => Pat.bndL h ps l ρ
  | .st is j, .tup l, ρ => if is.length ≤ l.length then setsN ρ (is ++ [j]) (l.take is.length ++ [.lst (l.drop is.length)]) else none
  | .st is j, .lst l, ρ => if is.length ≤ l.length then setsN ρ (is ++ [j]) (l.take is.length ++ [.lst (l.drop is.length)]) else none
  | _, _, _ => none
def Pat.bndL (h : Hs) : List Pat → List D → Env → Option Env
  | [], [], ρ => some ρ
  | p :: ps, x :: l, ρ => match p.bnd h x ρ with
    | some ρ => Pat.bndL h ps l ρ
    | none => none
  | _, _, _ => none
end
def boxed (d : D) : Bool := match d with
  | .lst _ => true
  | .dct _ => true
  | .ins _ _ => true
  | _ => false
/-- a cell is frozen: it is gone -/
def gone (h : Hs) (i : Nat) : Hs := h.set i .non
def optInt : List D → Option (Option Int)
  | [] => some none
  | [.int i] => some (some i)
  | _ => none
/-- on with what came -/
def R.then {α β : Type} (r : R α) (f : α → Hs → R β) : R β := match r with
  | .ok a h => f a h
  | .ex c l h => .ex c l h
  | .bad => .bad
def R.ofO {α : Type} (o : Option α) (h : Hs) : R α := match o with
  | some a => .ok a h
  | none => .bad
def asB : D → Option Bool
  | .bl b => some b
  | _ => none
def asI : D → Option Int
  | .int b => some b
  | _ => none
def asR : D → Option Nat
  | .ref b => some b
  | _ => none
/-- what may be called: the def, what goes ahead of the arguments -/
def asF : D → Option (Nat × List D)
  | .fn f => some (f, [])
  | .clo f l => some (f, l)
  | _ => none
/-- the place of a field by a table -/
def fixL (t : List (Nat × List Cs)) (c : Nat) (k : Cs) : Option Nat := (t.lookup c).bind fun l => l.findIdx? (· == k)
/-- a field -/
def fldAt (P : Prog) (k : Cs) : D → Option D
  | .exc c l => (P.fix c k).bind fun j => l[j]?
  | .ins c l => (P.fixI c k).bind fun j => l[j]?
  | _ => none
def fldsOf : D → Option (List D)
  | .tup l => some l
  | _ => none
def insOf : D → Option (Nat × List D)
  | .ins c l => some (c, l)
  | _ => none
mutual
def Pat.slots : Pat → List Nat
  | .nm i => [i]
  | .tp ps => Pat.slotsL ps
  | .st is j => is ++ [j]
def Pat.slotsL : List Pat → List Nat
  | [] => []
  | p :: ps => p.slots ++ Pat.slotsL ps
end
def Pat.one : Pat → Bool
  | .nm _ => true
  | _ => false
/-- names forgotten -/
def wipeE (ρ : Env) : List Nat → Env
  | [] => ρ
  | i :: r => (wipeE ρ r).set i none
/-- no more turns than a list holds -/
def fine (k : Ik) (vs : List D) (l : List D) : Bool := match k with
  | .range | .range2 => decide (l.length ≤ line)
  | .plain => match vs with
    | [.str _] => decide (l.length ≤ line)
    | _ => true
  | .zip => match vs with
    | [.str _, .str _] => decide (l.length ≤ line)
    | _ => true
  | _ => true
/-- a comprehension's turns -/
def turns (f : D → M (Option D)) (ok : Hs → Bool) : List D → List D → M (List D)
  | [], acc => fun h => .ok acc h
  | x :: r, acc => fun h => (f x h).then fun d h' => if ok h' then turns f ok r (match d with
      | some d => acc ++ [d]
      | none => acc) h' else .bad
/-- pairs into a dict -/
def dctOf : List D → List D → List (D × D) → Option (List (D × D))
  | [], [], acc => some acc
  | k :: r, v :: s, acc => if isKey k then dctOf r s (dput acc k v) else none
  | _, _, _ => none

section
variable (C : Cl)
/-- how far within one another a comparison may go -/
def Cl.bd : Nat := 8 * C.lev + 300
mutual
def evE : E → Env → M D
  | .cst d, _ => fun h => .ok d h
  | .var i, ρ => fun h => R.ofO (ρ.getD i none) h
  | .op o a b, ρ => fun h => (evE a ρ h).then fun x h => (evE b ρ h).then fun y h => R.ofO (bop o (vw h x) (vw h y)) h
  | .neg a, ρ => fun h => (evE a ρ h).then fun x h => (R.ofO (asI x) h).then fun i h => .ok (.int (-i)) h
  | .not a, ρ => fun h => (evE a ρ h).then fun x h => (R.ofO (asB x) h).then fun b h => .ok (.bl (!b)) h
  | .cmp o a b, ρ => fun h => (evE a ρ h).then fun x h => (evE b ρ h).then fun y h => R.ofO (cop C.bd o (vw h x) (vw h y)) h
  | .chain o p a b c, ρ => fun h => (evE a ρ h).then fun x h => (evE b ρ h).then fun y h => (R.ofO (cop C.bd o (vw h x) (vw h y)) h).then fun d h => (R.ofO (asB d) h).then fun q h =>
      if q then (evE c ρ h).then fun z h => R.ofO (cop C.bd p (vw h y) (vw h z)) h else .ok (.bl false) h
  | .and a b, ρ => fun h => (evE a ρ h).then fun x h => (R.ofO (asB x) h).then fun q h => if q then (evE b ρ h).then fun y h => (R.ofO (asB y) h).then fun q h => .ok (.bl q) h else .ok (.bl false) h
  | .or a b, ρ => fun h => (evE a ρ h).then fun x h => (R.ofO (asB x) h).then fun q h => if q then .ok (.bl true) h else (evE b ρ h).then fun y h => (R.ofO (asB y) h).then fun q h => .ok (.bl q) h
  | .ife c a b, ρ => fun h => (evE c ρ h).then fun x h => (R.ofO (asB x) h).then fun q h => if q then evE a ρ h else evE b ρ h
  | .tup l, ρ => fun h => (evL l ρ h).then fun l h => .ok (.tup l) h
  | .lst l, ρ => fun h => (evL l ρ h).then fun l h => .ok (.lst l) h
  | .dct ks vs, ρ => fun h => (evL ks ρ h).then fun ks h => (evL vs ρ h).then fun vs h => (R.ofO (dctOf ks vs []) h).then fun l h => .ok (.dct l) h
  | .idx a b, ρ => fun h => (evE a ρ h).then fun x h => (evE b ρ h).then fun y h => R.ofO (item (vw h x) y) h
  | .slc a lo hi, ρ => fun h => (evE a ρ h).then fun x h => (evL lo ρ h).then fun lo h => (R.ofO (optInt lo) h).then fun lo h => (evL hi ρ h).then fun hi h => (R.ofO (optInt hi) h).then fun hi h => R.ofO (slice lo hi (vw h x)) h
  | .rev a, ρ => fun h => (evE a ρ h).then fun x h => R.ofO (revD (vw h x)) h
  | .fld a k, ρ => fun h => (evE a ρ h).then fun x h => R.ofO (fldAt C.P k (vw h x)) h
  | .call f l, ρ => fun h => (evL l ρ h).then fun l h => C.call f l h
  | .app g l, ρ => fun h => (evE g ρ h).then fun x h => (R.ofO (asF x) h).then fun p h => (evL l ρ h).then fun l h => C.call p.1 (p.2 ++ l) h
  | .meth o k l, ρ => fun h => (evE o ρ h).then fun x h => (R.ofO (insOf (vw h x)) h).then fun p h => (R.ofO (C.P.mth p.1 k) h).then fun f h => (evL l ρ h).then fun l h => C.call f (x :: l) h
  | .make c l, ρ => fun h => (evL l ρ h).then fun l h => (R.ofO (C.P.cls c) h).then fun f h => (C.call f l h).then fun d h => (R.ofO (fldsOf d) h).then fun fs h => .ok (.ref h.length) (h ++ [.ins c fs])
  | .blt b l, ρ => fun h => (evL l ρ h).then fun l h => R.ofO (blt C.bd h b l) h
  | .mut m o l, ρ => fun h => (evE o ρ h).then fun x h => (R.ofO (asR x) h).then fun i h => (R.ofO (if mtTy m (h.getD i .non) then some () else none) h).then fun _ h => (evL l ρ h).then fun l h => (R.ofO (mtd m (h.getD i .non) l h) h).then fun p h => .ok p.2 (h.set i p.1)
  | .comp p k s c e, ρ => fun h => (evL s ρ h).then fun vs h1 => (R.ofO (through h1 k vs) h1).then fun l h1 =>
      if fine k vs l then (turns (fun x h => (R.ofO (p.bnd h x (wipeE ρ p.slots)) h).then fun ρ' h => (evT c ρ' h).then fun q h => if q then (evE e ρ' h).then fun d h => .ok (some d) h else .ok none h) (fun h2 => stay h1 h2 vs) l [] h1).then fun l h => .ok (.lst l) h else .bad
  | .comp2 _ _ _ _ _ _ _ _, _ => fun _ => .bad
  | .dcomp _ _ _ _ _ _, _ => fun _ => .bad
  | .lam f is, ρ => fun h => (R.ofO (setsOf ρ is) h).then fun l h => .ok (.clo f l) h
  | .capp l, ρ => fun h => (evL l ρ h).then fun l h => (R.ofO C.ks h).then fun k h => C.call k.1 (l ++ k.2) h
  | .calll f l g is, ρ => fun h => (evL l ρ h).then fun l h => (R.ofO (setsOf ρ is) h).then fun cs h => C.kall (g, cs) f l h
  | .callp f l, ρ => fun h => (evL l ρ h).then fun l h => (R.ofO C.ks h).then fun k h => C.kall k f l h
  | .box a, ρ => fun h => (evE a ρ h).then fun d h => if boxed d then .ok (.ref h.length) (h ++ [d]) else .bad
  | .frz a, ρ => fun h => (evE a ρ h).then fun x h => (R.ofO (asR x) h).then fun i h => if h.getD i .non = .non then .bad else .ok (h.getD i .non) (gone h i)
def evL : EL → Env → M (List D)
  | .nil, _ => fun h => .ok [] h
  | .cons a l, ρ => fun h => (evE a ρ h).then fun x h => (evL l ρ h).then fun r h => .ok (x :: r) h
/-- the ifs of a comprehension: none or one -/
def evT : EL → Env → M Bool
  | .nil, _ => fun h => .ok true h
  | .cons a .nil, ρ => fun h => (evE a ρ h).then fun x h => R.ofO (asB x) h
  | .cons _ (.cons _ _), _ => fun _ => .bad
end
end
end PV
set_option autoImplicit false
namespace PV
/-! ### statements -/
inductive SR where
  | nx (ρ : Env) (h : Hs) | rt (d : D) (h : Hs) | bk (ρ : Env) (h : Hs) | ct (ρ : Env) (h : Hs)
  | ex (c : Nat) (l : List D) (ρ : Env) (h : Hs) | bad
  deriving Inhabited
/-- on a loop's turns -/
def forS (f : D → Env → Hs → SR) (ok : Hs → Bool) : List D → Env → Hs → SR
  | [], ρ, h => .nx ρ h
  | x :: r, ρ, h => match f x ρ h with
    | .nx ρ' h' => if ok h' then forS f ok r ρ' h' else .bad
    | .ct ρ' h' => if ok h' then forS f ok r ρ' h' else .bad
    | .bk ρ' h' => .nx ρ' h'
    | .rt d h' => .rt d h'
    | .ex c l ρ' h' => .ex c l ρ' h'
    | .bad => .bad
/-- a while: its test, its body, so many turns at most -/
def whlS (c : Env → M Bool) (f : Env → Hs → SR) : Nat → Env → Hs → SR
  | 0, _, _ => .bad
  | n + 1, ρ, h => match c ρ h with
    | .ok true h1 => match f ρ h1 with
      | .nx ρ' h' => whlS c f n ρ' h'
      | .ct ρ' h' => whlS c f n ρ' h'
      | .bk ρ' h' => .nx ρ' h'
      | .rt d h' => .rt d h'
      | .ex c l ρ' h' => .ex c l ρ' h'
      | .bad => .bad
    | .ok false h1 => .nx ρ h1
    | .ex c l h1 => .ex c l ρ h1
    | .bad => .bad
/-- turns that a while may take -/
def most : Nat := 2 ^ 40
/-- what a call tells is told with no more cells than are named -/
def fits (n : Nat) (h h' : Hs) (ds : List D) : Bool := D.withinL n ds && (List.range n).all fun i => decide (h'[i]? = h[i]?) || (h'.getD i .non).within n
def trim (h h' : Hs) (ds : List D) : Hs :=
  if fits h.length h h' ds then h'.take h.length else if fits (h.length + 1) h h' ds then h'.take (h.length + 1) else h'
def R.thenS {α : Type} (r : R α) (ρ : Env) (f : α → Hs → SR) : SR := match r with
  | .ok a h => f a h
  | .ex c l h => .ex c l ρ h
  | .bad => .bad
def SR.then (r : SR) (f : Env → Hs → SR) : SR := match r with
  | .nx ρ h => f ρ h
  | o => o
section
variable (C : Cl)
mutual
def evS : S → Env → Hs → SR
  | .asg p e, ρ, h => (evE C e ρ h).thenS ρ fun d h => (R.ofO (p.bnd h d ρ) h).thenS ρ fun ρ' h => .nx ρ' h
  | .par is es, ρ, h => (evL C es ρ h).thenS ρ fun ds h => (R.ofO (setsN ρ is ds) h).thenS ρ fun ρ' h => .nx ρ' h
  | .aug i o e, ρ, h => (R.ofO (ρ.getD i none) h).thenS ρ fun x h => (evE C e ρ h).thenS ρ fun y h => (R.ofO ((bop o x y).bind asI) h).thenS ρ fun d h => .nx (ρ.set i (some (.int d))) h
  | .fset o k e, ρ, h => (evE C e ρ h).thenS ρ fun d h => (evE C o ρ h).thenS ρ fun x h => (R.ofO (asR x) h).thenS ρ fun i h => (R.ofO (insOf (h.getD i .non)) h).thenS ρ fun p h =>
      (R.ofO (C.P.fixI p.1 k) h).thenS ρ fun j h => if j < p.2.length then .nx ρ (h.set i (.ins p.1 (p.2.set j d))) else .bad
  | .faug o k b e, ρ, h => (evE C o ρ h).thenS ρ fun x h => (R.ofO (asR x) h).thenS ρ fun i h => (R.ofO (insOf (h.getD i .non)) h).thenS ρ fun p h =>
      (R.ofO (C.P.fixI p.1 k) h).thenS ρ fun j h => (R.ofO (p.2[j]?) h).thenS ρ fun a h => (evE C e ρ h).thenS ρ fun y h => (R.ofO ((bop b a y).bind asI) h).thenS ρ fun d h =>
      (R.ofO (insOf (h.getD i .non)) h).thenS ρ fun q h => if q.1 = p.1 then .nx ρ (h.set i (.ins p.1 (q.2.set j (.int d)))) else .bad
  | .sset o i e, ρ, h => (evE C e ρ h).thenS ρ fun d h => (evE C o ρ h).thenS ρ fun x h => (R.ofO (asR x) h).thenS ρ fun j h => (evE C i ρ h).thenS ρ fun k h => (R.ofO (setAt (h.getD j .non) k d) h).thenS ρ fun c h => .nx ρ (h.set j c)
  | .del o i, ρ, h => (evE C o ρ h).thenS ρ fun x h => (R.ofO (asR x) h).thenS ρ fun j h => (evE C i ρ h).thenS ρ fun k h => (R.ofO (delAt (h.getD j .non) k) h).thenS ρ fun c h => .nx ρ (h.set j c)
  | .ife c a b, ρ, h => (evE C c ρ h).thenS ρ fun x h => (R.ofO (asB x) h).thenS ρ fun q h => if q then evSL a ρ h else evSL b ρ h
  | .whl c b, ρ, h => whlS (fun ρ h => (evE C c ρ h).then fun x h => R.ofO (asB x) h) (evSL b) most ρ h
  | .for_ p k s b, ρ, h => (evL C s ρ h).thenS ρ fun vs h1 => (R.ofO (through h1 k vs) h1).thenS ρ fun l h1 =>
      forS (fun x ρ h => (R.ofO (p.bnd h x ρ) h).thenS ρ fun ρ' h => evSL b ρ' h) (fun h2 => stay h1 h2 vs) l ρ h1
  | .ret e, ρ, h => (evE C e ρ h).thenS ρ fun d h => .rt d h
  | .expr e, ρ, h => (evE C e ρ h).thenS ρ fun _ h => .nx ρ h
  | .raise c es, ρ, h => (evL C es ρ h).thenS ρ fun ds h => .ex c ds ρ h
  | .tryx b hs, ρ, h => match evSL b ρ h with
    | .ex c l ρ' h' => evH hs c l ρ' h'
    | r => r
  | .pass, ρ, h => .nx ρ h
  | .brk, ρ, h => .bk ρ h
  | .cont, ρ, h => .ct ρ h
def evSL : SL → Env → Hs → SR
  | .nil, ρ, h => .nx ρ h
  | .cons s r, ρ, h => (evS s ρ h).then fun ρ' h' => evSL r ρ' h'
def evH : HL → Nat → List D → Env → Hs → SR
  | .nil, c, l, ρ, h => .ex c l ρ h
  | .cons cs x b r, c, l, ρ, h => if cs.contains c then
      match x with
      | none => evSL b ρ h
      | some i => match evSL b (ρ.set i (some (.exc c l))) h with
        | .nx ρ' h' => .nx (ρ'.set i none) h'
        | .bk ρ' h' => .bk (ρ'.set i none) h'
        | .ct ρ' h' => .ct (ρ'.set i none) h'
        | .ex c l ρ' h' => .ex c l (ρ'.set i none) h'
        | o => o
    else evH r c l ρ h
end
end
def runF (C : Cl) (fd : Fd) (args : List D) : M D := fun h =>
  if args.length = fd.np then
    match evSL C fd.body (args.map some ++ List.replicate (fd.nv - fd.np) none) h with
    | .rt d h' => .ok d (trim h h' [d])
    | .nx _ h' => .ok .non (trim h h' [])
    | .ex c l _ h' => .ex c l (trim h h' l)
    | _ => .bad
  else .bad
/-- a def's call, so many calls within one another; k: the lambda that it gets, with what that captured -/
def callK (P : Prog) : Nat → Option (Nat × List D) → Nat → List D → M D
  | 0, _, _, _ => fun _ => .bad
  | n + 1, k, f, args => match P.fn f with
    | some fd => runF ⟨P, n, callK P n none, fun c => callK P n (some c), k⟩ fd args
    | none => fun _ => .bad
abbrev callN (P : Prog) (n f : Nat) (args : List D) : M D := callK P n none f args
/-- how calls end at the level n, for a def that got k -/
abbrev clOf (P : Prog) (n : Nat) (k : Option (Nat × List D)) : Cl := ⟨P, n, callK P n none, fun c => callK P n (some c), k⟩
end PV
set_option Elab.async false
set_option autoImplicit false
set_option maxRecDepth 100000
namespace PV
open PySem PySem.Spec PyProof.Rows L2

/-- what stands where: the written part, the addresses of defs and classes, the fields of classes -/
inductive Gv where
  /-- hf: a def that gets a lambda; cls: a class of exceptions, its number, those of the classes that it is one of, its fields -/
  | fn (f : Nat) | hf (f : Nat) | cls (c : Nat) (sup : List Nat) (fl : List Str) | cst (d : D) | kdt (l : List (Cs × D))
  /-- ic: a plain class, its number, its fields, its methods' numbers -/
  | ic (c : Nat) (fl : List Str) (ms : List (Str × Nat))
/-- the lambda that a def got: the name's slot, the function's address, its number, what it captured -/
structure CloI where
  j : Nat
  a : Addr
  f : Nat
  ds : List D
  vs : List V
/-- lists that are being made; objects known all through; the lambda that is got -/
structure Ht where
  hot : Addr → Prop
  kn : List (Addr × HO)
  clo : Option CloI
structure Gx where
  K : PySem.W.Frag
  fa : Nat → Addr
  ca : Nat → Addr
  flds : Nat → List Str
  /-- the module's names; the defs; the built-in names that the module leaves as they are -/
  gl : List (Str × Gv)
  fns : List Nat
  bl : List Str
  /-- defs that get a lambda; code objects' tables, with the name that their code objects bear -/
  hfs : List Nat := []
  tabs : List (Addr × Str) := []
  /-- the lambdas: number, parameters, what they capture, text -/
  lamT : Nat → List Str → List Str → Arguments → Expr → Scope → Prop := fun _ _ _ _ _ _ => False
  ht : Ht
abbrev Gx.hot (G : Gx) : Addr → Prop := G.ht.hot
/-- lists that are being made, tables -/
def Gx.warm (G : Gx) (a : Addr) : Prop := G.hot a ∨ ∃ p ∈ G.tabs, p.1 = a
/-- known by what is true of it alone -/
def isExt (u : HO) : Prop := ∃ φ, u = .ext φ
def NT (u : HO) : Prop := ∀ ps, u ≠ .tbl ps
/-- tables and what is known by what is true of it stay -/
def Sm (H H' : L2.Hp) : Prop := ∀ a u, H a = some u → (isExt u ∨ ¬ NT u) → H' a = some u
def str (x : Cs) : Str := ⟨x.toArray⟩
def keyOf : D → Key
  | .int i => .inl i
  | .str x => .inr (str x)
  | _ => .inl 0
/-- a tuple, a list of the written part -/
def KSeq (T : String) (K : PySem.W.Frag) (a : Addr) (xs : List V) : Prop :=
  ∃ (o : Obj) (its : Array Value) (n : Nat), K.lookup a = some o ∧ o.cls = .type T ∧ o.data = .seq its n ∧ its.size ≤ sizeLine ∧ Vals xs its.toList
def KLst (K : PySem.W.Frag) (a : Addr) (xs : List V) : Prop :=
  ∃ (its : Array Value) (n : Nat), K.lookup a = some { cls := .type "list", data := .seq its n } ∧ its.size ≤ sizeLine ∧ Vals xs its.toList
/-- a list that is read -/
def LsR (K : PySem.W.Frag) (H : L2.Hp) (a : Addr) (xs : List V) : Prop := Rd H a (.lst xs) ∨ KLst K a xs
theorem LsR.sq {K : PySem.W.Frag} {H : L2.Hp} {a : Addr} {xs : List V} (h : LsR K H a xs) : SqL K H a xs := by
  rcases h with h | ⟨its, n, h1, h2, h3⟩
  · exact .inl h
  · exact .inr ⟨_, its, n, h1, rfl, rfl, rfl, h2, h3⟩
/-- a caught exception, kept -/
def ExV (a : Addr) (cls : Value) (d : Option Addr) : HO := .ext fun h => ∃ oe, h.get? a = some oe ∧ Zc cls d oe ∧ ∃ vs, oe.data = .fields vs
/-- an instance's fields -/
def Flds (fl : List Str) (fs : List (Str × V)) (vs : List V) : Prop := fl.length = vs.length ∧ ∀ (j : Nat) (f : Str) (v : V), fl[j]? = some f → vs[j]? = some v → fs.lookup f = some v

section
variable (G : Gx) (H : L2.Hp) (Lv : Addr → Prop) (m : List Addr)
mutual
inductive Rep : D → V → Prop
  | non : Rep .non .non
  | bl (b : Bool) : Rep (.bl b) (.bl b)
  | int (i : Int) : Rep (.int i) (.int i)
  | str (x : Cs) : Rep (.str x) (.str (str x))
  | tup {l vs a} : Rd H a (.tup vs) → ¬ Lv a → RepL l vs → Rep (.tup l) (.ref a)
  | tupK {l vs a} : KSeq "tuple" G.K a vs → RepL l vs → Rep (.tup l) (.ref a)
  | lst {l vs a} : Rd H a (.lst vs) → ¬ Lv a → RepL l vs → Rep (.lst l) (.ref a)
  | lstK {l vs a} : KLst G.K a vs → RepL l vs → Rep (.lst l) (.ref a)
  | dct {l kvs a} : Rd H a (.dK kvs) → ¬ Lv a → (∀ p ∈ l, isKey p.1 = true) → kvs.map (·.1) = l.map (fun p => keyOf p.1) → RepL (l.map (·.2)) (kvs.map (·.2)) → Rep (.dct l) (.ref a)
  | ins {c l vs a dx fs} : H a = some (.ins (G.ca c) dx fs) → ¬ Lv a → Flds (G.flds c) fs vs → RepL l vs → Rep (.ins c l) (.ref a)
  | ref {i a} : m[i]? = some a → Rep (.ref i) (.ref a)
  | fn (f : Nat) : f ∈ G.fns → Rep (.fn f) (.ref (G.fa f))
  | exc0 {c a} : (∃ x sup fl, G.gl.lookup x = some (.cls c sup fl)) → Rd H a (ExV a (.ref (G.ca c)) none) → ¬ Lv a → G.flds c = [] → Rep (.exc c []) (.ref a)
  | exc1 {c l a dx fs vs} : (∃ x sup fl, G.gl.lookup x = some (.cls c sup fl)) → Rd H a (ExV a (.ref (G.ca c)) (some dx)) → ¬ Lv a → Rd H dx (.xd fs) → ¬ Lv dx → G.flds c ≠ [] → Flds (G.flds c) fs vs → RepL l vs → Rep (.exc c l) (.ref a)
inductive RepL : List D → List V → Prop
  | nil : RepL [] []
  | cons {d v l vs} : Rep d v → RepL l vs → RepL (d :: l) (v :: vs)
end
end
section
variable {G : Gx} {H H' : L2.Hp} {Lv Lv' : Addr → Prop} {m m' : List Addr} {hot : Addr → Prop}
theorem RepL.length : ∀ {l : List D} {vs : List V}, RepL G H Lv m l vs → l.length = vs.length
  | _, _, .nil => rfl
  | _, _, .cons _ r => by simp [RepL.length r]
theorem RepL.get : ∀ {l : List D} {vs : List V} {i : Nat} {d : D}, RepL G H Lv m l vs → l[i]? = some d → ∃ v, vs[i]? = some v ∧ Rep G H Lv m d v
  | _, _, _, _, .nil, e => by simp at e
  | _, _, 0, _, .cons r _, e => by simp at e; subst e; exact ⟨_, rfl, r⟩
  | _, _, i + 1, d, .cons _ t, e => by
    obtain ⟨v, h1, h2⟩ := RepL.get (i := i) (d := d) t (by simpa using e)
    exact ⟨v, by simpa using h1, h2⟩
theorem RepL.append : ∀ {l k : List D} {vs ws : List V}, RepL G H Lv m l vs → RepL G H Lv m k ws → RepL G H Lv m (l ++ k) (vs ++ ws)
  | _, _, _, _, .nil, s => s
  | _, _, _, _, .cons r t, s => .cons r (RepL.append t s)
theorem RepL.set {d : D} {v : V} (r : Rep G H Lv m d v) : ∀ {l : List D} {vs : List V} (i : Nat), RepL G H Lv m l vs → RepL G H Lv m (l.set i d) (vs.set i v)
  | _, _, _, .nil => .nil
  | _, _, 0, .cons _ t => .cons r t
  | _, _, i + 1, .cons q t => .cons q (RepL.set r i t)
theorem RepL.take : ∀ {l : List D} {vs : List V} (n : Nat), RepL G H Lv m l vs → RepL G H Lv m (l.take n) (vs.take n)
  | _, _, 0, _ => by simp; exact .nil
  | _, _, _ + 1, .nil => .nil
  | _, _, n + 1, .cons r t => .cons r (RepL.take n t)
theorem RepL.drop : ∀ {l : List D} {vs : List V} (n : Nat), RepL G H Lv m l vs → RepL G H Lv m (l.drop n) (vs.drop n)
  | _, _, 0, r => r
  | _, _, _ + 1, .nil => .nil
  | _, _, n + 1, .cons _ t => RepL.drop n t
theorem RepL.rev {l : List D} {vs : List V} (r : RepL G H Lv m l vs) : RepL G H Lv m l.reverse vs.reverse := by
  induction l generalizing vs with
  | nil => cases r; exact .nil
  | cons d l ih => cases r with
    | cons r t => simp only [List.reverse_cons]; exact (ih t).append (.cons r .nil)
theorem RepL.eraseIdx : ∀ {l : List D} {vs : List V} (i : Nat), RepL G H Lv m l vs → RepL G H Lv m (l.eraseIdx i) (vs.eraseIdx i)
  | _, _, _, .nil => .nil
  | _, _, 0, .cons _ t => t
  | _, _, i + 1, .cons r t => .cons r (RepL.eraseIdx i t)
theorem RepL.dropLast {l : List D} {vs : List V} (r : RepL G H Lv m l vs) : RepL G H Lv m l.dropLast vs.dropLast := by
  rw [List.dropLast_eq_take, List.dropLast_eq_take, r.length]; exact r.take _

abbrev Gx.heat (G : Gx) (z : Ht) : Gx := { G with ht := z }
/-- other lists are being made, all else as it is -/
abbrev Gx.hotter (G : Gx) (z : Addr → Prop) : Gx := G.heat ⟨z, G.ht.kn, G.ht.clo⟩
mutual
theorem Rep.heat (z : Ht) : ∀ {d : D} {v : V}, Rep G H Lv m d v → Rep (G.heat z) H Lv m d v
  | _, _, .non => .non
  | _, _, .bl b => .bl b
  | _, _, .int i => .int i
  | _, _, .str x => .str x
  | _, _, .tup r n l => .tup r n (RepL.heat z l)
  | _, _, .tupK k l => .tupK k (RepL.heat z l)
  | _, _, .lst r n l => .lst r n (RepL.heat z l)
  | _, _, .lstK k l => .lstK k (RepL.heat z l)
  | _, _, .dct r n k q l => .dct r n k q (RepL.heat z l)
  | _, _, .ins r n f l => .ins r n f (RepL.heat z l)
  | _, _, .ref h => .ref h
  | _, _, .fn f q => .fn f q
  | _, _, .exc0 k r n f => .exc0 k r n f
  | _, _, .exc1 k r n r2 n2 f g l => .exc1 k r n r2 n2 f g (RepL.heat z l)
theorem RepL.heat (z : Ht) : ∀ {l : List D} {vs : List V}, RepL G H Lv m l vs → RepL (G.heat z) H Lv m l vs
  | _, _, .nil => .nil
  | _, _, .cons r t => .cons (Rep.heat z r) (RepL.heat z t)
end
/-- nothing that a datum leans on stands there -/
def Nr (H : L2.Hp) (a : Addr) : Prop := ∀ u, Rd H a u → NT u → False
/-- what of one state holds at a later one -/
structure Ext0 (hot : Addr → Prop) (H H' : L2.Hp) (Lv Lv' : Addr → Prop) (m m' : List Addr) : Prop where
  pre : ∀ (i : Nat) (a : Addr), m[i]? = some a → m'[i]? = some a
  rd : ∀ (a : Addr) (u : HO), Rd H a u → ¬ Lv a → NT u → Rd H' a u
  ins : ∀ (a C dx : Addr) (fs : List (Str × V)), H a = some (.ins C dx fs) → ¬ Lv a → H' a = some (.ins C dx fs)
  nl : ∀ a : Addr, Lv' a → Lv a ∨ Nr H a
  hot : ∀ a : Addr, hot a → H' a = H a
theorem nt_ext {φ : Heap → Prop} : NT (.ext φ) := fun ps z => by cases z
theorem nt {u : HO} (h : NT u := by first | exact nt_ext | (intro ps z; cases z)) : NT u := h
theorem rd_ne {a : Addr} {u : HO} (r : Rd H a u) : H a ≠ none := by
  rcases r with r | ⟨o, r⟩ <;> rw [r] <;> simp
theorem nr_none {a : Addr} (h : H a = none) : Nr H a := fun u r _ => rd_ne r h
theorem Ext0.nLv (e : Ext0 hot H H' Lv Lv' m m') {a : Addr} {u : HO} (n : ¬ Lv a) (r : Rd H a u) (t : NT u := by first | exact nt_ext | (intro ps z; cases z)) : ¬ Lv' a := fun z => (e.nl a z).elim n fun q => q u r t
mutual
theorem Rep.mono (e : Ext0 hot H H' Lv Lv' m m') : ∀ {d : D} {v : V}, Rep G H Lv m d v → Rep G H' Lv' m' d v
  | _, _, .non => .non
  | _, _, .bl b => .bl b
  | _, _, .int i => .int i
  | _, _, .str x => .str x
  | _, _, .tup r n l => .tup (e.rd _ _ r n nt) (e.nLv n r) (RepL.mono e l)
  | _, _, .tupK k l => .tupK k (RepL.mono e l)
  | _, _, .lst r n l => .lst (e.rd _ _ r n nt) (e.nLv n r) (RepL.mono e l)
  | _, _, .lstK k l => .lstK k (RepL.mono e l)
  | _, _, .dct r n k q l => .dct (e.rd _ _ r n nt) (e.nLv n r) k q (RepL.mono e l)
  | _, _, .ins r n f l => .ins (e.ins _ _ _ _ r n) (e.nLv n (.inl r)) f (RepL.mono e l)
  | _, _, .ref h => .ref (e.pre _ _ h)
  | _, _, .fn f q => .fn f q
  | _, _, .exc0 k r n f => .exc0 k (e.rd _ _ r n nt) (e.nLv n r) f
  | _, _, .exc1 k r n r2 n2 f g l => .exc1 k (e.rd _ _ r n nt) (e.nLv n r) (e.rd _ _ r2 n2 nt) (e.nLv n2 r2) f g (RepL.mono e l)
theorem RepL.mono (e : Ext0 hot H H' Lv Lv' m m') : ∀ {l : List D} {vs : List V}, RepL G H Lv m l vs → RepL G H' Lv' m' l vs
  | _, _, .nil => .nil
  | _, _, .cons r t => .cons (Rep.mono e r) (RepL.mono e t)
end
theorem Ext0.refl : Ext0 hot H H Lv Lv m m := ⟨fun _ _ h => h, fun _ _ h _ _ => h, fun _ _ _ _ h _ => h, fun _ h => .inl h, fun _ _ => rfl⟩
end

def Live (G : Gx) (m : List Addr) (h : Hs) (a : Addr) : Prop := G.warm a ∨ ∃ (i : Nat) (c : D), m[i]? = some a ∧ h[i]? = some c ∧ c ≠ D.non
def CellAt (G : Gx) (H : L2.Hp) (Lv : Addr → Prop) (m : List Addr) (a : Addr) : D → Prop
  | .lst l => ∃ vs, H a = some (.lst vs) ∧ RepL G H Lv m l vs
  | .dct l => ∃ kvs, H a = some (.dK kvs) ∧ (∀ p ∈ l, isKey p.1 = true) ∧ kvs.map (·.1) = l.map (fun p => keyOf p.1) ∧ RepL G H Lv m (l.map (·.2)) (kvs.map (·.2))
  | .ins c l => ∃ dx fs vs, H a = some (.ins (G.ca c) dx fs) ∧ Flds (G.flds c) fs vs ∧ RepL G H Lv m l vs
  | .non => True
  | _ => False
/-- the cells lie at m -/
structure HRel (G : Gx) (m : List Addr) (h : Hs) (H : L2.Hp) : Prop where
  len : m.length = h.length
  cell : ∀ (i : Nat) (a : Addr) (c : D), m[i]? = some a → h[i]? = some c → CellAt G H (Live G m h) m a c
  inj : ∀ (i j : Nat) (a : Addr) (c d : D), m[i]? = some a → m[j]? = some a → h[i]? = some c → h[j]? = some d → c ≠ .non → d ≠ .non → i = j
  hotv : ∀ a : Addr, G.hot a → (∃ vs, H a = some (.lst vs)) ∨ (∃ kvs, H a = some (.dK kvs))
  cold : ∀ (i : Nat) (a : Addr) (c : D), m[i]? = some a → h[i]? = some c → c ≠ .non → ¬ G.warm a
  tab : LamX.Tabs G.tabs H
  kn : ∀ p ∈ G.ht.kn, H p.1 = some p.2 ∧ isExt p.2
abbrev Ext (G : Gx) (m : List Addr) (h : Hs) (H : L2.Hp) (m' : List Addr) (h' : Hs) (H' : L2.Hp) : Prop := Ext0 G.hot H H' (Live G m h) (Live G m' h') m m'
theorem CellAt.ne {G : Gx} {H : L2.Hp} {Lv : Addr → Prop} {m : List Addr} {a : Addr} {c : D} (x : CellAt G H Lv m a c) (n : c ≠ .non) : H a ≠ none := by
  cases c with
  | lst l => obtain ⟨_, e, _⟩ := x; rw [e]; simp
  | dct l => obtain ⟨_, e, _⟩ := x; rw [e]; simp
  | ins c l => obtain ⟨_, _, _, e, _⟩ := x; rw [e]; simp
  | non => exact absurd rfl n
  | _ => exact x.elim
section
variable {G : Gx} {m m' m2 : List Addr} {h h' h2 : Hs} {H H' H2 : L2.Hp}
theorem HRel.hot (x : HRel G m h H) (a : Addr) (z : G.warm a) : H a ≠ none := by
  rcases z with z | ⟨p, hp, rfl⟩
  · rcases x.hotv a z with ⟨_, e⟩ | ⟨_, e⟩ <;> rw [e] <;> simp
  · obtain ⟨ps, e, _⟩ := x.tab p hp
    rw [e]; simp
theorem Sm.refl {H : L2.Hp} : Sm H H := fun _ _ e _ => e
theorem Sm.new {H : L2.Hp} {p : Addr} {o : HO} (hp : H p = none) : Sm H (upd H p o) := fun a u e _ => by rw [upd_ne (ne_of_none e hp)]; exact e
/-- one that is no table, nor such -/
theorem Sm.upd {H : L2.Hp} {p : Addr} {o u : HO} (hp : H p = some u) (n1 : ¬ isExt u) (n2 : NT u) : Sm H (upd H p o) := fun a v e k => by
  have : a ≠ p := fun z => by
    subst z
    rw [hp] at e; cases e
    exact k.elim n1 (fun q => q n2)
  rw [upd_ne this]; exact e
theorem Sm.tabs {H H' : L2.Hp} (s : Sm H H') {T : List (Addr × Str)} (t : LamX.Tabs T H) : LamX.Tabs T H' := fun p hp => by
  obtain ⟨ps, h1, h2, h3⟩ := t p hp
  refine ⟨ps, s _ _ h1 (.inr fun n => n ps rfl), h2, fun pos cv hc => ?_⟩
  obtain ⟨c, e1, e2⟩ := h3 pos cv hc
  exact ⟨c, e1, s _ _ e2 (.inl ⟨_, rfl⟩)⟩
theorem Sm.kn {H H' : L2.Hp} (s : Sm H H') {l : List (Addr × HO)} (t : ∀ p ∈ l, H p.1 = some p.2 ∧ isExt p.2) : ∀ p ∈ l, H' p.1 = some p.2 ∧ isExt p.2 := fun p hp => ⟨s _ _ (t p hp).1 (.inl (t p hp).2), (t p hp).2⟩
/-- a cell is none of these -/
theorem CellAt.sm {G : Gx} {H : L2.Hp} {Lv : Addr → Prop} {m : List Addr} {a : Addr} {c : D} {o : HO} (x : CellAt G H Lv m a c) (n : c ≠ .non) : Sm H (upd H a o) := by
  cases c with
  | lst l => obtain ⟨_, e, _⟩ := x; exact Sm.upd e (fun ⟨_, z⟩ => by cases z) fun ps z => by cases z
  | dct l => obtain ⟨_, e, _⟩ := x; exact Sm.upd e (fun ⟨_, z⟩ => by cases z) fun ps z => by cases z
  | ins c l => obtain ⟨_, _, _, e, _⟩ := x; exact Sm.upd e (fun ⟨_, z⟩ => by cases z) fun ps z => by cases z
  | non => exact absurd rfl n
  | _ => exact x.elim
theorem HRel.ne (x : HRel G m h H) {a : Addr} (l : Live G m h a) : H a ≠ none := by
  rcases l with l | ⟨i, c, h1, h2, h3⟩
  · exact x.hot a l
  · exact (x.cell i a c h1 h2).ne h3
theorem Ext.trans (a : Ext G m h H m' h' H') (b : Ext G m' h' H' m2 h2 H2) : Ext G m h H m2 h2 H2 where
  pre := fun i c e => b.pre i c (a.pre i c e)
  rd := fun c u r n t => b.rd c u (a.rd c u r n t) (a.nLv n r t) t
  ins := fun c C dx fs r n => b.ins c C dx fs (a.ins c C dx fs r n) (a.nLv n (.inl r))
  nl := fun c l => by
    rcases b.nl c l with l | l
    · exact a.nl c l
    · by_cases z : Live G m h c
      · exact .inl z
      · refine .inr ?_
        exact fun u r t => l u (a.rd c u r z t) t
  hot := fun c z => (b.hot c z).trans (a.hot c z)
/-- a new object that is no cell -/
theorem Ext.new {p : Addr} {o : HO} (x : HRel G m h H) (hp : H p = none) : Ext G m h H m h (upd H p o) where
  pre := fun _ _ e => e
  rd := fun a u r n _ => by
    have : a ≠ p := fun z => by subst z; exact rd_ne r hp
    rcases r with r | ⟨ob, r⟩
    · exact .inl (by rw [upd_ne this]; exact r)
    · exact .inr ⟨ob, by rw [upd_ne this]; exact r⟩
  ins := fun a C dx fs r n => by rw [upd_ne (ne_of_none r hp)]; exact r
  nl := fun a l => .inl l
  hot := fun c z => upd_ne fun e => x.hot c (.inl z) (by rw [e]; exact hp)
theorem CellAt.mono {Lv Lv' : Addr → Prop} {a : Addr} {hot : Addr → Prop} (e : Ext0 hot H H' Lv Lv' m m') : ∀ {c : D}, CellAt G H Lv m a c → (c ≠ .non → H' a = H a) → CellAt G H' Lv' m' a c
  | .lst l, ⟨vs, q, r⟩, k => ⟨vs, by rw [k (by simp)]; exact q, r.mono e⟩
  | .dct l, ⟨vs, q, r1, r2, r⟩, k => ⟨vs, by rw [k (by simp)]; exact q, r1, r2, r.mono e⟩
  | .ins c l, ⟨dx, fs, vs, q, r1, r⟩, k => ⟨dx, fs, vs, by rw [k (by simp)]; exact q, r1, r.mono e⟩
  | .non, _, _ => trivial
  | .bl _, x, _ => x.elim
  | .int _, x, _ => x.elim
  | .str _, x, _ => x.elim
  | .tup _, x, _ => x.elim
  | .exc _ _, x, _ => x.elim
  | .ref _, x, _ => x.elim
  | .fn _, x, _ => x.elim
  | .clo _ _, x, _ => x.elim
theorem HRel.new {p : Addr} {o : HO} (x : HRel G m h H) (hp : H p = none) : HRel G m h (upd H p o) :=
  ⟨x.len, fun i a c h1 h2 => (x.cell i a c h1 h2).mono (Ext.new x hp) fun n => upd_ne (fun z => by subst z; exact (x.cell i a c h1 h2).ne n hp), x.inj, fun a z => by
    have n : a ≠ p := fun e => x.hot a (.inl z) (by rw [e]; exact hp)
    rw [upd_ne n]; exact x.hotv a z, x.cold, (Sm.new hp).tabs x.tab, (Sm.new hp).kn x.kn⟩
/-- a new object becomes a cell -/
theorem live_snoc {p a : Addr} {c : D} (hl : m.length = h.length) : Live G (m ++ [p]) (h ++ [c]) a → Live G m h a ∨ a = p := by
  rintro (z | ⟨i, d, h1, h2, h3⟩)
  · exact .inl (.inl z)
  by_cases hi : i < m.length
  · exact .inl (.inr ⟨i, d, by rw [List.getElem?_append_left hi] at h1; exact h1, by rw [List.getElem?_append_left (by omega)] at h2; exact h2, h3⟩)
  · rw [List.getElem?_append_right (by omega)] at h1
    have : i - m.length = 0 := by
      by_cases z : i - m.length = 0
      · exact z
      · have : ([p] : List Addr)[i - m.length]? = none := by simp; omega
        rw [this] at h1; cases h1
    rw [this] at h1; simp at h1; exact .inr h1.symm
theorem Ext.cell {p : Addr} {o : HO} {c : D} (x : HRel G m h H) (hp : H p = none) : Ext G m h H (m ++ [p]) (h ++ [c]) (upd H p o) where
  pre := fun i a e => by
    have : i < m.length := by
      by_cases z : i < m.length
      · exact z
      · rw [List.getElem?_eq_none (by omega)] at e; cases e
    rw [List.getElem?_append_left this]; exact e
  rd := (Ext.new (o := o) x hp).rd
  ins := (Ext.new (o := o) x hp).ins
  nl := fun a l => (live_snoc x.len l).imp id fun e => by rw [e]; exact nr_none hp
  hot := (Ext.new (o := o) x hp).hot
theorem get_lt {α : Type} {l : List α} {i : Nat} {a : α} (e : l[i]? = some a) : i < l.length := (List.getElem?_eq_some_iff.mp e).1
theorem HRel.snoc {p : Addr} {o : HO} {c : D} (x : HRel G m h H) (hp : H p = none) (hc : CellAt G (upd H p o) (Live G (m ++ [p]) (h ++ [c])) (m ++ [p]) p c) : HRel G (m ++ [p]) (h ++ [c]) (upd H p o) := by
  have ex : Ext G m h H (m ++ [p]) (h ++ [c]) (upd H p o) := Ext.cell x hp
  have g : ∀ (a : Addr) (i : Nat) (d : D), (m ++ [p])[i]? = some a → (h ++ [c])[i]? = some d → (i < m.length ∧ m[i]? = some a ∧ h[i]? = some d) ∨ (i = m.length ∧ a = p ∧ d = c) := fun a i d h1 h2 => by
    by_cases hi : i < m.length
    · exact .inl ⟨hi, by rw [List.getElem?_append_left hi] at h1; exact h1, by rw [List.getElem?_append_left (by have := x.len; omega)] at h2; exact h2⟩
    · have l1 := get_lt h1
      simp at l1
      have : i = m.length := by omega
      subst this
      simp at h1
      rw [x.len] at h2
      simp at h2
      exact .inr ⟨rfl, h1.symm, h2.symm⟩
  refine ⟨by simp [x.len], fun i a d h1 h2 => ?_, fun i j a d e h1 h2 h3 h4 n1 n2 => ?_, fun a z => ?_, fun i a d h1 h2 n z => ?_, (Sm.new hp).tabs x.tab, (Sm.new hp).kn x.kn⟩
  · rcases g a i d h1 h2 with ⟨hi, g1, g2⟩ | ⟨_, rfl, rfl⟩
    · exact (x.cell i a d g1 g2).mono ex fun n => upd_ne fun z => by subst z; exact (x.cell i a d g1 g2).ne n hp
    · exact hc
  · rcases g a i d h1 h3 with ⟨a1, a2, a3⟩ | ⟨a1, a2, a3⟩
    · rcases g a j e h2 h4 with ⟨b1, b2, b3⟩ | ⟨b1, b2, b3⟩
      · exact x.inj i j a d e a2 b2 a3 b3 n1 n2
      · subst b2; exact absurd hp ((x.cell i a d a2 a3).ne n1)
    · rcases g a j e h2 h4 with ⟨b1, b2, b3⟩ | ⟨b1, b2, b3⟩
      · subst a2; exact absurd hp ((x.cell j a e b2 b3).ne n2)
      · omega
  · have n : a ≠ p := fun e => x.hot a (.inl z) (by rw [e]; exact hp)
    rw [upd_ne n]; exact x.hotv a z
  · rcases g a i d h1 h2 with ⟨hi, g1, g2⟩ | ⟨_, rfl, rfl⟩
    · exact x.cold i a d g1 g2 n z
    · exact x.hot a z hp
end
end PV
set_option Elab.async false
set_option autoImplicit false
set_option maxRecDepth 100000
set_option maxHeartbeats 1000000
namespace PV
open PySem PySem.Spec PyProof.Rows L2

/-! ### what came -/
def okR {α : Type} (r : R α) (P : α → Hs → Prop) (X : Nat → List D → Hs → Prop) : Prop := match r with
  | .ok a h => P a h
  | .ex c l h => X c l h
  | .bad => False
theorem okR_then {α β : Type} {r : R α} {f : α → Hs → R β} {P : β → Hs → Prop} {X : Nat → List D → Hs → Prop} (h : okR (r.then f) P X) : okR r (fun a h => okR (f a h) P X) X := by
  cases r <;> exact h
theorem okR_ofO {α : Type} {o : Option α} {h : Hs} {P : α → Hs → Prop} {X : Nat → List D → Hs → Prop} (q : okR (R.ofO o h) P X) : ∃ a, o = some a ∧ P a h := by
  cases o with
  | none => exact q.elim
  | some a => exact ⟨a, rfl, q⟩
theorem okR_mono {α : Type} {r : R α} {P P' : α → Hs → Prop} {X X' : Nat → List D → Hs → Prop} (h : okR r P X) (p : ∀ a h, P a h → P' a h) (x : ∀ c l h, X c l h → X' c l h) : okR r P' X' := by
  cases r with
  | ok a h' => exact p _ _ h
  | ex c l h' => exact x _ _ _ h
  | bad => exact h

/-- an exception: its class and its own dict -/
def RepX (G : Gx) (H : L2.Hp) (Lv : Addr → Prop) (m : List Addr) (c : Nat) (l : List D) (cls : Value) (d : Option Addr) : Prop :=
  cls = .ref (G.ca c) ∧ (∃ x sup fl, G.gl.lookup x = some (.cls c sup fl)) ∧ ((l = [] ∧ G.flds c = [] ∧ d = none) ∨ ∃ dx fs vs, d = some dx ∧ H dx = some (.xd fs) ∧ ¬ Lv dx ∧ G.flds c ≠ [] ∧ Flds (G.flds c) fs vs ∧ RepL G H Lv m l vs)
/-- the names, the cells -/
structure Stt (G : Gx) (m : List Addr) (h : Hs) (ρ : Env) (σ : L2.St) (H : L2.Hp) : Prop where
  rel : HRel G m h H
  slot : ∀ (i : Nat) (d : D), ρ.getD i none = some d → ∃ v, σ[i]? = some (some v) ∧ Rep G H (Live G m h) m d v
  len : ρ.length = σ.length
  clo : ∀ z : CloI, G.ht.clo = some z → σ[z.j]? = some (some (.ref z.a)) ∧ RepL G H (Live G m h) m z.ds z.vs
/-- the slot is not that of the lambda that is got -/
def NoClo (G : Gx) (i : Nat) : Prop := ∀ z : CloI, G.ht.clo = some z → i ≠ z.j
section
variable (G : Gx) (C : Cl) (W : WX)
def tE (e : E) : TE := fun σ H Q => ∃ m h ρ, Stt G m h ρ σ H ∧ okR (evE C e ρ h)
  (fun d h' => ∀ m' v H', Ext G m h H m' h' H' → HRel G m' h' H' → Rep G H' (Live G m' h') m' d v → Q v H')
  (fun c l h' => ∀ m' H' cls d, Ext G m h H m' h' H' → HRel G m' h' H' → RepX G H' (Live G m' h') m' c l cls d → W cls d σ H')
def tL (e : EL) : TA := fun σ H Q => ∃ m h ρ, Stt G m h ρ σ H ∧ okR (evL C e ρ h)
  (fun d h' => ∀ m' v H', Ext G m h H m' h' H' → HRel G m' h' H' → RepL G H' (Live G m' h') m' d v → Q v H')
  (fun c l h' => ∀ m' H' cls d, Ext G m h H m' h' H' → HRel G m' h' H' → RepX G H' (Live G m' h') m' c l cls d → W cls d σ H')
end
section
variable {G : Gx} {C : Cl} {W : WX} {m m' : List Addr} {h h' : Hs} {ρ : Env} {σ : L2.St} {H H' : L2.Hp}
theorem Stt.later (s : Stt G m h ρ σ H) (e : Ext G m h H m' h' H') (r : HRel G m' h' H') : Stt G m' h' ρ σ H' :=
  ⟨r, fun i d q => let ⟨v, a, b⟩ := s.slot i d q; ⟨v, a, b.mono e⟩, s.len, fun z q => ⟨(s.clo z q).1, (s.clo z q).2.mono e⟩⟩
/-- one expression, then on -/
theorem tE_step {e : E} {α : Type} {f : D → Hs → R α} {P : α → Hs → Prop} {Q : VK} (st : Stt G m h ρ σ H)
    (ok : okR ((evE C e ρ h).then f) P (fun c l h' => ∀ m' H' cls d, Ext G m h H m' h' H' → HRel G m' h' H' → RepX G H' (Live G m' h') m' c l cls d → W cls d σ H'))
    (k : ∀ d h1 m1 v H1, Ext G m h H m1 h1 H1 → HRel G m1 h1 H1 → Rep G H1 (Live G m1 h1) m1 d v → Stt G m1 h1 ρ σ H1 →
      okR (f d h1) P (fun c l h' => ∀ m' H' cls d, Ext G m h H m' h' H' → HRel G m' h' H' → RepX G H' (Live G m' h') m' c l cls d → W cls d σ H') → Q v H1) : tE G C W e σ H Q :=
  ⟨m, h, ρ, st, okR_mono (okR_then ok) (fun d h1 q m1 v H1 x r p => k d h1 m1 v H1 x r p (st.later x r) q) fun _ _ _ q => q⟩
theorem tL_step {e : EL} {α : Type} {f : List D → Hs → R α} {P : α → Hs → Prop} {Q : List V → L2.Hp → Prop} (st : Stt G m h ρ σ H)
    (ok : okR ((evL C e ρ h).then f) P (fun c l h' => ∀ m' H' cls d, Ext G m h H m' h' H' → HRel G m' h' H' → RepX G H' (Live G m' h') m' c l cls d → W cls d σ H'))
    (k : ∀ d h1 m1 v H1, Ext G m h H m1 h1 H1 → HRel G m1 h1 H1 → RepL G H1 (Live G m1 h1) m1 d v → Stt G m1 h1 ρ σ H1 →
      okR (f d h1) P (fun c l h' => ∀ m' H' cls d, Ext G m h H m' h' H' → HRel G m' h' H' → RepX G H' (Live G m' h') m' c l cls d → W cls d σ H') → Q v H1) : tL G C W e σ H Q :=
  ⟨m, h, ρ, st, okR_mono (okR_then ok) (fun d h1 q m1 v H1 x r p => k d h1 m1 v H1 x r p (st.later x r) q) fun _ _ _ q => q⟩
/-- the wish of what is raised, from a later state on -/
theorem okX_later {α : Type} {r : R α} {P P' : α → Hs → Prop} (x : Ext G m h H m' h' H')
    (ok : okR r P (fun c l h2 => ∀ m2 H2 cls d, Ext G m h H m2 h2 H2 → HRel G m2 h2 H2 → RepX G H2 (Live G m2 h2) m2 c l cls d → W cls d σ H2)) (p : ∀ a h, P a h → P' a h) :
    okR r P' (fun c l h2 => ∀ m2 H2 cls d, Ext G m' h' H' m2 h2 H2 → HRel G m2 h2 H2 → RepX G H2 (Live G m2 h2) m2 c l cls d → W cls d σ H2) :=
  okR_mono ok p fun _ _ _ q m2 H2 cls d y => q m2 H2 cls d (x.trans y)
end
section
variable {X : Cx} {G : Gx} {C : Cl} {W : WX}
theorem pe_of {e : Expr} {t t' : TE} (hp : PE X e t) (k : ∀ σ H Q, t' σ H Q → t σ H Q) : PE X e t' := ⟨fun pins s σ H Q I q => hp.run pins s σ H Q I (k _ _ _ q)⟩
theorem pt_of {e : Expr} {t t' : TT} (hp : PT X e t) (k : ∀ σ H Q, t' σ H Q → t σ H Q) : PT X e t' := ⟨fun pins s σ H Q I q => hp.run pins s σ H Q I (k _ _ _ q)⟩
theorem pw_of {e : Expr} {t t' : TT} (hp : PW X e t) (k : ∀ σ H Q, t' σ H Q → t σ H Q) : PW X e t' := ⟨fun wh pins s σ H Q I q => hp.run wh pins s σ H Q I (k _ _ _ q)⟩
theorem pa_of {e : List Expr} {t t' : TA} (hp : PA X e t) (k : ∀ σ H Q, t' σ H Q → t σ H Q) : PA X e t' := ⟨fun pos pins s σ H Q I q => hp.run pos pins s σ H Q I (k _ _ _ q)⟩
/-- the sizes that every state bears -/
def Sized (H : L2.Hp) : Prop := ∀ a u, Rd H a u → match u with
  | .lst xs => xs.length ≤ sizeLine
  | .tup xs => xs.length ≤ sizeLine
  | .dK kvs => kvs.length ≤ sizeLine
  | _ => True
theorem Inv.sized {pins : List (Addr × Obj)} {s : Shared} {σ : L2.St} {H : L2.Hp} (I : Inv X pins σ H s) : Sized H := fun a u r => by
  have q := r.ok I.hok
  cases u with
  | lst xs => exact q.1
  | tup xs => exact q.1
  | dK xs => exact q.1
  | _ => trivial
theorem pe_sized {e : Expr} {t t' : TE} (hp : PE X e t) (k : ∀ σ H Q, Sized H → t' σ H Q → t σ H Q) : PE X e t' := ⟨fun pins s σ H Q I q => hp.run pins s σ H Q I (k _ _ _ (Inv.sized I) q)⟩
theorem opR_sized {f : Value → Value → Sem Value} {r r' : R2} (hp : OpR X f r) (k : ∀ x y H Q, Sized H → r' x y H Q → r x y H Q) : OpR X f r' :=
  fun pins s σ H x y v u Q I rx ry q => hp pins s σ H x y v u Q I rx ry (k _ _ _ _ (Inv.sized I) q)

/-- an expression as a value and as a test -/
structure SE (X : Cx) (G : Gx) (C : Cl) (W : WX) (e : Expr) (c : E) : Prop where
  pe : PE X e (tE G C W c)
  pt : PT X e (tB (tE G C W c))
/-- plain as a test -/
def plainT (e : Expr) : Bool := match e with
  | .UnaryOp .Not _ _ => false
  | .BoolOp _ _ _ => false
  | .IfExp _ _ _ _ => false
  | .Compare _ _ _ _ => false
  | _ => true
theorem plainT_is {e : Expr} (h : plainT e = true) (env : PySem.Env) (whole : Sem Value) : isTrue e env whole = (do let v ← whole; standAt e.pos; holding [v] (truthy v)) := by
  unfold plainT at h
  split at h
  · cases h
  · cases h
  · cases h
  · cases h
  · rename_i h1 h2 h3 h4
    unfold PySem.isTrue
    split
    · exact absurd rfl (h1 _ _)
    · exact absurd rfl (h2 _ _ _)
    · exact absurd rfl (h3 _ _ _ _)
    · exact absurd rfl (h4 _ _ _ _)
    · rfl
theorem SE.plain {e : Expr} {c : E} (hp : PE X e (tE G C W c)) (h : plainT e = true) : SE X G C W e c := ⟨hp, pt_val hp fun _ => plainT_is h _ _⟩

/-! ### literals, names -/
theorem se_int {i : Int} {j : Nat} {pos : Pos} : SE X G C W (.Constant (.int i) j pos) (.cst (.int i)) :=
  .plain (pe_of pe_int fun σ H Q ⟨m, h, ρ, st, ok⟩ => ok m _ H .refl st.rel (.int i)) rfl
theorem se_bl {i : Bool} {j : Nat} {pos : Pos} : SE X G C W (.Constant (.bool i) j pos) (.cst (.bl i)) :=
  .plain (pe_of pe_bl fun σ H Q ⟨m, h, ρ, st, ok⟩ => ok m _ H .refl st.rel (.bl i)) rfl
theorem se_non {j : Nat} {pos : Pos} : SE X G C W (.Constant .none j pos) (.cst .non) :=
  .plain (pe_of pe_non fun σ H Q ⟨m, h, ρ, st, ok⟩ => ok m _ H .refl st.rel .non) rfl
theorem str_toList (x : Str) : str x.cps.toList = x := by
  obtain ⟨a⟩ := x
  show (⟨a.toList.toArray⟩ : Str) = ⟨a⟩
  simp
theorem se_str {x : Str} {j : Nat} {pos : Pos} : SE X G C W (.Constant (.str x) j pos) (.cst (.str x.cps.toList)) :=
  .plain (pe_of pe_str fun σ H Q ⟨m, h, ρ, st, ok⟩ => by
    have q := ok m (.str (str x.cps.toList)) H .refl st.rel (.str _)
    rw [str_toList] at q
    exact q) rfl
theorem se_var {i : Nat} {x : Str} {pos : Pos} (hN : X.N[i]? = some x) (hv : Vis X.env.scope x) (hd : (x == ("__debug__" : Str)) = false) (hcd : (x == ("__classdict__" : Str)) = false) : SE X G C W (.Name x pos) (.var i) :=
  .plain (pe_of (pe_var hN hv hd hcd) fun σ H Q ⟨m, h, ρ, st, ok⟩ => by
    obtain ⟨d, e, ok⟩ := okR_ofO ok
    obtain ⟨v, h1, h2⟩ := st.slot i d e
    exact ⟨v, h1, ok m v H .refl st.rel h2⟩) rfl

/-! ### two operands -/
/-- an operator by values says what is told here -/
def Bin (G : Gx) (f : Hs → D → D → Option D) (r : R2) : Prop := ∀ m h H dx dy x y d (Q : VK), HRel G m h H → Sized H → Rep G H (Live G m h) m dx x → Rep G H (Live G m h) m dy y → f h dx dy = some d →
  (∀ m' v H', Ext G m h H m' h H' → HRel G m' h H' → Rep G H' (Live G m' h) m' d v → Q v H') → r x y H Q
theorem tE_bin {r : R2} {f : Hs → D → D → Option D} (b : Bin G f r) {ea eb e : E} (he : ∀ ρ h, evE C e ρ h = (evE C ea ρ h).then fun x h => (evE C eb ρ h).then fun y h => R.ofO (f h x y) h) :
    ∀ σ H Q, tE G C W e σ H Q → tOp (fun x y H Q => Sized H → r x y H Q) (tE G C W ea) (tE G C W eb) σ H Q := fun σ H Q ⟨m, h, ρ, st, ok⟩ => by
  rw [he] at ok
  refine tE_step st ok fun dx h1 m1 x H1 x1 r1 p1 st1 ok1 => ?_
  refine tE_step (m := m1) (h := h1) (H := H1) st1 (okX_later x1 ok1 fun _ _ q => q) fun dy h2 m2 y H2 x2 r2 p2 st2 ok2 => ?_
  obtain ⟨d, e, q⟩ := okR_ofO ok2
  exact fun sz => b m2 h2 H2 dx dy x y d Q r2 sz (p1.mono x2) p2 e fun m' v H' x3 r3 p3 => q m' v H' (x1.trans (x2.trans x3)) r3 p3
theorem se_op {a b : Expr} {ea eb : E} {o : Operator} {o' : Bop} {r : R2} {pos : Pos} (hr : OpR X (binaryOp o) r) (ha : SE X G C W a ea) (hb : SE X G C W b eb) (hB : Bin G (fun h x y => bop o' (vw h x) (vw h y)) r) :
    SE X G C W (.BinOp a o b pos) (.op o' ea eb) :=
  .plain (pe_of (pe_op (opR_sized (r' := fun x y H Q => Sized H → r x y H Q) hr fun _ _ _ _ sz q => q sz) ha.pe hb.pe) (tE_bin hB fun _ _ => by simp only [evE])) rfl
theorem se_cmp {a b : Expr} {ea eb : E} {o : CmpOp} {o' : Cop} {r : R2} {pos : Pos} (hr : OpR X (compareOp o) r) (ha : SE X G C W a ea) (hb : SE X G C W b eb) (hm : behindInMarks o b = false)
    (hB : Bin G (fun h x y => cop C.bd o' (vw h x) (vw h y)) r) : SE X G C W (.Compare a [o] [b] pos) (.cmp o' ea eb) :=
  have hr' := opR_sized (r' := fun x y H Q => Sized H → r x y H Q) hr fun _ _ _ _ sz q => q sz
  have k := tE_bin (C := C) (W := W) (e := .cmp o' ea eb) hB fun _ _ => by simp only [evE]
  ⟨pe_of (pe_cmpR hr' ha.pe hb.pe hm) k, pt_of (pt_cmpR hr' ha.pe hb.pe hm) fun σ H Q q => k σ H _ q⟩
end
end PV
set_option Elab.async false
set_option autoImplicit false
set_option maxRecDepth 100000
set_option maxHeartbeats 1000000
namespace PV
open PySem PySem.Spec PyProof.Rows L2
theorem asB_some {d : D} {b : Bool} (e : asB d = some b) : d = .bl b := by
  cases d <;> simp_all [asB]
theorem asI_some {d : D} {b : Int} (e : asI d = some b) : d = .int b := by
  cases d <;> simp_all [asI]
theorem asR_some {d : D} {b : Nat} (e : asR d = some b) : d = .ref b := by
  cases d <;> simp_all [asR]
section
variable {X : Cx} {G : Gx} {C : Cl} {W : WX} {a b c : Expr} {ea eb ec : E} {pos : Pos} {rest : List Expr}
theorem tE_not : ∀ σ H Q, tE G C W (.not ea) σ H Q → tE G C W ea σ H (fun x H1 => ∃ c, x = .bl c ∧ Q (.bl (!c)) H1) := fun σ H Q ⟨m, h, ρ, st, ok⟩ => by
  simp only [evE] at ok
  refine tE_step st ok fun d h1 m1 x H1 x1 r1 p1 st1 ok1 => ?_
  obtain ⟨q, e, ok1⟩ := okR_ofO (okR_then ok1)
  rw [asB_some e] at p1
  cases p1
  exact ⟨q, rfl, ok1 m1 _ H1 x1 r1 (.bl _)⟩
theorem se_not (ha : SE X G C W a ea) : SE X G C W (.UnaryOp .Not a pos) (.not ea) :=
  ⟨pe_of (pe_not ha.pe) tE_not, pt_of (pt_not ha.pt) fun σ H Q q => by
    obtain q := tE_not σ H _ q
    obtain ⟨m, h, ρ, st, ok⟩ := q
    refine ⟨m, h, ρ, st, okR_mono ok (fun d h' k m' v H' x r p => ?_) fun _ _ _ k => k⟩
    obtain ⟨c, e, c', e', k⟩ := k m' v H' x r p
    cases e'
    exact ⟨c, e, k⟩⟩
theorem neg_of {x : V} {Q : VK} {i : Int} {H : L2.Hp} (e : x = .int i) (q : Q (.int (-i)) H) : rU (fun i => .int (-i)) x H Q := ⟨i, e, q⟩
theorem se_neg (ha : SE X G C W a ea) : SE X G C W (.UnaryOp .USub a pos) (.neg ea) :=
  .plain (pe_of (pe_un un_neg ha.pe) fun σ H Q ⟨m, h, ρ, st, ok⟩ => by
    simp only [evE] at ok
    refine tE_step st ok fun d h1 m1 x H1 x1 r1 p1 st1 ok1 => ?_
    obtain ⟨q, e, ok1⟩ := okR_ofO (okR_then ok1)
    rw [asI_some e] at p1
    cases p1
    exact neg_of rfl (ok1 m1 _ H1 x1 r1 (.int _))) rfl
theorem tE_and : ∀ σ H Q, tE G C W (.and ea eb) σ H Q → tE G C W ea σ H (fun x H1 => ∃ c, x = .bl c ∧ if c = true then tE G C W eb σ H1 (fun y H2 => ∃ d, y = .bl d ∧ Q (.bl d) H2) else Q (.bl false) H1) := fun σ H Q ⟨m, h, ρ, st, ok⟩ => by
  simp only [evE] at ok
  refine tE_step st ok fun d h1 m1 x H1 x1 r1 p1 st1 ok1 => ?_
  obtain ⟨q, e, ok1⟩ := okR_ofO (okR_then ok1)
  rw [asB_some e] at p1
  cases p1
  refine ⟨q, rfl, ?_⟩
  cases q with
  | false => exact ok1 m1 _ H1 x1 r1 (.bl _)
  | true =>
    simp only [if_true] at ok1 ⊢
    refine tE_step st1 (okX_later x1 ok1 fun _ _ q => q) fun d h2 m2 y H2 x2 r2 p2 st2 ok2 => ?_
    obtain ⟨q, e, ok2⟩ := okR_ofO (okR_then ok2)
    rw [asB_some e] at p2
    cases p2
    exact ⟨q, rfl, ok2 m2 _ H2 (x1.trans x2) r2 (.bl _)⟩
theorem tE_or : ∀ σ H Q, tE G C W (.or ea eb) σ H Q → tE G C W ea σ H (fun x H1 => ∃ c, x = .bl c ∧ if c = true then Q (.bl true) H1 else tE G C W eb σ H1 (fun y H2 => ∃ d, y = .bl d ∧ Q (.bl d) H2)) := fun σ H Q ⟨m, h, ρ, st, ok⟩ => by
  simp only [evE] at ok
  refine tE_step st ok fun d h1 m1 x H1 x1 r1 p1 st1 ok1 => ?_
  obtain ⟨q, e, ok1⟩ := okR_ofO (okR_then ok1)
  rw [asB_some e] at p1
  cases p1
  refine ⟨q, rfl, ?_⟩
  cases q with
  | true => exact ok1 m1 _ H1 x1 r1 (.bl _)
  | false =>
    simp only [Bool.false_eq_true, if_false] at ok1 ⊢
    refine tE_step st1 (okX_later x1 ok1 fun _ _ q => q) fun d h2 m2 y H2 x2 r2 p2 st2 ok2 => ?_
    obtain ⟨q, e, ok2⟩ := okR_ofO (okR_then ok2)
    rw [asB_some e] at p2
    cases p2
    exact ⟨q, rfl, ok2 m2 _ H2 (x1.trans x2) r2 (.bl _)⟩
theorem tE_weak {Q Q' : VK} {σ : L2.St} {H : L2.Hp} (h : tE G C W ea σ H Q) (k : ∀ v H, Q v H → Q' v H) : tE G C W ea σ H Q' := by
  obtain ⟨m, h, ρ, st, ok⟩ := h
  exact ⟨m, h, ρ, st, okR_mono ok (fun _ _ q m' v H' x r p => k _ _ (q m' v H' x r p)) fun _ _ _ q => q⟩
/-- a BoolOp: its value, as a test whatever its whole is -/
structure SB (X : Cx) (G : Gx) (C : Cl) (W : WX) (e : Expr) (c : E) : Prop where
  pe : PE X e (tE G C W c)
  pw : PW X e (tB (tE G C W c))
theorem SB.se {e : Expr} {c : E} (s : SB X G C W e c) : SE X G C W e c := ⟨s.pe, s.pw.pt⟩
theorem sb_one {op : PySem.BoolOp} (ha : SE X G C W a ea) : SB X G C W (.BoolOp op [a] pos) ea := ⟨pe_one ha.pe, by
  cases op with
  | And => exact pw_and1 ha.pt
  | Or => exact pw_or1 ha.pt⟩
theorem sb_and (ha : SE X G C W a ea) (hb : SB X G C W (.BoolOp .And (b :: rest) pos) eb) : SB X G C W (.BoolOp .And (a :: b :: rest) pos) (.and ea eb) :=
  ⟨pe_of (pe_and ha.pe hb.pe) fun σ H Q q => by
    refine tE_weak (tE_and σ H Q q) fun v H1 ⟨c, e, k⟩ => ⟨c, e, ?_⟩
    cases c with
    | false => exact k
    | true =>
      simp only [if_true] at k ⊢
      exact tE_weak k fun v H2 ⟨d, e, q⟩ => by rw [e]; exact q,
  pw_of (pw_and ha.pt hb.pw) fun σ H Q q => by
    refine tE_weak (tE_and σ H _ q) fun v H1 ⟨c, e, k⟩ => ⟨c, e, ?_⟩
    cases c with
    | false =>
      simp only [Bool.false_eq_true, if_false] at k ⊢
      obtain ⟨d, e, k⟩ := k
      cases e
      exact k
    | true =>
      simp only [if_true] at k ⊢
      refine tE_weak k fun v H2 ⟨d, e, d', e', q⟩ => ?_
      cases e'
      exact ⟨d, e, q⟩⟩
theorem sb_or (ha : SE X G C W a ea) (hb : SB X G C W (.BoolOp .Or (b :: rest) pos) eb) : SB X G C W (.BoolOp .Or (a :: b :: rest) pos) (.or ea eb) :=
  ⟨pe_of (pe_or ha.pe hb.pe) fun σ H Q q => by
    refine tE_weak (tE_or σ H Q q) fun v H1 ⟨c, e, k⟩ => ⟨c, e, ?_⟩
    cases c with
    | true => exact k
    | false =>
      simp only [Bool.false_eq_true, if_false] at k ⊢
      exact tE_weak k fun v H2 ⟨d, e, q⟩ => by rw [e]; exact q,
  pw_of (pw_or ha.pt hb.pw) fun σ H Q q => by
    refine tE_weak (tE_or σ H _ q) fun v H1 ⟨c, e, k⟩ => ⟨c, e, ?_⟩
    cases c with
    | true =>
      simp only [if_true] at k ⊢
      obtain ⟨d, e, k⟩ := k
      cases e
      exact k
    | false =>
      simp only [Bool.false_eq_true, if_false] at k ⊢
      refine tE_weak k fun v H2 ⟨d, e, d', e', q⟩ => ?_
      cases e'
      exact ⟨d, e, q⟩⟩
theorem tE_ife : ∀ σ H Q, tE G C W (.ife ec ea eb) σ H Q → tE G C W ec σ H (fun x H1 => ∃ c, x = .bl c ∧ if c = true then tE G C W ea σ H1 Q else tE G C W eb σ H1 Q) := fun σ H Q ⟨m, h, ρ, st, ok⟩ => by
  simp only [evE] at ok
  refine tE_step st ok fun d h1 m1 x H1 x1 r1 p1 st1 ok1 => ?_
  obtain ⟨q, e, ok1⟩ := okR_ofO (okR_then ok1)
  rw [asB_some e] at p1
  cases p1
  refine ⟨q, rfl, ?_⟩
  cases q with
  | true =>
    simp only [if_true] at ok1 ⊢
    exact ⟨m1, h1, ρ, st1, okX_later x1 ok1 fun _ _ q m' v H' y r p => q m' v H' (x1.trans y) r p⟩
  | false =>
    simp only [Bool.false_eq_true, if_false] at ok1 ⊢
    exact ⟨m1, h1, ρ, st1, okX_later x1 ok1 fun _ _ q m' v H' y r p => q m' v H' (x1.trans y) r p⟩
theorem pt_ifExp {c a b : Expr} {tc ta tb : TT} {pos : Pos} (hc : PT X c tc) (ha : PT X a ta) (hb : PT X b tb) : PT X (.IfExp c a b pos) (fun σ H Q => tc σ H fun d H1 => if d = true then ta σ H1 Q else tb σ H1 Q) := by
  refine ⟨fun pins s σ H Q I h => ?_⟩
  show wpAny _ _ (PySem.isTrue (.IfExp c a b pos) X.env _) _ _ _
  unfold PySem.isTrue
  refine wpAny_bind (thn (hc.run pins s σ H _ I h) fun d s1 ⟨H1, I1, q1⟩ => ?_)
  cases d with
  | true => exact ha.run pins s1 σ H1 Q I1 q1
  | false => exact hb.run pins s1 σ H1 Q I1 q1
theorem se_ife (hc : SE X G C W c ec) (ha : SE X G C W a ea) (hb : SE X G C W b eb) : SE X G C W (.IfExp c a b pos) (.ife ec ea eb) :=
  ⟨pe_of (pe_ifExp hc.pt ha.pe hb.pe) tE_ife, pt_of (pt_ifExp hc.pt ha.pt hb.pt) fun σ H Q q => tE_ife σ H _ q⟩

/-! ### arguments, displays -/
def starred : Expr → Bool
  | .Starred _ _ => true
  | _ => false
def ELlen : EL → Nat
  | .nil => 0
  | .cons _ l => ELlen l + 1
theorem okR_len {ρ : Env} : ∀ {l : EL} {h : Hs} {P : List D → Hs → Prop} {Z : Nat → List D → Hs → Prop}, okR (evL C l ρ h) P Z → okR (evL C l ρ h) (fun ds h' => ds.length = ELlen l ∧ P ds h') Z
  | .nil, h, P, Z, ok => ⟨rfl, ok⟩
  | .cons a l, h, P, Z, ok => by
    simp only [evL] at ok ⊢
    cases e : evE C a ρ h with
    | bad => rw [e] at ok; exact ok.elim
    | ex c k h1 => rw [e] at ok; exact ok
    | ok x h1 =>
      rw [e] at ok
      have ok2 : okR ((evL C l ρ h1).then fun r h2 => .ok (x :: r) h2) P Z := ok
      have q := okR_len (okR_then ok2)
      show okR ((evL C l ρ h1).then fun r h2 => .ok (x :: r) h2) _ Z
      cases e2 : evL C l ρ h1 with
      | bad => rw [e2] at q; exact q.elim
      | ex c k h1 => rw [e2] at q; exact q
      | ok r h2 => rw [e2] at q; exact ⟨by simp [ELlen, q.1], q.2⟩

/-- arguments, from the left; none of them is starred -/
structure SA (X : Cx) (G : Gx) (C : Cl) (W : WX) (es : List Expr) (l : EL) : Prop where
  pa : PA X es (tL G C W l)
  st : ∀ e ∈ es, starred e = false
theorem starEach_cons {e : Expr} {es : List Expr} {env : PySem.Env} (h : starred e = false) : starEach (e :: es) env = (false, eval e env) :: starEach es env := by
  cases e <;> first | rfl | exact absurd h (by simp [starred])
theorem starEach_any {es : List Expr} {env : PySem.Env} (h : ∀ e ∈ es, starred e = false) : (starEach es env).any (·.1) = false := by
  induction es with
  | nil => rfl
  | cons e es ih =>
    rw [starEach_cons (h e (by simp))]
    simp only [List.any_cons, Bool.false_or]
    exact ih fun e he => h e (by simp [he])
theorem sa_nil : SA X G C W [] .nil := ⟨pa_of pa_nil fun σ H Q ⟨m, h, ρ, st, ok⟩ => ok m [] H .refl st.rel .nil, fun _ z => by simp at z⟩
theorem sa_cons {e : Expr} {es : List Expr} {c : E} {l : EL} (he : SE X G C W e c) (hs : SA X G C W es l) (h : starred e = false) : SA X G C W (e :: es) (.cons c l) :=
  ⟨pa_of (pa_cons he.pe hs.pa (starEach_cons h)) fun σ H Q ⟨m, h, ρ, st, ok⟩ => by
    simp only [evL] at ok
    refine tE_step st ok fun dx h1 m1 x H1 x1 r1 p1 st1 ok1 => ?_
    refine tL_step (m := m1) (h := h1) (H := H1) st1 (okX_later x1 ok1 fun _ _ q => q) fun dy h2 m2 y H2 x2 r2 p2 st2 ok2 => ?_
    exact ok2 m2 (x :: y) H2 (x1.trans x2) r2 (.cons (p1.mono x2) p2), fun e' z => by
    rcases List.mem_cons.mp z with rfl | z
    · exact h
    · exact hs.st e' z⟩
/-- a new thing that is no cell -/
theorem new_tup {m m0 : List Addr} {h h0 : Hs} {H H0 : L2.Hp} {l : List D} {vs : List V} {p : Addr} (x : Ext G m0 h0 H0 m h H) (r : HRel G m h H) (hp : H p = none) (q : RepL G H (Live G m h) m l vs) :
    Ext G m0 h0 H0 m h (upd H p (.tup vs)) ∧ HRel G m h (upd H p (.tup vs)) ∧ Rep G (upd H p (.tup vs)) (Live G m h) m (.tup l) (.ref p) :=
  ⟨x.trans (Ext.new r hp), r.new hp, .tup (.inl upd_same) (fun z => r.ne z hp) (q.mono (Ext.new r hp))⟩
theorem new_lst {m m0 : List Addr} {h h0 : Hs} {H H0 : L2.Hp} {l : List D} {vs : List V} {p : Addr} (x : Ext G m0 h0 H0 m h H) (r : HRel G m h H) (hp : H p = none) (q : RepL G H (Live G m h) m l vs) :
    Ext G m0 h0 H0 m h (upd H p (.lst vs)) ∧ HRel G m h (upd H p (.lst vs)) ∧ Rep G (upd H p (.lst vs)) (Live G m h) m (.lst l) (.ref p) :=
  ⟨x.trans (Ext.new r hp), r.new hp, .lst (.inl upd_same) (fun z => r.ne z hp) (q.mono (Ext.new r hp))⟩
theorem se_tup {es : List Expr} {l : EL} {k : Nat} (hs : SA X G C W es l) (hl : ELlen l ≤ 1000) : SE X G C W (.Tuple es k pos) (.tup l) :=
  .plain (pe_of (pe_tup hs.pa) fun σ H Q ⟨m, h, ρ, st, ok⟩ => by
    simp only [evE] at ok
    refine ⟨m, h, ρ, st, okR_mono (okR_len (okR_then ok)) (fun ds h1 q m1 vs H1 x1 r1 p1 => ?_) fun _ _ _ q => q⟩
    refine ⟨by rw [← p1.length, q.1, sizeLine_eq]; omega, fun p hp => ?_⟩
    obtain ⟨n1, n2, n3⟩ := new_tup x1 r1 hp p1
    exact q.2 m1 _ _ n1 n2 n3) rfl
theorem se_lst {es : List Expr} {l : EL} (hs : SA X G C W es l) (hl : ELlen l ≤ 1000) : SE X G C W (.List es pos) (.lst l) :=
  .plain (pe_of (pe_lst hs.pa) fun σ H Q ⟨m, h, ρ, st, ok⟩ => by
    simp only [evE] at ok
    refine ⟨m, h, ρ, st, okR_mono (okR_len (okR_then ok)) (fun ds h1 q m1 vs H1 x1 r1 p1 => ?_) fun _ _ _ q => q⟩
    refine ⟨by rw [← p1.length, q.1, sizeLine_eq]; omega, fun p hp => ?_⟩
    obtain ⟨n1, n2, n3⟩ := new_lst x1 r1 hp p1
    exact q.2 m1 _ _ n1 n2 n3) rfl
end
end PV
set_option Elab.async false
set_option autoImplicit false
set_option maxRecDepth 100000
set_option maxHeartbeats 1000000
namespace PV
open PySem PySem.Spec PyProof.Rows L2
/-- what is seen of a value, cells too -/
inductive Sn (G : Gx) (H : L2.Hp) (Lv : Addr → Prop) (m : List Addr) : D → V → Prop
  | non : Sn G H Lv m .non .non
  | bl (b : Bool) : Sn G H Lv m (.bl b) (.bl b)
  | int (i : Int) : Sn G H Lv m (.int i) (.int i)
  | str (x : Cs) : Sn G H Lv m (.str x) (.str (str x))
  | tup {l vs a} : SqT G.K H a vs → RepL G H Lv m l vs → Sn G H Lv m (.tup l) (.ref a)
  | lst {l vs a} : LsR G.K H a vs → RepL G H Lv m l vs → Sn G H Lv m (.lst l) (.ref a)
  | dct {l kvs a} : Rd H a (.dK kvs) → (∀ p ∈ l, isKey p.1 = true) → kvs.map (·.1) = l.map (fun p => keyOf p.1) → RepL G H Lv m (l.map (·.2)) (kvs.map (·.2)) → Sn G H Lv m (.dct l) (.ref a)
  | ins {c l vs a dx fs} : H a = some (.ins (G.ca c) dx fs) → Flds (G.flds c) fs vs → RepL G H Lv m l vs → Sn G H Lv m (.ins c l) (.ref a)
  | ref {i a} : m[i]? = some a → Sn G H Lv m (.ref i) (.ref a)
  | fn (f : Nat) : Sn G H Lv m (.fn f) (.ref (G.fa f))
  | exc {c l a} : Rep G H Lv m (.exc c l) (.ref a) → Sn G H Lv m (.exc c l) (.ref a)
theorem KSeq.tup {K : PySem.W.Frag} {H : L2.Hp} {a : Addr} {vs : List V} (k : KSeq "tuple" K a vs) : SqT K H a vs := by
  obtain ⟨o, its, n, h1, h2, h3, h4, h5⟩ := k
  exact .inr ⟨o, its, n, h1, h2, h3, h4, h5⟩
section
variable {G : Gx} {H : L2.Hp} {Lv : Addr → Prop} {m : List Addr} {h : Hs} {d : D} {v : V}
theorem Rep.sn (r : Rep G H Lv m d v) : Sn G H Lv m d v := by
  cases r with
  | non => exact .non
  | bl b => exact .bl b
  | int i => exact .int i
  | str x => exact .str x
  | tup r n l => exact .tup (.inl r) l
  | tupK k l => exact .tup k.tup l
  | lst r n l => exact .lst (.inl r) l
  | lstK k l => exact .lst (.inr k) l
  | dct r n k q l => exact .dct r k q l
  | ins r n f l => exact .ins r f l
  | ref e => exact .ref e
  | fn f _ => exact .fn f
  | exc0 k r n f => exact .exc (.exc0 k r n f)
  | exc1 k r n r2 n2 f g l => exact .exc (.exc1 k r n r2 n2 f g l)
theorem see (x : HRel G m h H) (r : Rep G H (Live G m h) m d v) : Sn G H (Live G m h) m (vw h d) v := by
  cases r with
  | @ref i a e =>
    show Sn _ _ _ _ (match h.getD i .non with
      | .non => .ref i
      | d => d) _
    cases q : h[i]? with
    | none => rw [List.getD_eq_getElem?_getD, q]; exact .ref e
    | some c =>
      have z := x.cell i a c e q
      rw [List.getD_eq_getElem?_getD, q]
      simp only [Option.getD_some]
      cases c with
      | lst l => obtain ⟨vs, h1, h2⟩ := z; exact .lst (.inl (.inl h1)) h2
      | dct l => obtain ⟨vs, h1, h2, h3, h4⟩ := z; exact .dct (.inl h1) h2 h3 h4
      | ins c l => obtain ⟨dx, fs, vs, h1, h2, h3⟩ := z; exact .ins h1 h2 h3
      | non => exact .ref e
      | _ => exact z.elim
  | non => exact .non
  | bl b => exact .bl b
  | int i => exact .int i
  | str x => exact .str x
  | tup r n l => exact .tup (.inl r) l
  | tupK k l => exact .tup k.tup l
  | lst r n l => exact .lst (.inl r) l
  | lstK k l => exact .lst (.inr k) l
  | dct r n k q l => exact .dct r k q l
  | ins r n f l => exact .ins r f l
  | fn f _ => exact .fn f
  | exc0 k r n f => exact .exc (.exc0 k r n f)
  | exc1 k r n r2 n2 f g l => exact .exc (.exc1 k r n r2 n2 f g l)
end
/-- an operator on what is seen -/
def BinS (G : Gx) (f : D → D → Option D) (r : R2) : Prop := ∀ m h H dx dy x y d (Q : VK), HRel G m h H → Sized H → Sn G H (Live G m h) m dx x → Sn G H (Live G m h) m dy y → f dx dy = some d →
  (∀ m' v H', Ext G m h H m' h H' → HRel G m' h H' → Rep G H' (Live G m' h) m' d v → Q v H') → r x y H Q
theorem BinS.bin {G : Gx} {f : D → D → Option D} {r : R2} (b : BinS G f r) : Bin G (fun h x y => f (vw h x) (vw h y)) r :=
  fun m h H dx dy x y d Q hr sz px py e q => b m h H _ _ x y d Q hr sz (see hr px) (see hr py) e q
theorem okLen_le {α : Type} {l : List α} (h : okLen l = true) : l.length ≤ sizeLine := by
  have : l.length ≤ line := of_decide_eq_true h
  rw [sizeLine_eq]; exact this
theorem str_append (a b : Cs) : str (a ++ b) = str a ++ str b := by
  show (⟨(a ++ b).toArray⟩ : Str) = ⟨a.toArray ++ b.toArray⟩
  simp
theorem str_length (a : Cs) : (str a).length = a.length := by
  show a.toArray.size = a.length
  simp
section
variable {X : Cx} {G : Gx}
/-- list + list, whoever may write them -/
def rCatL (K : PySem.W.Frag) : R2 := fun x y H Q => ∃ l b xs zs, x = .ref l ∧ y = .ref b ∧ LsR K H l xs ∧ LsR K H b zs ∧ xs.length + zs.length ≤ sizeLine ∧ ∀ p, H p = none → Q (.ref p) (upd H p (.lst (xs ++ zs)))
theorem rd_list {pins : List (Addr × Obj)} {σ : L2.St} {H : L2.Hp} {s : Shared} {l : Addr} {xs : List V} (I : Inv X pins σ H s) (h : LsR X.K H l xs) :
    ∃ (its : List Value) (n : Nat), Vals xs its ∧ s.heap.get? l = some { cls := .type "list", data := .seq its.toArray n } := by
  rcases h with h | ⟨its, n, h1, h2, h3⟩
  · obtain ⟨z, its, n, r, e⟩ := h.ok I.hok
    exact ⟨its, n, r, e⟩
  · exact ⟨its.toList, n, h3, by simpa using I.kIn _ _ h1⟩
theorem op_catL : OpR X (binaryOp .Add) (rCatL X.K) := by
  intro pins s σ H x y v u Q I rx ry h
  obtain ⟨l, b, xs, zs, rfl, rfl, hH, hB, hz, q⟩ := h
  cases rx
  cases ry
  obtain ⟨its, n, r, e⟩ := rd_list I hH
  obtain ⟨its2, n2, r2, e2⟩ := rd_list I hB
  refine PySem.P.add_list e e2 ?_ (by rw [List.size_toArray, List.size_toArray, ← r.length, ← r2.length]; exact hz)
  rw [show its.toArray ++ its2.toArray = (its ++ its2).toArray by simp]
  exact ⟨.ref s.heap.objs.size, _, I.lnew (t' := s.toks) (r.append r2) (by simpa using hz), rfl, q _ I.fresh⟩
def rAddP (K : PySem.W.Frag) : R2 := fun x y H Q => rI0 (fun i j => .int (i + j)) x y H Q ∨ (∃ i j, x = .str i ∧ y = .str j ∧ i.length + j.length ≤ sizeLine ∧ Q (.str (i ++ j)) H) ∨ rCatA K x y H Q ∨ rCatL K x y H Q
theorem op_addP : OpR X (binaryOp .Add) (rAddP X.K) := OpR.or op_add (OpR.or op_add_str (OpR.or op_catA op_catL))
theorem nlv {m : List Addr} {h : Hs} {H : L2.Hp} (r : HRel G m h H) {a : Addr} {xs : List V} (e : H a = some (.tup xs)) : ¬ Live G m h a := by
  rintro (z | ⟨i, c, h1, h2, h3⟩)
  · rcases z with z | ⟨p, hp, rfl⟩
    · rcases r.hotv a z with ⟨_, q⟩ | ⟨_, q⟩ <;> rw [e] at q <;> cases q
    · obtain ⟨_, q, _⟩ := r.tab p hp
      rw [e] at q; cases q
  have z := r.cell i a c h1 h2
  cases c with
  | lst l => obtain ⟨vs, q, _⟩ := z; rw [e] at q; cases q
  | dct l => obtain ⟨vs, q, _⟩ := z; rw [e] at q; cases q
  | ins c l => obtain ⟨_, _, vs, q, _⟩ := z; rw [e] at q; cases q
  | non => exact h3 rfl
  | _ => exact z
/-- a tuple that is read is one that may be kept -/
theorem kept_tup {m : List Addr} {h : Hs} {H : L2.Hp} {l : List D} {vs : List V} {a : Addr} (r : HRel G m h H) (q : SqT G.K H a vs) (p : RepL G H (Live G m h) m l vs) : Rep G H (Live G m h) m (.tup l) (.ref a) := by
  rcases q with q | ⟨o, its, n, h1, h2, h3, h4, h5⟩
  · refine .tup q (fun z => ?_) p
    rcases q with q | ⟨ob, q⟩
    · exact nlv r q z
    · rcases z with z | ⟨i, c, h1, h2, h3⟩
      · rcases z with z | ⟨p, hp, rfl⟩
        · rcases r.hotv a z with ⟨_, q2⟩ | ⟨_, q2⟩ <;> rw [q] at q2 <;> cases q2
        · obtain ⟨_, q2, _⟩ := r.tab p hp
          rw [q] at q2; cases q2
      have z := r.cell i a c h1 h2
      cases c with
      | lst l => obtain ⟨vs, e, _⟩ := z; rw [q] at e; cases e
      | dct l => obtain ⟨vs, e, _⟩ := z; rw [q] at e; cases e
      | ins c l => obtain ⟨_, _, vs, e, _⟩ := z; rw [q] at e; cases e
      | non => exact h3 rfl
      | _ => exact z
  · exact .tupK ⟨o, its, n, h1, h2, h3, h4, h5⟩ p

/-! ### the operators -/
theorem bop_add_s : BinS G (bop .add) (rAddP G.K) := by
  intro m h H dx dy x y d Q r sz px py e q
  cases px with
  | int i => cases py with
    | int j =>
      cases e
      exact .inl ⟨i, j, rfl, rfl, q m _ H .refl r (.int _)⟩
    | _ => cases e
  | str a => cases py with
    | str b =>
      have e : (if okLen (a ++ b) = true then some (D.str (a ++ b)) else none) = some d := e
      split at e
      · rename_i z
        cases e
        have z := okLen_le z
        refine .inr (.inl ⟨_, _, rfl, rfl, by rw [str_length, str_length]; simpa using z, ?_⟩)
        rw [← str_append]
        exact q m _ H .refl r (.str _)
      · cases e
    | _ => cases e
  | @tup a vs p s1 l1 => cases py with
    | @tup b ws p2 s2 l2 =>
      have e : (if okLen (a ++ b) = true then some (D.tup (a ++ b)) else none) = some d := e
      split at e
      · rename_i z
        cases e
        have z := okLen_le z
        have z : vs.length + ws.length ≤ sizeLine := by rw [← l1.length, ← l2.length]; simpa using z
        refine .inr (.inr (.inl ⟨p, p2, vs, ws, rfl, rfl, s1, s2, z, ?_, ?_, ?_⟩))
        · intro e1
          subst e1
          cases l1
          exact q m _ H .refl r (kept_tup r s2 l2)
        · intro e1 e2
          subst e2
          cases l2
          rw [List.append_nil] at q
          exact q m _ H .refl r (kept_tup r s1 l1)
        · intro _ _ p3 hp
          obtain ⟨n1, n2, n3⟩ := new_tup .refl r hp (l1.append l2)
          exact q m _ _ n1 n2 n3
      · cases e
    | _ => cases e
  | @lst a vs p s1 l1 => cases py with
    | @lst b ws p2 s2 l2 =>
      have e : (if okLen (a ++ b) = true then some (D.lst (a ++ b)) else none) = some d := e
      split at e
      · rename_i z
        cases e
        have z := okLen_le z
        have z : vs.length + ws.length ≤ sizeLine := by rw [← l1.length, ← l2.length]; simpa using z
        refine .inr (.inr (.inr ⟨p, p2, vs, ws, rfl, rfl, s1, s2, z, fun p3 hp => ?_⟩))
        obtain ⟨n1, n2, n3⟩ := new_lst .refl r hp (l1.append l2)
        exact q m _ _ n1 n2 n3
      · cases e
    | _ => cases e
  | _ => cases py <;> cases e
end
end PV
set_option Elab.async false
set_option autoImplicit false
set_option maxRecDepth 100000
set_option maxHeartbeats 1000000
namespace PV
open PySem PySem.Spec PyProof.Rows L2
mutual
theorem flat_lay : ∀ d : D, d.flat = true → d.py.canLay0 = true
  | .non, _ | .bl _, _ | .int _, _ => by simp [D.py, PyData.canLay0]
  | .str x, h => by
    simp only [D.flat] at h
    simp only [D.py, PyData.canLay0, PyData.strOk]
    simpa using h
  | .tup l, h => by simp only [D.py, PyData.canLay0]; exact flatL_lay l (by simpa [D.flat] using h)
  | .lst l, h => by simp only [D.py, PyData.canLay0]; exact flatL_lay l (by simpa [D.flat] using h)
  | .dct _, h | .ins _ _, h | .exc _ _, h | .ref _, h | .fn _, h | .clo _ _, h => by simp [D.flat] at h
theorem flatL_lay : ∀ l : List D, D.flatL l = true → PyData.canLayAll0 (D.pyL l) = true
  | [], _ => rfl
  | x :: r, h => by
    have h : x.flat = true ∧ D.flatL r = true := by simpa [D.flatL] using h
    simp only [D.pyL, PyData.canLayAll0, flat_lay x h.1, flatL_lay r h.2, Bool.and_self]
end
mutual
theorem py_dep : ∀ d : D, d.flat = true → d.py.depth = d.dep
  | .non, _ | .bl _, _ | .int _, _ | .str _, _ => by simp [D.py, PyData.depth, D.dep]
  | .tup l, h => by simp only [D.py, PyData.depth, D.dep]; rw [py_depL l (by simpa [D.flat] using h)]
  | .lst l, h => by simp only [D.py, PyData.depth, D.dep]; rw [py_depL l (by simpa [D.flat] using h)]
  | .dct _, h | .ins _ _, h | .exc _ _, h | .ref _, h | .fn _, h | .clo _ _, h => by simp [D.flat] at h
theorem py_depL : ∀ l : List D, D.flatL l = true → PyData.depthAll (D.pyL l) = D.depL l
  | [], _ => rfl
  | x :: r, h => by
    have h : x.flat = true ∧ D.flatL r = true := by simpa [D.flatL] using h
    simp only [D.pyL, PyData.depthAll, D.depL, py_dep x h.1, py_depL r h.2]
end
mutual
theorem py_eqv : ∀ d e : D, d.flat = true → e.flat = true → PyData.eqv d.py e.py = D.eqv d e
  | .non, e, _, h => by cases e <;> first | (simp [D.flat] at h; done) | simp [D.py, PyData.eqv, D.eqv]
  | .bl b, e, _, h => by cases e <;> first | (simp [D.flat] at h; done) | simp [D.py, PyData.eqv, D.eqv]
  | .int i, e, _, h => by cases e <;> first | (simp [D.flat] at h; done) | simp [D.py, PyData.eqv, D.eqv]
  | .str x, e, _, h => by
    cases e with
    | str y =>
      simp only [D.py, PyData.eqv, D.eqv]
      by_cases q : x = y
      · subst q; simp
      · have : ¬ ((⟨x.toArray⟩ : Str) = ⟨y.toArray⟩) := fun z => q (by injection z with z; simpa using congrArg Array.toList z)
        rw [beq_eq_false_iff_ne.mpr this, beq_eq_false_iff_ne.mpr q]
    | _ => first | (simp [D.flat] at h; done) | simp [D.py, PyData.eqv, D.eqv]
  | .tup l, e, h1, h => by
    cases e with
    | tup k => simp only [D.py, PyData.eqv, D.eqv]; exact py_eqvL l k (by simpa [D.flat] using h1) (by simpa [D.flat] using h)
    | _ => first | (simp [D.flat] at h; done) | simp [D.py, PyData.eqv, D.eqv]
  | .lst l, e, h1, h => by
    cases e with
    | lst k => simp only [D.py, PyData.eqv, D.eqv]; exact py_eqvL l k (by simpa [D.flat] using h1) (by simpa [D.flat] using h)
    | _ => first | (simp [D.flat] at h; done) | simp [D.py, PyData.eqv, D.eqv]
  | .dct _, _, h, _ | .ins _ _, _, h, _ | .exc _ _, _, h, _ | .ref _, _, h, _ | .fn _, _, h, _ | .clo _ _, _, h, _ => by simp [D.flat] at h
theorem py_eqvL : ∀ l k : List D, D.flatL l = true → D.flatL k = true → PyData.eqvAll (D.pyL l) (D.pyL k) = D.eqvL l k
  | [], [], _, _ => by simp [D.pyL, PyData.eqvAll, D.eqvL]
  | [], _ :: _, _, _ => by simp [D.pyL, PyData.eqvAll, D.eqvL]
  | _ :: _, [], _, _ => by simp [D.pyL, PyData.eqvAll, D.eqvL]
  | x :: r, y :: s, h, k => by
    have h : x.flat = true ∧ D.flatL r = true := by simpa [D.flatL] using h
    have k : y.flat = true ∧ D.flatL s = true := by simpa [D.flatL] using k
    simp only [D.pyL, PyData.eqvAll, D.eqvL, py_eqv x y h.1 k.1, py_eqvL r s h.2 k.2]
end
section
variable {G : Gx} {H : L2.Hp} {Lv : Addr → Prop} {m : List Addr}
mutual
theorem rep_dp : ∀ {d : D} {v : V}, Rep G H Lv m d v → d.flat = true → Dp G.K H v d.py
  | _, _, .non, _ => .non
  | _, _, .bl b, _ => .bl b
  | _, _, .int i, _ => .int i
  | _, _, .str x, _ => .str _
  | .tup l, _, .tup r n q, h => .tup (.inl r) (rep_dpL q (by simpa [D.flat] using h))
  | .tup l, _, .tupK k q, h => .tup k.tup (rep_dpL q (by simpa [D.flat] using h))
  | .lst l, _, .lst r n q, h => .lst (.inl r) (rep_dpL q (by simpa [D.flat] using h))
  | .lst l, _, .lstK k q, h => .lst (LsR.sq (.inr k)) (rep_dpL q (by simpa [D.flat] using h))
  | _, _, .dct _ _ _ _ _, h => by simp [D.flat] at h
  | _, _, .ins _ _ _ _, h => by simp [D.flat] at h
  | _, _, .ref _, h => by simp [D.flat] at h
  | _, _, .fn _ _, h => by simp [D.flat] at h
  | _, _, .exc0 _ _ _ _, h => by simp [D.flat] at h
  | _, _, .exc1 _ _ _ _ _ _ _ _, h => by simp [D.flat] at h
theorem rep_dpL : ∀ {l : List D} {vs : List V}, RepL G H Lv m l vs → D.flatL l = true → DpAll G.K H vs (D.pyL l)
  | _, _, .nil, _ => .nil
  | x :: r, _, .cons p q, h => by
    have h : x.flat = true ∧ D.flatL r = true := by simpa [D.flatL] using h
    exact .cons (rep_dp p h.1) (rep_dpL q h.2)
end
theorem sn_dp {d : D} {v : V} (r : Sn G H Lv m d v) (h : d.flat = true) : Dp G.K H v d.py := by
  cases r with
  | non => exact .non
  | bl b => exact .bl b
  | int i => exact .int i
  | str x => exact .str _
  | tup r q => exact .tup r (rep_dpL q (by simpa [D.flat] using h))
  | lst r q => exact .lst r.sq (rep_dpL q (by simpa [D.flat] using h))
  | _ => simp [D.flat] at h
end
section
variable {X : Cx} {G : Gx} {B : Nat}
/-- == of data, so far within one another -/
def rEqF (K : PySem.W.Frag) (B : Nat) (neg : Bool) : R2 := fun x y H Q => ∃ d e, Dp K H x d ∧ Dp K H y e ∧ d.canLay0 = true ∧ e.canLay0 = true ∧ min d.depth e.depth ≤ B ∧ Q (.bl (if neg then !PyData.eqv d e else PyData.eqv d e)) H
theorem op_eqF (hu : X.A.units + B < cLine) : OpR X (compareOp .Eq) (rEqF X.K B false) := by
  intro pins s σ H x y v u Q I rx ry h
  obtain ⟨d, e, hd, he, l1, l2, b, q⟩ := h
  obtain ⟨as, r1⟩ := Dp.reads I d x v hd rx
  obtain ⟨bs, r2⟩ := Dp.reads I e y u he ry
  exact SeqAt.compareEq_reads r1 r2 l1 l2 (by omega) ⟨.bl _, H, I, rfl, q⟩
theorem op_neF (hu : X.A.units + B < cLine) : OpR X (compareOp .NotEq) (rEqF X.K B true) := by
  intro pins s σ H x y v u Q I rx ry h
  obtain ⟨d, e, hd, he, l1, l2, b, q⟩ := h
  obtain ⟨as, r1⟩ := Dp.reads I d x v hd rx
  obtain ⟨bs, r2⟩ := Dp.reads I e y u he ry
  exact SeqAt.compareNe_reads r1 r2 l1 l2 (by omega) ⟨.bl _, H, I, rfl, q⟩
theorem cop_eq_s : BinS G (cop B .eq) (rEqF G.K B false) := by
  intro m h H dx dy x y d Q r sz px py e q
  have e : (if dx.flat && dy.flat && decide (min dx.dep dy.dep ≤ B) then some (D.bl (D.eqv dx dy)) else none) = some d := e
  split at e
  · rename_i z
    cases e
    obtain ⟨⟨z1, z2⟩, z3⟩ : (dx.flat = true ∧ dy.flat = true) ∧ min dx.dep dy.dep ≤ B := by simpa using z
    refine ⟨_, _, sn_dp px z1, sn_dp py z2, flat_lay _ z1, flat_lay _ z2, by rw [py_dep _ z1, py_dep _ z2]; exact z3, ?_⟩
    rw [py_eqv _ _ z1 z2]
    exact q m _ H .refl r (.bl _)
  · cases e
theorem cop_ne_s : BinS G (cop B .ne) (rEqF G.K B true) := by
  intro m h H dx dy x y d Q r sz px py e q
  have e : (if dx.flat && dy.flat && decide (min dx.dep dy.dep ≤ B) then some (D.bl (!D.eqv dx dy)) else none) = some d := e
  split at e
  · rename_i z
    cases e
    obtain ⟨⟨z1, z2⟩, z3⟩ : (dx.flat = true ∧ dy.flat = true) ∧ min dx.dep dy.dep ≤ B := by simpa using z
    refine ⟨_, _, sn_dp px z1, sn_dp py z2, flat_lay _ z1, flat_lay _ z2, by rw [py_dep _ z1, py_dep _ z2]; exact z3, ?_⟩
    rw [py_eqv _ _ z1 z2]
    exact q m _ H .refl r (.bl _)
  · cases e
/-! ### in, over lists and tuples -/
def rInF (K : PySem.W.Frag) (B : Nat) (neg : Bool) : R2 := fun x y H Q => ∃ d p xs es, Dp K H x d ∧ y = .ref p ∧ (SqL K H p xs ∨ SqT K H p xs) ∧ DpAll K H xs es ∧ d.canLay0 = true ∧ PyData.canLayAll0 es = true ∧ min d.depth (PyData.depthAll es) ≤ B ∧
  Q (.bl (if neg then !es.any (fun e => PyData.eqv e d) else es.any (fun e => PyData.eqv e d))) H
theorem any_reads {h : Heap} {d : PyData} {e : Value → Bool} : ∀ {us : List Value} {es : List PyData} {as : List Addr}, ReadsAll h us es as → (∀ u ∈ us, ∀ x bs, Reads h u x bs → e u = PyData.eqv x d) → us.any e = es.any fun x => PyData.eqv x d
  | _, _, _, .nil, _ => rfl
  | _, _, _, .cons r t, k => by
    rw [List.any_cons, List.any_cons, k _ (by simp) _ _ r, any_reads t fun u hu => k u (by simp [hu])]
theorem mem_reads {h : Heap} : ∀ {us : List Value} {es : List PyData} {as : List Addr}, ReadsAll h us es as → ∀ u ∈ us, ∃ x ∈ es, ∃ bs, Reads h u x bs
  | _, _, _, .nil, u, z => by simp at z
  | _, _, _, .cons r t, u, z => by
    rcases List.mem_cons.mp z with rfl | z
    · exact ⟨_, by simp, _, r⟩
    · obtain ⟨x, hx, bs, q⟩ := mem_reads t u z
      exact ⟨x, by simp [hx], bs, q⟩
theorem mem_lay : ∀ {es : List PyData}, PyData.canLayAll0 es = true → ∀ x ∈ es, x.canLay0 = true ∧ x.depth ≤ PyData.depthAll es
  | [], _, x, z => by simp at z
  | e :: es, h, x, z => by
    have h : e.canLay0 = true ∧ PyData.canLayAll0 es = true := by simpa [PyData.canLayAll0] using h
    simp only [PyData.depthAll]
    rcases List.mem_cons.mp z with rfl | z
    · exact ⟨h.1, Nat.le_max_left _ _⟩
    · obtain ⟨q1, q2⟩ := mem_lay h.2 x z
      exact ⟨q1, Nat.le_trans q2 (Nat.le_max_right _ _)⟩
open Classical in
theorem op_inF {neg : Bool} (hu : X.A.units + B + 1 < cLine) : OpR X (compareOp (if neg then .NotIn else .In)) (rInF X.K B neg) := by
  intro pins s σ H x y v u Q I rx ry h
  obtain ⟨d, p, xs, es, hd, rfl, hp, hes, l1, l2, b, q⟩ := h
  cases ry
  obtain ⟨as, r1⟩ := Dp.reads I d x v hd rx
  have key : ∀ {us : List Value}, Vals xs us → ∃ e : Value → Bool, (∀ y ∈ us, SeqAt.EqAt X.A.in1 s y v (e y)) ∧ us.any e = es.any (fun z => PyData.eqv z d) := fun {us} rv => by
    obtain ⟨bs, r2⟩ := Dp.readsAll I es xs us hes rv
    have det : ∀ u x bs, Reads s.heap u x bs → ∀ x' bs', Reads s.heap u x' bs' → x' = x := fun u x bs r x' bs' r' => (PyProof.Rows.reads_det (fun _ _ e _ => e) r r').1
    refine ⟨fun u => decide (∃ x bs, Reads s.heap u x bs ∧ PyData.eqv x d = true), fun y hy => ?_, any_reads r2 fun u _ x bs r => ?_⟩
    · obtain ⟨x, hx, bs, r⟩ := mem_reads r2 y hy
      obtain ⟨k1, k2⟩ := mem_lay l2 x hx
      have e : decide (∃ x bs, Reads s.heap y x bs ∧ PyData.eqv x d = true) = PyData.eqv x d := by
        cases z : PyData.eqv x d with
        | true => exact decide_eq_true ⟨x, bs, r, z⟩
        | false => exact decide_eq_false fun ⟨x', bs', r', z'⟩ => by rw [det _ _ _ r _ _ r', z] at z'; cases z'
      show SeqAt.EqAt _ _ _ _ (decide (∃ x bs, Reads s.heap y x bs ∧ PyData.eqv x d = true))
      rw [e]
      refine SeqAt.eqAt_reads x d _ s y v _ _ r r1 k1 l1 ?_
      show X.A.units + 1 + min x.depth d.depth < cLine
      omega
    · show decide (∃ x bs, Reads s.heap u x bs ∧ PyData.eqv x d = true) = _
      cases z : PyData.eqv x d with
      | true => exact decide_eq_true ⟨x, bs, r, z⟩
      | false => exact decide_eq_false fun ⟨x', bs', r', z'⟩ => by rw [det _ _ _ r _ _ r', z] at z'; cases z'
  rcases hp with hp | hp
  · obtain ⟨its, rv, pl, _⟩ := I.list hp
    obtain ⟨e, k1, k2⟩ := key rv
    cases neg with
    | false =>
      refine SeqAt.in_listAt e pl.isList (fun y hy => k1 y (by simpa using hy)) ⟨.bl _, H, I, rfl, ?_⟩
      rw [show its.toArray.any e = its.any e by simp, k2]
      exact q
    | true =>
      refine SeqAt.notIn_listAt e pl.isList (fun y hy => k1 y (by simpa using hy)) ⟨.bl _, H, I, rfl, ?_⟩
      rw [show its.toArray.any e = its.any e by simp, k2]
      exact q
  · obtain ⟨its, rv, pl, _⟩ := I.tuple hp
    obtain ⟨e, k1, k2⟩ := key rv
    cases neg with
    | false =>
      refine SeqAt.in_tupleAt e pl (fun y hy => k1 y (by simpa using hy)) ⟨.bl _, H, I, rfl, ?_⟩
      rw [show its.toArray.any e = its.any e by simp, k2]
      exact q
    | true =>
      refine SeqAt.notIn_tupleAt e pl (fun y hy => k1 y (by simpa using hy)) ⟨.bl _, H, I, rfl, ?_⟩
      rw [show its.toArray.any e = its.any e by simp, k2]
      exact q
theorem py_any {d : D} (hd : d.flat = true) : ∀ {l : List D}, D.flatL l = true → ((D.pyL l).any fun e => PyData.eqv e d.py) = l.any fun y => D.eqv y d
  | [], _ => rfl
  | x :: r, h => by
    have h : x.flat = true ∧ D.flatL r = true := by simpa [D.flatL] using h
    rw [D.pyL, List.any_cons, List.any_cons, py_eqv x d h.1 hd, py_any hd h.2]
/-- what is asked of in, by values -/
theorem in_seq {m : List Addr} {h : Hs} {H : L2.Hp} {dx : D} {l : List D} {x : V} {p : Addr} {xs : List V} {Q : VK} {neg : Bool} {d : D} (px : Sn G H (Live G m h) m dx x) (hp : SqL G.K H p xs ∨ SqT G.K H p xs) (q : RepL G H (Live G m h) m l xs)
    (e : (if dx.flat && D.flatL l && decide (min dx.dep (D.depL l) ≤ B) then some (D.bl (if neg then !l.any (fun y => D.eqv y dx) else l.any fun y => D.eqv y dx)) else none) = some d)
    (k : ∀ b, d = .bl b → Q (.bl b) H) : rInF G.K B neg x (.ref p) H Q := by
  split at e
  · rename_i z
    cases e
    obtain ⟨⟨z1, z2⟩, z3⟩ : (dx.flat = true ∧ D.flatL l = true) ∧ min dx.dep (D.depL l) ≤ B := by simpa using z
    refine ⟨_, p, xs, _, sn_dp px z1, rfl, hp, rep_dpL q z2, flat_lay _ z1, flatL_lay _ z2, by rw [py_dep _ z1, py_depL _ z2]; exact z3, ?_⟩
    rw [py_any z1 z2]
    exact k _ rfl
  · cases e
end
end PV
set_option Elab.async false
set_option autoImplicit false
set_option maxRecDepth 100000
set_option maxHeartbeats 1000000
namespace PV
open PySem PySem.Spec PyProof.Rows L2
section
variable {X : Cx} {G : Gx} {B : Nat}
theorem bops_int {o : Bop} {g : Int → Int → Int} (hg : ∀ i j, bop o (.int i) (.int j) = some (.int (g i j))) (ho : ∀ x y, (∀ i, x ≠ .int i) ∨ (∀ i, y ≠ .int i) → bop o x y = none) : BinS G (bop o) (rI0 fun i j => .int (g i j)) := by
  intro m h H dx dy x y d Q r sz px py e q
  cases px with
  | int i => cases py with
    | int j => rw [hg] at e; cases e; exact ⟨i, j, rfl, rfl, q m _ H .refl r (.int _)⟩
    | _ => rw [ho _ _ (.inr fun i z => by cases z)] at e; cases e
  | _ => rw [ho _ _ (.inl fun i z => by cases z)] at e; cases e
theorem bop_sub_s : BinS G (bop .sub) (rI0 fun i j => .int (i - j)) := bops_int (fun _ _ => rfl) fun x y h => by
  cases x <;> cases y <;> first | rfl | (rcases h with h | h <;> exact absurd rfl (h _))
theorem bops_if {o : Bop} {C : Int → Int → Prop} {g : Int → Int → Int} (hg : ∀ i j d, bop o (.int i) (.int j) = some d → C i j ∧ d = .int (g i j)) (ho : ∀ x y, (∀ i, x ≠ .int i) ∨ (∀ i, y ≠ .int i) → bop o x y = none) : BinS G (bop o) (rI C fun i j => .int (g i j)) := by
  intro m h H dx dy x y d Q r sz px py e q
  cases px with
  | int i => cases py with
    | int j =>
      obtain ⟨c, rfl⟩ := hg i j d e
      exact ⟨i, j, rfl, rfl, c, q m _ H .refl r (.int _)⟩
    | _ => rw [ho _ _ (.inr fun i z => by cases z)] at e; cases e
  | _ => rw [ho _ _ (.inl fun i z => by cases z)] at e; cases e
theorem bop_fdiv_s : BinS G (bop .fdiv) (rI CDivW fun i j => .int (i / j)) := bops_if (fun i j d e => by
  have e : (if decide (0 < j) && mid j then some (D.int (i / j)) else none) = some d := e
  split at e
  · rename_i z
    cases e
    simp only [Bool.and_eq_true, decide_eq_true_eq] at z
    exact ⟨wide_div z.1 (b := 4000) (of_decide_eq_true z.2) (by decide) (by decide), rfl⟩
  · cases e) fun x y h => by
  cases x <;> cases y <;> first | rfl | (rcases h with h | h <;> exact absurd rfl (h _))
theorem bop_mod_s : BinS G (bop .mod) (rI (fun _ j => 0 < j) fun i j => .int (i % j)) := bops_if (fun i j d e => by
  have e : (if 0 < j then some (D.int (i % j)) else none) = some d := e
  split at e
  · rename_i z
    cases e
    exact ⟨z, rfl⟩
  · cases e) fun x y h => by
  cases x <;> cases y <;> first | rfl | (rcases h with h | h <;> exact absurd rfl (h _))
theorem small_lt {i : Int} (h : small i = true) : -(2 ^ 64) < i ∧ i < 2 ^ 64 := by simpa [small] using h
theorem small_nat {i : Int} (h : small i = true) : i.natAbs < 2 ^ 64 := by
  have := small_lt h
  omega
theorem bop_pow_s : BinS G (bop .pow) (rI CPow fun i j => .int (i ^ j.toNat)) := bops_if (fun i j d e => by
  have e : (if decide (0 ≤ j) && decide (j ≤ 1000000) && small i then some (D.int (i ^ j.toNat)) else none) = some d := e
  split at e
  · rename_i z
    cases e
    obtain ⟨⟨z1, z2⟩, z3⟩ : (0 ≤ j ∧ j ≤ 1000000) ∧ small i = true := by simpa using z
    exact ⟨⟨z1, z2, small_nat z3⟩, rfl⟩
  · cases e) fun x y h => by
  cases x <;> cases y <;> first | rfl | (rcases h with h | h <;> exact absurd rfl (h _))
def CMulA (i j : Int) : Prop := CMul i j ∨ CMulW i j
theorem op_mulA : OpR X (binaryOp .Mult) (rI CMulA fun i j => .int (i * j)) := opI fun _ _ _ _ _ _ _ hc q => mul_int q (hc.elim (·.ok) (·.ok))
theorem mid_log {i : Int} (h : mid i = true) : i.natAbs.log2 ≤ 4000 := by
  have h : i.natAbs < 2 ^ 4000 := of_decide_eq_true h
  by_cases z : i.natAbs = 0
  · rw [z]; simp
  · have := (Nat.log2_lt z).mpr h
    omega
theorem bop_mul_s : BinS G (bop .mul) (rI CMulA fun i j => .int (i * j)) := by
  intro m h H dx dy x y d Q r sz px py e q
  cases px with
  | int i => cases py with
    | int j =>
      have e : (if small i || small j || (mid i && mid j) then some (D.int (i * j)) else none) = some d := e
      split at e
      · rename_i z
        cases e
        refine ⟨i, j, rfl, rfl, ?_, q m _ H .refl r (.int _)⟩
        have z : (small i = true ∨ small j = true) ∨ (mid i = true ∧ mid j = true) := by simpa using z
        rcases z with z | z
        · exact .inl (z.imp small_lt small_lt)
        · have h1 := mid_log z.1
          have h2 := mid_log z.2
          refine .inr ?_
          show _ < _
          omega
      · cases e
    | _ => cases e
  | _ => cases e

theorem cop_lt_s {o : Cop} {g : Int → Int → Bool} (hg : ∀ i j, cop B o (.int i) (.int j) = some (.bl (g i j))) (ho : ∀ x y, (∀ i, x ≠ .int i) ∨ (∀ i, y ≠ .int i) → cop B o x y = none) : BinS G (cop B o) (rI0 fun i j => .bl (g i j)) := by
  intro m h H dx dy x y d Q r sz px py e q
  cases px with
  | int i => cases py with
    | int j => rw [hg] at e; cases e; exact ⟨i, j, rfl, rfl, q m _ H .refl r (.bl _)⟩
    | _ => rw [ho _ _ (.inr fun i z => by cases z)] at e; cases e
  | _ => rw [ho _ _ (.inl fun i z => by cases z)] at e; cases e
theorem cop_lt : BinS G (cop B .lt) (rI0 fun i j => .bl (decide (i < j))) := cop_lt_s (fun _ _ => rfl) fun x y h => by
  cases x <;> cases y <;> first | rfl | (rcases h with h | h <;> exact absurd rfl (h _))
theorem cop_le : BinS G (cop B .le) (rI0 fun i j => .bl (decide (i ≤ j))) := cop_lt_s (fun _ _ => rfl) fun x y h => by
  cases x <;> cases y <;> first | rfl | (rcases h with h | h <;> exact absurd rfl (h _))
theorem cop_gt : BinS G (cop B .gt) (rI0 fun i j => .bl (decide (j < i))) := cop_lt_s (fun _ _ => rfl) fun x y h => by
  cases x <;> cases y <;> first | rfl | (rcases h with h | h <;> exact absurd rfl (h _))
theorem cop_ge : BinS G (cop B .ge) (rI0 fun i j => .bl (decide (j ≤ i))) := cop_lt_s (fun _ _ => rfl) fun x y h => by
  cases x <;> cases y <;> first | rfl | (rcases h with h | h <;> exact absurd rfl (h _))
def rIsP (neg : Bool) : R2 := fun x y H Q => (y = .non ∧ Q (.bl (if neg then !decide (x = .non) else decide (x = .non))) H) ∨ ∃ a b, x = .bl a ∧ y = .bl b ∧ Q (.bl (if neg then !decide (a = b) else decide (a = b))) H
theorem op_isP : OpR X (compareOp .Is) (rIsP false) := OpR.or op_isN op_is_bl
theorem op_isnotP : OpR X (compareOp .IsNot) (rIsP true) := OpR.or op_notN op_isnot_bl
theorem sn_non {H : L2.Hp} {Lv : Addr → Prop} {m : List Addr} {d : D} {v : V} (p : Sn G H Lv m d v) : decide (v = V.non) = decide (d = D.non) := by
  cases p <;> simp
theorem cop_is_s : BinS G (cop B .is) (rIsP false) := by
  intro m h H dx dy x y d Q r sz px py e q
  cases py with
  | non =>
    have e : some (D.bl (decide (dx = .non))) = some d := by cases dx <;> exact e
    cases e
    refine .inl ⟨rfl, ?_⟩
    rw [sn_non px]
    exact q m _ H .refl r (.bl _)
  | bl b => cases px with
    | bl a =>
      cases e
      refine .inr ⟨a, b, rfl, rfl, ?_⟩
      rw [show (if false = true then !decide (a = b) else decide (a = b)) = (a == b) by simp [Bool.beq_eq_decide_eq]]
      exact q m _ H .refl r (.bl _)
    | _ => cases e
  | _ => cases px <;> cases e
theorem cop_isnot_s : BinS G (cop B .isnot) (rIsP true) := by
  intro m h H dx dy x y d Q r sz px py e q
  cases py with
  | non =>
    have e : some (D.bl (decide (dx ≠ .non))) = some d := by cases dx <;> exact e
    cases e
    refine .inl ⟨rfl, ?_⟩
    rw [sn_non px, show (if true = true then !decide (dx = D.non) else decide (dx = D.non)) = decide (dx ≠ .non) by simp]
    exact q m _ H .refl r (.bl _)
  | bl b => cases px with
    | bl a =>
      cases e
      refine .inr ⟨a, b, rfl, rfl, ?_⟩
      rw [show (if true = true then !decide (a = b) else decide (a = b)) = (a != b) by simp [bne, Bool.beq_eq_decide_eq]]
      exact q m _ H .refl r (.bl _)
    | _ => cases e
  | _ => cases px <;> cases e

/-! ### keys of dicts -/
theorem keyOf_inj {a b : D} (ha : isKey a = true) (hb : isKey b = true) : keyOf a = keyOf b ↔ a = b := by
  cases a <;> cases b <;> simp_all [isKey, keyOf, str]
theorem val_get {H : L2.Hp} {Lv : Addr → Prop} {m : List Addr} {k : D} (hk : isKey k = true) : ∀ {l : List (D × D)} {kvs : List (Key × V)}, (∀ p ∈ l, isKey p.1 = true) → kvs.map (·.1) = l.map (fun p => keyOf p.1) → RepL G H Lv m (l.map (·.2)) (kvs.map (·.2)) →
    (dget l k = none ∧ valV kvs (keyOf k) = none) ∨ ∃ d v, dget l k = some d ∧ valV kvs (keyOf k) = some v ∧ Rep G H Lv m d v
  | [], [], _, _, _ => .inl ⟨rfl, rfl⟩
  | [], _ :: _, _, e, _ => by cases e
  | _ :: _, [], _, e, _ => by cases e
  | p :: l, q :: kvs, h1, e, r => by
    obtain ⟨e1, e2⟩ := List.cons.inj e
    have e1 : q.1 = keyOf p.1 := e1
    cases r with
    | cons r1 r2 =>
      by_cases z : p.1 = k
      · refine .inr ⟨p.2, q.2, ?_, ?_, r1⟩
        · simp [dget, List.find?_cons, z]
        · exact valV_pos (e1.trans (by rw [z]))
      · have z2 : ¬ q.1 = keyOf k := fun y => z ((keyOf_inj (h1 p (by simp)) hk).mp (e1.symm.trans y))
        rcases val_get hk (fun p hp => h1 p (by simp [hp])) e2 r2 with ⟨a, b⟩ | ⟨d, v, a, b, c⟩
        · refine .inl ⟨?_, by rw [valV_neg z2]; exact b⟩
          simpa [dget, List.find?_cons, z] using a
        · refine .inr ⟨d, v, ?_, by rw [valV_neg z2]; exact b, c⟩
          simpa [dget, List.find?_cons, z] using a
theorem key_v {H : L2.Hp} {Lv : Addr → Prop} {m : List Addr} {k : D} {v : V} (hk : isKey k = true) (r : Sn G H Lv m k v) : v = kV (keyOf k) := by
  cases r <;> first | rfl | (simp [isKey] at hk)
theorem isKey_sn {H : L2.Hp} {Lv : Addr → Prop} {m : List Addr} {h : Hs} {k : D} {v : V} (hk : isKey k = true) (r : Rep G H Lv m k v) : v = kV (keyOf k) := key_v hk r.sn
def rInP (K : PySem.W.Frag) (B : Nat) (neg : Bool) : R2 := fun x y H Q => (∃ (c : Nat) (z : Str), x = .str ⟨#[c]⟩ ∧ y = .str z ∧ Q (.bl (if neg then !decide (c ∈ z.cps.toList) else decide (c ∈ z.cps.toList))) H) ∨ rInF K B neg x y H Q ∨
  ∃ a o, y = .ref a ∧ DGet H a x o ∧ Q (.bl (if neg then !o.isSome else o.isSome)) H
theorem op_inP (hu : X.A.units + B + 1 < cLine) : OpR X (compareOp .In) (rInP X.K B false) := by
  refine OpR.or op_in_sign (OpR.or (op_inF (neg := false) hu) ?_)
  intro pins s σ H x y v u Q I rx ry h
  obtain ⟨a, o, rfl, g, q⟩ := h
  cases ry
  exact d_in (by omega) I g rx fun s' I' => ⟨.bl o.isSome, H, I', rfl, q⟩
theorem op_ninP (hu : X.A.units + B + 1 < cLine) : OpR X (compareOp .NotIn) (rInP X.K B true) := by
  refine OpR.or op_notIn_sign (OpR.or (op_inF (neg := true) hu) ?_)
  intro pins s σ H x y v u Q I rx ry h
  obtain ⟨a, o, rfl, g, q⟩ := h
  cases ry
  exact d_notIn (by omega) I g rx fun s' I' => ⟨.bl (!o.isSome), H, I', rfl, q⟩
theorem cop_in_s (neg : Bool) : BinS G (cop B (if neg then .nin else .inn)) (rInP G.K B neg) := by
  intro m h H dx dy x y d Q r sz px py e q
  cases py with
  | str z =>
    cases px with
    | str c =>
      cases c with
      | nil => cases neg <;> cases e
      | cons c t => cases t with
        | cons _ _ => cases neg <;> cases e
        | nil =>
          refine .inl ⟨c, str z, rfl, rfl, ?_⟩
          have : (str z).cps.toList = z := by show z.toArray.toList = z; simp
          rw [this]
          cases neg <;> (cases e; exact q m _ H .refl r (.bl _))
    | _ => cases neg <;> cases e
  | @tup l vs p s1 l1 =>
    refine .inr (.inl (in_seq px (.inr s1) l1 (d := d) ?_ fun b e => by subst e; exact q m _ H .refl r (.bl _)))
    cases neg <;> (cases dx with
      | str x => rcases x with _ | ⟨c, _ | ⟨_, _⟩⟩ <;> exact e
      | _ => exact e)
  | @lst l vs p s1 l1 =>
    refine .inr (.inl (in_seq px (.inl s1.sq) l1 (d := d) ?_ fun b e => by subst e; exact q m _ H .refl r (.bl _)))
    cases neg <;> (cases dx with
      | str x => rcases x with _ | ⟨c, _ | ⟨_, _⟩⟩ <;> exact e
      | _ => exact e)
  | @dct l kvs p s1 k1 k2 l1 =>
    refine .inr (.inr ?_)
    have e : (if isKey dx then some (D.bl (if neg then !(dget l dx).isSome else (dget l dx).isSome)) else none) = some d := by
      cases neg <;> (cases dx with
        | str x => rcases x with _ | ⟨c, _ | ⟨_, _⟩⟩ <;> exact e
        | _ => exact e)
    split at e
    · rename_i hk
      cases e
      refine ⟨p, valV kvs (keyOf dx), rfl, .inl ⟨kvs, keyOf dx, s1, key_v hk px, rfl⟩, ?_⟩
      have z := q m _ H .refl r (.bl _)
      rcases val_get hk k1 k2 l1 with ⟨a, b⟩ | ⟨d, v, a, b, c⟩
      · rw [a] at z; rw [b]; exact z
      · rw [a] at z; rw [b]; exact z
    · cases e
  | _ => cases neg <;> (cases px <;> first | (cases e; done) | (rename_i c; rcases c with _ | ⟨c, _ | ⟨_, _⟩⟩ <;> cases e))
end
end PV
set_option Elab.async false
set_option autoImplicit false
set_option maxRecDepth 100000
set_option maxHeartbeats 1000000
namespace PV
open PySem PySem.Spec PyProof.Rows L2
section
variable {X : Cx} {G : Gx} {C : Cl} {W : WX} {B : Nat}
/-! ### items -/
theorem ixN_eq (n : Nat) (i : Int) : PV.ixN n i = L2.ixN n i := rfl
theorem atI_rep {H : L2.Hp} {Lv : Addr → Prop} {m : List Addr} {l : List D} {vs : List V} {i : Int} {d : D} (r : RepL G H Lv m l vs) (e : PV.atI l i = some d) : ∃ v, L2.atI vs i = some v ∧ Rep G H Lv m d v := by
  unfold PV.atI at e
  unfold L2.atI
  rw [← r.length, ← ixN_eq]
  cases q : PV.ixN l.length i with
  | none => rw [q] at e; cases e
  | some j =>
    rw [q] at e
    obtain ⟨v, h1, h2⟩ := r.get (show l[j]? = some d from e)
    exact ⟨v, h1, h2⟩
def rItem (K : PySem.W.Frag) : R2 := fun x y H Q => rIx K x y H Q ∨ ∃ a v, x = .ref a ∧ DGet H a y (some v) ∧ Q v H
theorem ix_dict (hu : X.A.units + 1 < cLine) : IxR X (fun x y H Q => ∃ a v, x = .ref a ∧ DGet H a y (some v) ∧ Q v H) := by
  intro value slice pins s σ H x y v u Q I rx ry h hs
  obtain ⟨a, z, rfl, g, q⟩ := h
  cases rx
  exact tail_any (dict_typeIs I g) PySem.F.slot_dict_getitem.lookup (d_getItem hu I g ry fun w' s' I' rw' => ⟨z, H, I', rw', q⟩) hs
theorem ix_item (hu : X.A.units + 1 < cLine) : IxR X (rItem X.K) := IxR.or ix_seq (ix_dict hu)
theorem ixR_sized {r r' : R2} (hp : IxR X r) (k : ∀ x y H Q, Sized H → r' x y H Q → r x y H Q) : IxR X r' :=
  fun value slice pins s σ H x y v u Q I rx ry q hs => hp value slice pins s σ H x y v u Q I rx ry (k _ _ _ _ (Inv.sized I) q) hs
theorem item_bin : Bin G (fun h x y => item (vw h x) y) (rItem G.K) := by
  intro m h H dx dy x y d Q r sz px py e q
  have px := see r px
  have fin : ∀ v, Rep G H (Live G m h) m d v → Q v H := fun v p => q m v H .refl r p
  have e : item (vw h dx) dy = some d := e
  generalize vw h dx = dx at px e
  cases px with
  | @tup l vs p s1 l1 => cases py with
    | int i =>
      obtain ⟨v, h1, h2⟩ := atI_rep l1 (show PV.atI l i = some d from e)
      exact .inl (.inr (.inl ⟨p, vs, i, v, rfl, rfl, s1, h1, fin v h2⟩))
    | _ => cases e
  | @lst l vs p s1 l1 => cases py with
    | int i =>
      obtain ⟨v, h1, h2⟩ := atI_rep l1 (show PV.atI l i = some d from e)
      exact .inl (.inl ⟨p, vs, i, v, rfl, rfl, s1.sq, h1, fin v h2⟩)
    | _ => cases e
  | str z => cases py with
    | int i =>
      have e : (if okLen z then (PV.atI z i).map (fun c => D.str [c]) else none) = some d := e
      split at e
      · rename_i ol
        obtain ⟨c, h1, h2⟩ := Option.map_eq_some_iff.mp e
        subst h2
        refine .inl (.inr (.inr ⟨str z, i, c, rfl, rfl, by rw [str_length]; exact okLen_le ol, ?_, fin _ (.str [c])⟩))
        have : (str z).cps.toList = z := by show z.toArray.toList = z; simp
        rw [this]
        exact h1
      · cases e
    | _ => cases e
  | @dct l kvs p s1 k1 k2 l1 =>
    have e : (if isKey dy then dget l dy else none) = some d := by cases dy <;> exact e
    split at e
    · rename_i hk
      rcases val_get hk k1 k2 l1 with ⟨a, b⟩ | ⟨d', v, a, b, c⟩
      · rw [a] at e; cases e
      · rw [a] at e
        cases e
        exact .inr ⟨p, v, rfl, .inl ⟨kvs, keyOf dy, s1, isKey_sn (h := h) hk py, b.symm⟩, fin v c⟩
    · cases e
  | _ => cases e
def notSlice : Expr → Bool
  | .Slice _ _ _ _ => false
  | _ => true
theorem plainIx {b : Expr} (h : notSlice b = true) : PlainIx b := fun o i => by
  unfold subscripted
  cases b <;> first | rfl | (simp [notSlice] at h)
theorem se_idx {a b : Expr} {ea eb : E} {pos : Pos} (hu : X.A.units + 1 < cLine) (hK : X.K = G.K) (ha : SE X G C W a ea) (hb : SE X G C W b eb) (hs : notSlice b = true) : SE X G C W (.Subscript a b pos) (.idx ea eb) :=
  .plain (pe_of (pe_ix (ixR_sized (r' := fun x y H Q => Sized H → rItem X.K x y H Q) (ix_item hu) fun _ _ _ _ sz q => q sz) ha.pe hb.pe (plainIx hs)) (by rw [hK]; exact tE_bin item_bin fun _ _ => by simp only [evE])) rfl

/-! ### slices -/
theorem sIx_eq (n d : Nat) (o : Option Int) : PV.sIx n d o = HT.sIx n d o := by
  cases o <;> rfl
theorem cut_rep {H : L2.Hp} {Lv : Addr → Prop} {m : List Addr} {l : List D} {vs : List V} (r : RepL G H Lv m l vs) (lo hi : Option Int) : RepL G H Lv m (cut l lo hi) (cutV vs lo hi) := by
  unfold cut cutV
  rw [sIx_eq, sIx_eq, r.length]
  exact (r.drop _).take _
def rSlAll (K : PySem.W.Frag) : V → Option Int → Option Int → L2.Hp → VK → Prop := fun x lo hi H Q => rSlA K x lo hi H Q ∨ rSlL K x lo hi H Q ∨ (∃ z, x = .str z ∧ z.length ≤ sizeLine ∧ Q (.str (cutS z lo hi)) H)
end
end PV
set_option Elab.async false
set_option autoImplicit false
set_option maxRecDepth 100000
set_option maxHeartbeats 1000000
namespace PV
open PySem PySem.Spec PyProof.Rows L2
section
variable {X : Cx} {G : Gx} {C : Cl} {W : WX} {B : Nat}
theorem optInt_nil {l : List D} {o : Option Int} (e : optInt l = some o) : (l = [] ∧ o = none) ∨ ∃ i, l = [.int i] ∧ o = some i := by
  unfold optInt at e
  split at e
  · cases e; exact .inl ⟨rfl, rfl⟩
  · cases e; exact .inr ⟨_, rfl, rfl⟩
  · cases e
theorem optInt_rep {H : L2.Hp} {Lv : Addr → Prop} {m : List Addr} {dl : List D} {vl : List V} {o : Option Int} (rl : RepL G H Lv m dl vl) (e : optInt dl = some o) : (vl = [] ∧ o = none) ∨ ∃ i, vl = [.int i] ∧ o = some i := by
  rcases optInt_nil e with ⟨rfl, rfl⟩ | ⟨i, rfl, rfl⟩
  · cases rl; exact .inl ⟨rfl, rfl⟩
  · cases rl with
    | cons r t => cases t; cases r; exact .inr ⟨i, rfl, rfl⟩
/-- a part of a slice -/
structure SO (X : Cx) (G : Gx) (C : Cl) (W : WX) (e : Option Expr) (l : EL) : Prop where
  po : ∃ t : TO, PO X e t ∧ ∀ σ H Q, tL G C W l σ H (fun vs H1 => ∃ o, ((vs = [] ∧ o = none) ∨ ∃ i, vs = [.int i] ∧ o = some i) ∧ Q o H1) → t σ H Q
theorem so_none : SO X G C W none .nil := ⟨_, po_none, fun σ H Q ⟨m, h, ρ, st, ok⟩ => by
  obtain ⟨o, z, q⟩ := ok m [] H .refl st.rel .nil
  rcases z with ⟨_, rfl⟩ | ⟨i, z, _⟩
  · exact q
  · cases z⟩
theorem so_some {e : Expr} {c : E} (he : SE X G C W e c) : SO X G C W (some e) (.cons c .nil) := ⟨_, po_some he.pe, fun σ H Q ⟨m, h, ρ, st, ok⟩ => by
  simp only [evL] at ok
  refine tE_step st ok fun dx h1 m1 x H1 x1 r1 p1 st1 ok1 => ?_
  obtain ⟨o, z, q⟩ := ok1 m1 [x] H1 x1 r1 (.cons p1 .nil)
  rcases z with ⟨z, _⟩ | ⟨i, z, rfl⟩
  · cases z
  · cases z
    exact ⟨i, rfl, q⟩⟩
theorem slr_sized {r r' : V → Option Int → Option Int → L2.Hp → VK → Prop} (hp : SlR X r) (k : ∀ x lo hi H Q, Sized H → r' x lo hi H Q → r x lo hi H Q) : SlR X r' :=
  fun pins s σ H x v vl vu lo hi sl Q I rx hs pl pu q => hp pins s σ H x v vl vu lo hi sl Q I rx hs pl pu (k _ _ _ _ _ (Inv.sized I) q)
theorem sl_all : SlR X (rSlAll X.K) := SlR.or sl_tupA (SlR.or sl_list sl_str)
theorem slice_sn {m : List Addr} {h : Hs} {H : L2.Hp} {dx d : D} {x : V} {lo hi : Option Int} {Q : VK} (r : HRel G m h H) (px : Sn G H (Live G m h) m dx x) (e : slice lo hi dx = some d)
    (q : ∀ m' v H', Ext G m h H m' h H' → HRel G m' h H' → Rep G H' (Live G m' h) m' d v → Q v H') : rSlAll G.K x lo hi H Q := by
  cases px with
  | @tup l vs p s1 l1 =>
    cases e
    refine .inl ⟨p, vs, rfl, s1, fun z => ?_, fun z p2 hp => ?_⟩
    · have : cut l lo hi = l := by
        unfold cut
        rw [sIx_eq, sIx_eq, l1.length, z.1, z.2]
        simp [← l1.length]
      rw [this] at q
      exact q m _ H .refl r (kept_tup r s1 l1)
    · obtain ⟨n1, n2, n3⟩ := new_tup .refl r hp (cut_rep l1 lo hi)
      exact q m _ _ n1 n2 n3
  | @lst l vs p s1 l1 =>
    cases e
    refine .inr (.inl ⟨p, vs, rfl, s1.sq, fun p2 hp => ?_⟩)
    obtain ⟨n1, n2, n3⟩ := new_lst .refl r hp (cut_rep l1 lo hi)
    exact q m _ _ n1 n2 n3
  | str z =>
    have e : (if okLen z then some (D.str (cut z lo hi)) else none) = some d := e
    split at e
    · rename_i ol
      cases e
      refine .inr (.inr ⟨str z, rfl, by rw [str_length]; exact okLen_le ol, ?_⟩)
      have : cutS (str z) lo hi = str (cut z lo hi) := by
        unfold cutS cut
        rw [sIx_eq, sIx_eq, str_length]
        show (⟨_⟩ : Str) = ⟨_⟩
        simp [str]
      rw [this]
      exact q m _ H .refl r (.str _)
    · cases e
  | _ => cases e
theorem se_slc {a : Expr} {ea : E} {lo hi : Option Expr} {ll lh : EL} {p2 pos : Pos} (hK : X.K = G.K) (ha : SE X G C W a ea) (hl : SO X G C W lo ll) (hh : SO X G C W hi lh) : SE X G C W (.Subscript a (.Slice lo hi none p2) pos) (.slc ea ll lh) := by
  obtain ⟨tl, pl, kl⟩ := hl.po
  obtain ⟨th, ph, kh⟩ := hh.po
  refine .plain (pe_of (pe_slice (slr_sized (r' := fun x lo hi H Q => Sized H → rSlAll X.K x lo hi H Q) sl_all fun _ _ _ _ _ sz q => q sz) ha.pe pl ph) fun σ H Q ⟨m, h, ρ, st, ok⟩ => ?_) rfl
  simp only [evE] at ok
  refine tE_step st ok fun dx h1 m1 x H1 x1 r1 p1 st1 ok1 => ?_
  refine kl σ H1 _ ?_
  refine tL_step (m := m1) (h := h1) (H := H1) st1 (okX_later x1 ok1 fun _ _ q => q) fun dl h2 m2 vl H2 x2 r2 pl st2 ok2 => ?_
  obtain ⟨lo', el, ok2⟩ := okR_ofO (okR_then ok2)
  refine ⟨lo', optInt_rep pl el, kh σ H2 _ ?_⟩
  refine tL_step (m := m2) (h := h2) (H := H2) st2 (okX_later x2 ok2 fun _ _ q => q) fun dh h3 m3 vh H3 x3 r3 ph st3 ok3 => ?_
  obtain ⟨hi', eh, ok3⟩ := okR_ofO (okR_then ok3)
  refine ⟨hi', optInt_rep ph eh, fun sz => ?_⟩
  obtain ⟨d, e, q⟩ := okR_ofO ok3
  have px := see r3 (p1.mono (x2.trans x3))
  rw [hK]
  exact slice_sn r3 px e fun m' v H' y r p => q m' v H' (x1.trans (x2.trans (x3.trans y))) r p
end
end PV
set_option Elab.async false
set_option autoImplicit false
set_option maxRecDepth 100000
set_option maxHeartbeats 1000000
namespace PV
open PySem PySem.Spec PyProof.Rows L2
def Cal (G : Gx) (C : Cl) (b : Blt) (r : List V → L2.Hp → VK → Prop) : Prop := ∀ m h H ds vs d (Q : VK), HRel G m h H → Sized H → RepL G H (Live G m h) m ds vs → blt C.bd h b ds = some d →
  (∀ m' v H', Ext G m h H m' h H' → HRel G m' h H' → Rep G H' (Live G m' h) m' d v → Q v H') → r vs H Q
section
variable {X : Cx} {G : Gx} {C : Cl} {W : WX} {b : Blt} {r : List V → L2.Hp → VK → Prop} {e : Expr} {es : List Expr} {l : EL} {x : Str} {p pos : Pos} {id T : String}
theorem callR_sized {f : Value} {r r' : List V → L2.Hp → VK → Prop} (hp : CallR X f r) (k : ∀ xs H Q, Sized H → r' xs H Q → r xs H Q) : CallR X f r' :=
  fun pins s σ H xs us Q I rv q => hp pins s σ H xs us Q I rv (k _ _ _ (Inv.sized I) q)
theorem tE_cal (hc : Cal G C b r) : ∀ σ H Q, tE G C W (.blt b l) σ H Q → tCB (fun vs H Q => Sized H → r vs H Q) (tL G C W l) σ H Q := fun σ H Q ⟨m, h, ρ, st, ok⟩ => by
  simp only [evE] at ok
  refine tL_step st ok fun ds h1 m1 vs H1 x1 r1 p1 st1 ok1 sz => ?_
  obtain ⟨d, e, q⟩ := okR_ofO ok1
  exact hc m1 h1 H1 ds vs d Q r1 sz p1 e fun m' v H' y r p => q m' v H' (x1.trans y) r p
theorem backTo_any {pos : Pos} {es : List Expr} {env : PySem.Env} (h : ∀ e ∈ es, starred e = false) : (backTo pos (starEach es env)).any (·.1) = false := by
  unfold backTo
  rw [List.any_map]
  exact starEach_any (env := env) h
theorem se_bltB (hR : CallR X (.builtin id) r) (hg : Gl X x) (hm : X.mg x = none) (hv : bootBuiltins x = some (.builtin id)) (hs : SA X G C W (e :: es) l) (hn : x ≠ "__name__") (hd : (x == ("__debug__" : Str)) = false) (hc : Cal G C b r) :
    SE X G C W (.Call (.Name x p) (e :: es) [] pos) (.blt b l) :=
  .plain (pe_of (pe_callB (callR_sized hR fun _ _ _ sz q => q sz) hg hm hv hs.pa hn hd (starEach_cons (hs.st e (by simp)))
    (backTo_any fun e' he => hs.st e' (by simp [he]))) (tE_cal hc)) rfl
theorem se_bltT (hR : CallR X (.type T) r) (hg : Gl X x) (hm : X.mg x = none) (hv : bootBuiltins x = some (.type T)) (hs : SA X G C W (e :: es) l) (hn : x ≠ "__name__") (hd : (x == ("__debug__" : Str)) = false) (hc : Cal G C b r) :
    SE X G C W (.Call (.Name x p) (e :: es) [] pos) (.blt b l) :=
  .plain (pe_of (pe_callTy (callR_sized hR fun _ _ _ sz q => q sz) hg hm hv hs.pa hn hd (starEach_cons (hs.st e (by simp)))
    (backTo_any fun e' he => hs.st e' (by simp [he]))) (tE_cal hc)) rfl

/-! ### len -/
def rLenP (K : PySem.W.Frag) : List V → L2.Hp → VK → Prop := fun xs H Q => (∃ p ys, xs = [.ref p] ∧ (SqL K H p ys ∨ SqT K H p ys) ∧ Q (.int ys.length) H) ∨ (∃ z, xs = [.str z] ∧ z.length ≤ sizeLine ∧ Q (.int z.length) H) ∨
  ∃ a kvs, xs = [V.ref a] ∧ Rd H a (.dK kvs) ∧ Q (.int kvs.length) H
theorem call_lenP : CallR X (.builtin "len") (rLenP X.K) := by
  refine CallR.or call_len_seq (CallR.or call_len_str ?_)
  intro pins s σ H xs us Q I rv h
  obtain ⟨a, kvs, rfl, e, q⟩ := h
  obtain ⟨u, rfl, ru⟩ := vals1 rv
  cases ru
  exact d_len I e fun t s' I' => ⟨.int kvs.length, H, I', ⟨t, rfl⟩, q⟩
theorem RepL.one {H : L2.Hp} {Lv : Addr → Prop} {m : List Addr} {d : D} {vs : List V} (r : RepL G H Lv m [d] vs) : ∃ v, vs = [v] ∧ Rep G H Lv m d v := by
  cases r with
  | cons r t => cases t; exact ⟨_, rfl, r⟩
theorem RepL.two {H : L2.Hp} {Lv : Addr → Prop} {m : List Addr} {d e : D} {vs : List V} (r : RepL G H Lv m [d, e] vs) : ∃ v u, vs = [v, u] ∧ Rep G H Lv m d v ∧ Rep G H Lv m e u := by
  cases r with
  | cons r t => cases t with
    | cons r' t => cases t; exact ⟨_, _, rfl, r, r'⟩
theorem blt_one {B : Nat} {h : Hs} {ds : List D} {d : D} (hb : ∀ l, l.length ≠ 1 → blt B h b l = none) (e : blt B h b ds = some d) : ∃ x, ds = [x] := by
  match ds with
  | [x] => exact ⟨x, rfl⟩
  | [] => rw [hb _ (by simp)] at e; cases e
  | _ :: _ :: _ => rw [hb _ (by simp)] at e; cases e
theorem keys_len {l : List (D × D)} {kvs : List (Key × V)} (k : kvs.map (·.1) = l.map (fun p => keyOf p.1)) : kvs.length = l.length := by
  have := congrArg List.length k
  simpa using this
theorem cal_len : Cal G C .len (rLenP G.K) := by
  intro m h H ds vs d Q r sz rl e q
  obtain ⟨x, rfl⟩ := blt_one (b := .len) (fun l hl => by
    match l with
    | [] => rfl
    | [_] => simp at hl
    | _ :: _ :: _ => rfl) e
  obtain ⟨v, rfl, rx⟩ := rl.one
  have px := see r rx
  simp only [blt] at e
  have fin : ∀ i, d = .int i → Q (.int i) H := fun i ei => by subst ei; exact q m _ H .refl r (.int i)
  generalize vw h x = y at px e
  cases px with
  | @tup l vs p s1 l1 => cases e; exact .inl ⟨p, vs, rfl, .inr s1, by rw [← l1.length]; exact fin _ rfl⟩
  | @lst l vs p s1 l1 => cases e; exact .inl ⟨p, vs, rfl, .inl s1.sq, by rw [← l1.length]; exact fin _ rfl⟩
  | @dct l kvs p s1 k1 k2 l1 => cases e; exact .inr (.inr ⟨p, kvs, rfl, s1, by rw [keys_len k2]; exact fin _ rfl⟩)
  | str z =>
    have e : (if okLen z then some (D.int z.length) else none) = some d := e
    split at e
    · rename_i ol
      cases e
      exact .inr (.inl ⟨_, rfl, by rw [str_length]; exact okLen_le ol, by rw [str_length]; exact fin _ rfl⟩)
    · cases e
  | _ => cases e

/-! ### isinstance -/
def tyName : Ty → String
  | .tuple => "tuple"
  | .str => "str"
  | .int => "int"
  | .bool => "bool"
  | .list => "list"
  | .dict => "dict"
theorem tyX_seqT {K : PySem.W.Frag} {H : L2.Hp} {a : Addr} {vs : List V} (s : SqT K H a vs) : TyX K H (.ref a) (.type "tuple") := by
  rcases s with (s | ⟨o, s⟩) | ⟨o, its, n, h1, h2, _⟩
  · exact .base (.tup s)
  · exact .fTuple s
  · exact .kTuple h1 h2
theorem tyX_lst {K : PySem.W.Frag} {H : L2.Hp} {a : Addr} {vs : List V} (s : LsR K H a vs) : TyX K H (.ref a) (.type "list") := by
  rcases s with (s | ⟨o, s⟩) | ⟨its, n, e, _, _⟩
  · exact .base (.lst s)
  · exact .base (.frz s)
  · exact .kList e rfl
theorem tyX_dct {K : PySem.W.Frag} {H : L2.Hp} {a : Addr} {vs : List (Key × V)} (s : Rd H a (.dK vs)) : TyX K H (.ref a) (.type "dict") := by
  rcases s with s | ⟨o, s⟩
  · exact .base (.dK s)
  · exact .fDict s
theorem isi_of {K : PySem.W.Frag} {T U : String} {b' : Bool} (h : kitB T U = some b') : PySem.W.kitOne K (.type T) (.type U) = some b' := kit_ty h
set_option maxRecDepth 1000000 in
theorem tyOf_sn {m : List Addr} {h : Hs} {H : L2.Hp} {t : Ty} {x : D} {v : V} {c : Bool} (px : Sn G H (Live G m h) m x v) (e : tyOf t x = some c) : ∃ u, TyX G.K H v u ∧ PySem.W.kitOne G.K u (.type (tyName t)) = some c := by
  cases px with
  | non => refine ⟨_, .base .non, ?_⟩; cases t <;> (cases e; exact isi_of (by decide +kernel))
  | bl z => refine ⟨_, .base (.bl z), ?_⟩; cases t <;> (cases e; exact isi_of (by decide +kernel))
  | int z => refine ⟨_, .base (.int z), ?_⟩; cases t <;> (cases e; exact isi_of (by decide +kernel))
  | str z => refine ⟨_, .base (.str _), ?_⟩; cases t <;> (cases e; exact isi_of (by decide +kernel))
  | tup s1 l1 => refine ⟨_, tyX_seqT s1, ?_⟩; cases t <;> (cases e; exact isi_of (by decide +kernel))
  | lst s1 l1 => refine ⟨_, tyX_lst s1, ?_⟩; cases t <;> (cases e; exact isi_of (by decide +kernel))
  | dct s1 k1 k2 l1 => refine ⟨_, tyX_dct s1, ?_⟩; cases t <;> (cases e; exact isi_of (by decide +kernel))
  | _ => cases t <;> cases e
theorem se_isin {t : Ty} {a : Expr} {ea : E} {y : Str} {py : Pos} (hg : Gl X "isinstance") (hm : X.mg "isinstance" = none) (ha : SE X G C W a ea) (hst : starred a = false) (hK : X.K = G.K) (hgy : Gl X y) (hmy : X.mg y = none)
    (hvy : bootBuiltins y = some (.type (tyName t))) (hny : y ≠ "__name__") (hdy : (y == ("__debug__" : Str)) = false) :
    SE X G C W (.Call (.Name "isinstance" p) [a, .Name y py] [] pos) (.blt (.isin t) (.cons ea .nil)) := by
  refine .plain (pe_of (pe_callB call_isi hg hm PyProof.Rows.boot_isinstance (pa_cons ha.pe (pa_cons (pe_bltn (v := .ty (tyName t)) hgy hmy hvy rfl hny hdy) pa_nil) (starEach_cons hst)) (by decide) (by decide) (starEach_cons hst) rfl) fun σ H Q ⟨m, h, ρ, st, ok⟩ => ?_) rfl
  simp only [evE, evL] at ok
  refine tE_step st (okR_then ok) fun dx h1 m1 x H1 x1 r1 p1 st1 ok1 => ?_
  obtain ⟨d, e, q⟩ := okR_ofO ok1
  obtain ⟨c, e1, e2⟩ := Option.map_eq_some_iff.mp (show (tyOf t (vw h1 dx)).map D.bl = some d from e)
  obtain ⟨u, k1, k2⟩ := tyOf_sn (see r1 p1) e1
  rw [← hK] at k1 k2
  subst e2
  exact ⟨x, .ty (tyName t), u, .type (tyName t), c, rfl, .ty _, k1, k2, q m1 _ H1 x1 r1 (.bl c)⟩
end
end PV
set_option Elab.async false
set_option autoImplicit false
set_option maxRecDepth 100000
set_option maxHeartbeats 1000000
namespace PV
open PySem PySem.Spec PyProof.Rows L2
section
variable {X : Cx} {G : Gx} {C : Cl} {W : WX} {b : Blt}
theorem cal_int : Cal G C .int (fun xs H Q => (∃ i, xs = [.int i] ∧ Q (.int i) H) ∨ ∃ k, xs = [.bl k] ∧ Q (.int (if k then 1 else 0)) H) := by
  intro m h H ds vs d Q r sz rl e q
  match ds, e with
  | [.bl b], e =>
    cases e
    obtain ⟨v, rfl, rx⟩ := rl.one
    cases rx
    exact .inr ⟨b, rfl, q m _ H .refl r (.int _)⟩
  | [.int b], e =>
    cases e
    obtain ⟨v, rfl, rx⟩ := rl.one
    cases rx
    exact .inl ⟨b, rfl, q m _ H .refl r (.int _)⟩
theorem cal_abs : Cal G C .abs (fun xs H Q => ∃ i, xs = [.int i] ∧ Q (.int (if i < 0 then -i else i)) H) := by
  intro m h H ds vs d Q r sz rl e q
  match ds, e with
  | [.int i], e =>
    cases e
    obtain ⟨v, rfl, rx⟩ := rl.one
    cases rx
    refine ⟨i, rfl, ?_⟩
    have : (if i < 0 then -i else i) = (i.natAbs : Int) := by split <;> omega
    rw [this]
    exact q m _ H .refl r (.int _)
theorem cal_max2 : Cal G C .max2 (fun xs H Q => ∃ i j, xs = [.int i, .int j] ∧ Q (.int (if j > i then j else i)) H) := by
  intro m h H ds vs d Q r sz rl e q
  match ds, e with
  | [.int i, .int j], e =>
    cases e
    obtain ⟨v, u, rfl, rx, ry⟩ := rl.two
    cases rx
    cases ry
    exact ⟨i, j, rfl, q m _ H .refl r (.int _)⟩
theorem cal_min2 : Cal G C .min2 (fun xs H Q => ∃ i j, xs = [.int i, .int j] ∧ Q (.int (if j < i then j else i)) H) := by
  intro m h H ds vs d Q r sz rl e q
  match ds, e with
  | [.int i, .int j], e =>
    cases e
    obtain ⟨v, u, rfl, rx, ry⟩ := rl.two
    cases rx
    cases ry
    exact ⟨i, j, rfl, q m _ H .refl r (.int _)⟩
theorem cal_tuple : Cal G C .tuple (fun xs H Q => ∃ p ys, xs = [.ref p] ∧ ((SqL G.K H p ys ∧ ∀ l, H l = none → Q (.ref l) (upd H l (.tup ys))) ∨ (SqT G.K H p ys ∧ Q (.ref p) H))) := by
  intro m h H ds vs d Q r sz rl e q
  obtain ⟨x, rfl⟩ := blt_one (b := .tuple) (fun l hl => by
    match l with
    | [] => rfl
    | [_] => simp at hl
    | _ :: _ :: _ => rfl) e
  obtain ⟨v, rfl, rx⟩ := rl.one
  have px := see r rx
  simp only [blt] at e
  generalize vw h x = y at px e
  cases px with
  | @tup l vs p s1 l1 => cases e; exact ⟨p, vs, rfl, .inr ⟨s1, q m _ H .refl r (kept_tup r s1 l1)⟩⟩
  | @lst l vs p s1 l1 =>
    cases e
    refine ⟨p, vs, rfl, .inl ⟨s1.sq, fun p2 hp => ?_⟩⟩
    obtain ⟨n1, n2, n3⟩ := new_tup .refl r hp l1
    exact q m _ _ n1 n2 n3
  | _ => cases e
def rListP (K : PySem.W.Frag) : List V → L2.Hp → VK → Prop := fun xs H Q => (∃ p ys, xs = [.ref p] ∧ (SqL K H p ys ∨ SqT K H p ys) ∧ ∀ l, H l = none → Q (.ref l) (upd H l (.lst ys))) ∨
  ∃ (a : Addr) (kvs : List (Key × V)), xs = [.ref a] ∧ Rd H a (.dK kvs) ∧ ∀ p, H p = none → Q (.ref p) (upd H p (.lst (kvs.map fun kv => kV kv.1)))
theorem call_listP (hc : X.calm = true) : CallR X (.type "list") (rListP X.K) := CallR.or call_list_of (call_listD hc)
theorem rep_keys {H : L2.Hp} {Lv : Addr → Prop} {m : List Addr} : ∀ {l : List (D × D)} {kvs : List (Key × V)}, (∀ p ∈ l, isKey p.1 = true) → kvs.map (·.1) = l.map (fun p => keyOf p.1) → RepL G H Lv m (l.map (·.1)) (kvs.map fun kv => kV kv.1)
  | [], [], _, _ => .nil
  | [], _ :: _, _, e => by cases e
  | _ :: _, [], _, e => by cases e
  | p :: l, q :: kvs, h1, e => by
    obtain ⟨e1, e2⟩ := List.cons.inj e
    have e1 : q.1 = keyOf p.1 := e1
    refine .cons ?_ (rep_keys (fun p hp => h1 p (by simp [hp])) e2)
    have z := h1 p (by simp)
    show Rep G H Lv m p.1 (kV q.1)
    rw [e1]
    generalize p.1 = k at z
    cases k with
    | int i => exact .int i
    | str x => exact .str x
    | _ => simp [isKey] at z
theorem cal_list : Cal G C .list (rListP G.K) := by
  intro m h H ds vs d Q r sz rl e q
  obtain ⟨x, rfl⟩ := blt_one (b := .list) (fun l hl => by
    match l with
    | [] => rfl
    | [_] => simp at hl
    | _ :: _ :: _ => rfl) e
  obtain ⟨v, rfl, rx⟩ := rl.one
  have px := see r rx
  simp only [blt] at e
  generalize vw h x = y at px e
  cases px with
  | @tup l vs p s1 l1 =>
    cases e
    refine .inl ⟨p, vs, rfl, .inr s1, fun p2 hp => ?_⟩
    obtain ⟨n1, n2, n3⟩ := new_lst .refl r hp l1
    exact q m _ _ n1 n2 n3
  | @lst l vs p s1 l1 =>
    cases e
    refine .inl ⟨p, vs, rfl, .inl s1.sq, fun p2 hp => ?_⟩
    obtain ⟨n1, n2, n3⟩ := new_lst .refl r hp l1
    exact q m _ _ n1 n2 n3
  | @dct l kvs p s1 k1 k2 l1 =>
    cases e
    refine .inr ⟨p, kvs, rfl, s1, fun p2 hp => ?_⟩
    obtain ⟨n1, n2, n3⟩ := new_lst .refl r hp (rep_keys k1 k2)
    exact q m _ _ n1 n2 n3
  | _ => cases e
theorem new_dct {m m0 : List Addr} {h h0 : Hs} {H H0 : L2.Hp} {l : List (D × D)} {kvs : List (Key × V)} {p : Addr} (x : Ext G m0 h0 H0 m h H) (r : HRel G m h H) (hp : H p = none) (k1 : ∀ p ∈ l, isKey p.1 = true) (k2 : kvs.map (·.1) = l.map (fun p => keyOf p.1)) (q : RepL G H (Live G m h) m (l.map (·.2)) (kvs.map (·.2))) :
    Ext G m0 h0 H0 m h (upd H p (.dK kvs)) ∧ HRel G m h (upd H p (.dK kvs)) ∧ Rep G (upd H p (.dK kvs)) (Live G m h) m (.dct l) (.ref p) :=
  ⟨x.trans (Ext.new r hp), r.new hp, .dct (.inl upd_same) (fun z => r.ne z hp) k1 k2 (q.mono (Ext.new r hp))⟩
theorem cal_dict : Cal G C .dict (fun xs H Q => ∃ (a : Addr) (kvs : List (Key × V)), xs = [.ref a] ∧ Rd H a (.dK kvs) ∧ ∀ p, H p = none → Q (.ref p) (upd H p (.dK kvs))) := by
  intro m h H ds vs d Q r sz rl e q
  obtain ⟨x, rfl⟩ := blt_one (b := .dict) (fun l hl => by
    match l with
    | [] => rfl
    | [_] => simp at hl
    | _ :: _ :: _ => rfl) e
  obtain ⟨v, rfl, rx⟩ := rl.one
  have px := see r rx
  simp only [blt] at e
  generalize vw h x = y at px e
  cases px with
  | @dct l kvs p s1 k1 k2 l1 =>
    cases e
    refine ⟨p, kvs, rfl, s1, fun p2 hp => ?_⟩
    obtain ⟨n1, n2, n3⟩ := new_dct .refl r hp k1 k2 l1
    exact q m _ _ n1 n2 n3
  | _ => cases e
theorem rep_bls {H : L2.Hp} {Lv : Addr → Prop} {m : List Addr} : ∀ {l : List D} {vs : List V} {bs : List Bool}, RepL G H Lv m l vs → allBl l = some bs → vs = bs.map V.bl
  | [], _, _, .nil, e => by cases e; rfl
  | d :: l, _, bs, .cons r t, e => by
    cases d with
    | bl b =>
      obtain ⟨bs', h1, h2⟩ := Option.map_eq_some_iff.mp (show (allBl l).map (b :: ·) = some bs from e)
      subst h2
      cases r
      rw [rep_bls t h1]
      rfl
    | _ => cases e
theorem rep_ints {H : L2.Hp} {Lv : Addr → Prop} {m : List Addr} : ∀ {l : List D} {vs : List V} {bs : List Int}, RepL G H Lv m l vs → allInt l = some bs → vs = bs.map V.int
  | [], _, _, .nil, e => by cases e; rfl
  | d :: l, _, bs, .cons r t, e => by
    cases d with
    | int b =>
      obtain ⟨bs', h1, h2⟩ := Option.map_eq_some_iff.mp (show (allInt l).map (b :: ·) = some bs from e)
      subst h2
      cases r
      rw [rep_ints t h1]
      rfl
    | _ => cases e
theorem rep_strs {H : L2.Hp} {Lv : Addr → Prop} {m : List Addr} : ∀ {l : List D} {vs : List V} {bs : List Cs}, RepL G H Lv m l vs → allStr l = some bs → vs = (bs.map str).map V.str
  | [], _, _, .nil, e => by cases e; rfl
  | d :: l, _, bs, .cons r t, e => by
    cases d with
    | str b =>
      obtain ⟨bs', h1, h2⟩ := Option.map_eq_some_iff.mp (show (allStr l).map (b :: ·) = some bs from e)
      subst h2
      cases r
      rw [rep_strs t h1]
      rfl
    | _ => cases e
theorem cal_all : Cal G C .all (rAll G.K) := by
  intro m h H ds vs d Q r sz rl e q
  obtain ⟨x, rfl⟩ := blt_one (b := .all) (fun l hl => by
    match l with
    | [] => rfl
    | [_] => simp at hl
    | _ :: _ :: _ => rfl) e
  obtain ⟨v, rfl, rx⟩ := rl.one
  have px := see r rx
  simp only [blt] at e
  generalize vw h x = y at px e
  cases px with
  | @lst l vs p s1 l1 =>
    obtain ⟨bs, e1, e2⟩ := Option.map_eq_some_iff.mp (show (allBl l).map (fun l => D.bl (l.all id)) = some d from e)
    subst e2
    exact ⟨p, bs, rfl, by rw [← rep_bls l1 e1]; exact s1.sq, q m _ H .refl r (.bl _)⟩
  | _ => cases e
theorem cal_any : Cal G C .any (rAny G.K) := by
  intro m h H ds vs d Q r sz rl e q
  obtain ⟨x, rfl⟩ := blt_one (b := .any) (fun l hl => by
    match l with
    | [] => rfl
    | [_] => simp at hl
    | _ :: _ :: _ => rfl) e
  obtain ⟨v, rfl, rx⟩ := rl.one
  have px := see r rx
  simp only [blt] at e
  generalize vw h x = y at px e
  cases px with
  | @lst l vs p s1 l1 =>
    obtain ⟨bs, e1, e2⟩ := Option.map_eq_some_iff.mp (show (allBl l).map (fun l => D.bl (l.any id)) = some d from e)
    subst e2
    exact ⟨p, bs, rfl, by rw [← rep_bls l1 e1]; exact s1.sq, q m _ H .refl r (.bl _)⟩
  | _ => cases e
theorem cal_sum : Cal G C .sum (rSum G.K) := by
  intro m h H ds vs d Q r sz rl e q
  obtain ⟨x, rfl⟩ := blt_one (b := .sum) (fun l hl => by
    match l with
    | [] => rfl
    | [_] => simp at hl
    | _ :: _ :: _ => rfl) e
  obtain ⟨v, rfl, rx⟩ := rl.one
  have px := see r rx
  simp only [blt] at e
  generalize vw h x = y at px e
  cases px with
  | @lst l vs p s1 l1 =>
    obtain ⟨bs, e1, e2⟩ := Option.map_eq_some_iff.mp (show (allInt l).map (fun l => D.int l.sum) = some d from e)
    subst e2
    exact ⟨p, bs, rfl, by rw [← rep_ints l1 e1]; exact s1.sq, q m _ H .refl r (.int _)⟩
  | _ => cases e
/-! ### repr -/
/-- a scalar as written data -/
inductive ScD : V → PyData → Prop
  | non : ScD .non .none
  | bl (b : Bool) : ScD (.bl b) (.bool b)
  | int (i : Int) : ScD (.int i) (.int i)
  | str (x : Str) : ScD (.str x) (.str x)
inductive KD : List (Key × V) → List (PyData × PyData) → Prop
  | nil : KD [] []
  | cons {z v d kvs pk} : ScD v d → KD kvs pk → KD ((.inr z, v) :: kvs) ((.str z, d) :: pk)
theorem ScD.reads {h : Heap} {v : V} {d : PyData} {u : Value} (s : ScD v d) (r : RelV v u) : Reads h u d [] := by
  cases s with
  | non =>
    obtain rfl : u = Value.none := r
    exact .none
  | bl b =>
    obtain rfl : u = Value.bool b := r
    exact .bool b
  | int i =>
    obtain ⟨t, rfl⟩ := (show ∃ t, u = Value.int i t from r)
    exact .int i t
  | str x =>
    obtain ⟨t, rfl⟩ := (show ∃ t, u = Value.str x t from r)
    exact .str x t
theorem kd_reads {P : Program} {w : World} {h : Heap} : ∀ {kvs : List (Key × V)} {pk : List (PyData × PyData)} {vs : List (Key × Value)} {es : List DictEntry}, KD kvs pk → KV kvs vs → Pairs (mixKind P w) es vs →
    ReadsAll h (es.map (·.key)) (pk.map (·.1)) [] ∧ ReadsAll h (es.map (·.val)) (pk.map (·.2)) []
  | _, _, _, _, .nil, .nil, .nil => ⟨.nil, .nil⟩
  | _, _, _, _, .cons (z := z) s t, .cons r1 r2, .cons k1 k2 k3 => by
    obtain ⟨q1, q2⟩ := kd_reads t r2 k3
    obtain ⟨e1, e2⟩ := r1
    rw [← e1] at k1
    have k1 : keyIs (.inr z) _ = true := k1
    rcases keyIs_shape k1 with ⟨i, t, a, b⟩ | ⟨x, t, a, b⟩
    · cases a
    · cases a
      refine ⟨?_, ?_⟩
      · rw [List.map_cons, List.map_cons, b]
        exact .cons (as := []) (bs := []) (.str _ t) q1
      · rw [List.map_cons, List.map_cons, k2]
        exact .cons (as := []) (bs := []) (s.reads e2) q2
def DpK (H : L2.Hp) (x : V) (d : PyData) : Prop := ∃ a kvs pk, x = .ref a ∧ Rd H a (.dK kvs) ∧ d = .dict pk ∧ KD kvs pk
def rRepr (K : PySem.W.Frag) (B : Nat) : List V → L2.Hp → VK → Prop := fun xs H Q => ∃ x d, xs = [x] ∧ ((Dp K H x d ∧ d.canLay0 = true) ∨ DpK H x d) ∧ d.showable = true ∧ d.shown.length ≤ sizeLine ∧ d.depth ≤ B ∧ Q (.str d.shown) H
theorem call_reprP {B : Nat} (hu : X.A.units + B + 1 < cLine) (hg : X.A.guards = some []) : CallR X (.builtin "repr") (rRepr X.K B) := by
  intro pins s σ H xs us Q I rv h
  obtain ⟨x, d, rfl, dp, sh, sz, dd, q⟩ := h
  obtain ⟨u, rfl, ru⟩ := vals1 rv
  rcases dp with ⟨dp, lay⟩ | ⟨a, kvs, pk, rfl, ra, rfl, kd⟩
  case inr =>
    obtain rfl : u = Value.ref a := ru
    obtain ⟨_, hsys, vs, kv, o, es, ep, ho, hx, hdt, _, pr, _⟩ := (show ObjOk X.prog X.w H s.heap a (.dK kvs) from Rd.ok ra I.hok)
    obtain ⟨r1, r2⟩ := kd_reads (h := s.heap) kd kv pr
    refine PySem.repr_of_reads' (Reads.dict ho hx.1 hdt r1 r2) sh (fun _ hm => ?_) hg (by omega) (fun _ _ e => e) (fun h' u tk hk => ⟨.str _, H, I.kept hk, ⟨_, rfl⟩, q⟩) sz
    simp only [List.append_nil, List.mem_singleton] at hm
    rw [hm] at hsys
    simp at hsys
  obtain ⟨as, rd⟩ := Dp.reads I d x u dp ru
  cases rd with
  | none => exact PySem.P.repr_of_none ⟨.str (PyData.shown .none), H, I.tok _, by simp only [PyData.shown]; exact ⟨_, rfl⟩, q⟩
  | bool b => exact PySem.P.repr_of_bool ⟨.str (PyData.shown (.bool b)), H, I.tok _, by simp only [PyData.shown]; exact ⟨_, rfl⟩, q⟩
  | int i t => exact PySem.P.repr_of_int (by simpa [PyData.showable] using sh) ⟨.str (PyData.shown (.int i)), H, I.tok _, by simp only [PyData.shown]; exact ⟨_, rfl⟩, q⟩
  | str y t =>
    simp only [PyData.shown] at sz q
    exact PySem.P.repr_of_str ⟨.str (reprText y), H, I.tok _, ⟨_, rfl⟩, q⟩ sz
  | list h1 h2 h3 h4 =>
    exact PySem.repr_of_reads' (.list h1 h2 h3 h4) sh (PyData.noDict_hsm (PyData.hasDict_of_canLay _ lay)) hg (by omega) (fun _ _ e => e) (fun h' u tk hk => ⟨.str _, H, I.kept hk, ⟨_, rfl⟩, q⟩) sz
  | tuple h1 h2 h3 h4 =>
    exact PySem.repr_of_reads' (.tuple h1 h2 h3 h4) sh (PyData.noDict_hsm (PyData.hasDict_of_canLay _ lay)) hg (by omega) (fun _ _ e => e) (fun h' u tk hk => ⟨.str _, H, I.kept hk, ⟨_, rfl⟩, q⟩) sz
  | dict h1 h2 h3 h4 h5 => simp [PyData.canLay0] at lay
theorem scal_sn {H : L2.Hp} {Lv : Addr → Prop} {m : List Addr} {d : D} {v : V} (r : Rep G H Lv m d v) (z : scalF d = true) : ScD v d.py ∧ d.py.depth = 0 := by
  cases r <;> first | exact ⟨.non, by simp [D.py, PyData.depth]⟩ | exact ⟨.bl _, by simp [D.py, PyData.depth]⟩ | exact ⟨.int _, by simp [D.py, PyData.depth]⟩ | exact ⟨.str _, by simp [D.py, PyData.depth]⟩ | (simp [scalF] at z)
theorem sn_dpK {H : L2.Hp} {Lv : Addr → Prop} {m : List Addr} {y : D} {v : V} {B : Nat} (px : Sn G H Lv m y v) (z : dctFlat y = true) (hB : 300 ≤ B) : ((Dp G.K H v y.py ∧ y.py.canLay0 = true) ∨ DpK H v y.py) ∧ y.py.depth ≤ B := by
  cases px with
  | @dct l kvs p s1 k1 k2 l1 =>
    have key : ∀ (l : List (D × D)) (kvs : List (Key × V)), (l.all fun p => (match p.1 with
        | .str _ => true
        | _ => false) && (scalF p.1 && scalF p.2)) = true → kvs.map (·.1) = l.map (fun p => keyOf p.1) → RepL G H Lv m (l.map (·.2)) (kvs.map (·.2)) → KD kvs (D.pyP l) ∧ PyData.depthKv (D.pyP l) = 0 := by
      intro l
      induction l with
      | nil =>
        intro kvs _ e _
        cases kvs with
        | nil => exact ⟨.nil, by simp [D.pyP, PyData.depthKv]⟩
        | cons _ _ => simp at e
      | cons q l ih =>
        intro kvs z e r
        cases kvs with
        | nil => simp at e
        | cons kv kvs =>
          obtain ⟨k, v⟩ := kv
          obtain ⟨a, b⟩ := q
          simp only [List.all_cons, Bool.and_eq_true] at z
          simp only [List.map_cons, List.cons.injEq] at e
          simp only [List.map_cons] at r
          cases r with
          | cons r1 r2 =>
            obtain ⟨h1, h2⟩ := ih kvs z.2 e.2 r2
            obtain ⟨s1, s2⟩ := scal_sn r1 z.1.2.2
            cases a with
            | str x =>
              obtain ⟨rfl, _⟩ := e
              refine ⟨?_, by simp [D.pyP, PyData.depthKv, D.py, PyData.depth, s2, h2]⟩
              simp only [D.pyP]
              exact .cons s1 h1
            | _ => simp at z
    obtain ⟨h1, h2⟩ := key l kvs z k2 l1
    refine ⟨.inr ⟨p, kvs, D.pyP l, rfl, s1, by simp [D.py], h1⟩, by simp only [D.py, PyData.depth, h2]; omega⟩
  | _ => cases z
theorem cal_repr : Cal G C .repr (rRepr G.K C.bd) := by
  intro m h H ds vs d Q r sz rl e q
  obtain ⟨x, rfl⟩ := blt_one (b := .repr) (fun l hl => by
    match l with
    | [] => rfl
    | [_] => simp at hl
    | _ :: _ :: _ => rfl) e
  obtain ⟨v, rfl, rx⟩ := rl.one
  have px := see r rx
  simp only [blt] at e
  generalize vw h x = y at px e
  split at e
  · rename_i z
    cases e
    obtain ⟨⟨⟨z1, z2⟩, z3⟩, z4⟩ : (((y.flat = true ∨ dctFlat y = true) ∧ y.py.showable = true) ∧ okLen (shown y) = true) ∧ y.dep ≤ C.bd := by simpa [reprOk] using z
    have z3 := okLen_le z3
    have z5 : ((Dp G.K H v y.py ∧ y.py.canLay0 = true) ∨ DpK H v y.py) ∧ y.py.depth ≤ C.bd := by
      rcases z1 with z1 | z1
      · exact ⟨.inl ⟨sn_dp px z1, flat_lay _ z1⟩, by rw [py_dep _ z1]; exact z4⟩
      · exact sn_dpK px z1 (by unfold Cl.bd; omega)
    refine ⟨v, y.py, rfl, z5.1, z2, ?_, z5.2, ?_⟩
    · unfold shown at z3
      show y.py.shown.cps.size ≤ sizeLine
      simpa using z3
    · have := q m _ H .refl r (.str (shown y))
      unfold shown at this
      rw [str_toList] at this
      exact this
  · cases e
end
end PV
set_option Elab.async false
set_option autoImplicit false
set_option maxRecDepth 100000
set_option maxHeartbeats 1000000
namespace PV
open PySem PySem.Spec PyProof.Rows L2

theorem note_same {x : Value} {e1 e2 : PySem.Env} (h : e1.frame = e2.frame) : noteFrame x e1 = noteFrame x e2 := by
  simp only [noteFrame, PySem.frameOf, h]
/-- an exception in the air of X, the frame that noted it being L -/
def XEL (X : Cx) (L : Addr) (W : WX) (u : Value) (t : Shared) : Prop :=
  ∃ (a : Addr) (B : Heap) (t0 : Shared) (pins : List (Addr × Obj)) (τ : L2.St) (H : L2.Hp) (cls : Value) (d : Option Addr),
    u = .ref a ∧ Inv X pins τ H t0 ∧ (∀ b o, t0.heap.get? b = some o → b ∉ frs X.stack → B.get? b = some o) ∧ t0.heap.UpToSlots t.heap ∧ Sky B X.stack a (Zc cls d) L t.heap ∧
      H a = none ∧ t.os = t0.os ∧ AllBare t.gens ∧ W cls d τ H
/-- exceptions of a frame that stands on top of the frames are taken; the env may be a block's of that frame -/
def TakesF (X : Cx) (W : WX) : Prop :=
  ∃ (L : Addr) (top : PySem.Env) (under : List PySem.Env), X.stack = top :: under ∧ top.frame = some L ∧ X.env.frame = some L ∧ ∀ u t, XEL X L W u t → X.xe u t
theorem TakesF.of {X : Cx} {W : WX} (t : Takes X W) (hs : X.stack = X.env :: X.outer) (hf : X.env.frame = some X.env.locals) : TakesF X W := ⟨_, X.env, X.outer, hs, hf, hf, t⟩
section
variable {X : Cx} {pins : List (Addr × Obj)} {σ : L2.St} {H : L2.Hp} {s t : Shared} {W : WX} {u : Value}
theorem XEL.of_call {L : Addr} {E : XK} (I : Inv X pins σ H s) (hW : ∀ cls d H', E cls d H' → W cls d σ H') (c : L2.CX X.prog X.w X.stack H s E u t) : XEL X L W u t := by
  obtain ⟨a0, B0, _, _, _, e0, fly, _⟩ := id c
  obtain ⟨a, B, t0, ps, τ, H', cls, d, e, I', nb, up, sky, rest⟩ := XE.of_call I hW c
  obtain rfl : a = a0 := by
    rw [e] at e0
    exact Value.ref.inj e0
  refine ⟨a, B, t0, ps, τ, H', cls, d, e, I', nb, up, ?_, rest⟩
  rcases sky with sky | sky | sky
  · exact .inl sky
  · exact .inr (.inl sky)
  · obtain ⟨_, _, _, _, _, _, _, _, p1, _, p2, p3, _, _, p4, p5, p6⟩ := fly
    obtain ⟨_, _, _, _, _, _, _, _, q1, _, q2, q3, _, _, q4, q5, q6⟩ := sky
    rw [p1] at q1; cases q1
    rw [p2] at q2; cases q2
    rw [p3] at q3; cases q3
    rw [p4] at q4; cases q4
    rw [p5] at q5; cases q5
    rw [p6] at q6
    simp [rawInt] at q6
theorem TakesF.call (tk : TakesF X W) {E : XK} (I : Inv X pins σ H s) (hW : ∀ cls d H', E cls d H' → W cls d σ H') (c : L2.CX X.prog X.w X.stack H s E u t) : X.xe u t := by
  obtain ⟨L, _, _, _, _, _, k⟩ := tk
  exact k u t (XEL.of_call I hW c)
/-- noted -/
theorem sky_note {M : Model} {A : Around} {E : Value → Shared → Prop} {env : PySem.Env} {under : List PySem.Env} {B : Heap} {L a : Addr} {Z : Obj → Prop} {Q : Unit → Shared → Prop} (hZ : HandSPX.Steady Z) (hfr : A.frames = some (env :: under)) (hf : env.frame = some L)
    (x : Sky B (env :: under) a Z L s.heap) (k : ∀ h, HandSPX.HeldZ B (env :: under) a Z L h → s.heap.UpToSlots h → Q () { s with heap := h }) : wpAny M A (noteFrame (.ref a) env) Q E s := by
  rcases x with ⟨b1, b2, b3, oe, vs, b4, b5, b6, b7⟩ | x | x
  · exact HandSPX.look_newZ hZ hfr b3 hf b4 b1 b2 b6 b7 b5 k
  · exact HandSPX.looks_onZ hZ hfr hf x k
  · exact HandSPX.againZ hf x.2.2.2 (k s.heap x (Heap.UpToSlots.refl _))
theorem fun_frames_at {h h' B B' : Heap} : ∀ {l : List PySem.Env}, h.FunFrames B l → (∀ b ∈ frs l, h'.get? b = h.get? b ∧ B'.get? b = none) → h'.FunFrames B' l
  | [], _, _ => trivial
  | env :: l, ⟨k1, ⟨L, o, k2, k3, k4, k5⟩, k6⟩, q => by
    have qL := q L (List.mem_filterMap.mpr ⟨env, List.mem_cons_self, k2⟩)
    refine ⟨k1, ⟨L, o, k2, qL.2, qL.1.trans k4, k5⟩, fun_frames_at k6 fun b hb => q b ?_⟩
    obtain ⟨e, he, r⟩ := List.mem_filterMap.mp hb
    exact List.mem_filterMap.mpr ⟨e, List.mem_cons_of_mem _ he, r⟩
/-- one object is let go that is no part of it -/
theorem held_without {B h h' : Heap} {l : List PySem.Env} {a C L : Addr} {Z : Obj → Prop} {oC : Obj} (x : HandSPX.HeldZ B l a Z L h) (hC : h.get? C = some oC) (hd : ∀ vs, oC.data ≠ .fields vs) (hl : C ∉ frs l) (sb : ∀ b, b ≠ C → h'.get? b = h.get? b) :
    HandSPX.HeldZ (PySem.W.hideAll B [C]) l a Z L h' := by
  obtain ⟨x1, x2, x3, oe, vs, T, oT, ts, y1, y2, y3, y4, y5, y6, y7, y8, y9⟩ := x
  have hid : ∀ b, B.get? b = none → (PySem.W.hideAll B [C]).get? b = none := fun b e => by
    cases q : (PySem.W.hideAll B [C]).get? b with
    | none => rfl
    | some o => rw [PySem.W.of_hideAll _ q] at e; cases e
  have ne : ∀ {b : Addr} {o : Obj} {vs : Array Value}, h.get? b = some o → o.data = .fields vs → b ≠ C := fun {b o vs} e1 e2 z => by
    subst z
    rw [hC] at e1
    cases e1
    exact hd _ e2
  refine ⟨fun b o e => ?_, hid a x2, fun_frames_at x3 fun b hb => ⟨sb b fun z => hl (z ▸ hb), hid b (x3.mem hb).1⟩, oe, vs, T, oT, ts, (sb a (ne y1 y3)).trans y1, y2, y3, y4, hid T y5, y6, (sb T (ne y7 y8)).trans y7, y8, y9⟩
  have hb : b ≠ C := fun z => by
    rw [z, PySem.W.hideAll_none [C] (by simp)] at e
    cases e
  exact (sb b hb).trans (x1 b o (PySem.W.of_hideAll _ e))
end
/-! ### the comprehension -/
/-- behind the block: its names are let go, what it raised goes on -/
def cPost (M : Model) (A : Around) (E : Value → Shared → Prop) (fr : Option Addr) (use : Option (Value → Sem Unit)) (Q : Value → Shared → Prop) (acc : Value) (C : Addr) : Result → Shared → Prop
  | .error x, t => ∃ m, t.heap.Ns C m ∧ ∀ g, Heap.SameBut C t.heap g → ∀ e : PySem.Env, e.locals = C → e.frame = fr → wpAny M A (passOn "comprehension.variables-let-go" x e : Sem Value) (fun _ _ => False) E { t with heap := g }
  | .ok _, t => match use with
    | none => ∃ m, t.heap.Ns C m ∧ ∀ g, Heap.SameBut C t.heap g → Q acc { t with heap := g }
    | some f => wpAny M A (f acc) (fun _ t' => ∃ m, t'.heap.Ns C m ∧ ∀ g, Heap.SameBut C t'.heap g → Q .none { t' with heap := g }) E t
theorem wp_comp {M : Model} {A : Around} {E : Value → Shared → Prop} {s : Shared} {env : PySem.Env} {e : Expr} {scope : Scope} {pos : Pos} {mk first : Sem Value} {g : Comprehension} {gs : List Comprehension} {cl : List (Str × Addr)} {use : Option (Value → Sem Unit)} {Q : Value → Shared → Prop}
    (hcl : clausesOf e = g :: gs) (hs : ∀ x, foldedSetIterable g.iter env x = pure x) (hcf : closureFor scope env = pure cl) (hk : scope.kind = .function) (hn : ∀ y ∈ scope.names, y.2 = .local → scope.names.lookup y.1 = some .local)
    (h : wpAny M A first (fun x s1 => wpAny M A (pyIter x) (fun it s2 => wpAny M A mk (fun acc s3 => wpAny M A (newFunctionEnv scope env.globals cl [] env.qual none .none (some env)) (fun ce s4 =>
        codeAny M A (.compStart e 0 it acc { ce with scope := relabel scope env }) (cPost M A E ce.frame use Q acc ce.locals) s4) E s3) E s2) E s1) E s) :
    wpAny M A (comprehension e scope env pos mk false first use) Q E s := by
  unfold comprehension
  rw [hcf, hcl]
  have on : ∀ {α : Type} {m : Sem α} {P P' : α → Shared → Prop} {t : Shared}, wpAny M A m P E t → (∀ a t', P a t' → P' a t') → wpAny M A m P' E t := fun q k => wpAny_mono q k fun _ _ z => z
  refine wpAny_bind (on h fun x s1 h1 => wpAny_bind (wpAny_standAt (wpAny_bind (wpAny_of_eq (hs x) (wpAny_bind (wpAny_holding (on h1 fun it s2 h2 => wpAny_standIf (wpAny_bind (on h2 fun acc s3 h3 => wpAny_bind (wpAny_pure (wpAny_bind (on h3 fun ce s4 h4 => ?_))))))))))))
  dsimp only
  generalize hvs : (scope.names.filter fun x => (x.2 == .local || x.2 == .cell) && x.1 != (".0" : Str)).reverse = vars
  have loc : ∀ y ∈ vars, y.2 = .local → PySem.Env.kindOf { ce with scope := relabel scope env } y.1 = some .local := fun y hy hl => by
    rw [← hvs] at hy
    exact lookup_relabel_local (hn y (List.mem_filter.mp (List.mem_reverse.mp hy)).1 hl)
  have loc2 : ∀ y ∈ vars.drop 1 ++ vars.take 1, y.2 = .local → PySem.Env.kindOf { ce with scope := relabel scope env } y.1 = some .local := fun y hy =>
    (List.mem_append.mp hy).elim (fun q => loc y (List.mem_of_mem_drop q)) fun q => loc y (List.mem_of_mem_take q)
  refine wpAny_holding (wpAny_bind (wpAny_attempt (wpAny_holding (wpAny_run (codeAny_mono h4 fun r t hr => ?_)))))
  rcases r with x | f
  · have hr : ∃ m, t.heap.Ns ce.locals m ∧ ∀ g, Heap.SameBut ce.locals t.heap g → ∀ e' : PySem.Env, e'.locals = ce.locals → e'.frame = ce.frame → wpAny M A (passOn "comprehension.variables-let-go" x e' : Sem Value) (fun _ _ => False) E { t with heap := g } := hr
    obtain ⟨m, hm, k⟩ := hr
    exact wpAny_bind (wpAny_holding (wpAny_comp_letGo (cenv := { ce with scope := relabel scope env }) hk _ t m (by first | exact loc | (rw [hvs]; exact loc)) hm fun g _ _ sb => wpAny_mono (k g sb { ce with scope := relabel scope env } rfl rfl) (fun _ _ z => z.elim) fun _ _ z => z))
  · cases use with
    | none =>
      obtain ⟨m, hm, k⟩ := (show ∃ m, t.heap.Ns ce.locals m ∧ ∀ g, Heap.SameBut ce.locals t.heap g → Q acc { t with heap := g } from hr)
      exact wpAny_bind (wpAny_holding (wpAny_comp_letGo (cenv := { ce with scope := relabel scope env }) hk _ t m loc hm fun g _ _ sb => wpAny_pure (k g sb)))
    | some u =>
      have hr : wpAny M A (u acc) (fun _ t' => ∃ m, t'.heap.Ns ce.locals m ∧ ∀ g, Heap.SameBut ce.locals t'.heap g → Q .none { t' with heap := g }) E t := hr
      refine wpAny_bind (wpAny_rule (wpAny_bind (wpAny_holding (on hr fun _ t' ⟨m, hm, k⟩ => ?_))))
      exact wpAny_bind (wpAny_comp_letGo (cenv := { ce with scope := relabel scope env }) hk _ t' m loc2 hm fun g _ _ sb => wpAny_pure (k g sb))

/-- the block, with a wish for what is raised in it -/
abbrev _root_.L2.Cx.blkF (X : Cx) (s : Shared) (H : L2.Hp) (scope : Scope) (ce : PySem.Env) (fp : List Addr) (xe : Value → Shared → Prop) : Cx := { X.blk s H scope ce fp with xe := xe }
theorem inv_xe {X : Cx} {pins : List (Addr × Obj)} {σ : L2.St} {H : L2.Hp} {s : Shared} (I : Inv X pins σ H s) (xe : Value → Shared → Prop) : Inv { X with xe := xe } pins σ H s :=
  ⟨⟨I.ok.mod, I.ok.kind, I.ok.glob, I.ok.blt, I.ok.above, I.ok.inj, I.ok.has, I.ok.cab, I.ok.hd, I.ok.frames, I.ok.stk, I.ok.exf, I.ok.bs, I.ok.bsz, I.ok.noex, I.ok.exfs, I.ok.funs, I.ok.frf⟩, I.os, I.bare, I.base, I.loc, I.cell, I.free, I.freeC, I.pin, I.hok, I.len⟩
/-- what is raised in the block is raised by the def, its slots as they were -/
def keepW (W : WX) (σ : L2.St) : WX := fun cls d _ H => W cls d σ H
/-- a part of the block holds for each wish that is taken -/
def InBlk (X : Cx) (scope : Scope) (P : Cx → WX → Prop) : Prop := ∀ (s : Shared) (H : L2.Hp) (C : Addr) (cl : List (Str × Addr)) (fp : List Addr) (xe : Value → Shared → Prop) (W : WX),
  TakesF (X.blkF s H scope (compEnvC scope cl C X.env) fp xe) W → PassesOwn (model X.prog X.w) X.A (compEnvC scope cl C X.env) xe → P (X.blkF s H scope (compEnvC scope cl C X.env) fp xe) W
section
variable {X : Cx} {W : WX} {pins : List (Addr × Obj)} {s : Shared} {σ : L2.St} {H : L2.Hp} {Q : VK} {elt tg iter : Expr} {ifs : List Expr} {scope : Scope} {own : List (Str × Nat)} {pos pos' : Pos} {wi : TI} {g : TG} {tt : WX → TT} {te : WX → TE}
theorem lcF_core {use : Option (Value → Sem Unit)} {Qf : Value → Shared → Prop} (hc : X.calm = true) (hN : X.N.Nodup) (tk : TakesF X W) (I : Inv X pins σ H s) (hi : PI X tg iter wi) (ok : BlkOk X.N X.env.scope scope own)
    (hg : InBlk X scope fun Y _ => PG Y tg g) (ht : InBlk X scope fun Y V => PTs Y ifs (tt V)) (he : InBlk X scope fun Y V => PE Y elt (te V)) (hs : ∀ x, foldedSetIterable iter X.env x = pure x)
    (h : tLc wi g (tt (keepW W σ)) (te (keepW W σ)) (own.map (·.2)) σ H Q)
    (fin : ∀ D C t m H', Inv X pins σ H' t → Q (.ref D) H' → t.heap.Ns C m → FpOk X pins H' C → cPost (model X.prog X.w) X.A X.xe X.env.frame use Qf (.ref D) C (.ok .next) t) :
    wpAny (model X.prog X.w) X.A (comprehension (.ListComp elt [⟨tg, iter, ifs, 0⟩] scope pos) scope X.env pos' (newList []) false (eval iter X.env) use) Qf X.xe s := by
  have fr : ∀ y ∈ scope.names, y.2 = .free → ∃ c, X.env.cells.lookup y.1 = some c := fun y hy e => I.ok.has _ (ok.free y hy e)
  refine wp_comp (use := use) rfl hs (closure_ok fr) ok.kind (fun y hy e => by rw [ok.uniq y hy, e]) (thn (hi.run pins s σ H _ I h) fun xv s1 hx => thn hx fun itv s2 hit => ?_)
  obtain ⟨it, fp, tn, J, H2, rfl, I2, T, st2, f2, q⟩ := hit
  refine wpAny_newObj_type (newEnv_comp ?_) (by show 0 ≤ sizeLine; decide)
  generalize hD : s2.heap.objs.size = D
  have hDn : H2 D = none := I2.hok.fresh (Nat.le_of_eq hD)
  obtain ⟨V, ⟨m0, v0⟩, turn⟩ := q D hDn
  generalize hs3 : ({ s2 with heap := s2.heap.push { cls := .type "list", data := .seq ([] : List Value).toArray } } : Shared) = s3
  have e3 : s3.heap = s2.heap.push { cls := .type "list", data := .seq ([] : List Value).toArray } := by rw [← hs3]
  have I3 : Inv X pins σ (upd H2 D (.lst [])) s3 := by
    rw [← hs3]
    refine I2.laid (t' := s2.toks) (fun b o e => Heap.get?_push_of_some _ e) (Nat.le_of_eq hD) ⟨Nat.zero_le _, [], 0, .nil, ?_⟩
    rw [← hD]; exact Heap.get?_push_size _ rfl
  have f3 : ∀ b ∈ fp, FpOk X pins (upd H2 D (.lst [])) b ∧ b < s3.heap.objs.size := fun b hb => by
    obtain ⟨o, e, _⟩ := T.obj _ _ st2 b hb
    have lt : b < s2.heap.objs.size := Heap.lt_size e
    refine ⟨⟨?_, (f2 b hb).2⟩, by rw [e3, Heap.size_push]; exact Nat.lt_succ_of_lt lt⟩
    rw [upd_ne (by rw [← hD]; exact Nat.ne_of_lt lt)]
    exact (f2 b hb).1
  have I4 := block_start I3 ok hN f3
  have st4 : tn 0 (pushCells (s3.heap.push { cls := .type "dict", data := .dict #[] }) scope.names) := T.keep _ _ _ st2 fun b _ o e => pushCells_keeps _ _ _ _ (Heap.get?_push_of_some _ (by rw [e3]; exact Heap.get?_push_of_some _ e))
  obtain ⟨C, hC⟩ : ∃ C, s3.heap.objs.size = C := ⟨_, rfl⟩
  show codeAny _ _ (.compStart (.ListComp elt [⟨tg, iter, ifs, 0⟩] scope pos) 0 (.ref it) (.ref D) (compEnvC scope (cellsFrom (s3.heap.objs.size + 1) scope.names (cloFrom X.env.cells scope.names [])) s3.heap.objs.size X.env)) (cPost (model X.prog X.w) X.A X.xe X.env.frame use Qf (.ref D) s3.heap.objs.size) { s3 with heap := pushCells (s3.heap.push { cls := .type "dict", data := .dict #[] }) scope.names }
  rw [hC]
  rw [hC] at I4
  have inb : ∀ {P : Cx → WX → Prop}, InBlk X scope P → _ := fun {P} q => q s3 (upd H2 D (.lst [])) C (cellsFrom (C + 1) scope.names (cloFrom X.env.cells scope.names [])) fp
  obtain ⟨ce, hce⟩ : ∃ ce, compEnvC scope (cellsFrom (C + 1) scope.names (cloFrom X.env.cells scope.names [])) C X.env = ce := ⟨_, rfl⟩
  have cL : ce.locals = C := by rw [← hce]; rfl
  have cF : ce.frame = X.env.frame := by rw [← hce]; rfl
  rw [hce] at I4 ⊢
  simp only [hce] at inb
  obtain ⟨H3, hH3⟩ : ∃ H3, upd H2 D (.lst []) = H3 := ⟨_, rfl⟩
  rw [hH3] at I3 I4 v0 f3
  simp only [hH3] at inb
  -- the wish of the block
  obtain ⟨xe, hxe⟩ : ∃ xe, notedBy (model X.prog X.w) X.A ce (fun e t => cPost (model X.prog X.w) X.A X.xe X.env.frame use Qf (.ref D) C (.error e) t) = xe := ⟨_, rfl⟩
  have po : PassesOwn (model X.prog X.w) X.A ce xe := by rw [← hxe]; exact PassesOwn.looking
  have I5 := inv_xe I4 xe
  -- back in the def
  have back : ∀ {pn : List (Addr × Obj)} {σ' : L2.St} {H' : L2.Hp} {t : Shared}, Inv (X.blkF s3 H3 scope ce fp xe) pn σ' H' t → Inv X pins σ H' t ∧ FpOk X pins H' C ∧ ∃ m, t.heap.Ns C m := fun {pn σ' H' t} J => by
    refine ⟨I3.call' (ch := fp) J.os J.base J.hok J.bare fun b hb => ⟨(f3 b hb).1.2.2.2.1, (f3 b hb).1.2.1, (f3 b hb).1.2.2.2.2.1, (f3 b hb).1.2.2.2.2.2⟩, I3.fpOk (Nat.le_of_eq hC) ?_, ?_⟩
    · have z : H' ce.locals = none := J.free
      rwa [cL] at z
    · obtain ⟨m, z, _⟩ := J.loc
      have z : t.heap.Ns ce.locals m := z
      rw [cL] at z
      exact ⟨m, z⟩
  have tkB : TakesF (X.blkF s3 H3 scope ce fp xe) (keepW W σ) := by
    obtain ⟨L, top, under, hst, hL, hL2, k⟩ := tk
    refine ⟨L, top, under, hst, hL, cF.trans hL2, ?_⟩
    rintro u t ⟨a, B, t0, pn, τ, H', cls, d, rfl, J, nb, up, sky, na, os, ag, w⟩
    obtain ⟨J', fC, m, hm⟩ := back J
    have hst' : (X.blkF s3 H3 scope ce fp xe).stack = top :: under := hst
    rw [hst'] at sky nb
    show xe (.ref a) t
    rw [← hxe]
    show wpAny _ _ (noteFrame (.ref a) ce) _ _ _
    rw [note_same (e2 := top) ((cF.trans hL2).trans hL.symm)]
    refine sky_note Zc.steady (by rw [I.ok.frames, hst]) hL sky fun h1 held up1 => ?_
    refine ⟨m, (up.trans up1).ns hm, fun h2 sb e eL eF => ?_⟩
    obtain ⟨oC, es, ep, hoC, hdC, _⟩ := (up.trans up1).ns hm
    have nl : C ∉ frs (top :: under) := fun z => by
      obtain ⟨_, o, q, _⟩ := I3.stack.mem (b := C) (by rw [hst]; exact z)
      exact absurd (Heap.lt_size q) (by rw [hC]; exact Nat.lt_irrefl _)
    have held2 := held_without (h' := h2) held hoC (fun vs z => by rw [hdC] at z; cases z) nl fun b hb => sb.2 b hb
    obtain ⟨k1, k2, k3, oe, vs, T1, oT, ts, he1, hz1, hd1, hv1, hr1⟩ := id held2
    unfold PySem.passOn
    refine wpAny_bind (wpAny_field he1 hd1 hv1 ?_)
    rw [if_neg (show ¬ ((Value.ref T1 == Value.none) = true) from by simp)]
    have go : wpAny (model X.prog X.w) X.A (setFlight (.ref a) e.frame) (fun _ t4 => wpAny (model X.prog X.w) X.A (throw (.ref a) : Sem Value) (fun _ _ => False) X.xe t4) X.xe { t with heap := h2 } := by
      rw [eF, hL2]
      refine HandSPX.setFlight_onZ held2 fun h4 held4 up4 => wpAny_throw (k _ _ ?_)
      refine ⟨a, PySem.W.hideAll B [C], { t0 with heap := PySem.W.hideAll t0.heap [C] }, pins, σ, H', cls, d, rfl, ?_, fun b o q hb => ?_, ?_, .inr (.inr (by rw [hst]; exact held4)), na, os, ag, w⟩
      · obtain ⟨g0, g1, g2, g3, g4, g5⟩ := fC
        exact J'.turned (t' := t0.toks) (fun b o hb q => PySem.W.hideAll_get _ q (by simp [hb])) g0 g1 g3 g4 g5
      · have hbC : b ≠ C := fun z => by rw [z, PySem.W.hideAll_none [C] (by simp)] at q; cases q
        rw [hst] at hb
        exact PySem.W.hideAll_get _ (nb b o (PySem.W.of_hideAll _ q) hb) (by simp [hbC])
      · intro b o q hnf
        have hbC : b ≠ C := fun z => by rw [z, PySem.W.hideAll_none [C] (by simp)] at q; cases q
        obtain ⟨sl, r⟩ := (up.trans up1) b o (PySem.W.of_hideAll _ q) hnf
        obtain ⟨sl2, r2⟩ := up4 b { o with slots := sl } ((sb.2 b hbC).trans r) hnf
        exact ⟨sl2, r2⟩
    first
      | exact wpAny_bind (wpAny_pure (wpAny_bind go))
      | exact wpAny_bind go
  have pg := inb hg xe _ tkB po
  have pt := inb ht xe _ tkB po
  have pe := inb he xe _ tkB po
  have nfp : ∀ b ∈ fp, H3 b = none := fun b hb => (f3 b hb).1.1
  have stat : ∀ {τ : L2.St} {H' : L2.Hp} {t : Shared}, Inv (X.blkF s3 H3 scope ce fp xe) [] τ H' t → (∀ b ∈ fp, H' b = none) → ∀ b ∈ fp, FpOk (X.blkF s3 H3 scope ce fp xe) [] H' b := fun {τ H' t} J n b hb =>
    ⟨n b hb, (J.ok.exf b hb).1, J.ok.exfs b hb, .inl hb, fun x c e => (J.ok.exf b hb).2 x c e, fun p hp => by cases hp⟩
  have loop : codeAny (model X.prog X.w) X.A (.compLoop (.ListComp elt [⟨tg, iter, ifs, 0⟩] scope pos) 0 (.ref it) (.ref D) ce) (cPost (model X.prog X.w) X.A X.xe X.env.frame use Qf (.ref D) C) { s3 with heap := pushCells (s3.heap.push { cls := .type "dict", data := .dict #[] }) scope.names } := by
    refine compLoop_any (fun n t => ∃ i H', Inv (X.blkF s3 H3 scope ce fp xe) [] (L2.wipe σ (own.map (·.2))) H' t ∧ tn i t.heap ∧ (∀ b ∈ fp, H' b = none) ∧ V i n H') ?_ m0 ⟨0, H3, I5, st4, nfp, v0⟩
    rw [hxe]
    rintro n t5 ⟨i, H5, J5, st5, n5, v5⟩
    rcases turn i n H5 v5 with ⟨stop, qq⟩ | ⟨go, Nx, hNx, step⟩
    · refine thnF (T.done (X.blkF s3 H3 scope ce fp xe) rfl rfl rfl hc i [] t5 _ H5 (fun _ _ => False) J5 (stat J5 n5) st5 stop) fun r t6 ⟨hr, J6⟩ => ?_
      subst hr
      obtain ⟨J7, fC, m, hm⟩ := back J6
      exact fin D C t6 m H5 J7 qq hm fC
    · refine thnF (T.item (X.blkF s3 H3 scope ce fp xe) rfl rfl rfl hc i [] t5 _ H5 (fun _ _ => False) J5 (stat J5 n5) st5 go) fun r t6 ⟨u, hr, h6⟩ => ?_
      subst hr
      refine thnF h6 fun _ t7 ⟨x, H7, J7, r7, y7, st7, n7⟩ => ?_
      have J7' := J7.pinned (stat J7 n7) (T.obj _ _ st7)
      refine thn (pg.run _ t7 _ H7 x u _ J7' r7 (step x H7 y7)) fun _ t8 ⟨σ8, H8, J8, hw8, q8⟩ => ?_
      refine thn (pt.run _ t8 σ8 H8 _ J8 q8) fun b t9 ⟨H9, J9, q9⟩ => ?_
      have next : ∀ {t : Shared} {H' : L2.Hp}, Inv (X.blkF s3 H3 scope ce fp xe) ([] ++ pinsAt fp t7.heap) σ8 H' t → Nx H' → ∃ m, m < n ∧ ∃ i H', Inv (X.blkF s3 H3 scope ce fp xe) [] (L2.wipe σ (own.map (·.2))) H' t ∧ tn i t.heap ∧ (∀ b ∈ fp, H' b = none) ∧ V i m H' := fun {t H'} J nx => by
        obtain ⟨m', hm, v'⟩ := hNx H' nx
        have stays : ∀ b ∈ fp, ∀ o, t7.heap.get? b = some o → t.heap.get? b = some o ∧ H' b = none := fun b hb o e => by
          obtain ⟨z1, z2, _⟩ := J.pin (b, o) (List.mem_append_right _ (List.mem_append_right _ (mem_pinsAt hb e)))
          exact ⟨z1, z2⟩
        refine ⟨m', hm, i + 1, H', (J.unpinned (pins := [])).weak (by rw [← hw8, wipe_length]) (fun j v e => ?_), T.keep _ _ _ st7 fun b hb o e => (stays b hb o e).1, fun b hb => ?_, v'⟩
        · rw [← hw8] at e; exact (wipe_some e).1
        · obtain ⟨o, e, _⟩ := T.obj _ _ st7 b hb
          exact (stays b hb o e).2
      cases b with
      | false =>
        simp only [Bool.false_eq_true, if_false] at q9 ⊢
        exact next J9 q9
      | true =>
        simp only [if_true] at q9 ⊢
        refine thn (pe.run _ t9 σ8 H9 _ J9 q9) fun z t10 ⟨yv, H10, J10, r10, acc, hD10, hz10, nx⟩ => ?_
        exact app_ok (X := X.blkF s3 H3 scope ce fp xe) J10 hD10 hz10 r10 fun t11 J11 => next J11 nx
  exact codeAny_compStart_list loop (T.self X.A 0 _ _ _ st4 loop)
/-- as a value -/
theorem pe_lcF (hc : X.calm = true) (hN : X.N.Nodup) (tk : TakesF X W) (hi : PI X tg iter wi) (ok : BlkOk X.N X.env.scope scope own) (hg : InBlk X scope fun Y _ => PG Y tg g) (ht : InBlk X scope fun Y V => PTs Y ifs (tt V)) (he : InBlk X scope fun Y V => PE Y elt (te V))
    (hs : ∀ x, foldedSetIterable iter X.env x = pure x) : PE X (.ListComp elt [⟨tg, iter, ifs, 0⟩] scope pos) (fun σ H Q => tLc wi g (tt (keepW W σ)) (te (keepW W σ)) (own.map (·.2)) σ H Q) := ⟨fun pins s σ H Q I h => by
  rw [eval_ListComp]
  refine lcF_core hc hN tk I hi ok hg ht he hs h fun D C t m H' J q hn f => ⟨m, hn, fun g sb => ?_⟩
  obtain ⟨f0, f1, _, f3, f4, f5⟩ := f
  exact ⟨.ref D, H', J.turned (t' := t.toks) (fun b o hb e => (sb.2 b hb).trans e) f0 f1 f3 f4 f5, rfl, q⟩⟩
/-- name = [..], the name a local -/
theorem ps_setLcF {i : Nat} {y : Str} {py spos : Pos} (hc : X.calm = true) (hN : X.N.Nodup) (tk : TakesF X W) (hy : X.N[i]? = some y) (hyl : X.env.scope.names.lookup y = some .local)
    (hsw : swapsWith (.ListComp elt [⟨tg, iter, ifs, 0⟩] scope pos) (some (.Name y py)) spos.line X.env = pure true) (hi : PI X tg iter wi) (ok : BlkOk X.N X.env.scope scope own)
    (hg : InBlk X scope fun Y _ => PG Y tg g) (ht : InBlk X scope fun Y V => PTs Y ifs (tt V)) (he : InBlk X scope fun Y V => PE Y elt (te V)) (hs : ∀ x, foldedSetIterable iter X.env x = pure x) :
    PS X (.Assign [.Name y py] (.ListComp elt [⟨tg, iter, ifs, 0⟩] scope pos) spos) (tAsg (fun σ H Q => tLc wi g (tt (keepW W σ)) (te (keepW W σ)) (own.map (·.2)) σ H Q) (gName i)) := ⟨fun pins s σ H D I h => by
  rw [exec_Assign_Name_used _ _ _ _ hsw]
  have h : tLc wi g (tt (keepW W σ)) (te (keepW W σ)) (own.map (·.2)) σ H (fun x H1 => gName i x σ H1 D.nx) := h
  refine wpAny_bind (wpAny_standAt (wpAny_bind (wpAny_bind (thn (lcF_core (Qf := fun _ t => SP X pins D .next t) hc hN tk I hi ok hg ht he hs h fun Ls C t m H' J q hn f => ?_) fun _ t hq => wpAny_pure (wpAny_pure hq)))))
  show wpAny _ _ (assign (.Name y py) X.env (.ref Ls)) _ _ _
  refine wpAny_assign_Name (store_ok2 (v := V.ref Ls) J hN hy (.inl hyl) rfl (fun t2 J2 ⟨a, sb, ha⟩ => ?_) (.inr hyl))
  obtain ⟨f0, f1, _, f3, f4, f5⟩ := f
  have na : C ≠ a := ha.elim (fun z => by rw [z]; exact f1) fun z e => f4 y a z e.symm
  refine ⟨m, hn.sameBut sb na, fun g sb3 => ?_⟩
  exact ⟨_, H', J2.turned (t' := t2.toks) (fun b o hb e => (sb3.2 b hb).trans e) f0 f1 f3 f4 f5, q⟩⟩
end
end PV
set_option Elab.async false
set_option autoImplicit false
set_option maxRecDepth 100000
set_option maxHeartbeats 1000000
namespace PV
open PySem PySem.Spec PyProof.Rows L2
structure Rm (k : Nat) (A : Around) : Prop where
  hd : A.handled = none
  dp : A.depth + k + 25 < recursionLimit
  un : A.units + 8 * k + 400 < cLine
  gd : A.guards = some []
theorem Rm.deeper {k : Nat} {A : Around} (r : Rm (k + 1) A) (env : PySem.Env) : Rm k (A.deeper env) :=
  ⟨r.hd, by have := r.dp; show A.depth + 1 + k + 25 < _; omega, by have := r.un; show A.units + 3 + 8 * k + 400 < _; omega, r.gd⟩
theorem Rm.depth {k : Nat} {A : Around} (r : Rm k A) : A.depth < recursionLimit := by have := r.dp; omega
/-- a def's promise, over our room -/
structure FOk (P : Program) (w : World) (K : PySem.W.Frag) (mg : Str → Option Value) (base : Heap) (k : Nat) (f : Addr) (fd : FuncData) (ps : List Str) (sp : Sp) : Prop where
  len : ∀ vs H Q E, sp vs H Q E → vs.length = ps.length
  run : ∀ (A : Around) (outer : List PySem.Env) (s : Shared) (H : L2.Hp) (args : Args) (us : List Value) (vs : List V) (Q : VK) (E : XK), Rm k A → Env0 P w K mg base A outer s H → BindsTo s fd args (ps.zip us) → Vals vs us → sp vs H Q E →
    codeAny (model P w) A (.call (.ref f) args) (CR (L2.CX P w) outer P w H s Q E) s
def refOf : Value → Option Addr
  | .ref c => some c
  | _ => none
theorem refOf_some {v : Value} {c : Addr} (h : refOf v = some c) : v = .ref c := by
  cases v <;> first | (cases h; rfl) | cases h
/-- a function's code object -/
def codeOf (K : PySem.W.Frag) (f : Addr) : Option Addr := match K.lookup f with
  | some ⟨_, _, .func fd, _⟩ => refOf fd.code
  | _ => none
/-- a def by its body -/
theorem fok_of {P : Program} {w : World} {K : PySem.W.Frag} {mg : Str → Option Value} {base : Heap} {x qual : Str} {params : Arguments} {body : List Stmt} {scope : Scope} {dvs : List V} {kws : List (Str × V)} {f : Addr} {fd : FuncData}
    {N ps : List Str} {k : Nat} {sp : Sp} (F : FunD K x qual params body scope dvs kws f fd) (S : FnScope N ps scope) (len : ∀ vs H Q E, sp vs H Q E → vs.length = ps.length)
    (hbody : ∀ (cdv : Value) (A : Around) (outer : List PySem.Env) (s : Shared) (H : L2.Hp) (vs : List V) (Q : VK) (E : XK), (∀ c, codeOf K f = some c → cdv = .ref c) → Env0 P w K mg base A outer s H → Rm k (A.deeper (envOfC qual scope s.heap.objs.size f cdv)) → sp vs H Q E →
      ∃ t, PSs (cxOf (L2.CX P w) P w K mg base N qual scope f cdv A outer s H E) body t ∧ t { nx := fun _ H' => Q .non H', rt := Q } (start N vs) H) :
    FOk P w K mg base (k + 1) f fd ps sp := by
  obtain ⟨oc, od, dV, kV, doc, pm, an, cdv, ct, osl, rfl, lk, hcd, _, _⟩ := F.ex
  refine ⟨len, fun A outer s H args us vs Q E hr e0 hb r hsp => ?_⟩
  have hl := len _ _ _ _ hsp
  have KX : K.In s.heap := e0.mod.kin.keeps fun b o e => (e0.bs b o e).1
  have lim : s.heap.NoLimit := e0.mod.nolimit.keeps fun b o e => (e0.bs b o e).1
  have known : ∀ y ∈ ps.zip us, scope.names.lookup y.1 = some .local ∨ (scope.names.lookup y.1 = some .cell ∧ ((cellsFrom (s.heap.objs.size + 1) scope.names []).lookup y.1).isSome = true) := by
    rintro ⟨n, v⟩ hy
    rcases S.par n (List.of_mem_zip hy).1 with q | q
    · exact .inl q
    · exact .inr ⟨q, PySem.W.cellsFrom_some _ _ _ (.inl q)⟩
  refine codeAny_call_function hr.depth (KX _ _ lk) rfl S.co S.gen rfl (PySem.W.codeRec_of KX hcd) (hb _ _ _ _ ?_)
  refine wpAny_newFunctionEnv_cells S.kind known ?_
  rintro env rfl s1 x
  refine ⟨lim.keeps x.toInCall.keep, codeAny_func ?_⟩
  obtain ⟨t, ht, hq⟩ := hbody cdv A outer s H vs Q E (fun c e => by
    unfold codeOf at e
    rw [lk] at e
    exact refOf_some e) e0 (hr.deeper _) hsp
  have I := inv_start (CX := L2.CX P w) (E := E) (qual := qual) (cd := cdv) (f := f) S hr.hd e0 hl r x
  refine wpAny_mono (ht.run [] s1 (start N vs) H _ I hq) (fun fl s' hs => ?_) fun e s' hs => hs
  cases fl with
  | ret u =>
    obtain ⟨v, σ', H', J, rv, q⟩ := hs
    exact ⟨v, H', J.os, J.bare, J.base, J.hok, rv, q⟩
  | next =>
    obtain ⟨σ', H', J, q⟩ := hs
    exact ⟨V.non, H', J.os, J.bare, J.base, J.hok, rfl, q⟩
  | brk =>
    obtain ⟨_, _, _, q⟩ := hs
    exact q.elim
  | cont =>
    obtain ⟨_, _, _, q⟩ := hs
    exact q.elim
/-- what every def promises: what is told here -/
def spU (G : Gx) (P : Prog) (n f : Nat) : Sp := fun vs H Q E => ∃ m h ds, HRel G m h H ∧ RepL G H (Live G m h) m ds vs ∧ okR (callN P n f ds h)
  (fun d h' => ∀ m' v H', Ext G m h H m' h' H' → HRel G m' h' H' → Rep G H' (Live G m' h') m' d v → Q v H')
  (fun c l h' => ∀ m' H' cls d, Ext G m h H m' h' H' → HRel G m' h' H' → RepX G H' (Live G m' h') m' c l cls d → E cls d H')
/-- what a def promises that gets the lambda z -/
def spK (G : Gx) (P : Prog) (n f : Nat) (z : CloI) : Sp := fun vs H Q E => ∃ vs0 m h ds, vs = vs0 ++ [.ref z.a] ∧ HRel G m h H ∧ RepL G H (Live G m h) m ds vs0 ∧ RepL G H (Live G m h) m z.ds z.vs ∧ okR (callK P n (some (z.f, z.ds)) f ds h)
  (fun d h' => ∀ m' v H', Ext G m h H m' h' H' → HRel G m' h' H' → Rep G H' (Live G m' h') m' d v → Q v H')
  (fun c l h' => ∀ m' H' cls d, Ext G m h H m' h' H' → HRel G m' h' H' → RepX G H' (Live G m' h') m' c l cls d → E cls d H')
/-- what the lambda z promises -/
def spL (G : Gx) (P : Prog) (n : Nat) (z : CloI) : Sp := fun vs H Q E => ∃ m h ds, HRel G m h H ∧ RepL G H (Live G m h) m ds vs ∧ RepL G H (Live G m h) m z.ds z.vs ∧ okR (callN P n z.f (ds ++ z.ds) h)
  (fun d h' => ∀ m' v H', Ext G m h H m' h' H' → HRel G m' h' H' → Rep G H' (Live G m' h') m' d v → Q v H')
  (fun c l h' => ∀ m' H' cls d, Ext G m h H m' h' H' → HRel G m' h' H' → RepX G H' (Live G m' h') m' c l cls d → E cls d H')
/-- the lambda z runs as it is told here, at all levels below n -/
structure LRun (P : Program) (w : World) (K : PySem.W.Frag) (mg : Str → Option Value) (base : Heap) (n : Nat) (G : Gx) (kn : List (Addr × HO)) (pr : Prog) (z : CloI) : Prop where
  at_ : PySem.W.FnAt z.a base
  run : ∀ (k : Nat), k ≤ n → ∀ (hot : Addr → Prop) (A : Around) (outer : List PySem.Env) (s : Shared) (H : Hp) (us : List Value) (vs : List V) (Q : VK) (E : XK), Rm k A → Env0 P w K mg base A outer s H → Vals vs us → spL (G.heat ⟨hot, kn, none⟩) pr k z vs H Q E →
    codeAny (model P w) A (.call (.ref z.a) ⟨us, []⟩) (CR (L2.CX P w) outer P w H s Q E) s
theorem LRun.le {P : Program} {w : World} {K : PySem.W.Frag} {mg : Str → Option Value} {base : Heap} {n k : Nat} {G : Gx} {kn : List (Addr × HO)} {pr : Prog} {z : CloI} (r : LRun P w K mg base n G kn pr z) (h : k ≤ n) : LRun P w K mg base k G kn pr z :=
  ⟨r.at_, fun j hj => r.run j (Nat.le_trans hj h)⟩
/-- the lambda's function and what it captured stand in the base -/
structure CloB (base : Heap) (kn : List (Addr × HO)) (ps fr : List Str) (params : Arguments) (body : Expr) (scope : Scope) (z : CloI) : Prop where
  ex : ∃ (qual : Str) (cl : List (Str × Addr)) (c' : Addr) (pm ctv : Value), base.get? z.a = some (PySem.W.kla_obj "<lambda>" qual params body scope cl pm c' ctv) ∧ (c', LamX.CodeO c' qual) ∈ kn ∧ z.ds.length = fr.length ∧ z.vs.length = fr.length ∧
    (∀ y c, cl.lookup y = some c → ∃ v, base.IsCell c v) ∧ (∀ x y c, cl.lookup x = some c → cl.lookup y = some c → x = y) ∧
    ∀ (i : Nat) (y : Str), fr[i]? = some y → ∃ c, cl.lookup y = some c ∧ ∀ v, z.vs[i]? = some v → ∃ u, RelV v u ∧ base.IsCell c (some u)
/-- the written part's data -/
abbrev RepK (G : Gx) (d : D) (v : V) : Prop := Rep G (fun _ => none) (fun _ => False) [] d v
theorem RepK.rep {G : Gx} {d : D} {v : V} {H : L2.Hp} {Lv : Addr → Prop} {m : List Addr} (r : RepK G d v) : Rep G H Lv m d v :=
  r.mono (hot := fun _ => False) ⟨fun i a e => (by simp at e), fun a u e _ _ => (by rcases e with e | ⟨o, e⟩ <;> cases e), fun a C dx fs e _ => (by cases e), fun a _ => .inr (nr_none rfl), fun _ z => z.elim⟩
/-- a written table with text keys -/
structure KTab (K : PySem.W.Frag) (w : World) (G : Gx) (a : Addr) (l : List (Cs × D)) : Prop where
  kd : ∃ es n, KDict K w a es n
  val : ∀ z : Cs, ∃ r, PySem.W.nsIn K a (str z) = some r ∧ (match l.lookup z with
    | none => r = none
    | some d => ∃ u v, r = some u ∧ RelV v u ∧ RepK G d v)
theorem KTab.heat {K : PySem.W.Frag} {w : World} {G : Gx} {a : Addr} {l : List (Cs × D)} (t : KTab K w G a l) (z : Ht) : KTab K w (G.heat z) a l := ⟨t.kd, fun x => by
  obtain ⟨r, h1, h2⟩ := t.val x
  refine ⟨r, h1, ?_⟩
  split at h2
  · exact h2
  · obtain ⟨u, v, q1, q2, q3⟩ := h2
    exact ⟨u, v, q1, q2, q3.heat z⟩⟩
abbrev bmV : List Value := [.type "ValueError", .type "Exception", .type "BaseException", .type "object"]
/-- what a class of exceptions says -/
structure ClsOk (K : PySem.W.Frag) (mg : Str → Option Value) (ca : Nat → Addr) (flds : Nat → List Str) (gl : List (Str × Gv)) (x : Str) (c : Nat) (sup : List Nat) (fl : List Str) : Prop where
  at_ : mg x = some (.ref (ca c))
  keep : PySem.W.keepIn K (.ref (ca c)) = true
  exb : PySem.W.subIn K (.ref (ca c)) (.type "BaseException") = some true
  ty : PySem.W.typeIn K (.ref (ca c)) = some (.type "type")
  hd : PySem.W.hasDictIn K (ca c) = true
  is : ExcC K (ca c)
  xf : XfC K (ca c)
  flc : flds c = fl
  ve : PySem.W.kitOne K (.ref (ca c)) (.type "ValueError") = some true
  no : ∀ f ∈ fl, PySem.W.findIn K (.ref (ca c)) f = some none
  made : fl = [] → PySem.W.excIn K (ca c) bmV "ValueError.__new__" = true
  sub : ∀ y d s f, gl.lookup y = some (.cls d s f) → PySem.W.subIn K (.ref (ca c)) (.ref (ca d)) = some (sup.contains d) ∧ PySem.W.kitOne K (.ref (ca c)) (.ref (ca d)) = some (sup.contains d)
/-- an __init__ that keeps its arguments as fields -/
def initB : List Str → List Stmt → Bool
  | [], [] => true
  | f :: fs, .Assign [.Attribute (.Name s _) g _] (.Name y _) _ :: r => decide (s = "self") && (decide (g = f) && (decide (y = f) && ((!(f == ("__debug__" : Str)) && !(f == ("__classdict__" : Str))) && initB fs r)))
  | _, _ => false
/-- a class of exceptions with fields, its __init__ -/
structure InitK (K : PySem.W.Frag) (C : Addr) (fl : List Str) : Prop where
  oex : OexC K C
  no : ∀ f ∈ fl, PySem.W.findIn K (.ref C) f = some none
  ex : ∃ (x qual : Str) (params : Arguments) (body : List Stmt) (scope : Scope) (kws : List (Str × V)) (fI : Addr) (fd : FuncData), FunD K x qual params body scope [] kws fI fd ∧ FnScope (("self" : Str) :: fl) (("self" : Str) :: fl) scope ∧ Binds K fd (("self" : Str) :: fl) [] ∧
    initB fl body = true ∧ fl.length ≤ 900 ∧ PySem.W.findIn K (.ref C) "__init__" = some (some (.ref fI)) ∧ PySem.W.typeIn K (.ref fI) = some (.type "function")
/-- where one stands: the context's facts -/
structure Ctx (G : Gx) (C : Cl) (W : WX) (X : Cx) : Prop where
  k : X.K = G.K
  call : C.call = callK C.P C.lev none
  calm : X.calm = true
  nd : X.N.Nodup
  room : Rm C.lev X.A
  kall : C.kall = fun k => callK C.P C.lev (some k)
  ks : C.ks = G.ht.clo.map fun z => (z.f, z.ds)
  fns : ∀ f ∈ G.fns, ∃ fd ps, (∀ base hot kn, FOk X.prog X.w X.K X.mg base C.lev (G.fa f) fd ps (spU (G.heat ⟨hot, kn, none⟩) C.P C.lev f)) ∧ PySem.W.keepIn X.K (.ref (G.fa f)) = true ∧ Binds X.K fd ps []
  hfs : ∀ f ∈ G.hfs, ∃ fd ps j, (∀ base hot kn z, z.j = j → LRun X.prog X.w X.K X.mg base C.lev G kn C.P z → FOk X.prog X.w X.K X.mg base C.lev (G.fa f) fd ps (spK (G.heat ⟨hot, kn, some z⟩) C.P C.lev f z)) ∧ PySem.W.keepIn X.K (.ref (G.fa f)) = true ∧ Binds X.K fd ps []
  ghf : ∀ x f, G.gl.lookup x = some (.hf f) → f ∈ G.hfs ∧ X.mg x = some (.ref (G.fa f))
  lam : ∀ z, G.ht.clo = some z → LRun X.prog X.w X.K X.mg X.base C.lev G G.ht.kn C.P z
  mkl : ∀ g ps fr params body scope, G.lamT g ps fr params body scope → ∀ base kn z, z.f = g → CloB base kn ps fr params body scope z → LRun X.prog X.w X.K X.mg base C.lev G kn C.P z
  tabu : ∀ p ∈ G.tabs, ∀ q ∈ G.tabs, p.1 = q.1 → p.2 = q.2
  gfn : ∀ x f, G.gl.lookup x = some (.fn f) → f ∈ G.fns ∧ X.mg x = some (.ref (G.fa f))
  gcst : ∀ x d, G.gl.lookup x = some (.cst d) → ∃ v u, X.mg x = some u ∧ RelV v u ∧ RepK G d v
  gkd : ∀ x l, G.gl.lookup x = some (.kdt l) → ∃ a, X.mg x = some (.ref a) ∧ KTab X.K X.w G a l
  gbl : ∀ x ∈ G.bl, X.mg x = none
  gcl : ∀ x c sup fl, G.gl.lookup x = some (.cls c sup fl) → ClsOk X.K X.mg G.ca G.flds G.gl x c sup fl
  ini : ∀ x c sup fl, G.gl.lookup x = some (.cls c sup fl) → fl ≠ [] → InitK X.K (G.ca c) fl
  fix : ∀ c k j, C.P.fix c k = some j → (G.flds c)[j]? = some (str k) ∧ PySem.W.findIn X.K (.ref (G.ca c)) (str k) = some none
  fixI : ∀ c k j, C.P.fixI c k = some j → (G.flds c)[j]? = some (str k) ∧ NoAttr X.K (G.ca c) (str k) ∧ Cls X.K (G.ca c)
  tk : TakesF X W
  po : PassesOwn (model X.prog X.w) X.A X.env X.xe
section
variable {X : Cx} {G : Gx} {C : Cl} {W : WX}
theorem Ctx.bd (c : Ctx G C W X) : X.A.units + C.bd + 50 < cLine := by
  have := c.room.un
  unfold Cl.bd
  omega
end
section
variable {G : Gx} {m m' : List Addr} {h h' : Hs} {H H' : L2.Hp}
/-- other things known -/
theorem HRel.to (kn : List (Addr × HO)) (c : Option CloI) (r : HRel G m h H) (k : ∀ p ∈ kn, H p.1 = some p.2 ∧ isExt p.2) : HRel (G.heat ⟨G.hot, kn, c⟩) m h H :=
  ⟨r.len, fun i a d h1 h2 => by
    have q := r.cell i a d h1 h2
    cases d with
    | lst l => obtain ⟨vs, q1, q2⟩ := q; exact ⟨vs, q1, q2.heat _⟩
    | dct l => obtain ⟨vs, q1, q2, q3, q4⟩ := q; exact ⟨vs, q1, q2, q3, q4.heat _⟩
    | ins c l => obtain ⟨dx, fs, vs, q1, q2, q3⟩ := q; exact ⟨dx, fs, vs, q1, q2, q3.heat _⟩
    | non => trivial
    | _ => exact q.elim, r.inj, r.hotv, r.cold, r.tab, k⟩
theorem HRel.fro {kn : List (Addr × HO)} {c : Option CloI} (r : HRel (G.heat ⟨G.hot, kn, c⟩) m h H) (k : ∀ p ∈ G.ht.kn, p ∈ kn) : HRel G m h H :=
  HRel.to (G := G.heat ⟨G.hot, kn, c⟩) G.ht.kn G.ht.clo r fun p hp => r.kn p (k p hp)
theorem RepX.heat (z : Ht) {c : Nat} {l : List D} {cls : Value} {d : Option Addr} {Lv : Addr → Prop} (r : RepX G H Lv m c l cls d) : RepX (G.heat z) H Lv m c l cls d := by
  obtain ⟨r1, r2, r3⟩ := r
  refine ⟨r1, r2, ?_⟩
  rcases r3 with r3 | ⟨dx, fs, vs, q1, q2, q3, q4, q5, q6⟩
  · exact .inl r3
  · exact .inr ⟨dx, fs, vs, q1, q2, q3, q4, q5, q6.heat z⟩
theorem spU_to {P : Prog} {n f : Nat} {vs : List V} {Q : VK} {E : XK} (h : spU G P n f vs H Q E) : spU (G.heat ⟨G.hot, G.ht.kn, none⟩) P n f vs H Q E := by
  obtain ⟨m, h, ds, r, p, ok⟩ := h
  exact ⟨m, h, ds, r.to _ _ r.kn, p.heat _, okR_mono ok (fun d h1 q m2 v H2 y r p => q m2 v H2 y (HRel.fro r fun _ z => z) (p.heat G.ht)) fun cc ll h2 q m2 H2 cls d y r p => q m2 H2 cls d y (HRel.fro r fun _ z => z) (p.heat G.ht)⟩
theorem spL_to {P : Prog} {n : Nat} {z : CloI} {vs : List V} {Q : VK} {E : XK} (h : spL G P n z vs H Q E) : spL (G.heat ⟨G.hot, G.ht.kn, none⟩) P n z vs H Q E := by
  obtain ⟨m, h, ds, r, p, p2, ok⟩ := h
  exact ⟨m, h, ds, r.to _ _ r.kn, p.heat _, p2.heat _, okR_mono ok (fun d h1 q m2 v H2 y r p => q m2 v H2 y (HRel.fro r fun _ z => z) (p.heat G.ht)) fun cc ll h2 q m2 H2 cls d y r p => q m2 H2 cls d y (HRel.fro r fun _ z => z) (p.heat G.ht)⟩
theorem spK_to {P : Prog} {n f : Nat} {z : CloI} {vs : List V} {Q : VK} {E : XK} (kn : List (Addr × HO)) (k : ∀ p ∈ kn, H p.1 = some p.2 ∧ isExt p.2) (k2 : ∀ p ∈ G.ht.kn, p ∈ kn) (h : spK G P n f z vs H Q E) : spK (G.heat ⟨G.hot, kn, some z⟩) P n f z vs H Q E := by
  obtain ⟨vs0, m, h, ds, e, r, p, p2, ok⟩ := h
  exact ⟨vs0, m, h, ds, e, r.to _ _ k, p.heat _, p2.heat _, okR_mono ok (fun d h1 q m2 v H2 y r p => q m2 v H2 y (HRel.fro r k2) (p.heat G.ht)) fun cc ll h2 q m2 H2 cls d y r p => q m2 H2 cls d y (HRel.fro r k2) (p.heat G.ht)⟩
end
section
variable {X : Cx} {G : Gx} {C : Cl} {W : WX}
/-- the callee runs -/
theorem run_call (c : Ctx G C W X) {f : Nat} (hf : f ∈ G.fns) {pins : List (Addr × Obj)} {σ : L2.St} {H : L2.Hp} {s : Shared} {Q : VK} {us : List Value} {vs : List V} (I : Inv X pins σ H s) (r : Vals vs us)
    (h : spU G C.P C.lev f vs H Q (fun cls d H' => W cls d σ H')) : wpAny (model X.prog X.w) X.A (call (.ref (G.fa f)) us) (EP X pins σ Q) X.xe s := by
  obtain ⟨fd, ps, F, _, hb⟩ := c.fns f hf
  have h := spU_to h
  have hl : us.length = ps.length := by rw [← r.length]; exact (F X.base G.hot G.ht.kn).len _ _ _ _ h
  have hz : us ++ [] = us := List.append_nil us
  have hb' := hb s us I.kIn (by rw [hz]; exact hl)
  rw [hz] at hb'
  refine wpAny_call (codeAny_mono ((F X.base G.hot G.ht.kn).run X.A X.stack s H ⟨us, []⟩ us vs Q _ c.room I.env0 hb' r h) fun r s' hq => ?_)
  cases r with
  | error e => exact c.tk.call I (fun _ _ _ z => z) hq
  | ok fl =>
    cases fl with
    | ret u => exact I.after hq
    | next => exact hq.elim
    | brk => exact hq.elim
    | cont => exact hq.elim
theorem tE_call (c : Ctx G C W X) {f : Nat} {l : EL} : ∀ σ H Q, tE G C W (.call f l) σ H Q → tL G C W l σ H (fun vs H1 => spU G C.P C.lev f vs H1 Q (fun cls d H' => W cls d σ H')) := fun σ H Q ⟨m, h, ρ, st, ok⟩ => by
  simp only [evE] at ok
  refine tL_step st ok fun ds h1 m1 vs H1 x1 r1 p1 st1 ok1 => ?_
  rw [c.call] at ok1
  exact ⟨m1, h1, ds, r1, p1, okR_mono ok1 (fun d h2 q m2 v H2 y r p => q m2 v H2 (x1.trans y) r p) fun cc ll h2 q m2 H2 cls d y r p => q m2 H2 cls d (x1.trans y) r p⟩
theorem se_call (c : Ctx G C W X) {f : Nat} {x : Str} {p pos : Pos} {e : Expr} {es : List Expr} {l : EL} (hx : G.gl.lookup x = some (.fn f)) (hg : Gl X x) (hd : (x == ("__debug__" : Str)) = false) (hs : SA X G C W (e :: es) l) :
    SE X G C W (.Call (.Name x p) (e :: es) [] pos) (.call f l) := by
  obtain ⟨hf, hm⟩ := c.gfn x f hx
  obtain ⟨fd, ps, F, hk, hb⟩ := c.fns f hf
  refine .plain ⟨fun pins s σ H Q I h => ?_⟩ rfl
  have h := tE_call c σ H Q h
  refine wpAny_Call_Name_kw (ld_glob I hg hm ?_ hd)
  refine PySem.W.callWith_K (h₀ := X.base) I.ok.mod.kin hk (thn (hs.pa.run pos pins s σ H _ I h) fun us s1 ⟨vs, H1, I1, r, q⟩ => ⟨I1.kIn, ?_⟩) (starEach_cons (hs.st e (by simp))) (backTo_any fun e' he => hs.st e' (by simp [he]))
  exact run_call c hf I1 r q
theorem se_call0 (c : Ctx G C W X) {f : Nat} {x : Str} {p pos : Pos} (hx : G.gl.lookup x = some (.fn f)) (hg : Gl X x) (hd : (x == ("__debug__" : Str)) = false) : SE X G C W (.Call (.Name x p) [] [] pos) (.call f .nil) := by
  obtain ⟨hf, hm⟩ := c.gfn x f hx
  obtain ⟨fd, ps, F, hk, hb⟩ := c.fns f hf
  refine .plain ⟨fun pins s σ H Q I h => ?_⟩ rfl
  obtain ⟨m, h, ρ, st, ok⟩ := tE_call c σ H Q h
  have q := ok m [] H .refl st.rel .nil
  refine wpAny_Call_Name_kw (ld_glob I hg hm ?_ hd)
  exact PySem.W.callWith_K0 I.kIn hk (run_call (us := []) c hf I .nil q)
theorem se_gcst (c : Ctx G C W X) {x : Str} {d : D} {pos : Pos} (hx : G.gl.lookup x = some (.cst d)) (hg : Gl X x) (hd : (x == ("__debug__" : Str)) = false) : SE X G C W (.Name x pos) (.cst d) := by
  obtain ⟨v, u, hm, r, k⟩ := c.gcst x d hx
  exact .plain (pe_of (pe_glob hg hm r hd) fun σ H Q ⟨m, h, ρ, st, ok⟩ => ok m v H .refl st.rel k.rep) rfl
end
end PV
set_option Elab.async false
set_option autoImplicit false
set_option maxRecDepth 100000
set_option maxHeartbeats 1000000
namespace PV
open PySem PySem.Spec PyProof.Rows L2
/-- what came of a statement -/
def okSR (G : Gx) (W : WX) (m : List Addr) (h : Hs) (H : L2.Hp) (Z : Ends) : SR → Prop
  | .nx ρ h' => ∀ m' σ' H', Ext G m h H m' h' H' → Stt G m' h' ρ σ' H' → Z.nx σ' H'
  | .rt d h' => ∀ m' v H', Ext G m h H m' h' H' → HRel G m' h' H' → Rep G H' (Live G m' h') m' d v → Z.rt v H'
  | .bk ρ h' => ∀ m' σ' H', Ext G m h H m' h' H' → Stt G m' h' ρ σ' H' → Z.bk σ' H'
  | .ct ρ h' => ∀ m' σ' H', Ext G m h H m' h' H' → Stt G m' h' ρ σ' H' → Z.ct σ' H'
  | .ex c l ρ h' => ∀ m' σ' H' cls d, Ext G m h H m' h' H' → Stt G m' h' ρ σ' H' → RepX G H' (Live G m' h') m' c l cls d → W cls d σ' H'
  | .bad => False
def tS (G : Gx) (C : Cl) (W : WX) (s : S) : TS := fun Z σ H => ∃ m h ρ, Stt G m h ρ σ H ∧ okSR G W m h H Z (evS C s ρ h)
def tSL (G : Gx) (C : Cl) (W : WX) (s : SL) : TS := fun Z σ H => ∃ m h ρ, Stt G m h ρ σ H ∧ okSR G W m h H Z (evSL C s ρ h)
section
variable {G : Gx} {C : Cl} {W : WX} {m m' : List Addr} {h h' : Hs} {ρ : Env} {σ : L2.St} {H H' : L2.Hp} {Z : Ends}
theorem okSR_later {r : SR} (x : Ext G m h H m' h' H') (ok : okSR G W m h H Z r) : okSR G W m' h' H' Z r := by
  cases r with
  | nx ρ h2 => exact fun m2 σ2 H2 y s => ok m2 σ2 H2 (x.trans y) s
  | rt d h2 => exact fun m2 v H2 y r p => ok m2 v H2 (x.trans y) r p
  | bk ρ h2 => exact fun m2 σ2 H2 y s => ok m2 σ2 H2 (x.trans y) s
  | ct ρ h2 => exact fun m2 σ2 H2 y s => ok m2 σ2 H2 (x.trans y) s
  | ex c l ρ h2 => exact fun m2 σ2 H2 cls d y s p => ok m2 σ2 H2 cls d (x.trans y) s p
  | bad => exact ok
theorem thenS_bad {α : Type} {r : R α} {f : α → Hs → SR} (ok : okSR G W m h H Z (r.thenS ρ f)) (st : Stt G m h ρ σ H) :
    okR r (fun a h1 => okSR G W m h H Z (f a h1)) (fun c l h' => ∀ m' H' cls d, Ext G m h H m' h' H' → HRel G m' h' H' → RepX G H' (Live G m' h') m' c l cls d → W cls d σ H') := by
  cases r with
  | ok a h1 => exact ok
  | ex c l h1 => exact fun m' H' cls d x r p => ok m' σ H' cls d x (st.later x r) p
  | bad => exact ok.elim
theorem thenS_of {α : Type} {o : Option α} {f : α → Hs → SR} (ok : okSR G W m h H Z ((R.ofO o h').thenS ρ f)) : ∃ a, o = some a ∧ okSR G W m h H Z (f a h') := by
  cases o with
  | none => exact ok.elim
  | some a => exact ⟨a, rfl, ok⟩
/-- an expression of a statement, then on -/
theorem tS_step {e : E} {f : D → Hs → SR} {Q : VK} (st : Stt G m h ρ σ H) (ok : okSR G W m h H Z ((evE C e ρ h).thenS ρ f))
    (k : ∀ d h1 m1 v H1, Ext G m h H m1 h1 H1 → HRel G m1 h1 H1 → Rep G H1 (Live G m1 h1) m1 d v → Stt G m1 h1 ρ σ H1 → okSR G W m1 h1 H1 Z (f d h1) → Q v H1) : tE G C W e σ H Q :=
  ⟨m, h, ρ, st, okR_mono (thenS_bad ok st) (fun d h1 q m1 v H1 x r p => k d h1 m1 v H1 x r p (st.later x r) (okSR_later x q)) fun _ _ _ q => q⟩
theorem tSL_step {e : EL} {f : List D → Hs → SR} {Q : List V → L2.Hp → Prop} (st : Stt G m h ρ σ H) (ok : okSR G W m h H Z ((evL C e ρ h).thenS ρ f))
    (k : ∀ d h1 m1 v H1, Ext G m h H m1 h1 H1 → HRel G m1 h1 H1 → RepL G H1 (Live G m1 h1) m1 d v → Stt G m1 h1 ρ σ H1 → okSR G W m1 h1 H1 Z (f d h1) → Q v H1) : tL G C W e σ H Q :=
  ⟨m, h, ρ, st, okR_mono (thenS_bad ok st) (fun d h1 q m1 v H1 x r p => k d h1 m1 v H1 x r p (st.later x r) (okSR_later x q)) fun _ _ _ q => q⟩
theorem getD_set (ρ : Env) (i j : Nat) (d d' : D) (e : (ρ.set i (some d)).getD j none = some d') : (i = j ∧ j < ρ.length ∧ d = d') ∨ (i ≠ j ∧ ρ.getD j none = some d') := by
  simp only [List.getD_eq_getElem?_getD, List.getElem?_set] at e ⊢
  by_cases hij : i = j
  · subst hij
    by_cases hl : i < ρ.length
    · simp [hl] at e; exact .inl ⟨rfl, hl, e⟩
    · simp [hl] at e
  · simp [hij] at e; exact .inr ⟨hij, e⟩
theorem Stt.set (s : Stt G m h ρ σ H) {i : Nat} {d : D} {v : V} (nc : NoClo G i) (r : Rep G H (Live G m h) m d v) : Stt G m h (ρ.set i (some d)) (σ.set i (some v)) H :=
  ⟨s.rel, fun j d' e => by
    rcases getD_set ρ i j d d' e with ⟨rfl, hl, rfl⟩ | ⟨hij, e⟩
    · exact ⟨v, by rw [List.getElem?_set_self (by rw [← s.len]; exact hl)], r⟩
    · obtain ⟨v', h1, h2⟩ := s.slot j d' e
      exact ⟨v', by rw [List.getElem?_set_ne hij]; exact h1, h2⟩, by simp [s.len], fun z q => ⟨by rw [List.getElem?_set_ne (nc z q)]; exact (s.clo z q).1, (s.clo z q).2⟩⟩
theorem getD_none (ρ : Env) (i j : Nat) (d' : D) (e : (ρ.set i none).getD j none = some d') : i ≠ j ∧ ρ.getD j none = some d' := by
  simp only [List.getD_eq_getElem?_getD, List.getElem?_set] at e ⊢
  by_cases hij : i = j
  · subst hij
    by_cases hl : i < ρ.length <;> simp [hl] at e
  · simp [hij] at e; exact ⟨hij, e⟩
theorem Stt.unset (s : Stt G m h ρ σ H) {i : Nat} (nc : NoClo G i) : Stt G m h (ρ.set i none) (σ.set i none) H :=
  ⟨s.rel, fun j d' e => by
    obtain ⟨hij, e⟩ := getD_none ρ i j d' e
    obtain ⟨v', h1, h2⟩ := s.slot j d' e
    exact ⟨v', by rw [List.getElem?_set_ne hij]; exact h1, h2⟩, by simp [s.len], fun z q => ⟨by rw [List.getElem?_set_ne (nc z q)]; exact (s.clo z q).1, (s.clo z q).2⟩⟩
theorem Stt.wipe (s : Stt G m h ρ σ H) : ∀ l : List Nat, (∀ i ∈ l, NoClo G i) → Stt G m h (wipeE ρ l) (L2.wipe σ l) H
  | [], _ => s
  | i :: l, nc => (s.wipe l fun j hj => nc j (by simp [hj])).unset (nc i (by simp))
end
section
variable {X : Cx} {G : Gx} {C : Cl} {W : WX} {pos : Pos} {e : Expr} {ce : E}
theorem ps_of {st : Stmt} {t t' : TS} (hp : PS X st t) (k : ∀ Z σ H, t' Z σ H → t Z σ H) : PS X st t' := ⟨fun pins s σ H Z I q => hp.run pins s σ H Z I (k _ _ _ q)⟩
theorem pss_of {st : List Stmt} {t t' : TS} (hp : PSs X st t) (k : ∀ Z σ H, t' Z σ H → t Z σ H) : PSs X st t' := ⟨fun pins s σ H Z I q => hp.run pins s σ H Z I (k _ _ _ q)⟩
theorem sl_nil : PSs X [] (tSL G C W .nil) := pss_of pss_nil fun Z σ H ⟨m, h, ρ, st, ok⟩ => by
  simp only [evSL] at ok
  exact ok m σ H .refl st
theorem sl_cons {st : Stmt} {rest : List Stmt} {s : S} {l : SL} (h1 : PS X st (tS G C W s)) (h2 : PSs X rest (tSL G C W l)) : PSs X (st :: rest) (tSL G C W (.cons s l)) :=
  pss_of (pss_cons h1 h2) fun Z σ H ⟨m, h, ρ, st, ok⟩ => by
    simp only [evSL] at ok
    refine ⟨m, h, ρ, st, ?_⟩
    cases q : evS C s ρ h with
    | nx ρ1 h1 =>
      rw [q] at ok
      exact fun m1 σ1 H1 x s1 => ⟨m1, h1, ρ1, s1, okSR_later x ok⟩
    | rt d h1 => rw [q] at ok; exact ok
    | bk ρ1 h1 => rw [q] at ok; exact ok
    | ct ρ1 h1 => rw [q] at ok; exact ok
    | ex c l ρ1 h1 => rw [q] at ok; exact ok
    | bad => rw [q] at ok; exact ok
theorem ss_pass : PS X (.Pass pos) (tS G C W .pass) := ps_of ps_pass fun Z σ H ⟨m, h, ρ, st, ok⟩ => by
  simp only [evS] at ok
  exact ok m σ H .refl st
theorem ss_brk : PS X (.Break pos) (tS G C W .brk) := ps_of ps_break fun Z σ H ⟨m, h, ρ, st, ok⟩ => by
  simp only [evS] at ok
  exact ok m σ H .refl st
theorem ss_cont : PS X (.Continue pos) (tS G C W .cont) := ps_of ps_continue fun Z σ H ⟨m, h, ρ, st, ok⟩ => by
  simp only [evS] at ok
  exact ok m σ H .refl st
theorem ss_expr (he : SE X G C W e ce) (hs : swapsWith e none pos.line X.env = pure false) : PS X (.Expr e pos) (tS G C W (.expr ce)) := ps_of (ps_expr he.pe hs) fun Z σ H ⟨m, h, ρ, st, ok⟩ => by
  simp only [evS] at ok
  exact tS_step st ok fun d h1 m1 v H1 x r p st1 ok1 => ok1 m1 σ H1 .refl st1
theorem ss_ret (he : SE X G C W e ce) : PS X (.Return (some e) pos) (tS G C W (.ret ce)) := ps_of (ps_ret he.pe) fun Z σ H ⟨m, h, ρ, st, ok⟩ => by
  simp only [evS] at ok
  exact tS_step st ok fun d h1 m1 v H1 x r p st1 ok1 => ok1 m1 v H1 .refl r p
theorem ss_retN : PS X (.Return none pos) (tS G C W (.ret (.cst .non))) := ps_of ps_retN fun Z σ H ⟨m, h, ρ, st, ok⟩ => by
  simp only [evS, evE, R.thenS] at ok
  exact ok m _ H .refl st.rel .non
theorem ss_set (c : Ctx G C W X) {i : Nat} {x : Str} {p : Pos} (nc : NoClo G i) (hi : X.N[i]? = some x) (hx : Loc X.env.scope x) (he : SE X G C W e ce) (hs : swapsWith e (some (.Name x p)) pos.line X.env = pure false)
    (hf : X.fn x = true ∨ X.env.scope.names.lookup x = some .local) : PS X (.Assign [.Name x p] e pos) (tS G C W (.asg (.nm i) ce)) := ps_of (ps_set c.nd hi hx he.pe hs hf) fun Z σ H ⟨m, h, ρ, st, ok⟩ => by
  simp only [evS] at ok
  refine tS_step st ok fun d h1 m1 v H1 x r p st1 ok1 => ?_
  simp only [Pat.bnd, R.ofO, R.thenS] at ok1
  exact ok1 m1 _ H1 .refl (st1.set nc p)
theorem ss_if {ec : Expr} {cc : E} {a b : List Stmt} {sa sb : SL} (hc : SE X G C W ec cc) (ha : PSs X a (tSL G C W sa)) (hb : PSs X b (tSL G C W sb)) : PS X (.If ec a b pos) (tS G C W (.ife cc sa sb)) :=
  ps_of (ps_if hc.pt ha hb) fun Z σ H ⟨m, h, ρ, st, ok⟩ => by
    simp only [evS] at ok
    refine tS_step st ok fun d h1 m1 v H1 x r p st1 ok1 => ?_
    obtain ⟨q, e1, ok1⟩ := thenS_of ok1
    rw [asB_some e1] at p
    cases p
    refine ⟨q, rfl, ?_⟩
    cases q with
    | true => exact ⟨m1, h1, ρ, st1, ok1⟩
    | false => exact ⟨m1, h1, ρ, st1, ok1⟩
/-- where a suite ends: the state may have other names than the expression had -/
theorem okSR_bodyW {r : SR} {m : List Addr} {h : Hs} {H : L2.Hp} {Z Z' : Ends} (ok : okSR G W m h H Z r) (n : ∀ σ H, Z.nx σ H → Z'.nx σ H) (t : ∀ v H, Z.rt v H → Z'.rt v H) (b : ∀ σ H, Z.bk σ H → Z'.bk σ H) (c : ∀ σ H, Z.ct σ H → Z'.ct σ H) : okSR G W m h H Z' r := by
  cases r with
  | nx ρ h2 => exact fun m2 σ2 H2 y s => n _ _ (ok m2 σ2 H2 y s)
  | rt d h2 => exact fun m2 v H2 y r p => t _ _ (ok m2 v H2 y r p)
  | bk ρ h2 => exact fun m2 σ2 H2 y s => b _ _ (ok m2 σ2 H2 y s)
  | ct ρ h2 => exact fun m2 σ2 H2 y s => c _ _ (ok m2 σ2 H2 y s)
  | ex c l ρ h2 => exact ok
  | bad => exact ok
/-- while -/
theorem whl_inv {ec : E} {sb : SL} {Z : Ends} {Q : Bool → L2.Hp → Prop} : ∀ (n : Nat) {m : List Addr} {h : Hs} {ρ : Env} {σ : L2.St} {H : L2.Hp}, Stt G m h ρ σ H →
    okSR G W m h H Z (whlS (fun ρ h => (evE C ec ρ h).then fun x h => R.ofO (asB x) h) (evSL C sb) n ρ h) →
    ∃ k, n = k + 1 ∧ tB (tE G C W ec) σ H (fun b H1 => if b = true then ∃ N : L2.St → L2.Hp → Prop,
      (∀ σ' H', N σ' H' → ∃ m' h' ρ', Stt G m' h' ρ' σ' H' ∧ okSR G W m' h' H' Z (whlS (fun ρ h => (evE C ec ρ h).then fun x h => R.ofO (asB x) h) (evSL C sb) k ρ' h')) ∧
      tSL G C W sb { Z with nx := N, ct := N, bk := Z.nx } σ H1 else Z.nx σ H1)
  | 0, m, h, ρ, σ, H, st, ok => ok.elim
  | n + 1, m, h, ρ, σ, H, st, ok => by
    refine ⟨n, rfl, m, h, ρ, st, ?_⟩
    unfold whlS at ok
    cases q : evE C ec ρ h with
    | bad => rw [q] at ok; exact ok.elim
    | ex c l h1 =>
      rw [q] at ok
      exact fun m1 H1 cls d x r p => ok m1 σ H1 cls d x (st.later x r) p
    | ok d h1 =>
      rw [q] at ok
      intro m1 v H1 x r p
      have st1 := st.later x r
      cases e1 : asB d with
      | none => simp only [R.then, R.ofO, e1] at ok; exact ok.elim
      | some b =>
        simp only [R.then, R.ofO, e1] at ok
        rw [asB_some e1] at p
        cases p
        refine ⟨b, rfl, ?_⟩
        cases b with
        | false => exact ok m1 σ H1 x st1
        | true =>
          simp only [if_true]
          refine ⟨fun σ' H' => ∃ m' h' ρ', Stt G m' h' ρ' σ' H' ∧ okSR G W m' h' H' Z (whlS (fun ρ h => (evE C ec ρ h).then fun x h => R.ofO (asB x) h) (evSL C sb) n ρ' h'), fun σ' H' z => z, m1, h1, ρ, st1, ?_⟩
          cases q2 : evSL C sb ρ h1 with
          | nx ρ2 h2 => simp only [q2] at ok; exact fun m2 σ2 H2 y s => ⟨m2, h2, ρ2, s, okSR_later (x.trans y) ok⟩
          | ct ρ2 h2 => simp only [q2] at ok; exact fun m2 σ2 H2 y s => ⟨m2, h2, ρ2, s, okSR_later (x.trans y) ok⟩
          | bk ρ2 h2 => simp only [q2] at ok; exact fun m2 σ2 H2 y s => ok m2 σ2 H2 (x.trans y) s
          | rt d2 h2 => simp only [q2] at ok; exact fun m2 v2 H2 y r p => ok m2 v2 H2 (x.trans y) r p
          | ex c l ρ2 h2 => simp only [q2] at ok; exact fun m2 σ2 H2 cls d y s p => ok m2 σ2 H2 cls d (x.trans y) s p
          | bad => simp only [q2] at ok; exact ok.elim
theorem ss_whl (cx : Ctx G C W X) {ec : Expr} {cc : E} {b : List Stmt} {sb : SL} (hc : SE X G C W ec cc) (hb : PSs X b (tSL G C W sb)) : PS X (.While ec b [] pos) (tS G C W (.whl cc sb)) :=
  ps_of (ps_while cx.po hc.pt hb) fun Z σ H ⟨m, h, ρ, st, ok⟩ => by
    simp only [evS] at ok
    refine ⟨fun n σ H => ∃ m h ρ, Stt G m h ρ σ H ∧ okSR G W m h H Z (whlS (fun ρ h => (evE C cc ρ h).then fun x h => R.ofO (asB x) h) (evSL C sb) n ρ h), ⟨most, m, h, ρ, st, ok⟩, ?_⟩
    rintro n σ H ⟨m, h, ρ, st, ok⟩
    obtain ⟨k, rfl, m', h', ρ', st', q⟩ := whl_inv (Q := fun _ _ => True) n st ok
    refine ⟨m', h', ρ', st', okR_mono q (fun d h1 q m1 v H1 x r p => ?_) fun _ _ _ q => q⟩
    obtain ⟨b, e1, q⟩ := q m1 v H1 x r p
    refine ⟨b, e1, ?_⟩
    cases b with
    | false => exact q
    | true =>
      simp only [if_true] at q ⊢
      obtain ⟨N, hN, q⟩ := q
      exact ⟨N, fun σ' H' z => ⟨k, by omega, hN σ' H' z⟩, q⟩
end
end PV
set_option Elab.async false
set_option autoImplicit false
set_option maxRecDepth 100000
set_option maxHeartbeats 1000000
namespace PV
open PySem PySem.Spec PyProof.Rows L2
theorem Ext0.tr {hot : Addr → Prop} {H H' H2 : L2.Hp} {Lv Lv' Lv2 : Addr → Prop} {m m' m2 : List Addr} (a : Ext0 hot H H' Lv Lv' m m') (b : Ext0 hot H' H2 Lv' Lv2 m' m2) : Ext0 hot H H2 Lv Lv2 m m2 where
  pre := fun i c e => b.pre i c (a.pre i c e)
  rd := fun c u r n t => b.rd c u (a.rd c u r n t) (a.nLv n r t) t
  ins := fun c C dx fs r n => b.ins c C dx fs (a.ins c C dx fs r n) (a.nLv n (.inl r))
  nl := fun c l => by
    rcases b.nl c l with l | l
    · exact a.nl c l
    · by_cases z : Lv c
      · exact .inl z
      · refine .inr ?_
        exact fun u r t => l u (a.rd c u r z t) t
  hot := fun c z => (b.hot c z).trans (a.hot c z)
theorem Ext0.cool {hot hot' : Addr → Prop} {H H' : L2.Hp} {Lv Lv' : Addr → Prop} {m m' : List Addr} (a : Ext0 hot H H' Lv Lv' m m') (k : ∀ c, hot' c → hot c) : Ext0 hot' H H' Lv Lv' m m' :=
  ⟨a.pre, a.rd, a.ins, a.nl, fun c z => a.hot c (k c z)⟩
theorem vw_stay {h h' : Hs} {d : D} {r : List D} (e : stay h h' (d :: r) = true) : vw h' d = vw h d := by
  cases d <;> try rfl
  rename_i i
  simp only [stay, Bool.and_eq_true, decide_eq_true_eq] at e
  simp only [vw, List.getD_eq_getElem?_getD, e.1]
theorem stay_tail {h h' : Hs} {d : D} {r : List D} (e : stay h h' (d :: r) = true) : stay h h' r = true := by
  cases d <;> simp_all [stay]
theorem stay_refl (h : Hs) : ∀ l : List D, stay h h l = true
  | [] => rfl
  | d :: r => by
    have := stay_refl h r
    cases d <;> simp [stay, this]
/-- it is gone through ds, whatever else happens -/
structure WkD (G : Gx) (J : It) (vs ds : List D) (m1 : List Addr) (h1 : Hs) (H1 : L2.Hp) : Prop where
  go : ∀ (z : Addr → Prop) (i : Nat) (m' : List Addr) (h' : Hs) (H' : L2.Hp), Ext0 (fun _ => False) H1 H' (Live G m1 h1) (Live (G.hotter z) m' h') m1 m' → HRel (G.hotter z) m' h' H' → stay h1 h' vs = true → i < ds.length → J.go i H'
  stop : ∀ (z : Addr → Prop) (m' : List Addr) (h' : Hs) (H' : L2.Hp), Ext0 (fun _ => False) H1 H' (Live G m1 h1) (Live (G.hotter z) m' h') m1 m' → HRel (G.hotter z) m' h' H' → stay h1 h' vs = true → J.stop ds.length H'
  yld : ∀ (z : Addr → Prop) (i : Nat) (m' : List Addr) (h' : Hs) (H' : L2.Hp) (x : V) (H2 : L2.Hp), Ext0 (fun _ => False) H1 H' (Live G m1 h1) (Live (G.hotter z) m' h') m1 m' → HRel (G.hotter z) m' h' H' → stay h1 h' vs = true → i < ds.length → J.yld i H' x H2 →
    Ext (G.hotter z) m' h' H' m' h' H2 ∧ HRel (G.hotter z) m' h' H2 ∧ ∃ d, ds[i]? = some d ∧ Rep (G.hotter z) H2 (Live (G.hotter z) m' h') m' d x
def tI (G : Gx) (C : Cl) (W : WX) (k : Ik) (l : EL) : TI := fun σ H Z => ∃ m h ρ, Stt G m h ρ σ H ∧ okR ((evL C l ρ h).then fun vs h1 => (R.ofO (through h1 k vs) h1).then fun ds h1 => R.ok (vs, ds) h1)
  (fun p h1 => ∀ m1 H1 J, Ext G m h H m1 h1 H1 → HRel G m1 h1 H1 → WkD G J p.1 p.2 m1 h1 H1 → (fine k p.1 p.2 = true → p.2.length ≤ sizeLine) → Z J H1)
  (fun c l h' => ∀ m' H' cls d, Ext G m h H m' h' H' → HRel G m' h' H' → RepX G H' (Live G m' h') m' c l cls d → W cls d σ H')
structure SI (X : Cx) (G : Gx) (C : Cl) (W : WX) (tg iter : Expr) (k : Ik) (l : EL) : Prop where
  pi : PI X tg iter (tI G C W k l)
  fs : ∀ x, foldedSetIterable iter X.env x = pure x
def tG (G : Gx) (p : Pat) : TG := fun v σ H Q => ∃ m h ρ d ρ', Stt G m h ρ σ H ∧ Rep G H (Live G m h) m d v ∧ p.bnd h d ρ = some ρ' ∧
  ∀ m' σ' H', Ext G m h H m' h H' → Stt G m' h ρ' σ' H' → (∀ i, i ∉ p.slots → σ'[i]? = σ[i]?) → Q σ' H'
section
variable {X : Cx} {G : Gx} {C : Cl} {W : WX} {pos : Pos} {tg : Expr}
theorem pg_of {t t' : TG} (hp : PG X tg t) (k : ∀ v σ H Q, t' v σ H Q → t v σ H Q) : PG X tg t' := ⟨fun pins s σ H v u Q I r q => hp.run pins s σ H v u Q I r (k _ _ _ _ q)⟩
theorem pg_nm (cx : X.N.Nodup) {i : Nat} {x : Str} (nc : NoClo G i) (hi : X.N[i]? = some x) (hx : Loc X.env.scope x) (hf : X.fn x = true ∨ X.env.scope.names.lookup x = some .local) : PG X (.Name x pos) (tG G (.nm i)) :=
  pg_of (pg_name cx hi hx hf) fun v σ H Q ⟨m, h, ρ, d, ρ', st, r, e, q⟩ => by
    simp only [Pat.bnd, Option.some.injEq] at e
    subst e
    refine q m _ H .refl (st.set nc r) fun j hj => ?_
    simp only [Pat.slots, List.mem_singleton] at hj
    rw [List.getElem?_set_ne (fun z => hj z.symm)]
theorem line_eq : line = sizeLine := by rw [sizeLine_eq]; rfl
theorem rep_str {H : L2.Hp} {Lv : Addr → Prop} {m : List Addr} {d : D} {y : Str} (r : Rep G H Lv m d (.str y)) : ∃ x, d = .str x := by
  cases r
  exact ⟨_, rfl⟩
/-! ### lists, tuples, texts as they are -/
theorem its_get {x : Cs} {i : Nat} {c : Nat} (e : (str x).cps[i]? = some c) : x[i]? = some c := by
  simpa [str] using e
theorem si_plain (hK : X.K = G.K) {e : Expr} {c : E} (he : SE X G C W e c) : PI X tg e (tI G C W .plain (.cons c .nil)) := ⟨fun pins s σ H Z I ⟨m, h, ρ, st, ok⟩ => by
  have ok1 := okR_then ok
  simp only [evL] at ok1
  have ok2 := okR_then ok1
  refine thn (he.pe.run pins s σ H (fun v H1 => ∃ m1 h1 d ds, HRel G m1 h1 H1 ∧ Rep G H1 (Live G m1 h1) m1 d v ∧ through h1 .plain [d] = some ds ∧ ∀ J, WkD G J [d] ds m1 h1 H1 → (fine .plain [d] ds = true → ds.length ≤ sizeLine) → Z J H1) I ⟨m, h, ρ, st, okR_mono ok2 (fun d h1 q m1 v H1 x r p => ?_) fun _ _ _ q => q⟩) fun v s1 ⟨y, H1, I1, r1, m1, h1, d, ds, rel, rp, th, q⟩ => ?_
  · have q : okR ((R.ofO (through h1 .plain [d]) h1).then fun ds h1 => R.ok ([d], ds) h1) _ _ := q
    obtain ⟨ds, e, q⟩ := okR_ofO (okR_then q)
    exact ⟨m1, h1, d, ds, r, p, e, fun J w f => q m1 H1 J x r w f⟩
  · have sn := see rel rp
    have later : ∀ {z : Addr → Prop} {m' : List Addr} {h' : Hs} {H' : L2.Hp}, Ext0 (fun _ => False) H1 H' (Live G m1 h1) (Live (G.hotter z) m' h') m1 m' → HRel (G.hotter z) m' h' H' → stay h1 h' [d] = true → Sn (G.hotter z) H' (Live (G.hotter z) m' h') m' (vw h1 d) y := fun {z m' h' H'} x rl sy => by
      have := see rl ((rp.mono x).heat ⟨z, G.ht.kn, G.ht.clo⟩)
      rw [vw_stay sy] at this
      exact this
    have e0 : through h1 .plain [d] = (match vw h1 d with
      | .tup l => some l
      | .lst l => some l
      | .str l => some (l.map fun c => D.str [c])
      | _ => none) := rfl
    rw [e0] at th
    generalize vw h1 d = dd at sn later th
    cases sn with
    | @lst l vs a hq rl =>
      have th := Option.some.inj th
      subst th
      cases r1
      obtain ⟨its, rv, pl, hz⟩ := I1.list (by rw [hK]; exact hq.sq)
      refine wpAny_pyIter_list pl.isList (pi_one (tk := s1.toks) I1 _ (turn_list a _) ⟨_, Heap.get?_push_size _ rfl, rfl, rfl⟩ (q _ ⟨fun z i m' h' H' x rr sy hi => ?_, fun z m' h' H' x rr sy => ?_, fun z i m' h' H' x' H2 x rr sy hi y => ?_⟩ fun _ => by rw [rl.length]; exact hz))
      · obtain ⟨hq', rl'⟩ : ∃ vs', SqL X.K H' a vs' ∧ RepL (G.hotter z) H' (Live (G.hotter z) m' h') m' l vs' := by
          cases later x rr sy with
          | lst h1 h2 => exact ⟨_, by rw [hK]; exact h1.sq, h2⟩
        obtain ⟨w, h1, h2⟩ := rl'.2.get (i := i) (d := l[i]) (by simp [hi])
        exact ⟨_, w, rl'.1, h1⟩
      · obtain ⟨hq', rl'⟩ : ∃ vs', SqL X.K H' a vs' ∧ RepL (G.hotter z) H' (Live (G.hotter z) m' h') m' l vs' := by
          cases later x rr sy with
          | lst h1 h2 => exact ⟨_, by rw [hK]; exact h1.sq, h2⟩
        exact ⟨_, rl'.1, by rw [rl'.2.length]; exact Nat.le_refl _⟩
      · obtain ⟨hq', rl'⟩ : ∃ vs', SqL X.K H' a vs' ∧ RepL (G.hotter z) H' (Live (G.hotter z) m' h') m' l vs' := by
          cases later x rr sy with
          | lst h1 h2 => exact ⟨_, by rw [hK]; exact h1.sq, h2⟩
        obtain ⟨rfl, y⟩ := y
        obtain ⟨w, h1, h2⟩ := rl'.2.get (i := i) (d := l[i]) (by simp [hi])
        have := y _ rl'.1
        rw [h1] at this
        cases this
        exact ⟨.refl, rr, l[i], by simp [hi], h2⟩
    | @tup l vs a hq rl =>
      have th := Option.some.inj th
      subst th
      cases r1
      obtain ⟨its, rv, pl, hz⟩ := I1.tuple (by rw [hK]; exact hq)
      refine wpAny_pyIter_tuple (show s1.heap.IsTuple a its.toArray from pl) (pi_one (tk := s1.toks) I1 _ (turn_tuple a _) ⟨_, Heap.get?_push_size _ rfl, rfl, rfl⟩ (q _ ⟨fun z i m' h' H' x rr sy hi => ?_, fun z m' h' H' x rr sy => ?_, fun z i m' h' H' x' H2 x rr sy hi y => ?_⟩ fun _ => by rw [rl.length]; exact hz))
      · obtain ⟨hq', rl'⟩ : ∃ vs', SqT X.K H' a vs' ∧ RepL (G.hotter z) H' (Live (G.hotter z) m' h') m' l vs' := by
          cases later x rr sy with
          | tup h1 h2 => exact ⟨_, by rw [hK]; exact h1, h2⟩
        obtain ⟨w, h1, h2⟩ := rl'.2.get (i := i) (d := l[i]) (by simp [hi])
        exact ⟨_, w, rl'.1, h1⟩
      · obtain ⟨hq', rl'⟩ : ∃ vs', SqT X.K H' a vs' ∧ RepL (G.hotter z) H' (Live (G.hotter z) m' h') m' l vs' := by
          cases later x rr sy with
          | tup h1 h2 => exact ⟨_, by rw [hK]; exact h1, h2⟩
        exact ⟨_, rl'.1, by rw [rl'.2.length]; exact Nat.le_refl _⟩
      · obtain ⟨hq', rl'⟩ : ∃ vs', SqT X.K H' a vs' ∧ RepL (G.hotter z) H' (Live (G.hotter z) m' h') m' l vs' := by
          cases later x rr sy with
          | tup h1 h2 => exact ⟨_, by rw [hK]; exact h1, h2⟩
        obtain ⟨rfl, y⟩ := y
        obtain ⟨w, h1, h2⟩ := rl'.2.get (i := i) (d := l[i]) (by simp [hi])
        have := y _ rl'.1
        rw [h1] at this
        cases this
        exact ⟨.refl, rr, l[i], by simp [hi], h2⟩
    | str x =>
      cases th
      obtain ⟨t, rfl⟩ := r1
      have w : WkD G (Its (str x)) [d] (x.map fun c => D.str [c]) m1 h1 H1 := ⟨fun z i m' h' H' _ rr sy hi => (by simpa [Its, str] using hi), fun z m' h' H' _ rr sy => (by simp [Its, str]), fun z i m' h' H' x' H2 _ rr sy hi y => by
        obtain ⟨rfl, c, e, rfl⟩ := y
        refine ⟨.refl, rr, .str [c], ?_, .str [c]⟩
        rw [List.getElem?_map, its_get e] <;> rfl⟩
      have hlen : fine .plain [d] (x.map fun c => D.str [c]) = true → (x.map fun c => D.str [c]).length ≤ sizeLine := fun f => by
        obtain ⟨x', rfl⟩ := rep_str rp
        exact Nat.le_trans (of_decide_eq_true f) (Nat.le_of_eq line_eq)
      cases ha : (str x).cps.all (· < 128)
      · exact wpAny_pyIter_wide ha (pi_one (tk := s1.toks) I1 _ (turn_str _ (str x) t "str_iterator" (.inr rfl)) ⟨_, Heap.get?_push_size _ rfl, rfl, rfl⟩ (q _ w hlen))
      · exact wpAny_pyIter_ascii ha (pi_one (tk := s1.toks) I1 _ (turn_str _ (str x) t "str_ascii_iterator" (.inl rfl)) ⟨_, Heap.get?_push_size _ rfl, rfl, rfl⟩ (q _ w hlen))
    | _ => cases th⟩
theorem pi_of {iter : Expr} {t t' : TI} (hp : PI X tg iter t) (k : ∀ σ H Z, t' σ H Z → t σ H Z) : PI X tg iter t' := ⟨fun pins s σ H Z I q => hp.run pins s σ H Z I (k _ _ _ q)⟩
theorem rangeD_len (lo : Int) (n : Nat) : (rangeD lo n).length = n := by simp [rangeD]
theorem wk_range (lo : Int) (n : Nat) {vs : List D} {m1 : List Addr} {h1 : Hs} {H1 : L2.Hp} : WkD G (Itr lo n) vs (rangeD lo n) m1 h1 H1 :=
  ⟨fun z i m' h' H' _ rr sy hi => (by rw [rangeD_len] at hi; exact hi), fun z m' h' H' _ rr sy => (by rw [rangeD_len]; exact Nat.le_refl n), fun z i m' h' H' x' H2 _ rr sy hi y => by
    obtain ⟨rfl, rfl⟩ := y
    rw [rangeD_len] at hi
    exact ⟨.refl, rr, .int (lo + i), by simp [rangeD, hi], .int _⟩⟩
theorem rngOk_of {i : Int} (e : rngOk i = true) : -(2 ^ 62) ≤ i ∧ i < 2 ^ 62 := by simpa [rngOk] using e
theorem si_range1 {a : Expr} {l : EL} {p : Pos} (hg : Gl X "range") (hm : X.mg "range" = none) (hs : SA X G C W [a] l) : PI X tg (.Call (.Name "range" p) [a] [] pos) (tI G C W .range l) :=
  pi_of (pi_range1 hg hm hs.pa (starEach_cons (hs.st a (by simp)))) fun σ H Z ⟨m, h, ρ, st, ok⟩ => by
    refine ⟨m, h, ρ, st, okR_mono (okR_then ok) (fun ds h1 q m1 vs H1 x r p => ?_) fun _ _ _ q => q⟩
    obtain ⟨is, e, q⟩ := okR_ofO (okR_then q)
    match ds, e with
    | [.int i], e =>
      simp only [through] at e
      split at e
      · rename_i e1
        cases e
        obtain ⟨v, rfl, pv⟩ := p.one
        cases pv
        obtain ⟨a1, a2⟩ := rngOk_of e1
        exact ⟨i, rfl, a1, a2, q m1 H1 _ x r (wk_range 0 _) fun f => Nat.le_trans (of_decide_eq_true f) (Nat.le_of_eq line_eq)⟩
      · cases e
theorem si_range2 {a b : Expr} {l : EL} {p : Pos} (hg : Gl X "range") (hm : X.mg "range" = none) (hs : SA X G C W [a, b] l) : PI X tg (.Call (.Name "range" p) [a, b] [] pos) (tI G C W .range2 l) :=
  pi_of (pi_range2 hg hm hs.pa (by rw [starEach_cons (hs.st a (by simp)), starEach_cons (hs.st b (by simp))]; rfl) (starEach_cons (hs.st b (by simp)))) fun σ H Z ⟨m, h, ρ, st, ok⟩ => by
    refine ⟨m, h, ρ, st, okR_mono (okR_then ok) (fun ds h1 q m1 vs H1 x r p => ?_) fun _ _ _ q => q⟩
    obtain ⟨is, e, q⟩ := okR_ofO (okR_then q)
    match ds, e with
    | [.int i, .int j], e =>
      simp only [through] at e
      split at e
      · rename_i e1
        cases e
        obtain ⟨v, u, rfl, pv, pu⟩ := p.two
        cases pv
        cases pu
        simp only [Bool.and_eq_true] at e1
        obtain ⟨a1, a2⟩ := rngOk_of e1.1
        obtain ⟨a3, a4⟩ := rngOk_of e1.2
        exact ⟨i, j, rfl, ⟨a1, a2, a3, a4⟩, q m1 H1 _ x r (wk_range i _) fun f => Nat.le_trans (of_decide_eq_true f) (Nat.le_of_eq line_eq)⟩
      · cases e
end
end PV
set_option Elab.async false
set_option autoImplicit false
set_option maxRecDepth 100000
set_option maxHeartbeats 1000000
namespace PV
open PySem PySem.Spec PyProof.Rows L2
section
variable {X : Cx} {G : Gx} {C : Cl} {W : WX} {pos : Pos} {tg iter : Expr}
theorem ss_for (cx : Ctx G C W X) {k : Ik} {l : EL} {p : Pat} {body : List Stmt} {sb : SL} (hi : SI X G C W tg iter k l) (hg : PG X tg (tG G p)) (hb : PSs X body (tSL G C W sb)) :
    PS X (.For tg iter body [] pos) (tS G C W (.for_ p k l sb)) :=
  ps_of (ps_for cx.po cx.calm hi.pi hg hb hi.fs) fun Z σ H ⟨m, h, ρ, st, ok⟩ => by
    simp only [evS] at ok
    have ok := thenS_bad ok st
    refine ⟨m, h, ρ, st, ?_⟩
    cases q1 : evL C l ρ h with
    | bad => rw [q1] at ok; exact ok.elim
    | ex c l h1 => rw [q1] at ok; exact ok
    | ok vs h1 =>
      rw [q1] at ok
      obtain ⟨ds, e, ok⟩ := thenS_of ok
      show okR ((R.ofO (through h1 k vs) h1).then fun ds h1 => R.ok (vs, ds) h1) _ _
      rw [e]
      intro m1 H1 J x r w _
      have st1 := st.later x r
      have ok := okSR_later x ok
      refine ⟨fun i n σ' H' => n = ds.length - i ∧ i ≤ ds.length ∧ ∃ m' h' ρ', Ext G m1 h1 H1 m' h' H' ∧ Stt G m' h' ρ' σ' H' ∧ stay h1 h' vs = true ∧
        okSR G W m' h' H' Z (forS (fun x ρ h => (R.ofO (p.bnd h x ρ) h).thenS ρ fun ρ' h => evSL C sb ρ' h) (fun h2 => stay h1 h2 vs) (ds.drop i) ρ' h'),
        ⟨_, rfl, Nat.zero_le _, m1, h1, ρ, .refl, st1, stay_refl _ _, ok⟩, ?_⟩
      rintro i n σ' H' ⟨rfl, hi, m', h', ρ', x', st', sy, ok⟩
      have x0 : Ext0 (fun _ => False) H1 H' (Live G m1 h1) (Live (G.hotter G.hot) m' h') m1 m' := x'.cool fun _ z => z.elim
      by_cases hlt : i < ds.length
      · refine .inr ⟨w.go G.hot i m' h' H' x0 st'.rel sy hlt, fun σ2 H2 => ∃ m2 h2 ρ2, Ext G m1 h1 H1 m2 h2 H2 ∧ Stt G m2 h2 ρ2 σ2 H2 ∧ stay h1 h2 vs = true ∧
          okSR G W m2 h2 H2 Z (forS (fun x ρ h => (R.ofO (p.bnd h x ρ) h).thenS ρ fun ρ' h => evSL C sb ρ' h) (fun h2 => stay h1 h2 vs) (ds.drop (i + 1)) ρ2 h2),
          fun σ2 H2 z => ⟨_, by omega, rfl, hlt, z⟩, fun y H2 yd => ?_⟩
        obtain ⟨x2, r2, d, ed, rd⟩ := w.yld G.hot i m' h' H' y H2 x0 st'.rel sy hlt yd
        have st2 := st'.later x2 r2
        have ok := okSR_later x2 ok
        have ed' : ds[i] = d := by simpa [hlt] using ed
        rw [List.drop_eq_getElem_cons hlt, ed'] at ok
        simp only [forS] at ok
        cases eb : p.bnd h' d ρ' with
        | none =>
          rw [eb] at ok
          simp only [R.ofO, R.thenS] at ok
          exact ok.elim
        | some ρ3 =>
          refine ⟨m', h', ρ', d, ρ3, st2, rd, eb, fun m3 σ3 H3 x3 st3 _ => ⟨m3, h', ρ3, st3, ?_⟩⟩
          rw [eb] at ok
          simp only [R.ofO, R.thenS] at ok
          have ok := okSR_later x3 ok
          have x13 := x'.trans (x2.trans x3)
          cases q : evSL C sb ρ3 h' with
          | nx ρ4 h4 =>
            simp only [q] at ok
            split at ok
            · rename_i sy4
              exact fun m4 σ4 H4 y4 s4 => ⟨m4, h4, ρ4, x13.trans y4, s4, sy4, okSR_later y4 ok⟩
            · exact ok.elim
          | ct ρ4 h4 =>
            simp only [q] at ok
            split at ok
            · rename_i sy4
              exact fun m4 σ4 H4 y4 s4 => ⟨m4, h4, ρ4, x13.trans y4, s4, sy4, okSR_later y4 ok⟩
            · exact ok.elim
          | bk ρ4 h4 => simp only [q] at ok; exact ok
          | rt d4 h4 => simp only [q] at ok; exact ok
          | ex c l ρ4 h4 => simp only [q] at ok; exact ok
          | bad => simp only [q] at ok; exact ok.elim
      · have e : i = ds.length := by omega
        subst e
        refine .inl ⟨w.stop G.hot m' h' H' x0 st'.rel sy, ?_⟩
        rw [List.drop_length] at ok
        exact ok m' σ' H' .refl st'
/-! ### comprehensions -/
def noW : WX := fun _ _ _ _ => False
def tT (G : Gx) (C : Cl) (W : WX) (c : EL) : TT := fun σ H Q => ∃ m h ρ, Stt G m h ρ σ H ∧ okR (evT C c ρ h) (fun b h' => ∀ m' H', Ext G m h H m' h' H' → HRel G m' h' H' → Q b H')
  (fun c l h' => ∀ m' H' cls d, Ext G m h H m' h' H' → HRel G m' h' H' → RepX G H' (Live G m' h') m' c l cls d → W cls d σ H')
theorem pts_of {ifs : List Expr} {t t' : TT} (hp : PTs X ifs t) (k : ∀ σ H Q, t' σ H Q → t σ H Q) : PTs X ifs t' := ⟨fun pins s σ H Q I q => hp.run pins s σ H Q I (k _ _ _ q)⟩
theorem st_nil : PTs X [] (tT G C W .nil) := pts_of pts_nil fun σ H Q ⟨m, h, ρ, st, ok⟩ => by
  simp only [evT] at ok
  exact ok m H .refl st.rel
theorem st_one {a : Expr} {c : E} (ha : SE X G C W a c) : PTs X [a] (tT G C W (.cons c .nil)) := pts_of (pts_one ha.pt) fun σ H Q ⟨m, h, ρ, st, ok⟩ => by
  simp only [evT] at ok
  refine ⟨m, h, ρ, st, okR_mono (okR_then ok) (fun d h1 q m1 v H1 x r p => ?_) fun _ _ _ q => q⟩
  obtain ⟨b, e, q⟩ := okR_ofO q
  rw [asB_some e] at p
  cases p
  exact ⟨b, rfl, q m1 H1 x r⟩
theorem turns_cons {f : D → M (Option D)} {ok : Hs → Bool} {x : D} {r acc l : List D} {h h' : Hs} (e : turns f ok (x :: r) acc h = .ok l h') : ∃ d h1, f x h = .ok d h1 ∧ ok h1 = true ∧ turns f ok r (match d with
      | some d => acc ++ [d]
      | none => acc) h1 = .ok l h' := by
  simp only [turns] at e
  cases q : f x h with
  | bad => rw [q] at e; cases e
  | ex c k h1 => rw [q] at e; cases e
  | ok d h1 =>
    rw [q] at e
    simp only [R.then] at e
    split at e
    · exact ⟨d, h1, rfl, ‹_›, e⟩
    · cases e
theorem then_ok {α β : Type} {r : R α} {f : α → Hs → R β} {b : β} {h : Hs} (e : r.then f = .ok b h) : ∃ a h1, r = .ok a h1 ∧ f a h1 = .ok b h := by
  cases r with
  | ok a h1 => exact ⟨a, h1, rfl, e⟩
  | ex c l h1 => cases e
  | bad => cases e
theorem ofO_ok {α : Type} {o : Option α} {a : α} {h h1 : Hs} (e : R.ofO o h = .ok a h1) : o = some a ∧ h1 = h := by
  cases o with
  | none => cases e
  | some b => cases e; exact ⟨rfl, rfl⟩
theorem okR_of {α : Type} {r : R α} {a : α} {h : Hs} {P : α → Hs → Prop} {Y : Nat → List D → Hs → Prop} (e : r = .ok a h) (p : P a h) : okR r P Y := by rw [e]; exact p
end
end PV
set_option Elab.async false
set_option autoImplicit false
set_option maxRecDepth 100000
set_option maxHeartbeats 1000000
namespace PV
open PySem PySem.Spec PyProof.Rows L2
/-- with one more list that is being made -/
def hotD (G : Gx) (Dn : Addr) : Addr → Prop := fun a => G.hot a ∨ a = Dn
section
variable {G : Gx} {m : List Addr} {h : Hs} {H : L2.Hp} {Dn : Addr}
theorem heat_up (r : HRel G m h H) (hD : H Dn = none) : Ext0 G.hot H (upd H Dn (.lst [])) (Live G m h) (Live (G.hotter (hotD G Dn)) m h) m m ∧ HRel (G.hotter (hotD G Dn)) m h (upd H Dn (.lst [])) := by
  have e : Ext0 G.hot H (upd H Dn (.lst [])) (Live G m h) (Live (G.hotter (hotD G Dn)) m h) m m :=
    ⟨fun _ _ e => e, (Ext.new r hD).rd, (Ext.new r hD).ins, fun a z => by
      rcases z with ((z | z) | z) | z
      · exact .inl (.inl (.inl z))
      · exact .inr (by rw [z]; exact nr_none hD)
      · exact .inl (.inl (.inr z))
      · exact .inl (.inr z), (Ext.new r hD).hot⟩
  have ne : ∀ (i : Nat) (a : Addr) (c : D), m[i]? = some a → h[i]? = some c → c ≠ .non → a ≠ Dn := fun i a c h1 h2 n z => by subst z; exact (r.cell i a c h1 h2).ne n hD
  refine ⟨e, r.len, fun i a c h1 h2 => ?_, r.inj, fun a z => ?_, fun i a c h1 h2 n z => ?_, (Sm.new hD).tabs r.tab, (Sm.new hD).kn r.kn⟩
  · have q := (r.cell i a c h1 h2).mono e fun n => upd_ne (ne i a c h1 h2 n)
    cases c with
    | lst l => obtain ⟨vs, q1, q2⟩ := q; exact ⟨vs, q1, q2.heat _⟩
    | dct l => obtain ⟨vs, q1, q2, q3, q4⟩ := q; exact ⟨vs, q1, q2, q3, q4.heat _⟩
    | ins c l => obtain ⟨dx, fs, vs, q1, q2, q3⟩ := q; exact ⟨dx, fs, vs, q1, q2, q3.heat _⟩
    | non => trivial
    | _ => exact q.elim
  · rcases z with z | z
    · rw [upd_ne (fun e => r.hot a (.inl z) (by rw [e]; exact hD))]; exact r.hotv a z
    · subst z; exact .inl ⟨[], upd_same⟩
  · rcases z with (z | z) | z
    · exact r.cold i a c h1 h2 n (.inl z)
    · exact ne i a c h1 h2 n z
    · exact r.cold i a c h1 h2 n (.inr z)
theorem heat_app {xs ys : List V} (r : HRel (G.hotter (hotD G Dn)) m h H) (hD : H Dn = some (.lst xs)) (hn : ¬ G.hot Dn) : Ext0 G.hot H (upd H Dn (.lst ys)) (Live (G.hotter (hotD G Dn)) m h) (Live (G.hotter (hotD G Dn)) m h) m m ∧ HRel (G.hotter (hotD G Dn)) m h (upd H Dn (.lst ys)) := by
  have lv : Live (G.hotter (hotD G Dn)) m h Dn := .inl (.inl (.inr rfl))
  have sm : Sm H (upd H Dn (.lst ys)) := Sm.upd hD (fun ⟨_, z⟩ => by cases z) fun ps z => by cases z
  have e : Ext0 G.hot H (upd H Dn (.lst ys)) (Live (G.hotter (hotD G Dn)) m h) (Live (G.hotter (hotD G Dn)) m h) m m :=
    ⟨fun _ _ e => e, fun a u q n _ => by
      have : a ≠ Dn := fun z => n (by rw [z]; exact lv)
      rcases q with q | ⟨ob, q⟩
      · exact .inl (by rw [upd_ne this]; exact q)
      · exact .inr ⟨ob, by rw [upd_ne this]; exact q⟩, fun a C dx fs q n => by
      have : a ≠ Dn := fun z => n (by rw [z]; exact lv)
      rw [upd_ne this]; exact q, fun a z => .inl z, fun a z => upd_ne fun e => hn (by rw [← e]; exact z)⟩
  refine ⟨e, r.len, fun i a c h1 h2 => (r.cell i a c h1 h2).mono e fun n => upd_ne fun z => r.cold i a c h1 h2 n (.inl (.inr z)), r.inj, fun a z => ?_, r.cold, sm.tabs r.tab, sm.kn r.kn⟩
  by_cases q : a = Dn
  · subst q; exact .inl ⟨ys, upd_same⟩
  · rw [upd_ne q]; exact r.hotv a z
theorem heat_down {vs : List V} {ds : List D} (r : HRel (G.hotter (hotD G Dn)) m h H) (hD : H Dn = some (.lst vs)) (hn : ¬ G.hot Dn) (rl : RepL (G.hotter (hotD G Dn)) H (Live (G.hotter (hotD G Dn)) m h) m ds vs) :
    Ext0 G.hot H H (Live (G.hotter (hotD G Dn)) m h) (Live G m h) m m ∧ HRel G m h H ∧ Rep G H (Live G m h) m (.lst ds) (.ref Dn) := by
  have e : Ext0 G.hot H H (Live (G.hotter (hotD G Dn)) m h) (Live G m h) m m := ⟨fun _ _ e => e, fun _ _ q _ _ => q, fun _ _ _ _ q _ => q, fun a z => by
    rcases z with (z | z) | z
    · exact .inl (.inl (.inl (.inl z)))
    · exact .inl (.inl (.inr z))
    · exact .inl (.inr z), fun _ _ => rfl⟩
  refine ⟨e, ⟨r.len, fun i a c h1 h2 => ?_, r.inj, fun a z => r.hotv a (.inl z), fun i a c h1 h2 n z => r.cold i a c h1 h2 n (z.imp .inl id), r.tab, r.kn⟩, .lst (.inl hD) (fun z => ?_) ((rl.mono e).heat G.ht)⟩
  · have q := (r.cell i a c h1 h2).mono e fun n => rfl
    cases c with
    | lst l => obtain ⟨vs, q1, q2⟩ := q; exact ⟨vs, q1, q2.heat G.ht⟩
    | dct l => obtain ⟨vs, q1, q2, q3, q4⟩ := q; exact ⟨vs, q1, q2, q3, q4.heat G.ht⟩
    | ins c l => obtain ⟨dx, fs, vs, q1, q2, q3⟩ := q; exact ⟨dx, fs, vs, q1, q2, q3.heat G.ht⟩
    | non => trivial
    | _ => exact q.elim
  · rcases z with (z | ⟨p, hp, e⟩) | ⟨i, c, h1, h2, h3⟩
    · exact hn z
    · obtain ⟨_, q, _⟩ := r.tab p hp
      rw [e, hD] at q; cases q
    · exact r.cold i Dn c h1 h2 h3 (.inl (.inr rfl))
end
theorem wipe_get (σ : L2.St) (i : Nat) : ∀ vs : List Nat, (L2.wipe σ vs)[i]? = if i ∈ vs then (σ[i]?).map (fun _ => none) else σ[i]?
  | [] => by simp [L2.wipe]
  | v :: vs => by
    have hl : (L2.wipe σ vs).length = σ.length := L2.wipe_length σ vs
    unfold L2.wipe
    by_cases e : v = i
    · subst e
      by_cases hv : v < σ.length
      · rw [List.getElem?_set_self (by rw [hl]; exact hv)]; simp [hv]
      · have hv' : σ.length ≤ v := by omega
        rw [List.getElem?_eq_none (by simp [hl]; omega)]; simp [hv']
    · rw [List.getElem?_set_ne e, wipe_get σ i vs]
      simp [show i ≠ v from fun z => e z.symm]
theorem wipe_same {σ σ' : L2.St} {vs : List Nat} (hl : σ'.length = σ.length) (h : ∀ i, i ∉ vs → σ'[i]? = (L2.wipe σ vs)[i]?) : L2.wipe σ' vs = L2.wipe σ vs := by
  apply List.ext_getElem?
  intro i
  rw [wipe_get σ' i vs]
  by_cases hi : i ∈ vs
  · rw [wipe_get σ i vs]
    simp only [hi, if_true]
    by_cases hv : i < σ.length
    · have hv' : i < σ'.length := by omega
      simp [hv, hv']
    · have hv' : ¬ i < σ'.length := by omega
      rw [List.getElem?_eq_none (by omega), List.getElem?_eq_none (by omega)]
  · simp only [hi, if_false]
    exact h i hi
theorem setsN_len : ∀ (is : List Nat) (l : List D) (ρ ρ' : Env), setsN ρ is l = some ρ' → ρ'.length = ρ.length
  | [], [], ρ, ρ', e => by cases e; rfl
  | i :: is, x :: l, ρ, ρ', e => by
    have := setsN_len is l _ ρ' (by simpa [setsN] using e)
    simpa using this
  | [], _ :: _, _, _, e => by simp [setsN] at e
  | _ :: _, [], _, _, e => by simp [setsN] at e
mutual
theorem bnd_len (h : Hs) : ∀ (p : Pat) (d : D) (ρ ρ' : Env), p.bnd h d ρ = some ρ' → ρ'.length = ρ.length
  | .nm i, d, ρ, ρ', e => by
    simp only [Pat.bnd, Option.some.injEq] at e
    subst e
    simp
  | .tp ps, d, ρ, ρ', e => by
    cases d with
    | tup l => exact bndL_len h ps l ρ ρ' (by simpa only [Pat.bnd] using e)
    | lst l => exact bndL_len h ps l ρ ρ' (by simpa only [Pat.bnd] using e)
    | _ => simp [Pat.bnd] at e
  | .st is j, d, ρ, ρ', e => by
    cases d with
    | tup l =>
      simp only [Pat.bnd] at e
      split at e
      · exact setsN_len _ _ _ _ e
      · cases e
    | lst l =>
      simp only [Pat.bnd] at e
      split at e
      · exact setsN_len _ _ _ _ e
      · cases e
    | _ => simp [Pat.bnd] at e
theorem bndL_len (h : Hs) : ∀ (ps : List Pat) (l : List D) (ρ ρ' : Env), Pat.bndL h ps l ρ = some ρ' → ρ'.length = ρ.length
  | [], [], ρ, ρ', e => by simp only [Pat.bndL, Option.some.injEq] at e; subst e; rfl
  | p :: ps, x :: l, ρ, ρ', e => by
    simp only [Pat.bndL] at e
    cases q : p.bnd h x ρ with
    | none => rw [q] at e; cases e
    | some ρ2 =>
      rw [q] at e
      rw [bndL_len h ps l ρ2 ρ' e, bnd_len h p x ρ ρ2 q]
  | [], _ :: _, _, _, e => by simp [Pat.bndL] at e
  | _ :: _, [], _, _, e => by simp [Pat.bndL] at e
end
def tG2 (G : Gx) (p : Pat) : TG := fun v σ H Q => ∃ z, tG (G.hotter z) p v σ H Q
def tT2 (G : Gx) (C : Cl) (c : EL) (V : WX) : TT := fun σ H Q => ∃ z, tT (G.hotter z) C V c σ H Q
def tE2 (G : Gx) (C : Cl) (c : E) (V : WX) : TE := fun σ H Q => ∃ z, tE (G.hotter z) C V c σ H Q
theorem then_cases {α β : Type} {r : R α} {f : α → Hs → R β} {r0 : R β} (e : r.then f = r0) (nb : r0 ≠ .bad) : (∃ c l h, r = .ex c l h ∧ r0 = .ex c l h) ∨ ∃ a h, r = .ok a h ∧ f a h = r0 := by
  cases r with
  | bad => exact absurd e.symm nb
  | ex c l h => exact .inl ⟨c, l, h, rfl, e.symm⟩
  | ok a h => exact .inr ⟨a, h, rfl, e⟩
theorem RepX.cool {G : Gx} {H : L2.Hp} {Lv Lv' : Addr → Prop} {m : List Addr} {hot : Addr → Prop} {c : Nat} {l : List D} {cls : Value} {d : Option Addr} (e : Ext0 hot H H Lv Lv' m m) (r : RepX G H Lv m c l cls d) : RepX G H Lv' m c l cls d := by
  obtain ⟨r1, r2, r3⟩ := r
  refine ⟨r1, r2, ?_⟩
  rcases r3 with r3 | ⟨dx, fs, vs, q1, q2, q3, q4, q5, q6⟩
  · exact .inl r3
  · exact .inr ⟨dx, fs, vs, q1, q2, e.nLv (u := .xd fs) q3 (.inl q2), q4, q5, q6.mono e⟩
section
variable {X : Cx} {G : Gx} {C : Cl} {W : WX} {pos : Pos} {tg iter : Expr}
theorem fine_len {m : List Addr} {h : Hs} {H : L2.Hp} {k : Ik} {vs ds : List D} (hf : fine k vs ds = true) : True := trivial
theorem tE_comp {k : Ik} {l c : EL} {p : Pat} {ce : E} {vs : List Nat} (nc : ∀ i ∈ p.slots, NoClo G i) (hv : vs = p.slots) : ∀ σ H Q, tE G C W (.comp p k l c ce) σ H Q → tLc (tI G C W k l) (tG2 G p) (tT2 G C c (keepW W σ)) (tE2 G C ce (keepW W σ)) vs σ H Q := by
  subst hv
  rintro σ H Q ⟨m, h, ρ, st, ok⟩
  simp only [evE] at ok
  have ok := okR_then ok
  refine ⟨m, h, ρ, st, ?_⟩
  cases q1 : evL C l ρ h with
  | bad => rw [q1] at ok; exact ok.elim
  | ex c l h1 => rw [q1] at ok; exact ok
  | ok vs h1 =>
    rw [q1] at ok
    obtain ⟨ds, e, ok⟩ := okR_ofO (okR_then ok)
    show okR ((R.ofO (through h1 k vs) h1).then fun ds h1 => R.ok (vs, ds) h1) _ _
    rw [e]
    intro m1 H1 J x r w hlen Dn hD
    generalize hf : (fun x h => (R.ofO (p.bnd h x (wipeE ρ p.slots)) h).then fun ρ' h => (evT C c ρ' h).then fun q h => if q = true then (evE C ce ρ' h).then fun d h => R.ok (some d) h else R.ok none h) = f at ok
    split at ok
    case isFalse => exact ok.elim
    rename_i hfine
    have fin := okR_then ok
    clear ok
    generalize et : turns f (fun h2 => stay h1 h2 vs) ds [] h1 = r0 at fin
    have nb0 : r0 ≠ .bad := fun z => by rw [z] at fin; exact fin.elim
    have hlen : ds.length ≤ sizeLine := hlen hfine
    have hn0 : ¬ G.hot Dn := fun z => r.hot Dn (.inl z) hD
    obtain ⟨xu, ru⟩ := heat_up r hD
    have st1 := st.later x r
    have exq : ∀ {m3 : List Addr} {h3 : Hs} {H3 : L2.Hp} {acc : List D} {ws : List V} {c : Nat} {l : List D} {h6 : Hs}, Ext0 G.hot H1 H3 (Live G m1 h1) (Live (G.hotter (hotD G Dn)) m3 h3) m1 m3 → H3 Dn = some (.lst ws) → RepL (G.hotter (hotD G Dn)) H3 (Live (G.hotter (hotD G Dn)) m3 h3) m3 acc ws → r0 = .ex c l h6 →
        ∀ m6 H6 cls d, Ext (G.hotter (hotD G Dn)) m3 h3 H3 m6 h6 H6 → HRel (G.hotter (hotD G Dn)) m6 h6 H6 → RepX (G.hotter (hotD G Dn)) H6 (Live (G.hotter (hotD G Dn)) m6 h6) m6 c l cls d → W cls d σ H6 := fun {m3 h3 H3 acc ws c l h6} xs hD3 ra e m6 H6 cls d x6 r6 px => by
      rw [e] at fin
      have hD6 : H6 Dn = some (.lst ws) := by rw [x6.hot Dn (.inr rfl)]; exact hD3
      obtain ⟨xd, rd, _⟩ := heat_down r6 hD6 hn0 (ra.mono x6)
      exact fin m6 H6 cls d (x.tr ((xs.tr (x6.cool fun _ z => .inl z)).tr xd)) rd ((px.cool xd).heat G.ht)
    refine ⟨fun i n H' => n = ds.length - i ∧ i ≤ ds.length ∧ ∃ m' h' acc ws, Ext0 G.hot H1 H' (Live G m1 h1) (Live (G.hotter (hotD G Dn)) m' h') m1 m' ∧ HRel (G.hotter (hotD G Dn)) m' h' H' ∧ H' Dn = some (.lst ws) ∧
      RepL (G.hotter (hotD G Dn)) H' (Live (G.hotter (hotD G Dn)) m' h') m' acc ws ∧ acc.length ≤ i ∧ stay h1 h' vs = true ∧ turns f (fun h2 => stay h1 h2 vs) (ds.drop i) acc h' = r0,
      ⟨_, rfl, Nat.zero_le _, m1, h1, [], [], xu, ru, upd_same, .nil, Nat.le_refl _, stay_refl _ _, et⟩, ?_⟩
    rintro i n H' ⟨rfl, hi, m', h', acc, ws, x', r', hDw, racc, hacc, sy, tu⟩
    have x0 : Ext0 (fun _ => False) H1 H' (Live G m1 h1) (Live (G.hotter (hotD G Dn)) m' h') m1 m' := x'.cool fun _ z => z.elim
    by_cases hlt : i < ds.length
    · refine .inr ⟨w.go (hotD G Dn) i m' h' H' x0 r' sy hlt, fun H2 => ∃ m2 h2 acc2 ws2, Ext0 G.hot H1 H2 (Live G m1 h1) (Live (G.hotter (hotD G Dn)) m2 h2) m1 m2 ∧ HRel (G.hotter (hotD G Dn)) m2 h2 H2 ∧ H2 Dn = some (.lst ws2) ∧
        RepL (G.hotter (hotD G Dn)) H2 (Live (G.hotter (hotD G Dn)) m2 h2) m2 acc2 ws2 ∧ acc2.length ≤ i + 1 ∧ stay h1 h2 vs = true ∧ turns f (fun h2 => stay h1 h2 vs) (ds.drop (i + 1)) acc2 h2 = r0,
        fun H2 z => ⟨_, by omega, rfl, hlt, z⟩, fun y H2 yd => ?_⟩
      obtain ⟨x2, r2, d, ed, rd⟩ := w.yld (hotD G Dn) i m' h' H' y H2 x0 r' sy hlt yd
      have ed' : ds[i] = d := by simpa [hlt] using ed
      rw [List.drop_eq_getElem_cons hlt, ed'] at tu
      simp only [turns] at tu
      obtain ⟨rf, hrf⟩ : ∃ rf, f d h' = rf := ⟨_, rfl⟩
      rw [hrf] at tu
      have nbf : rf ≠ .bad := fun z => by rw [z] at tu; exact nb0 tu.symm
      rw [← hf] at hrf
      rcases then_cases hrf nbf with ⟨c', l', h9, e1, _⟩ | ⟨ρ', hb, eb0, ef2⟩
      · exfalso
        revert e1
        cases p.bnd h' d (wipeE ρ p.slots) <;> intro e1 <;> cases e1
      obtain ⟨eb, rfl⟩ := ofO_ok eb0
      clear eb0
      have hD2 : H2 Dn = some (.lst ws) := by rw [x2.hot Dn (.inr rfl)]; exact hDw
      have xs2 : Ext0 G.hot H1 H2 (Live G m1 h1) (Live (G.hotter (hotD G Dn)) m' hb) m1 m' := x'.tr (x2.cool fun _ z => .inl z)
      have stw : Stt (G.hotter (hotD G Dn)) m' hb (wipeE ρ p.slots) (L2.wipe σ p.slots) H2 :=
        Stt.wipe ⟨r2, fun i d q => let ⟨v, a, b⟩ := st1.slot i d q; ⟨v, a, (b.mono xs2).heat _⟩, st1.len, fun z q => ⟨(st1.clo z q).1, ((st1.clo z q).2.mono xs2).heat _⟩⟩ _ nc
      refine ⟨hotD G Dn, m', hb, wipeE ρ p.slots, d, ρ', stw, rd, eb, fun m3 σ3 H3 x3 st3 hs3 => ⟨?_, hotD G Dn, m3, hb, ρ', st3, ?_⟩⟩
      · refine wipe_same ?_ hs3
        have e1 := st3.len
        have e2 := st1.len
        have e3 := bnd_len hb p d _ _ eb
        have e4 := stw.len
        rw [L2.wipe_length] at e4
        omega
      have hD3 : H3 Dn = some (.lst ws) := by rw [x3.hot Dn (.inr rfl)]; exact hD2
      have xs3 := xs2.tr (x3.cool (hot' := G.hot) fun _ z => .inl z)
      have racc3 := (racc.mono x2).mono x3
      rcases then_cases ef2 nbf with ⟨c', l', h4, e4, e5⟩ | ⟨tq, h4, etq, ef⟩
      · rw [e5] at tu
        rw [e4]
        exact exq xs3 hD3 racc3 tu.symm
      · refine okR_of etq fun m4 H4 x4 r4 => ?_
        have hD4 : H4 Dn = some (.lst ws) := by rw [x4.hot Dn (.inr rfl)]; exact hD3
        have xs4 := xs3.tr (x4.cool (hot' := G.hot) fun _ z => .inl z)
        have racc4 := racc3.mono x4
        cases tq with
        | false =>
          simp only [Bool.false_eq_true, if_false] at ef ⊢
          rw [← ef] at tu
          simp only [R.then] at tu
          split at tu
          · rename_i sy3
            exact ⟨m4, h4, acc, ws, xs4, r4, hD4, racc4, by omega, sy3, tu⟩
          · exact absurd tu.symm nb0
        | true =>
          simp only [if_true] at ef ⊢
          refine ⟨hotD G Dn, m4, h4, ρ', st3.later x4 r4, ?_⟩
          rcases then_cases ef nbf with ⟨c', l', h5, e4, e5⟩ | ⟨dv, h5, ev, ef⟩
          · rw [e5] at tu
            rw [e4]
            exact exq xs4 hD4 racc4 tu.symm
          · refine okR_of ev fun m5 v5 H5 x5 r5 p5 => ?_
            rw [← ef] at tu
            simp only [R.then] at tu
            split at tu
            case isFalse => exact absurd tu.symm nb0
            rename_i sy3
            have hD5 : H5 Dn = some (.lst ws) := by rw [x5.hot Dn (.inr rfl)]; exact hD4
            have xs5 := xs4.tr (x5.cool (hot' := G.hot) fun _ z => .inl z)
            obtain ⟨x6, r6⟩ := heat_app (ys := ws ++ [v5]) r5 hD5 hn0
            refine ⟨ws, hD5, ?_, m5, h5, acc ++ [dv], ws ++ [v5], xs5.tr x6, r6, upd_same, ((racc4.mono x5).mono x6).append (.cons (p5.mono x6) .nil), by simp; omega, sy3, tu⟩
            rw [← racc.length]; omega
    · have e : i = ds.length := by omega
      subst e
      refine .inl ⟨w.stop (hotD G Dn) m' h' H' x0 r' sy, ?_⟩
      rw [List.drop_length] at tu
      rw [← tu] at fin
      obtain ⟨xd, rdn, rp⟩ := heat_down r' hDw hn0 racc
      exact fin m' _ H' (x.tr (x'.tr xd)) rdn rp
theorem Ctx.blk (cx : Ctx G C W X) (z : Addr → Prop) (s : Shared) (H : L2.Hp) (scope : Scope) (ce : PySem.Env) (fp : List Addr) {xe : Value → Shared → Prop} {V : WX} (tk : TakesF (X.blkF s H scope ce fp xe) V) (po : PassesOwn (model X.prog X.w) X.A ce xe) : Ctx (G.hotter z) C V (X.blkF s H scope ce fp xe) where
  k := cx.k
  call := cx.call
  kall := cx.kall
  ks := cx.ks
  calm := cx.calm
  nd := cx.nd
  room := cx.room
  fns := cx.fns
  hfs := fun f hf => let ⟨fd, ps, j, h1, h2, h3⟩ := cx.hfs f hf; ⟨fd, ps, j, fun base hot kn z e r => h1 base hot kn z e ⟨r.at_, r.run⟩, h2, h3⟩
  ghf := cx.ghf
  lam := fun z e => let r := cx.lam z e; ⟨r.at_, r.run⟩
  mkl := fun g ps fr params body scope h base kn z e c => let r := cx.mkl g ps fr params body scope h base kn z e c; ⟨r.at_, r.run⟩
  tabu := cx.tabu
  gfn := cx.gfn
  gcst := fun x d e => let ⟨v, u, h1, h2, h3⟩ := cx.gcst x d e; ⟨v, u, h1, h2, h3.heat ⟨z, G.ht.kn, G.ht.clo⟩⟩
  gkd := fun x l e => let ⟨a, q1, q2⟩ := cx.gkd x l e; ⟨a, q1, q2.heat ⟨z, G.ht.kn, G.ht.clo⟩⟩
  gbl := cx.gbl
  gcl := cx.gcl
  ini := cx.ini
  fix := cx.fix
  fixI := cx.fixI
  tk := tk
  po := po
theorem pe_ex {e : Expr} {t : (Addr → Prop) → TE} (h : ∀ z, PE X e (t z)) : PE X e (fun σ H Q => ∃ z, t z σ H Q) := ⟨fun pins s σ H Q I ⟨z, q⟩ => (h z).run pins s σ H Q I q⟩
theorem pg_ex {e : Expr} {t : (Addr → Prop) → TG} (h : ∀ z, PG X e (t z)) : PG X e (fun v σ H Q => ∃ z, t z v σ H Q) := ⟨fun pins s σ H v u Q I r ⟨z, q⟩ => (h z).run pins s σ H v u Q I r q⟩
theorem pts_ex {e : List Expr} {t : (Addr → Prop) → TT} (h : ∀ z, PTs X e (t z)) : PTs X e (fun σ H Q => ∃ z, t z σ H Q) := ⟨fun pins s σ H Q I ⟨z, q⟩ => (h z).run pins s σ H Q I q⟩
theorem se_comp (cx : Ctx G C W X) {k : Ik} {l c : EL} {p : Pat} {ce : E} {elt : Expr} {ifs : List Expr} {scope : Scope} {own : List (Str × Nat)} (nc : ∀ i ∈ p.slots, NoClo G i) (hi : SI X G C W tg iter k l) (ok : BlkOk X.N X.env.scope scope own) (ho : own.map (·.2) = p.slots)
    (hg : ∀ z, InBlk X scope fun Y _ => PG Y tg (tG (G.hotter z) p)) (ht : ∀ z, InBlk X scope fun Y V => PTs Y ifs (tT (G.hotter z) C V c))
    (he : ∀ z, InBlk X scope fun Y V => SE Y (G.hotter z) C V elt ce) : SE X G C W (.ListComp elt [⟨tg, iter, ifs, 0⟩] scope pos) (.comp p k l c ce) :=
  .plain (pe_of (pe_lcF (tt := tT2 G C c) (te := tE2 G C ce) cx.calm cx.nd cx.tk hi.pi ok (fun s H A cl fp xe V q1 q2 => pg_ex fun z => hg z s H A cl fp xe V q1 q2) (fun s H A cl fp xe V q1 q2 => pts_ex fun z => ht z s H A cl fp xe V q1 q2)
    (fun s H A cl fp xe V q1 q2 => pe_ex fun z => (he z s H A cl fp xe V q1 q2).pe) hi.fs) (tE_comp nc ho)) rfl
theorem ss_setC (cx : Ctx G C W X) {i : Nat} {y : Str} {py spos : Pos} {k : Ik} {l c : EL} {p : Pat} {ce : E} {elt : Expr} {ifs : List Expr} {scope : Scope} {own : List (Str × Nat)} (nc : ∀ i ∈ p.slots, NoClo G i) (ni : NoClo G i) (hy : X.N[i]? = some y) (hyl : X.env.scope.names.lookup y = some .local)
    (hsw : swapsWith (.ListComp elt [⟨tg, iter, ifs, 0⟩] scope pos) (some (.Name y py)) spos.line X.env = pure true) (hi : SI X G C W tg iter k l) (ok : BlkOk X.N X.env.scope scope own) (ho : own.map (·.2) = p.slots)
    (hg : ∀ z, InBlk X scope fun Y _ => PG Y tg (tG (G.hotter z) p)) (ht : ∀ z, InBlk X scope fun Y V => PTs Y ifs (tT (G.hotter z) C V c))
    (he : ∀ z, InBlk X scope fun Y V => SE Y (G.hotter z) C V elt ce) : PS X (.Assign [.Name y py] (.ListComp elt [⟨tg, iter, ifs, 0⟩] scope pos) spos) (tS G C W (.asg (.nm i) (.comp p k l c ce))) :=
  ps_of (ps_setLcF (tt := tT2 G C c) (te := tE2 G C ce) cx.calm cx.nd cx.tk hy hyl hsw hi.pi ok (fun s H A cl fp xe V q1 q2 => pg_ex fun z => hg z s H A cl fp xe V q1 q2) (fun s H A cl fp xe V q1 q2 => pts_ex fun z => ht z s H A cl fp xe V q1 q2)
    (fun s H A cl fp xe V q1 q2 => pe_ex fun z => (he z s H A cl fp xe V q1 q2).pe) hi.fs) fun Z σ H ⟨m, h, ρ, st, ok⟩ => by
    simp only [evS] at ok
    show tLc (tI G C W k l) (tG2 G p) (tT2 G C c (keepW W σ)) (tE2 G C ce (keepW W σ)) (own.map (·.2)) σ H (fun x H1 => gName i x σ H1 Z.nx)
    refine tE_comp nc ho σ H _ (tS_step st ok fun d h1 m1 v H1 x r p st1 ok1 => ?_)
    simp only [Pat.bnd, R.ofO, R.thenS] at ok1
    exact ok1 m1 _ H1 .refl (st1.set ni p)
end
end PV
set_option Elab.async false
set_option autoImplicit false
set_option maxRecDepth 100000
set_option maxHeartbeats 1000000
namespace PV
open PySem PySem.Spec PyProof.Rows L2
theorem within_vals {n : Nat} : ∀ {l : List (D × D)}, (∀ p ∈ l, isKey p.1 = true) → D.withinL n (l.map (·.2)) = true → D.withinP n l = true
  | [], _, _ => rfl
  | (k, v) :: r, hk, e => by
    simp only [List.map_cons, D.withinL, Bool.and_eq_true] at e
    simp only [D.withinP, Bool.and_eq_true]
    refine ⟨⟨?_, e.1⟩, within_vals (fun p hp => hk p (by simp [hp])) e.2⟩
    have := hk (k, v) (by simp)
    cases k <;> simp_all [isKey, D.within]
section
variable {G : Gx} {m m' : List Addr} {h h' : Hs} {H H' : L2.Hp} {i : Nat} {a : Addr} {c c' : D} {u : HO}
theorem set_get (hs : Hs) (i j : Nat) (c d : D) (e : (hs.set i c)[j]? = some d) : (i = j ∧ d = c ∧ j < hs.length) ∨ (i ≠ j ∧ hs[j]? = some d) := by
  rw [List.getElem?_set] at e
  by_cases hij : i = j
  · subst hij
    by_cases hl : i < hs.length
    · simp [hl] at e; exact .inl ⟨rfl, e.symm, hl⟩
    · simp [hl] at e
  · simp [hij] at e; exact .inr ⟨hij, e⟩
theorem live_set (hi : m[i]? = some a) (hc : h[i]? = some c) (n : c ≠ .non) {b : Addr} (z : Live G m (h.set i c') b) : Live G m h b := by
  rcases z with z | ⟨j, d, h1, h2, h3⟩
  · exact .inl z
  · rcases set_get _ _ _ _ _ h2 with ⟨rfl, _, _⟩ | ⟨_, h2⟩
    · exact .inr ⟨i, c, h1, hc, n⟩
    · exact .inr ⟨j, d, h1, h2, h3⟩
theorem cell_ext (r : HRel G m h H) (hi : m[i]? = some a) (hc : h[i]? = some c) (n : c ≠ .non) : Ext G m h H m (h.set i c') (upd H a u) where
  pre := fun _ _ e => e
  rd := fun b v q nl _ => by
    have : b ≠ a := fun z => nl (by rw [z]; exact .inr ⟨i, c, hi, hc, n⟩)
    rcases q with q | ⟨o, q⟩
    · exact .inl (by rw [upd_ne this]; exact q)
    · exact .inr ⟨o, by rw [upd_ne this]; exact q⟩
  ins := fun b C dx fs q nl => by
    have : b ≠ a := fun z => nl (by rw [z]; exact .inr ⟨i, c, hi, hc, n⟩)
    rw [upd_ne this]; exact q
  nl := fun b z => .inl (live_set hi hc n z)
  hot := fun b z => upd_ne fun e => r.cold i a c hi hc n (by rw [← e]; exact .inl z)
theorem cell_rel (r : HRel G m h H) (hi : m[i]? = some a) (hc : h[i]? = some c) (n : c ≠ .non) (new : CellAt G (upd H a u) (Live G m (h.set i c')) m a c') : HRel G m (h.set i c') (upd H a u) := by
  have x : Ext G m h H m (h.set i c') (upd H a u) := cell_ext r hi hc n
  refine ⟨by rw [List.length_set]; exact r.len, fun j b d h1 h2 => ?_, fun j k b d e h1 h2 h3 h4 n1 n2 => ?_, fun b z => ?_, fun j b d h1 h2 n1 => ?_, ((r.cell i a c hi hc).sm n).tabs r.tab, ((r.cell i a c hi hc).sm n).kn r.kn⟩
  · rcases set_get _ _ _ _ _ h2 with ⟨rfl, rfl, _⟩ | ⟨hij, h2⟩
    · rw [hi] at h1
      cases h1
      exact new
    · exact (r.cell j b d h1 h2).mono x fun n1 => upd_ne fun e => hij (r.inj i j a c d hi (by rw [← e]; exact h1) hc h2 n n1)
  · have g : ∀ (j : Nat) (d : D), m[j]? = some b → (h.set i c')[j]? = some d → d ≠ .non → ∃ d', h[j]? = some d' ∧ d' ≠ .non := fun j d h1 h2 n1 => by
      rcases set_get _ _ _ _ _ h2 with ⟨rfl, _, _⟩ | ⟨_, h2⟩
      · exact ⟨c, hc, n⟩
      · exact ⟨d, h2, n1⟩
    obtain ⟨d1, g1, g2⟩ := g j d h1 h3 n1
    obtain ⟨d2, g3, g4⟩ := g k e h2 h4 n2
    exact r.inj j k b d1 d2 h1 h2 g1 g3 g2 g4
  · rw [upd_ne fun e => r.cold i a c hi hc n (by rw [← e]; exact .inl z)]; exact r.hotv b z
  · rcases set_get _ _ _ _ _ h2 with ⟨rfl, _, _⟩ | ⟨_, h2⟩
    · exact r.cold i b c h1 hc n
    · exact r.cold j b d h1 h2 n1
theorem upd_self {H : L2.Hp} {a : Addr} {u : HO} (e : H a = some u) : upd H a u = H := by
  funext b
  by_cases z : b = a
  · subst z; rw [upd_same, e]
  · rw [upd_ne z]
/-- frozen: no cell any more -/
theorem cell_gone (r : HRel G m h H) (hi : m[i]? = some a) (hc : h[i]? = some c) (n : c ≠ .non) : Ext G m h H m (gone h i) H ∧ HRel G m (gone h i) H ∧ Rep G H (Live G m (gone h i)) m c (.ref a) := by
  have z := r.cell i a c hi hc
  have nl : ¬ Live G m (gone h i) a := by
    rintro (q | ⟨j, d, h1, h2, h3⟩)
    · exact r.cold i a c hi hc n q
    · rcases set_get _ _ _ _ _ h2 with ⟨rfl, rfl, _⟩ | ⟨hij, h2⟩
      · exact h3 rfl
      · exact hij (r.inj i j a c d hi h1 hc h2 n h3)
  obtain ⟨o, e⟩ : ∃ o, H a = some o := by
    cases q : H a with
    | none => exact absurd q (z.ne n)
    | some o => exact ⟨o, rfl⟩
  have x : Ext G m h H m (h.set i .non) (upd H a o) := cell_ext r hi hc n
  have q : HRel G m (h.set i .non) (upd H a o) := cell_rel r hi hc n trivial
  rw [upd_self e] at x q
  refine ⟨x, q, ?_⟩
  cases c with
  | lst l => obtain ⟨vs, h1, h2⟩ := z; exact .lst (.inl h1) nl (h2.mono x)
  | dct l => obtain ⟨vs, h1, h2, h3, h4⟩ := z; exact .dct (.inl h1) nl h2 h3 (h4.mono x)
  | ins c l => obtain ⟨dx, fs, vs, h1, h2, h3⟩ := z; exact .ins h1 nl h2 (h3.mono x)
  | non => exact absurd rfl n
  | _ => exact z.elim
/-- a live cell by its name -/
theorem ref_cell (r : HRel G m h H) {v : V} (p : Rep G H (Live G m h) m (.ref i) v) (n : h.getD i .non ≠ .non) : ∃ a, v = .ref a ∧ m[i]? = some a ∧ h[i]? = some (h.getD i .non) := by
  cases p with
  | @ref _ a e =>
    refine ⟨a, rfl, e, ?_⟩
    cases q : h[i]? with
    | none => rw [List.getD_eq_getElem?_getD, q] at n; exact absurd rfl n
    | some d => rw [List.getD_eq_getElem?_getD, q]; rfl
/-! ### a call's end -/
mutual
theorem Rep.within {Lv : Addr → Prop} : ∀ {d : D} {v : V}, Rep G H Lv m d v → d.within m.length = true
  | _, _, .non => rfl
  | _, _, .bl b => rfl
  | _, _, .int i => rfl
  | _, _, .str x => rfl
  | _, _, .tup r n l => RepL.within l
  | _, _, .tupK k l => RepL.within l
  | _, _, .lst r n l => RepL.within l
  | _, _, .lstK k l => RepL.within l
  | _, _, .dct r n k q l => within_vals k (RepL.within l)
  | _, _, .ins r n f l => RepL.within l
  | _, _, .ref h => decide_eq_true (get_lt h)
  | _, _, .fn f _ => rfl
  | _, _, .exc0 _ _ _ _ => rfl
  | _, _, .exc1 _ _ _ _ _ _ _ l => RepL.within l
theorem RepL.within {Lv : Addr → Prop} : ∀ {l : List D} {vs : List V}, RepL G H Lv m l vs → D.withinL m.length l = true
  | _, _, .nil => rfl
  | _, _, .cons r t => by simp only [D.withinL, Bool.and_eq_true]; exact ⟨Rep.within r, RepL.within t⟩
end
theorem withinL_vals {n : Nat} : ∀ {l : List (D × D)}, D.withinP n l = true → D.withinL n (l.map (·.2)) = true
  | [], _ => rfl
  | (k, v) :: r, e => by
    simp only [D.withinP, Bool.and_eq_true] at e
    simp only [List.map_cons, D.withinL, Bool.and_eq_true]
    exact ⟨e.1.2, withinL_vals e.2⟩
mutual
theorem Rep.cut {Lv Lv' : Addr → Prop} {n : Nat} (hl : ∀ b, Lv' b → Lv b) : ∀ {d : D} {v : V}, Rep G H Lv m d v → d.within n = true → Rep G H Lv' (m.take n) d v
  | _, _, .non, _ => .non
  | _, _, .bl b, _ => .bl b
  | _, _, .int i, _ => .int i
  | _, _, .str x, _ => .str x
  | _, _, .tup r k l, e => .tup r (fun z => k (hl _ z)) (RepL.cut hl l e)
  | _, _, .tupK k l, e => .tupK k (RepL.cut hl l e)
  | _, _, .lst r k l, e => .lst r (fun z => k (hl _ z)) (RepL.cut hl l e)
  | _, _, .lstK k l, e => .lstK k (RepL.cut hl l e)
  | _, _, .dct r k q1 q2 l, e => .dct r (fun z => k (hl _ z)) q1 q2 (RepL.cut hl l (withinL_vals e))
  | _, _, .ins r k f l, e => .ins r (fun z => k (hl _ z)) f (RepL.cut hl l e)
  | _, _, .ref h, e => .ref (by rw [List.getElem?_take_of_lt (of_decide_eq_true e)]; exact h)
  | _, _, .fn f q, _ => .fn f q
  | _, _, .exc0 w r k f, _ => .exc0 w r (fun z => k (hl _ z)) f
  | _, _, .exc1 w r k r2 k2 f g l, e => .exc1 w r (fun z => k (hl _ z)) r2 (fun z => k2 (hl _ z)) f g (RepL.cut hl l e)
theorem RepL.cut {Lv Lv' : Addr → Prop} {n : Nat} (hl : ∀ b, Lv' b → Lv b) : ∀ {l : List D} {vs : List V}, RepL G H Lv m l vs → D.withinL n l = true → RepL G H Lv' (m.take n) l vs
  | _, _, .nil, _ => .nil
  | _, _, .cons r t, e => by
    simp only [D.withinL, Bool.and_eq_true] at e
    exact .cons (Rep.cut hl r e.1) (RepL.cut hl t e.2)
end
theorem CellAt.cut {Lv Lv' : Addr → Prop} {n : Nat} {a : Addr} (hl : ∀ b, Lv' b → Lv b) : ∀ {c : D}, CellAt G H Lv m a c → c.within n = true → CellAt G H Lv' (m.take n) a c
  | .lst l, ⟨vs, q, r⟩, e => ⟨vs, q, r.cut hl e⟩
  | .dct l, ⟨kvs, q, r1, r2, r⟩, e => ⟨kvs, q, r1, r2, r.cut hl (withinL_vals e)⟩
  | .ins c l, ⟨dx, fs, vs, q, r1, r⟩, e => ⟨dx, fs, vs, q, r1, r.cut hl e⟩
  | .non, _, _ => trivial
  | .bl _, x, _ => x.elim
  | .int _, x, _ => x.elim
  | .str _, x, _ => x.elim
  | .tup _, x, _ => x.elim
  | .exc _ _, x, _ => x.elim
  | .ref _, x, _ => x.elim
  | .fn _, x, _ => x.elim
  | .clo _ _, x, _ => x.elim
theorem CellAt.within {Lv : Addr → Prop} : ∀ {c : D}, CellAt G H Lv m a c → c.within m.length = true
  | .lst l, ⟨vs, q, r⟩ => r.within
  | .dct l, ⟨kvs, q, r1, r2, r⟩ => within_vals r1 r.within
  | .ins c l, ⟨dx, fs, vs, q, r1, r⟩ => r.within
  | .non, _ => rfl
  | .bl _, x => x.elim
  | .int _, x => x.elim
  | .str _, x => x.elim
  | .tup _, x => x.elim
  | .exc _ _, x => x.elim
  | .ref _, x => x.elim
  | .fn _, x => x.elim
  | .clo _ _, x => x.elim
theorem live_cut {n : Nat} {b : Addr} (z : Live G (m.take n) (h.take n) b) : Live G m h b := by
  rcases z with z | ⟨i, d, h1, h2, h3⟩
  · exact .inl z
  · have : i < n := by
      have := get_lt h1
      simp at this; omega
    rw [List.getElem?_take_of_lt this] at h1 h2
    exact .inr ⟨i, d, h1, h2, h3⟩
mutual
theorem D.within_le {n k : Nat} (l : n ≤ k) : ∀ d : D, d.within n = true → d.within k = true
  | .non, _ | .bl _, _ | .int _, _ | .str _, _ | .fn _, _ => rfl
  | .tup x, e | .lst x, e | .ins _ x, e | .exc _ x, e | .clo _ x, e => D.withinL_le l x e
  | .dct x, e => D.withinP_le l x e
  | .ref i, e => by have := of_decide_eq_true e; exact decide_eq_true (by omega)
theorem D.withinL_le {n k : Nat} (l : n ≤ k) : ∀ x : List D, D.withinL n x = true → D.withinL k x = true
  | [], _ => rfl
  | d :: r, e => by
    simp only [D.withinL, Bool.and_eq_true] at e ⊢
    exact ⟨D.within_le l d e.1, D.withinL_le l r e.2⟩
theorem D.withinP_le {n k : Nat} (l : n ≤ k) : ∀ x : List (D × D), D.withinP n x = true → D.withinP k x = true
  | [], _ => rfl
  | (d, v) :: r, e => by
    simp only [D.withinP, Bool.and_eq_true] at e ⊢
    exact ⟨⟨D.within_le l d e.1.1, D.within_le l v e.1.2⟩, D.withinP_le l r e.2⟩
end
theorem cut_ok {n : Nat} {ds : List D} (r0 : HRel G m h H) (x : Ext G m h H m' h' H') (r : HRel G m' h' H') (hn : h.length ≤ n) (f : fits n h h' ds = true) :
    Ext G m h H (m'.take n) (h'.take n) H' ∧ HRel G (m'.take n) (h'.take n) H' ∧ D.withinL n ds = true := by
  simp only [fits, Bool.and_eq_true, List.all_eq_true] at f
  obtain ⟨f1, f2⟩ := f
  refine ⟨⟨fun i b e => ?_, x.rd, x.ins, fun b z => x.nl b (live_cut z), x.hot⟩, ⟨by simp [r.len], fun i b c h1 h2 => ?_, fun i j b c d h1 h2 h3 h4 n1 n2 => ?_, r.hotv, fun i b c h1 h2 n1 => ?_, r.tab, r.kn⟩, f1⟩
  · have := get_lt e
    rw [List.getElem?_take_of_lt (by have := r0.len; omega)]
    exact x.pre i b e
  · have hi : i < n := by
      have := get_lt h1
      simp at this; omega
    rw [List.getElem?_take_of_lt hi] at h1 h2
    refine (r.cell i b c h1 h2).cut (fun b z => live_cut z) ?_
    have q := f2 i (by simp [hi])
    simp only [Bool.or_eq_true, decide_eq_true_eq] at q
    rcases q with q | q
    · rw [q] at h2
      have hm : i < m.length := by rw [r0.len]; exact get_lt h2
      have := (r0.cell i m[i] c (by simp [hm]) h2).within
      exact D.within_le (by rw [r0.len]; exact hn) c this
    · rw [List.getD_eq_getElem?_getD, h2] at q
      exact q
  · have hi : i < n := by
      have := get_lt h1
      simp at this; omega
    have hj : j < n := by
      have := get_lt h2
      simp at this; omega
    rw [List.getElem?_take_of_lt hi] at h1 h3
    rw [List.getElem?_take_of_lt hj] at h2 h4
    exact r.inj i j b c d h1 h2 h3 h4 n1 n2
  · have hi : i < n := by
      have := get_lt h1
      simp at this; omega
    rw [List.getElem?_take_of_lt hi] at h1 h2
    exact r.cold i b c h1 h2 n1
theorem trim_ok {ds : List D} {vs : List V} (r0 : HRel G m h H) (x : Ext G m h H m' h' H') (r : HRel G m' h' H') (p : RepL G H' (Live G m' h') m' ds vs) :
    ∃ m2, Ext G m h H m2 (trim h h' ds) H' ∧ HRel G m2 (trim h h' ds) H' ∧ RepL G H' (Live G m2 (trim h h' ds)) m2 ds vs ∧ ∀ b, Live G m2 (trim h h' ds) b → Live G m' h' b := by
  unfold trim
  split
  · rename_i f
    obtain ⟨a1, a2, a3⟩ := cut_ok r0 x r (Nat.le_refl _) f
    exact ⟨_, a1, a2, p.cut (fun b z => live_cut z) a3, fun b z => live_cut z⟩
  · split
    · rename_i f
      obtain ⟨a1, a2, a3⟩ := cut_ok r0 x r (Nat.le_succ _) f
      exact ⟨_, a1, a2, p.cut (fun b z => live_cut z) a3, fun b z => live_cut z⟩
    · exact ⟨m', x, r, p, fun b z => z⟩
end
end PV
set_option Elab.async false
set_option autoImplicit false
set_option maxRecDepth 100000
set_option maxHeartbeats 1000000
namespace PV
open PySem PySem.Spec PyProof.Rows L2
section
variable {X : Cx} {G : Gx} {C : Cl} {W : WX} {pos : Pos}
theorem pset_or {t u : TSet} (h1 : PSet X t) (h2 : PSet X u) : PSet X (fun o i v H Q => t o i v H Q ∨ u o i v H Q) := fun pins s σ H o i v ov iv r Q I ro ri rv h => by
  rcases h with h | h
  · exact h1 pins s σ H o i v ov iv r Q I ro ri rv h
  · exact h2 pins s σ H o i v ov iv r Q I ro ri rv h
theorem put_map {l : List (D × D)} {kvs : List (Key × V)} {k : D} {H : L2.Hp} {Lv : Addr → Prop} {m : List Addr} {d : D} {v : V} (hk : isKey k = true) (h1 : ∀ p ∈ l, isKey p.1 = true) (h2 : kvs.map (·.1) = l.map (fun p => keyOf p.1))
    (h3 : RepL G H Lv m (l.map (·.2)) (kvs.map (·.2))) (hr : Rep G H Lv m d v) : (∀ p ∈ dput l k d, isKey p.1 = true) ∧ (putK kvs (keyOf k) v).map (·.1) = (dput l k d).map (fun p => keyOf p.1) ∧ RepL G H Lv m ((dput l k d).map (·.2)) ((putK kvs (keyOf k) v).map (·.2)) := by
  have anyq : ∀ {l : List (D × D)} {kvs : List (Key × V)}, (∀ p ∈ l, isKey p.1 = true) → kvs.map (·.1) = l.map (fun p => keyOf p.1) → (l.any fun p => decide (p.1 = k)) = kvs.any fun kv => decide (kv.1 = keyOf k) := fun {l} => by
    induction l with
    | nil => intro kvs _ e; cases kvs <;> simp_all
    | cons p l ih =>
      intro kvs hp e
      cases kvs with
      | nil => simp at e
      | cons q kvs =>
        simp only [List.map_cons, List.cons.injEq] at e
        simp only [List.any_cons, e.1, ih (fun p h => hp p (by simp [h])) e.2]
        congr 1
        have := keyOf_inj (hp p (by simp)) hk
        by_cases z : p.1 = k <;> simp [z, this]
  have mapq : ∀ {l : List (D × D)} {kvs : List (Key × V)}, (∀ p ∈ l, isKey p.1 = true) → kvs.map (·.1) = l.map (fun p => keyOf p.1) → RepL G H Lv m (l.map (·.2)) (kvs.map (·.2)) →
      (∀ p ∈ (l.map fun p => if p.1 = k then (p.1, d) else p), isKey p.1 = true) ∧ (kvs.map (fun kv => if kv.1 = keyOf k then (kv.1, v) else kv)).map (·.1) = (l.map fun p => if p.1 = k then (p.1, d) else p).map (fun p => keyOf p.1) ∧
      RepL G H Lv m ((l.map fun p => if p.1 = k then (p.1, d) else p).map (·.2)) ((kvs.map (fun kv => if kv.1 = keyOf k then (kv.1, v) else kv)).map (·.2)) := fun {l} => by
    induction l with
    | nil => intro kvs _ e _; cases kvs <;> simp_all <;> exact .nil
    | cons p l ih =>
      intro kvs hp e r
      cases kvs with
      | nil => simp at e
      | cons q kvs =>
        simp only [List.map_cons, List.cons.injEq] at e r
        cases r with
        | cons r1 r2 =>
          obtain ⟨i1, i2, i3⟩ := ih (fun p h => hp p (by simp [h])) e.2 r2
          have kq := keyOf_inj (hp p (by simp)) hk
          have ep : (q.1 = keyOf k) = (p.1 = k) := by rw [e.1]; exact propext kq
          refine ⟨fun x hx => ?_, ?_, ?_⟩
          · simp only [List.map_cons, List.mem_cons] at hx
            rcases hx with rfl | hx
            · have := hp p (by simp)
              by_cases z : p.1 = k <;> simp [z]
              · exact hk
              · exact this
            · exact i1 x hx
          · simp only [List.map_cons, ep, i2]
            by_cases z : p.1 = k <;> simp [z, e.1]
          · simp only [List.map_cons, ep]
            refine .cons ?_ i3
            by_cases z : p.1 = k
            · simp only [z, if_true]; exact hr
            · simp only [z, if_false]; exact r1
  unfold dput putK
  rw [← anyq h1 h2]
  split
  · exact mapq h1 h2 h3
  · refine ⟨fun p hp => ?_, by simp [h2], by simp only [List.map_append]; exact h3.append (.cons hr .nil)⟩
    rcases List.mem_append.mp hp with q | q
    · exact h1 p q
    · simp only [List.mem_singleton] at q; subst q; exact hk
def notComp (e : Expr) : Bool := match e with
  | .ListComp _ _ _ _ => false
  | .SetComp _ _ _ _ => false
  | .DictComp _ _ _ _ _ => false
  | _ => true
theorem sw_no {e : Expr} {t : Option Expr} {l : Nat} {env : PySem.Env} (h : notComp e = true) : swapsWith e t l env = pure false := by
  unfold notComp at h
  split at h
  · cases h
  · cases h
  · cases h
  · rename_i h1 h2 h3
    unfold swapsWith
    split
    · rename_i q
      split at q
      · exact absurd rfl (h1 _ _ _ _)
      · exact absurd rfl (h2 _ _ _ _)
      · exact absurd rfl (h3 _ _ _ _ _)
      · cases q
    · rfl
theorem ss_sset (cx : Ctx G C W X) {o i e : Expr} {co ci ce : E} {p : Pos} (ho : SE X G C W o co) (hi : SE X G C W i ci) (he : SE X G C W e ce) (hn : notComp e = true)
    (ha : ∀ v, assign (.Subscript o i p) X.env v = (do
      let ov ← holding [v] (eval o X.env)
      let iv ← holding [v, ov] (eval i X.env)
      standAt p
      holding [v, ov, iv] (setItem ov iv v)
      release [v, ov, iv] []) := by intro _; rfl) : PS X (.Assign [.Subscript o i p] e pos) (tS G C W (.sset co ci ce)) :=
  ps_of (ps_asg he.pe (pg_sub ho.pe hi.pe (pset_or set_list (set_dict (by have := cx.bd; omega))) ha) (by rw [swapsWithSole]; exact sw_no hn)) fun Z σ H ⟨m, h, ρ, st, ok⟩ => by
    simp only [evS] at ok
    refine tS_step st ok fun d h1 m1 v H1 x r p st1 ok1 => ?_
    refine tS_step st1 ok1 fun dx h2 m2 vx H2 x2 r2 p2 st2 ok2 => ?_
    obtain ⟨j, ej, ok2⟩ := thenS_of ok2
    rw [asR_some ej] at p2
    refine tS_step st2 ok2 fun dk h3 m3 vk H3 x3 r3 p3 st3 ok3 => ?_
    obtain ⟨c, ec, ok3⟩ := thenS_of ok3
    have p2 := p2.mono x3
    have p := (p.mono x2).mono x3
    have nn : h3.getD j .non ≠ .non := fun z => by rw [z] at ec; cases ec
    obtain ⟨a, rfl, hm, hc⟩ := ref_cell r3 p2 nn
    have hcell := r3.cell j a _ hm hc
    generalize h3.getD j .non = cc at ec nn hc hcell
    cases cc with
    | lst l =>
      cases dk with
      | int i =>
        cases p3
        simp only [setAt] at ec
        cases q : PV.ixN l.length i with
        | none => rw [q] at ec; cases ec
        | some n =>
          rw [q] at ec
          cases ec
          obtain ⟨vs, q1, q2⟩ := hcell
          have xx : Ext G m3 h3 H3 m3 (h3.set j (.lst (l.set n d))) (upd H3 a (.lst (vs.set n v))) := cell_ext r3 hm hc nn
          refine .inl ⟨a, vs, i, n, rfl, rfl, q1, by rw [← q2.length]; exact q, ok3 m3 σ _ xx (st3.later xx (cell_rel r3 hm hc nn ⟨_, upd_same, ?_⟩))⟩
          exact (RepL.set p n q2).mono xx
      | _ => simp [setAt] at ec
    | dct l =>
      simp only [setAt] at ec
      split at ec
      · rename_i hk
        cases ec
        simp only [Bool.and_eq_true, decide_eq_true_eq] at hk
        obtain ⟨kvs, q1, q2, q3, q4⟩ := hcell
        have ek := isKey_sn (h := h3) hk.1 p3
        subst ek
        have xx : Ext G m3 h3 H3 m3 (h3.set j (.dct (dput l dk d))) (upd H3 a (.dK (putK kvs (keyOf dk) v))) := cell_ext r3 hm hc nn
        obtain ⟨n1, n2, n3⟩ := put_map hk.1 q2 q3 (q4.mono xx) (p.mono xx)
        refine .inr ⟨a, _, rfl, .inl ⟨kvs, keyOf dk, q1, rfl, ?_, rfl⟩, ok3 m3 σ _ xx (st3.later xx (cell_rel r3 hm hc nn ⟨_, upd_same, n1, n2, n3⟩))⟩
        rw [keys_len q3, ← line_eq]; exact hk.2
      · cases ec
    | _ => simp [setAt] at ec
/-! ### a display as a cell -/
theorem se_boxL {es : List Expr} {l : EL} (hs : SA X G C W es l) (hl : ELlen l ≤ 1000) : SE X G C W (.List es pos) (.box (.lst l)) :=
  .plain (pe_of (pe_lst hs.pa) fun σ H Q ⟨m, h, ρ, st, ok⟩ => by
    simp only [evE] at ok
    have ok := okR_then (okR_then ok)
    refine ⟨m, h, ρ, st, okR_mono (okR_len ok) (fun ds h1 q m1 vs H1 x1 r1 p1 => ?_) fun _ _ _ q => q⟩
    refine ⟨by rw [← p1.length, q.1, sizeLine_eq]; omega, fun p hp => ?_⟩
    have xx : Ext G m1 h1 H1 (m1 ++ [p]) (h1 ++ [.lst ds]) (upd H1 p (.lst vs)) := Ext.cell r1 hp
    refine q.2 (m1 ++ [p]) (.ref p) _ (x1.trans xx) (HRel.snoc r1 hp ⟨vs, upd_same, p1.mono xx⟩) (.ref ?_)
    rw [← r1.len]
    simp) rfl
theorem se_frz {e : Expr} {c : E} (he : SE X G C W e c) (hp : plainT e = true) : SE X G C W e (.frz c) :=
  .plain (pe_of he.pe fun σ H Q ⟨m, h, ρ, st, ok⟩ => by
    simp only [evE] at ok
    refine tE_step st ok fun d h1 m1 v H1 x r p st1 ok1 => ?_
    obtain ⟨i, ei, ok1⟩ := okR_ofO (okR_then ok1)
    rw [asR_some ei] at p
    split at ok1
    · exact ok1.elim
    · rename_i nn
      obtain ⟨a, rfl, hm, hc⟩ := ref_cell r p nn
      obtain ⟨x2, r2, p2⟩ := cell_gone r hm hc nn
      exact ok1 m1 _ H1 (x.trans x2) r2 p2) hp
end
/-! ### a def by its body -/
section
variable {P : Program} {w : World} {K : PySem.W.Frag} {mg : Str → Option Value}
theorem bind_start0 {G : Gx} {m : List Addr} {h : Hs} {H : L2.Hp} {ds : List D} {vs : List V} {k : Nat} {rest : L2.St} (r : HRel G m h H) (p : RepL G H (Live G m h) m ds vs) (hk : rest.length = k)
    (hc : ∀ z : CloI, G.ht.clo = some z → (vs.map some ++ rest)[z.j]? = some (some (.ref z.a)) ∧ RepL G H (Live G m h) m z.ds z.vs) :
    Stt G m h (ds.map some ++ List.replicate k none) (vs.map some ++ rest) H := by
  refine ⟨r, fun i d e => ?_, by simp [p.length, hk], hc⟩
  rw [List.getD_eq_getElem?_getD] at e
  by_cases hi : i < ds.length
  · rw [List.getElem?_append_left (by simpa using hi)] at e
    simp [hi] at e
    obtain ⟨v, h1, h2⟩ := p.get (i := i) (d := d) (by simp [hi, e])
    refine ⟨v, ?_, h2⟩
    rw [List.getElem?_append_left (by have := get_lt h1; simpa using this), List.getElem?_map, h1] <;> rfl
  · rw [List.getElem?_append_right (by simp; omega)] at e
    simp [List.getElem?_replicate] at e
    split at e <;> simp at e
/-- what a def's run asks -/
theorem run_len {C : Cl} {fd : Fd} {ds : List D} {h : Hs} {P : D → Hs → Prop} {Z : Nat → List D → Hs → Prop} (ok : okR (runF C fd ds h) P Z) : ds.length = fd.np := by
  unfold runF at ok
  split at ok
  · assumption
  · exact ok.elim
theorem run_body {G : Gx} {C : Cl} {fd : Fd} {ds : List D} {m : List Addr} {h : Hs} {σ : L2.St} {H : L2.Hp} {Q : VK} {E : XK} (st : Stt G m h (ds.map some ++ List.replicate (fd.nv - fd.np) none) σ H)
    (ok : okR (runF C fd ds h) (fun d h' => ∀ m' v H', Ext G m h H m' h' H' → HRel G m' h' H' → Rep G H' (Live G m' h') m' d v → Q v H')
      (fun c l h' => ∀ m' H' cls d, Ext G m h H m' h' H' → HRel G m' h' H' → RepX G H' (Live G m' h') m' c l cls d → E cls d H')) :
    tSL G C (fun cls d _ H => E cls d H) fd.body { nx := fun _ H' => Q .non H', rt := Q } σ H := by
  have r := st.rel
  have hl := run_len ok
  simp only [runF, hl, if_true] at ok
  refine ⟨m, h, _, st, ?_⟩
  revert ok
  generalize evSL C fd.body _ h = res
  intro ok
  cases res with
  | rt d h' =>
    intro m' v H' x r' p'
    obtain ⟨m2, x2, r2, p2, lv⟩ := trim_ok (ds := [d]) (vs := [v]) r x r' (.cons p' .nil)
    obtain ⟨v', e, p2⟩ := p2.one
    cases e
    exact ok m2 v H' x2 r2 p2
  | nx ρ h' =>
    intro m' σ' H' x st'
    obtain ⟨m2, x2, r2, p2, lv⟩ := trim_ok (ds := []) (vs := []) r x st'.rel .nil
    exact ok m2 .non H' x2 r2 .non
  | ex c l ρ h' =>
    intro m' σ' H' cls d x st' p'
    obtain ⟨e1, e0, q⟩ := p'
    rcases q with ⟨e2, e3, e4⟩ | ⟨dx, fs, vs', e2, e3, e4, e5, e6, e7⟩
    · subst e2
      obtain ⟨m2, x2, r2, p2, lv⟩ := trim_ok (ds := []) (vs := []) r x st'.rel .nil
      exact ok m2 H' cls d x2 r2 ⟨e1, e0, .inl ⟨rfl, e3, e4⟩⟩
    · obtain ⟨m2, x2, r2, p2, lv⟩ := trim_ok (ds := l) (vs := vs') r x st'.rel e7
      exact ok m2 H' cls d x2 r2 ⟨e1, e0, .inr ⟨dx, fs, vs', e2, e3, fun z => e4 (lv _ z), e5, e6, p2⟩⟩
  | _ => exact ok.elim
theorem sp_body {G : Gx} {pr : Prog} {n f : Nat} {fd : Fd} {N : List Str} {vs : List V} {H : L2.Hp} {Q : VK} {E : XK} (hf : pr.fn f = some fd) (hN : N.length = fd.nv) (hp : fd.np ≤ fd.nv) (hc : G.ht.clo = none)
    (sp : spU G pr (n + 1) f vs H Q E) : vs.length = fd.np ∧ tSL G (clOf pr n none) (fun cls d _ H => E cls d H) fd.body { nx := fun _ H' => Q .non H', rt := Q } (L2.start N vs) H := by
  obtain ⟨m, h, ds, r, p, ok⟩ := sp
  simp only [callK, hf] at ok
  have hl := run_len ok
  refine ⟨by rw [← p.length]; exact hl, run_body (ds := ds) (m := m) (h := h) ?_ ok⟩
  have pl := p.length
  exact bind_start0 (rest := List.replicate (N.length - vs.length) none) r p (by simp; omega) fun z e => by rw [hc] at e; cases e
/-- .. of a def that gets a lambda, behind its other arguments -/
theorem sp_bodyK {G : Gx} {pr : Prog} {n f : Nat} {z : CloI} {fd : Fd} {N : List Str} {vs : List V} {H : L2.Hp} {Q : VK} {E : XK} (hf : pr.fn f = some fd) (hN : N.length = fd.nv) (hp : fd.np + 1 ≤ fd.nv) (hc : G.ht.clo = some z) (hj : z.j = fd.np)
    (sp : spK G pr (n + 1) f z vs H Q E) : vs.length = fd.np + 1 ∧ tSL G (clOf pr n (some (z.f, z.ds))) (fun cls d _ H => E cls d H) fd.body { nx := fun _ H' => Q .non H', rt := Q } (L2.start N vs) H := by
  obtain ⟨vs0, m, h, ds, rfl, r, p, p2, ok⟩ := sp
  simp only [callK, hf] at ok
  have hl := run_len ok
  have pl := p.length
  refine ⟨by simp; omega, run_body (ds := ds) (m := m) (h := h) ?_ ok⟩
  have e : L2.start N (vs0 ++ [.ref z.a]) = vs0.map some ++ (some (.ref z.a) :: List.replicate (N.length - (vs0 ++ [V.ref z.a]).length) none) := by
    simp [L2.start]
  rw [e]
  refine bind_start0 r p (by simp; omega) fun z' e' => ?_
  rw [hc] at e'
  cases e'
  refine ⟨?_, p2⟩
  rw [List.getElem?_append_right (by simp; omega)]
  simp [hj, ← hl, pl]
/-- .. of a lambda -/
theorem sp_bodyL {G : Gx} {pr : Prog} {n : Nat} {z : CloI} {k : Nat} {e : E} {N : List Str} {vs : List V} {H : L2.Hp} {Q : VK} {E : XK} (hf : pr.fn z.f = some ⟨k, k, .cons (.ret e) .nil⟩) (hN : N.length = k) (hc : G.ht.clo = none)
    (sp : spL G pr (n + 1) z vs H Q E) : vs.length + z.vs.length = k ∧ tE G (clOf pr n none) (fun cls d _ H => E cls d H) e (NdefX.startF N vs (z.vs.map some)) H Q := by
  obtain ⟨m, h, ds, r, p, p2, ok⟩ := sp
  simp only [callK, hf] at ok
  have hl := run_len ok
  have pl := p.length
  have pl2 := p2.length
  simp only [List.length_append] at hl
  have hl : ds.length + z.ds.length = k := hl
  refine ⟨by omega, ?_⟩
  have e1 : NdefX.startF N vs (z.vs.map some) = (vs ++ z.vs).map some ++ [] := by
    have : N.length - vs.length - z.vs.length = 0 := by omega
    simp [NdefX.startF, this]
  have st : Stt G m h ((ds ++ z.ds).map some ++ List.replicate (k - k) none) (NdefX.startF N vs (z.vs.map some)) H := by
    rw [e1]
    exact bind_start0 r (p.append p2) (by simp) fun z' e' => by rw [hc] at e'; cases e'
  obtain ⟨m2, h2, ρ2, st2, ok2⟩ := run_body (fd := ⟨k, k, .cons (.ret e) .nil⟩) (ds := ds ++ z.ds) (m := m) (h := h) st ok
  refine ⟨m2, h2, ρ2, st2, ?_⟩
  simp only [evSL, evS] at ok2
  cases q : evE (clOf pr n none) e ρ2 h2 with
  | bad => rw [q] at ok2; exact ok2.elim
  | ok d h3 => rw [q] at ok2; exact ok2
  | ex c l h3 =>
    rw [q] at ok2
    exact fun m' H' cls d x r p => ok2 m' _ H' cls d x (st2.later x r) p
end
end PV
set_option Elab.async false
set_option autoImplicit false
set_option maxRecDepth 100000
set_option maxHeartbeats 1000000
namespace PV
open PySem PySem.Spec PyProof.Rows L2
/-- a walk, from a turn on -/
theorem walks_shift {prog : Program} {w : World} {A : Around} {I : Addr} {fp wr : List Addr} {n : Nat} {P : Nat → Value → Prop} {St : Nat → Heap → Prop} (W : Walks prog w A I fp wr n P St) (k : Nat) (hk : k ≤ n) :
    Walks prog w A I fp wr (n - k) (fun i v => P (k + i) v) (fun i h => St (k + i) h) where
  sub := W.sub
  frame := fun i h h' st q => W.frame (k + i) h h' st q
  item := fun i s Q E hi st hQ => W.item (k + i) s Q E (by omega) st hQ
  done := fun s Q E st hQ => W.done s Q E (by rw [show k + (n - k) = n by omega] at st; exact st) hQ
  self := fun i s Q E st hQ => W.self (k + i) s Q E st hQ
section
variable {prog : Program} {w : World} {A : Around} {E : Value → Shared → Prop} {s : Shared}
theorem items_eq {items : Array Value} {i : Nat} {acc : Array Value} (hi : i ≤ items.size) (h : ItemsOf (fun j v => items[i + j]? = some v) acc (items.size - i)) : acc.toList = items.toList.drop i := by
  obtain ⟨h1, h2⟩ := h
  apply List.ext_getElem?
  intro j
  by_cases q : j < acc.size
  · have := h2 j acc[j] (by simp [q])
    rw [List.getElem?_drop]
    simp only [Array.getElem?_toList]
    rw [this]
    simp [q]
  · rw [List.getElem?_eq_none (by simp; omega), List.getElem?_eq_none (by simp; omega)]
theorem unpackItems_star {t : Addr} {items : Array Value} {i : Nat} {Q : List Value → Shared → Prop} (hh : A.handled = none) (ht : IsTup s.heap t items) (hi : i ≤ items.size) (hz : items.size ≤ sizeLine)
    (hQ : ∀ (h' : Heap) (tk : Nat), (∀ b o, s.heap.get? b = some o → h'.get? b = some o) → ∀ o : Obj, o = { cls := .type "list", data := .seq (items.toList.drop i).toArray } → Q (items.toList.take i ++ [.ref h'.objs.size]) { s with heap := h'.push o, toks := tk }) :
    wpAny (model prog w) A (unpackItems (.ref t) (i + 1) (some i)) Q E s := by
  have hlt : t ≠ s.heap.objs.size := by obtain ⟨o, ho, _⟩ := ht; exact Nat.ne_of_lt (Heap.lt_size ho)
  unfold unpackItems
  refine wpAny_bind ?_
  unfold notIterableAtAll
  refine wpAny_bind (wpAny_specialOf ht.typeIs slot_tuple_iter.lookup ?_)
  refine wpAny_pure ?_
  simp only [Bool.false_eq_true, if_false]
  refine wpAny_bind (wpAny_holding (iter_tuple ht ?_))
  refine wpAny_bind (wpAny_holding (draw_tuple hlt i 0 _ _ ⟨_, Heap.get?_push_size _ rfl, rfl, rfl⟩ (ht.push _) (by omega) fun h₁ hit₁ hs₁ => ?_))
  have hall : (List.take i (List.drop 0 items.toList)).length = i := by simp; omega
  rw [if_neg (by rw [hall]; omega)]
  have ht₁ : IsTup h₁ t items := (ht.push _).extBut hs₁.extBut hlt
  refine wpAny_bind (wpAny_holding (wpAny_collect_iter (A := A) (T := "tuple_iterator") (.inr (.inr (.inr rfl))) (walks_shift (Walks.tuple (A := A.in1) hh s.heap.objs.size t hlt items) i hi).toS (fun _ _ st => ?_) ?_ ?_ List.mem_cons_self (fun s' acc hm hacc => ?_) (by omega)))
  · obtain ⟨⟨o, ho, hc, _⟩, _⟩ := st
    exact ⟨o, ho, hc⟩
  · exact ⟨by rw [Nat.zero_add] at hit₁; exact hit₁, ht₁⟩
  · intro b hb
    simp only [List.mem_cons, List.not_mem_nil, or_false] at hb
    rcases hb with rfl | rfl
    · obtain ⟨o, ho, _⟩ := hit₁
      exact Heap.lt_size ho
    · obtain ⟨o, ho, _⟩ := ht₁
      exact Heap.lt_size ho
  · have ea := items_eq hi hacc
    have hl : acc.toList.length = items.size - i := by rw [Array.length_toList]; exact hacc.1
    simp only [show i + 1 - 1 - i = 0 by omega, Nat.not_lt_zero, if_false, Nat.sub_zero]
    rw [List.take_of_length_le (Nat.le_refl _), List.drop_of_length_le (Nat.le_refl _), ea]
    unfold newList
    refine wpAny_bind (wpAny_newObj_type ?_ ?_)
    · refine wpAny_pure ?_
      obtain ⟨H', g, d, tk, os⟩ := s'
      obtain ⟨m1, m2, m3, m4, m5⟩ := hm
      cases m2
      cases m3
      cases m4
      rw [List.drop_zero, List.append_nil]
      refine hQ H' tk (fun b o e => ?_) _ rfl
      have nb : b ≠ s.heap.objs.size := Nat.ne_of_lt (Heap.lt_size e)
      exact m1 b o (by simpa using nb) (hs₁.extBut b o nb (Heap.get?_push_of_some _ e))
    · show (List.drop i items.toList).toArray.size ≤ sizeLine
      simp
      omega
theorem unpack_star {t : Addr} {items : Array Value} {i : Nat} {targets : List (Bool × (Value → Sem Unit))} {Q : Unit → Shared → Prop} (hh : A.handled = none) (ht : IsTup s.heap t items) (hi : i ≤ items.size) (hz : items.size ≤ sizeLine)
    (hn : targets.length = i + 1) (hs : targets.findIdx? (·.1) = some i)
    (hQ : ∀ (h' : Heap) (tk : Nat), (∀ b o, s.heap.get? b = some o → h'.get? b = some o) → ∀ o : Obj, o = { cls := .type "list", data := .seq (items.toList.drop i).toArray } →
      wpAny (model prog w) A (assignInOrder (targets.map (·.2)) (items.toList.take i ++ [.ref h'.objs.size])) Q E { s with heap := h'.push o, toks := tk }) :
    wpAny (model prog w) A (unpack (.ref t) targets) Q E s := by
  unfold unpack
  rw [hn, hs]
  exact wpAny_bind (wpAny_holding (unpackItems_star hh ht hi hz hQ))
theorem unpackItems_starL {t : Addr} {items : Array Value} {i : Nat} {Q : List Value → Shared → Prop} (hh : A.handled = none) (ht : s.heap.IsList t items) (hi : i ≤ items.size) (hz : items.size ≤ sizeLine)
    (hQ : ∀ (h' : Heap) (tk : Nat), (∀ b o, s.heap.get? b = some o → h'.get? b = some o) → ∀ o : Obj, o = { cls := .type "list", data := .seq (items.toList.drop i).toArray } → Q (items.toList.take i ++ [.ref h'.objs.size]) { s with heap := h'.push o, toks := tk }) :
    wpAny (model prog w) A (unpackItems (.ref t) (i + 1) (some i)) Q E s := by
  have hlt : t ≠ s.heap.objs.size := by obtain ⟨o, ho, _⟩ := ht; exact Nat.ne_of_lt (Heap.lt_size ho)
  unfold unpackItems
  refine wpAny_bind ?_
  unfold notIterableAtAll
  refine wpAny_bind (wpAny_specialOf ht.typeIs slot_list_iter.lookup ?_)
  refine wpAny_pure ?_
  simp only [Bool.false_eq_true, if_false]
  refine wpAny_bind (wpAny_holding (wpAny_pyIter_list ht ?_))
  refine wpAny_bind (wpAny_holding (PySem.W.kun_draw hlt i 0 _ _ ⟨_, Heap.get?_push_size _ rfl, rfl, rfl⟩ (ht.push _) (by omega) fun h₁ hit₁ hs₁ => ?_))
  have hall : (List.take i (List.drop 0 items.toList)).length = i := by simp; omega
  rw [if_neg (by rw [hall]; omega)]
  have ht₁ : h₁.IsList t items := (ht.push _).extBut hs₁.extBut hlt
  refine wpAny_bind (wpAny_holding (wpAny_collect_iter (A := A) (T := "list_iterator") (.inr (.inr (.inl rfl))) (walks_shift (Walks.list (A := A.in1) hh s.heap.objs.size t hlt items) i hi).toS (fun _ _ st => ?_) ?_ ?_ List.mem_cons_self (fun s' acc hm hacc => ?_) (by omega)))
  · obtain ⟨⟨o, ho, hc, _⟩, _⟩ := st
    exact ⟨o, ho, hc⟩
  · exact ⟨by rw [Nat.zero_add] at hit₁; exact hit₁, ht₁⟩
  · intro b hb
    simp only [List.mem_cons, List.not_mem_nil, or_false] at hb
    rcases hb with rfl | rfl
    · obtain ⟨o, ho, _⟩ := hit₁
      exact Heap.lt_size ho
    · obtain ⟨o, ho, _⟩ := ht₁
      exact Heap.lt_size ho
  · have ea := items_eq hi hacc
    have hl : acc.toList.length = items.size - i := by rw [Array.length_toList]; exact hacc.1
    simp only [show i + 1 - 1 - i = 0 by omega, Nat.not_lt_zero, if_false, Nat.sub_zero]
    rw [List.take_of_length_le (Nat.le_refl _), List.drop_of_length_le (Nat.le_refl _), ea]
    unfold newList
    refine wpAny_bind (wpAny_newObj_type ?_ ?_)
    · refine wpAny_pure ?_
      obtain ⟨H', g, d, tk, os⟩ := s'
      obtain ⟨m1, m2, m3, m4, m5⟩ := hm
      cases m2
      cases m3
      cases m4
      rw [List.drop_zero, List.append_nil]
      refine hQ H' tk (fun b o e => ?_) _ rfl
      have nb : b ≠ s.heap.objs.size := Nat.ne_of_lt (Heap.lt_size e)
      exact m1 b o (by simpa using nb) (hs₁.extBut b o nb (Heap.get?_push_of_some _ e))
    · show (List.drop i items.toList).toArray.size ≤ sizeLine
      simp
      omega
theorem unpack_starL {t : Addr} {items : Array Value} {i : Nat} {targets : List (Bool × (Value → Sem Unit))} {Q : Unit → Shared → Prop} (hh : A.handled = none) (ht : s.heap.IsList t items) (hi : i ≤ items.size) (hz : items.size ≤ sizeLine)
    (hn : targets.length = i + 1) (hs : targets.findIdx? (·.1) = some i)
    (hQ : ∀ (h' : Heap) (tk : Nat), (∀ b o, s.heap.get? b = some o → h'.get? b = some o) → ∀ o : Obj, o = { cls := .type "list", data := .seq (items.toList.drop i).toArray } →
      wpAny (model prog w) A (assignInOrder (targets.map (·.2)) (items.toList.take i ++ [.ref h'.objs.size])) Q E { s with heap := h'.push o, toks := tk }) :
    wpAny (model prog w) A (unpack (.ref t) targets) Q E s := by
  unfold unpack
  rw [hn, hs]
  exact wpAny_bind (wpAny_holding (unpackItems_starL hh ht hi hz hQ))
end
/-! ### names, and the rest -/
def gStar (K : PySem.W.Frag) (n : Nat) (t : TGs) : TG := fun v σ H Q => ∃ a xs, v = .ref a ∧ SqT K H a xs ∧ n ≤ xs.length ∧ ∀ p, H p = none → t (xs.take n ++ [.ref p]) σ (upd H p (.lst (xs.drop n))) Q
theorem vals_take : ∀ {xs : List V} {its : List Value} (n : Nat), Vals xs its → Vals (xs.take n) (its.take n)
  | _, _, 0, _ => by simp; exact .nil
  | _, _, _ + 1, .nil => .nil
  | _, _, n + 1, .cons r t => .cons r (vals_take n t)
theorem vals_drop : ∀ {xs : List V} {its : List Value} (n : Nat), Vals xs its → Vals (xs.drop n) (its.drop n)
  | _, _, 0, r => r
  | _, _, _ + 1, .nil => .nil
  | _, _, n + 1, .cons _ t => vals_drop n t
theorem vals_app : ∀ {xs ys : List V} {us vs : List Value}, Vals xs us → Vals ys vs → Vals (xs ++ ys) (us ++ vs)
  | _, _, _, _, .nil, s => s
  | _, _, _, _, .cons r t, s => .cons r (vals_app t s)
theorem pg_star {X : Cx} {pos : Pos} {es : List Expr} {k : Nat} {t : TGs} {n : Nat} (hc : X.calm = true) (h : PGs X es t) (hn : (assignEach es X.env).length = n + 1) (hst : (assignEach es X.env).findIdx? (·.1) = some n) :
    PG X (.Tuple es k pos) (gStar X.K n t) := by
  refine ⟨fun pins s σ H v u Q I r hw => ?_⟩
  obtain ⟨a, xs, e1, hq, hl, hw⟩ := hw
  subst e1
  cases r
  obtain ⟨its, rv, ht, hz⟩ := I.tuple hq
  have e2 : its.toArray.size = xs.length := by simp [rv.length]
  rw [assign_Tuple]
  refine wpAny_bind (wpAny_standAt (unpack_star (I.ok.hd hc) ht (by rw [e2]; exact hl) (by rw [e2]; exact hz) hn hst fun h' tk hx o ho => ?_))
  subst ho
  have I1 : Inv X pins σ H { s with heap := h', toks := tk } := I.kept hx
  have I2 := I1.lnew (t' := tk) (ys := xs.drop n) (its := its.drop n) (vals_drop n rv) (by simp; omega)
  have e3 : its.toArray.toList = its := by simp
  rw [e3]
  have r1 : Vals [V.ref h'.objs.size] [Value.ref h'.objs.size] := .cons rfl .nil
  exact h.run pins _ σ _ (xs.take n ++ [.ref h'.objs.size]) _ Q I2 (vals_app (vals_take n rv) r1) (hw _ I1.fresh)
def gStarL (K : PySem.W.Frag) (n : Nat) (t : TGs) : TG := fun v σ H Q => ∃ a xs, v = .ref a ∧ SqL K H a xs ∧ n ≤ xs.length ∧ ∀ p, H p = none → t (xs.take n ++ [.ref p]) σ (upd H p (.lst (xs.drop n))) Q
theorem pg_starL {X : Cx} {pos : Pos} {es : List Expr} {k : Nat} {t : TGs} {n : Nat} (hc : X.calm = true) (h : PGs X es t) (hn : (assignEach es X.env).length = n + 1) (hst : (assignEach es X.env).findIdx? (·.1) = some n) :
    PG X (.Tuple es k pos) (gStarL X.K n t) := by
  refine ⟨fun pins s σ H v u Q I r hw => ?_⟩
  obtain ⟨a, xs, e1, hq, hl, hw⟩ := hw
  subst e1
  cases r
  obtain ⟨its, rv, pl, hz⟩ := I.list hq
  have ht := pl.isList
  have e2 : its.toArray.size = xs.length := by simp [rv.length]
  rw [assign_Tuple]
  refine wpAny_bind (wpAny_standAt (unpack_starL (I.ok.hd hc) ht (by rw [e2]; exact hl) (by rw [e2]; exact hz) hn hst fun h' tk hx o ho => ?_))
  subst ho
  have I1 : Inv X pins σ H { s with heap := h', toks := tk } := I.kept hx
  have I2 := I1.lnew (t' := tk) (ys := xs.drop n) (its := its.drop n) (vals_drop n rv) (by simp; omega)
  have e3 : its.toArray.toList = its := by simp
  rw [e3]
  have r1 : Vals [V.ref h'.objs.size] [Value.ref h'.objs.size] := .cons rfl .nil
  exact h.run pins _ σ _ (xs.take n ++ [.ref h'.objs.size]) _ Q I2 (vals_app (vals_take n rv) r1) (hw _ I1.fresh)
theorem pg_or {X : Cx} {e : Expr} {t u : TG} (h1 : PG X e t) (h2 : PG X e u) : PG X e (fun v σ H Q => t v σ H Q ∨ u v σ H Q) :=
  ⟨fun pins s σ H v w Q I r q => q.elim (h1.run pins s σ H v w Q I r) (h2.run pins s σ H v w Q I r)⟩
end PV
set_option Elab.async false
set_option autoImplicit false
set_option maxRecDepth 100000
set_option maxHeartbeats 1000000
namespace PV
open PySem PySem.Spec PyProof.Rows L2
def tGs (G : Gx) (ps : List Pat) : TGs := fun vs σ H Q => ∃ m h ρ ds ρ', Stt G m h ρ σ H ∧ RepL G H (Live G m h) m ds vs ∧ Pat.bndL h ps ds ρ = some ρ' ∧
  ∀ m' σ' H', Ext G m h H m' h H' → Stt G m' h ρ' σ' H' → (∀ i, i ∉ Pat.slotsL ps → σ'[i]? = σ[i]?) → Q σ' H'
theorem each_fst : ∀ (es : List Expr) (env : PySem.Env), (assignEach es env).map (·.1) = es.map starred
  | [], _ => rfl
  | e :: es, env => by
    have ih := each_fst es env
    cases e <;> simp only [assignEach, starred, List.map_cons, ih]
theorem each_len (es : List Expr) (env : PySem.Env) : (assignEach es env).length = es.length := by
  have := congrArg List.length (each_fst es env)
  simpa using this
theorem find_map {α : Type} (l : List (Bool × α)) : l.findIdx? (·.1) = (l.map (·.1)).findIdx? id := by
  induction l with
  | nil => rfl
  | cons a l ih => rw [List.findIdx?_cons, List.map_cons, List.findIdx?_cons, ih]; rfl
theorem each_find (es : List Expr) (env : PySem.Env) : (assignEach es env).findIdx? (·.1) = (es.map starred).findIdx? id := by
  rw [find_map, each_fst]
section
variable {X : Cx} {G : Gx} {pos : Pos}
theorem pgs_of {es : List Expr} {t t' : TGs} (hp : PGs X es t) (k : ∀ v σ H Q, t' v σ H Q → t v σ H Q) : PGs X es t' := ⟨fun pins s σ H v u Q I r q => hp.run pins s σ H v u Q I r (k _ _ _ _ q)⟩
/-- an item whose target is t, starred or not -/
theorem pgs_item {e t : Expr} {es : List Expr} {g : TG} {u : TGs} (h1 : PG X t g) (h2 : PGs X es u)
    (hs : (assignEach (e :: es) X.env).map (·.2) = assign t X.env :: (assignEach es X.env).map (·.2)) : PGs X (e :: es) (gCons g u) := by
  refine ⟨fun pins s σ H vs us Q I r h => ?_⟩
  obtain ⟨v, vr, e1, h⟩ := h
  subst e1
  cases r with
  | cons r rr =>
    rw [hs]
    refine assignInOrder_cons (thn (h1.run pins s σ H _ _ _ I r h) fun _ s1 ⟨σ1, H1, I1, q1⟩ => ?_)
    exact h2.run pins s1 σ1 H1 _ _ Q I1 rr q1
theorem tgs_nil : PGs X [] (tGs G []) := pgs_of pgs_nil fun vs σ H Q ⟨m, h, ρ, ds, ρ', st, r, e, q⟩ => by
  cases r with
  | nil =>
    simp only [Pat.bndL, Option.some.injEq] at e
    subst e
    exact ⟨rfl, q m σ H .refl st fun _ _ => rfl⟩
  | cons _ _ => simp [Pat.bndL] at e
theorem tgs_cons {e t : Expr} {es : List Expr} {p : Pat} {ps : List Pat} (h1 : PG X t (tG G p)) (h2 : PGs X es (tGs G ps))
    (hs : (assignEach (e :: es) X.env).map (·.2) = assign t X.env :: (assignEach es X.env).map (·.2)) : PGs X (e :: es) (tGs G (p :: ps)) :=
  pgs_of (pgs_item h1 h2 hs) fun vs σ H Q ⟨m, h, ρ, ds, ρ', st, r, eb, q⟩ => by
    cases r with
    | nil => simp [Pat.bndL] at eb
    | @cons d v l vs r rl =>
      simp only [Pat.bndL] at eb
      split at eb
      · rename_i ρ1 e1
        refine ⟨v, vs, rfl, m, h, ρ, d, ρ1, st, r, e1, fun m1 σ1 H1 x1 st1 k1 => ?_⟩
        refine ⟨m1, h, ρ1, l, ρ', st1, rl.mono x1, eb, fun m2 σ2 H2 x2 st2 k2 => ?_⟩
        refine q m2 σ2 H2 (x1.trans x2) st2 fun i hi => ?_
        simp only [Pat.slotsL, List.mem_append, not_or] at hi
        rw [k2 i hi.2, k1 i hi.1]
      · cases eb
theorem bndL_ln {h : Hs} : ∀ (ps : List Pat) (l : List D) (ρ ρ' : Env), Pat.bndL h ps l ρ = some ρ' → l.length = ps.length := by
    intro ps
    induction ps with
    | nil => intro l ρ ρ' e; cases l with
      | nil => rfl
      | cons _ _ => simp [Pat.bndL] at e
    | cons p ps ih => intro l ρ ρ' e; cases l with
      | nil => simp [Pat.bndL] at e
      | cons d l =>
        simp only [Pat.bndL] at e
        split at e
        · simp [ih l _ _ e]
        · cases e
theorem pg_tp (hk : X.K = G.K) (hc : X.calm = true) {es : List Expr} {k : Nat} {ps : List Pat} (h : PGs X es (tGs G ps)) (hl : es.length = ps.length) (hst : (es.map starred).findIdx? id = none) : PG X (.Tuple es k pos) (tG G (.tp ps)) :=
  pg_of (pg_or (pg_tup hc h (n := es.length) (each_len _ _) (by rw [each_find]; exact hst)) (pg_unl hc h (n := es.length) (each_len _ _) (by rw [each_find]; exact hst))) fun v σ H Q ⟨m, h, ρ, d, ρ', st, r, e, q⟩ => by
    cases d with
    | tup l =>
      simp only [Pat.bnd] at e
      obtain ⟨a, vs, rfl, sq, rl⟩ : ∃ a vs, v = .ref a ∧ SqT G.K H a vs ∧ RepL G H (Live G m h) m l vs := by
        cases see st.rel r with
        | tup h1 h2 => exact ⟨_, _, rfl, h1, h2⟩
      refine .inl ⟨a, vs, rfl, by rw [hk]; exact sq, ?_, m, h, ρ, l, ρ', st, rl, e, fun m' σ' H' x s' k => q m' σ' H' x s' k⟩
      rw [← rl.length, bndL_ln ps l ρ ρ' e, hl]
    | lst l =>
      simp only [Pat.bnd] at e
      obtain ⟨a, vs, rfl, sq, rl⟩ : ∃ a vs, v = .ref a ∧ SqL G.K H a vs ∧ RepL G H (Live G m h) m l vs := by
        cases see st.rel r with
        | lst h1 h2 => exact ⟨_, _, rfl, h1.sq, h2⟩
      refine .inr ⟨a, vs, rfl, by rw [hk]; exact sq, ?_, m, h, ρ, l, ρ', st, rl, e, fun m' σ' H' x s' k => q m' σ' H' x s' k⟩
      rw [← rl.length, bndL_ln ps l ρ ρ' e, hl]
    | _ => simp [Pat.bnd] at e
theorem setsN_bnd (h : Hs) : ∀ (is : List Nat) (ds : List D) (ρ : Env), setsN ρ is ds = Pat.bndL h (is.map .nm) ds ρ
  | [], [], _ => rfl
  | [], _ :: _, _ => rfl
  | _ :: _, [], _ => rfl
  | i :: is, d :: ds, ρ => by
    simp only [setsN, List.map_cons, Pat.bndL, Pat.bnd]
    exact setsN_bnd h is ds _
theorem slots_nm : ∀ is : List Nat, Pat.slotsL (is.map .nm) = is
  | [] => rfl
  | i :: is => by simp [Pat.slotsL, Pat.slots, slots_nm is]
theorem pg_st (hk : X.K = G.K) (hc : X.calm = true) {es : List Expr} {k j : Nat} {is : List Nat} (h : PGs X es (tGs G ((is ++ [j]).map .nm))) (hl : es.length = is.length + 1) (hst : (es.map starred).findIdx? id = some is.length) : PG X (.Tuple es k pos) (tG G (.st is j)) :=
  pg_of (pg_or (pg_star hc h (n := is.length) (by rw [each_len]; exact hl) (by rw [each_find]; exact hst)) (pg_starL hc h (n := is.length) (by rw [each_len]; exact hl) (by rw [each_find]; exact hst))) fun v σ H Q ⟨m, h, ρ, d, ρ', st, r, e, q⟩ => by
    cases d with
    | tup l =>
      simp only [Pat.bnd] at e
      split at e
      · rename_i hle
        obtain ⟨a, vs, rfl, sq, rl⟩ : ∃ a vs, v = .ref a ∧ SqT G.K H a vs ∧ RepL G H (Live G m h) m l vs := by
          cases see st.rel r with
          | tup h1 h2 => exact ⟨_, _, rfl, h1, h2⟩
        refine .inl ⟨a, vs, rfl, by rw [hk]; exact sq, by rw [← rl.length]; exact hle, fun p hp => ?_⟩
        obtain ⟨n1, n2, n3⟩ := new_lst (m := m) (h := h) (H := H) .refl st.rel hp (rl.drop is.length)
        rw [setsN_bnd h] at e
        refine ⟨m, h, ρ, _, ρ', st.later n1 n2, ((rl.take is.length).mono n1).append (.cons n3 .nil), e, fun m' σ' H' x s' k => q m' σ' H' (n1.trans x) s' fun i hi => k i ?_⟩
        rw [slots_nm]
        exact hi
      · cases e
    | lst l =>
      simp only [Pat.bnd] at e
      split at e
      · rename_i hle
        obtain ⟨a, vs, rfl, sq, rl⟩ : ∃ a vs, v = .ref a ∧ SqL G.K H a vs ∧ RepL G H (Live G m h) m l vs := by
          cases see st.rel r with
          | lst h1 h2 => exact ⟨_, _, rfl, h1.sq, h2⟩
        refine .inr ⟨a, vs, rfl, by rw [hk]; exact sq, by rw [← rl.length]; exact hle, fun p hp => ?_⟩
        obtain ⟨n1, n2, n3⟩ := new_lst (m := m) (h := h) (H := H) .refl st.rel hp (rl.drop is.length)
        rw [setsN_bnd h] at e
        refine ⟨m, h, ρ, _, ρ', st.later n1 n2, ((rl.take is.length).mono n1).append (.cons n3 .nil), e, fun m' σ' H' x s' k => q m' σ' H' (n1.trans x) s' fun i hi => k i ?_⟩
        rw [slots_nm]
        exact hi
      · cases e
    | _ => simp [Pat.bnd] at e
end
end PV
set_option Elab.async false
set_option autoImplicit false
set_option maxRecDepth 100000
set_option maxHeartbeats 1000000
namespace PV
open PySem PySem.Spec PyProof.Rows L2
section
variable {X : Cx} {G : Gx} {C : Cl} {W : WX} {a b c : Expr} {ca cb cc : E} {pos : Pos}
theorem tE_chain {o o' : Cop} {r r' : R2} (hB : Bin G (fun h x y => cop C.bd o (vw h x) (vw h y)) r) (hB' : Bin G (fun h x y => cop C.bd o' (vw h x) (vw h y)) r') :
    ∀ σ H Q, tE G C W (.chain o o' ca cb cc) σ H Q → tChain (fun x y H Q => Sized H → r x y H Q) (fun x y H Q => Sized H → r' x y H Q) (tE G C W ca) (tE G C W cb) (tE G C W cc) σ H Q := fun σ H Q ⟨m, h, ρ, st, ok⟩ => by
  simp only [evE] at ok
  refine tE_step st ok fun dx h1 m1 x H1 x1 r1 p1 st1 ok1 => ?_
  refine tE_step (m := m1) (h := h1) (H := H1) st1 (okX_later x1 ok1 fun _ _ q => q) fun dy h2 m2 y H2 x2 r2 p2 st2 ok2 => ?_
  obtain ⟨d, e, ok2⟩ := okR_ofO (okR_then ok2)
  obtain ⟨t, et, ok2⟩ := okR_ofO (okR_then ok2)
  intro sz
  refine hB m2 h2 H2 dx dy x y d _ r2 sz (p1.mono x2) p2 e fun m3 v H3 x3 r3 p3 => ?_
  rw [asB_some et] at p3
  cases p3
  refine ⟨t, rfl, ?_⟩
  have x13 := x1.trans (x2.trans x3)
  cases t with
  | false =>
    simp only [Bool.false_eq_true, if_false] at ok2 ⊢
    exact ok2 m3 _ H3 x13 r3 (.bl _)
  | true =>
    simp only [if_true] at ok2 ⊢
    have st3 := st2.later x3 r3
    refine tE_step (m := m3) (h := h2) (H := H3) st3 (okX_later (x2.trans x3) ok2 fun _ _ q => q) fun dz h4 m4 z H4 x4 r4 p4 st4 ok4 => ?_
    obtain ⟨d', e', q⟩ := okR_ofO ok4
    exact fun sz' => hB' m4 h4 H4 dy dz y z d' Q r4 sz' ((p2.mono x3).mono x4) p4 e' fun m' v H' x5 r5 p5 => q m' v H' (x13.trans (x4.trans x5)) r5 p5
theorem se_chain {op op' : CmpOp} {o o' : Cop} {r r' : R2} (ho : OpR X (compareOp op) r) (ho' : OpR X (compareOp op') r') (ha : SE X G C W a ca) (hb : SE X G C W b cb) (hc : SE X G C W c cc)
    (hm : lastMarks [op, op'] [b, c] = false) (hB : Bin G (fun h x y => cop C.bd o (vw h x) (vw h y)) r) (hB' : Bin G (fun h x y => cop C.bd o' (vw h x) (vw h y)) r') : SE X G C W (.Compare a [op, op'] [b, c] pos) (.chain o o' ca cb cc) :=
  have h1 := opR_sized (r' := fun x y H Q => Sized H → r x y H Q) ho fun _ _ _ _ sz q => q sz
  have h2 := opR_sized (r' := fun x y H Q => Sized H → r' x y H Q) ho' fun _ _ _ _ sz q => q sz
  have k := tE_chain (C := C) (W := W) (ca := ca) (cb := cb) (cc := cc) hB hB'
  ⟨pe_of (pe_chain h1 h2 ha.pe hb.pe hc.pe hm) k, pt_of (pt_chain h1 h2 ha.pe hb.pe hc.pe hm) fun σ H Q q => k σ H _ q⟩
/-- x += e -/
theorem ss_aug (cx : Ctx G C W X) {i : Nat} {x : Str} {e : Expr} {ce : E} {op : Operator} {o : Bop} {f : Int → Int → Int} {p : Pos} (nc : NoClo G i) (hi : X.N[i]? = some x) (hx : Loc X.env.scope x) (hf : X.fn x = true ∨ X.env.scope.names.lookup x = some .local)
    (ho : PIp X op (ipI f)) (hb : ∀ d e y, bop o d e = some (.int y) → ∃ i j, d = .int i ∧ e = .int j ∧ y = f i j) (he : SE X G C W e ce) : PS X (.AugAssign (.Name x p) op e pos) (tS G C W (.aug i o ce)) :=
  ps_of (ps_aug cx.nd hi hx he.pe ho hf) fun Z σ H ⟨m, h, ρ, st, ok⟩ => by
    simp only [evS] at ok
    obtain ⟨d, e1, ok⟩ := thenS_of ok
    obtain ⟨v, h1, h2⟩ := st.slot i d e1
    refine ⟨v, h1, ?_⟩
    refine tS_step st ok fun d2 h2' m2 v2 H2 x2 r2 p2 st2 ok2 => ?_
    obtain ⟨y, e2, ok2⟩ := thenS_of ok2
    obtain ⟨z, e3, e4⟩ := Option.bind_eq_some_iff.mp e2
    rw [asI_some e4] at e3
    obtain ⟨i1, j1, rfl, rfl, rfl⟩ := hb _ _ _ e3
    have h2 := h2.mono x2
    cases h2
    cases p2
    exact ⟨i1, j1, rfl, rfl, ok2 m2 _ H2 .refl (st2.set nc (.int _))⟩
end
end PV
set_option Elab.async false
set_option autoImplicit false
set_option maxRecDepth 100000
set_option maxHeartbeats 1000000
namespace PV
open PySem PySem.Spec PyProof.Rows L2 PySem.Calls
section
variable {X : Cx} {pins : List (Addr × Obj)} {σ : L2.St} {H : L2.Hp} {s : Shared} {b : Addr} {zs : List V}
theorem lsr_at (I : Inv X pins σ H s) (h : LsR X.K H b zs) : ∃ (its : List Value) (n : Nat), Vals zs its ∧ zs.length ≤ sizeLine ∧ s.heap.get? b = some { cls := .type "list", data := .seq its.toArray n } := by
  rcases h with h | ⟨its, n, h1, h2, h3⟩
  · obtain ⟨z, its, n, r, e⟩ := h.ok I.hok
    exact ⟨its, n, r, z, e⟩
  · refine ⟨its.toList, n, h3, ?_, ?_⟩
    · have := h3.length
      rw [this, Array.length_toList]
      exact h2
    · have := I.kIn b _ h1
      simpa using this
end
def rExtR (K : PySem.W.Frag) : V → List V → L2.Hp → VK → Prop := fun x vs H Q => ∃ l b xs zs, x = .ref l ∧ vs = [.ref b] ∧ H l = some (.lst xs) ∧ LsR K H b zs ∧ xs.length + zs.length ≤ sizeLine ∧ Q .non (upd H l (.lst (xs ++ zs)))
theorem mt_extR {X : Cx} : MtR X "list.extend" (rExtR X.K) := by
  intro pins s σ H x vs v us Q I rx rv h
  obtain ⟨l, b, xs, zs, rfl, rfl, hH, hB, hz, q⟩ := h
  cases rx
  obtain ⟨u, rfl, ru⟩ := rv.one
  cases ru
  obtain ⟨z, its, n, r, hl, e⟩ := I.lstM hH
  obtain ⟨its2, n2, r2, hl2, e2⟩ := lsr_at I hB
  have g2 := r2.length
  have hsz : its.toArray.size + its2.toArray.size ≤ sizeLine := by rw [List.size_toArray, List.size_toArray]; omega
  have hlong : ¬ (!its.toArray.isEmpty && Builtin.List.listTooLong (its.toArray.size + its2.toArray.size)) = true := by
    rw [notLongL hsz, Bool.and_false]
    exact Bool.false_ne_true
  refine call_meets F.slot_list_extend ⟨_, e, rfl⟩ F.entry_list_extend (F.args_list_extend_2 _ _)
    (AutoSeq1.list_extend_list_list_0 l its.toArray n b its2.toArray n2 hlong (by rw [List.size_toArray]; omega) (by omega)) ⟨e, e2, ?_⟩
  refine ⟨.non, _, I.lset (its' := its ++ its2) hH e (by simp) (r.append r2) ?_, rfl, q⟩
  rw [List.length_append]
  omega
section
variable {X : Cx} {G : Gx} {C : Cl} {W : WX} {o e : Expr} {co ce : E} {pos apos : Pos} {l : EL}
/-- o.m(..) of a list cell, by the method's own rule -/
theorem tE_mut {m : Mt} {r : V → List V → L2.Hp → VK → Prop} (hk : X.K = G.K) (hm : ∀ d, mtTy m d = true → ∃ k, d = .lst k)
    (hr : ∀ (mm : List Addr) (h : Hs) (H : L2.Hp) (i : Nat) (a : Addr) (ds : List D) (vs : List V) (p : D × D) (Q : VK), HRel G mm h H → mm[i]? = some a → h[i]? = some (h.getD i .non) → mtTy m (h.getD i .non) = true → RepL G H (Live G mm h) mm ds vs → mtd m (h.getD i .non) ds h = some p →
      (∀ v H', Ext G mm h H mm (h.set i p.1) H' → HRel G mm (h.set i p.1) H' → Rep G H' (Live G mm (h.set i p.1)) mm p.2 v → Q v H') → r (.ref a) vs H Q) :
    ∀ σ H Q, tE G C W (.mut m co l) σ H Q → tBM X.K "list" r (tE G C W co) (tL G C W l) σ H Q := fun σ H Q ⟨mm, h, ρ, st, ok⟩ => by
  simp only [evE] at ok
  refine tE_step st ok fun d h1 m1 x H1 x1 r1 p1 st1 ok1 => ?_
  obtain ⟨i, ei, ok1⟩ := okR_ofO (okR_then ok1)
  obtain ⟨u, eu, ok1⟩ := okR_ofO (okR_then ok1)
  rw [asR_some ei] at p1
  have ty : mtTy m (h1.getD i .non) = true := by
    by_cases z : mtTy m (h1.getD i .non) = true
    · exact z
    · rw [if_neg z] at eu; cases eu
  obtain ⟨k, ek⟩ := hm _ ty
  obtain ⟨a, rfl, hma, hca⟩ := ref_cell r1 p1 (by rw [ek]; simp)
  have hcell := r1.cell i a _ hma hca
  rw [ek] at hcell
  obtain ⟨vs0, q1, q2⟩ := hcell
  refine ⟨.inl ⟨rfl, vs0, .inl (.inl q1)⟩, ?_⟩
  refine tL_step (m := m1) (h := h1) (H := H1) st1 (okX_later x1 ok1 fun _ _ q => q) fun ds h2 m2 vs H2 x2 r2 p2 st2 ok2 => ?_
  obtain ⟨p, ep, q⟩ := okR_ofO (okR_then ok2)
  have p1 := p1.mono x2
  have nn : h2.getD i .non ≠ .non := fun z => by rw [z] at ep; cases m <;> simp [mtd] at ep
  obtain ⟨a', e', hma', hca'⟩ := ref_cell r2 p1 nn
  cases e'
  have ty2 : mtTy m (h2.getD i .non) = true := by
    generalize h2.getD i .non = z at ep nn
    cases m <;> cases z <;> first | rfl | (simp [mtd] at ep; done) | (cases hm _ (show mtTy _ (D.dct []) = true from rfl) with | intro k e => cases e)
  exact hr m2 h2 H2 i a ds vs p Q r2 hma' hca' ty2 p2 ep fun v H' x' r' p' => q m2 v H' (x1.trans (x2.trans x')) r' p'
end
section
variable {X : Cx} {G : Gx} {C : Cl} {W : WX} {e : Expr} {co ce : E} {pos apos p : Pos} {l : EL} {x : Str}
theorem few1 {env : PySem.Env} (he : starred e = false) : ((backTo pos (starEach (e :: []) env)).all (fun x => !x.1) && (backToKw pos (keywordEach [] env)).all (fun x => x.1.isSome)
      && decide ((e :: ([] : List Expr)).length + ([] : List Keyword).length + (if ([] : List Keyword).isEmpty then 0 else 1) < 30)) = true := by
  cases e <;> first | rfl | exact absurd he (by simp [starred])
theorem back1 {env : PySem.Env} : (backTo pos (starEach [] env)).any (·.1) = false := rfl
theorem lst_only {m : Mt} (h : m = .append ∨ m = .extend ∨ m = .pop) : ∀ d, mtTy m d = true → ∃ k, d = .lst k := by
  rcases h with rfl | rfl | rfl <;> intro d h <;> cases d <;> first | exact ⟨_, rfl⟩ | cases h
theorem cell_lst {mm : List Addr} {h : Hs} {H : L2.Hp} {i : Nat} {a : Addr} {k : List D} (r : HRel G mm h H) (hm : mm[i]? = some a) (hc : h[i]? = some (.lst k)) : ∃ vs, H a = some (.lst vs) ∧ RepL G H (Live G mm h) mm k vs := r.cell i a _ hm hc
theorem se_append (cx : Ctx G C W X) (ho : SE X G C W (.Name x p) co) (he : SE X G C W e ce) (hs : starred e = false) (hl : (apos.endLine == pos.line) = true) : SE X G C W (.Call (.Attribute (.Name x p) "append" apos) [e] [] pos) (.mut .append co (.cons ce .nil)) :=
  .plain (pe_of (pe_bm PySem.F.plainAttrs_list PySem.F.slot_list_append PySem.F.type_list_append mt_append ho.pe (sa_cons he sa_nil hs).pa rfl (few1 hs) hl (starEach_cons hs) back1)
    (tE_mut cx.k (lst_only (.inl rfl)) fun mm h H i a ds vs q Q r hma hca ty rl ep hq => by
      obtain ⟨k, ek⟩ := lst_only (.inl rfl) _ ty
      rw [ek] at hca ep
      obtain ⟨vs0, q1, q2⟩ := cell_lst r hma hca
      match ds, vs, rl, ep with
      | [d], [v], .cons pd .nil, ep =>
        simp only [mtd] at ep
        split at ep
        · rename_i hz
          cases ep
          have hz := of_decide_eq_true hz
          have xx : Ext G mm h H mm (h.set i (.lst (k ++ [d]))) (upd H a (.lst (vs0 ++ [v]))) := cell_ext r hma hca (by simp)
          refine ⟨a, vs0, v, rfl, rfl, q1, by rw [← q2.length, ← line_eq]; exact hz, hq _ _ xx (cell_rel r hma hca (by simp) ⟨_, upd_same, (q2.mono xx).append (.cons (pd.mono xx) .nil)⟩) .non⟩
        · cases ep
      | [], [], _, ep => simp [mtd] at ep
      | _ :: _ :: _, _ :: _ :: _, _, ep => simp [mtd] at ep)) rfl
theorem se_pop (cx : Ctx G C W X) (ho : SE X G C W (.Name x p) co) (hl : (apos.endLine == pos.line) = true) : SE X G C W (.Call (.Attribute (.Name x p) "pop" apos) [] [] pos) (.mut .pop co .nil) :=
  .plain (pe_of (pe_bm0 PySem.F.plainAttrs_list PySem.F.slot_list_pop PySem.F.type_list_pop mt_pop ho.pe rfl hl) fun σ H Q q => by
    have k := tE_mut (C := C) (W := W) (co := co) (l := .nil) (m := .pop) (r := rPop) cx.k (lst_only (.inr (.inr rfl))) (fun mm h H i a ds vs q Q r hma hca ty rl ep hq => by
      obtain ⟨k, ek⟩ := lst_only (.inr (.inr rfl)) _ ty
      rw [ek] at hca ep
      obtain ⟨vs0, q1, q2⟩ := cell_lst r hma hca
      match ds, vs, rl, ep with
      | [], [], .nil, ep =>
        simp only [mtd, Option.map_eq_some_iff] at ep
        obtain ⟨y, e1, rfl⟩ := ep
        have e2 : k[k.length - 1]? = some y := by rw [← List.getLast?_eq_getElem?]; exact e1
        obtain ⟨v, e3, pv⟩ := q2.get e2
        have xx : Ext G mm h H mm (h.set i (.lst k.dropLast)) (upd H a (.lst vs0.dropLast)) := cell_ext r hma hca (by simp)
        refine ⟨a, vs0, v, rfl, rfl, q1, by rw [← q2.length]; exact e3, hq _ _ xx (cell_rel r hma hca (by simp) ⟨_, upd_same, q2.dropLast.mono xx⟩) (pv.mono xx)⟩
      | _ :: _, _ :: _, _, ep => simp [mtd] at ep) σ H Q q
    obtain ⟨mm, h, ρ, st, ok⟩ := k
    refine ⟨mm, h, ρ, st, okR_mono ok (fun d h' z m' v H' x r pp => ?_) fun _ _ _ z => z⟩
    obtain ⟨ty, m2, h2, ρ2, st2, ok2⟩ := z m' v H' x r pp
    refine ⟨ty, ?_⟩
    simp only [evL] at ok2
    exact ok2 m2 [] H' .refl st2.rel .nil) rfl
theorem se_extend (cx : Ctx G C W X) (ho : SE X G C W (.Name x p) co) (he : SE X G C W e ce) (hs : starred e = false) (hl : (apos.endLine == pos.line) = true) : SE X G C W (.Call (.Attribute (.Name x p) "extend" apos) [e] [] pos) (.mut .extend co (.cons ce .nil)) :=
  .plain (pe_of (pe_bm PySem.F.plainAttrs_list PySem.F.slot_list_extend PySem.F.type_list_extend mt_extR ho.pe (sa_cons he sa_nil hs).pa rfl (few1 hs) hl (starEach_cons hs) back1)
    (tE_mut cx.k (lst_only (.inr (.inl rfl))) fun mm h H i a ds vs q Q r hma hca ty rl ep hq => by
      obtain ⟨k, ek⟩ := lst_only (.inr (.inl rfl)) _ ty
      rw [ek] at hca ep
      obtain ⟨vs0, q1, q2⟩ := cell_lst r hma hca
      match ds, vs, rl, ep with
      | [d], [v], .cons pd .nil, ep =>
        simp only [mtd] at ep
        have sn := see r pd
        split at ep
        · rename_i l2 hv
          rw [hv] at sn
          split at ep
          · rename_i hz
            cases ep
            have hz := of_decide_eq_true hz
            cases sn with
            | @lst l2 zs b hq2 rl2 =>
              have xx : Ext G mm h H mm (h.set i (.lst (k ++ l2))) (upd H a (.lst (vs0 ++ zs))) := cell_ext r hma hca (by simp)
              refine ⟨a, b, vs0, zs, rfl, rfl, q1, by rw [cx.k]; exact hq2, ?_, hq _ _ xx (cell_rel r hma hca (by simp) ⟨_, upd_same, (q2.mono xx).append (rl2.mono xx)⟩) .non⟩
              rw [← q2.length, ← rl2.length, ← line_eq, ← List.length_append]
              exact hz
          · cases ep
        · cases ep
      | [], [], _, ep => simp [mtd] at ep
      | _ :: _ :: _, _ :: _ :: _, _, ep => simp [mtd] at ep)) rfl
end
end PV
set_option Elab.async false
set_option autoImplicit false
set_option maxRecDepth 100000
set_option maxHeartbeats 1000000
namespace PV
open PySem PySem.Spec PyProof.Rows L2
section
variable {X : Cx} {G : Gx} {C : Cl} {W : WX} {pos p : Pos} {x : Str}
theorem se_fnv (c : Ctx G C W X) {f : Nat} (hx : G.gl.lookup x = some (.fn f)) (hg : Gl X x) (hd : (x == ("__debug__" : Str)) = false) : SE X G C W (.Name x pos) (.cst (.fn f)) := by
  obtain ⟨hf, hm⟩ := c.gfn x f hx
  exact .plain (pe_of (pe_glob (v := V.ref (G.fa f)) hg hm rfl hd) fun σ H Q ⟨m, h, ρ, st, ok⟩ => ok m _ H .refl st.rel (.fn f hf)) rfl
theorem se_app (c : Ctx G C W X) {i : Nat} {e : Expr} {es : List Expr} {l : EL} (hN : X.N[i]? = some x) (hv : Vis X.env.scope x) (hd : (x == ("__debug__" : Str)) = false) (hcd : (x == ("__classdict__" : Str)) = false) (hs : SA X G C W (e :: es) l) :
    SE X G C W (.Call (.Name x p) (e :: es) [] pos) (.app (.var i) l) := by
  refine .plain ⟨fun pins s σ H Q I h => ?_⟩ rfl
  obtain ⟨m, h, ρ, st, ok⟩ := h
  simp only [evE] at ok
  obtain ⟨d, e1, ok⟩ := okR_ofO (okR_then ok)
  obtain ⟨v, h1, h2⟩ := st.slot i d e1
  obtain ⟨fp, e2, ok⟩ := okR_ofO (okR_then ok)
  cases h2 with
  | fn f hf =>
    cases e2
    obtain ⟨fd, ps, F, hk, hb⟩ := c.fns f hf
    refine wpAny_Call_Name_kw (thn ((pe_var (pos := p) (i := i) hN hv hd hcd).run pins s σ H (fun v H1 => v = .ref (G.fa f) ∧ H1 = H) I ⟨.ref (G.fa f), h1, rfl, rfl⟩) fun u s1 ⟨v, H1, I1, r1, ev, eH⟩ => ?_)
    subst ev
    rw [eH] at I1
    cases r1
    have q : tL G C W l σ H (fun vs H1 => spU G C.P C.lev f vs H1 Q (fun cls d H' => W cls d σ H')) := by
      refine tL_step st ok fun ds h1 m1 vs H1 x1 r1 p1 st1 ok1 => ?_
      rw [c.call] at ok1
      exact ⟨m1, h1, ds, r1, p1, okR_mono ok1 (fun d h2 q m2 v H2 y r p => q m2 v H2 (x1.trans y) r p) fun cc ll h2 q m2 H2 cls d y r p => q m2 H2 cls d (x1.trans y) r p⟩
    refine PySem.W.callWith_K (h₀ := X.base) I.ok.mod.kin hk (thn (hs.pa.run pos pins s1 σ H _ I1 q) fun us s2 ⟨vs, H2, I2, r, q⟩ => ⟨I2.kIn, ?_⟩) (starEach_cons (hs.st e (by simp))) (backTo_any fun e' he => hs.st e' (by simp [he]))
    exact run_call c hf I2 r q
  | _ => cases e2
end
end PV
set_option Elab.async false
set_option autoImplicit false
set_option maxRecDepth 100000
set_option maxHeartbeats 1000000
namespace PV
open PySem PySem.Spec PyProof.Rows L2 PySem.Calls
def tabD (l : List (Cs × D)) : D := .dct (l.map fun p => (.str p.1, p.2))
theorem dget_tab (z : Cs) : ∀ l : List (Cs × D), dget (l.map fun p => (D.str p.1, p.2)) (.str z) = l.lookup z
  | [] => rfl
  | (k, d) :: l => by
    have ih := dget_tab z l
    unfold dget at ih ⊢
    simp only [List.map_cons, List.find?_cons, List.lookup_cons]
    by_cases e : k = z
    · subst e; simp
    · have e1 : decide ((D.str k) = D.str z) = false := by simp [e]
      have e2 : (z == k) = false := by simp; exact fun q => e q.symm
      simp only [e1, e2]
      exact ih
section
variable {X : Cx} {G : Gx} {C : Cl} {W : WX} {e f : Expr} {ce cf : E} {pos p apos : Pos} {x : Str} {l : List (Cs × D)}
theorem rep_strV {H : L2.Hp} {Lv : Addr → Prop} {m : List Addr} {z : Cs} {v : V} (r : Rep G H Lv m (.str z) v) : v = .str (str z) := by cases r; rfl
/-- the table's name, then the key -/
theorem tab_step {b : Blt} {l' : EL} {σ : L2.St} {H : L2.Hp} {Q : VK} (q : tE G C W (.blt b (.cons (.cst (tabD l)) (.cons ce l'))) σ H Q) :
    tE G C W ce σ H (fun v H1 => ∃ m1 h1 ρ d, Stt G m1 h1 ρ σ H1 ∧ Rep G H1 (Live G m1 h1) m1 d v ∧
      okR ((evL C l' ρ h1).then fun ds h => R.ofO (blt C.bd h b (tabD l :: d :: ds)) h) (fun d h' => ∀ m' v H', Ext G m1 h1 H1 m' h' H' → HRel G m' h' H' → Rep G H' (Live G m' h') m' d v → Q v H')
        (fun c l h' => ∀ m' H' cls d, Ext G m1 h1 H1 m' h' H' → HRel G m' h' H' → RepX G H' (Live G m' h') m' c l cls d → W cls d σ H')) := by
  obtain ⟨m, h, ρ, st, ok⟩ := q
  have eq : evE C (.blt b (.cons (.cst (tabD l)) (.cons ce l'))) ρ h = (evE C ce ρ h).then fun d h => (evL C l' ρ h).then fun ds h => R.ofO (blt C.bd h b (tabD l :: d :: ds)) h := by
    simp only [evE, evL, R.then]
    generalize evE C ce ρ h = q1
    cases q1 with
    | ok d h1 =>
      simp only
      generalize evL C l' ρ h1 = q2
      cases q2 <;> rfl
    | _ => rfl
  have ok2 := ok
  rw [eq] at ok2
  refine tE_step st ok2 fun d h1 m1 v H1 x1 r1 p1 st1 ok1 => ?_
  exact ⟨m1, h1, ρ, d, st1, p1, okX_later x1 ok1 fun _ _ q m' v H' y => q m' v H' (x1.trans y)⟩
theorem se_kin (cx : Ctx G C W X) {neg : Bool} (hx : G.gl.lookup x = some (.kdt l)) (hg : Gl X x) (hd : (x == ("__debug__" : Str)) = false) (he : SE X G C W e ce) (hm : behindInMarks (if neg then .NotIn else .In) (.Name x p) = false) :
    SE X G C W (.Compare e [if neg then .NotIn else .In] [.Name x p] pos) (.blt (if neg then .knin else .kin) (.cons (.cst (tabD l)) (.cons ce .nil))) := by
  obtain ⟨a, ha, ⟨es, n, kd⟩, val⟩ := cx.gkd x l hx
  have pn := pe_glob (v := V.ref a) (pos := p) hg ha rfl hd
  have key : ∀ σ H Q, tE G C W (.blt (if neg then .knin else .kin) (.cons (.cst (tabD l)) (.cons ce .nil))) σ H Q →
      tE G C W ce σ H (fun v H1 => ∃ (z : Str) (r : Option Value), v = .str z ∧ PySem.W.nsIn X.K a z = some r ∧ Q (.bl (if neg then !r.isSome else r.isSome)) H1) := fun σ H Q q => by
    refine tE_weak (tab_step q) fun v H1 ⟨m1, h1, ρ, d, st1, p1, ok⟩ => ?_
    simp only [evL, R.then] at ok
    obtain ⟨d', e1, ok3⟩ := okR_ofO ok
    clear ok
    cases d with
    | str z =>
      obtain ⟨r, h2, h3⟩ := val z
      refine ⟨str z, r, rep_strV p1, h2, ?_⟩
      have e2 : d' = .bl (if neg then !(l.lookup z).isSome else (l.lookup z).isSome) := by
        cases neg with
        | false =>
          have e1 : some (D.bl (dget (l.map fun p => (D.str p.1, p.2)) (.str z)).isSome) = some d' := e1
          rw [dget_tab] at e1
          cases e1
          rfl
        | true =>
          have e1 : some (D.bl (!(dget (l.map fun p => (D.str p.1, p.2)) (.str z)).isSome)) = some d' := e1
          rw [dget_tab] at e1
          cases e1
          rfl
      have e3 : r.isSome = (l.lookup z).isSome := by
        split at h3
        · rename_i q; rw [q, h3]; rfl
        · rename_i q; obtain ⟨u, v, q1, _⟩ := h3; rw [q, q1]; rfl
      rw [e3]
      rw [e2] at ok3
      exact ok3 m1 _ H1 .refl st1.rel (.bl _)
    | _ => cases neg <;> simp [blt, tabD] at e1
  cases neg with
  | false =>
    refine ⟨pe_of (pe_cmpR (op_in_kd kd) he.pe pn hm) fun σ H Q q => ?_, pt_of (pt_cmpR (op_in_kd kd) he.pe pn hm) fun σ H Q q => ?_⟩
    · exact tE_weak (key σ H Q q) fun v H1 ⟨z, r, e1, e2, q⟩ => ⟨z, r, e1, rfl, e2, q⟩
    · exact tE_weak (key σ H _ q) fun v H1 ⟨z, r, e1, e2, q⟩ => ⟨z, r, e1, rfl, e2, q⟩
  | true =>
    refine ⟨pe_of (pe_cmpR (op_notIn_kd kd) he.pe pn hm) fun σ H Q q => ?_, pt_of (pt_cmpR (op_notIn_kd kd) he.pe pn hm) fun σ H Q q => ?_⟩
    · exact tE_weak (key σ H Q q) fun v H1 ⟨z, r, e1, e2, q⟩ => ⟨z, r, e1, rfl, e2, q⟩
    · exact tE_weak (key σ H _ q) fun v H1 ⟨z, r, e1, e2, q⟩ => ⟨z, r, e1, rfl, e2, q⟩
/-- it[k] -/
theorem se_kix (cx : Ctx G C W X) (hx : G.gl.lookup x = some (.kdt l)) (hg : Gl X x) (hd : (x == ("__debug__" : Str)) = false) (he : SE X G C W e ce) (hs : notSlice e = true) :
    SE X G C W (.Subscript (.Name x p) e pos) (.blt .kix (.cons (.cst (tabD l)) (.cons ce .nil))) := by
  obtain ⟨a, ha, ⟨es, n, kd⟩, val⟩ := cx.gkd x l hx
  have pn := pe_glob (v := V.ref a) (pos := p) hg ha rfl hd
  have ix : IxR X (fun x y H Q => ∃ (z : Str) (u0 : Value) (v0 : V), x = .ref a ∧ y = .str z ∧ PySem.W.nsIn X.K a z = some (some u0) ∧ RelV v0 u0 ∧ Q v0 H) := by
    intro value slice pins s σ H x y v u Q I rx ry h hs
    obtain ⟨z, u0, v0, rfl, rfl, e, r, q⟩ := h
    cases rx
    obtain ⟨t, rfl⟩ := ry
    have hm' := PySem.W.mapOf_K (prog := X.prog) (w := X.w) I.kIn kd.at_ kd.lit
    refine tail_any hm'.typeIs slot_dict_getitem.lookup ?_ hs
    exact wpAny_getItem_of (PySem.strKind_is X.prog X.w z t) hm' (PySem.W.find_K kd.at_ e) ⟨v0, H, I.tok _, r, q⟩
  refine .plain (pe_of (pe_ix ix pn he.pe (plainIx hs)) fun σ H Q q => ?_) rfl
  refine tE_weak (tab_step q) fun v H1 ⟨m1, h1, ρ, d, st1, p1, ok⟩ => ?_
  simp only [evL, R.then] at ok
  obtain ⟨d', e1, ok3⟩ := okR_ofO ok
  clear ok
  cases d with
  | str z =>
    have e1 : dget (l.map fun p => (D.str p.1, p.2)) (.str z) = some d' := e1
    rw [dget_tab] at e1
    obtain ⟨r, h2, h3⟩ := val z
    rw [e1] at h3
    obtain ⟨u, w0, q1, q2, q3⟩ := h3
    rw [q1] at h2
    exact ⟨str z, u, w0, rfl, rep_strV p1, h2, q2, ok3 m1 _ H1 .refl st1.rel q3.rep⟩
  | _ => simp [blt, tabD] at e1
/-- it.get(k, d) -/
theorem se_kget (cx : Ctx G C W X) (hx : G.gl.lookup x = some (.kdt l)) (hg : Gl X x) (hd : (x == ("__debug__" : Str)) = false) (he : SE X G C W e ce) (hf : SE X G C W f cf) (m : M2 X (.Name x p) "get" apos e f pos) :
    SE X G C W (.Call (.Attribute (.Name x p) "get" apos) [e, f] [] pos) (.blt .kget (.cons (.cst (tabD l)) (.cons ce (.cons cf .nil)))) := by
  obtain ⟨a, ha, ⟨es, n, kd⟩, val⟩ := cx.gkd x l hx
  have pn := pe_glob (v := V.ref a) (pos := p) hg ha rfl hd
  refine .plain ⟨fun pins s σ H Q I q => ?_⟩ rfl
  refine wpAny_Call_method m.base m.few m.line PySem.F.plainAttrs_dict PySem.F.slot_dict_get PySem.F.type_dict_get (thn (pn.run pins s σ H (fun v H1 => v = .ref a ∧ H1 = H) I ⟨rfl, rfl⟩) fun u s1 ⟨x1, H1, I1, rx, ex, eH⟩ => ?_)
  subst ex
  rw [eH] at I1
  obtain rfl : u = Value.ref a := rx
  have hm' := PySem.W.mapOf_K (prog := X.prog) (w := X.w) I1.kIn kd.at_ kd.lit
  refine ⟨hm'.typeIs, fun b eb => ?_, ?_⟩
  · cases eb
    exact ⟨_, I1.kIn _ _ kd.at_, rfl⟩
  rw [m.trees]
  refine Calls.callWith_builtin rfl (Calls.evalArgs_plain (Calls.spliced_cons (thn (he.pe.run pins s1 σ H _ I1 (tab_step q)) fun iv s2 ⟨y, H2, I2, ry, m1, h1, ρ, d, st1, p1, ok⟩ =>
    Calls.spliced_cons (thn (hf.pe.run pins s2 σ H2 (fun z H3 => ∃ zz r, y = .str zz ∧ PySem.W.nsIn X.K a zz = some r ∧ (match r with | none => Q z H3 | some u => ∃ v0, RelV v0 u ∧ Q v0 H3)) I2 ?_) fun fv s3 ⟨w0, H3, I3, rz, zz, r, ey, hr, q3⟩ => Calls.spliced_nil ?_))))
  · have eq : ((evL C (.cons cf .nil) ρ h1).then fun ds h => R.ofO (blt C.bd h .kget (tabD l :: d :: ds)) h) = (evE C cf ρ h1).then fun z h => R.ofO (blt C.bd h .kget [tabD l, d, z]) h := by
      simp only [evL, R.then]
      generalize evE C cf ρ h1 = q1
      cases q1 <;> rfl
    rw [eq] at ok
    refine tE_step st1 ok fun dz h2 m2 z H3 x3 r3 p3 st3 ok3 => ?_
    obtain ⟨d', e1, q4⟩ := okR_ofO ok3
    cases d with
    | str z0 =>
      have e1 : some ((dget (l.map fun p => (D.str p.1, p.2)) (.str z0)).getD dz) = some d' := e1
      rw [dget_tab] at e1
      obtain ⟨r, g2, g3⟩ := val z0
      refine ⟨str z0, r, rep_strV p1, g2, ?_⟩
      cases hl : l.lookup z0 with
      | none =>
        rw [hl] at g3 e1
        cases e1
        subst g3
        exact q4 m2 _ H3 x3 r3 p3
      | some dd =>
        rw [hl] at g3 e1
        cases e1
        obtain ⟨u, w0, q5, q6, q7⟩ := g3
        subst q5
        exact ⟨w0, q6, q4 m2 _ H3 x3 r3 q7.rep⟩
    | _ => simp [blt, tabD] at e1
  · subst ey
    obtain ⟨t, rfl⟩ := (show ∃ t, iv = Value.str zz t from ry)
    have hm3 := PySem.W.mapOf_K (prog := X.prog) (w := X.w) I3.kIn kd.at_ kd.lit
    refine call_meetsIn PySem.F.slot_dict_get hm3.typeIs PySem.F.entry_dict_get (PySem.F.args_dict_get_3 _ _ _) (meets_dict_get_default (PySem.strKind X.prog X.w) a (PySem.strKind_is X.prog X.w zz t) kd.low fv) ⟨_, hm3, ?_⟩
    rw [PySem.W.find_K kd.at_ hr]
    cases r with
    | none => exact ⟨w0, H3, I3.tok _, rz, q3⟩
    | some u =>
      obtain ⟨v0, r0, q4⟩ := q3
      exact ⟨v0, H3, I3.tok _, r0, q4⟩
end
end PV
set_option Elab.async false
set_option autoImplicit false
set_option maxRecDepth 100000
set_option maxHeartbeats 1000000
namespace PV
open PySem PySem.Spec PyProof.Rows L2
/-- a list, a tuple, a text that is drawn from -/
inductive Src where
  | lst (a : Addr) | tup (a : Addr) | str (x : Str)
def Src.v : Src → V
  | .lst a => .ref a
  | .tup a => .ref a
  | .str x => .str x
def Src.at (it : Addr) (i : Nat) (h : Heap) : Src → Prop
  | .lst a => h.IsListIter it a i
  | .tup a => h.IsTupleIter it a i
  | .str x => ∃ t, h.IsStrIter it (strIterType x) x t i
def Src.has (K : PySem.W.Frag) (H : L2.Hp) (xs : List V) : Src → Prop
  | .lst a => SqL K H a xs
  | .tup a => SqT K H a xs
  | .str x => xs = x.cps.toList.map fun c => V.str ⟨#[c]⟩
def Src.apart (c : Addr) : Src → Prop
  | .lst a => a ≠ c
  | .tup a => a ≠ c
  | .str _ => True
def Src.small (n : Nat) : Src → Prop
  | .str _ => True
  | _ => n ≤ sizeLine
theorem vals_at {xs : List V} {its : List Value} (r : Vals xs its) {i : Nat} {u : Value} (h : its[i]? = some u) : ∃ x, xs[i]? = some x ∧ RelV x u := by
  have hl := r.length
  have hi : i < its.length := by
    have := List.getElem?_eq_some_iff.mp h
    exact this.1
  have hx : xs[i]? = some (xs[i]'(by omega)) := List.getElem?_eq_getElem _
  obtain ⟨u', h1, h2⟩ := r.get hx
  rw [h] at h1
  cases h1
  exact ⟨_, hx, h2⟩
section
variable {X : Cx} {pins : List (Addr × Obj)} {σ : L2.St} {H : L2.Hp} {s : Shared} {S S1 S2 : Src}
theorem Src.inj (I : Inv X pins σ H s) {xs ys : List V} (h : S.has X.K H xs) (k : S.has X.K H ys) : xs = ys := by
  cases S with
  | lst a => exact I.list_inj h k
  | tup a => exact I.tuple_inj h k
  | str x => exact Eq.trans h (Eq.symm k)
theorem Src.keep {it : Addr} {i : Nat} {h h' : Heap} (k : ∀ o, h.get? it = some o → h'.get? it = some o) (st : S.at it i h) : S.at it i h' := by
  cases S with
  | lst a => exact Heap.IsListIter.at st k
  | tup a => exact Heap.IsTupleIter.at st k
  | str x => obtain ⟨t, o, ho, r⟩ := st; exact ⟨t, o, k o ho, r⟩
theorem Src.obj {it : Addr} {i : Nat} {h : Heap} (st : S.at it i h) : ∃ o, h.get? it = some o ∧ ∀ v, o.data ≠ .cell v := by
  cases S with
  | lst a => obtain ⟨o, e, _, d⟩ := st; exact ⟨o, e, fun v q => by rw [d] at q; cases q⟩
  | tup a => obtain ⟨o, e, _, d⟩ := st; exact ⟨o, e, fun v q => by rw [d] at q; cases q⟩
  | str x => obtain ⟨t, o, e, _, d⟩ := st; exact ⟨o, e, fun v q => by rw [d] at q; cases q⟩
theorem Src.draws {it : Addr} {xs : List V} {i : Nat} (I : Inv X pins σ H s) (hc : X.calm = true) (hs : S.has X.K H xs) (hne : S.apart it) (st : S.at it i s.heap) :
    ∃ (fp : List Addr) (P : Nat → Value → Prop) (St : Nat → Heap → Prop), Draws X.prog X.w X.A.in1 it fp xs.length P St ∧ it ∈ fp ∧ (∀ c, c ≠ it → S.apart c → c ∉ fp) ∧
      St i s.heap ∧ (∀ i h, St i h → S.at it i h) ∧ ∀ i u, P i u → ∃ x, xs[i]? = some x ∧ RelV x u := by
  have hh : X.A.in1.handled = none := I.ok.hd hc
  cases S with
  | lst a =>
    obtain ⟨its, rv, p, _⟩ := I.list hs
    have D := Draws.list (prog := X.prog) (w := X.w) hh it a hne its.toArray
    have e : its.toArray.size = xs.length := by simp [rv.length]
    rw [e] at D
    exact ⟨_, _, _, D, by simp, fun c h1 h2 => by simp [h1]; exact fun q => h2 q.symm, ⟨st, p.isList⟩, fun i h q => q.1, fun i u q => vals_at rv (by simpa using q)⟩
  | tup a =>
    obtain ⟨its, rv, p, _⟩ := I.tuple hs
    have D := Draws.tuple (prog := X.prog) (w := X.w) hh it a hne its.toArray
    have e : its.toArray.size = xs.length := by simp [rv.length]
    rw [e] at D
    exact ⟨_, _, _, D, by simp, fun c h1 h2 => by simp [h1]; exact fun q => h2 q.symm, ⟨st, p⟩, fun i h q => q.1, fun i u q => vals_at rv (by simpa using q)⟩
  | str x =>
    obtain ⟨t, st⟩ := st
    have D := Draws.text (prog := X.prog) (w := X.w) hh it x t
    have hs : xs = x.cps.toList.map fun c => V.str ⟨#[c]⟩ := hs
    have e : x.cps.size = xs.length := by rw [hs]; simp
    rw [e] at D
    refine ⟨_, _, _, D, by simp, fun c h1 h2 => by simpa using h1, st, fun i h q => ⟨t, q⟩, fun i u q => ?_⟩
    obtain ⟨c, k, h1, rfl⟩ := q
    refine ⟨.str ⟨#[c]⟩, ?_, k, rfl⟩
    rw [hs, List.getElem?_map]
    have : x.cps.toList[i]? = some c := by simpa using h1
    rw [this] <;> rfl
theorem Src.begins {xs : List V} {u : Value} (I : Inv X pins σ H s) (hs : S.has X.K H xs) (r : RelV S.v u) :
    S.small xs.length ∧ ∃ (o : Obj) (P : Heap → Prop), Begins u o P ∧ P s.heap ∧ (∀ it h, h.get? it = some o → S.at it 0 h) ∧ ∀ c, s.heap.objs.size ≤ c → S.apart c := by
  cases S with
  | lst a =>
    cases r
    obtain ⟨its, rv, p, hz⟩ := I.list hs
    exact ⟨hz, _, _, begins_list a its.toArray, p.isList, fun it h e => ⟨_, e, rfl, rfl⟩, fun c hc q => absurd (Nat.lt_of_lt_of_le p.lt hc) (by rw [q]; exact Nat.lt_irrefl _)⟩
  | tup a =>
    cases r
    obtain ⟨its, rv, p, hz⟩ := I.tuple hs
    obtain ⟨o, e, _⟩ := id p
    exact ⟨hz, _, _, begins_tuple a its.toArray, p, fun it h e => ⟨_, e, rfl, rfl⟩, fun c hc q => absurd (Nat.lt_of_lt_of_le (Heap.lt_size e) hc) (by rw [q]; exact Nat.lt_irrefl _)⟩
  | str x =>
    obtain ⟨t, rfl⟩ := r
    exact ⟨trivial, _, _, begins_text x t, trivial, fun it h e => ⟨t, _, e, rfl, rfl⟩, fun c hc => trivial⟩
end
/-- two sources as they stand at each turn, the items in new pairs -/
def ItG (K : PySem.W.Frag) (S1 S2 : Src) : It :=
  ⟨fun i H => ∃ (xs ys : List V), S1.has K H xs ∧ S2.has K H ys ∧ i < xs.length ∧ i < ys.length,
    fun i H v H' => ∃ T x y, v = .ref T ∧ H T = none ∧ H' = upd H T (.tup [x, y]) ∧ (∀ xs, S1.has K H xs → xs[i]? = some x) ∧ ∀ ys, S2.has K H ys → ys[i]? = some y,
    fun i H => ∃ xs ys : List V, S1.has K H xs ∧ S2.has K H ys ∧ i ≤ xs.length ∧ i ≤ ys.length ∧ (i = xs.length ∨ i = ys.length)⟩
theorem neA {a b : Nat} (h : a ≠ b) : (show Addr from a) ≠ (show Addr from b) := h
theorem sep_of {S1 S2 : Src} {z TI TO i1 i2 : Addr} {fp1 fp2 : List Addr} (hd : z ≠ TI ∧ z ≠ TO ∧ z ≠ i1 ∧ z ≠ i2 ∧ TI ≠ TO ∧ TI ≠ i1 ∧ TI ≠ i2 ∧ TO ≠ i1 ∧ TO ≠ i2 ∧ i1 ≠ i2) (a1 : ∀ c ∈ [z, TI, TO, i1, i2], S1.apart c) (a2 : ∀ c ∈ [z, TI, TO, i1, i2], S2.apart c)
    (m1 : i1 ∈ fp1) (m2 : i2 ∈ fp2) (f1 : ∀ c, c ≠ i1 → S1.apart c → c ∉ fp1) (f2 : ∀ c, c ≠ i2 → S2.apart c → c ∉ fp2) : ZipSep2 z TI TO i1 i2 fp1 fp2 := by
  obtain ⟨h1, h2, h3, h4, h5, h6, h7, h8, h9, h10⟩ := hd
  exact { TIz := h1.symm, TOz := h2.symm, TITO := h5, TIi1 := h6, mem1 := m1, zf1 := f1 z h3 (a1 z (by simp)), Tf1 := f1 TO h8 (a1 TO (by simp)), TIi2 := h7, mem2 := m2,
          zf2 := f2 z h4 (a2 z (by simp)), Tf2 := f2 TO h9 (a2 TO (by simp)), sep1_2 := f2 i1 h10 (a2 i1 (by simp)), sep2_1 := f1 i2 h10.symm (a1 i2 (by simp)) }
theorem turn_zipG {P : Program} {w : World} {K : PySem.W.Frag} {elts : List Expr} {kk : Nat} {tpos : Pos} {S1 S2 : Src} {z TI TO i1 i2 : Addr}
    (hd : z ≠ TI ∧ z ≠ TO ∧ z ≠ i1 ∧ z ≠ i2 ∧ TI ≠ TO ∧ TI ≠ i1 ∧ TI ≠ i2 ∧ TO ≠ i1 ∧ TO ≠ i2 ∧ i1 ≠ i2) (a1 : ∀ c ∈ [z, TI, TO, i1, i2], S1.apart c) (a2 : ∀ c ∈ [z, TI, TO, i1, i2], S2.apart c) :
    Turn P w K (.Tuple elts kk tpos) (ItG K S1 S2) [z, TI, TO, i1, i2] z (fun i h => IsZip h z TI TO .none ∧ IsTupOf2 h TI (.ref i1) (.ref i2) ∧ (∃ x y, IsTupOf2 h TO x y) ∧ S1.at i1 i h ∧ S2.at i2 i h) where
  mem := by simp
  obj := fun i h st c hc => by
    obtain ⟨hz, hTI, ⟨x, y, hTO⟩, h1, h2⟩ := st
    have e' : c = z ∨ c = TI ∨ c = TO ∨ c = i1 ∨ c = i2 := by simpa using hc
    rcases e' with q | q | q | q | q
    · rw [q]; exact ⟨_, hz, fun v q => nomatch q⟩
    · rw [q]; exact ⟨_, hTI, fun v q => nomatch q⟩
    · rw [q]; exact ⟨_, hTO, fun v q => nomatch q⟩
    · rw [q]; exact Src.obj h1
    · rw [q]; exact Src.obj h2
  keep := fun i h h' st k => by
    obtain ⟨hz, hTI, ⟨x, y, hTO⟩, h1, h2⟩ := st
    exact ⟨k z (by simp) _ hz, k TI (by simp) _ hTI, ⟨x, y, k TO (by simp) _ hTO⟩, Src.keep (S := S1) (fun o q => k i1 (by simp) o q) h1, Src.keep (S := S2) (fun o q => k i2 (by simp) o q) h2⟩
  item := by
    intro X hP hw hK hc i pins s σ H E I hf st hg
    subst hP hw hK
    obtain ⟨hz, hTI, ⟨x0, y0, hTO⟩, h1, h2⟩ := st
    obtain ⟨xs, ys, hqx, hqy, hx, hy⟩ := hg
    obtain ⟨fp1, P1, St1, D1, m1, f1, s1, t1, k1⟩ := Src.draws I hc hqx (a1 i1 (by simp)) h1
    obtain ⟨fp2, P2, St2, D2, m2, f2, s2, t2, k2⟩ := Src.draws I hc hqy (a2 i2 (by simp)) h2
    have SP := sep_of hd a1 a2 m1 m2 f1 f2
    have hzl : z < s.heap.objs.size := Heap.lt_size hz
    refine wpAny_pyNext_zipD2_item SP D1 D2 hz hTI hTO s1 s2 hx hy fun u u2 h' tk p1 p2 z' TO' h1' h2' hT hsz hk => ?_
    obtain ⟨x, ex, ru⟩ := k1 i u p1
    obtain ⟨y, ey, ru2⟩ := k2 i u2 p2
    refine ⟨_, rfl, wpAny_letOwnedTupleGo_zip (s := { s with heap := h', toks := tk }) z' fun h'' z'' sb => ?_⟩
    have hT2 : h''.get? s.heap.objs.size = some { cls := .type "tuple", data := .seq #[u, u2] } := (sb.2 _ (Nat.ne_of_gt hzl)).trans hT
    have new : ObjOk X.prog X.w (upd H s.heap.objs.size (.tup [x, y])) h'' s.heap.objs.size (.tup [x, y]) :=
      ⟨by show 2 ≤ sizeLine; decide, [u, u2], .cons ru (.cons ru2 .nil), ⟨_, hT2, rfl, _, rfl⟩⟩
    have I1 : Inv X pins σ (upd H s.heap.objs.size (.tup [x, y])) { s with heap := h'', toks := tk } :=
      I.turnedNew (t' := tk) (ch := [z, TI, TO, i1, i2]) (fun c o hb q => (sb.2 c (fun q' => hb (by simp [q']))).trans (hk c o (fun q' => hb (by simp [q'])) (fun q' => hb (by simp [q'])) (fun q' => hb (by simp [q'])) (fun q' => hb (by simp [q'])) q)) hf (Nat.le_refl _) new
    refine ⟨.ref s.heap.objs.size, _, I1, rfl, ⟨_, x, y, rfl, I.hok.fresh (Nat.le_refl _), rfl, fun l hl => by rw [Src.inj I hl hqx]; exact ex, fun l hl => by rw [Src.inj I hl hqy]; exact ey⟩, ⟨z'', ?_, ⟨u, u2, ?_⟩, ?_, ?_⟩, fun c hcm => ?_⟩
    · exact (sb.2 _ SP.TIz).trans (hk _ _ SP.TIz SP.TITO SP.TIi1 SP.TIi2 hTI)
    · exact (sb.2 _ SP.TOz).trans TO'
    · exact Src.keep (S := S1) (fun o q => (sb.2 _ SP.zi1.symm).trans q) (t1 _ _ h1')
    · exact Src.keep (S := S2) (fun o q => (sb.2 _ SP.zi2.symm).trans q) (t2 _ _ h2')
    · have hlt : c < s.heap.objs.size := by
        have e' : c = z ∨ c = TI ∨ c = TO ∨ c = i1 ∨ c = i2 := by simpa using hcm
        rcases e' with q | q | q | q | q
        · rw [q]; exact hzl
        · rw [q]; exact Heap.lt_size hTI
        · rw [q]; exact Heap.lt_size hTO
        · rw [q]; obtain ⟨_, e1, _⟩ := Src.obj h1; exact Heap.lt_size e1
        · rw [q]; obtain ⟨_, e2, _⟩ := Src.obj h2; exact Heap.lt_size e2
      rw [upd_ne (Nat.ne_of_lt hlt)]
      exact (hf c hcm).1
  done := by
    intro X hP hw hK hc i pins s σ H E I hf st hg
    subst hP hw hK
    obtain ⟨hz, hTI, ⟨x0, y0, hTO⟩, h1, h2⟩ := st
    obtain ⟨xs, ys, hqx, hqy, hx, hy, hend⟩ := hg
    obtain ⟨fp1, P1, St1, D1, m1, f1, s1, t1, k1⟩ := Src.draws I hc hqx (a1 i1 (by simp)) h1
    obtain ⟨fp2, P2, St2, D2, m2, f2, s2, t2, k2⟩ := Src.draws I hc hqy (a2 i2 (by simp)) h2
    exact wpAny_pyNext_zipD2_end (sep_of hd a1 a2 m1 m2 f1 f2) D1 D2 hz hTI hTO s1 s2 hx hy hend fun h' tk hk => ⟨rfl, I.turnedL (t' := tk) (ch := [z, TI, TO, i1, i2]) (fun c o hb q =>
      hk c o (fun q' => hb (by simp [q'])) (fun q' => hb (by simp [q'])) (fun q' => hb (by simp [q'])) (fun q' => hb (by simp [q'])) q) hf⟩
  self := fun A i s Q E st h => wpAny_pyIter_zip st.1 h
def iZipG (K : PySem.W.Frag) (ta : TA) : TI := fun σ H R => ta σ H fun vs H1 => ∃ (S1 S2 : Src) (xs ys : List V), vs = [S1.v, S2.v] ∧ S1.has K H1 xs ∧ S2.has K H1 ys ∧ (S1.small xs.length → S2.small ys.length → R (ItG K S1 S2) H1)
theorem pi_zipG {X : Cx} {e e2 : Expr} {ta : TA} {p pos tpos : Pos} {elts : List Expr} {kk : Nat} (hg : Gl X "zip") (hm : X.mg "zip" = none) (ha : PA X [e, e2] ta)
    (hs : starEach [e, e2] X.env = (false, eval e X.env) :: starEach [e2] X.env) (hpl : (backTo pos (starEach [e2] X.env)).any (·.1) = false) :
    PI X (.Tuple elts kk tpos) (.Call (.Name "zip" p) [e, e2] [] pos) (iZipG X.K ta) := by
  refine ⟨fun pins s σ H R I h => ?_⟩
  refine Call_ (ld_blt I hg hm PyProof.Rows.boot_zip (PyProof.Rows.callWith_type1 (thn (ha.run pos pins s σ H _ I h) fun us s1 ⟨vs, H1, I1, r1, q1⟩ => ?_) hs hpl))
  obtain ⟨S1, S2, xs, ys, ex, hqx, hqy, q⟩ := q1
  subst ex
  cases r1 with
  | cons r rr =>
    cases rr with
    | cons r' rr =>
      cases rr
      obtain ⟨sm1, o1, P1, B1, p1, l1, d1⟩ := Src.begins I1 hqx r
      obtain ⟨sm2, o2, P2, B2, p2, l2, d2⟩ := Src.begins I1 hqy r'
      refine zip_begins2 B1 B2 p1 p2 fun h' hz hTI hTO h1 h2 hsz hk => wpAny_pyIter_zip hz ?_
      have I2 : Inv X pins σ H1 { s1 with heap := h' } := I1.kept (t' := s1.toks) hk
      have up : ∀ c, c ∈ [s1.heap.objs.size + 4, s1.heap.objs.size + 2, s1.heap.objs.size + 3, s1.heap.objs.size, s1.heap.objs.size + 1] → s1.heap.objs.size ≤ c := fun c hc => by
        simp only [List.mem_cons, List.not_mem_nil, or_false] at hc
        omega
      generalize hn : s1.heap.objs.size = n at *
      refine ⟨n + 4, [n + 4, n + 2, n + 3, n, n + 1], _, _, H1, rfl, I2, turn_zipG (S1 := S1) (S2 := S2) ?_ (fun c hc => d1 c (up c hc)) (fun c hc => d2 c (up c hc)), ⟨hz, hTI, ⟨_, _, hTO⟩, l1 _ _ h1, l2 _ _ h2⟩, fun c hc => ?_, q sm1 sm2⟩
      · refine ⟨?_, ?_, ?_, ?_, ?_, ?_, ?_, ?_, ?_, ?_⟩ <;> (refine neA ?_; omega)
      · have hle := up c hc
        rw [← hn] at hle
        exact I1.fpOk hle (I1.hok.fresh hle)
/-! ### as it is told here -/
theorem zipD_len : ∀ (l k : List D), (zipD l k).length = min l.length k.length
  | [], k => by simp [zipD]
  | _ :: _, [] => by simp [zipD]
  | _ :: l, _ :: k => by simp [zipD, zipD_len l k]
theorem zipD_get : ∀ {l k : List D} {i : Nat} {a b : D}, l[i]? = some a → k[i]? = some b → (zipD l k)[i]? = some (.tup [a, b])
  | [], _, _, _, _, h, _ => by simp at h
  | _ :: _, [], _, _, _, _, h => by simp at h
  | x :: l, y :: k, 0, a, b, h1, h2 => by simp at h1 h2; simp [zipD, h1, h2]
  | x :: l, y :: k, i + 1, a, b, h1, h2 => by
    simp only [zipD, List.getElem?_cons_succ] at h1 h2 ⊢
    exact zipD_get h1 h2
section
variable {X : Cx} {G : Gx} {C : Cl} {W : WX} {pos : Pos} {tg : Expr}
theorem src_of {H : L2.Hp} {Lv : Addr → Prop} {m : List Addr} {d : D} {v : V} {l : List D} (p : Sn G H Lv m d v) (e : seqS d = some l) :
    ∃ S : Src, v = S.v ∧ ∀ (z : Addr → Prop) (H' : L2.Hp) (Lv' : Addr → Prop) (m' : List Addr), Sn (G.hotter z) H' Lv' m' d v → ∃ xs, S.has G.K H' xs ∧ RepL (G.hotter z) H' Lv' m' l xs := by
  cases p with
  | @lst l vs a hq rl =>
    cases e
    refine ⟨.lst a, rfl, fun z H' Lv' m' q => ?_⟩
    cases q with
    | lst h1 h2 => exact ⟨_, h1.sq, h2⟩
  | @tup l vs a hq rl =>
    cases e
    refine ⟨.tup a, rfl, fun z H' Lv' m' q => ?_⟩
    cases q with
    | tup h1 h2 => exact ⟨_, h1, h2⟩
  | str x =>
    cases e
    refine ⟨.str (str x), rfl, fun z H' Lv' m' q => ⟨x.map fun c => V.str (str [c]), ?_, ?_⟩⟩
    · show _ = _
      simp [str]
    · clear q
      induction x with
      | nil => exact .nil
      | cons c x ih => exact .cons (.str [c]) ih
  | _ => cases e
theorem si_zip {a b : Expr} {l : EL} {p tpos : Pos} {elts : List Expr} {kk : Nat} (hK : X.K = G.K) (hg : Gl X "zip") (hm : X.mg "zip" = none) (hs : SA X G C W [a, b] l) :
    PI X (.Tuple elts kk tpos) (.Call (.Name "zip" p) [a, b] [] pos) (tI G C W .zip l) :=
  pi_of (pi_zipG hg hm hs.pa (by rw [starEach_cons (hs.st a (by simp))]) (by rw [starEach_cons (hs.st b (by simp))]; rfl)) fun σ H Z ⟨m, h, ρ, st, ok⟩ => by
    refine ⟨m, h, ρ, st, okR_mono (okR_then ok) (fun ds h1 q m1 vs H1 x r p => ?_) fun _ _ _ q => q⟩
    obtain ⟨zs, e, q⟩ := okR_ofO (okR_then q)
    match ds, e with
    | [d1, d2], e =>
      have e : (seqS (vw h1 d1)).bind (fun l => (seqS (vw h1 d2)).map (zipD l)) = some zs := e
      obtain ⟨l1, e1, e⟩ := Option.bind_eq_some_iff.mp e
      obtain ⟨l2, e2, e⟩ := Option.map_eq_some_iff.mp e
      subst e
      obtain ⟨v1, v2, rfl, p1, p2⟩ := p.two
      have n1 := see r p1
      have n2 := see r p2
      obtain ⟨S1, hv1, k1⟩ := src_of n1 e1
      obtain ⟨S2, hv2, k2⟩ := src_of n2 e2
      obtain ⟨xs, hx, rx⟩ := k1 G.hot _ _ _ n1
      obtain ⟨ys, hy, ry⟩ := k2 G.hot _ _ _ n2
      refine ⟨S1, S2, xs, ys, by rw [hv1, hv2], by rw [hK]; exact hx, by rw [hK]; exact hy, fun sm1 sm2 => q m1 H1 _ x r ⟨fun z i m' h' H' x' rr sy hi => ?_, fun z m' h' H' x' rr sy => ?_, fun z i m' h' H' x'' H2 x' rr sy hi y => ?_⟩ fun f => ?_⟩
      · have q1 := see rr ((p1.mono x').heat ⟨z, G.ht.kn, G.ht.clo⟩)
        rw [vw_stay sy] at q1
        have q2 := see rr ((p2.mono x').heat ⟨z, G.ht.kn, G.ht.clo⟩)
        rw [vw_stay (stay_tail sy)] at q2
        obtain ⟨xs, hx, rx⟩ := k1 _ _ _ _ q1
        obtain ⟨ys, hy, ry⟩ := k2 _ _ _ _ q2
        rw [zipD_len] at hi
        have a1 := rx.length
        have a2 := ry.length
        exact ⟨xs, ys, by rw [hK]; exact hx, by rw [hK]; exact hy, by omega, by omega⟩
      · have q1 := see rr ((p1.mono x').heat ⟨z, G.ht.kn, G.ht.clo⟩)
        rw [vw_stay sy] at q1
        have q2 := see rr ((p2.mono x').heat ⟨z, G.ht.kn, G.ht.clo⟩)
        rw [vw_stay (stay_tail sy)] at q2
        obtain ⟨xs, hx, rx⟩ := k1 _ _ _ _ q1
        obtain ⟨ys, hy, ry⟩ := k2 _ _ _ _ q2
        have a1 := rx.length
        have a2 := ry.length
        have a3 := zipD_len l1 l2
        show ∃ xs ys : List V, _ ∧ _ ∧ (zipD l1 l2).length ≤ xs.length ∧ (zipD l1 l2).length ≤ ys.length ∧ ((zipD l1 l2).length = xs.length ∨ (zipD l1 l2).length = ys.length)
        exact ⟨xs, ys, by rw [hK]; exact hx, by rw [hK]; exact hy, by omega, by omega, by omega⟩
      · have q1 := see rr ((p1.mono x').heat ⟨z, G.ht.kn, G.ht.clo⟩)
        rw [vw_stay sy] at q1
        have q2 := see rr ((p2.mono x').heat ⟨z, G.ht.kn, G.ht.clo⟩)
        rw [vw_stay (stay_tail sy)] at q2
        obtain ⟨xs, hx, rx⟩ := k1 _ _ _ _ q1
        obtain ⟨ys, hy, ry⟩ := k2 _ _ _ _ q2
        rw [zipD_len] at hi
        obtain ⟨T, a, b, rfl, hT, rfl, f1, f2⟩ := y
        have f1 := f1 xs (by rw [hK]; exact hx)
        have f2 := f2 ys (by rw [hK]; exact hy)
        obtain ⟨w1, g1, g2⟩ := rx.get (i := i) (d := l1[i]) (by simp)
        obtain ⟨w2, g3, g4⟩ := ry.get (i := i) (d := l2[i]) (by simp)
        rw [f1] at g1
        cases g1
        rw [f2] at g3
        cases g3
        obtain ⟨c1, c2, c3⟩ := new_tup (m := m') (h := h') (H := H') .refl rr hT (.cons g2 (.cons g4 .nil))
        exact ⟨c1, c2, _, zipD_get (by simp) (by simp), c3⟩
      · rw [zipD_len]
        have a1 := rx.length
        have a2 := ry.length
        cases S1 with
        | lst a => have : xs.length ≤ sizeLine := sm1; omega
        | tup a => have : xs.length ≤ sizeLine := sm1; omega
        | str x1 => cases S2 with
          | lst a => have : ys.length ≤ sizeLine := sm2; omega
          | tup a => have : ys.length ≤ sizeLine := sm2; omega
          | str x2 =>
            subst hv1 hv2
            obtain ⟨y1, rfl⟩ := rep_str p1
            obtain ⟨y2, rfl⟩ := rep_str p2
            have : (zipD l1 l2).length ≤ line := of_decide_eq_true f
            rw [zipD_len, line_eq] at this
            exact this
end
end PV
set_option Elab.async false
set_option autoImplicit false
set_option maxRecDepth 100000
set_option maxHeartbeats 1000000
namespace PV
open PySem PySem.Spec PyProof.Rows L2
section
variable {X : Cx} {G : Gx} {C : Cl} {W : WX} {pos p : Pos}
theorem kit_two {K : PySem.W.Frag} {t a b : Value} {x y : Bool} (h1 : PySem.W.kitOne K t a = some x) (h2 : PySem.W.kitOne K t b = some y) : PySem.W.kitAny K t [a, b] = some (x || y) := by
  cases x <;> cases y <;> simp [PySem.W.kitAny, h1, h2]
set_option maxRecDepth 1000000 in
theorem tyOf_sn2 {m : List Addr} {h : Hs} {H : L2.Hp} {t t' : Ty} {x : D} {v : V} {c c' : Bool} (px : Sn G H (Live G m h) m x v) (e : tyOf t x = some c) (e' : tyOf t' x = some c') :
    ∃ u, TyX G.K H v u ∧ PySem.W.kitOne G.K u (.type (tyName t)) = some c ∧ PySem.W.kitOne G.K u (.type (tyName t')) = some c' := by
  cases px with
  | non => refine ⟨_, .base .non, ?_, ?_⟩; · cases t <;> (cases e; exact isi_of (by decide +kernel))
           cases t' <;> (cases e'; exact isi_of (by decide +kernel))
  | bl z => refine ⟨_, .base (.bl z), ?_, ?_⟩; · cases t <;> (cases e; exact isi_of (by decide +kernel))
            cases t' <;> (cases e'; exact isi_of (by decide +kernel))
  | int z => refine ⟨_, .base (.int z), ?_, ?_⟩; · cases t <;> (cases e; exact isi_of (by decide +kernel))
             cases t' <;> (cases e'; exact isi_of (by decide +kernel))
  | str z => refine ⟨_, .base (.str _), ?_, ?_⟩; · cases t <;> (cases e; exact isi_of (by decide +kernel))
             cases t' <;> (cases e'; exact isi_of (by decide +kernel))
  | tup s1 l1 => refine ⟨_, tyX_seqT s1, ?_, ?_⟩; · cases t <;> (cases e; exact isi_of (by decide +kernel))
                 cases t' <;> (cases e'; exact isi_of (by decide +kernel))
  | lst s1 l1 => refine ⟨_, tyX_lst s1, ?_, ?_⟩; · cases t <;> (cases e; exact isi_of (by decide +kernel))
                 cases t' <;> (cases e'; exact isi_of (by decide +kernel))
  | dct s1 k1 k2 l1 => refine ⟨_, tyX_dct s1, ?_, ?_⟩; · cases t <;> (cases e; exact isi_of (by decide +kernel))
                       cases t' <;> (cases e'; exact isi_of (by decide +kernel))
  | _ => cases t <;> cases e
theorem se_isin2 {t u : Ty} {a : Expr} {ea : E} {y z : Str} {py pz pt : Pos} {k : Nat} (hg : Gl X "isinstance") (hm : X.mg "isinstance" = none) (ha : SE X G C W a ea) (hst : starred a = false) (hK : X.K = G.K) (hgy : Gl X y) (hmy : X.mg y = none)
    (hvy : bootBuiltins y = some (.type (tyName t))) (hny : y ≠ "__name__") (hdy : (y == ("__debug__" : Str)) = false) (hgz : Gl X z) (hmz : X.mg z = none)
    (hvz : bootBuiltins z = some (.type (tyName u))) (hnz : z ≠ "__name__") (hdz : (z == ("__debug__" : Str)) = false) :
    SE X G C W (.Call (.Name "isinstance" p) [a, .Tuple [.Name y py, .Name z pz] k pt] [] pos) (.blt (.isin2 t u) (.cons ea .nil)) := by
  refine .plain (pe_of (pe_callB call_isiT hg hm PyProof.Rows.boot_isinstance (pa_cons ha.pe (pa_cons (pe_tup (pa_cons (pe_bltn (v := .ty (tyName t)) hgy hmy hvy rfl hny hdy) (pa_cons (pe_bltn (v := .ty (tyName u)) hgz hmz hvz rfl hnz hdz) pa_nil))) pa_nil) (starEach_cons hst)) (by decide) (by decide) (starEach_cons hst) rfl) fun σ H Q ⟨m, h, ρ, st, ok⟩ => ?_) rfl
  simp only [evE, evL] at ok
  refine tE_step st (okR_then ok) fun dx h1 m1 x H1 x1 r1 p1 st1 ok1 => ?_
  obtain ⟨d, e, q⟩ := okR_ofO ok1
  have e : (match tyOf t (vw h1 dx), tyOf u (vw h1 dx) with
    | some a, some b => some (D.bl (a || b))
    | _, _ => none) = some d := e
  split at e
  · rename_i c1 c2 e1 e2
    cases e
    refine ⟨by show 2 ≤ sizeLine; decide, fun tp htp => ?_⟩
    have r2 := r1.new (o := .tup [.ty (tyName t), .ty (tyName u)]) htp
    have x2 : Ext G m1 h1 H1 m1 h1 (upd H1 tp (.tup [.ty (tyName t), .ty (tyName u)])) := Ext.new r1 htp
    have p2 := see r2 (p1.mono x2)
    obtain ⟨w1, k1, k2, k3⟩ := tyOf_sn2 p2 e1 e2
    rw [← hK] at k1 k2 k3
    exact ⟨x, tp, _, w1, _, _, rfl, upd_same, .cons (.ty _) (.cons (.ty _) .nil), k1, kit_two k2 k3, q m1 _ _ (x1.trans x2) r2 (.bl _)⟩
  · cases e
theorem joinC_eq (s : Cs) : ∀ l : List Cs, Str.join (str s) (l.map str) = str (joinC s l)
  | [] => rfl
  | [x] => rfl
  | x :: y :: r => by
    show str x ++ str s ++ Str.join (str s) ((y :: r).map str) = _
    rw [joinC_eq s (y :: r)]
    have ap : ∀ a b : Str, a ++ b = ⟨a.cps ++ b.cps⟩ := fun _ _ => rfl
    simp [ap, joinC, str]
theorem sum_len : ∀ l : List Cs, ((l.map str).map (·.length)).sum = (l.map List.length).sum
  | [] => rfl
  | x :: r => by
    have := sum_len r
    simp only [List.map_cons, List.sum_cons, this]
    rfl
theorem se_join {o e : Expr} {s : Cs} {ce : E} {apos : Pos} (hK : X.K = G.K) (ho : SE X G C W o (.cst (.str s))) (he : SE X G C W e ce) (hst : starred e = false) (hbase : attributeBase o "join" X.env (eval o X.env) = eval o X.env) (hline : (apos.endLine == pos.line) = true) :
    SE X G C W (.Call (.Attribute o "join" apos) [e] [] pos) (.blt .join (.cons (.cst (.str s)) (.cons ce .nil))) := by
  refine .plain (pe_of (pe_join ho.pe he.pe (starEach_cons hst) hbase hline) fun σ H Q ⟨m, h, ρ, st, ok⟩ => ?_) rfl
  simp only [evE, evL] at ok
  replace ok : okR ((((evE C ce ρ h).then fun x h => R.ok [x] h).then fun r h => R.ok (D.str s :: r) h).then fun l h => R.ofO (PV.blt C.bd h .join l) h) _ _ := ok
  refine ⟨m, h, ρ, st, fun m1 v H1 x1 r1 p1 => ?_⟩
  cases p1
  refine ⟨⟨_, rfl⟩, m1, h, ρ, st.later x1 r1, okR_mono (okR_then (okR_then (okR_then ok))) (fun y h2 q m2 u H2 x2 r2 p2 => ?_) fun c l h2 q m2 H2 cls d x2 r2 p2 => q m2 H2 cls d (x1.trans x2) r2 p2⟩
  have q : okR (R.ofO (PV.blt C.bd h2 .join [.str s, y]) h2) _ _ := q
  obtain ⟨d, e, q⟩ := okR_ofO q
  have sn := see r2 p2
  have e : (match vw h2 y with
    | .lst l => match allStr l with
      | some l => if decide ((l.map List.length).sum + l.length * s.length ≤ line) then some (D.str (joinC s l)) else none
      | none => none
    | _ => none) = some d := e
  generalize vw h2 y = dd at sn e
  cases sn with
  | @lst l vs a hq rl =>
    simp only at e
    split at e
    · rename_i bs hb
      split at e
      · rename_i hz
        cases e
        have ev := rep_strs rl hb
        subst ev
        refine ⟨str s, a, bs.map str, rfl, rfl, .inl (by rw [hK]; exact hq.sq), ?_, q m2 _ H2 (x1.trans x2) r2 (by rw [TL.join_eq, joinC_eq]; exact .str _)⟩
        have hz := of_decide_eq_true hz
        rw [sum_len, List.length_map]
        have : (str s).length = s.length := by simp [str, Str.length]
        rw [this]
        exact Nat.le_trans hz (by decide)
      · cases e
    · cases e
  | _ => cases e
end
end PV
set_option Elab.async false
set_option autoImplicit false
set_option maxRecDepth 100000
set_option maxHeartbeats 1000000
namespace PV
open PySem PySem.Spec PyProof.Rows L2
def valD : D → Option V
  | .non => some .non
  | .bl b => some (.bl b)
  | .int i => some (.int i)
  | .str x => some (.str (str x))
  | _ => none
/-- what is read without a step in the heap -/
def tAt : E → TE
  | .cst d => fun _ H Q => ∃ v, valD d = some v ∧ Q v H
  | .var i => fun σ H Q => ∃ v, σ[i]? = some (some v) ∧ Q v H
  | _ => fun _ _ _ => False
def trsA (ks vs : List E) : List (TE × TE) := (ks.zip vs).map fun p => (tAt p.1, tAt p.2)
section
variable {X : Cx} {G : Gx} {C : Cl} {W : WX} {pos : Pos}
theorem at_int {i : Int} {j : Nat} {pos : Pos} : PE X (.Constant (.int i) j pos) (tAt (.cst (.int i))) := pe_of pe_int fun σ H Q ⟨v, e, q⟩ => by cases e; exact q
theorem at_bl {i : Bool} {j : Nat} {pos : Pos} : PE X (.Constant (.bool i) j pos) (tAt (.cst (.bl i))) := pe_of pe_bl fun σ H Q ⟨v, e, q⟩ => by cases e; exact q
theorem at_non {j : Nat} {pos : Pos} : PE X (.Constant .none j pos) (tAt (.cst .non)) := pe_of pe_non fun σ H Q ⟨v, e, q⟩ => by cases e; exact q
theorem at_str {x : Str} {j : Nat} {pos : Pos} : PE X (.Constant (.str x) j pos) (tAt (.cst (.str x.cps.toList))) := pe_of pe_str fun σ H Q ⟨v, e, q⟩ => by
  cases e
  rw [str_toList] at q
  exact q
theorem at_var {i : Nat} {x : Str} {pos : Pos} (hN : X.N[i]? = some x) (hv : Vis X.env.scope x) (hd : (x == ("__debug__" : Str)) = false) (hcd : (x == ("__classdict__" : Str)) = false) : PE X (.Name x pos) (tAt (.var i)) := pe_of (pe_var hN hv hd hcd) fun σ H Q q => q
theorem at_ev {m : List Addr} {h : Hs} {ρ : Env} {σ : L2.St} {H : L2.Hp} (st : Stt G m h ρ σ H) {c : E} {P : D → Hs → Prop} {Z : Nat → List D → Hs → Prop} (hc : ∃ σ' H' Q', tAt c σ' H' Q' ∨ True) (ha : (match c with | .cst d => (valD d).isSome | .var _ => true | _ => false) = true)
    (ok : okR (evE C c ρ h) P Z) : ∃ d v, evE C c ρ h = .ok d h ∧ Rep G H (Live G m h) m d v ∧ ∀ (Hx : L2.Hp) (Q : VK), Q v Hx → tAt c σ Hx Q := by
  cases c with
  | cst d =>
    cases d with
    | non => exact ⟨_, _, by simp only [evE], .non, fun Hx Q q => ⟨_, rfl, q⟩⟩
    | bl b => exact ⟨_, _, by simp only [evE], .bl b, fun Hx Q q => ⟨_, rfl, q⟩⟩
    | int b => exact ⟨_, _, by simp only [evE], .int b, fun Hx Q q => ⟨_, rfl, q⟩⟩
    | str b => exact ⟨_, _, by simp only [evE], .str b, fun Hx Q q => ⟨_, rfl, q⟩⟩
    | _ => cases ha
  | var i =>
    simp only [evE] at ok
    obtain ⟨d, e, _⟩ := okR_ofO ok
    obtain ⟨v, h1, h2⟩ := st.slot i d e
    exact ⟨d, v, by simp only [evE, e]; rfl, h2, fun Hx Q q => ⟨v, h1, q⟩⟩
  | _ => cases ha
theorem at_pow {i j : Int} {a b : Nat} {p q : Pos} (h0 : 0 ≤ j) (h1 : j ≤ 1000) (h2 : small i = true) : PE X (.BinOp (.Constant (.int i) a p) .Pow (.Constant (.int j) b q) pos) (tAt (.cst (.int (i ^ j.toNat)))) :=
  pe_of (pe_op op_pow pe_int pe_int) fun σ H Q ⟨v, e, q⟩ => by
    cases e
    exact ⟨i, j, rfl, rfl, ⟨h0, by omega, small_nat h2⟩, q⟩
def atB : E → Bool
  | .cst d => (valD d).isSome
  | .var _ => true
  | _ => false
theorem at_evL {m : List Addr} {h : Hs} {ρ : Env} {σ : L2.St} {H : L2.Hp} (st : Stt G m h ρ σ H) : ∀ {cs : List E} {P : List D → Hs → Prop} {Z : Nat → List D → Hs → Prop}, cs.all atB = true →
    okR (evL C (EL.of cs) ρ h) P Z → ∃ ds vs, evL C (EL.of cs) ρ h = .ok ds h ∧ RepL G H (Live G m h) m ds vs ∧ ds.length = cs.length ∧ ∀ (j : Nat) (c : E) (v : V), cs[j]? = some c → vs[j]? = some v → ∀ (Hx : L2.Hp) (Q : VK), Q v Hx → tAt c σ Hx Q
  | [], P, Z, _, ok => ⟨[], [], by simp only [EL.of, evL], .nil, rfl, fun j c v e _ => by simp at e⟩
  | c :: cs, P, Z, ha, ok => by
    simp only [List.all_cons, Bool.and_eq_true] at ha
    simp only [EL.of, evL] at ok
    obtain ⟨d, v, e, r, t⟩ := at_ev (C := C) st (c := c) ⟨σ, H, fun _ _ => True, .inr trivial⟩ (by have := ha.1; cases c <;> first | exact this | rfl | cases this) (okR_then ok)
    rw [e] at ok
    obtain ⟨ds, vs, e2, r2, l2, t2⟩ := at_evL st ha.2 (okR_then (show okR ((evL C (EL.of cs) ρ h).then _) _ _ from ok))
    refine ⟨d :: ds, v :: vs, by simp only [EL.of, evL, e, R.then, e2], .cons r r2, by simp [l2], fun j c' v' ej ev => ?_⟩
    cases j with
    | zero => simp at ej ev; subst ej; subst ev; exact t
    | succ j => exact t2 j c' v' (by simpa using ej) (by simpa using ev)
theorem tPairs_at {σ : L2.St} {Hx : L2.Hp} : ∀ {ks vs : List E} {kv vv : List V} {Q : List (V × V) → L2.Hp → Prop}, ks.length = vs.length → kv.length = ks.length → vv.length = vs.length →
    (∀ (j : Nat) (c : E) (v : V), ks[j]? = some c → kv[j]? = some v → ∀ (Q : VK), Q v Hx → tAt c σ Hx Q) → (∀ (j : Nat) (c : E) (v : V), vs[j]? = some c → vv[j]? = some v → ∀ (Q : VK), Q v Hx → tAt c σ Hx Q) →
    Q (kv.zip vv) Hx → tPairs (trsA ks vs) σ Hx Q
  | [], [], [], [], Q, _, _, _, _, _, q => q
  | k :: ks, v :: vs, x :: kv, y :: vv, Q, h1, h2, h3, tk, tv, q =>
    tk 0 k x rfl rfl _ (tv 0 v y rfl rfl _ (tPairs_at (by simpa using h1) (by simpa using h2) (by simpa using h3) (fun j c v e1 e2 => tk (j + 1) c v (by simpa using e1) (by simpa using e2)) (fun j c v e1 e2 => tv (j + 1) c v (by simpa using e1) (by simpa using e2)) q))
  | [], _ :: _, _, _, _, h1, _, _, _, _, _ => by simp at h1
  | _ :: _, [], _, _, _, h1, _, _, _, _, _ => by simp at h1
  | [], [], _ :: _, _, _, _, h2, _, _, _, _ => by simp at h2
  | _ :: _, _ :: _, [], _, _, _, h2, _, _, _, _ => by simp at h2
  | [], [], [], _ :: _, _, _, _, h3, _, _, _ => by simp at h3
  | _ :: _, _ :: _, _ :: _, [], _, _, _, h3, _, _, _ => by simp at h3
theorem key_val {H : L2.Hp} {Lv : Addr → Prop} {m : List Addr} {d : D} {v : V} (hk : isKey d = true) (r : Rep G H Lv m d v) : v = kV (keyOf d) := by
  cases r <;> first | rfl | cases hk
theorem dctOf_keys : ∀ {ks vs : List D} {acc l : List (D × D)}, dctOf ks vs acc = some l → ∀ k ∈ ks, isKey k = true
  | [], _, _, _, _, _, h => by simp at h
  | k :: ks, [], _, _, e, _, _ => by simp [dctOf] at e
  | k :: ks, v :: vs, acc, l, e, x, hx => by
    simp only [dctOf] at e
    split at e
    · rename_i hk
      rcases List.mem_cons.mp hx with rfl | hx
      · exact hk
      · exact dctOf_keys e x hx
    · cases e
/-- keys and values, one behind the other -/
theorem dctOf_rel {H : L2.Hp} {Lv : Addr → Prop} {m : List Addr} : ∀ {ks vs : List D} {vv : List V} {acc l : List (D × D)} {kvs : List (Key × V)}, dctOf ks vs acc = some l → RepL G H Lv m vs vv →
    (∀ p ∈ acc, isKey p.1 = true) → kvs.map (·.1) = acc.map (fun p => keyOf p.1) → RepL G H Lv m (acc.map (·.2)) (kvs.map (·.2)) →
    (∀ p ∈ l, isKey p.1 = true) ∧ (mergeK kvs ((ks.map keyOf).zip vv)).map (·.1) = l.map (fun p => keyOf p.1) ∧ RepL G H Lv m (l.map (·.2)) ((mergeK kvs ((ks.map keyOf).zip vv)).map (·.2))
  | [], [], vv, acc, l, kvs, e, r, h1, h2, h3 => by
    simp only [dctOf, Option.some.injEq] at e
    subst e
    exact ⟨h1, h2, h3⟩
  | [], _ :: _, _, _, _, _, e, _, _, _, _ => by simp [dctOf] at e
  | _ :: _, [], _, _, _, _, e, _, _, _, _ => by simp [dctOf] at e
  | k :: ks, v :: vs, vv, acc, l, kvs, e, r, h1, h2, h3 => by
    simp only [dctOf] at e
    split at e
    · rename_i hk
      cases r with
      | @cons _ y _ vv r1 r2 =>
        obtain ⟨p1, p2, p3⟩ := put_map hk h1 h2 h3 r1
        have := dctOf_rel (ks := ks) e r2 p1 p2 p3
        exact this
    · cases e
theorem zip_keys {H : L2.Hp} {Lv : Addr → Prop} {m : List Addr} : ∀ {ks : List D} {kv vv : List V}, (∀ k ∈ ks, isKey k = true) → RepL G H Lv m ks kv → kv.zip vv = ((ks.map keyOf).zip vv).map fun p => (kV p.1, p.2)
  | [], [], vv, _, _ => rfl
  | k :: ks, _, vv, hk, r => by
    cases r with
    | @cons _ x _ kv r1 r2 =>
      cases vv with
      | nil => rfl
      | cons y vv =>
        have e1 := key_val (hk k (by simp)) r1
        have e2 := zip_keys (vv := vv) (fun k h => hk k (by simp [h])) r2
        simp only [List.map_cons, List.zip_cons_cons, e1, e2]
theorem tDisp_at {m : List Addr} {h : Hs} {ρ : Env} {σ : L2.St} {H : L2.Hp} {Q : VK} {ks vs : List E} (st : Stt G m h ρ σ H) (hk : ks.all atB = true) (hv : vs.all atB = true) (hl : ks.length = vs.length) (h15 : ks.length ≤ 15) {P : D → Hs → Prop} {Z : Nat → List D → Hs → Prop}
    (ok : okR (evE C (.dct (EL.of ks) (EL.of vs)) ρ h) P Z)
    (q : ∀ l, P (.dct l) h → ∀ (p : Addr) (kvs : List (Key × V)), H p = none → (∀ x ∈ l, isKey x.1 = true) → kvs.map (·.1) = l.map (fun x => keyOf x.1) → RepL G H (Live G m h) m (l.map (·.2)) (kvs.map (·.2)) → Q (.ref p) (upd H p (.dK kvs))) : tDisp (trsA ks vs) σ H Q := by
  simp only [evE] at ok
  obtain ⟨kd, kv, ek, rk, lk, tk⟩ := at_evL (C := C) st hk (okR_then ok)
  rw [ek] at ok
  have ok : okR ((evL C (EL.of vs) ρ h).then _) _ _ := ok
  obtain ⟨vd, vv, ev, rv, lv, tv⟩ := at_evL (C := C) st hv (okR_then ok)
  rw [ev] at ok
  have ok : okR ((R.ofO (dctOf kd vd []) h).then fun l h => .ok (.dct l) h) P Z := ok
  obtain ⟨l, el, pl⟩ := okR_ofO (okR_then ok)
  intro p hp
  have hks := dctOf_keys el
  refine tPairs_at hl (by rw [← rk.length, lk]) (by rw [← rv.length, lv]) (fun j c v e1 e2 Q => tk j c v e1 e2 _ Q) (fun j c v e1 e2 Q => tv j c v e1 e2 _ Q) ⟨upd_same, (kd.map keyOf).zip vv, zip_keys hks rk, ?_, ?_⟩
  · simp only [List.length_zip, List.length_map]; omega
  · obtain ⟨p1, p2, p3⟩ := dctOf_rel (kvs := []) el rv (by simp) rfl .nil
    have := q l pl p _ hp p1 p2 p3
    have e : upd (upd H p (.dK [])) p (.dK (mergeK [] ((kd.map keyOf).zip vv))) = upd H p (.dK (mergeK [] ((kd.map keyOf).zip vv))) := by
      funext b
      by_cases z : b = p
      · subst z; rw [upd_same, upd_same]
      · rw [upd_ne z, upd_ne z, upd_ne z]
    rw [e]
    exact this
theorem se_dct {keys : List (Option Expr)} {values : List Expr} {ks vs : List E} (hp : PPs X pos keys values (trsA ks vs)) (hall : keys.all (·.isSome) = true) (hle : keys.length = values.length) (h0 : keys ≠ []) (hk : ks.all atB = true) (hv : vs.all atB = true) (hl : ks.length = vs.length) (he : ks.length = keys.length) (h15 : ks.length ≤ 15) :
    SE X G C W (.Dict keys values pos) (.dct (EL.of ks) (EL.of vs)) :=
  .plain (pe_of (pe_disp hp hall hle h0 (by omega)) fun σ H Q ⟨m, h, ρ, st, ok⟩ => tDisp_at st hk hv hl h15 ok fun l q p kvs hp h1 h2 h3 =>
    q m (.ref p) _ (Ext.new st.rel hp) (st.rel.new hp) (.dct (.inl upd_same) (fun z => st.rel.ne z hp) h1 h2 (h3.mono (Ext.new st.rel hp)))) rfl
theorem se_dct0 : SE X G C W (.Dict [] [] pos) (.dct .nil .nil) :=
  .plain (pe_of pe_dnewK fun σ H Q ⟨m, h, ρ, st, ok⟩ p hp => by
    have q : ∀ m' v H', Ext G m h H m' h H' → HRel G m' h H' → Rep G H' (Live G m' h) m' (.dct []) v → Q v H' := by simpa only [evE, evL, R.then, dctOf, R.ofO, okR] using ok
    exact q m (.ref p) _ (Ext.new st.rel hp) (st.rel.new hp) (.dct (.inl upd_same) (fun z => st.rel.ne z hp) (by simp) rfl .nil)) rfl
theorem cell_new {m : List Addr} {h : Hs} {H : L2.Hp} {p : Addr} {l : List (D × D)} {kvs : List (Key × V)} (r : HRel G m h H) (hp : H p = none) (h1 : ∀ x ∈ l, isKey x.1 = true) (h2 : kvs.map (·.1) = l.map (fun x => keyOf x.1)) (h3 : RepL G H (Live G m h) m (l.map (·.2)) (kvs.map (·.2))) :
    Ext G m h H (m ++ [p]) (h ++ [.dct l]) (upd H p (.dK kvs)) ∧ HRel G (m ++ [p]) (h ++ [.dct l]) (upd H p (.dK kvs)) ∧ Rep G (upd H p (.dK kvs)) (Live G (m ++ [p]) (h ++ [.dct l])) (m ++ [p]) (.ref h.length) (.ref p) := by
  have xx : Ext G m h H (m ++ [p]) (h ++ [.dct l]) (upd H p (.dK kvs)) := Ext.cell r hp
  refine ⟨xx, HRel.snoc r hp ⟨kvs, upd_same, h1, h2, h3.mono xx⟩, .ref ?_⟩
  rw [← r.len]
  simp
theorem se_boxD {keys : List (Option Expr)} {values : List Expr} {ks vs : List E} (hp : PPs X pos keys values (trsA ks vs)) (hall : keys.all (·.isSome) = true) (hle : keys.length = values.length) (h0 : keys ≠ []) (hk : ks.all atB = true) (hv : vs.all atB = true) (hl : ks.length = vs.length) (he : ks.length = keys.length) (h15 : ks.length ≤ 15) :
    SE X G C W (.Dict keys values pos) (.box (.dct (EL.of ks) (EL.of vs))) :=
  .plain (pe_of (pe_disp hp hall hle h0 (by omega)) fun σ H Q ⟨m, h, ρ, st, ok⟩ => by
    rw [evE] at ok
    exact tDisp_at st hk hv hl h15 (okR_then ok) fun l q p kvs hp h1 h2 h3 => by
      have q : ∀ m' v H', Ext G m h H m' (h ++ [.dct l]) H' → HRel G m' (h ++ [.dct l]) H' → Rep G H' (Live G m' (h ++ [.dct l])) m' (.ref h.length) v → Q v H' := q
      obtain ⟨x1, x2, x3⟩ := cell_new st.rel hp h1 h2 h3
      exact q _ _ _ x1 x2 x3) rfl
theorem se_boxD0 : SE X G C W (.Dict [] [] pos) (.box (.dct .nil .nil)) :=
  .plain (pe_of pe_dnewK fun σ H Q ⟨m, h, ρ, st, ok⟩ p hp => by
    have q : ∀ m' v H', Ext G m h H m' (h ++ [.dct []]) H' → HRel G m' (h ++ [.dct []]) H' → Rep G H' (Live G m' (h ++ [.dct []])) m' (.ref h.length) v → Q v H' := by simpa only [evE, evL, R.then, dctOf, R.ofO, okR, boxed, if_true] using ok
    obtain ⟨x1, x2, x3⟩ := cell_new (l := []) (kvs := []) st.rel hp (by simp) rfl .nil
    exact q _ _ _ x1 x2 x3) rfl
end
end PV
set_option Elab.async false
set_option autoImplicit false
set_option maxRecDepth 100000
set_option maxHeartbeats 1000000
namespace PV
open PySem PySem.Spec PyProof.Rows L2
theorem csLt_eq : ∀ a b : Cs, csLt a b = ltCps a b
  | [], [] => rfl
  | [], _ :: _ => rfl
  | _ :: _, [] => rfl
  | a :: r, b :: s => by
    simp only [csLt, ltCps, csLt_eq r s]
/-- a is no greater -/
def csLe (a b : Cs) : Prop := csLt b a = false
theorem csLt_tot : ∀ a b : Cs, csLt a b = false → csLt b a = false → a = b
  | [], [], _, _ => rfl
  | [], _ :: _, h, _ => by simp [csLt] at h
  | _ :: _, [], _, h => by simp [csLt] at h
  | a :: r, b :: s, h1, h2 => by
    simp only [csLt, Bool.or_eq_false_iff, decide_eq_false_iff_not, Bool.and_eq_false_iff, beq_eq_false_iff_ne] at h1 h2
    have e : a = b := by omega
    subst e
    have := csLt_tot r s (by rcases h1.2 with h | h; exact absurd rfl h; exact h) (by rcases h2.2 with h | h; exact absurd rfl h; exact h)
    rw [this]
theorem csLe_trans : ∀ a b c : Cs, csLe a b → csLe b c → csLe a c
  | [], _, [], _, _ => rfl
  | [], _, _ :: _, _, _ => rfl
  | _ :: _, [], _, h, _ => by simp [csLe, csLt] at h
  | _ :: _, _ :: _, [], _, h => by simp [csLe, csLt] at h
  | a :: r, b :: s, c :: t, h1, h2 => by
    simp only [csLe, csLt, Bool.or_eq_false_iff, decide_eq_false_iff_not, Bool.and_eq_false_iff, beq_eq_false_iff_ne] at h1 h2 ⊢
    refine ⟨by omega, ?_⟩
    by_cases e : c = a
    · subst e
      have e1 : b = c := by omega
      subst e1
      refine .inr (csLe_trans r s t ?_ ?_)
      · rcases h1.2 with h | h; exact absurd rfl h; exact h
      · rcases h2.2 with h | h; exact absurd rfl h; exact h
    · exact .inl e
theorem csLe_refl : ∀ a : Cs, csLe a a
  | [] => rfl
  | a :: r => by
    have := csLe_refl r
    simp only [csLe, csLt] at this ⊢
    simp [this]
theorem csLe_of_lt {a b : Cs} (h : csLt a b = true) : csLe a b := by
  cases e : csLt b a with
  | false => exact e
  | true =>
    have : ∀ a b : Cs, csLt a b = true → csLt b a = true → False := by
      intro a
      induction a with
      | nil => intro b _ h; cases b <;> simp [csLt] at h
      | cons x a ih =>
        intro b h1 h2
        cases b with
        | nil => simp [csLt] at h1
        | cons y b =>
          simp only [csLt, Bool.or_eq_true, decide_eq_true_eq, Bool.and_eq_true, beq_iff_eq] at h1 h2
          rcases h1 with h1 | h1 <;> rcases h2 with h2 | h2
          · omega
          · omega
          · omega
          · exact ih b h1.2 h2.2
    exact (this a b h e).elim
theorem insC_perm (x : Cs) : ∀ l : List Cs, (insC x l).Perm (x :: l)
  | [] => .refl _
  | y :: r => by
    unfold insC
    split
    · exact .refl _
    · exact ((insC_perm x r).cons y).trans (.swap x y r)
theorem sortC_perm : ∀ l : List Cs, (sortC l).Perm l
  | [] => .refl _
  | x :: r => (insC_perm x _).trans ((sortC_perm r).cons x)
theorem insC_le (x : Cs) : ∀ l : List Cs, l.Pairwise csLe → (insC x l).Pairwise csLe
  | [], _ => by simp [insC]
  | y :: r, h => by
    have h1 := (List.pairwise_cons.mp h).1
    have h2 := (List.pairwise_cons.mp h).2
    unfold insC
    split
    · rename_i hlt
      refine List.pairwise_cons.mpr ⟨fun z hz => ?_, h⟩
      have := csLe_of_lt hlt
      rcases List.mem_cons.mp hz with rfl | hz
      · exact this
      · exact csLe_trans _ _ _ this (h1 z hz)
    · rename_i hlt
      refine List.pairwise_cons.mpr ⟨fun z hz => ?_, insC_le x r h2⟩
      rcases List.mem_cons.mp ((insC_perm x r).mem_iff.mp hz) with rfl | hz
      · simpa [csLe] using hlt
      · exact h1 z hz
theorem sortC_le : ∀ l : List Cs, (sortC l).Pairwise csLe
  | [] => .nil
  | x :: r => insC_le x _ (sortC_le r)
theorem sorted_uniq : ∀ {l k : List Cs}, l.Pairwise csLe → k.Pairwise csLe → l.Perm k → l = k
  | [], k, _, _, p => by simpa using p.symm
  | x :: l, [], _, _, p => by simp at p
  | x :: l, y :: k, h1, h2, p => by
    have a1 := List.pairwise_cons.mp h1
    have a2 := List.pairwise_cons.mp h2
    have e : x = y := by
      have m1 : x ∈ y :: k := p.mem_iff.mp (by simp)
      have m2 : y ∈ x :: l := p.mem_iff.mpr (by simp)
      rcases List.mem_cons.mp m1 with e | m1
      · exact e
      · rcases List.mem_cons.mp m2 with e | m2
        · exact e.symm
        · exact csLt_tot _ _ (a2.1 x m1) (a1.1 y m2)
    subst e
    rw [sorted_uniq a1.2 a2.2 (List.perm_cons _ |>.mp p)]
theorem rising_pw : ∀ (p : Str) (l : List Str), risingS p l = true → (p :: l).Pairwise (fun a b => csLe a.cps.toList b.cps.toList)
  | p, [], _ => by simp
  | p, x :: r, h => by
    simp only [risingS, Bool.and_eq_true, Bool.not_eq_true'] at h
    have ih := rising_pw x r h.2
    have hx : csLe p.cps.toList x.cps.toList := by unfold csLe; rw [csLt_eq]; exact h.1
    refine List.pairwise_cons.mpr ⟨fun z hz => ?_, ih⟩
    rcases List.mem_cons.mp hz with rfl | hz
    · exact hx
    · exact csLe_trans _ _ _ hx ((List.pairwise_cons.mp ih).1 z hz)
theorem sortedS_pw {l : List Str} (h : sortedS l = true) : (l.map fun s => s.cps.toList).Pairwise csLe := by
  cases l with
  | nil => simp
  | cons x r => rw [List.pairwise_map]; exact rising_pw x r h
theorem sorted_is {ys : List Str} {bs : List Cs} (p : ys.Perm (bs.map str)) (h : sortedS ys = true) : ys = (sortC bs).map str := by
  have e : ys.map (fun s => s.cps.toList) = sortC bs := by
    refine sorted_uniq (sortedS_pw h) (sortC_le bs) ?_
    have p2 := p.map (fun s : Str => s.cps.toList)
    have e2 : (bs.map str).map (fun s : Str => s.cps.toList) = bs := by
      rw [List.map_map]
      have : (fun s : Str => s.cps.toList) ∘ str = id := by funext z; simp [str]
      rw [this, List.map_id]
    rw [e2] at p2
    exact p2.trans (sortC_perm bs).symm
  rw [← e, List.map_map]
  have : str ∘ (fun s : Str => s.cps.toList) = id := by funext z; exact str_toList z
  rw [this, List.map_id]
section
variable {X : Cx} {G : Gx} {C : Cl} {W : WX}
def rSortedX (K : PySem.W.Frag) : List V → L2.Hp → VK → Prop := fun vs H Q => (∃ (a : Addr) (kvs : List (Key × V)) (ks : List Str), vs = [.ref a] ∧ Rd H a (.dK kvs) ∧ kvs.map (·.1) = ks.map Sum.inr ∧ ks.length < 64 ∧
    ∀ ys p, ys.Perm ks → sortedS ys = true → H p = none → Q (.ref p) (upd H p (.lst (ys.map V.str)))) ∨ rSortedS K vs H Q
theorem call_sortedX (hc : X.calm = true) : CallR X (.builtin "sorted") (rSortedX X.K) := fun pins s σ H xs us Q I r q => by
  rcases q with q | q
  · exact call_sortedD hc pins s σ H xs us Q I r q
  · exact cr_sortedS pins s σ H xs us Q I r q
theorem new_strs {m : List Addr} {h : Hs} {H : L2.Hp} {p : Addr} {bs : List Cs} (r : HRel G m h H) (hp : H p = none) : Ext G m h H m h (upd H p (.lst ((bs.map str).map V.str))) ∧ HRel G m h (upd H p (.lst ((bs.map str).map V.str))) ∧ Rep G (upd H p (.lst ((bs.map str).map V.str))) (Live G m h) m (.lst (bs.map .str)) (.ref p) := by
  refine ⟨Ext.new r hp, r.new hp, .lst (.inl upd_same) (fun z => r.ne z hp) ?_⟩
  have : ∀ {H : L2.Hp} {Lv : Addr → Prop} (bs : List Cs), RepL G H Lv m (bs.map .str) ((bs.map str).map V.str) := fun bs => by
    induction bs with
    | nil => exact .nil
    | cons b bs ih => exact .cons (.str b) ih
  exact this bs
theorem allStr_keys : ∀ {l : List (D × D)} {bs : List Cs}, allStr (l.map (·.1)) = some bs → l.map (fun p => keyOf p.1) = (bs.map str).map Sum.inr
  | [], bs, e => by simp [allStr] at e; subst e; rfl
  | (k, v) :: l, bs, e => by
    cases k with
    | str x =>
      simp only [List.map_cons, allStr] at e
      obtain ⟨b2, e1, rfl⟩ := Option.map_eq_some_iff.mp e
      show Sum.inr (str x) :: l.map (fun p => keyOf p.1) = _
      rw [allStr_keys e1]
      rfl
    | _ => simp [allStr] at e
theorem allStr_len : ∀ {l : List D} {bs : List Cs}, allStr l = some bs → bs.length = l.length
  | [], bs, e => by simp [allStr] at e; subst e; rfl
  | x :: l, bs, e => by
    cases x with
    | str x =>
      simp only [allStr] at e
      obtain ⟨b2, e1, rfl⟩ := Option.map_eq_some_iff.mp e
      simp [allStr_len e1]
    | _ => simp [allStr] at e
theorem cal_sorted : Cal G C .sorted (rSortedX G.K) := by
  intro m h H ds vs d Q r sz rl e q
  obtain ⟨x, rfl⟩ := blt_one (b := .sorted) (fun l hl => by
    match l with
    | [] => rfl
    | [_] => simp at hl
    | _ :: _ :: _ => rfl) e
  obtain ⟨v, rfl, rx⟩ := rl.one
  have px := see r rx
  simp only [blt] at e
  generalize vw h x = y at px e
  cases px with
  | @lst l vs p s1 l1 =>
    simp only at e
    split at e
    · rename_i h64
      obtain ⟨bs, e1, e2⟩ := Option.map_eq_some_iff.mp e
      subst e2
      have ev := rep_strs l1 e1
      subst ev
      refine .inr ⟨p, bs.map str, rfl, s1.sq, by rw [List.length_map, allStr_len e1]; simpa using h64, fun ys p hp hs hn => ?_⟩
      rw [sorted_is hp hs]
      obtain ⟨n1, n2, n3⟩ := new_strs (bs := sortC bs) r hn
      exact q m _ _ n1 n2 n3
    · cases e
  | @dct l kvs p s1 k1 k2 l1 =>
    simp only at e
    split at e
    · rename_i h64
      obtain ⟨bs, e1, e2⟩ := Option.map_eq_some_iff.mp e
      subst e2
      refine .inl ⟨p, kvs, bs.map str, rfl, s1, by rw [k2]; exact allStr_keys e1, by rw [List.length_map, allStr_len e1, List.length_map]; simpa using h64, fun ys p hp hs hn => ?_⟩
      rw [sorted_is hp hs]
      obtain ⟨n1, n2, n3⟩ := new_strs (bs := sortC bs) r hn
      exact q m _ _ n1 n2 n3
    · cases e
  | _ => cases e
end
end PV
set_option Elab.async false
set_option autoImplicit false
set_option maxRecDepth 100000
set_option maxHeartbeats 1000000
namespace PV
open PySem PySem.Spec PyProof.Rows L2
section
variable {prog : Program} {w : World} {A : Around} {E : Value → Shared → Prop} {s : Shared}
theorem rev_adjust (n : Nat) : Builtin.Slice.sliceAdjust none none (-1) (n : Int) = ((n : Int) - 1, -1) := by
  unfold Builtin.Slice.sliceAdjust
  simp
theorem rev_places (n : Nat) : Builtin.Slice.slicePlaces ((n : Int) - 1) (-1) (-1) = n := by
  unfold Builtin.Slice.slicePlaces
  have h1 : ¬ ((-1 : Int) > 0) := by decide
  simp only [h1, if_false]
  have e : (-(-1 : Int)) = 1 := by decide
  rw [e, Int.ediv_one]
  split <;> omega
theorem rev_applied {sl : Addr} {vs : Value} {n : Nat} {Q : Int × Int × Nat → Shared → Prop} (hs : s.heap.IsSliceOf sl .none .none vs) (ps : IsPart vs (some (-1)))
    (h : Q ((n : Int) - 1, -1, n) s) : wpAny (model prog w) A (Builtin.Slice.sliceApplied (.ref sl) (pure (n : Int))) Q E s := by
  obtain ⟨os, hos, hcs, hds⟩ := id hs
  unfold Builtin.Slice.sliceApplied Builtin.Slice.sliceFields
  refine wpAny_bind (wpAny_bind (wpAny_field hos hds (x := .none) rfl (wpAny_bind (wpAny_field hos hds (x := .none) rfl (wpAny_bind (wpAny_field hos hds (x := vs) rfl (wpAny_pure ?_)))))))
  refine wpAny_bind (HT.slicePart_ ps ?_)
  show wpAny _ _ (if ((-1 : Int) == 0) = true then _ else _) _ _ s
  rw [if_neg (by decide)]
  refine wpAny_bind (slicePart_none (wpAny_bind (slicePart_none (wpAny_bind (wpAny_pure ?_)))))
  show wpAny _ _ (match Builtin.Slice.sliceAdjust none none (-1) (n : Int) with | (lo, hi) => pure (lo, (-1 : Int), Builtin.Slice.slicePlaces lo hi (-1))) _ _ s
  rw [rev_adjust n]
  show wpAny _ _ (pure ((n : Int) - 1, (-1 : Int), Builtin.Slice.slicePlaces ((n : Int) - 1) (-1) (-1))) _ _ s
  rw [rev_places]
  exact wpAny_pure h
theorem fm_congr {α β : Type} {f g : α → Option β} : ∀ {l : List α}, (∀ x ∈ l, f x = g x) → l.filterMap f = l.filterMap g
  | [], _ => rfl
  | x :: l, h => by
    rw [List.filterMap_cons, List.filterMap_cons, h x (by simp), fm_congr (l := l) fun y hy => h y (by simp [hy])]
theorem rev_pick (xs : Array Value) : ((List.range xs.size).filterMap fun (m : Nat) => xs[(((xs.size : Int) - 1) + (m : Int) * (-1)).toNat]?).toArray = xs.toList.reverse.toArray := by
  have e : (List.range xs.size).filterMap (fun (m : Nat) => xs[(((xs.size : Int) - 1) + (m : Int) * (-1)).toNat]?) = ((List.range xs.size).map fun k => xs.size - 1 - k).filterMap (xs[·]?) := by
    rw [List.filterMap_map]
    refine fm_congr fun k hk => ?_
    have := List.mem_range.mp hk
    have e2 : (((xs.size : Int) - 1) + (k : Int) * (-1)).toNat = xs.size - 1 - k := by omega
    show xs[_]? = xs[_]?
    rw [e2]
  rw [e, PySem.W.krv_range, List.filterMap_reverse, PySem.W.krv_all]
theorem getItem_tuple_rev {t sl : Addr} {items : Array Value} {vs : Value} {Q : Value → Shared → Prop} (ht : IsTup s.heap t items) (hs : s.heap.IsSliceOf sl .none .none vs) (ps : IsPart vs (some (-1)))
    (h : Q (.ref s.heap.objs.size) { s with heap := s.heap.push { cls := .type "tuple", data := .seq items.toList.reverse.toArray } })
    (hsz : items.size ≤ sizeLine) : wpAny (model prog w) A (getItem (.ref t) (.ref sl)) Q E s := by
  have htake : sizeOk (.seq items.toList.reverse.toArray) := by
    show items.toList.reverse.toArray.size ≤ sizeLine
    rw [List.size_toArray, List.length_reverse, Array.length_toList]
    exact hsz
  obtain ⟨os, hos, hcs, hds⟩ := id hs
  have hTs : s.TypeIs (.ref sl) "slice" := ⟨os, hos, hcs⟩
  unfold getItem
  try with_reducible refine wpAny_holding ?_
  first | refine wpAny_bind (wpAny_pure ?_) | skip
  refine wpAny_bind (wpAny_sequenceKey ht.typeIs (by decide) ?_)
  refine wpAny_bind (wpAny_callSpecial?_slot (name := Str.ofString "__getitem__") ht.typeIs PyProof.Rows.slot_tuple_getitem
    (wpAny_call_entry PyProof.Rows.slot_tuple_getitem ht.typeIs entry_tuple_getitem ?_ (args_tuple_getitem _ _)))
  show wpAny _ _ (Builtin.Tuple.tupleItemsOf (.ref t) >>= _) _ _ s
  refine wpAny_bind (tupleItemsOf_ ht ?_)
  refine wpAny_bind (wpAny_typeOf hTs ?_)
  rw [if_pos (by decide)]
  refine wpAny_bind (rev_applied hs ps ?_)
  have hno : ¬ ((((items.size : Int) - 1) == 0 && (-1 : Int) == 1 && items.size == items.size) = true) := by simp
  show wpAny _ _ (if ((((items.size : Int) - 1) == 0 && (-1 : Int) == 1 && items.size == items.size) = true) then _ else _) _ _ s
  rw [if_neg hno, rev_pick]
  first
    | exact wpAny_bind (m := Builtin.Tuple.tupleExact _) (wpAny_newObj_type (wpAny_pure ⟨_, rfl, wpAny_pure h⟩) htake)
    | exact wpAny_bind (m := Builtin.Tuple.tupleExact _) (wpAny_newObj_type (wpAny_bind (wpAny_pure (wpAny_pure ⟨_, rfl, wpAny_pure h⟩))) htake)
    | exact wpAny_bind (wpAny_bind (m := Builtin.Tuple.tupleExact _) (wpAny_newObj_type (wpAny_pure (wpAny_pure ⟨_, rfl, wpAny_pure h⟩)) htake))
    | exact wpAny_bind (wpAny_bind (m := Builtin.Tuple.tupleExact _) (wpAny_newObj_type (wpAny_pure ⟨_, rfl, wpAny_pure h⟩) htake))
end
section
variable {X : Cx}
/-- xs[::-1] of a list or a tuple -/
def tRevS (K : PySem.W.Frag) (te : TE) : TE := fun σ H Q => te σ H fun x H1 => (∃ a xs, x = .ref a ∧ SqL K H1 a xs ∧ ∀ p, H1 p = none → Q (.ref p) (upd H1 p (.lst xs.reverse))) ∨
  (∃ a xs, x = .ref a ∧ SqT K H1 a xs ∧ ∀ p, H1 p = none → Q (.ref p) (upd H1 p (.tup xs.reverse)))
theorem pe_revS {e : Expr} {te : TE} {k : Nat} {p1 p2 p3 pos : Pos} (he : PE X e te) : PE X (.Subscript e (.Slice none none (some (.UnaryOp .USub (.Constant (.int 1) k p1) p2)) p3) pos) (tRevS X.K te) := by
  refine ⟨fun pins s σ H Q I h => ?_⟩
  refine Subscript_ (thn (he.run pins s σ H _ I h) fun v s1 ⟨x, H1, I1, r1, q1⟩ => ?_)
  have hst : PO X (some (.UnaryOp .USub (.Constant (.int 1) k p1) p2)) (tPart (tUn (rU fun i => .int (-i)) (tC (.int 1)))) := po_some (pe_un un_neg pe_int)
  refine wpAny_Slice (thn (po_none.run pins s1 σ H1 (fun o H2 => o = none ∧ H2 = H1) I1 ⟨rfl, rfl⟩) fun vl s2 ⟨l, H2, I2, pl, el, e2⟩ => ?_)
  subst el e2
  refine thn (po_none.run pins s2 σ H2 (fun o H3 => o = none ∧ H3 = H2) I2 ⟨rfl, rfl⟩) fun vu s3 ⟨u, H3, I3, pu, eu, e3⟩ => ?_
  subst eu e3
  refine thn (hst.run pins s3 σ H3 (fun o H4 => o = some (-1) ∧ H4 = H3) I3 ⟨1, rfl, -1, rfl, rfl, rfl⟩) fun vs s4 ⟨o, H4, I4, ps, eo, e4⟩ => ?_
  subst eo e4
  have I5 : Inv X pins σ H4 { s4 with heap := s4.heap.push { cls := .type "slice", data := .fields #[vl, vu, vs] } } := I4.kept (t' := s4.toks) fun b ob q => Heap.get?_push_of_some _ q
  rcases q1 with ⟨a, xs, ex, hx, q⟩ | ⟨a, xs, ex, hx, q⟩
  · subst ex
    cases r1
    obtain ⟨its, r, ht, hz⟩ := I5.list hx
    have hlen := r.length
    show wpAny (model X.prog X.w) X.A (subscriptTail e (.Slice none none (some (.UnaryOp .USub (.Constant (.int 1) k p1) p2)) p3) (.ref a) (.ref s4.heap.objs.size)) (EP X pins σ Q) X.xe { s4 with heap := s4.heap.push { cls := .type "slice", data := .fields #[vl, vu, vs] } }
    refine tail_any (ops := [.ref a, .ref s4.heap.objs.size]) ht.isList.typeIs (PySem.slot_list_getitem.lookup) ?_ (by with_unfolding_all rfl)
    refine wpAny_getItem_list_slice ht.isList (Heap.IsSliceOf.new _ vl vu vs) pl pu ps (by decide) ?_ (by rw [List.size_toArray]; omega)
    rw [PySem.W.krv_pick]
    refine ⟨.ref _, _, I5.laid (t' := s4.toks) (o := .lst xs.reverse) (fun b ob q => Heap.get?_push_of_some _ q) (Nat.le_refl _) ?_, rfl, q _ (I5.hok.fresh (Nat.le_refl _))⟩
    exact ⟨by rw [List.length_reverse]; exact hz, _, 0, r.reverse, Heap.get?_push_size _ rfl⟩
  · subst ex
    cases r1
    cases pl
    cases pu
    obtain ⟨its, r, ht, hz⟩ := I5.tuple hx
    have hlen := r.length
    show wpAny (model X.prog X.w) X.A (subscriptTail e (.Slice none none (some (.UnaryOp .USub (.Constant (.int 1) k p1) p2)) p3) (.ref a) (.ref s4.heap.objs.size)) (EP X pins σ Q) X.xe { s4 with heap := s4.heap.push { cls := .type "slice", data := .fields #[.none, .none, vs] } }
    refine tail_any (ops := [.ref a, .ref s4.heap.objs.size]) ht.typeIs (PyProof.Rows.slot_tuple_getitem.lookup) ?_ (by with_unfolding_all rfl)
    refine getItem_tuple_rev ht (Heap.IsSliceOf.new _ _ _ vs) ps ?_ (by rw [List.size_toArray]; omega)
    refine ⟨.ref _, _, I5.laid (t' := s4.toks) (o := .tup xs.reverse) (fun b ob q => Heap.get?_push_of_some _ q) (Nat.le_refl _) ?_, rfl, q _ (I5.hok.fresh (Nat.le_refl _))⟩
    exact ⟨by rw [List.length_reverse]; exact hz, _, r.reverse, IsTup.new _ _⟩
end
section
variable {X : Cx} {G : Gx} {C : Cl} {W : WX} {pos p apos : Pos}
theorem se_rev {a : Expr} {ea : E} {k : Nat} {p1 p2 p3 : Pos} (hK : X.K = G.K) (ha : SE X G C W a ea) : SE X G C W (.Subscript a (.Slice none none (some (.UnaryOp .USub (.Constant (.int 1) k p1) p2)) p3) pos) (.rev ea) := by
  refine .plain (pe_of (pe_revS ha.pe) fun σ H Q ⟨m, h, ρ, st, ok⟩ => ?_) rfl
  simp only [evE] at ok
  refine tE_step st ok fun dx h1 m1 x H1 x1 r1 p1 st1 ok1 => ?_
  obtain ⟨d, e, q⟩ := okR_ofO ok1
  have sn := see r1 p1
  generalize vw h1 dx = dd at sn e
  cases sn with
  | @lst l vs b s1 l1 =>
    cases e
    refine .inl ⟨b, vs, rfl, by rw [hK]; exact s1.sq, fun p2 hp => ?_⟩
    obtain ⟨n1, n2, n3⟩ := new_lst x1 r1 hp l1.rev
    exact q m1 _ _ n1 n2 n3
  | @tup l vs b s1 l1 =>
    cases e
    refine .inr ⟨b, vs, rfl, by rw [hK]; exact s1, fun p2 hp => ?_⟩
    obtain ⟨n1, n2, n3⟩ := new_tup x1 r1 hp l1.rev
    exact q m1 _ _ n1 n2 n3
  | _ => cases e
theorem okR_lst {ρ : Env} {l : EL} {h : Hs} {P : D → Hs → Prop} {Z : Nat → List D → Hs → Prop} (ok : okR (evE C (.lst l) ρ h) P Z) : okR (evE C (.lst l) ρ h) (fun d h' => (∃ xs, d = .lst xs) ∧ P d h') Z := by
  simp only [evE] at ok ⊢
  cases e : evL C l ρ h with
  | bad => rw [e] at ok; exact ok.elim
  | ex c k h1 => rw [e] at ok; exact ok
  | ok x h1 => rw [e] at ok; exact ⟨⟨_, rfl⟩, ok⟩
theorem ixC_some : ∀ {l : List Cs} {s : Cs} {j : Nat}, ixC l s = some j → l[j]? = some s ∧ ∀ m z, m < j → l[m]? = some z → z ≠ s
  | [], _, _, h => by cases h
  | y :: r, s, j, h => by
    unfold ixC at h
    split at h
    · cases h
      exact ⟨by simp [*], fun m z hm => absurd hm (Nat.not_lt_zero _)⟩
    · obtain ⟨i, h1, rfl⟩ := Option.map_eq_some_iff.mp h
      obtain ⟨a, b⟩ := ixC_some h1
      refine ⟨by simpa using a, fun m z hm hz => ?_⟩
      cases m with
      | zero => simp at hz; subst hz; assumption
      | succ m => exact b m z (by omega) (by simpa using hz)
theorem se_index {es : List Expr} {lp : Pos} {l : EL} {e : Expr} {ce : E} (hK : X.K = G.K) (ho : SE X G C W (.List es lp) (.lst l)) (he : SE X G C W e ce) (hs : starred e = false) (hl : (apos.endLine == pos.line) = true) :
    SE X G C W (.Call (.Attribute (.List es lp) "index" apos) [e] [] pos) (.blt .index (.cons (.lst l) (.cons ce .nil))) := by
  refine .plain (pe_of (pe_bm PySem.F.plainAttrs_list PySem.F.slot_list_index PySem.F.type_list_index mt_index ho.pe (sa_cons he sa_nil hs).pa rfl (few1 hs) hl (starEach_cons hs) back1) fun σ H Q ⟨m, h, ρ, st, ok⟩ => ?_) rfl
  rw [show evE C (.blt .index (.cons (.lst l) (.cons ce .nil))) ρ h = (((evE C (.lst l) ρ h).then fun x h => (evL C (.cons ce .nil) ρ h).then fun r h => R.ok (x :: r) h).then fun l h => R.ofO (PV.blt C.bd h .index l) h) by conv => lhs; unfold evE evL] at ok
  refine ⟨m, h, ρ, st, okR_mono (okR_lst (okR_then (okR_then ok))) (fun d h1 qq m1 v H1 x1 r1 p1 => ?_) fun _ _ _ q => q⟩
  obtain ⟨⟨xs, rfl⟩, ok1⟩ := qq
  have sn := see r1 p1
  have evw : vw h1 (.lst xs) = .lst xs := rfl
  rw [evw] at sn
  cases sn with
  | @lst _ vs a s1 l1 =>
  refine ⟨.inl ⟨rfl, vs, by rw [hK]; exact s1.sq⟩, ?_⟩
  refine tL_step (m := m1) (h := h1) (H := H1) (st.later x1 r1) (okX_later x1 ok1 fun _ _ q => q) fun ds h2 m2 us H2 x2 r2 p2 st2 ok2 => ?_
  obtain ⟨d, ed, q⟩ := okR_ofO (okR_then (f := fun l h => R.ofO (PV.blt C.bd h .index l) h) (r := R.ok (D.lst xs :: ds) h2) ok2)
  have sn2 := see r2 (p1.mono x2)
  rw [show vw h2 (D.lst xs) = D.lst xs from rfl] at sn2
  match ds, us, p2, ed with
  | [.str c], [u], .cons pu .nil, ed =>
    cases pu
    have ed : (allStr xs).bind (fun l => (ixC l c).map fun j => D.int (j : Nat)) = some d := ed
    obtain ⟨bs, hb, ed⟩ := Option.bind_eq_some_iff.mp ed
    obtain ⟨j, hj, rfl⟩ := Option.map_eq_some_iff.mp ed
    obtain ⟨g1, g2⟩ := ixC_some hj
    cases sn2 with
    | @lst _ vs2 _ s2 l2 =>
    have ev := rep_strs l2 hb
    subst ev
    refine ⟨a, _, _, j, V.str (str c), rfl, rfl, by rw [hK]; exact s2.sq, rfl, ?_, ?_, by simp [eqV], ?_, q m2 _ H2 (x1.trans x2) r2 (.int _)⟩
    · rw [List.all_eq_true]
      intro z hz
      obtain ⟨y, _, rfl⟩ := List.mem_map.mp hz
      rfl
    · rw [List.getElem?_map, List.getElem?_map, g1]
      rfl
    · intro m' z hm hz
      rw [List.getElem?_map, List.getElem?_map] at hz
      obtain ⟨y, hy, rfl⟩ := Option.map_eq_some_iff.mp hz
      obtain ⟨y2, hy2, rfl⟩ := Option.map_eq_some_iff.mp hy
      have := g2 m' y2 hm hy2
      show (str y2 == str c) = false
      rw [beq_eq_false_iff_ne]
      intro ee
      exact this (by have := congrArg (fun z : Str => z.cps.toList) ee; simpa [str] using this)
  | [.non], [_], _, ed | [.bl _], [_], _, ed | [.int _], [_], _, ed | [.tup _], [_], _, ed | [.lst _], [_], _, ed | [.dct _], [_], _, ed | [.ins _ _], [_], _, ed | [.exc _ _], [_], _, ed | [.ref _], [_], _, ed | [.fn _], [_], _, ed | [.clo _ _], [_], _, ed => simp [PV.blt] at ed
  | [], [], _, ed => simp [PV.blt] at ed
  | _ :: _ :: _, _ :: _ :: _, _, ed => simp [PV.blt] at ed
theorem se_boxAdd {a b : Expr} {ea eb : E} (hK : X.K = G.K) (ha : SE X G C W a ea) (hb : SE X G C W b eb) : SE X G C W (.BinOp a .Add b pos) (.box (.op .add ea eb)) :=
  .plain (pe_of (pe_op (opR_sized (r' := fun x y H Q => Sized H → rAddP X.K x y H Q) op_addP fun _ _ _ _ sz q => q sz) ha.pe hb.pe) fun σ H Q ⟨m, h, ρ, st, ok⟩ => by
    simp only [evE] at ok
    have ok := okR_then ok
    refine tE_step st ok fun dx h1 m1 x H1 x1 r1 p1 st1 ok1 => ?_
    refine tE_step (m := m1) (h := h1) (H := H1) st1 (okX_later x1 ok1 fun _ _ q => q) fun dy h2 m2 y H2 x2 r2 p2 st2 ok2 => ?_
    obtain ⟨d, e, q⟩ := okR_ofO ok2
    intro sz
    have px := see r2 (p1.mono x2)
    have py := see r2 p2
    generalize vw h2 dx = ddx at px e
    generalize vw h2 dy = ddy at py e
    cases px with
    | @lst a vs ad s1 l1 => cases py with
      | @lst b ws ad2 s2 l2 =>
        have e : (if okLen (a ++ b) = true then some (D.lst (a ++ b)) else none) = some d := e
        split at e
        · rename_i z
          cases e
          have z := okLen_le z
          have z : vs.length + ws.length ≤ sizeLine := by rw [← l1.length, ← l2.length]; simpa using z
          refine .inr (.inr (.inr ⟨ad, ad2, vs, ws, rfl, rfl, by rw [hK]; exact s1, by rw [hK]; exact s2, z, fun p3 hp => ?_⟩))
          have xx : Ext G m2 h2 H2 (m2 ++ [p3]) (h2 ++ [.lst (a ++ b)]) (upd H2 p3 (.lst (vs ++ ws))) := Ext.cell r2 hp
          refine q (m2 ++ [p3]) (.ref p3) _ ((x1.trans x2).trans xx) (HRel.snoc r2 hp ⟨vs ++ ws, upd_same, (l1.append l2).mono xx⟩) (.ref ?_)
          rw [← r2.len]
          simp
        · cases e
      | _ => cases e
    | int i => cases py with
      | int j => cases e; exact q.elim
      | _ => cases e
    | str a => cases py with
      | str b =>
        have e : (if okLen (a ++ b) = true then some (D.str (a ++ b)) else none) = some d := e
        split at e
        · cases e; exact q.elim
        · cases e
      | _ => cases e
    | tup _ _ => cases py with
      | tup _ _ =>
        have e : (if okLen (_ ++ _) = true then some (D.tup (_ ++ _)) else none) = some d := e
        split at e
        · cases e; exact q.elim
        · cases e
      | _ => cases e
    | _ => cases e) rfl
end
end PV
set_option Elab.async false
set_option autoImplicit false
set_option maxRecDepth 100000
set_option maxHeartbeats 2000000
namespace PV
open PySem PySem.Spec PyProof.Rows L2


section
variable {X : Cx} {pins : List (Addr × Obj)} {σ : L2.St} {H : L2.Hp} {s : Shared}
theorem unsuiteK {a : Addr} {q : Addr × Obj} {pn' : List (Addr × Obj)} (I : Inv (X.suite a (q :: (X.pn ++ pins))) pn' σ H s) (ok : X.Ok) : Inv X (q :: pins) σ H s :=
  ⟨ok, I.os, I.bare, I.base, I.loc, I.cell, I.free, I.freeC, fun p hp => I.pin p (List.mem_append_left _ (by
    rcases List.mem_append.mp hp with h | h
    · exact List.mem_cons_of_mem _ (List.mem_append_left _ h)
    · rcases List.mem_cons.mp h with h | h
      · rw [h]; exact List.mem_cons_self
      · exact List.mem_cons_of_mem _ (List.mem_append_right _ h))), I.hok, I.len⟩
/-- the exception that is pinned is one of ours -/
theorem adopt {a : Addr} {oe : Obj} {cls : Value} {d : Option Addr} (I : Inv X ((a, oe) :: pins) σ H s) (hz : Zc cls d oe) (hv : ∃ vs, oe.data = .fields vs)
    (h0 : ∀ o, X.s_0.heap.get? a = some o → a ∈ X.ex) (hp : ∀ p ∈ X.pn ++ pins, p.1 ≠ a) : Inv X pins σ (upd H a (ExV a cls d)) s := by
  obtain ⟨ha, na, nL, nF, nc⟩ := I.pin (a, oe) (List.mem_append_right _ List.mem_cons_self)
  simp only at ha na nL nF nc
  have ne : ∀ {b : Addr} {u : HO}, H b = some u → b ≠ a := fun {b u} e z => by rw [z, na] at e; cases e
  refine ⟨I.ok, I.os, I.bare, ⟨I.base.keep, I.base.slot, fun b o e n hx => ?_, I.base.there, fun b xs e => ?_, fun b o u e => ?_, fun b ps e => ?_⟩, I.loc, I.cell, ?_, fun x c e => ?_, fun p hq => ?_, fun b u e => ?_, I.len⟩
  · have hb : b ≠ a := fun z => by subst z; exact hx (h0 o e)
    rw [upd_ne hb]; exact I.base.free b o e n hx
  · have q := I.base.tups b xs e
    rw [upd_ne (ne q)]; exact q
  · have q := I.base.frzs b o u e
    rw [upd_ne (ne q)]; exact q
  · obtain ⟨more, q⟩ := I.base.tbls b ps e
    exact ⟨more, by rw [upd_ne (ne q)]; exact q⟩
  · rw [upd_ne (Ne.symm nL)]; exact I.free
  · have hc : c ≠ a := fun z => by
      obtain ⟨v, hcell⟩ := I.cell x c e
      subst z
      obtain ⟨o, ho, hd⟩ := hcell
      rw [ha] at ho
      cases ho
      exact nc v hd
    rw [upd_ne hc]; exact I.freeC x c e
  · have q : p ∈ X.pn ++ (a, oe) :: pins := by
      rcases List.mem_append.mp hq with h | h
      · exact List.mem_append_left _ h
      · exact List.mem_append_right _ (List.mem_cons_of_mem _ h)
    obtain ⟨q1, q2, q3⟩ := I.pin p q
    exact ⟨q1, by rw [upd_ne (hp p hq)]; exact q2, q3⟩
  · by_cases hb : b = a
    · subst hb
      rw [upd_same] at e
      cases e
      exact ⟨⟨oe, ha, hz, hv⟩, ⟨oe, ha⟩, fun h1 h2 ⟨oe', e1, e2, e3⟩ k => ⟨oe', k _ e1, e2, e3⟩⟩
    · rw [upd_ne hb] at e
      exact (I.hok b u e).stay (fun _ _ _ q => q) (fun c q => by rw [upd_ne (ne q)]; exact q) fun c xs q => by rw [upd_ne (ne q)]; exact q
end
/-- the clause 'except x as n', its exception kept -/
def wKeep (K : PySem.W.Frag) (c : Value) (i : Nat) (ts : Addr → Value → Option Addr → TS) (Wout : WX) (D : Ends) : WX := fun cls d σ H =>
  ∃ b, PySem.W.exmOne K cls c = some b ∧ (b = true → ∀ a, H a = none → ts a cls d { nx := fun σ' H' => D.nx (σ'.set i none) (upd H' a (ExV a cls d)), rt := fun _ _ => False, bk := fun _ _ => False, ct := fun _ _ => False } (σ.set i (some (.ref a))) H) ∧
    (b = false → Wout cls d σ H)
section
variable {X : Cx} {x n : Str} {c : Value} {i : Nat} {body suite : List Stmt} {b₀ : Stmt} {np pos pos' : Pos} {tb : WX → TS} {ts : Addr → Value → Option Addr → TS} {Wout : WX}
theorem ps_try_keep (hs : X.stack = X.env :: X.outer) (hf : X.env.frame = some X.env.locals) (hN : X.N.Nodup) (hi : X.N[i]? = some n) (hln : X.env.kindOf n = some .local) (hc : Names X x c) (tk : Takes X Wout)
    (hb : ∀ (W : WX) (pn : List (Addr × Obj)) (xe : Value → Shared → Prop), Takes (X.tr pn xe) W → PassesOwn (model X.prog X.w) X.A X.env xe → PSs (X.tr pn xe) body (tb W))
    (hsu : ∀ (a : Addr) (oe : Obj) (cls : Value) (d : Option Addr) (pn : List (Addr × Obj)), Zc cls d oe → (∃ vs, oe.data = .fields vs) → PSs (X.suite a ((a, oe) :: pn)) (b₀ :: suite) (ts a cls d)) :
    PS X (.Try body [.ExceptHandler (some (.Name x np)) (some n) (b₀ :: suite) pos'] [] [] pos) (fun D σ H => tb (wKeep X.K c i ts Wout D) D σ H) := by
  refine ⟨fun pins s σ H D I h => ?_⟩
  have ok := I.ok
  have hfr : X.A.frames = some (X.env :: X.outer) := by rw [ok.frames, hs]
  have hloc : Loc X.env.scope n := .inl hln
  refine wpAny_Try_except ?_
  refine wpAny_mono ((hb (wKeep X.K c i ts Wout D) (X.pn ++ pins) (fun e s₁ => wpAny (model X.prog X.w) X.A (noteFrame e X.env) (fun _ s₂ => wpAny (model X.prog X.w) X.A (setFlight e none) (fun _ s₃ =>
    wpAny (model X.prog X.w) X.A (handleBy e X.env [.ExceptHandler (some (.Name x np)) (some n) (b₀ :: suite) pos']) (SP X pins D) X.xe s₃) X.xe s₂) X.xe s₁) (fun u s' xx => ?_) PassesOwn.looking).run [] s σ H D (I.toTry _) h) (fun f s1 hsp => ?_) (fun e s1 he => he)
  · -- the catch
    obtain ⟨a, B, sI, pins', σ', H', cls, d, rfl, J', nb, up, sky, na, os, ag, b, hb1, hyes, hno⟩ := xx
    have J : Inv X pins σ' H' sI := J'.ofTry ok
    have sky' : Sky B (X.env :: X.outer) a (Zc cls d) X.env.locals s'.heap := by rw [← hs]; exact sky
    show wpAny (model X.prog X.w) X.A (noteFrame (.ref a) X.env) _ _ _
    refine Sky.land Zc.steady hfr hf sky' fun h3 fl3 up3 => ?_
    have J3 : Inv X pins σ' H' { s' with heap := h3 } := J.landed nb fl3.1 (up.trans up3) os ag
    obtain ⟨oe3, vs3, he3, hz3, hd3⟩ := fl3.there
    have notFr : ∀ {h : Heap} {o : Obj} {vs : Array Value}, h.FunFrames B (X.env :: X.outer) → h.get? a = some o → o.data = .fields vs → a ∉ frs (X.env :: X.outer) := fun {h o vs} ff e dd hm => by
      obtain ⟨_, o', e', hnf⟩ := ff.mem hm
      rw [e] at e'; cases e'
      exact hnf _ dd
    have nfr := notFr fl3.2.2.1 he3 hd3
    have nL : a ≠ X.env.locals := fun z => nfr (List.mem_filterMap.mpr ⟨X.env, List.mem_cons_self, by rw [hf, z]⟩)
    have nF : a ∉ X.fs := fun hm => by
      obtain ⟨e, he, q⟩ := List.mem_filterMap.mp hm
      exact nfr (List.mem_filterMap.mpr ⟨e, List.mem_cons_of_mem _ he, q⟩)
    have nB : B.get? a = none := fl3.2.1
    have nI : sI.heap.get? a = none := by
      cases q : sI.heap.get? a with
      | none => rfl
      | some o =>
        have := nb a o q (by rw [hs]; exact nfr)
        rw [nB] at this
        cases this
    have h0 : ∀ o, X.s_0.heap.get? a = some o → a ∈ X.ex := fun o e => by
      by_cases z : a ∈ X.ex
      · exact z
      · obtain ⟨o', e'⟩ := J.base.there a o e z
        rw [nI] at e'
        cases e'
    have hpn : ∀ p ∈ X.pn ++ pins, p.1 ≠ a := fun p hp z => by
      obtain ⟨q1, _⟩ := J.pin p hp
      rw [z, nI] at q1
      cases q1
    have S3 := J3.suite he3 hd3 na nL nF
    refine wpAny_handleBy_cons (codeAny_handlers_test ?_) (by intro q; cases q)
    have LT : PySem.W.Looks (model X.prog X.w) h3 (typeOf (.ref a)) cls := fun A Q E s k q => wpAny_typeOf_ref (k _ _ he3) (by rw [hz3.1]; exact q)
    have LM := PySem.W.exm_one (M := model X.prog X.w) (J3.kIn) LT hb1
    have test : ∀ {Q : Value → Shared → Prop} {E : Value → Shared → Prop}, Q c { s' with heap := h3 } → wpAny (model X.prog X.w) (X.A.mark (some (.ref a))) (eval (.Name x np) X.env) Q E { s' with heap := h3 } := fun {Q E} q => by
      obtain ⟨hg, hdbg, hm | ⟨hm, hv, hnn⟩⟩ := hc
      · exact ld_glob (X := X.suite a ((a, oe3) :: (X.pn ++ pins))) S3 hg hm q hdbg
      · exact ld_blt (X := X.suite a ((a, oe3) :: (X.pn ++ pins))) S3 hg hm hv q hnn hdbg
    refine test (LM.here ?_)
    cases b with
    | true =>
      refine codeAny_handlers_suite_as ?_
      refine HandSPX.lands_againZ fl3 fun h4 fl4 up4 => ?_
      have J4 : Inv X pins σ' H' { s' with heap := h4 } := J.landed nb fl4.1 ((up.trans up3).trans up4) os ag
      obtain ⟨oe4, vs4, he4, hz4, hd4⟩ := fl4.there
      have S4 := J4.suite he4 hd4 na nL nF
      refine store_ok (X := X.suite a ((a, oe4) :: (X.pn ++ pins))) (v := .ref a) S4 hN hi hloc rfl (fun s5 S5 => ?_) (.inr hln)
      refine wpAny_mono ((hsu a oe4 cls d (X.pn ++ pins) hz4 ⟨_, hd4⟩).run [] s5 _ H' _ S5 (hyes rfl a na)) (fun f s6 hsp => ?_) (fun _ _ z => False.elim z)
      cases f with
      | next =>
        obtain ⟨σ6, H6, S6, q6⟩ := hsp
        exact gone_ok (unsuiteK S6 ok) hN hi hln fun s7 J7 => ⟨_, _, adopt J7 hz4 ⟨_, hd4⟩ h0 hpn, q6⟩
      | brk =>
        obtain ⟨σ6, H6, S6, q6⟩ := hsp
        exact q6.elim
      | cont =>
        obtain ⟨σ6, H6, S6, q6⟩ := hsp
        exact q6.elim
      | ret u =>
        obtain ⟨v6, σ6, H6, S6, r6, q6⟩ := hsp
        exact q6.elim
    | false =>
      show wpAny _ X.A (handleBy (.ref a) X.env []) _ _ _
      refine wpAny_handleBy_nil ?_
      obtain ⟨k1, k2, k3, oe, vs, T, oT, ts', he, hz, hd, h1, hr⟩ := id fl3
      unfold PySem.passOn
      refine wpAny_bind (wpAny_field he hd h1 ?_)
      rw [if_neg (show ¬ ((Value.ref T == Value.none) = true) from by simp)]
      have fin : wpAny (model X.prog X.w) X.A (setFlight (.ref a) X.env.frame) (fun _ s4 => wpAny (model X.prog X.w) X.A (throw (.ref a) : Sem Flow) (SP X pins D) X.xe s4) X.xe { s' with heap := h3 } := by
        rw [hf]
        refine HandSPX.setFlight_upZ fl3 fun h4 hh4 up4 => wpAny_throw (tk _ _ ?_)
        exact ⟨a, B, sI, pins, σ', H', cls, d, rfl, J, nb, (up.trans up3).trans up4, .inr (.inr (by rw [hs]; exact hh4)), na, os, ag, hno rfl⟩
      first
        | exact wpAny_bind (wpAny_pure (wpAny_bind fin))
        | exact wpAny_bind fin
  · cases f with
    | next =>
      obtain ⟨σ', H', J', q⟩ := hsp
      exact wpAny_execs_nil ⟨σ', H', J'.ofTry ok, q⟩
    | brk =>
      obtain ⟨σ', H', J', q⟩ := hsp
      exact ⟨σ', H', J'.ofTry ok, q⟩
    | cont =>
      obtain ⟨σ', H', J', q⟩ := hsp
      exact ⟨σ', H', J'.ofTry ok, q⟩
    | ret u =>
      obtain ⟨v, σ', H', J', r, q⟩ := hsp
      exact ⟨v, σ', H', J'.ofTry ok, r, q⟩
end
section
variable {X : Cx} {G : Gx} {C : Cl} {W : WX} {pos p : Pos}
/-- C(), a class without own __init__ -/
theorem pmk_own0 {x : Str} {a : Addr} (q : PySem.W.excIn X.K a bmV "ValueError.__new__" = true) (gC : X.mg x = some (.ref a)) (kC : PySem.W.keepIn X.K (.ref a) = true) (r : Raises X (.ref a)) (hg : Gl X x) (hdb : (x == ("__debug__" : Str)) = false) :
    PMk X (.Call (.Name x p) [] [] pos) (fun _ H Q => Q (.ref a) none H) := by
  intro pins s σ H Q I h
  refine wpAny_Call_Name_kw (ld_glob I hg gC ?_ hdb)
  refine PySem.W.callWith_K0 I.kIn kC ?_
  show wpAny _ _ (call (.ref a) []) _ _ _
  obtain ⟨bm, N, nm, qn, bs, hdct, sn, sub, ab, col, dd, k0, k1, k2, k3, k5, mN, hC, hN, hni, T⟩ := exc_obj I.kIn q
  refine wpAny_call_exc_subT PySem.F.excBase_ValueError T hC hN hni (fun h' e hm => ?_) (by decide)
  exact mk_of I hm r h (I.hok.gone hm.new)
theorem ss_raise0 (cx : Ctx G C W X) (tk : Takes X W) {x : Str} {c : Nat} {sup : List Nat} (hx : G.gl.lookup x = some (.cls c sup [])) (hg : Gl X x) (hdb : (x == ("__debug__" : Str)) = false) {q : Pos} :
    PS X (.Raise (some (.Call (.Name x p) [] [] q)) none pos) (tS G C W (.raise c .nil)) := by
  have k := cx.gcl x c sup [] hx
  refine ps_of (ps_raise cx.calm tk (pmk_own0 (k.made rfl) k.at_ k.keep (raises_own k.exb k.ty) hg hdb)) fun Z σ H ⟨m, h, ρ, st, ok⟩ => ?_
  simp only [evS, evL, R.thenS] at ok
  exact ok m σ H (.ref (G.ca c)) none .refl st ⟨rfl, ⟨x, sup, [], hx⟩, .inl ⟨rfl, k.flc, rfl⟩⟩
/-- what is not to be reached -/
def stopS : S := .expr (.frz (.cst .non))
theorem ss_stop (s : Stmt) : PS X s (tS G C W stopS) := ⟨fun pins s0 σ H D I ⟨m, h, ρ, st, ok⟩ => by
  simp only [stopS, evS, evE, asR, R.ofO, R.then, R.thenS] at ok
  exact ok.elim⟩
theorem ss_try (cx : Ctx G C W X) (tk : Takes X W) (hs : X.stack = X.env :: X.outer) (hf : X.env.frame = some X.env.locals) {x n y : Str} {i j c : Nat} {sup : List Nat} {fl : List Str} {cs : List Nat} {body : List Stmt} {b : SL} {np py pn pa pos' : Pos}
    (ni : NoClo G i) (nj : NoClo G j) (hi : X.N[i]? = some n) (hln : X.env.kindOf n = some .local) (hv : Vis X.env.scope n) (hd1 : (n == ("__debug__" : Str)) = false) (hd2 : (n == ("__classdict__" : Str)) = false)
    (hj : X.N[j]? = some y) (hjl : Loc X.env.scope y) (hjf : X.fn y = true ∨ X.env.scope.names.lookup y = some .local) (hx : G.gl.lookup x = some (.cls c sup fl)) (hg : Gl X x) (hdb : (x == ("__debug__" : Str)) = false)
    (hcs : ∀ z c' s' f', G.gl.lookup z = some (.cls c' s' f') → cs.contains c' = s'.contains c)
    (hb : ∀ (W' : WX) (pn : List (Addr × Obj)) (xe : Value → Shared → Prop), Takes (X.tr pn xe) W' → PassesOwn (model X.prog X.w) X.A X.env xe → PSs (X.tr pn xe) body (tSL G C W' b)) :
    PS X (.Try body [.ExceptHandler (some (.Name x np)) (some n) [.Assign [.Name y py] (.Name n pn) pa] pos'] [] [] pos) (tS G C W (.tryx b (.cons cs (some i) (.cons (.asg (.nm j) (.var i)) .nil) .nil))) := by
  have kc := cx.gcl x c sup fl hx
  refine ps_of (ps_try_keep (tb := fun W' => tSL G C W' b) (ts := fun _ _ _ => tAsg (tVar i) (gName j)) hs hf cx.nd hi hln ⟨hg, hdb, .inl kc.at_⟩ tk hb fun a oe cls d pn _ _ => pss_one (ps_set (X := X.suite a ((a, oe) :: pn)) cx.nd hj hjl (pe_var hi hv hd1 hd2) (by rfl) hjf)) fun Z σ H ⟨m, h, ρ, st, ok⟩ => ?_
  refine ⟨m, h, ρ, st, ?_⟩
  simp only [evS] at ok
  cases e : evSL C b ρ h with
  | nx _ _ => rw [e] at ok; exact ok
  | rt _ _ => rw [e] at ok; exact ok
  | bk _ _ => rw [e] at ok; exact ok
  | ct _ _ => rw [e] at ok; exact ok
  | bad => rw [e] at ok; exact ok
  | ex c' l ρ' h' =>
    rw [e] at ok
    intro m' σ' H' cls d xx s' rx
    obtain ⟨rfl, ⟨z, s2, f2, hz⟩, rx'⟩ := id rx
    have k := cx.gcl z c' s2 f2 hz
    have hq := hcs z c' s2 f2 hz
    refine ⟨s2.contains c, PySem.W.exm_ref kc.exb kc.hd kc.ty (k.sub x c sup fl hx).1, fun hyes a na => ?_, fun hno => ?_⟩
    · rw [hyes] at hq
      simp only [evH, hq, if_true, evSL, evS, evE] at ok
      cases ev : (ρ'.set i (some (D.exc c' l))).getD i none with
      | none => rw [ev] at ok; exact ok.elim
      | some dd =>
        rw [ev] at ok
        rcases getD_set ρ' i i _ _ ev with ⟨_, hl, rfl⟩ | ⟨hn, _⟩
        case inr => exact absurd rfl hn
        simp only [R.ofO, R.thenS, Pat.bnd, SR.then] at ok
        have xe : Ext G m' h' H' m' h' (upd H' a (ExV a (.ref (G.ca c')) d)) := Ext.new s'.rel na
        have rep : Rep G (upd H' a (ExV a (.ref (G.ca c')) d)) (Live G m' h') m' (.exc c' l) (.ref a) := by
          have nl : ¬ Live G m' h' a := fun q => s'.rel.ne q na
          rcases rx' with ⟨rfl, q2, rfl⟩ | ⟨dx, fs, vs, rfl, q2, q3, q4, q5, q6⟩
          · exact .exc0 ⟨z, s2, f2, hz⟩ (.inl upd_same) nl q2
          · have nd : dx ≠ a := fun q => by rw [q, na] at q2; cases q2
            exact .exc1 ⟨z, s2, f2, hz⟩ (.inl upd_same) nl (.inl (by rw [upd_ne nd]; exact q2)) q3 q4 q5 (q6.mono xe)
        have s1 : Stt G m' h' ρ' σ' (upd H' a (ExV a (.ref (G.ca c')) d)) := s'.later xe (s'.rel.new na)
        refine ⟨.ref a, List.getElem?_set_self (by rw [← s'.len]; exact hl), ?_⟩
        exact ok m' _ _ (xx.trans xe) (((s1.set (i := i) ni rep).set (i := j) nj rep).unset ni)
    · rw [hno] at hq
      simp only [evH, hq, if_false, Bool.false_eq_true] at ok
      exact ok m' σ' H' _ d xx s' rx
theorem _root_.PV.Ctx.tr (cx : Ctx G C W X) {W' : WX} {pn : List (Addr × Obj)} {xe : Value → Shared → Prop} (tk : Takes (X.tr pn xe) W') (hs : X.stack = X.env :: X.outer) (hf : X.env.frame = some X.env.locals) (po : PassesOwn (model X.prog X.w) X.A X.env xe) : Ctx G C W' (X.tr pn xe) where
  k := cx.k
  call := cx.call
  kall := cx.kall
  ks := cx.ks
  hfs := cx.hfs
  ghf := cx.ghf
  lam := cx.lam
  mkl := cx.mkl
  tabu := cx.tabu
  calm := cx.calm
  nd := cx.nd
  room := cx.room
  fns := cx.fns
  gfn := cx.gfn
  gcst := cx.gcst
  gkd := cx.gkd
  gbl := cx.gbl
  gcl := cx.gcl
  ini := cx.ini
  fix := cx.fix
  fixI := cx.fixI
  tk := TakesF.of tk hs hf
  po := po
/-- where a statement stands -/
structure StC (X : Cx) (W : WX) : Prop where
  tk : Takes X W
  stk : X.stack = X.env :: X.outer
  fr : X.env.frame = some X.env.locals
end
end PV
set_option Elab.async false
set_option autoImplicit false
set_option maxRecDepth 100000
set_option maxHeartbeats 2000000
namespace PV
open PySem PySem.Spec PyProof.Rows L2
theorem initB_cons {f : Str} {fs : List Str} {body : List Stmt} (h : initB (f :: fs) body = true) : ∃ (p1 p2 p3 p4 : Pos) (r : List Stmt), body = .Assign [.Attribute (.Name "self" p1) f p2] (.Name f p3) p4 :: r ∧ (f == ("__debug__" : Str)) = false ∧ (f == ("__classdict__" : Str)) = false ∧ initB fs r = true := by
  unfold initB at h
  split at h
  · exact absurd ‹f :: fs = []› (by simp)
  · rename_i f' fs' s p1 g p2 y p3 p4 r h1
    obtain ⟨rfl, rfl⟩ := List.cons.inj h1
    simp only [Bool.and_eq_true, decide_eq_true_eq, Bool.not_eq_true'] at h
    obtain ⟨rfl, rfl, rfl, hp, hb⟩ := h
    exact ⟨p1, p2, p3, p4, r, rfl, hp.1, hp.2, hb⟩
  · cases h
def spInit (C : Addr) (fl : List Str) : Sp := fun vs H Q _ => ∃ (a : Addr) (ys : List V), vs = .ref a :: ys ∧ ys.length = fl.length ∧ H a = some (exo a C none) ∧
  ∀ (dx : Addr) (H' : L2.Hp) (fs : List (Str × V)), H dx = none → dx ≠ a → H' a = some (exo a C (some dx)) → H' dx = some (exd dx fs) → (∀ (j : Nat) (f : Str) (v : V), fl[j]? = some f → ys[j]? = some v → fs.lookup f = some v) →
    (∀ b, b ≠ a → b ≠ dx → H' b = H b) → Q .non H'
/-- behind so many of its rows -/
def InitSt (C a : Addr) (fl : List Str) (ys : List V) (H0 : L2.Hp) (i : Nat) (H : L2.Hp) : Prop :=
  (i = 0 ∧ H = H0) ∨ (0 < i ∧ ∃ (dx : Addr) (fs : List (Str × V)), H0 dx = none ∧ dx ≠ a ∧ H a = some (exo a C (some dx)) ∧ H dx = some (exd dx fs) ∧ fs.length = i ∧ (∀ b, b ≠ a → b ≠ dx → H b = H0 b) ∧
    ∀ (j : Nat) (f : Str) (v : V), j < i → fl[j]? = some f → ys[j]? = some v → fs.lookup f = some v)
section
variable {X : Cx} {K : PySem.W.Frag} {C a : Addr} {fl : List Str} {ys : List V} {H0 : L2.Hp}
theorem inits_ok (T : OexC X.K C) (no : ∀ f ∈ fl, PySem.W.findIn X.K (.ref C) f = some none) (nd : fl.Nodup) (hlen : ys.length = fl.length) (hsz : fl.length ≤ 900) (hs0 : X.N[0]? = some ("self" : Str)) (hN : ∀ (j : Nat) (f : Str), fl[j]? = some f → X.N[j + 1]? = some f)
    (hv : ∀ x ∈ ("self" : Str) :: fl, Vis X.env.scope x) (ha : H0 a = some (exo a C none)) : ∀ (n i : Nat) (body : List Stmt), fl.length - i = n → i ≤ fl.length → initB (fl.drop i) body = true → ∃ t, PSs X body t ∧
      ∀ (D : Ends) (σ : L2.St) (H : L2.Hp), InitSt C a fl ys H0 i H → σ[0]? = some (some (.ref a)) → (∀ (j : Nat) (v : V), ys[j]? = some v → σ[j + 1]? = some (some v)) → (∀ H', InitSt C a fl ys H0 fl.length H' → D.nx σ H') → t D σ H
  | 0, i, body, e, hi, hb => by
    have : i = fl.length := by omega
    subst this
    rw [List.drop_length] at hb
    cases body with
    | nil => exact ⟨_, pss_nil, fun D σ H st h1 h2 k => k H st⟩
    | cons s r => simp [initB] at hb
  | n + 1, i, body, e, hi, hb => by
    have hlt : i < fl.length := by omega
    rw [List.drop_eq_getElem_cons hlt] at hb
    obtain ⟨p1, p2, p3, p4, r, rfl, hp1, hp2, hb⟩ := initB_cons hb
    have hm : fl[i] ∈ fl := List.getElem_mem hlt
    have hfi : fl[i]? = some fl[i] := List.getElem?_eq_getElem hlt
    obtain ⟨t, ht, hk⟩ := inits_ok T no nd hlen hsz hs0 hN hv ha n (i + 1) r (by omega) (by omega) hb
    refine ⟨_, pss_cons (ps_ost (pe_var hs0 (hv _ List.mem_cons_self) (by decide) (by decide)) (pe_var (hN i _ hfi) (hv _ (List.mem_cons_of_mem _ hm)) hp1 hp2)) ht, fun D σ H st q1 q2 k => ?_⟩
    obtain ⟨v, hvi⟩ : ∃ v, ys[i]? = some v := ⟨ys[i]'(by omega), List.getElem?_eq_getElem (by omega)⟩
    have last : ∀ (dx : Addr) (fs : List (Str × V)), (∀ (j : Nat) (f : Str) (v : V), j < i → fl[j]? = some f → ys[j]? = some v → fs.lookup f = some v) → ∀ (j : Nat) (f : Str) (w : V), j < i + 1 → fl[j]? = some f → ys[j]? = some w → ((fl[i], v) :: fs).lookup f = some w := fun dx fs h j f w hj hf hw => by
      rw [lookup_put]
      by_cases hji : j = i
      · subst hji
        rw [hfi] at hf
        cases hf
        rw [hvi] at hw
        cases hw
        simp
      · have : f ≠ fl[i] := fun e => by
          exact hji (nodup_ix nd hf (by rw [hfi, e]))
        rw [if_neg this]
        exact h j f w (by omega) hf hw
    refine ⟨v, q2 i v hvi, .ref a, q1, a, C, rfl, T, no _ hm, ?_⟩
    rcases st with ⟨rfl, rfl⟩ | ⟨hpos, dx, fs, g1, g2, g3, g4, g5, g6, g7⟩
    · refine .inl ⟨ha, fun dx hdx hne => hk _ _ _ (.inr ⟨by omega, dx, [(fl[0], v)], hdx, hne, upd_same, ?_, rfl, fun b h1 h2 => ?_, last dx [] fun j f v hj => by omega⟩) q1 q2 k⟩
      · rw [upd_ne hne, upd_same]
      · rw [upd_ne h1, upd_ne h2]
    · refine .inr ⟨dx, fs, g3, g4, by omega, hk _ _ _ (.inr ⟨by omega, dx, (fl[i], v) :: fs, g1, g2, ?_, upd_same, by simp [g5], fun b h1 h2 => ?_, last dx fs g7⟩) q1 q2 k⟩
      · rw [upd_ne (Ne.symm g2)]; exact g3
      · rw [upd_ne h2]; exact g6 b h1 h2
end
theorem init_fn {P : Program} {w : World} {K : PySem.W.Frag} {mg : Str → Option Value} {base : Heap} {CX : CXT} {C : Addr} {fl : List Str} {x qual : Str} {params : Arguments} {body : List Stmt} {scope : Scope} {kws : List (Str × V)} {fI : Addr} {fd : FuncData} (hne : fl ≠ [])
    (T : OexC K C) (no : ∀ f ∈ fl, PySem.W.findIn K (.ref C) f = some none) (F : FunD K x qual params body scope [] kws fI fd) (S : FnScope (("self" : Str) :: fl) (("self" : Str) :: fl) scope) (hb : initB fl body = true) (hz : fl.length ≤ 900) : FnOk P w K mg base CX 1 fI fd (("self" : Str) :: fl) (spInit C fl) := by
  refine F.ok S (fun vs H Q E ⟨a, ys, e, l, _⟩ => by rw [e]; simp [l]) fun cdv A outer s H vs Q E hr ⟨a, ys, e, l, ha, k⟩ => ?_
  subst e
  have nd : fl.Nodup := (List.nodup_cons.mp S.nd).2
  obtain ⟨t, ht, hk⟩ := inits_ok (X := cxOf CX P w K mg base (("self" : Str) :: fl) qual scope fI cdv A outer s H E) (fl := fl) (ys := ys) (H0 := H) T no nd l hz rfl (fun j f e => e) (fun x hx => (S.par x hx).elim (fun q => .inl q) fun q => .inr (.inl q)) ha fl.length 0 body (by simp) (Nat.zero_le _) hb
  refine ⟨t, ht, hk _ _ _ (.inl ⟨rfl, rfl⟩) rfl (fun j v e => ?_) fun H' st => ?_⟩
  · have hj := get_lt e
    show (L2.start (("self" : Str) :: fl) (.ref a :: ys))[j + 1]? = some (some v)
    unfold L2.start
    rw [List.getElem?_append_left (by simp; omega)]
    simp [e]
  · rcases st with ⟨z, _⟩ | ⟨_, dx, fs, g1, g2, g3, g4, g5, g6, g7⟩
    · exact absurd (List.length_eq_zero_iff.mp z) hne
    · exact k dx H' fs g1 g2 g3 g4 (fun j f v h1 h2 => g7 j f v (get_lt h1) h1 h2) g6
theorem evL_len {C : Cl} : ∀ {l : EL} {ρ : Env} {h : Hs} {ds : List D} {h1 : Hs}, evL C l ρ h = .ok ds h1 → ds.length = l.to.length
  | .nil, ρ, h, ds, h1, e => by
    simp only [evL, R.ok.injEq] at e
    rw [← e.1]; rfl
  | .cons a l, ρ, h, ds, h1, e => by
    simp only [evL] at e
    obtain ⟨x, h2, _, e⟩ := then_ok e
    obtain ⟨r, h3, e3, e⟩ := then_ok e
    cases e
    simp [EL.to, evL_len e3]
section
variable {X : Cx} {G : Gx} {C : Cl} {W : WX} {pos p : Pos}
theorem ss_raiseF (cx : Ctx G C W X) (tk : Takes X W) {x : Str} {c : Nat} {sup : List Nat} {fl : List Str} (hx : G.gl.lookup x = some (.cls c sup fl)) (hne : fl ≠ []) (hg : Gl X x) (hdb : (x == ("__debug__" : Str)) = false) {q : Pos} {e : Expr} {es : List Expr} {l : EL}
    (hs : SA X G C W (e :: es) l) (hl : l.to.length = fl.length) : PS X (.Raise (some (.Call (.Name x p) (e :: es) [] q)) none pos) (tS G C W (.raise c l)) := by
  have k := cx.gcl x c sup fl hx
  obtain ⟨T, no, y, qual, params, body, scope, kws, fI, fd, F, S, B, hb, hz, iC, tI⟩ := cx.ini x c sup fl hx hne
  have F1 : FnOk X.prog X.w X.K X.mg X.base (L2.CX X.prog X.w) 1 fI fd (("self" : Str) :: fl) (spInit (G.ca c) fl) := init_fn hne T no F S hb hz
  have hr : Room (1 + 1) X.A := ⟨cx.room.hd, by have := cx.room.dp; omega, by have := cx.room.un; omega⟩
  refine ps_of (ps_raise cx.calm tk (pmk_oex (CX := L2.CX X.prog X.w) (sp := spInit (G.ca c) fl) (ds := []) (dvs := []) T iC tI F1 hr B .nil (fun _ _ _ _ _ _ _ z => by
    obtain ⟨_, _, _, _, _, _, _, _, _, _, _, _, f⟩ := z
    exact f.elim) hg k.at_ hs.pa hdb (starEach_cons (hs.st e (by simp))) (backTo_any fun e' he => hs.st e' (by simp [he])))) fun Z σ H ⟨m, h, ρ, st, ok⟩ => ?_
  simp only [evS] at ok
  refine ⟨m, h, ρ, st, ?_⟩
  cases ev : evL C l ρ h with
  | bad => rw [ev] at ok; exact ok.elim
  | ex c' l' h' =>
    rw [ev] at ok
    intro m' H' cls d xx r rx
    exact ok m' σ H' cls d xx (st.later xx r) rx
  | ok ds h1 =>
    rw [ev] at ok
    simp only [R.thenS] at ok
    intro m1 vs H1 x1 r1 p1
    have hvl : vs.length = fl.length := by rw [← p1.length, evL_len ev, hl]
    refine ⟨by omega, fun a na => ⟨a, vs, by simp, hvl, upd_same, fun dx H' fs g1 g2 g3 g4 g5 g6 => ⟨rfl, dx, fs, g3, g4, ?_, ?_⟩⟩⟩
    · rw [upd_ne g2] at g1; exact g1
    · have hdx : H1 dx = none := by rw [upd_ne g2] at g1; exact g1
      have eH : upd (L2.del H' a) dx (.xd fs) = upd H1 dx (.xd fs) := by
        funext b
        by_cases h1 : b = dx
        · rw [h1, upd_same, upd_same]
        · rw [upd_ne h1, upd_ne h1]
          by_cases h2 : b = a
          · rw [h2, del_same, na]
          · rw [del_ne h2, g6 b h2 h1, upd_ne h2]
      rw [eH]
      have x2 : Ext G m1 h1 H1 m1 h1 (upd H1 dx (.xd fs)) := Ext.new r1 hdx
      have s2 := (st.later x1 r1).later x2 (r1.new hdx)
      exact ok m1 σ _ _ _ (x1.trans x2) s2 ⟨rfl, ⟨x, sup, fl, hx⟩, .inr ⟨dx, fs, vs, rfl, upd_same, fun z => r1.ne z hdx, by rw [k.flc]; exact hne, ⟨by rw [k.flc, hvl], by rw [k.flc]; exact g5⟩, p1.mono x2⟩⟩
end
/-! ### isinstance of a caught one -/
def rIsY (K : PySem.W.Frag) : List V → L2.Hp → VK → Prop := fun xs H Q => ∃ (a D : Addr) (d : Option Addr) (c : V) (b : Bool), xs = [.ref a, c] ∧ Rd H a (ExV a (.ref D) d) ∧ (∀ dx, d = some dx → ∃ fs, Rd H dx (.xd fs)) ∧ ExcC K D ∧
  ((∀ u, RelV c u → PySem.W.kitOne K (.ref D) u = some b) ∨ (∃ tp Cs, c = .ref tp ∧ H tp = some (.tup Cs) ∧ ∀ us, Vals Cs us → PySem.W.kitAny K (.ref D) us = some b)) ∧ Q (.bl b) H
section
variable {X : Cx} {G : Gx} {C : Cl} {W : WX} {pos p : Pos}
theorem exc_inst {H : L2.Hp} {s : Shared} {a D : Addr} {d : Option Addr} (hok : HOk X.prog X.w H s.heap) (hr : Rd H a (ExV a (.ref D) d)) (hd : ∀ dx, d = some dx → ∃ fs, Rd H dx (.xd fs)) : ∃ oe od, PySem.W.InstAt s.heap a oe D od ∧
    (∀ dx fs, d = some dx → Rd H dx (.xd fs) → ∃ o mA, od = some o ∧ s.heap.Ns1 dx mA ∧ s.heap.get? dx = some o ∧ ∀ f, RelO (fs.lookup f) (mA f)) := by
  obtain ⟨⟨oe, ho, hz, vs, hv⟩, _, _⟩ := (show ObjOk X.prog X.w H s.heap a (ExV a (.ref D) d) from Rd.ok hr hok)
  obtain ⟨oc, od, oda, osl⟩ := oe
  obtain ⟨h1, h2⟩ := hz
  dsimp only at h1 h2 hv
  subst h1 h2 hv
  cases od with
  | none => exact ⟨_, none, ⟨ho, rfl, rfl, trivial⟩, fun dx fs e => by cases e⟩
  | some dx =>
    obtain ⟨fs, r⟩ := hd dx rfl
    obtain ⟨mA, hn, hr⟩ := (show ObjOk X.prog X.w H s.heap dx (.xd fs) from Rd.ok r hok)
    obtain ⟨o, es, ep, e1, e2⟩ := id hn
    refine ⟨_, some o, ⟨ho, rfl, rfl, e1⟩, fun dx' fs' e r' => ?_⟩
    cases e
    obtain ⟨mA', hn', hr'⟩ := (show ObjOk X.prog X.w H s.heap dx (.xd fs') from Rd.ok r' hok)
    exact ⟨o, mA', rfl, hn', e1, hr'⟩
theorem call_isY : CallR X (.builtin "isinstance") (rIsY X.K) := by
  intro pins s σ H xs us Q I r h
  obtain ⟨a, D, d, c, b, rfl, hr, hd, C, hc, q⟩ := h
  obtain ⟨u1, u2, rfl, r1, r2⟩ := vals2 r
  obtain rfl : u1 = Value.ref a := r1
  obtain ⟨oe, od, J, _⟩ := exc_inst I.hok hr hd
  have hcl : (PySem.W.clsIn X.K D).isSome = true := by
    obtain ⟨cd, hc, _⟩ := PySem.W.any_some C.hd
    rw [hc]; rfl
  have Z : PySem.W.KitX X.K (.ref a) (.ref D) (fun h => PySem.W.InstAt h a oe D od) := PySem.W.kitx_exc hcl C.hg C.hk C.hs C.ha C.hn C.ht C.hm
  rcases hc with e | ⟨tp, Cs, rfl, hT, e⟩
  · exact PySem.W.kia_one Z I.kIn J (e _ r2) (fun z => nomatch z) fun tk => ⟨.bl b, H, I.tok tk, rfl, q⟩
  · obtain rfl : u2 = Value.ref tp := r2
    obtain ⟨_, its, rv, o, h1, h2, n, h3⟩ := (show ObjOk X.prog X.w H s.heap tp (.tup Cs) from I.hok tp _ hT)
    obtain ⟨oc, od, dt, sl⟩ := o
    simp only at h2 h3
    subst h2 h3
    exact PySem.W.kia_tup Z I.kIn J h1 (e _ rv) (fun z => nomatch z) fun tk => ⟨.bl b, H, I.tok tk, rfl, q⟩
theorem exc_sn {m : List Addr} {H : L2.Hp} {Lv : Addr → Prop} {v : V} {c : Nat} {l : List D} (px : Sn G H Lv m (.exc c l) v) :
    ∃ a d z sup fl, v = .ref a ∧ Rd H a (ExV a (.ref (G.ca c)) d) ∧ (∀ dx, d = some dx → ∃ fs, Rd H dx (.xd fs)) ∧ G.gl.lookup z = some (.cls c sup fl) ∧ (l = [] ∨ ∃ dx fs vs, d = some dx ∧ Rd H dx (.xd fs) ∧ Flds (G.flds c) fs vs ∧ RepL G H Lv m l vs) := by
  cases px with
  | @exc _ _ a r =>
    cases r with
    | exc0 k r n f =>
      obtain ⟨z, sup, fl, hz⟩ := k
      exact ⟨a, none, z, sup, fl, rfl, r, fun dx e => (by cases e), hz, .inl rfl⟩
    | exc1 k r n r2 n2 f g l =>
      obtain ⟨z, sup, fl, hz⟩ := k
      exact ⟨a, _, z, sup, fl, rfl, r, fun dx e => ⟨_, (by cases e; exact r2)⟩, hz, .inr ⟨_, _, _, rfl, r2, g, l⟩⟩
/-- a class's name in isinstance: the classes of ours that are one of it -/
structure IsN (X : Cx) (G : Gx) (e : Expr) (cs : List Nat) : Prop where
  ex : ∃ v : V, PE X e (fun _ H Q => Q v H) ∧ ∀ u, RelV v u → ∀ z c sup fl, G.gl.lookup z = some (.cls c sup fl) → PySem.W.kitOne X.K (.ref (G.ca c)) u = some (cs.contains c)
  st : starred e = false
theorem isn_own (cx : Ctx G C W X) {y : Str} {c : Nat} {sup : List Nat} {fl : List Str} {cs : List Nat} (hy : G.gl.lookup y = some (.cls c sup fl)) (hgy : Gl X y) (hdy : (y == ("__debug__" : Str)) = false) (hcs : ∀ z c' s' f', G.gl.lookup z = some (.cls c' s' f') → cs.contains c' = s'.contains c) : IsN X G (.Name y p) cs :=
  ⟨⟨.ref (G.ca c), pe_glob (v := .ref (G.ca c)) hgy (cx.gcl y c sup fl hy).at_ rfl hdy, fun u ru z c' s' f' hz => by
    obtain rfl : u = Value.ref (G.ca c) := ru
    rw [hcs z c' s' f' hz]
    exact ((cx.gcl z c' s' f' hz).sub y c sup fl hy).2⟩, rfl⟩
theorem isn_ve (cx : Ctx G C W X) {cs : List Nat} (hg : Gl X "ValueError") (hm : X.mg "ValueError" = none) (hcs : ∀ z c' s' f', G.gl.lookup z = some (.cls c' s' f') → cs.contains c' = true) : IsN X G (.Name "ValueError" p) cs :=
  ⟨⟨.ty "ValueError", pe_bltn (v := .ty "ValueError") hg hm PyProof.Rows.Boot.«ValueError» rfl (by decide) (by decide), fun u ru z c' s' f' hz => by
    obtain rfl : u = Value.type "ValueError" := ru
    rw [hcs z c' s' f' hz]
    exact (cx.gcl z c' s' f' hz).ve⟩, rfl⟩
inductive IsNs (X : Cx) (G : Gx) : List Expr → List Nat → Prop
  | nil : IsNs X G [] []
  | cons {e es cs ds} : IsN X G e cs → IsNs X G es ds → IsNs X G (e :: es) (cs ++ ds)
theorem isn_pa : ∀ {es : List Expr} {cs : List Nat}, IsNs X G es cs → ∃ vs : List V, vs.length = es.length ∧ PA X es (fun _ H Q => Q vs H) ∧ ∀ us, Vals vs us → ∀ z c sup fl, G.gl.lookup z = some (.cls c sup fl) → PySem.W.kitAny X.K (.ref (G.ca c)) us = some (cs.contains c)
  | _, _, .nil => ⟨[], rfl, pa_nil, fun us ru z c sup fl hz => by cases ru; rfl⟩
  | _, _, .cons h t => by
    obtain ⟨v, h1, h2⟩ := h.ex
    obtain ⟨vs, t0, t1, t2⟩ := isn_pa t
    refine ⟨v :: vs, by simp [t0], pa_cons h1 t1 (starEach_cons h.st), fun us ru z c sup fl hz => ?_⟩
    cases ru with
    | cons ru rs =>
      have e1 := h2 _ ru z c sup fl hz
      have e2 := t2 _ rs z c sup fl hz
      simp only [PySem.W.kitAny, e1, List.contains_append]
      cases (_ : List Nat).contains c <;> simp [e2]
theorem se_isy (cx : Ctx G C W X) {a b : Expr} {ea : E} {cs : List Nat} (hg : Gl X "isinstance") (hm : X.mg "isinstance" = none) (ha : SE X G C W a ea) (hst : starred a = false) (hb : IsN X G b cs) :
    SE X G C W (.Call (.Name "isinstance" p) [a, b] [] pos) (.blt (.isx cs []) (.cons ea .nil)) := by
  obtain ⟨v, hv, hk⟩ := hb.ex
  refine .plain (pe_of (pe_callB call_isY hg hm PyProof.Rows.boot_isinstance (pa_cons ha.pe (pa_cons hv pa_nil (starEach_cons hb.st)) (starEach_cons hst)) (by decide) (by decide) (starEach_cons hst) (by
    show (backTo pos (starEach [b] X.env)).any (·.1) = false
    exact backTo_any fun e he => by rw [List.mem_singleton.mp he]; exact hb.st)) fun σ H Q ⟨m, h, ρ, st, ok⟩ => ?_) rfl
  simp only [evE, evL] at ok
  refine tE_step st (okR_then ok) fun dx h1 m1 x H1 x1 r1 p1 st1 ok1 => ?_
  obtain ⟨d, e, q⟩ := okR_ofO ok1
  have e : (match vw h1 dx with
    | .exc c _ => some (D.bl (cs.contains c || ([] : List Nat).contains c))
    | _ => none) = some d := e
  have sn := see r1 p1
  split at e
  · rename_i c' l' ev
    cases e
    rw [ev] at sn
    obtain ⟨y, d, z, s2, f2, rfl, rd, rdx, hz, _⟩ := exc_sn sn
    have k := cx.gcl z c' s2 f2 hz
    refine ⟨y, G.ca c', d, _, _, rfl, rd, rdx, k.is, .inl fun u ru => hk u ru z c' s2 f2 hz, ?_⟩
    have := q m1 _ H1 x1 r1 (.bl _)
    simpa using this
  · cases e
theorem se_isyN (cx : Ctx G C W X) {a : Expr} {bs : List Expr} {ea : E} {cs : List Nat} {kk : Nat} {pt : Pos} (hg : Gl X "isinstance") (hm : X.mg "isinstance" = none) (ha : SE X G C W a ea) (hst : starred a = false) (hb : IsNs X G bs cs) (hn : bs.length ≤ 1000) :
    SE X G C W (.Call (.Name "isinstance" p) [a, .Tuple bs kk pt] [] pos) (.blt (.isx cs []) (.cons ea .nil)) := by
  obtain ⟨vs, hl, hv, hk⟩ := isn_pa hb
  refine .plain (pe_of (pe_callB call_isY hg hm PyProof.Rows.boot_isinstance (pa_cons ha.pe (pa_cons (pe_tup hv) pa_nil) (starEach_cons hst)) (by decide) (by decide) (starEach_cons hst) rfl) fun σ H Q ⟨m, h, ρ, st, ok⟩ => ?_) rfl
  simp only [evE, evL] at ok
  refine tE_step st (okR_then ok) fun dx h1 m1 x H1 x1 r1 p1 st1 ok1 => ?_
  obtain ⟨d, e, q⟩ := okR_ofO ok1
  have e : (match vw h1 dx with
    | .exc c _ => some (D.bl (cs.contains c || ([] : List Nat).contains c))
    | _ => none) = some d := e
  split at e
  · rename_i c' l' ev
    cases e
    refine ⟨by rw [hl]; exact Nat.le_trans hn (by decide), fun tp htp => ?_⟩
    have r2 := r1.new (o := .tup vs) htp
    have x2 : Ext G m1 h1 H1 m1 h1 (upd H1 tp (.tup vs)) := Ext.new r1 htp
    have sn := see r2 (p1.mono x2)
    rw [ev] at sn
    obtain ⟨y, d, z, s2, f2, rfl, rd, rdx, hz, _⟩ := exc_sn sn
    have k := cx.gcl z c' s2 f2 hz
    refine ⟨y, G.ca c', d, _, _, rfl, rd, rdx, k.is, .inr ⟨tp, vs, rfl, upd_same, fun us ru => hk us ru z c' s2 f2 hz⟩, ?_⟩
    have := q m1 _ _ (x1.trans x2) r2 (.bl _)
    simpa using this
  · cases e
/-! ### a field of a caught one -/
def tXfy (K : PySem.W.Frag) (te : TE) (n : Str) : TE := fun σ H Q => te σ H fun x H1 => ∃ (a D dx : Addr) (fs : List (Str × V)) (v : V), x = .ref a ∧ Rd H1 a (ExV a (.ref D) (some dx)) ∧ Rd H1 dx (.xd fs) ∧ XfC K D ∧ PySem.W.findIn K (.ref D) n = some none ∧ fs.lookup n = some v ∧ Q v H1
theorem pe_xfy {e : Expr} {te : TE} {n : Str} (he : PE X e te) (hb : attributeBase e n X.env (eval e X.env) = eval e X.env) : PE X (.Attribute e n pos) (tXfy X.K te n) := by
  refine ⟨fun pins s σ H Q I h => ?_⟩
  refine attr_of hb (thn (he.run pins s σ H _ I h) fun u s1 ⟨x, H1, I1, rx, a, D, dx, fs, v, ex, ra, rdx, T, hno, l, q⟩ => ?_)
  subst ex
  obtain rfl : u = Value.ref a := rx
  obtain ⟨oe, od, J, k⟩ := exc_inst I1.hok ra fun dx' e => by cases e; exact ⟨fs, rdx⟩
  obtain ⟨o, mA, rfl, hn, ho, hr⟩ := k dx fs rfl rdx
  obtain ⟨u, hu, ru⟩ := RelO.some_of (v := v) (o := mA n) (by rw [← l]; exact hr n)
  obtain ⟨od', ho', hl'⟩ := lookIn_ns hn
  rw [ho] at ho'
  cases ho'
  exact HandSPX.exc_get I1.kIn J T.ga T.gg T.exC (PySem.W.findObj_own T.hdC hno rfl (by rw [hl', hu])) (handed_of ru) ⟨v, H1, I1.tok _, ru, q⟩
theorem pe_or {e : Expr} {t t' : TE} (h : PE X e t) (h' : PE X e t') : PE X e (fun σ H Q => t σ H Q ∨ t' σ H Q) := ⟨fun pins s σ H Q I q => q.elim (h.run pins s σ H Q I) (h'.run pins s σ H Q I)⟩
theorem ins_sn {m : List Addr} {H : L2.Hp} {Lv : Addr → Prop} {v : V} {c : Nat} {l : List D} (px : Sn G H Lv m (.ins c l) v) : ∃ a dx fs vs, v = .ref a ∧ H a = some (.ins (G.ca c) dx fs) ∧ Flds (G.flds c) fs vs ∧ RepL G H Lv m l vs := by
  cases px with
  | ins h1 h2 h3 => exact ⟨_, _, _, _, rfl, h1, h2, h3⟩
theorem fld_get {P : Prog} {k : Cs} {d x : D} (h : fldAt P k d = some x) : (∃ c l j, d = .exc c l ∧ P.fix c k = some j ∧ l[j]? = some x) ∨ ∃ c l j, d = .ins c l ∧ P.fixI c k = some j ∧ l[j]? = some x := by
  cases d with
  | exc c l =>
    obtain ⟨j, h1, h2⟩ := Option.bind_eq_some_iff.mp (show (P.fix c k).bind (fun j => l[j]?) = some x from h)
    exact .inl ⟨c, l, j, rfl, h1, h2⟩
  | ins c l =>
    obtain ⟨j, h1, h2⟩ := Option.bind_eq_some_iff.mp (show (P.fixI c k).bind (fun j => l[j]?) = some x from h)
    exact .inr ⟨c, l, j, rfl, h1, h2⟩
  | _ => cases h
theorem se_fldx (cx : Ctx G C W X) {a : Expr} {ea : E} {n : Str} (ha : SE X G C W a ea) (hb : attributeBase a n X.env (eval a X.env) = eval a X.env) : SE X G C W (.Attribute a n pos) (.fld ea n.cps.toList) := by
  refine .plain (pe_of (pe_or (pe_xfy ha.pe hb) (pe_fld ha.pe hb)) fun σ H Q ⟨m, h, ρ, st, ok⟩ => ?_) rfl
  simp only [evE] at ok
  cases ev : evE C ea ρ h with
  | bad => rw [ev] at ok; exact ok.elim
  | ex c l h' => rw [ev] at ok; exact .inl ⟨m, h, ρ, st, by rw [ev]; exact ok⟩
  | ok dx h1 =>
    rw [ev] at ok
    obtain ⟨d, e, q⟩ := okR_ofO (show okR (R.ofO (fldAt C.P n.cps.toList (vw h1 dx)) h1) _ _ from ok)
    rcases fld_get e with ⟨c, l, j, e1, e2, e3⟩ | ⟨c, l, j, e1, e2, e3⟩
    · refine .inl ⟨m, h, ρ, st, by
        rw [ev]
        intro m1 x H1 x1 r1 p1
        have sn := see r1 p1
        rw [e1] at sn
        obtain ⟨y, d', z, s2, f2, rfl, rd, rdx, hz, hl⟩ := exc_sn sn
        have k := cx.gcl z c s2 f2 hz
        obtain ⟨g1, g2⟩ := cx.fix c _ j e2
        rw [str_toList] at g1 g2
        rcases hl with rfl | ⟨dx', fs, vs, rfl, rdx', fl, rl⟩
        · cases e3
        · obtain ⟨v, v1, v2⟩ := rl.get e3
          exact ⟨y, G.ca c, dx', fs, v, rfl, rd, rdx', k.xf, g2, fl.2 j n v g1 v1, q m1 v H1 x1 r1 v2⟩⟩
    · refine .inr ⟨m, h, ρ, st, by
        rw [ev]
        intro m1 x H1 x1 r1 p1
        have sn := see r1 p1
        rw [e1] at sn
        obtain ⟨y, dx', fs, vs, rfl, hy, fl, rl⟩ := ins_sn sn
        obtain ⟨g1, g2, g3⟩ := cx.fixI c _ j e2
        rw [str_toList] at g1 g2
        obtain ⟨v, v1, v2⟩ := rl.get e3
        exact ⟨y, G.ca c, dx', fs, v, rfl, hy, g3, g2, fl.2 j n v g1 v1, q m1 v H1 x1 r1 v2⟩⟩
end
end PV
set_option Elab.async false
set_option autoImplicit false
set_option maxRecDepth 100000
set_option maxHeartbeats 2000000
namespace PV
open PySem PySem.Spec PyProof.Rows L2
def mapL (f : Expr → Option E) : List Expr → Option EL
  | [] => some .nil
  | e :: r => if starred e then none else match f e, mapL f r with
    | some c, some l => some (.cons c l)
    | _, _ => none
/-! ### more in the base -/
theorem frames_more {h b b' : Heap} : ∀ {l : List PySem.Env}, h.FunFrames b l → (∀ L ∈ frs l, b'.get? L = none) → h.FunFrames b' l
  | [], _, _ => trivial
  | env :: rest, ⟨k, ⟨L, o, e1, e2, e3, e4⟩, r⟩, n => by
    refine ⟨k, ⟨L, o, e1, n L ?_, e3, e4⟩, frames_more r fun L' hL' => n L' ?_⟩
    · exact List.mem_filterMap.mpr ⟨env, List.mem_cons_self, e1⟩
    · obtain ⟨e, he, q⟩ := List.mem_filterMap.mp hL'
      exact List.mem_filterMap.mpr ⟨e, List.mem_cons_of_mem _ he, q⟩
theorem env0_more {P : Program} {w : World} {K : PySem.W.Frag} {mg : Str → Option Value} {base : Heap} {A : Around} {outer : List PySem.Env} {s : Shared} {H : L2.Hp} (e : Env0 P w K mg base A outer s H) (p : Addr → Prop)
    (hp : ∀ b, p b → H b = none ∧ b ∉ frs outer) : ∃ base', Env0 P w K mg base' A outer s H ∧ (∀ b o, p b → s.heap.get? b = some o → base'.get? b = some o) := by
  classical
  have fr0 : ∀ {l : List PySem.Env}, s.heap.FunFrames base l → ∀ L ∈ frs l, base.get? L = none := fun {l} => by
    induction l with
    | nil => intro _ L hL; simp [frs] at hL
    | cons env rest ih =>
      rintro ⟨k, ⟨L0, o, e1, e2, e3, e4⟩, r⟩ L hL
      obtain ⟨en, he, q⟩ := List.mem_filterMap.mp hL
      rcases List.mem_cons.mp he with rfl | he
      · rw [e1] at q; cases q; exact e2
      · exact ih r L (List.mem_filterMap.mpr ⟨en, he, q⟩)
  refine ⟨hidT s.heap (fun b => if base.get? b ≠ none ∨ p b then none else some (.own b)), ?_, fun b o hb e1 => hidT_get e1 (if_pos (.inr hb))⟩
  have keep : ∀ b o, base.get? b = some o → (hidT s.heap (fun b => if base.get? b ≠ none ∨ p b then none else some (.own b))).get? b = some o := fun b o q => hidT_get (e.bs b o q).1 (if_pos (.inl (by rw [q]; simp)))
  have back : ∀ b o, (hidT s.heap (fun b => if base.get? b ≠ none ∨ p b then none else some (.own b))).get? b = some o → s.heap.get? b = some o ∧ (base.get? b ≠ none ∨ p b) := fun b o q => by
    obtain ⟨q1, q2⟩ := of_hidT q
    refine ⟨q1, ?_⟩
    by_cases z : base.get? b ≠ none ∨ p b
    · exact z
    · rw [if_neg z] at q2; cases q2
  obtain ⟨mb, m1, m2⟩ := e.mod.blt
  refine ⟨e.frames, ⟨e.mod.kin.keeps keep, e.mod.glob.keeps keep, ⟨mb, m1.keeps keep, m2⟩, e.mod.nolimit.keeps keep⟩, fun b o q => ?_, Nat.le_of_eq (hidT_size _ _), frames_more e.funs fun L hL => ?_, e.frf, e.hok, e.bare⟩
  · obtain ⟨q1, q2⟩ := back b o q
    refine ⟨q1, ?_⟩
    rcases q2 with q2 | q2
    · cases z : base.get? b with
      | none => exact absurd z q2
      | some o' => exact (e.bs b o' z).2
    · exact (hp b q2).1
  · cases q : (hidT s.heap (fun b => if base.get? b ≠ none ∨ p b then none else some (.own b))).get? L with
    | none => rfl
    | some o =>
      obtain ⟨_, q2⟩ := back L o q
      rcases q2 with q2 | q2
      · exact absurd (fr0 e.funs L hL) q2
      · exact absurd hL (hp L q2).2
/-! ### tables that grew -/
section
variable {G : Gx} {m : List Addr} {h : Hs} {H H' : L2.Hp}
theorem ext_tab (r : HRel G m h H) (x : LamX.ExtN H H') : Ext G m h H m h H' where
  pre := fun _ _ e => e
  rd := fun a u q _ t => by
    rcases q with q | ⟨o, q⟩
    · exact .inl (x a u q t)
    · exact .inr ⟨o, x a _ q fun ps z => by cases z⟩
  ins := fun a C dx fs q _ => x a _ q fun ps z => by cases z
  nl := fun a z => .inl z
  hot := fun a z => by
    rcases r.hotv a z with ⟨vs, q⟩ | ⟨vs, q⟩
    · rw [q]; exact x a _ q fun ps z => by cases z
    · rw [q]; exact x a _ q fun ps z => by cases z
theorem rel_tab (r : HRel G m h H) (x : LamX.ExtN H H') (t : LamX.Tabs G.tabs H') : HRel G m h H' := by
  refine ⟨r.len, fun i a c h1 h2 => (r.cell i a c h1 h2).mono (ext_tab r x) fun n => ?_, r.inj, fun a z => ?_, r.cold, t, fun p hp => ?_⟩
  · have q := r.cell i a c h1 h2
    cases c with
    | lst l => obtain ⟨vs, q1, _⟩ := q; rw [q1]; exact x a _ q1 fun ps z => by cases z
    | dct l => obtain ⟨vs, q1, _⟩ := q; rw [q1]; exact x a _ q1 fun ps z => by cases z
    | ins c l => obtain ⟨_, _, vs, q1, _⟩ := q; rw [q1]; exact x a _ q1 fun ps z => by cases z
    | non => exact absurd rfl n
    | _ => exact q.elim
  · rcases r.hotv a z with ⟨vs, q⟩ | ⟨vs, q⟩
    · exact .inl ⟨vs, x a _ q fun ps z => by cases z⟩
    · exact .inr ⟨vs, x a _ q fun ps z => by cases z⟩
  · obtain ⟨q1, φ, q2⟩ := r.kn p hp
    exact ⟨x _ _ q1 (by rw [q2]; exact nt_ext), φ, q2⟩
end
/-! ### calls of the lambda that is got -/
section
variable {X : Cx} {G : Gx} {C : Cl} {W : WX}
theorem LRun.j {P : Program} {w : World} {K : PySem.W.Frag} {mg : Str → Option Value} {base : Heap} {n : Nat} {kn : List (Addr × HO)} {pr : Prog} {z : CloI} (j : Nat) (r : LRun P w K mg base n G kn pr z) : LRun P w K mg base n G kn pr { z with j := j } := ⟨r.at_, r.run⟩
theorem se_capp (cx : Ctx G C W X) {z : CloI} (hz : G.ht.clo = some z) {x : Str} {p pos : Pos} {e : Expr} {es : List Expr} {l : EL} (hi : X.N[z.j]? = some x) (hv : Vis X.env.scope x) (hd : (x == ("__debug__" : Str)) = false) (hcd : (x == ("__classdict__" : Str)) = false) (hs : SA X G C W (e :: es) l) :
    SE X G C W (.Call (.Name x p) (e :: es) [] pos) (.capp l) := by
  refine .plain ⟨fun pins s σ H Q I ⟨m, h, ρ, st, ok⟩ => ?_⟩ rfl
  have L := cx.lam z hz
  simp only [evE] at ok
  have hsl := (st.clo z hz).1
  have at_ : ∀ {σ' : L2.St} {H1 : L2.Hp} {s1 : Shared}, Inv X pins σ' H1 s1 → PySem.W.FnAt z.a s1.heap := fun I1 => by
    obtain ⟨a1, a2, a3, a4, a5⟩ := L.at_
    exact ⟨a1, a2, a3, a4, I1.bk _ _ a5⟩
  have ht : tL G C W l σ H (fun vs H1 => spL G C.P C.lev z vs H1 Q (fun cls d H' => W cls d σ H')) := tL_step st ok fun ds h1 m1 vs H1 x1 r1 p1 st1 ok1 => by
    rw [cx.ks, hz, cx.call] at ok1
    exact ⟨m1, h1, ds, r1, p1, (st1.clo z hz).2, okR_mono ok1 (fun d h2 q m2 v H2 y r p => q m2 v H2 (x1.trans y) r p) fun cc ll h2 q m2 H2 cls d y r p => q m2 H2 cls d (x1.trans y) r p⟩
  refine wpAny_Call_Name_kw (thn ((pe_var (pos := p) hi hv hd hcd).run pins s σ H (fun v H1 => v = .ref z.a ∧ H1 = H) I ⟨.ref z.a, hsl, rfl, rfl⟩) fun u s1 ⟨v, H1, I1, r1, ev, eH⟩ => ?_)
  subst ev
  rw [eH] at I1
  obtain rfl : u = Value.ref z.a := r1
  refine PySem.W.callWith_F (first := []) (at_ I1) (thn (hs.pa.run pos pins s1 σ H _ I1 ht) fun us s2 ⟨vs, H2, I2, r2, q⟩ => ⟨at_ I2, ?_⟩) (starEach_cons (hs.st e (by simp))) (backTo_any fun e' he => hs.st e' (by simp [he]))
  show wpAny _ _ (call (.ref z.a) us) _ _ _
  refine wpAny_call (codeAny_mono (L.run C.lev (Nat.le_refl _) G.hot X.A X.stack s2 H2 us vs Q _ cx.room I2.env0 r2 (spL_to q)) fun r s' hq => ?_)
  cases r with
  | error e => exact cx.tk.call I2 (fun _ _ _ z => z) hq
  | ok fl =>
    cases fl with
    | ret u => exact I2.after hq
    | next => exact hq.elim
    | brk => exact hq.elim
    | cont => exact hq.elim
/-- arguments, then a last one of another kind -/
theorem args_last {f : Expr → Option E} (hE : ∀ e c, f e = some c → SE X G C W e c) {last : Expr} (hl : starred last = false) {pos : Pos} {pins : List (Addr × Obj)} {σ : L2.St} {Qf : List Value → Shared → Prop} :
    ∀ {es : List Expr} {l : EL}, mapL f es = some l → ∀ {s : Shared} {H : L2.Hp} {Q0 : List V → L2.Hp → Prop}, Inv X pins σ H s → tL G C W l σ H Q0 →
      (∀ vs us s1 H1, Inv X pins σ H1 s1 → Vals vs us → Q0 vs H1 → wpAny (model X.prog X.w) X.A (eval last X.env) (fun u s2 => Qf (us ++ [u]) s2) X.xe s1) →
      wpAny (model X.prog X.w) X.A (spliced (backTo pos (starEach (es ++ [last]) X.env))) Qf X.xe s
  | [], l, e, s, H, Q0, I, ⟨m, h, ρ, st, ok⟩, k => by
    cases e
    simp only [evL] at ok
    rw [List.nil_append, starEach_cons hl]
    show wpAny _ _ (spliced ((false, eval last X.env) :: backTo pos (starEach [] X.env))) _ _ s
    exact Calls.spliced_cons (thn (k [] [] s H I .nil (ok m [] H .refl st.rel .nil)) fun u s2 q => Calls.spliced_nil q)
  | a :: r, l, e, s, H, Q0, I, h, k => by
    simp only [mapL] at e
    split at e
    · cases e
    · rename_i hs
      split at e
      · rename_i c l' h1 h2
        cases e
        rw [List.cons_append, starEach_cons (by simpa using hs)]
        show wpAny _ _ (spliced ((false, eval a X.env) :: backTo pos (starEach (r ++ [last]) X.env))) _ _ s
        have ht : tE G C W c σ H (fun x H1 => tL G C W l' σ H1 fun xs H2 => Q0 (x :: xs) H2) := by
          obtain ⟨m, h, ρ, st, ok⟩ := h
          simp only [evL] at ok
          refine tE_step st ok fun dx h1 m1 x H1 x1 r1 p1 st1 ok1 => ?_
          refine tL_step (m := m1) (h := h1) (H := H1) st1 (okX_later x1 ok1 fun _ _ q => q) fun dy h2 m2 y H2 x2 r2 p2 st2 ok2 => ?_
          exact ok2 m2 (x :: y) H2 (x1.trans x2) r2 (.cons (p1.mono x2) p2)
        refine Calls.spliced_cons (thn ((hE _ _ h1).pe.run pins s σ H _ I ht) fun u s1 ⟨x, H1, I1, r1, q1⟩ => ?_)
        exact args_last (Qf := fun us s2 => Qf (u :: us) s2) hE hl h2 I1 q1 fun vs us s2 H2 I2 r2 q2 => k (x :: vs) (u :: us) s2 H2 I2 (.cons r1 r2) q2
      · cases e
theorem starEach_app {env : PySem.Env} {last : Expr} (hl : starred last = false) : ∀ {es : List Expr} {f : Expr → Option E} {l : EL}, mapL f es = some l → (starEach (es ++ [last]) env).any (·.1) = false ∧ ∃ e r, es ++ [last] = e :: r ∧ starred e = false ∧ ∀ e' ∈ r, starred e' = false
  | [], f, l, e => ⟨by rw [List.nil_append, starEach_cons hl]; rfl, last, [], rfl, hl, fun _ z => by simp at z⟩
  | a :: r, f, l, e => by
    simp only [mapL] at e
    split at e
    · cases e
    · rename_i hs
      split at e
      · rename_i c l' h1 h2
        obtain ⟨q1, e2, r2, q2, q3, q4⟩ := starEach_app (env := env) hl h2
        have hs : starred a = false := by simpa using hs
        refine ⟨by rw [List.cons_append, starEach_cons hs]; simpa using q1, a, r ++ [last], rfl, hs, fun e' he => ?_⟩
        rw [q2] at he
        rcases List.mem_cons.mp he with rfl | he
        · exact q3
        · exact q4 _ he
      · cases e
/-- a call of a def that gets a lambda -/
theorem se_hcall (cx : Ctx G C W X) {f j : Nat} {x : Str} {p pos : Pos} {es : List Expr} {last : Expr} {ce : E} {fd : FuncData} {ps : List Str}
    (F : ∀ base hot kn z, z.j = j → LRun X.prog X.w X.K X.mg base C.lev G kn C.P z → FOk X.prog X.w X.K X.mg base C.lev (G.fa f) fd ps (spK (G.heat ⟨hot, kn, some z⟩) C.P C.lev f z)) (hk : PySem.W.keepIn X.K (.ref (G.fa f)) = true) (hb : Binds X.K fd ps [])
    (hm : X.mg x = some (.ref (G.fa f))) (hg : Gl X x) (hd : (x == ("__debug__" : Str)) = false) {fE : Expr → Option E} {l : EL} (hme : mapL fE es = some l) (hls : starred last = false)
    (hr : ∀ pins s σ H Q, Inv X pins σ H s → tE G C W ce σ H Q → wpAny (model X.prog X.w) X.A (spliced (backTo pos (starEach (es ++ [last]) X.env))) (fun us s1 => ∃ base kn z vs H1, z.j = j ∧ LRun X.prog X.w X.K X.mg base C.lev G kn C.P z ∧
      Env0 X.prog X.w X.K X.mg base X.A X.stack s1 H1 ∧ Inv X pins σ H1 s1 ∧ Vals vs us ∧ spK (G.heat ⟨G.hot, kn, some z⟩) C.P C.lev f z vs H1 Q (fun cls d H' => W cls d σ H')) X.xe s) :
    SE X G C W (.Call (.Name x p) (es ++ [last]) [] pos) ce := by
  refine .plain ⟨fun pins s σ H Q I h => ?_⟩ rfl
  have q0 := hr pins s σ H Q I h
  obtain ⟨_, e, r, e1, e2, e3⟩ := starEach_app (env := X.env) hls hme
  refine wpAny_Call_Name_kw (ld_glob I hg hm ?_ hd)
  rw [e1] at q0 ⊢
  refine PySem.W.callWith_K (h₀ := X.base) I.ok.mod.kin hk (thn q0 fun us s1 ⟨base, kn, z, vs, H1, hj, L, E0, I1, rv, q⟩ => ⟨I1.kIn, ?_⟩) (starEach_cons e2) (backTo_any fun e' he => e3 e' he)
  show wpAny _ _ (call (.ref (G.fa f)) us) _ _ _
  have F1 := F base G.hot kn z hj L
  have hl : us.length = ps.length := by rw [← rv.length]; exact F1.len _ _ _ _ q
  have hz : us ++ [] = us := List.append_nil us
  have hb' := hb s1 us I1.kIn (by rw [hz]; exact hl)
  rw [hz] at hb'
  refine wpAny_call (codeAny_mono (F1.run X.A X.stack s1 H1 ⟨us, []⟩ us vs Q _ cx.room E0 hb' rv q) fun r s' hq => ?_)
  cases r with
  | error e => exact cx.tk.call I1 (fun _ _ _ z => z) hq
  | ok fl =>
    cases fl with
    | ret u => exact I1.after hq
    | next => exact hq.elim
    | brk => exact hq.elim
    | cont => exact hq.elim
/-- f(.., leaf), leaf the lambda that is got -/
theorem se_callp (cx : Ctx G C W X) {z : CloI} (hz : G.ht.clo = some z) {f : Nat} {x y : Str} {p p2 pos : Pos} {es : List Expr} {l : EL} (hx : G.gl.lookup x = some (.hf f)) (hg : Gl X x) (hd : (x == ("__debug__" : Str)) = false)
    (hi : X.N[z.j]? = some y) (hv : Vis X.env.scope y) (hyd : (y == ("__debug__" : Str)) = false) (hcd : (y == ("__classdict__" : Str)) = false) {fE : Expr → Option E} (hE : ∀ e c, fE e = some c → SE X G C W e c) (hme : mapL fE es = some l) :
    SE X G C W (.Call (.Name x p) (es ++ [.Name y p2]) [] pos) (.callp f l) := by
  obtain ⟨hf, hm⟩ := cx.ghf x f hx
  obtain ⟨fd, ps, j, F, hk, hb⟩ := cx.hfs f hf
  refine se_hcall cx F hk hb hm hg hd hme rfl fun pins s σ H Q I ⟨m, h, ρ, st, ok⟩ => ?_
  have hsl := (st.clo z hz).1
  simp only [evE] at ok
  refine args_last (Q0 := fun vs H1 => ∃ m1 h1 ds, HRel G m1 h1 H1 ∧ RepL G H1 (Live G m1 h1) m1 ds vs ∧ RepL G H1 (Live G m1 h1) m1 z.ds z.vs ∧ okR (callK C.P C.lev (some (z.f, z.ds)) f ds h1)
      (fun d h' => ∀ m' v H', Ext G m1 h1 H1 m' h' H' → HRel G m' h' H' → Rep G H' (Live G m' h') m' d v → Q v H')
      (fun c l h' => ∀ m' H' cls d, Ext G m1 h1 H1 m' h' H' → HRel G m' h' H' → RepX G H' (Live G m' h') m' c l cls d → W cls d σ H')) hE rfl hme I
    (tL_step st ok fun ds h1 m1 vs H1 x1 r1 p1 st1 ok1 => by
      rw [cx.ks, hz, cx.kall] at ok1
      exact ⟨m1, h1, ds, r1, p1, (st1.clo z hz).2, okR_mono ok1 (fun d h2 q m2 v H2 y r p => q m2 v H2 (x1.trans y) r p) fun cc ll h2 q m2 H2 cls d y r p => q m2 H2 cls d (x1.trans y) r p⟩) fun vs us s1 H1 I1 rv ⟨m1, h1, ds, r1, p1, pz, ok1⟩ => ?_
  refine thn ((pe_var (pos := p2) hi hv hyd hcd).run pins s1 σ H1 (fun v H2 => v = .ref z.a ∧ H2 = H1) I1 ⟨.ref z.a, hsl, rfl, rfl⟩) fun u s2 ⟨v, H2, I2, r2, ev, eH⟩ => ?_
  subst ev
  rw [eH] at I2
  obtain rfl : u = Value.ref z.a := r2
  refine ⟨X.base, G.ht.kn, { z with j := j }, vs ++ [.ref z.a], H1, rfl, (cx.lam z hz).j j, I2.env0, I2, rv.append (.cons (show L2.RelV (V.ref z.a) (Value.ref z.a) from rfl) .nil), ?_⟩
  exact spK_to (z := { z with j := j }) G.ht.kn r1.kn (fun _ h => h) ⟨vs, m1, h1, ds, rfl, r1, p1, pz, ok1⟩
theorem setsOf_rep {m : List Addr} {h : Hs} {ρ : Env} {σ : L2.St} {H : L2.Hp} (st : Stt G m h ρ σ H) : ∀ {is : List Nat} {cs : List D}, setsOf ρ is = some cs → ∃ ws, is.map (NdefX.slotAt σ) = ws.map some ∧ RepL G H (Live G m h) m cs ws
  | [], cs, e => by cases e; exact ⟨[], rfl, .nil⟩
  | i :: is, cs, e => by
    simp only [setsOf] at e
    split at e
    · rename_i d hd
      obtain ⟨cs', e1, rfl⟩ := Option.map_eq_some_iff.mp e
      obtain ⟨ws, q1, q2⟩ := setsOf_rep st e1
      obtain ⟨v, h1, h2⟩ := st.slot i d hd
      exact ⟨v :: ws, by simp only [List.map_cons, q1, NdefX.slotAt_of h1], .cons h2 q2⟩
    · cases e
/-- the running def's own table of code objects -/
def OwnT (X : Cx) (G : Gx) : Prop := ∃ c P, X.env.code = .ref c ∧ LamX.TabB X.base X.mg c P ∧ (P, X.env.qual ++ "<lambda>") ∈ G.tabs
/-- f(.., lambda ..: body) -/
theorem se_calll (cx : Ctx G C W X) (own : OwnT X G) {f g : Nat} {x : Str} {p lpos pos : Pos} {es : List Expr} {l : EL} {fr ps0 : List Str} {is : List Nat} {params : Arguments} {body : Expr} {scope : Scope} (hx : G.gl.lookup x = some (.hf f)) (hg : Gl X x) (hd : (x == ("__debug__" : Str)) = false)
    (ht : G.lamT g ps0 fr params body scope) (hdef : defaultsOf params X.env = ([], [])) (hnd : NdefX.ndefB X.env.scope scope fr = true) (hfn : ∀ y ∈ fr, X.fn y = true) (hfr : ∀ y ∈ scope.names, y.2 = .free → y.1 ∈ fr) (hjs : is.map (fun j => X.N[j]?) = fr.map some)
    {fE : Expr → Option E} (hE : ∀ e c, fE e = some c → SE X G C W e c) (hme : mapL fE es = some l) :
    SE X G C W (.Call (.Name x p) (es ++ [.Lambda params body scope lpos]) [] pos) (.calll f l g is) := by
  obtain ⟨hf, hm⟩ := cx.ghf x f hx
  obtain ⟨fd, ps, j, F, hk, hb⟩ := cx.hfs f hf
  obtain ⟨c, P, hcode, TB, hmT⟩ := own
  refine se_hcall cx F hk hb hm hg hd hme rfl fun pins s σ H Q I ⟨m, h, ρ, st, ok⟩ => ?_
  simp only [evE] at ok
  refine args_last (Q0 := fun vs H1 => ∃ m1 h1 ds cs, Stt G m1 h1 ρ σ H1 ∧ RepL G H1 (Live G m1 h1) m1 ds vs ∧ setsOf ρ is = some cs ∧ okR (callK C.P C.lev (some (g, cs)) f ds h1)
      (fun d h' => ∀ m' v H', Ext G m1 h1 H1 m' h' H' → HRel G m' h' H' → Rep G H' (Live G m' h') m' d v → Q v H')
      (fun c l h' => ∀ m' H' cls d, Ext G m1 h1 H1 m' h' H' → HRel G m' h' H' → RepX G H' (Live G m' h') m' c l cls d → W cls d σ H')) hE rfl hme I
    (tL_step st ok fun ds h1 m1 vs H1 x1 r1 p1 st1 ok1 => by
      obtain ⟨cs, e, ok1⟩ := okR_ofO (okR_then ok1)
      rw [cx.kall] at ok1
      exact ⟨m1, h1, ds, cs, st1, p1, e, okR_mono ok1 (fun d h2 q m2 v H2 y r p => q m2 v H2 (x1.trans y) r p) fun cc ll h2 q m2 H2 cls d y r p => q m2 H2 cls d (x1.trans y) r p⟩) fun vs us s1 H1 I1 rv ⟨m1, h1, ds, cs, st1, p1, ecs, ok1⟩ => ?_
  have hfree := NdefX.ndef_free hnd
  have hfr' := NdefX.ndef_fr hnd
  have has : ∀ y ∈ scope.names, y.2 = .free → ∃ c, X.env.cells.lookup y.1 = some c := fun y hy e => (hfree y hy e).elim (fun z => I.ok.has _ (.inl z)) fun z => I.ok.has _ (.inr z)
  refine LamX.lam_make2 (T := G.tabs) I1 TB hcode hmT (fun p hp e => cx.tabu p hp _ hmT e) st1.rel.tab hdef has fun a c' pm ctv H2 s2 I2 xN tN ha na nf hc => ?_
  have e2 : Ext G m1 h1 H1 m1 h1 H2 := ext_tab st1.rel xN
  have r2 : HRel G m1 h1 H2 := rel_tab st1.rel xN tN
  have st2 := st1.later e2 r2
  obtain ⟨ws, hw, rw_⟩ := setsOf_rep st2 ecs
  have CA := NdefX.cells_of I2 (NdefX.Caps.made I2.ok hfree hfr' hjs)
  rw [hw] at CA
  have lk : ∀ y c0, (cloFrom X.env.cells scope.names []).lookup y = some c0 → X.env.cells.lookup y = some c0 ∧ y ∈ fr := fun y c0 e => by
    refine ⟨NdefX.clo_cm has e, ?_⟩
    rcases cloFrom_mem (PySem.mem_of_lookup e) with q | ⟨q, _⟩
    · cases q
    · exact hfr _ q rfl
  obtain ⟨base', E0, bb⟩ := env0_more I2.env0 (fun b => b = a ∨ ∃ y, (cloFrom X.env.cells scope.names []).lookup y = some b) fun b hb => by
    rcases hb with rfl | ⟨y, hy⟩
    · exact ⟨na, nf⟩
    · refine ⟨(CA.all y b hy).1, fun z => ?_⟩
      obtain ⟨q1, q2⟩ := lk y b hy
      rcases List.mem_cons.mp (I2.stkSub _ z) with e | e
      · exact I2.cne y b q1 e
      · have h1 := I2.ok.cab y b (hfn y q2) q1
        obtain ⟨_, o, ho, _⟩ := I2.ok.funs.mem e
        exact absurd (Heap.lt_size ho) (Nat.not_lt.mpr h1)
  have cellB : ∀ y c0 v, (cloFrom X.env.cells scope.names []).lookup y = some c0 → s2.heap.IsCell c0 v → base'.IsCell c0 v := fun y c0 v hy ⟨o, ho, hd⟩ => ⟨o, bb c0 o (.inr ⟨y, hy⟩) ho, hd⟩
  have hlen : cs.length = fr.length := by
    have q1 := congrArg List.length hw
    have q2 := congrArg List.length hjs
    have q3 := rw_.length
    simp only [List.length_map] at q1 q2
    omega
  have LR := cx.mkl g ps0 fr params body scope ht base' (G.ht.kn ++ [(c', LamX.CodeO c' (X.env.qual ++ "<lambda>"))]) ⟨j, a, g, cs, ws⟩ rfl
    ⟨X.env.qual ++ "<lambda>", cloFrom X.env.cells scope.names [], c', pm, ctv, bb a _ (.inl rfl) ha, by simp, hlen, by rw [← hlen]; exact rw_.length.symm, fun y c0 hy => by
      obtain ⟨v, q⟩ := (CA.all y c0 hy).2
      exact ⟨v, cellB y c0 v hy q⟩, CA.inj, fun i y hy => by
      obtain ⟨c0, q1, q2⟩ := CA.has i y hy
      refine ⟨c0, q1, fun v hv => ?_⟩
      obtain ⟨u, q3, q4⟩ := q2 v (by rw [List.getElem?_map, show ws[i]? = some v from hv] <;> rfl)
      exact ⟨u, q3, cellB y c0 _ q1 q4⟩⟩
  refine ⟨base', _, ⟨j, a, g, cs, ws⟩, vs ++ [.ref a], H2, rfl, LR, E0, I2, rv.append (.cons (show L2.RelV (V.ref a) (Value.ref a) from rfl) .nil), ?_⟩
  refine spK_to (z := ⟨j, a, g, cs, ws⟩) _ (fun q hq => ?_) (fun q hq => List.mem_append_left _ hq) ⟨vs, m1, h1, ds, rfl, r2, p1.mono e2, rw_, okR_mono ok1 (fun d h2 q m2 v H2 y r p => q m2 v H2 (e2.trans y) r p) fun cc ll h2 q m2 H2 cls d y r p => q m2 H2 cls d (e2.trans y) r p⟩
  rcases List.mem_append.mp hq with hq | hq
  · exact r2.kn q hq
  · simp only [List.mem_singleton] at hq
    subst hq
    exact ⟨hc, _, rfl⟩
end
/-! ### the lambda runs -/
theorem lam_bind1 {a : Str} {p1 : Pos} {q : Str} {body : Expr} {scope : Scope} {cl : List (Str × Addr)} {pm cv ctv : Value} {u : Value} :
    bindArgs (PySem.W.kla_fn "<lambda>" q ⟨[], [⟨a, none, p1⟩], none, [], [], none, []⟩ body scope cl pm cv ctv) ⟨[u], []⟩ = pure ([a].zip [u]) := by
  have e : (a == a) = true := beq_self_eq_true a
  have n : notAStandIn Value.none = pure () := rfl
  simp [bindArgs, seqItems?, List.lookup, e, n]
theorem lam_bind2 {a b : Str} (h : (a == b) = false) {p1 p2 : Pos} {q : Str} {body : Expr} {scope : Scope} {cl : List (Str × Addr)} {pm cv ctv : Value} {u v : Value} :
    bindArgs (PySem.W.kla_fn "<lambda>" q ⟨[], [⟨a, none, p1⟩, ⟨b, none, p2⟩], none, [], [], none, []⟩ body scope cl pm cv ctv) ⟨[u, v], []⟩ = pure ([a, b].zip [u, v]) := by
  have e : (a == a) = true := beq_self_eq_true a
  have h2 : (b == a) = false := by simp only [beq_eq_false_iff_ne, ne_eq] at h ⊢; exact fun z => h z.symm
  have n : notAStandIn Value.none = pure () := rfl
  simp [bindArgs, seqItems?, List.lookup, e, h, h2, n]
/-- one or two plain parameters -/
def lamP : Arguments → Option (List Str)
  | ⟨[], [⟨a, none, _⟩], none, [], [], none, []⟩ => some [a]
  | ⟨[], [⟨a, none, _⟩, ⟨b, none, _⟩], none, [], [], none, []⟩ => if (a == b) then none else some [a, b]
  | _ => none
theorem lamP_ok {params : Arguments} {ps : List Str} (h : lamP params = some ps) : (∀ (q : Str) (body : Expr) (scope : Scope) (cl : List (Str × Addr)) (pm cv ctv : Value) (us : List Value), us.length = ps.length → bindArgs (PySem.W.kla_fn "<lambda>" q params body scope cl pm cv ctv) ⟨us, []⟩ = pure (ps.zip us)) ∧
    ∀ env, defaultsOf params env = ([], []) := by
  unfold lamP at h
  split at h
  · cases h
    refine ⟨fun q body scope cl pm cv ctv us hl => ?_, fun env => rfl⟩
    match us, hl with
    | [u], _ => exact lam_bind1
  · split at h
    · cases h
    · rename_i hne
      cases h
      refine ⟨fun q body scope cl pm cv ctv us hl => ?_, fun env => rfl⟩
      match us, hl with
      | [u, v], _ => exact lam_bind2 (by simpa using hne)
  · cases h
end PV
set_option Elab.async false
set_option autoImplicit false
set_option maxRecDepth 100000
set_option maxHeartbeats 2000000
namespace PV
open PySem PySem.Spec PyProof.Rows L2
section
variable {X : Cx} {G : Gx} {C : Cl} {W : WX} {pos p : Pos}
theorem ss_tryO (cx : Ctx G C W X) (tk : Takes X W) (hs : X.stack = X.env :: X.outer) (hf : X.env.frame = some X.env.locals) {x y : Str} {j c : Nat} {sup : List Nat} {fl : List Str} {cs : List Nat} {body : List Stmt} {b : SL} {np py pa pos' : Pos} {ec : Expr} {d : D} {v : V} (hd : valD d = some v)
    (hrep : ∀ (H : L2.Hp) (Lv : Addr → Prop) (m : List Addr), Rep G H Lv m d v) (hec : ∀ (Y : Cx), PE Y ec (tAt (.cst d))) (hsw : ∀ env, swapsWith ec (some (.Name y py)) pa.line env = pure false)
    (nj : NoClo G j) (hj : X.N[j]? = some y) (hjl : Loc X.env.scope y) (hjf : X.fn y = true ∨ X.env.scope.names.lookup y = some .local) (hx : G.gl.lookup x = some (.cls c sup fl)) (hg : Gl X x) (hdb : (x == ("__debug__" : Str)) = false)
    (hcs : ∀ z c' s' f', G.gl.lookup z = some (.cls c' s' f') → cs.contains c' = s'.contains c)
    (hb : ∀ (W' : WX) (pn : List (Addr × Obj)) (xe : Value → Shared → Prop), Takes (X.tr pn xe) W' → PassesOwn (model X.prog X.w) X.A X.env xe → PSs (X.tr pn xe) body (tSL G C W' b)) :
    PS X (.Try body [.ExceptHandler (some (.Name x np)) none [.Assign [.Name y py] ec pa] pos'] [] [] pos) (tS G C W (.tryx b (.cons cs none (.cons (.asg (.nm j) (.cst d)) .nil) .nil))) := by
  have kc := cx.gcl x c sup fl hx
  refine ps_of (ps_try_only (tb := fun W' => tSL G C W' b) (ts := fun _ _ _ => tAsg (tAt (.cst d)) (gName j)) hs hf ⟨hg, hdb, .inl kc.at_⟩ tk hb fun a oe cls d' pn _ _ => pss_one (ps_set (X := X.suite a ((a, oe) :: pn)) cx.nd hj hjl (hec _) (hsw _) hjf)) fun Z σ H ⟨m, h, ρ, st, ok⟩ => ?_
  refine ⟨m, h, ρ, st, ?_⟩
  simp only [evS] at ok
  cases e : evSL C b ρ h with
  | nx _ _ => rw [e] at ok; exact ok
  | rt _ _ => rw [e] at ok; exact ok
  | bk _ _ => rw [e] at ok; exact ok
  | ct _ _ => rw [e] at ok; exact ok
  | bad => rw [e] at ok; exact ok
  | ex c' l ρ' h' =>
    rw [e] at ok
    intro m' σ' H' cls d' xx s' rx
    obtain ⟨rfl, ⟨z, s2, f2, hz⟩, rx'⟩ := id rx
    have k := cx.gcl z c' s2 f2 hz
    have hq := hcs z c' s2 f2 hz
    refine ⟨s2.contains c, PySem.W.exm_ref kc.exb kc.hd kc.ty (k.sub x c sup fl hx).1, fun hyes a na => ?_, fun hno => ?_⟩
    · rw [hyes] at hq
      simp only [evH, hq, if_true, evSL, evS, evE, R.thenS, Pat.bnd, R.ofO, SR.then] at ok
      exact ⟨v, hd, ok m' _ _ xx (s'.set (i := j) nj (hrep _ _ _))⟩
    · rw [hno] at hq
      simp only [evH, hq, if_false, Bool.false_eq_true] at ok
      exact ok m' σ' H' _ d' xx s' rx
/-- dict(e) as a cell -/
theorem se_boxDict (hK : X.K = G.K) {x : Str} {e : Expr} {ce : E} (hx : x = "dict") (hg : Gl X "dict") (hm : X.mg "dict" = none) (he : SE X G C W e ce) (hs : starred e = false) :
    SE X G C W (.Call (.Name x p) [e] [] pos) (.box (.blt .dict (.cons ce .nil))) := by
  subst hx
  have sa := sa_cons he sa_nil hs
  refine .plain (pe_of (pe_callTy call_dictD hg hm PyProof.Rows.boot_dict sa.pa (by decide +kernel) (by decide +kernel) (starEach_cons hs) rfl) fun σ H Q ⟨m, h, ρ, st, ok⟩ => ?_) rfl
  simp only [evE] at ok
  have ok := okR_then ok
  refine tL_step st ok fun ds h1 m1 vs H1 x1 r1 p1 st1 ok1 => ?_
  obtain ⟨d, ed, qd⟩ := okR_ofO ok1
  obtain ⟨z, rfl⟩ := blt_one (b := .dict) (fun l hl => by
    match l with
    | [] => rfl
    | [_] => simp at hl
    | _ :: _ :: _ => rfl) ed
  obtain ⟨v, rfl, rx⟩ := p1.one
  have px := see r1 rx
  simp only [blt] at ed
  generalize vw h1 z = y at px ed
  cases px with
  | @dct l kvs a s1 k1 k2 l1 =>
    cases ed
    refine ⟨a, kvs, rfl, s1, fun p hp => ?_⟩
    simp only [boxed, if_true, okR] at qd
    have xx : Ext G m1 h1 H1 (m1 ++ [p]) (h1 ++ [.dct l]) (upd H1 p (.dK kvs)) := Ext.cell r1 hp
    refine qd (m1 ++ [p]) (.ref p) _ (x1.trans xx) (HRel.snoc r1 hp ⟨kvs, upd_same, k1, k2, l1.mono xx⟩) (.ref ?_)
    rw [← r1.len]
    simp
  | _ => cases ed
/-- the lambda that is got, called without arguments -/
theorem se_capp0 (cx : Ctx G C W X) {z : CloI} (hz : G.ht.clo = some z) {x : Str} (hi : X.N[z.j]? = some x) (hv : Vis X.env.scope x) (hd : (x == ("__debug__" : Str)) = false) (hcd : (x == ("__classdict__" : Str)) = false) :
    SE X G C W (.Call (.Name x p) [] [] pos) (.capp .nil) := by
  refine .plain ⟨fun pins s σ H Q I ⟨m, h, ρ, st, ok⟩ => ?_⟩ rfl
  have L := cx.lam z hz
  simp only [evE, evL] at ok
  have hsl := (st.clo z hz).1
  have at_ : ∀ {σ' : L2.St} {H1 : L2.Hp} {s1 : Shared}, Inv X pins σ' H1 s1 → PySem.W.FnAt z.a s1.heap := fun I1 => by
    obtain ⟨a1, a2, a3, a4, a5⟩ := L.at_
    exact ⟨a1, a2, a3, a4, I1.bk _ _ a5⟩
  rw [cx.ks, hz] at ok
  replace ok : okR (C.call z.f ([] ++ z.ds) h) _ _ := ok
  rw [List.nil_append] at ok
  have q : spL G C.P C.lev z [] H Q (fun cls d H' => W cls d σ H') := ⟨m, h, [], st.rel, .nil, (st.clo z hz).2, by
    rw [cx.call] at ok
    exact ok⟩
  refine wpAny_Call_Name_kw (thn ((pe_var (pos := p) hi hv hd hcd).run pins s σ H (fun v H1 => v = .ref z.a ∧ H1 = H) I ⟨.ref z.a, hsl, rfl, rfl⟩) fun u s1 ⟨v, H1, I1, r1, ev, eH⟩ => ?_)
  subst ev
  rw [eH] at I1
  obtain rfl : u = Value.ref z.a := r1
  refine PySem.W.callWith_F0 (at_ I1) ?_
  show wpAny _ _ (call (.ref z.a) []) _ _ _
  refine wpAny_call (codeAny_mono (L.run C.lev (Nat.le_refl _) G.hot X.A X.stack s1 H [] [] Q _ cx.room I1.env0 .nil (spL_to q)) fun r s' hq => ?_)
  cases r with
  | error e => exact cx.tk.call I1 (fun _ _ _ z => z) hq
  | ok fl =>
    cases fl with
    | ret u => exact I1.after hq
    | next => exact hq.elim
    | brk => exact hq.elim
    | cont => exact hq.elim
end
end PV
set_option Elab.async false
set_option autoImplicit false
set_option maxRecDepth 100000
set_option maxHeartbeats 2000000
namespace PV
open PySem PySem.Spec PyProof.Rows L2
/-- the texts gathered, each once -/
def put1 (l : List Str) (x : Str) : List Str := if x ∈ l then l else x :: l
def gath (xs : List Str) : List Str := xs.foldl put1 []
theorem put1_mem {l : List Str} {x y : Str} : y ∈ put1 l x ↔ y ∈ l ∨ y = x := by
  unfold put1
  split
  · rename_i h
    exact ⟨.inl, fun z => z.elim id fun e => e ▸ h⟩
  · rw [List.mem_cons]; exact Or.comm
theorem put1_nd {l : List Str} {x : Str} (h : l.Nodup) : (put1 l x).Nodup := by
  unfold put1
  split
  · exact h
  · rename_i z; exact List.nodup_cons.mpr ⟨z, h⟩
theorem put1_len {l : List Str} {x : Str} : (put1 l x).length ≤ l.length + 1 := by
  unfold put1
  split <;> simp
theorem foldl_mem {y : Str} : ∀ (xs l : List Str), y ∈ xs.foldl put1 l ↔ y ∈ l ∨ y ∈ xs
  | [], l => by simp
  | x :: r, l => by
    rw [List.foldl_cons, foldl_mem r, put1_mem, List.mem_cons, or_assoc]
theorem foldl_nd : ∀ (xs : List Str) {l : List Str}, l.Nodup → (xs.foldl put1 l).Nodup
  | [], _, h => h
  | x :: r, _, h => by rw [List.foldl_cons]; exact foldl_nd r (put1_nd h)
theorem foldl_len : ∀ (xs l : List Str), (xs.foldl put1 l).length ≤ l.length + xs.length
  | [], l => by simp
  | x :: r, l => by
    rw [List.foldl_cons, List.length_cons]
    have := foldl_len r (put1 l x)
    have := put1_len (l := l) (x := x)
    omega
/-- the set of texts at a: l, each once -/
def TSt (P : Program) (w : World) (h : Heap) (a : Addr) (l : List Str) : Prop :=
  ∃ D : Froz.SD, h.get? a = some (Froz.sObj "set" D) ∧ Froz.TxOk P w D l ∧ l.Nodup ∧ Ris D.2.2.place.toList ∧ (w.params.followText "set-order" = true ∨ D.2.2.led = true)
section
variable {P : Program} {w : World} {A : Around} {E : Value → Shared → Prop} {s : Shared} {a : Addr} {l : List Str}
theorem TSt.at {h h' : Heap} (T : TSt P w h a l) (k : ∀ o, h.get? a = some o → h'.get? a = some o) : TSt P w h' a l := by
  obtain ⟨D, e, r⟩ := T
  exact ⟨D, k _ e, r⟩
theorem tail_ris {ep : Nat} {es : Array (Int × Value)} {t : SetTable} {b : Bool} (h : Ris t.place.toList) : Ris (Froz.tailTx ep es t b).2.2.place.toList ∧ (Froz.tailTx ep es t b).2.2.led = t.led := by
  unfold Froz.tailTx
  split
  · exact ⟨relayAll_ris _ _ _, relayAll_led _ _ _⟩
  · exact ⟨h, rfl⟩
theorem add_ris {h : Int} {v : Value} {D : Froz.SD} (r : Ris D.2.2.place.toList) : Ris (Froz.addTx h v D).2.2.place.toList ∧ (Froz.addTx h v D).2.2.led = D.2.2.led := by
  have r1 := layNew_ris D.2.2 D.1 h v r
  have l1 := layNew_led D.2.2 D.1 h v
  unfold Froz.addTx
  obtain ⟨q1, q2⟩ := tail_ris (ep := D.2.1) (es := (layNew D.2.2 D.1 h v).1) (b := (layNew D.2.2 D.1 h v).2.2.1) (t := if (layNew D.2.2 D.1 h v).2.1.plain = true then { (layNew D.2.2 D.1 h v).2.1 with plain := false } else (layNew D.2.2 D.1 h v).2.1) (by split <;> exact r1)
  refine ⟨q1, q2.trans ?_⟩
  split <;> exact l1
theorem tst_add {k : Str} {u : Tok} {Q : Bool → Shared → Prop} (T : TSt P w s.heap a l) (hb : l.length + 1 < scanBound)
    (hQ : ∀ h' b, Heap.SameBut a s.heap h' → TSt P w h' a (put1 l k) → Q b { s with heap := h' }) : wpAny (model P w) A (setAddHashed a (.str k u) ((strKind P w).hash k)) Q E s := by
  obtain ⟨D, ho, F, nd, hr, hl⟩ := T
  by_cases hk : k ∈ l
  · obtain ⟨es, ep, t⟩ := D
    have hd : (Froz.sObj "set" (es, ep, t)).data = .set es ep t := rfl
    have hf : t.fits es.size = true := F.fit
    have hel : ElemsOf (strKind P w) es.toList := F.el
    have hsz : es.size = l.length := F.sz
    have hb0 : es.size < scanBound := by omega
    have hkey : (strKind P w).is k (.str k u) = true := Froz.is_str k u
    obtain ⟨e, he, pe⟩ := (F.mem k).mp hk
    unfold setAddHashed setAddHashedIn
    refine wpAny_holding (wpAny_bind (wpAny_setState_of ho hd hf ?_))
    dsimp only
    rw [byScan_of rfl hb0 hel]
    simp only [↓reduceIte]
    unfold setAddByScan
    refine wpAny_bind ?_
    refine wpAny_bind (wpAny_rule ?_)
    refine wpAny_bind (wpAny_setScan_of (knd := strKind P w) (k := k) hkey ho hd hf hel ?_)
    cases hfi : List.findIdx? (fun e => (strKind P w).is k e.2) es.toList with
    | none =>
      have c := List.findIdx?_eq_none_iff.mp hfi e he
      rw [pe] at c
      cases c
    | some j =>
      dsimp only
      refine wpAny_pure (wpAny_pure ?_)
      refine hQ s.heap _ (Heap.SameBut.refl a s.heap) ?_
      unfold put1
      rw [if_pos hk]
      exact ⟨_, ho, F, nd, hr, hl⟩
  · obtain ⟨r1, r2⟩ := add_ris (h := hashStr w k) (v := .str k u) hr
    refine Froz.add_x ho F hk hb ?_
    refine hQ _ _ (Heap.SameBut.update s.heap a _) ?_
    unfold put1
    rw [if_neg hk]
    exact ⟨_, Froz.get_upd _ ho rfl, Froz.add_ok u F, List.nodup_cons.mpr ⟨hk, nd⟩, r1, hl.imp id fun z => r2.trans z⟩
theorem tst_new {w : World} {h : Heap} (ho : h.get? a = some { cls := .type "set", dict := none, data := .set #[] 0 (.fresh 0 0 (!w.params.followText "set-order")) }) : TSt P w h a [] :=
  ⟨(#[], 0, .fresh 0 0 (!w.params.followText "set-order")), ho, Froz.TxOk.nil rfl, List.nodup_nil, List.Pairwise.nil, by
    show _ ∨ (!w.params.followText "set-order") = true
    cases w.params.followText "set-order"
    · exact .inr rfl
    · exact .inl rfl⟩
/-- the loop that takes the texts in -/
theorem tst_loop {I : Addr} {fp wr : List Addr} {G : Array GenState → Array GenState → Prop} {n : Nat} {Pv : Nat → Value → Prop} {St : Nat → Shared → Prop} {R : Result → Shared → Prop}
    (W : WalksS P w A.in1 I fp wr G n Pv St) (S : Addr) (hSf : S ∉ fp) (xs : List Str) (hn : n = xs.length) (hb : xs.length + 1 < scanBound) (hval : ∀ i v, Pv i v → ∃ k t, xs[i]? = some k ∧ v = .str k t) :
    ∀ (k i : Nat) (s : Shared), n - i = k → i ≤ n → St i s → TSt P w s.heap S (gath (xs.take i)) →
      (∀ s', Moved (S :: wr) G s s' → TSt P w s'.heap S (gath xs) → R (.ok (.ret .none)) s') →
      codeAny (model P w) A (.builtin "set.update.loop" ⟨[.ref S, .ref I], []⟩) R s := by
  have hSw : S ∉ wr := fun h => hSf (W.sub _ h)
  have hsub : ∀ b ∈ wr, b ∈ S :: wr := fun b hb => List.mem_cons_of_mem _ hb
  intro k
  induction k with
  | zero =>
    intro i s hk' hi hst hS hR
    have hin : i = n := by omega
    subst hin
    refine codeAny_builtin F.entry_set_update_loop ?_
    rw [Around.under_plainId F.plain_set_update_loop _]
    show wpAny _ A.in1 (pyNext (.ref I) >>= _) _ _ s
    refine wpAny_bind (W.done s _ _ hst fun s' hm => ?_)
    show wpAny _ A.in1 (ret Value.none) _ _ s'
    rw [List.take_of_length_le (by omega)] at hS
    exact wpAny_pure (hR s' (hm.mono hsub) (hS.at fun o e => hm.heap S o hSw e))
  | succ k ih =>
    intro i s hk' hi hst hS hR
    have hlt : i < n := by omega
    refine codeAny_builtin F.entry_set_update_loop ?_
    rw [Around.under_plainId F.plain_set_update_loop _]
    show wpAny _ A.in1 (pyNext (.ref I) >>= _) _ _ s
    refine wpAny_bind (W.item i s _ _ hlt hst fun v s' hP hst' hm => ?_)
    obtain ⟨z, t, hz, rfl⟩ := hval i v hP
    have hS' : TSt P w s'.heap S (gath (xs.take i)) := hS.at fun o e => hm.heap S o hSw e
    show wpAny _ A.in1 (holding [Value.str z t] (setAdd S (.str z t)) >>= _) _ _ s'
    refine wpAny_bind (wpAny_holding ?_)
    unfold setAdd
    refine wpAny_holding ?_
    refine wpAny_bind ((strKind P w).pyHash (k := z) (strKind_is _ _ _ _) ?_)
    have hl : (gath (xs.take i)).length + 1 < scanBound := by
      have h1 := foldl_len (xs.take i) []
      have h2 : (xs.take i).length ≤ xs.length := by rw [List.length_take]; omega
      simp only [List.length_nil, Nat.zero_add] at h1
      unfold gath
      omega
    refine tst_add (s := { s' with toks := s'.toks + 1 }) hS' hl fun h' b0 hsb hS2 => ?_
    have hS3 : TSt P w h' S (gath (xs.take (i + 1))) := by
      have e : gath (xs.take (i + 1)) = put1 (gath (xs.take i)) z := by
        unfold gath
        rw [List.take_add_one, hz, List.foldl_append]
        rfl
      rw [e]; exact hS2
    refine wpAny_pure ⟨plainId_quiet F.plain_set_update_loop _, ih (i + 1) _ (by omega) hlt (W.frame _ s' _ _ hst' (Nat.le_succ _) fun b hb o e => ?_) hS3 fun s'' hm'' hS'' => ?_⟩
    · rw [hsb.2 b (fun h : b = S => hSf (by rw [← h]; exact hb))]; exact e
    · refine hR s'' (Moved.trans W.gtrans ((hm.mono hsub).then_heap (Nat.le_succ _) fun b o hb e => ?_) hm'') hS''
      rw [hsb.2 b (fun h : b = S => hb (by rw [h]; exact List.mem_cons_self))]; exact e
theorem strs_at {us : List Value} {xs : List Str} (h : StrsAre us xs) {i : Nat} {v : Value} (e : us[i]? = some v) : ∃ k t, xs[i]? = some k ∧ v = .str k t := by
  obtain ⟨t, q⟩ := SS.strs_at h i v e
  have hl := StrsAre.len_eq h
  have hi : i < xs.length := by rw [← hl]; exact (List.getElem?_eq_some_iff.mp e).1
  refine ⟨xs[i], t, List.getElem?_eq_getElem hi, ?_⟩
  rw [q, List.getD_eq_getElem?_getD, List.getElem?_eq_getElem hi]
  rfl
/-- set(xs), a list of texts -/
theorem call_set_strs {l : Addr} {items : Array Value} (xs : List Str) {Q : Value → Shared → Prop} (hh : A.handled = none) (hl : s.heap.IsList l items) (hit : StrsAre items.toList xs) (hb : xs.length + 1 < scanBound)
    (h : ∀ (h' : Heap) (tk : Nat), TSt P w h' s.heap.objs.size (gath xs) → (∀ b o, s.heap.get? b = some o → h'.get? b = some o) → Q (.ref s.heap.objs.size) { s with heap := h', toks := tk }) :
    wpAny (model P w) A (call (.type "set") [.ref l]) Q E s := by
  have hisz : items.size = xs.length := by rw [← Array.length_toList]; exact StrsAre.len_eq hit
  obtain ⟨c, tl, hmro⟩ := F.called_set.mro
  have hmade := F.called_set.made
  have hsub := F.called_set.sub
  refine wpAny_call (codeAny_of_tree ?_)
  show wpAny _ _ (callAny (.type "set") _) _ _ _
  refine wpAny_pure ⟨Code.quiet_builtin _ (by decide +kernel), codeAny_builtin F.entry_type_call ?_⟩
  rw [Around.under_plain (weight_type_call_type "set" [.ref l] []) rfl]
  have h1 := F.called_set.notType
  have h2 := F.called_set.canCreate
  have hct := F.typeCall_set_1 (.ref l)
  repeat (any_goals (first | assumption | wp_step))
  refine codeAny_mono (code_set_led1 (.ref l) (E := E) (Q₁ := fun obj s₁ => obj = .ref s.heap.objs.size ∧ s₁ = { s with heap := s.heap.push { cls := .type "set", dict := none, data := .set #[] 0 (.fresh 0 0 (!w.params.followText "set-order")) } }) ⟨rfl, rfl⟩) fun r s₁ hr => ?_
  rcases r with e | f
  · exact hr
  obtain ⟨obj, rfl⟩ : ∃ obj, f = .ret obj := by
    cases f with
    | ret obj => exact ⟨_, rfl⟩
    | _ => exact hr.elim
  obtain ⟨rfl, rfl⟩ := hr
  have hS : (s.heap.push { cls := .type "set", dict := none, data := .set #[] 0 (.fresh 0 0 (!w.params.followText "set-order")) }).get? s.heap.objs.size = some { cls := .type "set", dict := none, data := .set #[] 0 (.fresh 0 0 (!w.params.followText "set-order")) } := Heap.get?_push_size _ rfl
  have hT : Shared.TypeIs { s with heap := s.heap.push { cls := .type "set", dict := none, data := .set #[] 0 (.fresh 0 0 (!w.params.followText "set-order")) } } (.ref s.heap.objs.size) "set" := ⟨_, hS, rfl⟩
  have hli := F.called_set.init.lookup
  have hbi := F.called_set.init.bind (.ref s.heap.objs.size)
  repeat (any_goals (first | assumption | wp_step))
  refine codeAny_mono (codeAny_call_builtin (R := wants (fun r s₂ => r = .none ∧ Q (.ref s.heap.objs.size) s₂) E) F.called_set.init.plain F.entry_set_init (check_set_init_1 hT ?_)) fun r₂ s₂ hr₂ => ?_
  · obtain ⟨ol, hol, hcl, nl, hdl⟩ := hl
    obtain ⟨ocls, odict, odata, oslots⟩ := ol
    simp only at hcl hdl
    subst hcl; subst hdl
    have hol' : (s.heap.push { cls := .type "set", dict := none, data := .set #[] 0 (.fresh 0 0 (!w.params.followText "set-order")) }).get? l = some { cls := .type "list", dict := odict, data := .seq items nl, slots := oslots } := Heap.get?_push_of_some _ hol
    have hsls := F.sub_list_set
    have hslf := F.sub_list_frozenset
    have hne : (Value.type "list" == Value.type "dict") = false := by decide
    have hl1 : (s.heap.push { cls := .type "set", dict := none, data := .set #[] 0 (.fresh 0 0 (!w.params.followText "set-order")) }).IsList l items := ⟨_, hol', rfl, nl, rfl⟩
    unfold Builtin.«set.__init__» noKeywords Builtin.Frozenset.updateFrom
    generalize hPI : pyIter = PI
    wp_walk
    subst hPI
    refine wpAny_pyIter_list hl1 ?_
    refine wpAny_bind (wpAny_runValue ?_)
    have hlS : l < s.heap.objs.size := Heap.lt_size hol
    have hz1 : (s.heap.push { cls := .type "set", dict := none, data := .set #[] 0 (.fresh 0 0 (!w.params.followText "set-order")) }).objs.size = s.heap.objs.size + 1 := Heap.size_push ..
    have hneI : l ≠ (s.heap.push { cls := .type "set", dict := none, data := .set #[] 0 (.fresh 0 0 (!w.params.followText "set-order")) }).objs.size := by
      rw [Heap.size_push]; exact Nat.ne_of_lt (Nat.lt_succ_of_lt hlS)
    have hSf : s.heap.objs.size ∉ [(s.heap.push { cls := .type "set", dict := none, data := .set #[] 0 (.fresh 0 0 (!w.params.followText "set-order")) }).objs.size, l] := by
      rw [Heap.size_push]; simp only [List.mem_cons, List.mem_singleton, List.not_mem_nil, or_false, not_or]
      exact ⟨Nat.ne_of_lt (Nat.lt_succ_self _), Nat.ne_of_gt hlS⟩
    have hval : ∀ (i : Nat) (v : Value), items[i]? = some v → ∃ k t, xs[i]? = some k ∧ v = .str k t := fun i v hv => strs_at hit (by rw [Array.getElem?_toList]; exact hv)
    refine tst_loop ((Walks.list (by simp [hh]) _ l hneI items).toS) s.heap.objs.size
      hSf xs hisz hb hval (items.size - 0) 0 _ (by omega) (Nat.zero_le _)
      ⟨⟨_, Heap.get?_push_size _ rfl, rfl, rfl⟩, (hl1.push _)⟩ ?hS0 ?hR
    case hS0 =>
      exact tst_new (Heap.get?_push_of_some _ hS)
    case hR =>
      intro s' hm hS'
      obtain ⟨h', g2, d', tk', os'⟩ := s'
      have eg : g2 = s.gens := hm.gens
      have ed : d' = s.drawn := hm.drawn
      have eo : os' = s.os := hm.os
      subst eg; subst ed; subst eo
      show wpAny _ _ _ _ _ _
      refine wpAny_pure ?_
      show wpAny _ _ (ret Value.none) _ _ _
      refine wpAny_pure ⟨rfl, h _ _ hS' fun b o e => ?_⟩
      have hb0 : b < s.heap.objs.size := Heap.lt_size e
      have hb1 : b ≠ s.heap.objs.size := Nat.ne_of_lt hb0
      have hb2 : b ≠ (s.heap.push { cls := .type "set", dict := none, data := .set #[] 0 (.fresh 0 0 (!w.params.followText "set-order")) }).objs.size := by
        rw [Heap.size_push]; exact Nat.ne_of_lt (Nat.lt_succ_of_lt hb0)
      exact hm.heap b o (by simp only [List.mem_cons, List.mem_singleton, List.not_mem_nil, or_false, not_or]; exact ⟨hb1, hb2⟩) (Heap.get?_push_of_some _ (Heap.get?_push_of_some _ e))
  · rcases r₂ with e | f
    · exact hr₂
    cases f with
    | ret r =>
      obtain ⟨rfl, hq⟩ := hr₂
      repeat (any_goals (first | assumption | wp_step))
    | _ => exact hr₂.elim
end
end PV
set_option Elab.async false
set_option autoImplicit false
set_option maxRecDepth 100000
set_option maxHeartbeats 2000000
namespace PV
open PySem PySem.Spec PyProof.Rows L2
section
variable {P : Program} {w : World} {A : Around} {E : Value → Shared → Prop} {s : Shared} {a : Addr} {l : List Str}
/-! ### sorted of it -/
theorem perm_nd {l m : List Str} (hl : l.Nodup) (hm : m.Nodup) (h : ∀ x, x ∈ l ↔ x ∈ m) : l.Perm m := by
  induction l generalizing m with
  | nil =>
    cases m with
    | nil => exact .nil
    | cons x r => exact absurd ((h x).mpr (by simp)) (by simp)
  | cons x r ih =>
    have h1 := List.nodup_cons.mp hl
    have hx : x ∈ m := (h x).mp (by simp)
    have q : r.Perm (m.erase x) := ih h1.2 (hm.erase x) fun y => by
      rw [hm.mem_erase_iff]
      constructor
      · exact fun hy => ⟨fun e => h1.1 (e ▸ hy), (h y).mp (List.mem_cons_of_mem _ hy)⟩
      · rintro ⟨n, hy⟩
        exact (List.mem_cons.mp ((h y).mpr hy)).resolve_left n
    exact (q.cons x).trans (List.perm_cons_erase hx).symm
theorem perm_sub : ∀ {l m : List Str}, l.Nodup → (∀ x ∈ l, x ∈ m) → m.length ≤ l.length → l.Perm m
  | [], m, _, _, h => by
    have : m = [] := List.length_eq_zero_iff.mp (by simpa using h)
    rw [this]
  | x :: r, m, hl, h, hn => by
    have h1 := List.nodup_cons.mp hl
    have hx := h x (by simp)
    have q : r.Perm (m.erase x) := perm_sub h1.2 (fun y hy => (List.mem_erase_of_ne (fun e => h1.1 (by rw [← e]; exact hy))).mpr (h y (List.mem_cons_of_mem _ hy))) (by
      have := List.length_erase_of_mem hx
      rw [List.length_cons] at hn
      omega)
    exact (q.cons x).trans (List.perm_cons_erase hx).symm
theorem sorted_tst {Q : Value → Shared → Prop} (T : TSt P w s.heap a l) (hh : A.handled = none) (hb : l.length < scanBound)
    (hQ : ∀ s' p (out : Array Value) (c : Nat) (ys : List Str), (∀ b o, s.heap.get? b = some o → s'.heap.get? b = some o) → s'.gens = s.gens → s'.os = s.os → s.heap.objs.size ≤ p →
      s'.heap.get? p = some (seqObj "list" out c) → StrsAre out.toList ys → ys.Perm l → sortedS ys = true → Q (.ref p) s') :
    wpAny (model P w) A (call (.builtin "sorted") [.ref a]) Q E s := by
  obtain ⟨D, ho, F, nd, hr, hl⟩ := T
  obtain ⟨es, ep, t⟩ := D
  have hsz : es.size = l.length := F.sz
  have hel : ElemsOf (strKind P w) es.toList := F.el
  refine Calls.call_function_entry kind_sorted plain_sorted entry_sorted (args_sorted1 _) ?_
  unfold Builtin.«sorted»
  refine wpAny_bind (m := checkCount "sorted" 1 1 _) (wpAny_pure ?_)
  refine wpAny_bind (collect_set (A := A.in1) hh ⟨_, ho, rfl, rfl⟩ F.fit (by rw [hsz]; exact hb) hr hl fun s1 vs k1 hz g1 o1 pm => ?_)
  have hvl : vs.length = l.length := by rw [pm.length_eq, List.length_map, Array.length_toList]; exact hsz
  have hstr : ∀ v ∈ vs, ∃ x t, v = Value.str x t := fun v hv => by
    obtain ⟨e, he, q⟩ := List.mem_map.mp (pm.mem_iff.mp hv)
    obtain ⟨⟨k, hk, _⟩, _⟩ := hel e he
    obtain ⟨t, z⟩ := Value.isStrOf_shape hk
    exact ⟨k, t, by rw [← q]; exact z⟩
  have hS := strsAre_map vs hstr
  have pl : l.Perm (vs.map strOf) := perm_sub nd (fun k hk => by
    obtain ⟨e, he, q⟩ := (F.mem k).mp hk
    obtain ⟨t, z⟩ := Value.isStrOf_shape q
    exact List.mem_map.mpr ⟨e.2, pm.mem_iff.mpr (List.mem_map.mpr ⟨e, he, rfl⟩), by rw [z]; rfl⟩) (by rw [List.length_map, hvl]; exact Nat.le_refl _)
  have hle : vs.length ≤ sizeLine := by rw [hvl]; exact Nat.le_of_lt (Nat.lt_of_lt_of_le hb (by unfold scanBound; rw [sizeLine_eq]; omega))
  refine wpAny_bind (wpAny_newList ?_ hle)
  have hoL : (s1.heap.push (seqObj "list" vs.toArray 0)).get? s1.heap.objs.size = some (seqObj "list" vs.toArray 0) := Heap.get?_push_size _ rfl
  refine wpAny_bind (wpAny_holding (wpAny_call_entry slot_list_sort ⟨_, hoL, rfl⟩ entry_list_sort (list_sort_treeKAny strKind_oneLt hoL hS.keysOf (fun v₁ v₂ rest e => keyKind_strs (by rw [← e]; exact hS)) hle fun st' a1 a2 => ⟨_, rfl, ?_⟩) (args_list_sort _)))
  obtain ⟨ys, h1, h2, h3⟩ := sorted_out_str hS a1 a2
  obtain ⟨c, hc⟩ := sortedHeap_at (vs := vs) (out := (arrOf st').map (·.2)) hoL
  refine wpAny_pure ⟨_, rfl, hQ _ s1.heap.objs.size _ c ys (fun b u e => ?_) g1 o1 hz hc h1 (h2.trans pl.symm) h3⟩
  have q := k1 b u e
  have hlt := Heap.lt_size q
  show (sortedHeap (s1.heap.push (seqObj "list" vs.toArray 0)) s1.heap.objs.size vs _).get? b = some u
  rw [sortedHeap_old (Nat.ne_of_lt hlt) (by rw [size_push']; exact Nat.lt_succ_of_lt hlt)]
  exact Heap.get?_push_of_some _ q
end
end PV
set_option Elab.async false
set_option autoImplicit false
set_option maxRecDepth 100000
set_option maxHeartbeats 2000000
namespace PV
open PySem PySem.Spec PyProof.Rows L2
def TSO (P : Program) (w : World) (a : Addr) (l : List Str) : HO := .ext fun h => TSt P w h a l
section
variable {X : Cx} {G : Gx} {C : Cl} {W : WX}
theorem tso_new {P P' : Program} {w w' : World} {H : L2.Hp} {h : Heap} {a : Addr} {l : List Str} (T : TSt P w h a l) : ObjOk P' w' H h a (TSO P w a l) := by
  have ⟨o, ho, _⟩ := T
  exact ⟨T, ⟨_, ho⟩, fun h1 h2 p k => TSt.at p k⟩
/-- set(xs) -/
def rSetS (X : Cx) : List V → L2.Hp → VK → Prop := fun vs H Q => ∃ (p : Addr) (xs : List Str), vs = [.ref p] ∧ SqL X.K H p (xs.map V.str) ∧ xs.length + 1 < scanBound ∧ ∀ a, H a = none → Q (.ref a) (upd H a (TSO X.prog X.w a (gath xs)))
theorem cr_setS (hc : X.calm = true) : CallR X (.type "set") (rSetS X) := by
  intro pins s σ H vs us Q I r h
  obtain ⟨p, xs, rfl, hs, hb, q⟩ := h
  rw [Vals.ref1 r]
  obtain ⟨its, rv, hl, _⟩ := I.list hs
  refine call_set_strs xs (I.ok.hd hc) hl.isList (by simpa using rv.strs) hb fun h' tk T k => ?_
  exact ⟨.ref _, upd H s.heap.objs.size (TSO X.prog X.w s.heap.objs.size (gath xs)), I.laid (t' := tk) k (Nat.le_refl _) (tso_new T), rfl, q _ (I.hok.fresh (Nat.le_refl _))⟩
/-- sorted of it -/
def rSortT (X : Cx) : List V → L2.Hp → VK → Prop := fun vs H Q => ∃ (a : Addr) (l : List Str), vs = [.ref a] ∧ H a = some (TSO X.prog X.w a l) ∧ l.length < scanBound ∧
  ∀ (ys : List Str) (p : Addr), ys.Perm l → sortedS ys = true → H p = none → Q (.ref p) (upd H p (.lst (ys.map V.str)))
theorem cr_sortT (hc : X.calm = true) : CallR X (.builtin "sorted") (rSortT X) := by
  intro pins s σ H vs us Q I r h
  obtain ⟨a, l, rfl, ha, hb, q⟩ := h
  have T : TSt X.prog X.w s.heap a l := (I.hok a _ ha).1
  rw [Vals.ref1 r]
  refine sorted_tst T (I.ok.hd hc) hb fun s' p out c ys k g o hp hg hi hm hs => ?_
  have hlen : (ys.map V.str).length ≤ sizeLine := by rw [List.length_map, hm.length_eq, sizeLine_eq]; unfold scanBound at hb; omega
  have hn : H p = none := I.hok.fresh hp
  have J : Inv X pins σ (upd H p (.lst (ys.map V.str))) { s with heap := s'.heap, gens := s'.gens, drawn := s'.drawn, toks := s'.toks } :=
    I.call (ch := []) (Un.laid k hp hn) (I.hok.laid k hp ⟨hlen, out.toList, c, vals_of_strs hi, hg⟩) (by rw [g]; exact I.bare) (fun _ z => nomatch z)
  have e : s' = { s with heap := s'.heap, gens := s'.gens, drawn := s'.drawn, toks := s'.toks } := by
    cases s'
    cases s
    cases o
    rfl
  rw [e]
  exact ⟨.ref p, _, J, rfl, q ys p hm hs hn⟩
theorem gath_sorted {bs : List Cs} {ys : List Str} (p : ys.Perm (gath (bs.map str))) (h : sortedS ys = true) : ys = (upC bs).map str := by
  unfold upC
  refine sorted_is (p.trans (perm_nd (foldl_nd _ List.nodup_nil) ?_ fun x => ?_)) h
  · exact List.Pairwise.map _ (fun a b n e => n (by
      have := congrArg (fun z : Str => z.cps.toList) e
      simpa [str] using this)) (once_nd bs)
  · unfold gath
    rw [foldl_mem]
    simp only [List.not_mem_nil, false_or, List.mem_map, once_mem]
theorem gath_len {bs : List Cs} : (gath (bs.map str)).length ≤ bs.length := by
  have := foldl_len (bs.map str) []
  simpa [gath] using this
theorem se_sset (hK : X.K = G.K) (hc : X.calm = true) {x y : Str} {p p2 q pos : Pos} {e : Expr} {ce : E} (hx : x = "sorted") (hy : y = "set") (hg : Gl X "sorted") (hm : X.mg "sorted" = none) (hg2 : Gl X "set") (hm2 : X.mg "set" = none)
    (he : SE X G C W e ce) (hs : starred e = false) : SE X G C W (.Call (.Name x p) [.Call (.Name y p2) [e] [] q] [] pos) (.blt .set (.cons ce .nil)) := by
  subst hx
  subst hy
  have sa := sa_cons he sa_nil hs
  have inner := pe_callTy (p := p2) (pos := q) (cr_setS hc) hg2 hm2 PyProof.Rows.boot_set sa.pa (by decide +kernel) (by decide +kernel) (starEach_cons hs) rfl
  refine .plain (pe_of (pe_callB (cr_sortT hc) hg hm PyProof.Rows.boot_sorted (pa_cons inner pa_nil) (by decide +kernel) (by decide +kernel) rfl rfl) fun σ H Q ⟨m, h, ρ, st, ok⟩ => ?_) rfl
  simp only [evE] at ok
  refine tL_step st ok fun ds h1 m1 vs H1 x1 r1 p1 st1 ok1 => ?_
  obtain ⟨d, ed, qd⟩ := okR_ofO ok1
  obtain ⟨z, rfl⟩ := blt_one (b := .set) (fun l hl => by
    match l with
    | [] => rfl
    | [_] => simp at hl
    | _ :: _ :: _ => rfl) ed
  obtain ⟨v, rfl, rx⟩ := p1.one
  have px := see r1 rx
  simp only [blt] at ed
  generalize vw h1 z = y at px ed
  cases px with
  | @lst l vs p s1 l1 =>
    simp only at ed
    split at ed
    · rename_i h64
      obtain ⟨bs, e1, rfl⟩ := Option.map_eq_some_iff.mp ed
      have hl : bs.length < 4000 := by rw [allStr_len e1]; simpa using h64
      have ev := rep_strs l1 e1
      subst ev
      refine ⟨p, bs.map str, rfl, by rw [hK]; exact s1.sq, by rw [List.length_map]; unfold scanBound; omega, fun a ha => ?_⟩
      refine ⟨a, _, rfl, upd_same, by have := gath_len (bs := bs); unfold scanBound; omega, fun ys p2 hp hs hn => ?_⟩
      rw [gath_sorted hp hs]
      have n0 := Ext.new (o := TSO X.prog X.w a (gath (bs.map str))) r1 ha
      obtain ⟨n1, n2, n3⟩ := new_strs (bs := upC bs) (r1.new (o := TSO X.prog X.w a (gath (bs.map str))) ha) hn
      exact qd m1 _ _ ((x1.trans n0).trans n1) n2 n3
    · cases ed
  | _ => cases ed
theorem repl_strs {H : L2.Hp} {Lv : Addr → Prop} {m : List Addr} : ∀ (bs : List Cs), RepL G H Lv m (bs.map .str) ((bs.map str).map V.str)
  | [] => .nil
  | b :: bs => .cons (.str b) (repl_strs bs)
/-- sorted(xs) as a cell -/
theorem se_boxSorted (hK : X.K = G.K) (hc : X.calm = true) {x : Str} {p pos : Pos} {e : Expr} {ce : E} (hx : x = "sorted") (hg : Gl X "sorted") (hm : X.mg "sorted" = none) (he : SE X G C W e ce) (hs : starred e = false) :
    SE X G C W (.Call (.Name x p) [e] [] pos) (.box (.blt .sorted (.cons ce .nil))) := by
  subst hx
  have sa := sa_cons he sa_nil hs
  refine .plain (pe_of (pe_callB (call_sortedX hc) hg hm PyProof.Rows.boot_sorted sa.pa (by decide +kernel) (by decide +kernel) (starEach_cons hs) rfl) fun σ H Q ⟨m, h, ρ, st, ok⟩ => ?_) rfl
  simp only [evE] at ok
  have ok := okR_then ok
  refine tL_step st ok fun ds h1 m1 vs H1 x1 r1 p1 st1 ok1 => ?_
  obtain ⟨d, ed, qd⟩ := okR_ofO ok1
  obtain ⟨z, rfl⟩ := blt_one (b := .sorted) (fun l hl => by
    match l with
    | [] => rfl
    | [_] => simp at hl
    | _ :: _ :: _ => rfl) ed
  obtain ⟨v, rfl, rx⟩ := p1.one
  have px := see r1 rx
  have fin : ∀ (bs : List Cs) (p : Addr), d = .lst (bs.map .str) → H1 p = none → Q (.ref p) (upd H1 p (.lst ((bs.map str).map V.str))) := fun bs p e hp => by
    subst e
    have qd := qd
    simp only [boxed, if_true, okR] at qd
    have xx : Ext G m1 h1 H1 (m1 ++ [p]) (h1 ++ [.lst (bs.map .str)]) (upd H1 p (.lst ((bs.map str).map V.str))) := Ext.cell r1 hp
    refine qd (m1 ++ [p]) (.ref p) _ (x1.trans xx) (HRel.snoc r1 hp ⟨_, upd_same, repl_strs bs⟩) (.ref ?_)
    rw [← r1.len]
    simp
  simp only [blt] at ed
  generalize vw h1 z = y at px ed
  cases px with
  | @lst l vs p s1 l1 =>
    simp only at ed
    split at ed
    · rename_i h64
      obtain ⟨bs, e1, e2⟩ := Option.map_eq_some_iff.mp ed
      have ev := rep_strs l1 e1
      subst ev
      refine .inr ⟨p, bs.map str, rfl, by rw [hK]; exact s1.sq, by rw [List.length_map, allStr_len e1]; simpa using h64, fun ys p hp hs hn => ?_⟩
      rw [sorted_is hp hs]
      exact fin (sortC bs) p e2.symm hn
    · cases ed
  | @dct l kvs p s1 k1 k2 l1 =>
    simp only at ed
    split at ed
    · rename_i h64
      obtain ⟨bs, e1, e2⟩ := Option.map_eq_some_iff.mp ed
      refine .inl ⟨p, kvs, bs.map str, rfl, s1, by rw [k2]; exact allStr_keys e1, by rw [List.length_map, allStr_len e1, List.length_map]; simpa using h64, fun ys p hp hs hn => ?_⟩
      rw [sorted_is hp hs]
      exact fin (sortC bs) p e2.symm hn
    · cases ed
  | _ => cases ed
end
end PV
set_option Elab.async false
set_option autoImplicit false
set_option maxRecDepth 100000
set_option maxHeartbeats 1000000
namespace PV
open PySem PySem.Spec PyProof.Rows L2
/-- what is known of a def while its text is read -/
structure Kp where
  N : List Str
  sc : Scope
  gl : List (Str × Gv)
  bl : List Str
  fnb : Str → Bool
  /-- names whose displays are cells; names whose cells are frozen when they are returned -/
  boxed : List Str := []
  frz : List Str := []
  /-- the name of the lambda that is got; the lambdas that are made here: number, parameters, what they capture -/
  cloN : Option Str := none
  lamR : Pos → Arguments → Expr → Scope → Option (Nat × List Str × List Str) := fun _ _ _ _ => none
def Kp.vis (K : Kp) (x : Str) : Bool := match K.sc.names.lookup x with
  | some .local => true
  | some .cell => true
  | some .free => true
  | _ => false
def Kp.sto0 (K : Kp) (x : Str) : Bool := match K.sc.names.lookup x with
  | some .local => true
  | some .cell => K.fnb x
  | _ => false
def Kp.sto (K : Kp) (x : Str) : Bool := K.sto0 x && !decide (K.cloN = some x)
def Kp.glo (K : Kp) (x : Str) : Bool := decide (K.sc.names.lookup x = some .globalImplicit) && !(x == ("__debug__" : Str))
def Kp.blt (K : Kp) (x : Str) : Bool := K.glo x && K.bl.contains x
def Kp.at (K : Kp) (x : Str) : Option Nat := if K.N[K.N.findIdx (· == x)]? = some x then some (K.N.findIdx (· == x)) else none
def plainN (x : Str) : Bool := !(x == ("__debug__" : Str)) && !(x == ("__classdict__" : Str))
def bopOf : Operator → Option Bop
  | .Add => some .add
  | .Sub => some .sub
  | .Mult => some .mul
  | .FloorDiv => some .fdiv
  | .Mod => some .mod
  | .Pow => some .pow
  | _ => none
def copOf : CmpOp → Option Cop
  | .Eq => some .eq
  | .NotEq => some .ne
  | .Lt => some .lt
  | .LtE => some .le
  | .Gt => some .gt
  | .GtE => some .ge
  | .Is => some .is
  | .IsNot => some .isnot
  | .In => some .inn
  | .NotIn => some .nin
def oneO (f : Expr → Option E) : Option Expr → Option EL
  | none => some .nil
  | some e => (f e).map fun c => .cons c .nil
def foldB (f : Expr → Option E) (and : Bool) : List Expr → Option E
  | [] => none
  | [e] => f e
  | e :: r => match f e, foldB f and r with
    | some c, some d => some (if and then .and c d else .or c d)
    | _, _ => none
def bltTab : List ((Str × Nat) × Blt) := [(("len", 1), .len), (("repr", 1), .repr), (("list", 1), .list), (("tuple", 1), .tuple), (("int", 1), .int), (("abs", 1), .abs), (("min", 2), .min2), (("max", 2), .max2),
  (("sum", 1), .sum), (("sorted", 1), .sorted), (("any", 1), .any), (("all", 1), .all), (("dict", 1), .dict)]
def bltOf (x : Str) (n : Nat) : Option Blt := bltTab.lookup (x, n)
def tyTab : List (Str × Ty) := [("tuple", .tuple), ("str", .str), ("int", .int), ("bool", .bool), ("list", .list), ("dict", .dict)]
def tyOfN (x : Str) : Option Ty := tyTab.lookup x
/-- isinstance(a, T) -/
def isinL (blt : Str → Bool) (f : Expr → Option E) : List Expr → Option E
  | [a, .Name y _] => match tyOfN y with
    | some t => if blt y && !starred a then (f a).map fun c => .blt (.isin t) (.cons c .nil) else none
    | none => none
  | [a, .Tuple [.Name y _, .Name z _] _ _] => match tyOfN y, tyOfN z with
    | some t, some u => if blt y && blt z && !starred a then (f a).map fun c => .blt (.isin2 t u) (.cons c .nil) else none
    | _, _ => none
  | _ => none
/-- a class of exceptions by its name; those that are one of it -/
def clsN (K : Kp) (y : Str) : Option Nat := if K.glo y then (match K.gl.lookup y with
  | some (.cls c _ _) => some c
  | _ => none) else none
def belowC (gl : List (Str × Gv)) (c : Nat) : List Nat := gl.filterMap fun p => match p.2 with
  | .cls d s _ => if s.contains c then some d else none
  | _ => none
def allC (gl : List (Str × Gv)) : List Nat := gl.filterMap fun p => match p.2 with
  | .cls d _ _ => some d
  | _ => none
def chkC (gl : List (Str × Gv)) (c : Nat) (cs : List Nat) : Bool := gl.all fun p => match p.2 with
  | .cls d s _ => cs.contains d == s.contains c
  | _ => true
/-- a class in isinstance, of a caught one: ours that are one of it -/
def isxN (K : Kp) : Expr → Option (List Nat)
  | .Name y _ => match clsN K y with
    | some c => if chkC K.gl c (belowC K.gl c) then some (belowC K.gl c) else none
    | none => if y = "ValueError" ∧ K.blt "ValueError" = true then some (allC K.gl) else none
  | _ => none
def isxNs (K : Kp) : List Expr → Option (List Nat)
  | [] => some []
  | e :: es => match isxN K e, isxNs K es with
    | some c, some l => some (c ++ l)
    | _, _ => none
/-- isinstance(a, C), of a caught one -/
def isxL (K : Kp) (f : Expr → Option E) : List Expr → Option E
  | [a, .Tuple es _ _] => match isxNs K es with
    | some cs => if !starred a && (decide (es.length ≤ 1000) && !es.isEmpty) then (f a).map fun e => .blt (.isx cs []) (.cons e .nil) else none
    | none => none
  | [a, b] => match isxN K b with
    | some cs => if !starred a then (f a).map fun e => .blt (.isx cs []) (.cons e .nil) else none
    | none => none
  | _ => none
/-- text.join(e) -/
def joinL (f : Expr → Option E) (o : Expr) (m : Str) : List Expr → Option E
  | [e] => if m = "join" ∧ starred e = false then (match f o, f e with
    | some (.cst (.str s)), some c => some (.blt .join (.cons (.cst (.str s)) (.cons c .nil)))
    | _, _ => none) else none
  | _ => none
/-- -1, as a slice's step -/
def isM1 : Expr → Bool
  | .UnaryOp .USub (.Constant (.int i) _ _) _ => i == 1
  | _ => false
/-- [..].index(e) -/
def indexL (f : Expr → Option E) (o : Expr) (m : Str) : List Expr → Option E
  | [e] => if m = "index" ∧ starred e = false then (match f o, f e with
    | some (.lst l), some c => some (.blt .index (.cons (.lst l) (.cons c .nil)))
    | _, _ => none) else none
  | _ => none
/-- sorted(set(e)) -/
def ssetL (blt : Str → Bool) (f : Expr → Option E) (x : Str) : List Expr → Option E
  | [.Call (.Name y _) [a] [] _] => if x = "sorted" ∧ y = "set" ∧ blt "set" = true ∧ starred a = false then (f a).map fun c => .blt .set (.cons c .nil) else none
  | _ => none
def isAnd : PySem.BoolOp → Bool
  | .And => true
  | .Or => false
def testL (f : Expr → Option E) : List Expr → Option EL
  | [] => some .nil
  | [c] => (f c).map fun c => .cons c .nil
  | _ => none
def unstar : Expr → Expr
  | .Starred t _ => t
  | t => t
def cN (K : Kp) : Expr → Option (Str × Nat)
  | .Name x _ => if K.sto x then (K.at x).map fun i => (x, i) else none
  | _ => none
def cNs (K : Kp) : List Expr → Option (List (Str × Nat))
  | [] => some []
  | e :: es => match cN K (unstar e), cNs K es with
    | some a, some l => some (a :: l)
    | _, _ => none
def slotsOf (own : List (Str × Nat)) : List Nat := own.map (·.2)
/-- a target -/
def cP (K : Kp) : Nat → Expr → Option (Pat × List (Str × Nat))
  | _, .Name x _ => if K.sto x then (K.at x).map fun i => (.nm i, [(x, i)]) else none
  | _, .Tuple es _ _ => match cNs K es with
    | some own => match (es.map starred).findIdx? id with
      | none => some (.tp ((slotsOf own).map .nm), own)
      | some k => if k + 1 = es.length then some (.st (slotsOf own).dropLast ((slotsOf own).getLastD 0), own) else none
    | none => none
  | _, _ => none
def isTupE : Expr → Bool
  | .Tuple _ _ _ => true
  | _ => false
/-- what is gone through -/
def cI (K : Kp) (f : Expr → Option E) (tg : Expr) : Expr → Option (Ik × EL)
  | .Call (.Name x _) es [] _ => if x = "range" then (if K.blt x then match es with
      | [_] => (mapL f es).map fun l => (.range, l)
      | [_, _] => (mapL f es).map fun l => (.range2, l)
      | _ => none else none) else if x = "zip" then (if K.blt x && isTupE tg then match es with
      | [_, _] => (mapL f es).map fun l => (.zip, l)
      | _ => none else none) else none
  | _ => none
def cI' (K : Kp) (f : Expr → Option E) (tg e : Expr) : Option (Ik × EL) := match cI K f tg e with
  | some r => some r
  | none => (f e).map fun c => (.plain, .cons c .nil)
def blkB (N : List Str) (sc scope : Scope) (own : List (Str × Nat)) : Bool :=
  decide (scope.kind = .function) && scope.names.all (fun y => decide (scope.names.lookup y.1 = some y.2)) && own.all (fun p => decide (N[p.2]? = some p.1)) &&
  scope.names.all (fun y => !decide (y.2 = .free) || (decide (sc.names.lookup y.1 = some .cell) || decide (sc.names.lookup y.1 = some .free))) &&
  scope.names.all (fun y => !(decide (y.2 = .local) || decide (y.2 = .cell)) || ((own.map (·.1)).contains y.1 || !N.contains y.1))
def blkK (K : Kp) (scope : Scope) (own : List (Str × Nat)) : Bool := blkB K.N K.sc scope own && own.all fun q => !decide (K.cloN = some q.1)
/-- the slots of captured names -/
def capL (K : Kp) : List Str → Option (List Nat)
  | [] => some []
  | y :: r => match K.at y, capL K r with
    | some i, some l => some (i :: l)
    | _, _ => none
def freeB (scope : Scope) (fr : List Str) : Bool := scope.names.all fun y => !decide (y.2 = .free) || decide (y.1 ∈ fr)
/-- f(.., lambda ..: ..) -/
def lamL (K : Kp) (f : Expr → Option E) (g : Nat) (es : List Expr) (pos : Pos) (params : Arguments) (body : Expr) (scope : Scope) : Option E := match K.lamR pos params body scope, mapL f es with
  | some (n, ps, fr), some l => match capL K fr with
    | some is => if NdefX.ndefB K.sc scope fr && (fr.all K.fnb && (freeB scope fr && (lamP params).isSome)) then some (.calll g l n is) else none
    | none => none
  | _, _ => none
/-- a call of a def that gets a lambda -/
def hcallL (K : Kp) (f : Expr → Option E) (g : Nat) (es : List Expr) : Option E := match es.getLast? with
  | some (.Lambda params body scope pos) => lamL K f g es.dropLast pos params body scope
  | some (.Name y _) => if K.cloN = some y ∧ plainN y = true ∧ K.vis y = true then (mapL f es.dropLast).map (.callp g) else none
  | _ => none
/-- a call of the lambda that is got -/
def cappL (f : Expr → Option E) : List Expr → Option E
  | e :: es => (mapL f (e :: es)).map .capp
  | [] => some (.capp .nil)
/-- a written table's name -/
def kdOf (K : Kp) : Expr → Option (Str × List (Cs × D))
  | .Name x _ => if K.glo x then (match K.gl.lookup x with
    | some (.kdt l) => some (x, l)
    | _ => none) else none
  | _ => none
def kinE (o : CmpOp) (l : List (Cs × D)) (c : E) : Option E := match o with
  | .In => some (.blt .kin (.cons (.cst (tabD l)) (.cons c .nil)))
  | .NotIn => some (.blt .knin (.cons (.cst (tabD l)) (.cons c .nil)))
  | _ => none
def getL (f : Expr → Option E) (l : List (Cs × D)) (m : Str) : List Expr → Option E
  | [e, d] => if m = "get" ∧ starred e = false ∧ starred d = false then (match f e, f d with
    | some c, some k => some (.blt .kget (.cons (.cst (tabD l)) (.cons c (.cons k .nil))))
    | _, _ => none) else none
  | _ => none
/-- a call of a local name's def -/
def appL (f : Expr → Option E) (i : Option Nat) (es : List Expr) : Option E := match i, es with
  | some i, e :: es => (mapL f (e :: es)).map (.app (.var i))
  | _, _ => none
/-- a list cell's methods -/
def methL (f : Expr → Option E) (o : Expr) (m : Str) : List Expr → Option E
  | [] => if m = "pop" then (f o).map fun c => .mut .pop c .nil else none
  | [e] => if starred e then none else match f o, f e with
    | some co, some ce => if m = "append" then some (.mut .append co (.cons ce .nil)) else if m = "extend" then some (.mut .extend co (.cons ce .nil)) else none
    | _, _ => none
  | _ => none
def notSet (e : Expr) : Bool := match e with
  | .Set _ _ _ => false
  | _ => true
/-- what is read without a step in the heap -/
def cA (K : Kp) : Expr → Option E
  | .Constant c _ _ => (match c with
    | .int i => some (.cst (.int i))
    | .bool b => some (.cst (.bl b))
    | .none => some (.cst .non)
    | .str x => some (.cst (.str x.cps.toList))
    | _ => none)
  | .Name x _ => if plainN x && K.vis x then (K.at x).map .var else none
  | .BinOp (.Constant (.int i) _ _) .Pow (.Constant (.int j) _ _) _ => if decide (0 ≤ j) && (decide (j ≤ 1000) && small i) then some (.cst (.int (i ^ j.toNat))) else none
  | _ => none
def cAs (K : Kp) : List Expr → Option (List E)
  | [] => some []
  | e :: r => match cA K e, cAs K r with
    | some c, some l => some (c :: l)
    | _, _ => none
def cAk (K : Kp) : List (Option Expr) → Option (List E)
  | [] => some []
  | some e :: r => (match cA K e, cAk K r with
    | some c, some l => some (c :: l)
    | _, _ => none)
  | none :: _ => none
/-- a dict display of constants and names -/
def cD (K : Kp) (keys : List (Option Expr)) (values : List Expr) : Option E := match keys, values with
  | [], [] => some (.dct .nil .nil)
  | keys, values => match cAk K keys, cAs K values with
    | some ks, some vs => if ks.length = vs.length ∧ ks.length ≤ 15 ∧ keys ≠ [] then some (.dct (EL.of ks) (EL.of vs)) else none
    | _, _ => none
def cE : Nat → Kp → Expr → Option E
  | 0, _, _ => none
  | n + 1, K, e => match e with
    | .Constant c _ _ => (match c with
      | .int i => some (.cst (.int i))
      | .bool b => some (.cst (.bl b))
      | .none => some (.cst .non)
      | .str x => some (.cst (.str x.cps.toList))
      | _ => none)
    | .Name x _ => if plainN x then (if K.vis x then (K.at x).map .var else if K.glo x then (match K.gl.lookup x with
        | some (.cst d) => some (.cst d)
        | some (.fn f) => some (.cst (.fn f))
        | _ => none) else none) else none
    | .Dict keys values _ => cD K keys values
    | .BinOp a o b _ => (match bopOf o, cE n K a, cE n K b with
      | some o, some a, some b => some (.op o a b)
      | _, _, _ => none)
    | .UnaryOp o a _ => (match o with
      | .Not => (cE n K a).map .not
      | .USub => (cE n K a).map .neg
      | _ => none)
    | .Compare a [o] [b] _ => if behindInMarks o b then none else (match kdOf K b with
      | some q => (cE n K a).bind (kinE o q.2)
      | none => (match copOf o, cE n K a, cE n K b with
        | some o, some a, some b => some (.cmp o a b)
        | _, _, _ => none))
    | .Compare a [o, p] [b, c] _ => if lastMarks [o, p] [b, c] then none else (match copOf o, copOf p, cE n K a, cE n K b, cE n K c with
      | some o, some p, some a, some b, some c => some (.chain o p a b c)
      | _, _, _, _, _ => none)
    | .BoolOp o es _ => foldB (cE n K) (isAnd o) es
    | .IfExp c a b _ => (match cE n K c, cE n K a, cE n K b with
      | some c, some a, some b => some (.ife c a b)
      | _, _, _ => none)
    | .Tuple es _ _ => (match mapL (cE n K) es with
      | some l => if ELlen l ≤ 1000 then some (.tup l) else none
      | none => none)
    | .List es _ => (match mapL (cE n K) es with
      | some l => if ELlen l ≤ 1000 then some (.lst l) else none
      | none => none)
    | .Subscript a b _ => (match b with
      | .Slice lo hi none _ => (match cE n K a, oneO (cE n K) lo, oneO (cE n K) hi with
        | some a, some lo, some hi => some (.slc a lo hi)
        | _, _, _ => none)
      | .Slice none none (some st) _ => if isM1 st then (cE n K a).map .rev else none
      | b => if notSlice b then (match kdOf K a with
        | some q => (cE n K b).map fun c => .blt .kix (.cons (.cst (tabD q.2)) (.cons c .nil))
        | none => (match cE n K a, cE n K b with
          | some a, some b => some (.idx a b)
          | _, _ => none)) else none)
    | .Call (.Name x _) es [] _ => if K.glo x then (match K.gl.lookup x with
        | some (.fn f) => (mapL (cE n K) es).map (.call f)
        | some (.hf f) => hcallL K (cE n K) f es
        | some _ => none
        | none => if K.blt x then (if x = "isinstance" then (match isxL K (cE n K) es with
            | some c => some c
            | none => isinL K.blt (cE n K) es) else match ssetL K.blt (cE n K) x es with
            | some c => some c
            | none => match bltOf x es.length with
            | some b => (mapL (cE n K) es).map (.blt b)
            | none => none) else none) else if plainN x && K.vis x then (if K.cloN = some x then cappL (cE n K) es else appL (cE n K) (K.at x) es) else none
    | .Call (.Attribute (.Name x p) m ap) es [] pos => if ap.endLine == pos.line then (match kdOf K (.Name x p) with
      | some q => getL (cE n K) q.2 m es
      | none => methL (cE n K) (.Name x p) m es) else none
    | .Call (.Attribute (.Constant o k q) m ap) es [] pos => if ap.endLine == pos.line then joinL (cE n K) (.Constant o k q) m es else none
    | .Call (.Attribute (.List ls q) m ap) es [] pos => if ap.endLine == pos.line then indexL (cE n K) (.List ls q) m es else none
    | .Attribute (.Name x p) m _ => (cE n K (.Name x p)).map fun c => .fld c m.cps.toList
    | .ListComp elt [⟨tg, iter, ifs, 0⟩] scope _ =>
      (match cI' K (cE n K) tg iter, cP { K with sc := relS scope K.sc, fnb := fun x => scope.names.lookup x == some .cell } n tg with
      | some (k, l), some (p, own) => if blkK K scope own && decide (own.map (·.2) = p.slots) && notSet iter then
          (match testL (cE n { K with sc := relS scope K.sc, fnb := fun x => scope.names.lookup x == some .cell }) ifs, cE n { K with sc := relS scope K.sc, fnb := fun x => scope.names.lookup x == some .cell } elt with
          | some t, some c => some (.comp p k l t c)
          | _, _ => none) else none
      | _, _ => none)
    | _ => none
structure Fits (K : Kp) (G : Gx) (C : Cl) (W : WX) (X : Cx) : Prop where
  cx : Ctx G C W X
  N : X.N = K.N
  sc : X.env.scope = K.sc
  gl : G.gl = K.gl
  bl : G.bl = K.bl
  fn : ∀ x, K.fnb x = true → X.fn x = true
  clo : ∀ z : CloI, G.ht.clo = some z → ∃ x, K.cloN = some x ∧ X.N[z.j]? = some x
  clo2 : ∀ x, K.cloN = some x → ∃ z : CloI, G.ht.clo = some z ∧ X.N[z.j]? = some x
  lam : ∀ pos params body scope g ps fr, K.lamR pos params body scope = some (g, ps, fr) → G.lamT g ps fr params body scope
  own : ∀ pos params body scope r, K.lamR pos params body scope = some r → OwnT X G
section
variable {K : Kp} {X : Cx} {G : Gx} {C : Cl} {W : WX} {x : Str} {pos : Pos}
theorem Fits.vis (F : Fits K G C W X) (h : K.vis x = true) : Vis X.env.scope x := by
  rw [F.sc]
  unfold Kp.vis at h
  split at h
  · exact .inl ‹_›
  · exact .inr (.inl ‹_›)
  · exact .inr (.inr ‹_›)
  · cases h
theorem Fits.noclo (F : Fits K G C W X) {i : Nat} (h : K.cloN ≠ some x) (hi : X.N[i]? = some x) : NoClo G i := fun z hz e => by
  obtain ⟨y, q1, q2⟩ := F.clo z hz
  rw [← e, hi] at q2
  cases q2
  exact h q1
theorem Kp.sto_n (h : K.sto x = true) : K.cloN ≠ some x := by
  simp only [Kp.sto, Bool.and_eq_true, Bool.not_eq_true', decide_eq_false_iff_not] at h
  exact h.2
theorem Fits.loc (F : Fits K G C W X) (h : K.sto x = true) : Loc X.env.scope x ∧ (X.fn x = true ∨ X.env.scope.names.lookup x = some .local) := by
  rw [F.sc]
  simp only [Kp.sto, Bool.and_eq_true] at h
  replace h := h.1
  unfold Kp.sto0 at h
  split at h
  · exact ⟨.inl ‹_›, .inr ‹_›⟩
  · exact ⟨.inr ‹_›, .inl (F.fn x h)⟩
  · cases h
theorem Fits.glo (F : Fits K G C W X) (h : K.glo x = true) : Gl X x ∧ (x == ("__debug__" : Str)) = false := by
  simp only [Kp.glo, Bool.and_eq_true, decide_eq_true_eq, Bool.not_eq_true'] at h
  refine ⟨?_, h.2⟩
  show X.env.scope.names.lookup x = _
  rw [F.sc]
  exact h.1
theorem Fits.blt (F : Fits K G C W X) (h : K.blt x = true) : Gl X x ∧ X.mg x = none := by
  simp only [Kp.blt, Bool.and_eq_true] at h
  exact ⟨(F.glo h.1).1, F.cx.gbl x (by rw [F.bl]; simpa using h.2)⟩
theorem Fits.at (F : Fits K G C W X) {i : Nat} (h : K.at x = some i) : X.N[i]? = some x := by
  rw [F.N]
  unfold Kp.at at h
  split at h
  · cases h; assumption
  · cases h
theorem se_bop (cx : Ctx G C W X) {a b : Expr} {ca cb : E} {o : Operator} {o' : Bop} (ho : bopOf o = some o') (ha : SE X G C W a ca) (hb : SE X G C W b cb) : SE X G C W (.BinOp a o b pos) (.op o' ca cb) := by
  cases o <;> cases ho
  · exact se_op op_addP ha hb (by rw [cx.k]; exact bop_add_s.bin)
  · exact se_op op_sub ha hb bop_sub_s.bin
  · exact se_op op_mulA ha hb bop_mul_s.bin
  · exact se_op op_mod ha hb bop_mod_s.bin
  · exact se_op op_pow ha hb bop_pow_s.bin
  · exact se_op op_fdivW ha hb bop_fdiv_s.bin
theorem cop_ex (cx : Ctx G C W X) {o : CmpOp} {o' : Cop} (ho : copOf o = some o') : ∃ r, OpR X (compareOp o) r ∧ Bin G (fun h x y => cop C.bd o' (vw h x) (vw h y)) r := by
  have hu := cx.bd
  have hu1 : X.A.units + C.bd < cLine := by omega
  have hu2 : X.A.units + C.bd + 1 < cLine := by omega
  cases o <;> cases ho
  · exact ⟨_, op_eqF hu1, by rw [cx.k]; exact cop_eq_s.bin⟩
  · exact ⟨_, op_neF hu1, by rw [cx.k]; exact cop_ne_s.bin⟩
  · exact ⟨_, op_lt, cop_lt.bin⟩
  · exact ⟨_, op_le, cop_le.bin⟩
  · exact ⟨_, op_gt, cop_gt.bin⟩
  · exact ⟨_, op_ge, cop_ge.bin⟩
  · exact ⟨_, op_isP, cop_is_s.bin⟩
  · exact ⟨_, op_isnotP, cop_isnot_s.bin⟩
  · exact ⟨_, op_inP hu2, by rw [cx.k]; exact (cop_in_s false).bin⟩
  · exact ⟨_, op_ninP hu2, by rw [cx.k]; exact (cop_in_s true).bin⟩
theorem se_cop (cx : Ctx G C W X) {a b : Expr} {ca cb : E} {o : CmpOp} {o' : Cop} (ho : copOf o = some o') (ha : SE X G C W a ca) (hb : SE X G C W b cb) (hm : behindInMarks o b = false) : SE X G C W (.Compare a [o] [b] pos) (.cmp o' ca cb) := by
  obtain ⟨r, h1, h2⟩ := cop_ex cx ho
  exact se_cmp h1 ha hb hm h2
theorem se_chn (cx : Ctx G C W X) {a b c : Expr} {ca cb cc : E} {o p : CmpOp} {o' p' : Cop} (ho : copOf o = some o') (hp : copOf p = some p') (ha : SE X G C W a ca) (hb : SE X G C W b cb) (hc : SE X G C W c cc) (hm : lastMarks [o, p] [b, c] = false) : SE X G C W (.Compare a [o, p] [b, c] pos) (.chain o' p' ca cb cc) := by
  obtain ⟨r, h1, h2⟩ := cop_ex cx ho
  obtain ⟨r', h3, h4⟩ := cop_ex cx hp
  exact se_chain h1 h3 ha hb hc hm h2 h4
end
end PV
set_option Elab.async false
set_option autoImplicit false
set_option maxRecDepth 100000
set_option maxHeartbeats 1000000
namespace PV
open PySem PySem.Spec PyProof.Rows L2
section
variable {K : Kp} {X : Cx} {G : Gx} {C : Cl} {W : WX} {x : Str} {pos : Pos} {f : Expr → Option E}
theorem mapL_sa (h : ∀ e c, f e = some c → SE X G C W e c) : ∀ {es : List Expr} {l : EL}, mapL f es = some l → SA X G C W es l
  | [], l, e => by
    cases e
    exact sa_nil
  | a :: r, l, e => by
    simp only [mapL] at e
    split at e
    · cases e
    · rename_i hs
      split at e
      · rename_i h1 h2
        cases e
        exact sa_cons (h _ _ h1) (mapL_sa h h2) (by simpa using hs)
      · cases e
theorem foldB_sb (h : ∀ e c, f e = some c → SE X G C W e c) {o : PySem.BoolOp} : ∀ {es : List Expr} {c : E}, foldB f (isAnd o) es = some c → SB X G C W (.BoolOp o es pos) c
  | [], c, e => by cases e
  | [a], c, e => sb_one (h _ _ e)
  | a :: b :: r, c, e => by
    unfold foldB at e
    split at e
    · rename_i c1 d1 h1 h2
      have q := foldB_sb (o := o) h h2
      cases o with
      | And => cases e; exact sb_and (h _ _ h1) q
      | Or => cases e; exact sb_or (h _ _ h1) q
    · cases e
theorem oneO_so (h : ∀ e c, f e = some c → SE X G C W e c) : ∀ {o : Option Expr} {l : EL}, oneO f o = some l → SO X G C W o l
  | none, l, e => by
    cases e
    exact so_none
  | some a, l, e => by
    simp only [oneO, Option.map_eq_some_iff] at e
    obtain ⟨c, h1, rfl⟩ := e
    exact so_some (h _ _ h1)
theorem lk_mem {α β : Type} [BEq α] [LawfulBEq α] {a : α} {b : β} : ∀ {l : List (α × β)}, l.lookup a = some b → (a, b) ∈ l
  | [], h => by cases h
  | (k, v) :: r, h => by
    rw [List.lookup_cons] at h
    split at h
    · rename_i e
      cases h
      rw [eq_of_beq e]
      simp
    · exact List.mem_cons_of_mem _ (lk_mem h)
theorem se_blt (F : Fits K G C W X) {p : Pos} {es : List Expr} {l : EL} {b : Blt} (hb : bltOf x es.length = some b) (hx : K.blt x = true) (hs : SA X G C W es l) : SE X G C W (.Call (.Name x p) es [] pos) (.blt b l) := by
  obtain ⟨hg, hm⟩ := F.blt hx
  have cx := F.cx
  have hu := cx.bd
  have hk := cx.k
  have hb := lk_mem hb
  simp only [bltTab, List.mem_cons, Prod.mk.injEq, List.not_mem_nil, or_false] at hb
  cases es with
  | nil => rcases hb with ⟨⟨_, q⟩, _⟩ | ⟨⟨_, q⟩, _⟩ | ⟨⟨_, q⟩, _⟩ | ⟨⟨_, q⟩, _⟩ | ⟨⟨_, q⟩, _⟩ | ⟨⟨_, q⟩, _⟩ | ⟨⟨_, q⟩, _⟩ | ⟨⟨_, q⟩, _⟩ | ⟨⟨_, q⟩, _⟩ | ⟨⟨_, q⟩, _⟩ | ⟨⟨_, q⟩, _⟩ | ⟨⟨_, q⟩, _⟩ | ⟨⟨_, q⟩, _⟩ <;> cases q
  | cons e es =>
    rcases hb with ⟨⟨rfl, _⟩, rfl⟩ | ⟨⟨rfl, _⟩, rfl⟩ | ⟨⟨rfl, _⟩, rfl⟩ | ⟨⟨rfl, _⟩, rfl⟩ | ⟨⟨rfl, _⟩, rfl⟩ | ⟨⟨rfl, _⟩, rfl⟩ | ⟨⟨rfl, _⟩, rfl⟩ | ⟨⟨rfl, _⟩, rfl⟩ | ⟨⟨rfl, _⟩, rfl⟩ | ⟨⟨rfl, _⟩, rfl⟩ | ⟨⟨rfl, _⟩, rfl⟩ | ⟨⟨rfl, _⟩, rfl⟩ | ⟨⟨rfl, _⟩, rfl⟩
    · exact se_bltB call_lenP hg hm boot_len hs (by decide +kernel) (by decide +kernel) (by rw [hk]; exact cal_len)
    · exact se_bltB (call_reprP (B := C.bd) (by omega) cx.room.gd) hg hm PyProof.Rows.boot_repr hs (by decide +kernel) (by decide +kernel) (by rw [hk]; exact cal_repr)
    · exact se_bltT (call_listP cx.calm) hg hm PyProof.Rows.boot_list hs (by decide +kernel) (by decide +kernel) (by rw [hk]; exact cal_list)
    · exact se_bltT call_tuple_of hg hm PyProof.Rows.boot_tuple hs (by decide +kernel) (by decide +kernel) (by rw [hk]; exact cal_tuple)
    · exact se_bltT call_int1 hg hm PyProof.Rows.boot_int hs (by decide +kernel) (by decide +kernel) (cal_int)
    · exact se_bltB call_abs hg hm PyProof.Rows.boot_abs hs (by decide +kernel) (by decide +kernel) (cal_abs)
    · exact se_bltB (call_min2 cx.calm) hg hm PyProof.Rows.boot_min hs (by decide +kernel) (by decide +kernel) (cal_min2)
    · exact se_bltB (call_max2 cx.calm) hg hm PyProof.Rows.boot_max hs (by decide +kernel) (by decide +kernel) (cal_max2)
    · exact se_bltB (cr_sum cx.calm) hg hm PyProof.Rows.boot_sum hs (by decide +kernel) (by decide +kernel) (by rw [hk]; exact cal_sum)
    · exact se_bltB (call_sortedX cx.calm) hg hm PyProof.Rows.boot_sorted hs (by decide +kernel) (by decide +kernel) (by rw [hk]; exact cal_sorted)
    · exact se_bltB (cr_any cx.calm) hg hm PyProof.Rows.boot_any hs (by decide +kernel) (by decide +kernel) (by rw [hk]; exact cal_any)
    · exact se_bltB (cr_all cx.calm) hg hm PyProof.Rows.boot_all hs (by decide +kernel) (by decide +kernel) (by rw [hk]; exact cal_all)
    · exact se_bltT call_dictD hg hm PyProof.Rows.boot_dict hs (by decide +kernel) (by decide +kernel) (cal_dict)
theorem ssetL_ok (F : Fits K G C W X) {n : Nat} {x : Str} {p pos : Pos} {es : List Expr} {c : E} (hb : K.blt x = true) (ih : ∀ e c, cE n K e = some c → SE X G C W e c) (h : ssetL K.blt (cE n K) x es = some c) : SE X G C W (.Call (.Name x p) es [] pos) c := by
  unfold ssetL at h
  split at h
  · rename_i y py a kk pk
    split at h
    · rename_i q
      obtain ⟨q1, q2, q3, q4⟩ := q
      obtain ⟨ca, h1, rfl⟩ := Option.map_eq_some_iff.mp h
      subst q1
      obtain ⟨g1, g2⟩ := F.blt hb
      obtain ⟨g3, g4⟩ := F.blt q3
      exact se_sset F.cx.k F.cx.calm rfl q2 g1 g2 g3 g4 (ih _ _ h1) q4
    · cases h
  · cases h
theorem tyOfN_ok {t : Ty} (h : tyOfN x = some t) : bootBuiltins x = some (.type (tyName t)) ∧ x ≠ "__name__" ∧ (x == ("__debug__" : Str)) = false := by
  have h := PySem.mem_of_lookup h
  simp only [tyTab, List.mem_cons, Prod.mk.injEq, List.not_mem_nil, or_false] at h
  rcases h with ⟨rfl, rfl⟩ | ⟨rfl, rfl⟩ | ⟨rfl, rfl⟩ | ⟨rfl, rfl⟩ | ⟨rfl, rfl⟩ | ⟨rfl, rfl⟩
  all_goals exact ⟨by decide +kernel, by decide +kernel, by decide +kernel⟩
theorem cN_ok (F : Fits K G C W X) {e : Expr} {a : Str × Nat} (h : cN K e = some a) : PG X e (tG G (.nm a.2)) := by
  unfold cN at h
  split at h
  · split at h
    · simp only [Option.map_eq_some_iff] at h
      obtain ⟨i, h1, rfl⟩ := h
      obtain ⟨h2, h3⟩ := F.loc ‹_›
      exact pg_nm F.cx.nd (F.noclo (Kp.sto_n ‹_›) (F.at h1)) (F.at h1) h2 h3
    · cases h
  · cases h
theorem each_snd (e : Expr) (es : List Expr) (env : PySem.Env) : (assignEach (e :: es) env).map (·.2) = assign (unstar e) env :: (assignEach es env).map (·.2) := by
  cases e <;> rfl
theorem cNs_ok (F : Fits K G C W X) : ∀ {es : List Expr} {own : List (Str × Nat)}, cNs K es = some own → PGs X es (tGs G ((slotsOf own).map .nm)) ∧ own.length = es.length
  | [], own, h => by
    cases h
    exact ⟨tgs_nil, rfl⟩
  | e :: es, own, h => by
    simp only [cNs] at h
    split at h
    · rename_i a l h1 h2
      cases h
      obtain ⟨g1, g2⟩ := cNs_ok F h2
      exact ⟨tgs_cons (cN_ok F h1) g1 (each_snd _ _ _), by simp [g2]⟩
    · cases h
theorem cP_tup (F : Fits K G C W X) {n k : Nat} {es : List Expr} {pos : Pos} {p : Pat} {own : List (Str × Nat)} (e : cP K n (.Tuple es k pos) = some (p, own)) : PG X (.Tuple es k pos) (tG G p) := by
  simp only [cP] at e
  split at e
  · rename_i own' h1
    obtain ⟨g1, g2⟩ := cNs_ok F h1
    split at e
    · rename_i h2
      cases e
      exact pg_tp F.cx.k F.cx.calm g1 (by simp [slotsOf, g2]) h2
    · rename_i j h2
      split at e
      · rename_i h3
        cases e
        have ne : slotsOf own ≠ [] := by
          intro z
          have : (slotsOf own).length = es.length := by simp [slotsOf, g2]
          rw [z] at this
          simp at this
          omega
        have e1 : (slotsOf own).dropLast ++ [(slotsOf own).getLastD 0] = slotsOf own := by
          rw [List.getLastD_eq_getLast?, List.getLast?_eq_some_getLast ne]
          exact List.dropLast_concat_getLast ne
        have e2 : (slotsOf own).dropLast.length = j := by simp [slotsOf, g2]; omega
        refine pg_st F.cx.k F.cx.calm (by rw [e1]; exact g1) (by rw [e2]; omega) (by rw [e2]; exact h2)
      · cases e
  · cases e
theorem cP_ok (F : Fits K G C W X) : ∀ {n : Nat} {tg : Expr} {p : Pat} {own : List (Str × Nat)}, cP K n tg = some (p, own) → PG X tg (tG G p)
  | n, .Name x pos, p, own, e => by
    have e : (if K.sto x = true then (K.at x).map fun i => (Pat.nm i, [(x, i)]) else none) = some (p, own) := e
    split at e
    · simp only [Option.map_eq_some_iff, Prod.mk.injEq] at e
      obtain ⟨i, h1, rfl, rfl⟩ := e
      obtain ⟨h2, h3⟩ := F.loc ‹_›
      exact pg_nm F.cx.nd (F.noclo (Kp.sto_n ‹_›) (F.at h1)) (F.at h1) h2 h3
    · cases e
  | n, .BoolOp _ _ _, _, _, e | n, .NamedExpr _ _ _, _, _, e | n, .BinOp _ _ _ _, _, _, e | n, .UnaryOp _ _ _, _, _, e | n, .Lambda _ _ _ _, _, _, e | n, .IfExp _ _ _ _, _, _, e | n, .Dict _ _ _, _, _, e | n, .Set _ _ _, _, _, e
  | n, .ListComp _ _ _ _, _, _, e | n, .SetComp _ _ _ _, _, _, e | n, .DictComp _ _ _ _ _, _, _, e | n, .GeneratorExp _ _ _ _, _, _, e | n, .Await _ _, _, _, e | n, .Yield _ _, _, _, e | n, .YieldFrom _ _, _, _, e | n, .Compare _ _ _ _, _, _, e
  | n, .Call _ _ _ _, _, _, e | n, .FormattedValue _ _ _ _, _, _, e | n, .JoinedStr _ _, _, _, e | n, .Constant _ _ _, _, _, e | n, .Attribute _ _ _, _, _, e | n, .Subscript _ _ _, _, _, e | n, .Starred _ _, _, _, e | n, .List _ _, _, _, e
  | n, .Slice _ _ _ _, _, _, e => by simp [cP] at e
  | n, .Tuple _ _ _, _, _, e => cP_tup F e
theorem notSet_ok {iter : Expr} {env : PySem.Env} (h : notSet iter = true) : ∀ v, foldedSetIterable iter env v = pure v := fun v => by
  unfold notSet at h
  split at h
  · cases h
  · rename_i q
    unfold foldedSetIterable
    split
    · rename_i q2
      exact absurd rfl (q _ _ _)
    · rfl
theorem cI_ok (F : Fits K G C W X) (h : ∀ e c, f e = some c → SE X G C W e c) {iter tg : Expr} {k : Ik} {l : EL} (e : cI' K f tg iter = some (k, l)) (hn : notSet iter = true) : SI X G C W tg iter k l := by
  refine ⟨?_, notSet_ok hn⟩
  unfold cI' at e
  split at e
  · rename_i r q
    cases e
    unfold cI at q
    split at q
    · split at q
      · rename_i hx
        subst hx
        split at q
        · rename_i hb
          obtain ⟨hg, hm⟩ := F.blt hb
          split at q
          · simp only [Option.map_eq_some_iff, Prod.mk.injEq] at q
            obtain ⟨l', h1, rfl, rfl⟩ := q
            exact si_range1 hg hm (mapL_sa h h1)
          · simp only [Option.map_eq_some_iff, Prod.mk.injEq] at q
            obtain ⟨l', h1, rfl, rfl⟩ := q
            exact si_range2 hg hm (mapL_sa h h1)
          · cases q
        · cases q
      · split at q
        · rename_i hx
          subst hx
          split at q
          · rename_i hb
            simp only [Bool.and_eq_true] at hb
            obtain ⟨hg, hm⟩ := F.blt hb.1
            split at q
            · simp only [Option.map_eq_some_iff, Prod.mk.injEq] at q
              obtain ⟨l', h1, rfl, rfl⟩ := q
              obtain ⟨hb1, hb2⟩ := hb
              cases tg <;> first | exact si_zip F.cx.k hg hm (mapL_sa h h1) | cases hb2
            · cases q
          · cases q
        · cases q
    · cases q
  · simp only [Option.map_eq_some_iff, Prod.mk.injEq] at e
    obtain ⟨c, h1, rfl, rfl⟩ := e
    exact si_plain F.cx.k (h _ _ h1)
theorem blkB_ok {N : List Str} {sc scope : Scope} {own : List (Str × Nat)} (h : blkB N sc scope own = true) : BlkOk N sc scope own := by
  simp only [blkB, Bool.and_eq_true, decide_eq_true_eq, List.all_eq_true, Bool.or_eq_true, Bool.not_eq_true', decide_eq_false_iff_not] at h
  obtain ⟨⟨⟨⟨h1, h2⟩, h3⟩, h4⟩, h5⟩ := h
  refine ⟨h1, fun y hy => h2 y hy, fun p hp => h3 p hp, fun y hy e => ?_, fun y hy e => ?_⟩
  · rcases h4 y hy with q | q
    · exact absurd e q
    · exact q
  · rcases h5 y hy with q | q
    · have q : ¬ (y.2 = .local ∨ y.2 = .cell) := by simpa using q
      exact absurd e q
    · rcases q with q | q
      · exact .inl (by simpa using q)
      · exact .inr (by simpa using q)
theorem Fits.blk (F : Fits K G C W X) (z : Addr → Prop) (scope : Scope) : InBlk X scope fun Y V => Fits { K with sc := relS scope K.sc, fnb := fun x => scope.names.lookup x == some .cell } (G.hotter z) C V Y := fun s H A cl fp xe V q1 q2 =>
  ⟨F.cx.blk z s H scope _ fp q1 q2, F.N, by rw [← F.sc]; rfl, F.gl, F.bl, fun x hx => hx, F.clo, F.clo2, F.lam, F.own⟩
theorem blkK_ok (F : Fits K G C W X) {scope : Scope} {own : List (Str × Nat)} (h : blkK K scope own = true) : BlkOk K.N K.sc scope own ∧ ∀ i ∈ own.map (·.2), NoClo G i := by
  simp only [blkK, Bool.and_eq_true, List.all_eq_true, Bool.not_eq_true', decide_eq_false_iff_not] at h
  refine ⟨blkB_ok h.1, fun i hi => ?_⟩
  obtain ⟨q, hq, rfl⟩ := List.mem_map.mp hi
  exact F.noclo (h.2 q hq) (by rw [F.N]; exact (blkB_ok h.1).ix q hq)
end
/-! ### lambdas -/
section
variable {K : Kp} {X : Cx} {G : Gx} {C : Cl} {W : WX} {x : Str} {pos p : Pos} {f : Expr → Option E}
theorem cappL_ok (F : Fits K G C W X) (hn : K.cloN = some x) (h1 : (x == ("__debug__" : Str)) = false) (h2 : (x == ("__classdict__" : Str)) = false) (hv : K.vis x = true) (hE : ∀ e c, f e = some c → SE X G C W e c) {es : List Expr} {c : E} (h : cappL f es = some c) :
    SE X G C W (.Call (.Name x p) es [] pos) c := by
  obtain ⟨z, hz, hi⟩ := F.clo2 x hn
  cases es with
  | nil =>
    cases h
    exact se_capp0 F.cx hz hi (F.vis hv) h1 h2
  | cons e es =>
    obtain ⟨l, q, rfl⟩ := Option.map_eq_some_iff.mp (show (mapL f (e :: es)).map E.capp = some c from h)
    exact se_capp F.cx hz hi (F.vis hv) h1 h2 (mapL_sa hE q)
theorem capL_ok (F : Fits K G C W X) : ∀ {fr : List Str} {is : List Nat}, capL K fr = some is → is.map (fun j => X.N[j]?) = fr.map some
  | [], is, h => by cases h; rfl
  | y :: r, is, h => by
    simp only [capL] at h
    split at h
    · rename_i h1 h2
      cases h
      simp only [List.map_cons, F.at h1, capL_ok F h2]
    · cases h
theorem hcallL_ok (F : Fits K G C W X) {g : Nat} (hx : K.gl.lookup x = some (.hf g)) (hg : Gl X x) (hd : (x == ("__debug__" : Str)) = false) (hE : ∀ e c, f e = some c → SE X G C W e c) {es : List Expr} {c : E} (h : hcallL K f g es = some c) :
    SE X G C W (.Call (.Name x p) es [] pos) c := by
  have spl : ∀ {e : Expr}, es.getLast? = some e → es = es.dropLast ++ [e] := fun {e} q => by
    have ne : es ≠ [] := fun z => by rw [z] at q; cases q
    have := List.dropLast_concat_getLast ne
    rw [List.getLast?_eq_some_getLast ne] at q
    cases q
    exact this.symm
  unfold hcallL at h
  split at h
  · rename_i params body scope lp q
    unfold lamL at h
    split at h
    · rename_i n ps fr l h1 h2
      split at h
      · rename_i is h3
        split at h
        · rename_i hb
          simp only [Bool.and_eq_true, List.all_eq_true] at hb
          obtain ⟨b1, b2, b3, b4⟩ := hb
          cases h
          obtain ⟨ps', hp⟩ := Option.isSome_iff_exists.mp b4
          rw [spl q]
          refine se_calll F.cx (F.own _ _ _ _ _ h1) (by rw [F.gl]; exact hx) hg hd (F.lam _ _ _ _ _ _ _ h1) ((lamP_ok hp).2 _) (by rw [F.sc]; exact b1) (fun y hy => F.fn y (b2 y hy)) (fun y hy e => ?_) (capL_ok F h3) hE h2
          simp only [freeB, List.all_eq_true, Bool.or_eq_true, Bool.not_eq_true', decide_eq_false_iff_not, decide_eq_true_eq] at b3
          exact (b3 y hy).resolve_left fun z => z e
        · cases h
      · cases h
    · cases h
  · rename_i y p2 q
    split at h
    · rename_i hy
      obtain ⟨hn, hp, hv⟩ := hy
      obtain ⟨l, h2, rfl⟩ := Option.map_eq_some_iff.mp h
      have hp : (y == ("__debug__" : Str)) = false ∧ (y == ("__classdict__" : Str)) = false := by simpa [plainN] using hp
      obtain ⟨z, hz, hi⟩ := F.clo2 y hn
      rw [spl q]
      exact se_callp F.cx hz (by rw [F.gl]; exact hx) hg hd hi (F.vis hv) hp.1 hp.2 hE h2
    · cases h
  · cases h
end
theorem clsN_ok {K : Kp} {y : Str} {c : Nat} (h : clsN K y = some c) : K.glo y = true ∧ ∃ sup fl, K.gl.lookup y = some (.cls c sup fl) := by
  unfold clsN at h
  split at h
  · split at h
    · cases h
      exact ⟨‹_›, _, _, ‹_›⟩
    · cases h
  · cases h
theorem chkC_ok {gl : List (Str × Gv)} {c : Nat} {cs : List Nat} (h : chkC gl c cs = true) : ∀ z c' s' f', gl.lookup z = some (Gv.cls c' s' f') → cs.contains c' = s'.contains c := fun z c' s' f' e => by
  have := List.all_eq_true.mp h _ (lk_mem e)
  exact eq_of_beq this
theorem allC_ok {gl : List (Str × Gv)} : ∀ z c' s' f', gl.lookup z = some (Gv.cls c' s' f') → (allC gl).contains c' = true := fun z c' s' f' e => by
  simp only [List.contains_eq_mem, decide_eq_true_eq]
  exact List.mem_filterMap.mpr ⟨_, lk_mem e, rfl⟩
theorem isxN_ok {K : Kp} {X : Cx} {G : Gx} {C : Cl} {W : WX} (F : Fits K G C W X) {e : Expr} {cs : List Nat} (h : isxN K e = some cs) : IsN X G e cs := by
  unfold isxN at h
  split at h
  · split at h
    · rename_i c hc
      split at h
      · rename_i hk
        cases h
        obtain ⟨hg, sup, fl, hl⟩ := clsN_ok hc
        exact isn_own F.cx (by rw [F.gl]; exact hl) (F.glo hg).1 (F.glo hg).2 (by rw [F.gl]; exact chkC_ok hk)
      · cases h
    · split at h
      · rename_i hy
        cases h
        obtain ⟨rfl, hb⟩ := hy
        obtain ⟨q1, q2⟩ := F.blt hb
        exact isn_ve F.cx q1 q2 (by rw [F.gl]; exact allC_ok)
      · cases h
  · cases h
theorem isxNs_ok {K : Kp} {X : Cx} {G : Gx} {C : Cl} {W : WX} (F : Fits K G C W X) : ∀ {es : List Expr} {cs : List Nat}, isxNs K es = some cs → IsNs X G es cs
  | [], cs, h => by cases h; exact .nil
  | e :: es, cs, h => by
    unfold isxNs at h
    split at h
    · rename_i h1 h2
      cases h
      exact .cons (isxN_ok F h1) (isxNs_ok F h2)
    · cases h
theorem isxL_ok {K : Kp} {X : Cx} {G : Gx} {C : Cl} {W : WX} (F : Fits K G C W X) {p pos : Pos} {f : Expr → Option E} {es : List Expr} {c : E} (hb : K.blt "isinstance" = true) (h : ∀ e c, f e = some c → SE X G C W e c) (e : isxL K f es = some c) :
    SE X G C W (.Call (.Name "isinstance" p) es [] pos) c := by
  obtain ⟨q1, q2⟩ := F.blt hb
  unfold isxL at e
  split at e
  · split at e
    · rename_i cs hc
      split at e
      · rename_i hy
        simp only [Bool.and_eq_true, Bool.not_eq_true', decide_eq_true_eq] at hy
        obtain ⟨ca, h1, rfl⟩ := Option.map_eq_some_iff.mp e
        exact se_isyN F.cx q1 q2 (h _ _ h1) hy.1 (isxNs_ok F hc) hy.2.1
      · cases e
    · cases e
  · split at e
    · rename_i cs hc
      split at e
      · rename_i hy
        simp only [Bool.not_eq_true'] at hy
        obtain ⟨ca, h1, rfl⟩ := Option.map_eq_some_iff.mp e
        exact se_isy F.cx q1 q2 (h _ _ h1) hy (isxN_ok F hc)
      · cases e
    · cases e
  · cases e
theorem isM1_ok {e : Expr} (h : isM1 e = true) : ∃ k p1 p2, e = .UnaryOp .USub (.Constant (.int 1) k p1) p2 := by
  unfold isM1 at h
  split at h
  · rw [eq_of_beq h]; exact ⟨_, _, _, rfl⟩
  · cases h
theorem kdOf_some {K : Kp} {e : Expr} {q : Str × List (Cs × D)} (h : kdOf K e = some q) : ∃ p, e = .Name q.1 p ∧ K.glo q.1 = true ∧ K.gl.lookup q.1 = some (.kdt q.2) := by
  unfold kdOf at h
  split at h
  · split at h
    · split at h
      · cases h
        exact ⟨_, rfl, ‹_›, ‹_›⟩
      · cases h
    · cases h
  · cases h
theorem m2_of {X : Cx} {x : Str} {p apos pos : Pos} {e f : Expr} (he : starred e = false) (hf : starred f = false) (hl : (apos.endLine == pos.line) = true) : M2 X (.Name x p) "get" apos e f pos := by
  have t : starEach [e, f] X.env = [(false, eval e X.env), (false, eval f X.env)] := by
    rw [starEach_cons he, starEach_cons hf]; rfl
  exact ⟨rfl, by rw [t]; rfl, hl, by rw [t]; rfl⟩
theorem cA_ok {K : Kp} {X : Cx} {G : Gx} {C : Cl} {W : WX} (F : Fits K G C W X) : ∀ {e : Expr} {c : E}, cA K e = some c → PE X e (tAt c) ∧ atB c = true
  | .Constant v _ _, c, h => by
    cases v with
    | int i => cases h; exact ⟨at_int, rfl⟩
    | bool i => cases h; exact ⟨at_bl, rfl⟩
    | none => cases h; exact ⟨at_non, rfl⟩
    | str x => cases h; exact ⟨at_str, rfl⟩
    | _ => cases h
  | .Name x _, c, h => by
    simp only [cA] at h
    split at h
    · rename_i hp
      have hp : ((x == ("__debug__" : Str)) = false ∧ (x == ("__classdict__" : Str)) = false) ∧ K.vis x = true := by simpa [plainN] using hp
      obtain ⟨i, h1, rfl⟩ := Option.map_eq_some_iff.mp h
      exact ⟨at_var (F.at h1) (F.vis hp.2) hp.1.1 hp.1.2, rfl⟩
    · cases h
  | .BinOp (.Constant (.int i) _ _) .Pow (.Constant (.int j) _ _) _, c, h => by
    simp only [cA] at h
    split at h
    · rename_i hp
      cases h
      simp only [Bool.and_eq_true, decide_eq_true_eq] at hp
      exact ⟨at_pow hp.1 hp.2.1 hp.2.2, rfl⟩
    · cases h
theorem cAs_len {K : Kp} : ∀ {es : List Expr} {l : List E}, cAs K es = some l → l.length = es.length
  | [], l, h => by cases h; rfl
  | e :: r, l, h => by
    simp only [cAs] at h
    split at h
    · rename_i h1 h2
      cases h
      simp [cAs_len h2]
    · cases h
theorem cAk_len {K : Kp} : ∀ {es : List (Option Expr)} {l : List E}, cAk K es = some l → l.length = es.length ∧ es.all (·.isSome) = true
  | [], l, h => by cases h; exact ⟨rfl, rfl⟩
  | none :: r, l, h => by simp [cAk] at h
  | some e :: r, l, h => by
    simp only [cAk] at h
    split at h
    · rename_i h1 h2
      cases h
      obtain ⟨q1, q2⟩ := cAk_len h2
      exact ⟨by simp [q1], by simp [q2]⟩
    · cases h
theorem pairs_ok {K : Kp} {X : Cx} {G : Gx} {C : Cl} {W : WX} (F : Fits K G C W X) {pos : Pos} : ∀ {keys : List (Option Expr)} {values : List Expr} {ks vs : List E}, cAk K keys = some ks → cAs K values = some vs → ks.length = vs.length →
    PPs X pos keys values (trsA ks vs) ∧ ks.all atB = true ∧ vs.all atB = true
  | [], [], ks, vs, h1, h2, _ => by cases h1; cases h2; exact ⟨pps_nil, rfl, rfl⟩
  | [], v :: values, ks, vs, h1, h2, hl => by
    cases h1
    rw [cAs_len h2] at hl
    simp at hl
  | none :: keys, values, ks, vs, h1, h2, hl => by simp [cAk] at h1
  | some k :: keys, [], ks, vs, h1, h2, hl => by
    cases h2
    rw [(cAk_len h1).1] at hl
    simp at hl
  | some k :: keys, v :: values, ks, vs, h1, h2, hl => by
    simp only [cAk] at h1
    simp only [cAs] at h2
    split at h1
    · rename_i a1 a2
      cases h1
      split at h2
      · rename_i b1 b2
        cases h2
        obtain ⟨q1, q2⟩ := cA_ok F a1
        obtain ⟨q3, q4⟩ := cA_ok F b1
        obtain ⟨q5, q6, q7⟩ := pairs_ok F (pos := pos) a2 b2 (by simpa using hl)
        exact ⟨pps_cons q1 q3 q5, by simp [q2, q6], by simp [q4, q7]⟩
      · cases h2
    · cases h1
theorem cD_cases {K : Kp} {keys : List (Option Expr)} {values : List Expr} {c : E} (h : cD K keys values = some c) : (keys = [] ∧ values = [] ∧ c = .dct .nil .nil) ∨ ∃ ks vs, cAk K keys = some ks ∧ cAs K values = some vs ∧ ks.length = vs.length ∧ ks.length ≤ 15 ∧ keys ≠ [] ∧ c = .dct (EL.of ks) (EL.of vs) := by
  unfold cD at h
  split at h
  · cases h; exact .inl ⟨rfl, rfl, rfl⟩
  · split at h
    · rename_i h1 h2
      split at h
      · rename_i h3
        cases h
        exact .inr ⟨_, _, h1, h2, h3.1, h3.2.1, h3.2.2, rfl⟩
      · cases h
    · cases h
theorem cD_ok {K : Kp} {X : Cx} {G : Gx} {C : Cl} {W : WX} (F : Fits K G C W X) {pos : Pos} {keys : List (Option Expr)} {values : List Expr} {c : E} (h : cD K keys values = some c) : SE X G C W (.Dict keys values pos) c := by
  rcases cD_cases h with ⟨rfl, rfl, rfl⟩ | ⟨ks, vs, h1, h2, h3, h4, h5, rfl⟩
  · exact se_dct0
  · obtain ⟨q1, q2, q3⟩ := pairs_ok F (pos := pos) h1 h2 h3
    exact se_dct q1 (cAk_len h1).2 (by rw [← (cAk_len h1).1, ← cAs_len h2, h3]) h5 q2 q3 h3 (cAk_len h1).1 h4
theorem cD_box {K : Kp} {X : Cx} {G : Gx} {C : Cl} {W : WX} (F : Fits K G C W X) {pos : Pos} {keys : List (Option Expr)} {values : List Expr} {c : E} (h : cD K keys values = some c) : SE X G C W (.Dict keys values pos) (.box c) := by
  rcases cD_cases h with ⟨rfl, rfl, rfl⟩ | ⟨ks, vs, h1, h2, h3, h4, h5, rfl⟩
  · exact se_boxD0
  · obtain ⟨q1, q2, q3⟩ := pairs_ok F (pos := pos) h1 h2 h3
    exact se_boxD q1 (cAk_len h1).2 (by rw [← (cAk_len h1).1, ← cAs_len h2, h3]) h5 q2 q3 h3 (cAk_len h1).1 h4
theorem cE_ok : ∀ (n : Nat) (K : Kp) (e : Expr) (c : E), cE n K e = some c → ∀ (X : Cx) (G : Gx) (C : Cl) (W : WX), Fits K G C W X → SE X G C W e c
  | 0, K, e, c, h => by simp [cE] at h
  | n + 1, K, e, c, h => fun X G C W F => by
    have ih : ∀ e c, cE n K e = some c → SE X G C W e c := fun e c h => cE_ok n K e c h X G C W F
    cases e with
    | Constant v j pos =>
      cases v with
      | int i => cases h; exact se_int
      | bool i => cases h; exact se_bl
      | none => cases h; exact se_non
      | str x => cases h; exact se_str
      | _ => cases h
    | Name x pos =>
      simp only [cE] at h
      split at h
      · rename_i hp
        have hp : (x == ("__debug__" : Str)) = false ∧ (x == ("__classdict__" : Str)) = false := by simpa [plainN] using hp
        split at h
        · rename_i hv
          obtain ⟨i, h1, rfl⟩ := Option.map_eq_some_iff.mp h
          exact se_var (F.at h1) (F.vis hv) hp.1 hp.2
        · split at h
          · rename_i hg
            split at h
            · rename_i d hd
              cases h
              exact se_gcst F.cx (by rw [F.gl]; exact hd) (F.glo hg).1 hp.1
            · rename_i f hf
              cases h
              exact se_fnv F.cx (by rw [F.gl]; exact hf) (F.glo hg).1 hp.1
            · cases h
          · cases h
      · cases h
    | Dict keys values pos => exact cD_ok F (by simpa only [cE] using h)
    | BinOp a o b pos =>
      simp only [cE] at h
      split at h
      · rename_i h1 h2 h3
        cases h
        exact se_bop F.cx h1 (ih _ _ h2) (ih _ _ h3)
      · cases h
    | UnaryOp o a pos =>
      cases o with
      | Not =>
        obtain ⟨i, h1, rfl⟩ := Option.map_eq_some_iff.mp (show (cE n K a).map E.not = some c from h)
        exact se_not (ih _ _ h1)
      | USub =>
        obtain ⟨i, h1, rfl⟩ := Option.map_eq_some_iff.mp (show (cE n K a).map E.neg = some c from h)
        exact se_neg (ih _ _ h1)
      | _ => cases h
    | Compare a os bs pos =>
      match os, bs, h with
      | [o], [b], h0 =>
        have h : (if behindInMarks o b = true then none else (match kdOf K b with
          | some q => (cE n K a).bind (kinE o q.2)
          | none => (match copOf o, cE n K a, cE n K b with
            | some o, some a, some b => some (E.cmp o a b)
            | _, _, _ => none))) = some c := h0
        clear h0
        split at h
        · cases h
        · rename_i hb
          split at h
          · rename_i q hq
            obtain ⟨p, rfl, hg, hl⟩ := kdOf_some hq
            obtain ⟨ca, h1, h2⟩ := Option.bind_eq_some_iff.mp h
            have hm : behindInMarks o (.Name q.1 p) = false := by simpa using hb
            cases o with
            | In =>
              cases h2
              exact se_kin (neg := false) F.cx (by rw [F.gl]; exact hl) (F.glo hg).1 (F.glo hg).2 (ih _ _ h1) hm
            | NotIn =>
              cases h2
              exact se_kin (neg := true) F.cx (by rw [F.gl]; exact hl) (F.glo hg).1 (F.glo hg).2 (ih _ _ h1) hm
            | _ => cases h2
          · split at h
            · rename_i h1 h2 h3
              cases h
              exact se_cop F.cx h1 (ih _ _ h2) (ih _ _ h3) (by simpa using hb)
            · cases h
      | [o, p], [b, d], h =>
        have h : (if lastMarks [o, p] [b, d] = true then none else (match copOf o, copOf p, cE n K a, cE n K b, cE n K d with
          | some o, some p, some a, some b, some c => some (E.chain o p a b c)
          | _, _, _, _, _ => none)) = some c := h
        split at h
        · cases h
        · rename_i hb
          split at h
          · rename_i h1 h2 h3 h4 h5
            cases h
            exact se_chn F.cx h1 h2 (ih _ _ h3) (ih _ _ h4) (ih _ _ h5) (by simpa using hb)
          · cases h
    | BoolOp o es pos =>
      have h : foldB (cE n K) (isAnd o) es = some c := h
      exact (foldB_sb ih h).se
    | IfExp t a b pos =>
      simp only [cE] at h
      split at h
      · rename_i h1 h2 h3
        cases h
        exact se_ife (ih _ _ h1) (ih _ _ h2) (ih _ _ h3)
      · cases h
    | Tuple es k pos =>
      simp only [cE] at h
      split at h
      · rename_i l h1
        split at h
        · cases h
          exact se_tup (mapL_sa ih h1) ‹_›
        · cases h
      · cases h
    | List es pos =>
      simp only [cE] at h
      split at h
      · rename_i l h1
        split at h
        · cases h
          exact se_lst (mapL_sa ih h1) ‹_›
        · cases h
      · cases h
    | Subscript a b pos =>
      simp only [cE] at h
      split at h
      · split at h
        · rename_i h1 h2 h3
          cases h
          exact se_slc F.cx.k (ih _ _ h1) (oneO_so ih h2) (oneO_so ih h3)
        · cases h
      · split at h
        · rename_i hm1
          obtain ⟨ca, h1, rfl⟩ := Option.map_eq_some_iff.mp h
          obtain ⟨kk, p1, p2, rfl⟩ := isM1_ok hm1
          exact se_rev F.cx.k (ih _ _ h1)
        · cases h
      · split at h
        · rename_i hn
          split at h
          · rename_i q hq
            obtain ⟨p, rfl, hg, hl⟩ := kdOf_some hq
            obtain ⟨cb, h1, rfl⟩ := Option.map_eq_some_iff.mp h
            exact se_kix F.cx (by rw [F.gl]; exact hl) (F.glo hg).1 (F.glo hg).2 (ih _ _ h1) hn
          · split at h
            · rename_i h1 h2
              cases h
              exact se_idx (by have := F.cx.bd; omega) F.cx.k (ih _ _ h1) (ih _ _ h2) hn
            · cases h
        · cases h
    | Call g es kws pos =>
      match g, kws, h with
      | .Name x p, [], h0 =>
        have h : (if K.glo x = true then (match K.gl.lookup x with
          | some (.fn f) => (mapL (cE n K) es).map (E.call f)
          | some (.hf f) => hcallL K (cE n K) f es
          | some _ => none
          | none => if K.blt x = true then (if x = "isinstance" then (match isxL K (cE n K) es with
            | some c => some c
            | none => isinL K.blt (cE n K) es) else match ssetL K.blt (cE n K) x es with
              | some c => some c
              | none => match bltOf x es.length with
              | some b => (mapL (cE n K) es).map (E.blt b)
              | none => none) else none) else if (plainN x && K.vis x) = true then (if K.cloN = some x then cappL (cE n K) es else appL (cE n K) (K.at x) es) else none) = some c := h0
        clear h0
        split at h
        · rename_i hg
          obtain ⟨hg1, hg2⟩ := F.glo hg
          split at h
          · rename_i f hf
            obtain ⟨l, h1, rfl⟩ := Option.map_eq_some_iff.mp h
            have sa := mapL_sa ih h1
            cases es with
            | nil => cases h1; exact se_call0 F.cx (by rw [F.gl]; exact hf) hg1 hg2
            | cons e es => exact se_call F.cx (by rw [F.gl]; exact hf) hg1 hg2 sa
          · rename_i f hf
            exact hcallL_ok F hf hg1 hg2 ih h
          · cases h
          · split at h
            · rename_i hb
              split at h
              · rename_i hx
                subst hx
                split at h
                · rename_i c' hx2
                  cases h
                  exact isxL_ok F hb ih hx2
                unfold isinL at h
                split at h
                · rename_i a y py
                  split at h
                  · rename_i t ht
                    split at h
                    · rename_i hy
                      simp only [Bool.and_eq_true, Bool.not_eq_true'] at hy
                      obtain ⟨ca, h1, rfl⟩ := Option.map_eq_some_iff.mp h
                      obtain ⟨q1, q2⟩ := F.blt hb
                      obtain ⟨q3, q4⟩ := F.blt hy.1
                      obtain ⟨q5, q6, q7⟩ := tyOfN_ok ht
                      exact se_isin q1 q2 (ih _ _ h1) hy.2 F.cx.k q3 q4 q5 q6 q7
                    · cases h
                  · cases h
                · rename_i a y py z pz kk pt
                  split at h
                  · rename_i t u ht hu
                    split at h
                    · rename_i hy
                      simp only [Bool.and_eq_true, Bool.not_eq_true'] at hy
                      obtain ⟨ca, h1, rfl⟩ := Option.map_eq_some_iff.mp h
                      obtain ⟨q1, q2⟩ := F.blt hb
                      obtain ⟨q3, q4⟩ := F.blt hy.1.1
                      obtain ⟨q5, q6, q7⟩ := tyOfN_ok ht
                      obtain ⟨r3, r4⟩ := F.blt hy.1.2
                      obtain ⟨r5, r6, r7⟩ := tyOfN_ok hu
                      exact se_isin2 q1 q2 (ih _ _ h1) hy.2 F.cx.k q3 q4 q5 q6 q7 r3 r4 r5 r6 r7
                    · cases h
                  · cases h
                · cases h
              · split at h
                · rename_i c' hx2
                  cases h
                  exact ssetL_ok F hb ih hx2
                split at h
                · rename_i b hbl
                  obtain ⟨l, h1, rfl⟩ := Option.map_eq_some_iff.mp h
                  exact se_blt F hbl hb (mapL_sa ih h1)
                · cases h
            · cases h
        · split at h
          · rename_i hv
            simp only [Bool.and_eq_true] at hv
            obtain ⟨hp, hv⟩ := hv
            have hp : (x == ("__debug__" : Str)) = false ∧ (x == ("__classdict__" : Str)) = false := by simpa [plainN] using hp
            split at h
            · rename_i hcn
              exact cappL_ok F hcn hp.1 hp.2 hv ih h
            cases es with
            | nil => cases hi : K.at x <;> rw [hi] at h <;> cases h
            | cons e es =>
              cases hi : K.at x with
              | none => rw [hi] at h; cases h
              | some i =>
                rw [hi] at h
                obtain ⟨l, h1, rfl⟩ := Option.map_eq_some_iff.mp (show (mapL (cE n K) (e :: es)).map (E.app (.var i)) = some c from h)
                exact se_app F.cx (F.at hi) (F.vis hv) hp.1 hp.2 (mapL_sa ih h1)
          · cases h
      | .Attribute (.Constant o kk q) m ap, [], h0 =>
        have h : (if (ap.endLine == pos.line) = true then joinL (cE n K) (.Constant o kk q) m es else none) = some c := h0
        clear h0
        split at h
        · rename_i hl
          unfold joinL at h
          split at h
          · split at h
            · rename_i hx
              obtain ⟨hx1, hx2⟩ := hx
              subst hx1
              split at h
              · rename_i h1 h2
                cases h
                exact se_join F.cx.k (ih _ _ h1) (ih _ _ h2) hx2 rfl hl
              · cases h
            · cases h
          · cases h
        · cases h
      | .Attribute (.List ls q) m ap, [], h0 =>
        have h : (if (ap.endLine == pos.line) = true then indexL (cE n K) (.List ls q) m es else none) = some c := h0
        clear h0
        split at h
        · rename_i hl
          unfold indexL at h
          split at h
          · split at h
            · rename_i hx
              obtain ⟨hx1, hx2⟩ := hx
              subst hx1
              split at h
              · rename_i h1 h2
                cases h
                exact se_index F.cx.k (ih _ _ h1) (ih _ _ h2) hx2 hl
              · cases h
            · cases h
          · cases h
        · cases h
      | .Attribute (.Name x p) m ap, [], h0 =>
        have h : (if (ap.endLine == pos.line) = true then (match kdOf K (.Name x p) with
          | some q => getL (cE n K) q.2 m es
          | none => methL (cE n K) (.Name x p) m es) else none) = some c := h0
        clear h0
        split at h
        · rename_i hl
          split at h
          · rename_i q hq
            obtain ⟨p', ep, hg, hk⟩ := kdOf_some hq
            cases ep
            unfold getL at h
            split at h
            · split at h
              · rename_i hx
                obtain ⟨hx1, hx2, hx3⟩ := hx
                subst hx1
                split at h
                · rename_i h1 h2
                  cases h
                  exact se_kget F.cx (by rw [F.gl]; exact hk) (F.glo hg).1 (F.glo hg).2 (ih _ _ h1) (ih _ _ h2) (m2_of hx2 hx3 hl)
                · cases h
              · cases h
            · cases h
          · unfold methL at h
            split at h
            · split at h
              · rename_i hx
                subst hx
                obtain ⟨co, h1, rfl⟩ := Option.map_eq_some_iff.mp h
                exact se_pop F.cx (ih _ _ h1) hl
              · cases h
            · split at h
              · cases h
              · rename_i hs
                split at h
                · rename_i h1 h2
                  split at h
                  · rename_i hx
                    subst hx
                    cases h
                    exact se_append F.cx (ih _ _ h1) (ih _ _ h2) (by simpa using hs) hl
                  · split at h
                    · rename_i hx
                      subst hx
                      cases h
                      exact se_extend F.cx (ih _ _ h1) (ih _ _ h2) (by simpa using hs) hl
                    · cases h
                · cases h
            · cases h
        · cases h
    | Attribute o m pos =>
      match o, h with
      | .Name x p, h0 =>
        obtain ⟨co, h1, rfl⟩ := Option.map_eq_some_iff.mp (show (cE n K (.Name x p)).map (fun c => E.fld c m.cps.toList) = some c from h0)
        exact se_fldx F.cx (ih _ _ h1) (by rfl)
    | ListComp elt gens scope pos =>
      match gens, h with
      | [⟨tg, iter, ifs, 0⟩], h =>
        have h : (match cI' K (cE n K) tg iter, cP { K with sc := relS scope K.sc, fnb := fun x => scope.names.lookup x == some .cell } n tg with
          | some (k, l), some (p, own) => if (blkK K scope own && decide (own.map (·.2) = p.slots) && notSet iter) = true then
              (match testL (cE n { K with sc := relS scope K.sc, fnb := fun x => scope.names.lookup x == some .cell }) ifs, cE n { K with sc := relS scope K.sc, fnb := fun x => scope.names.lookup x == some .cell } elt with
              | some t, some c => some (E.comp p k l t c)
              | _, _ => none) else none
          | _, _ => none) = some c := h
        split at h
        · rename_i k l p own h1 h2
          split at h
          · rename_i hb
            simp only [Bool.and_eq_true, decide_eq_true_eq] at hb
            split at h
            · rename_i t ce ht he
              cases h
              have fb := fun z => F.blk z scope
              refine se_comp F.cx (by rw [← hb.1.2]; exact (blkK_ok F hb.1.1).2) (cI_ok F ih h1 hb.2) (by rw [F.N, F.sc]; exact (blkK_ok F hb.1.1).1) hb.1.2 (fun z s H A cl fp xe V q1 q2 => cP_ok (fb z s H A cl fp xe V q1 q2) h2) (fun z s H A cl fp xe V q1 q2 => ?_)
                fun z s H A cl fp xe V q1 q2 => cE_ok n _ elt ce he _ _ _ _ (fb z s H A cl fp xe V q1 q2)
              unfold testL at ht
              split at ht
              · cases ht; exact st_nil
              · obtain ⟨cc, h3, rfl⟩ := Option.map_eq_some_iff.mp ht
                exact st_one (cE_ok n _ _ cc h3 _ _ _ _ (fb z s H A cl fp xe V q1 q2))
              · cases ht
            · cases h
          · cases h
        · cases h
    | _ => cases h
end PV
set_option Elab.async false
set_option autoImplicit false
set_option maxRecDepth 100000
set_option maxHeartbeats 1000000
namespace PV
open PySem PySem.Spec PyProof.Rows L2
def mapS (f : Stmt → Option S) : List Stmt → Option SL
  | [] => some .nil
  | e :: r => match f e, mapS f r with
    | some c, some l => some (.cons c l)
    | _, _ => none
/-- does a comprehension leave its list to the name at once -/
def swq (sc : Scope) (x : Str) (p : Pos) (e : Expr) : Bool := match e with
  | .ListComp _ _ s q => decide (sc.names.lookup x = some .local) && (p.line == q.line) && !(s.names.any fun (n, k) => n == x && (k == .local || k == .cell))
  | _ => false
/-- the value of an assignment to x -/
def boxE (K : Kp) (n : Nat) (x : Str) (e : Expr) : Option E := if K.boxed.contains x then (match e with
    | .List es _ => (match mapL (cE n K) es with
      | some l => if ELlen l ≤ 1000 then some (.box (.lst l)) else none
      | none => none)
    | .Dict ks vs _ => (cD K ks vs).map .box
    | .Call (.Name y _) [a] [] _ => if y = "dict" ∧ K.blt "dict" = true ∧ starred a = false then (cE n K a).map fun c => .box (.blt .dict (.cons c .nil)) else cE n K e
    | .BinOp a .Add (.List es p) _ => (match cE n K a, cE n K (.List es p) with
      | some c, some d => some (.box (.op .add c d))
      | _, _ => none)
    | e => cE n K e) else cE n K e
def retE (K : Kp) (n : Nat) (e : Expr) : Option E := match e with
  | .Name x p => if K.frz.contains x then (cE n K (.Name x p)).map .frz else cE n K (.Name x p)
  | .List es p => if K.frz.contains "return" then (match mapL (cE n K) es with
      | some l => if ELlen l ≤ 1000 then some (.box (.lst l)) else none
      | none => none) else cE n K (.List es p)
  | .Call (.Name x p) [a] [] q => if K.frz.contains "return" = true ∧ x = "sorted" ∧ K.blt x = true ∧ starred a = false then (cE n K a).map fun c => .box (.blt .sorted (.cons c .nil)) else cE n K (.Call (.Name x p) [a] [] q)
  | e => cE n K e
def augOf : Operator → Option Bop
  | .Add => some .add
  | .Sub => some .sub
  | _ => none
def notTup (e : Expr) : Bool := match e with
  | .Tuple _ _ _ => false
  | _ => true
/-- x, y = a, b: two names of the def -/
def parS (K : Kp) (f : Expr → Option E) : List Expr → Expr → Option S
  | [.Name x px, .Name y py], .Tuple [a, b] _ _ => if decide (K.sc.names.lookup x = some .local) && (decide (K.sc.names.lookup y = some .local) && ((py.line == px.line) && (!(y == x) && (!starred a && (!starred b && (!([a, b].all (foldedForSure 8)) && (!([a, b].all (constantsAlone 8)) && (!decide (K.cloN = some x) && !decide (K.cloN = some y))))))))) then (match K.at x, K.at y, f a, f b with
    | some i, some j, some c, some d => if i ≠ j then some (.par [i, j] (.cons c (.cons d .nil))) else none
    | _, _, _, _ => none) else none
  | _, _ => none
/-- raise C(), C without fields; any other one is not to be reached -/
def raiseS (K : Kp) (f : Expr → Option E) : Expr → S
  | .Call (.Name x _) [] [] _ => if K.glo x then (match K.gl.lookup x with
    | some (.cls c _ []) => .raise c .nil
    | _ => stopS) else stopS
  | .Call (.Name x _) (e :: es) [] _ => if K.glo x then (match K.gl.lookup x with
    | some (.cls c _ (f1 :: fr)) => (match mapL f (e :: es) with
      | some l => if l.to.length = (f1 :: fr).length then .raise c l else stopS
      | none => stopS)
    | _ => stopS) else stopS
  | _ => stopS
/-- except C: y = a constant -/
def conD : Expr → Option D
  | .Constant .none _ _ => some .non
  | .Constant (.bool b) _ _ => some (.bl b)
  | .Constant (.int i) _ _ => some (.int i)
  | _ => none
def tryO (K : Kp) (b : Option SL) : List ExceptHandler → Option S
  | [.ExceptHandler (some (.Name x _)) none [.Assign [.Name y _] e _] _] => (match b, clsN K x, K.at y, conD e with
    | some b, some c, some j, some d => if K.sto y && chkC K.gl c (belowC K.gl c) then
        some (.tryx b (.cons (belowC K.gl c) none (.cons (.asg (.nm j) (.cst d)) .nil) .nil)) else none
    | _, _, _, _ => none)
  | _ => none
/-- except C as n: y = n -/
def tryS (K : Kp) (b : Option SL) : List ExceptHandler → Option S
  | [.ExceptHandler (some (.Name x _)) (some n) [.Assign [.Name y _] (.Name n' _) _] _] => if n = n' then (match b, clsN K x, K.at n, K.at y with
    | some b, some c, some i, some j => if decide (K.sc.names.lookup n = some .local) && (K.sto y && (plainN n && (chkC K.gl c (belowC K.gl c) && !decide (K.cloN = some n)))) then
        some (.tryx b (.cons (belowC K.gl c) (some i) (.cons (.asg (.nm j) (.var i)) .nil) .nil)) else none
    | _, _, _, _ => none) else none
  | _ => none
def cS : Nat → Kp → Stmt → Option S
  | 0, _, _ => none
  | n + 1, K, s => match s with
    | .Expr e _ => if notComp e then (cE n K e).map .expr else none
    | .Assign [t] e _ => (match t with
      | .Name x p => if K.sto x then (match K.at x, boxE K n x e with
        | some i, some c => if notComp e || swq K.sc x p e then some (.asg (.nm i) c) else none
        | _, _ => none) else none
      | .Subscript o i _ => if notComp e && notSlice i then (match cE n K o, cE n K i, cE n K e with
        | some o, some i, some e => some (.sset o i e)
        | _, _, _ => none) else none
      | .Tuple es k p => if notTup e then (match cP K n (.Tuple es k p), cE n K e with
        | some (p, _), some c => some (.asg p c)
        | _, _ => none) else parS K (cE n K) es e
      | _ => none)
    | .AugAssign (.Name x _) op e _ => if K.sto x then (match K.at x, augOf op, cE n K e with
      | some i, some o, some c => some (.aug i o c)
      | _, _, _ => none) else none
    | .If c a b _ => (match cE n K c, mapS (cS n K) a, mapS (cS n K) b with
      | some c, some a, some b => some (.ife c a b)
      | _, _, _ => none)
    | .While c b [] _ => (match cE n K c, mapS (cS n K) b with
      | some c, some b => some (.whl c b)
      | _, _ => none)
    | .For tg iter b [] _ => if notSet iter then (match cI' K (cE n K) tg iter, cP K n tg, mapS (cS n K) b with
      | some (k, l), some (p, _), some b => some (.for_ p k l b)
      | _, _, _ => none) else none
    | .Return (some e) _ => (retE K n e).map .ret
    | .Return none _ => some (.ret (.cst .non))
    | .Pass _ => some .pass
    | .Break _ => some .brk
    | .Continue _ => some .cont
    | .Raise (some e) none _ => some (raiseS K (cE n K) e)
    | .Try b hs [] [] _ => (match tryO K (mapS (cS n K) b) hs with
      | some c => some c
      | none => tryS K (mapS (cS n K) b) hs)
    | _ => none
section
variable {K : Kp} {X : Cx} {G : Gx} {C : Cl} {W : WX} {x : Str} {pos : Pos}
theorem mapS_ok {f : Stmt → Option S} (h : ∀ e c, f e = some c → PS X e (tS G C W c)) : ∀ {es : List Stmt} {l : SL}, mapS f es = some l → PSs X es (tSL G C W l)
  | [], l, e => by
    cases e
    exact sl_nil
  | a :: r, l, e => by
    simp only [mapS] at e
    split at e
    · rename_i h1 h2
      cases e
      exact sl_cons (h _ _ h1) (mapS_ok h h2)
    · cases e
theorem boxE_ok (F : Fits K G C W X) {n : Nat} {e : Expr} {c : E} (h : boxE K n x e = some c) : SE X G C W e c := by
  unfold boxE at h
  split at h
  · split at h
    · split at h
      · rename_i h1
        split at h
        · cases h
          exact se_boxL (mapL_sa (fun e c h => cE_ok n K e c h X G C W F) h1) ‹_›
        · cases h
      · cases h
    · obtain ⟨c', h1, rfl⟩ := Option.map_eq_some_iff.mp h
      exact cD_box F h1
    · split at h
      · rename_i hy
        obtain ⟨rfl, hb, hst⟩ := hy
        obtain ⟨c', h1, rfl⟩ := Option.map_eq_some_iff.mp h
        obtain ⟨q1, q2⟩ := F.blt hb
        exact se_boxDict F.cx.k rfl q1 q2 (cE_ok n K _ _ h1 X G C W F) hst
      · exact cE_ok n K _ c h X G C W F
    · split at h
      · rename_i h1 h2
        cases h
        exact se_boxAdd F.cx.k (cE_ok n K _ _ h1 X G C W F) (cE_ok n K _ _ h2 X G C W F)
      · cases h
    · exact cE_ok n K _ c h X G C W F
  · exact cE_ok n K e c h X G C W F
theorem retE_ok (F : Fits K G C W X) {n : Nat} {e : Expr} {c : E} (h : retE K n e = some c) : SE X G C W e c := by
  unfold retE at h
  split at h
  · split at h
    · obtain ⟨c', h1, rfl⟩ := Option.map_eq_some_iff.mp h
      exact se_frz (cE_ok n K _ _ h1 X G C W F) rfl
    · exact cE_ok n K _ c h X G C W F
  · split at h
    · split at h
      · rename_i h1
        split at h
        · cases h
          exact se_boxL (mapL_sa (fun e c h => cE_ok n K e c h X G C W F) h1) ‹_›
        · cases h
      · cases h
    · exact cE_ok n K _ c h X G C W F
  · split at h
    · rename_i q
      obtain ⟨c', h1, rfl⟩ := Option.map_eq_some_iff.mp h
      obtain ⟨g1, g2⟩ := F.blt q.2.2.1
      rw [q.2.1] at g1 g2
      exact se_boxSorted F.cx.k F.cx.calm q.2.1 g1 g2 (cE_ok n K _ _ h1 X G C W F) q.2.2.2
    · exact cE_ok n K _ c h X G C W F
  · exact cE_ok n K _ c h X G C W F
theorem add_ints (d e : D) (y : Int) (h : bop .add d e = some (.int y)) : ∃ i j, d = .int i ∧ e = .int j ∧ y = i + j := by
  cases d <;> cases e <;> simp [bop] at h
  exact ⟨_, _, rfl, rfl, h.symm⟩
theorem sub_ints (d e : D) (y : Int) (h : bop .sub d e = some (.int y)) : ∃ i j, d = .int i ∧ e = .int j ∧ y = i - j := by
  cases d <;> cases e <;> simp [bop] at h
  exact ⟨_, _, rfl, rfl, h.symm⟩
/-- several names -/
theorem ss_asgT {es : List Expr} {k : Nat} {p : Pos} {e : Expr} {ce : E} {q : Pat} (ht : notTup e = true) (he : SE X G C W e ce) (hg : PG X (.Tuple es k p) (tG G q)) : PS X (.Assign [.Tuple es k p] e pos) (tS G C W (.asg q ce)) :=
  ps_of (ps_asg he.pe hg (by rw [swapsWithSole]; cases e <;> rfl) (by cases e <;> first | rfl | cases ht)) fun Z σ H ⟨m, h, ρ, st, ok⟩ => by
    simp only [evS] at ok
    refine tS_step st ok fun d h1 m1 v H1 x r p st1 ok1 => ?_
    obtain ⟨ρ', e1, ok1⟩ := thenS_of ok1
    exact ⟨m1, h1, ρ, d, ρ', st1, p, e1, fun m' σ' H' x' s' _ => ok1 m' σ' H' x' s'⟩
/-- a comprehension stored at once -/
theorem ss_setq (F : Fits K G C W X) {n i : Nat} {p : Pos} {e : Expr} {c : E} (hi : K.at x = some i) (hk : K.sc.kind = .function) (hs : K.sto x = true) (h : cE n K e = some c) (hq : swq K.sc x p e = true) : PS X (.Assign [.Name x p] e pos) (tS G C W (.asg (.nm i) c)) := by
  cases n with
  | zero => simp [cE] at h
  | succ n =>
    cases e with
    | ListComp elt gens scope q =>
      match gens, h with
      | [⟨tg, iter, ifs, 0⟩], h0 =>
        have h : (match cI' K (cE n K) tg iter, cP { K with sc := relS scope K.sc, fnb := fun x => scope.names.lookup x == some .cell } n tg with
          | some (k, l), some (p, own) => if (blkK K scope own && decide (own.map (·.2) = p.slots) && notSet iter) = true then
              (match testL (cE n { K with sc := relS scope K.sc, fnb := fun x => scope.names.lookup x == some .cell }) ifs, cE n { K with sc := relS scope K.sc, fnb := fun x => scope.names.lookup x == some .cell } elt with
              | some t, some c => some (E.comp p k l t c)
              | _, _ => none) else none
          | _, _ => none) = some c := h0
        clear h0
        have hq : (decide (K.sc.names.lookup x = some .local) && (p.line == q.line) && !(scope.names.any fun (n, k) => n == x && (k == .local || k == .cell))) = true := hq
        simp only [Bool.and_eq_true, decide_eq_true_eq, Bool.not_eq_true'] at hq
        split at h
        · rename_i k l p own h1 h2
          split at h
          · rename_i hb
            simp only [Bool.and_eq_true, decide_eq_true_eq] at hb
            split at h
            · rename_i t ce ht he
              cases h
              have fb := fun z => F.blk z scope
              have ih : ∀ e c, cE n K e = some c → SE X G C W e c := fun e c h => cE_ok n K e c h X G C W F
              refine ss_setC F.cx (by rw [← hb.1.2]; exact (blkK_ok F hb.1.1).2) (F.noclo (Kp.sto_n hs) (F.at hi)) (F.at hi) (by rw [F.sc]; exact hq.1.1) (sw_true (by rw [F.sc]; exact hk) (by rw [F.sc]; exact hq.1.1) hq.1.2 hq.2) (cI_ok F ih h1 hb.2) (by rw [F.N, F.sc]; exact (blkK_ok F hb.1.1).1) hb.1.2 (fun z s H A cl fp xe V q1 q2 => cP_ok (fb z s H A cl fp xe V q1 q2) h2)
                (fun z s H A cl fp xe V q1 q2 => ?_) fun z s H A cl fp xe V q1 q2 => cE_ok n _ elt ce he _ _ _ _ (fb z s H A cl fp xe V q1 q2)
              unfold testL at ht
              split at ht
              · cases ht; exact st_nil
              · obtain ⟨cc, h3, rfl⟩ := Option.map_eq_some_iff.mp ht
                exact st_one (cE_ok n _ _ cc h3 _ _ _ _ (fb z s H A cl fp xe V q1 q2))
              · cases ht
            · cases h
          · cases h
        · cases h
    | _ => cases hq
end
theorem any_ns {p : Expr → Bool} (hp : ∀ e, starred e = false → p e = false) {a b : Expr} (ha : starred a = false) (hb : starred b = false) : [a, b].any p = false := by
  simp only [List.any_cons, List.any_nil, hp a ha, hp b hb, Bool.or_self]
theorem sws_ok {x y : Str} {px py pt pt2 : Pos} {kt k2 : Nat} {a b : Expr} {env : PySem.Env} (hk : env.blockKind = .function) (hx : env.kindOf x = some .local) (hy : env.kindOf y = some .local) (hl : (py.line == px.line) = true) (ne : (y == x) = false)
    (ha : starred a = false) (hb : starred b = false) (hf : [a, b].all (foldedForSure 8) = false) (hc : [a, b].all (constantsAlone 8) = false) :
    swappedStores [.Tuple [.Name x px, .Name y py] kt pt] (.Tuple [a, b] k2 pt2) env = pure (some [x, y]) := by
  have hxx : (env.kindOf x == some NameKind.local) = true := by rw [hx]; rfl
  have hyy : (env.kindOf y == some NameKind.local) = true := by rw [hy]; rfl
  have he : [x, y].eraseDups = [x, y] := by
    rw [List.eraseDups_cons]
    simp [ne, List.eraseDups_cons]
  unfold swappedStores
  dsimp only
  rw [if_neg (by rw [hk]; simp)]
  rw [any_ns (fun e h => by cases e <;> first | rfl | cases h) ha hb]
  rw [if_neg Bool.false_ne_true]
  simp only [List.filterMap_cons, List.filterMap_nil, List.head?_cons, Option.map_some, Option.getD_some, Expr.pos, hxx, hyy, hl, beq_self_eq_true, Bool.and_self, if_true, he, hf, hc, List.length_cons, List.length_nil, bne_self_eq_false, Bool.or_self, Bool.false_eq_true, if_false]
theorem parS_ok {K : Kp} {X : Cx} {G : Gx} {C : Cl} {W : WX} (F : Fits K G C W X) (hk : K.sc.kind = .function) {f : Expr → Option E} {es : List Expr} {kt : Nat} {p pos : Pos} {e : Expr} {c : S} (h : ∀ e c, f e = some c → SE X G C W e c) (q : parS K f es e = some c) :
    PS X (.Assign [.Tuple es kt p] e pos) (tS G C W c) := by
  unfold parS at q
  split at q
  · split at q
    · rename_i hq
      simp only [Bool.and_eq_true, decide_eq_true_eq, Bool.not_eq_true', decide_eq_false_iff_not] at hq
      obtain ⟨h1, h2, h3, h4, h5, h6, h7, h8, h9, h10⟩ := hq
      split at q
      · rename_i i j ca cb hi hj hca hcb
        split at q
        · rename_i nij
          cases q
          have l1 := h1
          have l2 := h2
          rw [← F.sc] at l1 l2
          refine ps_of (ps_par F.cx.calm F.cx.nd (F.at hi) (F.at hj) nij l1 l2 (sa_cons (h _ _ hca) (sa_cons (h _ _ hcb) sa_nil h6) h5).pa (sws_ok (by unfold Env.blockKind; rw [F.sc, hk]; rfl) l1 l2 h3 h4 h5 h6 h7 h8)) fun Z σ H ⟨m, h, ρ, st, ok⟩ => ?_
          simp only [evS] at ok
          refine tSL_step st ok fun ds hh m1 vs H1 xx r p1 st1 ok1 => ?_
          obtain ⟨ρ', e1, ok1⟩ := thenS_of ok1
          match ds, vs, p1, e1 with
          | [d1, d2], [v1, v2], .cons q1 (.cons q2 .nil), e1 =>
            cases e1
            exact ⟨v1, v2, rfl, ok1 m1 _ H1 .refl ((st1.set (F.noclo h9 (F.at hi)) q1).set (F.noclo h10 (F.at hj)) q2)⟩
          | [], [], _, e1 => cases e1
          | [_], [_], _, e1 => simp [setsN] at e1
          | _ :: _ :: _ :: _, _ :: _ :: _ :: _, _, e1 => simp [setsN] at e1
        · cases q
      · cases q
    · cases q
  · cases q
theorem raiseS_ok {K : Kp} {X : Cx} {G : Gx} {C : Cl} {W : WX} (F : Fits K G C W X) (T : StC X W) {f : Expr → Option E} (h : ∀ e c, f e = some c → SE X G C W e c) {e : Expr} {pos : Pos} : PS X (.Raise (some e) none pos) (tS G C W (raiseS K f e)) := by
  unfold raiseS
  split
  · split
    · rename_i hg
      split
      · rename_i c sup hl
        exact ss_raise0 F.cx T.tk (by rw [F.gl]; exact hl) (F.glo hg).1 (F.glo hg).2
      · exact ss_stop _
    · exact ss_stop _
  · split
    · rename_i hg
      split
      · rename_i c sup f1 fr hl
        split
        · rename_i l hm
          split
          · rename_i hlen
            exact ss_raiseF F.cx T.tk (by rw [F.gl]; exact hl) (by simp) (F.glo hg).1 (F.glo hg).2 (mapL_sa h hm) hlen
          · exact ss_stop _
        · exact ss_stop _
      · exact ss_stop _
    · exact ss_stop _
  · exact ss_stop _
theorem Fits.tr {K : Kp} {X : Cx} {G : Gx} {C : Cl} {W W' : WX} {pn : List (Addr × Obj)} {xe : Value → Shared → Prop} (F : Fits K G C W X) (tk : Takes (X.tr pn xe) W') (hs : X.stack = X.env :: X.outer) (hf : X.env.frame = some X.env.locals) (po : PassesOwn (model X.prog X.w) X.A X.env xe) : Fits K G C W' (X.tr pn xe) :=
  ⟨F.cx.tr tk hs hf po, F.N, F.sc, F.gl, F.bl, F.fn, F.clo, F.clo2, F.lam, F.own⟩
theorem tryS_ok {K : Kp} {X : Cx} {G : Gx} {C : Cl} {W : WX} (F : Fits K G C W X) (T : StC X W) {body : List Stmt} {b : Option SL} {hs : List ExceptHandler} {c : S} {pos : Pos} (h : tryS K b hs = some c)
    (hb : ∀ b', b = some b' → ∀ (X' : Cx) (W' : WX), Fits K G C W' X' → StC X' W' → PSs X' body (tSL G C W' b')) : PS X (.Try body hs [] [] pos) (tS G C W c) := by
  unfold tryS at h
  split at h
  · split at h
    · rename_i hn
      subst hn
      split at h
      · rename_i b' c' i j hc hi hj
        split at h
        · rename_i hq
          simp only [Bool.and_eq_true, decide_eq_true_eq, Bool.not_eq_true', decide_eq_false_iff_not] at hq
          obtain ⟨hl, hy, hp, hk, hn9⟩ := hq
          cases h
          obtain ⟨hg, sup, fl, hx⟩ := clsN_ok hc
          simp only [plainN, Bool.and_eq_true, Bool.not_eq_true'] at hp
          obtain ⟨h3, h4⟩ := F.loc hy
          have hl' := hl
          rw [← F.sc] at hl'
          exact ss_try F.cx T.tk T.stk T.fr (F.noclo hn9 (F.at hi)) (F.noclo (Kp.sto_n hy) (F.at hj)) (F.at hi) hl' (.inl hl') hp.1 hp.2 (F.at hj) h3 h4 (by rw [F.gl]; exact hx) (F.glo hg).1 (F.glo hg).2 (by rw [F.gl]; exact chkC_ok hk)
            fun W' pn xe tk po => hb b' rfl _ _ (F.tr tk T.stk T.fr po) ⟨tk, T.stk, T.fr⟩
        · cases h
      · cases h
    · cases h
  · cases h
theorem conD_ok {G : Gx} {e : Expr} {d : D} (hd : conD e = some d) : ∃ v : V, valD d = some v ∧ (∀ (H : L2.Hp) (Lv : Addr → Prop) (m : List Addr), Rep G H Lv m d v) ∧ (∀ (Y : Cx), PE Y e (tAt (.cst d))) ∧ ∀ (env : PySem.Env) (y : Str) (py : Pos) (l : Nat), swapsWith e (some (.Name y py)) l env = pure false := by
  unfold conD at hd
  split at hd
  · cases hd; exact ⟨_, rfl, fun _ _ _ => .non, fun _ => at_non, fun _ _ _ _ => rfl⟩
  · cases hd; exact ⟨_, rfl, fun _ _ _ => .bl _, fun _ => at_bl, fun _ _ _ _ => rfl⟩
  · cases hd; exact ⟨_, rfl, fun _ _ _ => .int _, fun _ => at_int, fun _ _ _ _ => rfl⟩
  · cases hd
theorem tryO_ok {K : Kp} {X : Cx} {G : Gx} {C : Cl} {W : WX} (F : Fits K G C W X) (T : StC X W) {body : List Stmt} {b : Option SL} {hs : List ExceptHandler} {c : S} {pos : Pos} (h : tryO K b hs = some c)
    (hb : ∀ b', b = some b' → ∀ (X' : Cx) (W' : WX), Fits K G C W' X' → StC X' W' → PSs X' body (tSL G C W' b')) : PS X (.Try body hs [] [] pos) (tS G C W c) := by
  unfold tryO at h
  split at h
  · split at h
    · rename_i b' c' j d hc hj hd
      split at h
      · rename_i hq
        simp only [Bool.and_eq_true] at hq
        cases h
        obtain ⟨hg, sup, fl, hx⟩ := clsN_ok hc
        obtain ⟨h3, h4⟩ := F.loc hq.1
        obtain ⟨v, q1, q2, q3, q4⟩ := conD_ok (G := G) hd
        exact ss_tryO (pos := pos) F.cx T.tk T.stk T.fr q1 q2 q3 (fun env => q4 env _ _ _) (F.noclo (Kp.sto_n hq.1) (F.at hj)) (F.at hj) h3 h4 (by rw [F.gl]; exact hx) (F.glo hg).1 (F.glo hg).2 (by rw [F.gl]; exact chkC_ok hq.2)
            fun W' pn xe tk po => hb b' rfl _ _ (F.tr tk T.stk T.fr po) ⟨tk, T.stk, T.fr⟩
      · cases h
    · cases h
  · cases h
theorem cS_ok : ∀ (n : Nat) (K : Kp) (s : Stmt) (c : S), K.sc.kind = .function → cS n K s = some c → ∀ (X : Cx) (G : Gx) (C : Cl) (W : WX), Fits K G C W X → StC X W → PS X s (tS G C W c)
  | 0, K, e, c, _, h => by simp [cS] at h
  | n + 1, K, s, c, hk, h => fun X G C W F T => by
    have ihe : ∀ e c, cE n K e = some c → SE X G C W e c := fun e c h => cE_ok n K e c h X G C W F
    have ih : ∀ e c, cS n K e = some c → PS X e (tS G C W c) := fun e c h => cS_ok n K e c hk h X G C W F T
    cases s with
    | Expr e pos =>
      simp only [cS] at h
      split at h
      · rename_i hn
        obtain ⟨c', h1, rfl⟩ := Option.map_eq_some_iff.mp h
        exact ss_expr (ihe _ _ h1) (sw_no hn)
      · cases h
    | Assign ts e pos =>
      cases ts with
      | nil => cases h
      | cons t ts => cases ts with
      | cons _ _ => cases h
      | nil =>
      have h0 := h
      clear h
      cases t with
      | Name x p =>
        have h : (if K.sto x = true then (match K.at x, boxE K n x e with
          | some i, some c => if (notComp e || swq K.sc x p e) = true then some (S.asg (.nm i) c) else none
          | _, _ => none) else none) = some c := h0
        clear h0
        split at h
        · rename_i hs
          split at h
          · rename_i i ce h1 h2
            split at h
            · rename_i hq
              cases h
              obtain ⟨h3, h4⟩ := F.loc hs
              by_cases hn : notComp e = true
              · exact ss_set F.cx (F.noclo (Kp.sto_n hs) (F.at h1)) (F.at h1) h3 (boxE_ok F h2) (sw_no hn) h4
              · have hq : swq K.sc x p e = true := by simpa [hn] using hq
                refine ss_setq (n := n) F h1 hk hs ?_ hq
                unfold boxE at h2
                split at h2
                · unfold swq at hq
                  split at hq
                  · exact h2
                  · cases hq
                · exact h2
            · cases h
          · cases h
        · cases h
      | Subscript o i p =>
        have h : (if (notComp e && notSlice i) = true then (match cE n K o, cE n K i, cE n K e with
          | some o, some i, some e => some (S.sset o i e)
          | _, _, _ => none) else none) = some c := h0
        clear h0
        split at h
        · rename_i hn
          simp only [Bool.and_eq_true] at hn
          split at h
          · rename_i h1 h2 h3
            cases h
            refine ss_sset F.cx (ihe _ _ h1) (ihe _ _ h2) (ihe _ _ h3) hn.1 (fun v => ?_)
            cases i <;> first | rfl | (exact absurd hn.2 (by simp [notSlice]))
          · cases h
        · cases h
      | Tuple es k p =>
        have h : (if notTup e = true then (match cP K n (.Tuple es k p), cE n K e with
          | some (p, _), some c => some (S.asg p c)
          | _, _ => none) else parS K (cE n K) es e) = some c := h0
        clear h0
        split at h
        · rename_i hn
          split at h
          · rename_i h1 h2
            cases h
            exact ss_asgT hn (ihe _ _ h2) (cP_tup F h1)
          · cases h
        · exact parS_ok F hk ihe h
      | _ => cases h0
    | AugAssign t op e pos =>
      cases t with
      | Name x p =>
        have h : (if K.sto x = true then (match K.at x, augOf op, cE n K e with
          | some i, some o, some c => some (S.aug i o c)
          | _, _, _ => none) else none) = some c := h
        split at h
        · rename_i hs
          split at h
          · rename_i h1 h2 h3
            cases h
            obtain ⟨h4, h5⟩ := F.loc hs
            cases op <;> cases h2
            · exact ss_aug F.cx (F.noclo (Kp.sto_n hs) (F.at h1)) (F.at h1) h4 h5 ip_add add_ints (ihe _ _ h3)
            · exact ss_aug F.cx (F.noclo (Kp.sto_n hs) (F.at h1)) (F.at h1) h4 h5 ip_sub sub_ints (ihe _ _ h3)
          · cases h
        · cases h
      | _ => cases h
    | If t a b pos =>
      simp only [cS] at h
      split at h
      · rename_i h1 h2 h3
        cases h
        exact ss_if (ihe _ _ h1) (mapS_ok ih h2) (mapS_ok ih h3)
      · cases h
    | While t b o pos =>
      match o, h with
      | [], h0 =>
        have h : (match cE n K t, mapS (cS n K) b with
          | some c, some b => some (S.whl c b)
          | _, _ => none) = some c := h0
        clear h0
        split at h
        · rename_i h1 h2
          cases h
          exact ss_whl F.cx (ihe _ _ h1) (mapS_ok ih h2)
        · cases h
    | For tg iter b o pos =>
      match o, h with
      | [], h0 =>
        have h : (if notSet iter = true then (match cI' K (cE n K) tg iter, cP K n tg, mapS (cS n K) b with
          | some (k, l), some (p, _), some b => some (S.for_ p k l b)
          | _, _, _ => none) else none) = some c := h0
        clear h0
        split at h
        · rename_i hn
          split at h
          · rename_i h1 h2 h3
            cases h
            exact ss_for F.cx (cI_ok F ihe h1 hn) (cP_ok F h2) (mapS_ok ih h3)
          · cases h
        · cases h
    | Return v pos =>
      cases v with
      | none => cases h; exact ss_retN
      | some e =>
        obtain ⟨c', h1, rfl⟩ := Option.map_eq_some_iff.mp (show (retE K n e).map S.ret = some c from h)
        exact ss_ret (retE_ok F h1)
    | Pass pos => cases h; exact ss_pass
    | Break pos => cases h; exact ss_brk
    | Continue pos => cases h; exact ss_cont
    | Raise e ca pos =>
      match e, ca, h with
      | some e, none, h0 =>
        obtain rfl : raiseS K (cE n K) e = c := Option.some.inj h0
        exact raiseS_ok F T ihe
    | Try b hs el fi pos =>
      match el, fi, h with
      | [], [], h0 =>
        have h : (match tryO K (mapS (cS n K) b) hs with
          | some c => some c
          | none => tryS K (mapS (cS n K) b) hs) = some c := h0
        split at h
        · rename_i h2
          cases h
          exact tryO_ok F T h2 fun b' hb X' W' F' T' => mapS_ok (fun e c h => cS_ok n K e c hk h X' G C W' F' T') hb
        · exact tryS_ok F T h fun b' hb X' W' F' T' => mapS_ok (fun e c h => cS_ok n K e c hk h X' G C W' F' T') hb
    | _ => cases h
end PV
set_option Elab.async false
set_option autoImplicit false
set_option maxRecDepth 100000
set_option maxHeartbeats 1000000
namespace PV
open PySem PySem.Spec PyProof.Rows L2
mutual
/-- the same texts, of those that stand in lambdas here -/
def E.same : E → E → Bool
  | .cst a, .cst b => D.same a b
  | .var i, .var j => i == j
  | .cmp o a b, .cmp p c d => decide (o = p) && (E.same a c && E.same b d)
  | .op o a b, .op p c d => decide (o = p) && (E.same a c && E.same b d)
  | .ife a b c, .ife x y z => E.same a x && (E.same b y && E.same c z)
  | .tup l, .tup k => EL.same l k
  | .call f l, .call g k => f == g && EL.same l k
  | _, _ => false
def EL.same : EL → EL → Bool
  | .nil, .nil => true
  | .cons a l, .cons b k => E.same a b && EL.same l k
  | _, _ => false
end
mutual
theorem E.same_ok : ∀ {a b : E}, E.same a b = true → a = b
  | .cst a, b, h => by
    cases b <;> simp [E.same] at h
    rw [D.same_eq _ _ h]
  | .var i, b, h => by
    cases b <;> simp [E.same] at h
    rw [h]
  | .cmp o a b, e, h => by
    cases e <;> simp [E.same] at h
    rw [h.1, E.same_ok h.2.1, E.same_ok h.2.2]
  | .op o a b, e, h => by
    cases e <;> simp [E.same] at h
    rw [h.1, E.same_ok h.2.1, E.same_ok h.2.2]
  | .ife a b c, e, h => by
    cases e <;> simp [E.same] at h
    rw [E.same_ok h.1, E.same_ok h.2.1, E.same_ok h.2.2]
  | .tup l, e, h => by
    cases e <;> simp [E.same] at h
    rw [EL.same_ok h]
  | .call f l, e, h => by
    cases e <;> simp [E.same] at h
    rw [h.1, EL.same_ok h.2]
  | .neg _, _, h | .not _, _, h | .chain _ _ _ _ _, _, h | .and _ _, _, h | .or _ _, _, h | .lst _, _, h | .dct _ _, _, h | .idx _ _, _, h | .slc _ _ _, _, h | .rev _, _, h | .fld _ _, _, h | .app _ _, _, h | .meth _ _ _, _, h | .make _ _, _, h
  | .blt _ _, _, h | .mut _ _ _, _, h | .comp _ _ _ _ _, _, h | .comp2 _ _ _ _ _ _ _ _, _, h | .dcomp _ _ _ _ _ _, _, h | .lam _ _, _, h | .capp _, _, h | .calll _ _ _ _, _, h | .callp _ _, _, h | .box _, _, h | .frz _, _, h => by simp [E.same] at h
theorem EL.same_ok : ∀ {a b : EL}, EL.same a b = true → a = b
  | .nil, b, h => by cases b <;> simp [EL.same] at h; rfl
  | .cons a l, b, h => by
    cases b <;> simp [EL.same] at h
    rw [E.same_ok h.1, EL.same_ok h.2]
end
/-- a lambda's text, read: where it stands, its number, its parameters, what it captures -/
structure Lm where
  line : Nat
  col : Nat
  g : Nat
  ps : List Str
  fr : List Str
  e : E
/-- a def's text, read -/
structure Rd1 where
  ps : List Str
  N : List Str
  boxed : List Str := []
  frz : List Str := []
  cloN : Option Str := none
  lams : List Lm := []
def fuel : Nat := 60
def kpL (gl : List (Str × Gv)) (bl : List Str) (ps fr : List Str) (scope : Scope) : Kp := ⟨ps ++ fr, scope, gl, bl, fun _ => false, [], [], none, fun _ _ _ _ => none⟩
def lamGood (gl : List (Str × Gv)) (bl : List Str) (q : Lm) (params : Arguments) (body : Expr) (scope : Scope) : Bool :=
  decide (lamP params = some q.ps) && (NdefX.nscB (q.ps ++ q.fr) q.ps q.fr scope && (match cE fuel (kpL gl bl q.ps q.fr scope) body with
    | some e => E.same e q.e
    | none => false))
def lamRof (gl : List (Str × Gv)) (bl : List Str) (lams : List Lm) (pos : Pos) (params : Arguments) (body : Expr) (scope : Scope) : Option (Nat × List Str × List Str) := match lams.find? (fun q => q.line == pos.line && q.col == pos.col) with
  | some q => if lamGood gl bl q params body scope then some (q.g, q.ps, q.fr) else none
  | none => none
def kpOf (gl : List (Str × Gv)) (bl : List Str) (r : Rd1) (scope : Scope) : Kp := ⟨r.N, scope, gl, bl, fun _ => true, r.boxed, r.frz, r.cloN, lamRof gl bl r.lams⟩
/-- how many plain parameters -/
def Rd1.np (r : Rd1) : Nat := match r.cloN with
  | none => r.ps.length
  | some _ => r.ps.length - 1
def Rd1.good (r : Rd1) : Bool := match r.cloN with
  | none => true
  | some x => decide (1 ≤ r.ps.length) && decide (r.N[r.ps.length - 1]? = some x)
def readFd (gl : List (Str × Gv)) (bl : List Str) (r : Rd1) (scope : Scope) (body : List Stmt) : Option Fd :=
  if r.ps.length ≤ r.N.length ∧ scope.kind = .function ∧ r.good = true then (mapS (cS fuel (kpOf gl bl r scope)) body).map fun l => ⟨r.np, r.N.length, l⟩ else none
/-- a lambda as a def -/
def lamFd (ps fr : List Str) (e : E) : Fd := ⟨ps.length + fr.length, ps.length + fr.length, .cons (.ret e) .nil⟩
def LamsIn (pr : Prog) : List Lm → Prop
  | [] => True
  | q :: r => pr.fn q.g = some (lamFd q.ps q.fr q.e) ∧ LamsIn pr r
theorem LamsIn.mem {pr : Prog} {q : Lm} : ∀ {l : List Lm}, LamsIn pr l → q ∈ l → pr.fn q.g = some (lamFd q.ps q.fr q.e)
  | _ :: _, h, m => by
    rcases List.mem_cons.mp m with rfl | m
    · exact h.1
    · exact LamsIn.mem h.2 m
def lamTof (gl : List (Str × Gv)) (bl : List Str) (pr : Prog) (g : Nat) (ps fr : List Str) (params : Arguments) (body : Expr) (scope : Scope) : Prop :=
  lamP params = some ps ∧ NdefX.nscB (ps ++ fr) ps fr scope = true ∧ ∃ e, pr.fn g = some (lamFd ps fr e) ∧ cE fuel (kpL gl bl ps fr scope) body = some e
theorem lamRof_ok {gl : List (Str × Gv)} {bl : List Str} {pr : Prog} {lams : List Lm} (h : LamsIn pr lams) {pos : Pos} {params : Arguments} {body : Expr} {scope : Scope} {g : Nat} {ps fr : List Str} (q : lamRof gl bl lams pos params body scope = some (g, ps, fr)) : lamTof gl bl pr g ps fr params body scope := by
  unfold lamRof at q
  split at q
  · rename_i m hm
    split at q
    · rename_i hg
      cases q
      simp only [lamGood, Bool.and_eq_true, decide_eq_true_eq] at hg
      obtain ⟨h1, h2, h3⟩ := hg
      split at h3
      · rename_i e he
        exact ⟨h1, h2, m.e, h.mem (List.mem_of_find?_eq_some hm), by rw [he, E.same_ok h3]⟩
      · cases h3
    · cases q
  · cases q
/-- the def's own table -/
def ownB (K : PySem.W.Frag) (tabs : List (Addr × Str)) (f : Addr) (q : Str) : Prop := ∃ c P, codeOf K f = some c ∧ PySem.W.codeHdIn K c P = true ∧ (P, q) ∈ tabs
structure DefOk (K : PySem.W.Frag) (G : Gx) (pr : Prog) (f : Nat) (ho : Bool) : Prop where
  ex : ∃ (x qual : Str) (params : Arguments) (body : List Stmt) (scope : Scope) (dvs : List V) (kws : List (Str × V)) (fd : FuncData) (r : Rd1) (d : Fd), FunD K x qual params body scope dvs kws (G.fa f) fd ∧ FnScope r.N r.ps scope ∧ Binds K fd r.ps [] ∧
    pr.fn f = some d ∧ readFd G.gl G.bl r scope body = some d ∧ r.cloN.isSome = ho ∧ LamsIn pr r.lams ∧ (r.lams ≠ [] → ownB K G.tabs (G.fa f) (qual ++ ".<locals>." ++ "<lambda>"))
/-- the module's names -/
structure Mods (w : World) (K : PySem.W.Frag) (mg : Str → Option Value) (G : Gx) (pr : Prog) : Prop where
  k : G.K = K
  gfn : ∀ x f, G.gl.lookup x = some (.fn f) → f ∈ G.fns ∧ mg x = some (.ref (G.fa f))
  ghf : ∀ x f, G.gl.lookup x = some (.hf f) → f ∈ G.hfs ∧ mg x = some (.ref (G.fa f))
  gcst : ∀ x d, G.gl.lookup x = some (.cst d) → ∃ v u, mg x = some u ∧ RelV v u ∧ RepK G d v
  gkd : ∀ x l, G.gl.lookup x = some (.kdt l) → ∃ a, mg x = some (.ref a) ∧ KTab K w G a l
  gbl : ∀ x ∈ G.bl, mg x = none
  gcl : ∀ x c sup fl, G.gl.lookup x = some (.cls c sup fl) → ClsOk K mg G.ca G.flds G.gl x c sup fl
  ini : ∀ x c sup fl, G.gl.lookup x = some (.cls c sup fl) → fl ≠ [] → InitK K (G.ca c) fl
  fix : ∀ c k j, pr.fix c k = some j → (G.flds c)[j]? = some (str k) ∧ PySem.W.findIn K (.ref (G.ca c)) (str k) = some none
  fixI : ∀ c k j, pr.fixI c k = some j → (G.flds c)[j]? = some (str k) ∧ NoAttr K (G.ca c) (str k) ∧ Cls K (G.ca c)
  df : ∀ f ∈ G.fns, DefOk K G pr f false
  dfh : ∀ f ∈ G.hfs, DefOk K G pr f true
  tabu : ∀ p ∈ G.tabs, ∀ q ∈ G.tabs, p.1 = q.1 → p.2 = q.2
  lamT : G.lamT = lamTof G.gl G.bl pr
  bmod : G.tabs ≠ [] → ∃ bm o, mg "__builtins__" = some (.ref bm) ∧ bm ≠ builtinsNs ∧ bm ≠ mainGlobals ∧ K.lookup bm = some o ∧ o.cls = .type "module" ∧ o.dict = some builtinsNs ∧ o.data = .plain ∧ ∀ p ∈ G.tabs, bm ≠ p.1 ∧ mainGlobals ≠ p.1
/-- all at a level -/
structure AllOk (P : Program) (w : World) (K : PySem.W.Frag) (mg : Str → Option Value) (G : Gx) (pr : Prog) (n : Nat) : Prop where
  fns : ∀ f ∈ G.fns, ∃ fd ps, (∀ base hot kn, FOk P w K mg base n (G.fa f) fd ps (spU (G.heat ⟨hot, kn, none⟩) pr n f)) ∧ PySem.W.keepIn K (.ref (G.fa f)) = true ∧ Binds K fd ps []
  hfs : ∀ f ∈ G.hfs, ∃ fd ps j, (∀ base hot kn z, z.j = j → LRun P w K mg base n G kn pr z → FOk P w K mg base n (G.fa f) fd ps (spK (G.heat ⟨hot, kn, some z⟩) pr n f z)) ∧ PySem.W.keepIn K (.ref (G.fa f)) = true ∧ Binds K fd ps []
  mkl : ∀ g ps fr params body scope, G.lamT g ps fr params body scope → ∀ base kn z, z.f = g → CloB base kn ps fr params body scope z → LRun P w K mg base n G kn pr z
theorem ctx_all {X : Cx} {W : WX} {G : Gx} {pr : Prog} {k : Nat} (M : Mods X.w X.K X.mg G pr) (A : AllOk X.prog X.w X.K X.mg G pr k) (calm : X.calm = true) (nd : X.N.Nodup) (room : Rm k X.A) (tk : TakesF X W) (po : PassesOwn (model X.prog X.w) X.A X.env X.xe)
    (hot : Addr → Prop) (kn : List (Addr × HO)) (c : Option CloI) (hl : ∀ z, c = some z → LRun X.prog X.w X.K X.mg X.base k G kn pr z) : Ctx (G.heat ⟨hot, kn, c⟩) (clOf pr k (c.map fun z => (z.f, z.ds))) W X where
  k := M.k.symm
  call := rfl
  kall := rfl
  ks := rfl
  calm := calm
  nd := nd
  room := room
  fns := A.fns
  hfs := fun f hf => let ⟨fd, ps, j, h1, h2, h3⟩ := A.hfs f hf; ⟨fd, ps, j, fun base hot kn z e r => h1 base hot kn z e ⟨r.at_, r.run⟩, h2, h3⟩
  ghf := M.ghf
  lam := fun z e => let r := hl z e; ⟨r.at_, r.run⟩
  mkl := fun g ps fr params body scope h base kn z e c => let r := A.mkl g ps fr params body scope h base kn z e c; ⟨r.at_, r.run⟩
  tabu := M.tabu
  gfn := M.gfn
  gcst := fun x d e => let ⟨v, u, q1, q2, q3⟩ := M.gcst x d e; ⟨v, u, q1, q2, q3.heat _⟩
  gkd := fun x l e => let ⟨a, q1, q2⟩ := M.gkd x l e; ⟨a, q1, q2.heat _⟩
  gbl := M.gbl
  gcl := M.gcl
  ini := M.ini
  fix := M.fix
  fixI := M.fixI
  tk := tk
  po := po
theorem own_of {X : Cx} {G : Gx} {pr : Prog} {f : Addr} {q : Str} {cdv : Value} (M : Mods X.w X.K X.mg G pr) (kin : X.K.In X.base) (hc : ∀ c, codeOf X.K f = some c → cdv = .ref c) (he : X.env.code = cdv) (hq : X.env.qual ++ "<lambda>" = q) (o : ownB X.K G.tabs f q) : OwnT X G := by
  obtain ⟨c, P, h1, h2, h3⟩ := o
  obtain ⟨bm, ob, b1, b2, b3, b4, b5, b6, b7, b8⟩ := M.bmod (fun z => by rw [z] at h3; cases h3)
  exact ⟨c, P, by rw [he]; exact hc c h1, NdefX.tabB_of_K kin h2 ⟨bm, ob, b1, b2, b3, (b8 _ h3).1, kin _ _ b4, b5, b6, b7⟩ (b8 _ h3).2, by rw [hq]; exact h3⟩
theorem fits_of {X : Cx} {W : WX} {G : Gx} {pr : Prog} {n : Nat} {r : Rd1} {scope : Scope} {f : Addr} {cdv : Value} {qual : Str} (M : Mods X.w X.K X.mg G pr) (hN : X.N = r.N) (hsc : X.env.scope = scope) (hfn : ∀ x, X.fn x = true) (hL : LamsIn pr r.lams) (kin : X.K.In X.base) (hc : ∀ c, codeOf X.K f = some c → cdv = .ref c) (he : X.env.code = cdv)
    (hq : X.env.qual = qual ++ ".<locals>.") (ho : r.lams ≠ [] → ownB X.K G.tabs f (qual ++ ".<locals>." ++ "<lambda>")) {hot : Addr → Prop} {kn : List (Addr × HO)} {c : Option CloI} (hcl : ∀ z, c = some z → ∃ x, r.cloN = some x ∧ r.N[z.j]? = some x) (hcl2 : ∀ x, r.cloN = some x → ∃ z, c = some z ∧ r.N[z.j]? = some x)
    (cx : Ctx (G.heat ⟨hot, kn, c⟩) (clOf pr n (c.map fun z => (z.f, z.ds))) W X) : Fits (kpOf G.gl G.bl r scope) (G.heat ⟨hot, kn, c⟩) (clOf pr n (c.map fun z => (z.f, z.ds))) W X :=
  ⟨cx, hN, hsc, rfl, rfl, fun x _ => hfn x, fun z e => by
    obtain ⟨x, h1, h2⟩ := hcl z e
    exact ⟨x, h1, by rw [hN]; exact h2⟩, fun x e => by
    obtain ⟨z, h1, h2⟩ := hcl2 x e
    exact ⟨z, h1, by rw [hN]; exact h2⟩, fun pos params body sc g ps fr e => by
    show G.lamT g ps fr params body sc
    rw [M.lamT]
    exact lamRof_ok hL e, fun pos params body sc r' e => by
    have ne : r.lams ≠ [] := fun z => by
      have e : lamRof G.gl G.bl r.lams pos params body sc = some r' := e
      rw [z] at e
      cases e
    obtain ⟨c', P, q1, q2, q3⟩ := own_of (G := G) M kin hc he (by rw [hq]) (ho ne)
    exact ⟨c', P, q1, q2, q3⟩⟩
theorem all_ok {P : Program} {w : World} {K : PySem.W.Frag} {mg : Str → Option Value} {G : Gx} {pr : Prog} (M : Mods w K mg G pr) (n : Nat) : AllOk P w K mg G pr n := by
  induction n using Nat.strongRecOn with
  | _ n ih =>
  refine ⟨fun f hf => ?_, fun f hf => ?_, fun g ps fr params body scope hT base kn z hz hB => ?_⟩
  · obtain ⟨x, qual, params, body, scope, dvs, kws, fd, r, d, F, S, B, h1, h2, h3, h4, h5⟩ := (M.df f hf).ex
    refine ⟨fd, r.ps, fun base hot kn => ?_, F.kp, B⟩
    have hcn : r.cloN = none := by cases q : r.cloN <;> rw [q] at h3 <;> first | rfl | cases h3
    unfold readFd at h2
    split at h2
    case isFalse => cases h2
    rename_i hl
    obtain ⟨sl, h6, rfl⟩ := Option.map_eq_some_iff.mp h2
    have hnp : r.np = r.ps.length := by unfold Rd1.np; rw [hcn]
    rw [hnp] at h1
    cases n with
    | zero =>
      refine ⟨fun vs H Q E sp => ?_, fun A outer s H args us vs Q E hr e0 hb rv sp => ?_⟩
      · obtain ⟨m, h, ds, _, _, ok⟩ := sp
        exact ok.elim
      · obtain ⟨m, h, ds, _, _, ok⟩ := sp
        exact ok.elim
    | succ n =>
      refine fok_of (N := r.N) F S (fun vs H Q E sp => (sp_body (N := r.N) h1 rfl hl.1 rfl sp).1) fun cdv A outer s H vs Q E hcd e0 hr sp => ?_
      exact ⟨_, mapS_ok (fun e c hc => cS_ok fuel (kpOf G.gl G.bl r scope) e c hl.2.1 hc _ (G.heat ⟨hot, kn, none⟩) (clOf pr n none) (fun cls d _ H => E cls d H)
        (fits_of (X := cxOf (L2.CX P w) P w K mg base r.N qual scope (G.fa f) cdv A outer s H E) (G := G) (n := n) (c := none) M rfl rfl (fun _ => rfl) h4 e0.mod.kin hcd rfl rfl h5 (fun z e => by cases e) (fun x e => by rw [hcn] at e; cases e) (ctx_all (X := cxOf (L2.CX P w) P w K mg base r.N qual scope (G.fa f) cdv A outer s H E) (G := G) (k := n) M (ih n (Nat.lt_succ_self n)) rfl S.nd hr (TakesF.of (takes_of rfl rfl rfl rfl) rfl rfl) (passes_of rfl) hot kn none fun z e => by cases e)) ⟨takes_of rfl rfl rfl rfl, rfl, rfl⟩) h6, (sp_body (N := r.N) h1 rfl hl.1 rfl sp).2⟩
  · obtain ⟨x, qual, params, body, scope, dvs, kws, fd, r, d, F, S, B, h1, h2, h3, h4, h5⟩ := (M.dfh f hf).ex
    refine ⟨fd, r.ps, r.ps.length - 1, fun base hot kn z hj L => ?_, F.kp, B⟩
    obtain ⟨y, hcn⟩ : ∃ y, r.cloN = some y := by cases q : r.cloN <;> rw [q] at h3 <;> first | exact ⟨_, rfl⟩ | cases h3
    unfold readFd at h2
    split at h2
    case isFalse => cases h2
    rename_i hl
    obtain ⟨sl, h6, rfl⟩ := Option.map_eq_some_iff.mp h2
    have hnp : r.np = r.ps.length - 1 := by unfold Rd1.np; rw [hcn]
    have hgd := hl.2.2
    unfold Rd1.good at hgd
    rw [hcn] at hgd
    simp only [Bool.and_eq_true, decide_eq_true_eq] at hgd
    rw [hnp] at h1
    have hp : r.ps.length - 1 + 1 ≤ r.N.length := by omega
    cases n with
    | zero =>
      refine ⟨fun vs H Q E sp => ?_, fun A outer s H args us vs Q E hr e0 hb rv sp => ?_⟩
      · obtain ⟨vs0, m, h, ds, _, _, _, _, ok⟩ := sp
        exact ok.elim
      · obtain ⟨vs0, m, h, ds, _, _, _, _, ok⟩ := sp
        exact ok.elim
    | succ n =>
      refine fok_of (N := r.N) F S (fun vs H Q E sp => by
        have := (sp_bodyK (N := r.N) h1 rfl hp rfl hj sp).1
        have e : (⟨r.ps.length - 1, r.N.length, sl⟩ : Fd).np = r.ps.length - 1 := rfl
        rw [e] at this
        omega) fun cdv A outer s H vs Q E hcd e0 hr sp => ?_
      exact ⟨_, mapS_ok (fun e c hc => cS_ok fuel (kpOf G.gl G.bl r scope) e c hl.2.1 hc _ (G.heat ⟨hot, kn, some z⟩) (clOf pr n (some (z.f, z.ds))) (fun cls d _ H => E cls d H)
        (fits_of (X := cxOf (L2.CX P w) P w K mg base r.N qual scope (G.fa f) cdv A outer s H E) (G := G) (n := n) (c := some z) M rfl rfl (fun _ => rfl) h4 e0.mod.kin hcd rfl rfl h5 (fun z' e => by cases e; exact ⟨y, hcn, by rw [hj]; exact hgd.2⟩) (fun x e => by rw [hcn] at e; cases e; exact ⟨z, rfl, by rw [hj]; exact hgd.2⟩)
          (ctx_all (X := cxOf (L2.CX P w) P w K mg base r.N qual scope (G.fa f) cdv A outer s H E) (G := G) (k := n) M (ih n (Nat.lt_succ_self n)) rfl S.nd hr (TakesF.of (takes_of rfl rfl rfl rfl) rfl rfl) (passes_of rfl) hot kn (some z) fun z' e => by cases e; exact L.le (Nat.le_succ n))) ⟨takes_of rfl rfl rfl rfl, rfl, rfl⟩) h6, (sp_bodyK (N := r.N) h1 rfl hp rfl hj sp).2⟩
  · rw [M.lamT] at hT
    obtain ⟨t1, t2, e, t3, t4⟩ := hT
    obtain ⟨qual, cl, c', pm, ctv, b1, b2, b3, b4, b5, b6, b7⟩ := hB.ex
    have S := NdefX.nscope_by t2
    obtain ⟨bnd, _⟩ := lamP_ok t1
    subst hz
    refine ⟨⟨_, _, _, _, b1⟩, fun k hk hot A outer s H us vs Q E hr e0 rv sp => ?_⟩
    cases k with
    | zero =>
      obtain ⟨m, h, ds, _, _, _, ok⟩ := sp
      exact ok.elim
    | succ k =>
      have hlen := (sp_bodyL (N := ps ++ fr) t3 (by simp [lamFd]) rfl sp).1
      have hvs : vs.length = ps.length := by omega
      have hat := e0.bs _ _ b1
      obtain ⟨m0, h0, ds0, r0, _, _, _⟩ := id sp
      have hco := (r0.kn _ b2).1
      obtain ⟨⟨oc, vs', t, c1, c2, c3⟩, _, _⟩ := e0.hok c' _ hco
      have lim : s.heap.NoLimit := e0.mod.nolimit.keeps fun b o e => (e0.bs b o e).1
      refine PySem.W.kla_callFunE hr.depth hat.1 rfl S.co S.gen rfl ⟨c', oc, vs', t, rfl, c1, c2, c3⟩ ?_
      rw [bnd qual body scope cl pm (.ref c') ctv us (by rw [← rv.length]; exact hvs)]
      refine wpAny_pure (wpAny_newFunctionEnv S.nocell (fun ⟨n, _⟩ hy => S.par n (List.of_mem_zip hy).1) (fun h₁ hns hsb => ⟨lim.fresh _ hsb, ?_⟩) S.kind)
      have kp : ∀ b o, s.heap.get? b = some o → h₁.get? b = some o := fun b o e => hsb.extBut b o (Nat.ne_of_lt (Heap.lt_size e)) (Heap.get?_push_of_some _ e)
      have cellS : ∀ {c : Addr} {v : Option Value}, base.IsCell c v → s.heap.IsCell c v ∧ H c = none := fun {c v} ⟨o, ho, hd⟩ => ⟨⟨o, (e0.bs c o ho).1, hd⟩, (e0.bs c o ho).2⟩
      have CA : NdefX.CellsAt cl fr (z.vs.map some) s.heap H := ⟨by simp [b4], fun y c hy => by
        obtain ⟨v, q⟩ := b5 y c hy
        exact ⟨(cellS q).2, v, (cellS q).1⟩, b6, fun i y hy => by
        obtain ⟨c, q1, q2⟩ := b7 i y hy
        refine ⟨c, q1, fun v hv => ?_⟩
        rw [List.getElem?_map] at hv
        cases q : z.vs[i]? with
        | none => rw [q] at hv; cases hv
        | some v' =>
          rw [q] at hv
          cases hv
          obtain ⟨u, q3, q4⟩ := q2 v q
          exact ⟨u, q3, (cellS q4).1⟩⟩
      have J := NdefX.inv_startN (CX := L2.CX P w) (F := ⟨"<lambda>", qual, params, [], scope, cl, c'⟩) (f := z.a) (E := E) (N := ps ++ fr) (tk := s.toks + (ps.zip us).length) S hr.hd e0 hvs rv CA hns kp
      have hbody := cE_ok fuel (kpL G.gl G.bl ps fr scope) body e t4 (NdefX.ncx (L2.CX P w) P w K mg base (ps ++ fr) ⟨"<lambda>", qual, params, [], scope, cl, c'⟩ z.a A outer s H E) (G.heat ⟨hot, kn, none⟩) (clOf pr k none) (fun cls d _ H => E cls d H)
        ⟨ctx_all (X := NdefX.ncx (L2.CX P w) P w K mg base (ps ++ fr) ⟨"<lambda>", qual, params, [], scope, cl, c'⟩ z.a A outer s H E) M (ih k (by omega)) rfl S.nd (hr.deeper _) (TakesF.of (takes_of rfl rfl rfl rfl) rfl rfl) (passes_of rfl) hot kn none (fun z e => by cases e), rfl, rfl, rfl, rfl, fun x e => (by cases e), fun z e => (by cases e), fun x e => (by cases e), fun _ _ _ _ _ _ _ e => (by cases e), fun _ _ _ _ _ e => (by cases e)⟩
      refine PySem.W.kla_codeExpr (wpAny_mono (hbody.pe.run [] _ _ H Q J (sp_bodyL (N := ps ++ fr) t3 (by simp [lamFd]) rfl sp).2) (fun v s' hq => ?_) fun e s' hq => hq)
      obtain ⟨w', H', J', rv', q⟩ := hq
      exact ⟨w', H', J'.os, J'.bare, J'.base, J'.hok, rv', q⟩
/-! ### a law's call -/
/-- what stands ahead: the script, the tables of code objects, all empty -/
theorem law_run {P : Program} {w : World} {K : PySem.W.Frag} {mg mb : Str → Option Value} {G : Gx} {pr : Prog} {n f : Nat} {a : Addr} {s : Shared} {vs : List Value} {ns : List Int}
    (M : Mods w K mg G pr) (hf : f ∈ G.fns) (hht : G.ht = ⟨fun _ => False, [], none⟩) (KX : K.In s.heap) (hns : s.heap.Ns mainGlobals mg) (hmb : s.heap.Ns builtinsNs mb) (hbb : ∀ x : Str, x ≠ "__name__" → mb x = bootBuiltins x) (nol : s.heap.NoLimit) (hg : s.gens = #[])
    (hT : ∀ p ∈ G.tabs, s.heap.get? p.1 = some { cls := .none, data := .fields #[] } ∧ K.lookup p.1 = none ∧ ∃ c, PySem.W.CodeHd s.heap c p.1)
    (ha : s.heap.get? a = some { cls := .type "list", data := .seq vs.toArray }) (hi : IntsAre vs ns) (hl : ns.length ≤ sizeLine) (hr : Rm n callerA)
    (law : callN pr n f [.lst (ns.map .int)] [] = .ok (.bl true) []) :
    codeAny (model P w) callerA (.call (.ref (G.fa f)) ⟨[.ref a], []⟩) (fun r s' => r = .ok (.ret (.bool true)) ∧ OldK s.heap s'.heap ∧ s'.os = s.os ∧ AllBare s'.gens) s := by
  obtain ⟨fd, ps, F, kp, B⟩ := (all_ok (P := P) (w := w) M n).fns f hf
  have rv := vals_ints hi
  have repI : ∀ (H : L2.Hp) (Lv : Addr → Prop) (l : List Int), RepL G H Lv [] (l.map D.int) (l.map V.int) := fun H Lv l => by
    induction l with
    | nil => exact .nil
    | cons i l ih => exact .cons (.int i) ih
  have aT : ∀ p ∈ G.tabs, p.1 ≠ a := fun p hp z => by
    have q := (hT p hp).1
    rw [z, ha] at q
    cases (show Data.seq vs.toArray _ = Data.fields #[] from congrArg Obj.data (Option.some.inj q))
  -- H: the script is tracked as frozen, or not at all; the tables are tracked
  have main : ∀ H : L2.Hp, (∀ b u, H b = some u → (b = a ∧ K.lookup a = none ∧ ∃ o x, u = .frz o x) ∨ ((∃ p ∈ G.tabs, p.1 = b) ∧ u = .tbl #[])) → (∀ p ∈ G.tabs, H p.1 = some (.tbl #[])) → HOk P w H s.heap → Rep G H (Live G [] []) [] (.lst (ns.map .int)) (.ref a) →
      codeAny (model P w) callerA (.call (.ref (G.fa f)) ⟨[.ref a], []⟩) (fun r s' => r = .ok (.ret (.bool true)) ∧ OldK s.heap s'.heap ∧ s'.os = s.os ∧ AllBare s'.gens) s := by
    intro H only tb hok rep
    have nodict : ∀ {b : Addr} {o : Obj} {es : Array DictEntry} {ep : Nat}, s.heap.get? b = some o → o.data = .dict es ep → H b = none := fun {b o es ep} e q => by
      cases z : H b with
      | none => rfl
      | some u =>
        rcases only b u z with ⟨rfl, _⟩ | ⟨⟨p, hp, rfl⟩, _⟩
        · rw [ha] at e
          cases e
          cases (show Data.seq vs.toArray _ = Data.dict es ep from q)
        · rw [(hT p hp).1] at e
          cases e
          cases (show Data.fields #[] = Data.dict es ep from q)
    have nsH : ∀ {b : Addr} {g : Str → Option Value}, s.heap.Ns b g → (hidT s.heap H).Ns b g := fun {b g} q => by
      obtain ⟨o, es, ep, q1, q2, q3⟩ := q
      exact ⟨o, es, ep, hidT_get q1 (nodict q1 q2), q2, q3⟩
    have kH : K.In (hidT s.heap H) := fun b o e => hidT_get (KX b o e) (by
      cases z : H b with
      | none => rfl
      | some u =>
        rcases only b u z with ⟨rfl, k, _⟩ | ⟨⟨p, hp, rfl⟩, _⟩
        · rw [k] at e
          cases e
        · rw [(hT p hp).2.1] at e
          cases e)
    have mod : Mod K mg (hidT s.heap H) := ⟨kH, nsH hns, ⟨mb, nsH hmb, hbb⟩, by
      obtain ⟨mc, q1, q2⟩ := nol
      exact ⟨mc, nsH q1, q2⟩⟩
    have env0 : Env0 P w K mg (hidT s.heap H) callerA [] s H := ⟨rfl, mod, fun b o e => of_hidT e, Nat.le_of_eq (hidT_size _ _), trivial, fun b hb => (List.not_mem_nil hb).elim, hok, .of_eq hg⟩
    have rel0 : HRel (G.heat ⟨fun _ => False, [], none⟩) [] [] H := ⟨rfl, fun i b c h1 => by simp at h1, fun i j b c d h1 => by simp at h1, fun b z => z.elim, fun i b c h1 => by simp at h1, fun p hp => LamX.TabS.nil (tb p hp), fun p hp => by cases hp⟩
    have lv : Live (G.heat ⟨fun _ => False, [], none⟩) [] [] = Live G [] [] := by rw [← hht]
    have sp : spU (G.heat ⟨fun _ => False, [], none⟩) pr n f [.ref a] H (fun v _ => v = .bl true) (fun _ _ _ => False) := ⟨[], [], _, rel0, .cons (by rw [lv]; exact rep.heat _) .nil, by
      rw [law]
      intro m' v H' x r p
      cases p
      rfl⟩
    have hps : ([.ref a] : List Value).length = ps.length := by
      have := (F (hidT s.heap H) (fun _ => False) []).len _ _ _ _ sp
      simpa using this
    have hb := B s [.ref a] KX (by simpa using hps)
    refine codeAny_mono ((F (hidT s.heap H) (fun _ => False) []).run callerA [] s H ⟨[.ref a], []⟩ [.ref a] [.ref a] _ _ hr env0 (by simpa using hb) (.cons rfl .nil) sp) fun r s' q => ?_
    match r, q with
    | .error e, q =>
      obtain ⟨_, _, _, _, _, _, _, _, _, _, _, _, z⟩ := (show L2.CX P w [] H s (fun _ _ _ => False) e s' from q)
      exact z.elim
    | .ok .next, q => exact q.elim
    | .ok .brk, q => exact q.elim
    | .ok .cont, q => exact q.elim
    | .ok (.ret u), q =>
      obtain ⟨v, H', os, bare, un, hok', ru, rfl⟩ := q
      obtain rfl : u = Value.bool true := ru
      have old : ∀ b o, (∀ p ∈ G.tabs, p.1 ≠ b) → s.heap.get? b = some o → s'.heap.get? b = some o := fun b o nt e => by
        cases z : H b with
        | none => exact un.keep b o e z (by intro z; exact (List.not_mem_nil (show b ∈ ([] : List Addr) from z)).elim) (by simp)
        | some u =>
          rcases only b u z with ⟨rfl, _, ob, y, rfl⟩ | ⟨⟨p, hp, q⟩, _⟩
          · have z2 := un.frzs b ob y z
            obtain ⟨e1, _⟩ := hok b _ z
            obtain ⟨e2, _⟩ := hok' b _ z2
            rw [e] at e1
            cases e1
            exact e2
          · exact absurd q (nt p hp)
      have new : ∀ p ∈ G.tabs, ∃ more : Array Value, s'.heap.get? p.1 = some { cls := .none, data := .fields more } := fun p hp => by
        obtain ⟨more, z⟩ := un.tbls p.1 #[] (tb p hp)
        exact ⟨_, hok' p.1 _ z⟩
      refine ⟨rfl, ⟨fun b o e => ?_, fun b o e => ?_⟩, os, bare⟩
      · by_cases z : ∃ p ∈ G.tabs, p.1 = b
        · obtain ⟨p, hp, rfl⟩ := z
          obtain ⟨more, q⟩ := new p hp
          obtain ⟨q1, _, c, q3⟩ := hT p hp
          rw [q1] at e
          cases e
          exact .inr (.inl ⟨(q3.tab q1).isCodeTable, rfl, #[], more, rfl, by rw [Array.empty_append]; exact q⟩)
        · exact .inl (old b o (fun p hp q => z ⟨p, hp, q⟩) e)
      · by_cases z : ∃ p ∈ G.tabs, p.1 = b
        · obtain ⟨p, hp, rfl⟩ := z
          obtain ⟨more, q⟩ := new p hp
          exact ⟨_, q⟩
        · exact ⟨o, old b o (fun p hp q => z ⟨p, hp, q⟩) e⟩
  have nolive : ¬ Live G [] [] a := fun z => by
    rcases z with (z | ⟨p, hp, q⟩) | ⟨i, c, h1, _⟩
    · have e : G.hot = fun _ => False := congrArg Ht.hot hht
      rw [e] at z
      exact z
    · exact aT p hp q
    · simp at h1
  have pick : ∀ b, (∃ p ∈ G.tabs, p.1 = b) ∨ ¬ ∃ p ∈ G.tabs, p.1 = b := fun b => Classical.em _
  classical
  cases hk : K.lookup a with
  | some o =>
    have e := KX a o hk
    rw [ha] at e
    cases e
    refine main (fun b => if ∃ p ∈ G.tabs, p.1 = b then some (.tbl #[]) else none) (fun b u z => ?_) (fun p hp => if_pos ⟨p, hp, rfl⟩) (fun b u z => ?_) (.lstK (vs := ns.map V.int) ⟨vs.toArray, _, by rw [M.k]; exact hk, ?_, by simpa using rv⟩ (repI _ _ ns))
    · rcases pick b with q | q
      · have z := (if_pos q).symm.trans z
        cases z
        exact .inr ⟨q, rfl⟩
      · cases (if_neg q).symm.trans z
    · rcases pick b with q | q
      · have z := (if_pos q).symm.trans z
        cases z
        obtain ⟨p, hp, rfl⟩ := q
        exact (hT p hp).1
      · cases (if_neg q).symm.trans z
    · rw [List.size_toArray, hi.length]
      exact hl
  | none =>
    refine main (fun b => if b = a then some (.frz { cls := .type "list", data := .seq vs.toArray } (.lst (ns.map V.int))) else if ∃ p ∈ G.tabs, p.1 = b then some (.tbl #[]) else none) (fun b u z => ?_) (fun p hp => (if_neg (aT p hp)).trans (if_pos ⟨p, hp, rfl⟩)) (fun b u z => ?_) (.lst (.inr ⟨_, if_pos rfl⟩) nolive (repI _ _ ns))
    · by_cases e : b = a
      · have z := (if_pos e).symm.trans z
        cases z
        exact .inl ⟨e, hk, _, _, rfl⟩
      · have z := (if_neg e).symm.trans z
        rcases pick b with q | q
        · have z := (if_pos q).symm.trans z
          cases z
          exact .inr ⟨q, rfl⟩
        · cases (if_neg q).symm.trans z
    · by_cases e : b = a
      · have z := (if_pos e).symm.trans z
        cases z
        subst e
        exact ⟨ha, by rw [List.length_map]; exact hl, vs, _, rv, ha⟩
      · have z := (if_neg e).symm.trans z
        rcases pick b with q | q
        · have z := (if_pos q).symm.trans z
          cases z
          obtain ⟨p, hp, rfl⟩ := q
          exact (hT p hp).1
        · cases (if_neg q).symm.trans z
end PV
set_option Elab.async false
set_option autoImplicit false
set_option maxRecDepth 100000
set_option maxHeartbeats 1000000
namespace PV
open PySem PySem.Spec PyProof.Rows L2
def all2 {α β : Type} (f : α → β → Bool) : List α → List β → Bool
  | [], [] => true
  | a :: r, b :: s => f a b && all2 f r s
  | _, _ => false
/-- the value u of the written part is the datum -/
def datB (K : PySem.W.Frag) : Nat → D → Value → Bool
  | 0, _, _ => false
  | _ + 1, .non, .none => true
  | _ + 1, .bl b, .bool c => b == c
  | _ + 1, .int i, .int j _ => decide (i = j)
  | _ + 1, .str x, .str y _ => decide (y = str x)
  | n + 1, .tup l, .ref a => (match K.lookup a with
    | some ⟨.type c, _, .seq its _, _⟩ => decide (c = "tuple") && (decide (its.size ≤ sizeLine) && all2 (datB K n) l its.toList)
    | _ => false)
  | _, _, _ => false
section
variable {K : PySem.W.Frag} {G : Gx}
theorem all2_ok (n : Nat) (h : ∀ d u, datB K n d u = true → ∃ v, RelV v u ∧ RepK G d v) : ∀ {l : List D} {us : List Value}, all2 (datB K n) l us = true → ∃ vs, Vals vs us ∧ RepL G (fun _ => none) (fun _ => False) [] l vs
  | [], [], _ => ⟨[], .nil, .nil⟩
  | [], _ :: _, e => by cases e
  | _ :: _, [], e => by cases e
  | d :: l, u :: us, e => by
    simp only [all2, Bool.and_eq_true] at e
    obtain ⟨v, h1, h2⟩ := h d u e.1
    obtain ⟨vs, h3, h4⟩ := all2_ok n h e.2
    exact ⟨v :: vs, .cons h1 h3, .cons h2 h4⟩
theorem datB_ok (hK : G.K = K) : ∀ (n : Nat) (d : D) (u : Value), datB K n d u = true → ∃ v, RelV v u ∧ RepK G d v
  | 0, d, u, h => by simp [datB] at h
  | n + 1, d, u, h => by
    cases d with
    | non => cases u with
      | none => exact ⟨.non, rfl, .non⟩
      | _ => cases h
    | bl b => cases u with
      | bool c =>
        have e : b = c := eq_of_beq h
        exact ⟨.bl c, rfl, by rw [e]; exact .bl c⟩
      | _ => cases h
    | int i => cases u with
      | int j t =>
        have e : i = j := of_decide_eq_true h
        exact ⟨.int j, ⟨t, rfl⟩, by rw [e]; exact .int j⟩
      | _ => cases h
    | str x => cases u with
      | str y t =>
        have e : y = str x := of_decide_eq_true h
        exact ⟨.str y, ⟨t, rfl⟩, by rw [e]; exact .str x⟩
      | _ => cases h
    | tup l => cases u with
      | ref a =>
        have h : (match K.lookup a with
          | some ⟨.type c, _, .seq its _, _⟩ => decide (c = "tuple") && (decide (its.size ≤ sizeLine) && all2 (datB K n) l its.toList)
          | _ => false) = true := h
        split at h
        · rename_i c od its k osl q
          simp only [Bool.and_eq_true, decide_eq_true_eq] at h
          obtain ⟨vs, h1, h2⟩ := all2_ok n (datB_ok hK n) h.2.2
          exact ⟨.ref a, rfl, .tupK ⟨_, its, k, by rw [hK]; exact q, congrArg Value.type h.1, rfl, h.2.1, h1⟩ h2⟩
        · cases h
      | _ => cases h
    | _ => cases u <;> cases h
end
/-- a class's number, its address, its fields -/
def clsAt (K : PySem.W.Frag) (gl : List (Str × Gv)) (c : Nat) : Option (Str × Gv) := gl.find? fun p => match p.2 with
  | .cls d _ _ => d == c
  | .ic d _ _ => d == c
  | _ => false
def caOf (K : PySem.W.Frag) (gl : List (Str × Gv)) (c : Nat) : Addr := match clsAt K gl c with
  | some p => (match PySem.W.nsIn K mainGlobals p.1 with
    | some (some (.ref a)) => a
    | _ => 0)
  | none => 0
def flOf (K : PySem.W.Frag) (gl : List (Str × Gv)) (c : Nat) : List Str := match clsAt K gl c with
  | some p => (match p.2 with
    | .cls _ _ fl => fl
    | .ic _ fl _ => fl
    | _ => [])
  | none => []
def isB (K : PySem.W.Frag) (C : Addr) : Bool := xfB K C && (decide (PySem.W.findIn K (.ref C) "__class__" = some (some (.builtin "object.__class__"))) &&
  (decide (PySem.W.specialIn K (.builtin "object.__class__") "__get__" = some (some (.builtin "getset_descriptor.__get__"))) && (decide (PySem.W.takesIn K (.builtin "object.__class__") = some true) && decide (PySem.W.mroIn K C (.type "object") = some true))))
theorem lk_memN {β : Type} {c : Nat} {l : β} : ∀ {t : List (Nat × β)}, t.lookup c = some l → (c, l) ∈ t
  | [], h => by cases h
  | (k, v) :: r, h => by
    rw [List.lookup_cons] at h
    split at h
    · cases h
      rename_i e
      rw [eq_of_beq e]
      exact List.mem_cons_self
    · exact List.mem_cons_of_mem _ (lk_memN h)
theorem isB_ok {K : PySem.W.Frag} {C : Addr} (h : isB K C = true) : XfC K C ∧ ExcC K C := by
  simp only [isB, Bool.and_eq_true, decide_eq_true_eq] at h
  obtain ⟨h1, h2, h3, h4, h5⟩ := h
  have x := xfB_ok h1
  exact ⟨x, x.ga, x.gg, x.exC, x.hdC, h2, h3, h4, h5⟩
/-- a class whose __init__ is a def -/
def oexB (K : PySem.W.Frag) (C : Addr) : Bool := (match K.lookup C with
  | some ⟨.type t, _, .cls cd, sl⟩ => decide (t = "type") && (match cd.mro, sl.toList with
    | .ref C' :: bm, [_, _, _, _, some (.builtin n), _] => C' == C && (decide (n = "ValueError.__new__") && (!cd.hasDel && (cd.hasDict && PySem.HandSPX.refsVE bm)))
    | _, _ => false)
  | _ => false) && (decide (PySem.W.findIn K (.ref C) "__setattr__" = some (some (.builtin "object.__setattr__"))) && (decide (PySem.W.subIn K (.ref C) (.type "BaseException") = some true) && (decide (PySem.W.typeIn K (.ref C) = some (.type "type")) && PySem.W.keepIn K (.ref C))))
theorem oexB_ok {K : PySem.W.Frag} {C : Addr} (h : oexB K C = true) : OexC K C := by
  simp only [oexB, Bool.and_eq_true, decide_eq_true_eq] at h
  obtain ⟨h1, h2, h3, h4, h5⟩ := h
  refine ⟨?_, h2, h3, h4, h5⟩
  split at h1
  · rename_i t dd cd sl ho
    simp only [Bool.and_eq_true, decide_eq_true_eq] at h1
    obtain ⟨ht, h1⟩ := h1
    subst ht
    split at h1
    · rename_i C' bm k0 k1 k2 k3 n k5 hm hs
      simp only [Bool.and_eq_true, decide_eq_true_eq, beq_iff_eq, Bool.not_eq_true'] at h1
      obtain ⟨rfl, rfl, hdel, hdi, hr⟩ := h1
      obtain ⟨nm, bs, mro, ns, qn, hd, sn, sub, ab, col, del⟩ := cd
      dsimp only at hm hdel hdi
      subst hm hdel hdi
      have hsl : sl = #[k0, k1, k2, k3, some (.builtin "ValueError.__new__"), k5] := by
        obtain ⟨l⟩ := sl
        simp only at hs
        rw [hs]
      subst hsl
      exact ⟨nm, qn, ns, bs, bm, sn, sub, ab, col, dd, k0, k1, k2, k3, k5, ho, hr⟩
    · cases h1
  · cases h1
/-- its __init__ -/
def iniB (K : PySem.W.Frag) (x : Str) (C : Addr) : Bool := oexB K C && (decide (PySem.W.findIn K (.ref C) "__init__" = some (some (.ref (He.fAd K (x, some "__init__"))))) && decide (PySem.W.typeIn K (.ref (He.fAd K (x, some "__init__"))) = some (.type "function")))
/-- a class of exceptions stands as it is told -/
def clsB (K : PySem.W.Frag) (gl : List (Str × Gv)) (x : Str) (c : Nat) (sup : List Nat) (fl : List Str) : Bool :=
  decide (PySem.W.nsIn K mainGlobals x = some (some (.ref (caOf K gl c)))) && (PySem.W.keepIn K (.ref (caOf K gl c)) && (decide (PySem.W.subIn K (.ref (caOf K gl c)) (.type "BaseException") = some true) &&
  (decide (PySem.W.typeIn K (.ref (caOf K gl c)) = some (.type "type")) && (isB K (caOf K gl c) && (decide (flOf K gl c = fl) && ((!decide (fl = []) || PySem.W.excIn K (caOf K gl c) bmV "ValueError.__new__") && (decide (PySem.W.kitOne K (.ref (caOf K gl c)) (.type "ValueError") = some true) && (fl.all (fun f => decide (PySem.W.findIn K (.ref (caOf K gl c)) f = some none)) && ((decide (fl = []) || iniB K x (caOf K gl c)) &&
  gl.all fun q => match q.2 with
    | .cls d _ _ => decide (PySem.W.subIn K (.ref (caOf K gl c)) (.ref (caOf K gl d)) = some (sup.contains d)) && decide (PySem.W.kitOne K (.ref (caOf K gl c)) (.ref (caOf K gl d)) = some (sup.contains d))
    | _ => true)))))))))
/-- what stands at the module's names -/
def modsB (num : List Nat) (K : PySem.W.Frag) (defs : List He.DefD) (gl : List (Str × Gv)) (bl : List Str) : Bool :=
  gl.all (fun p => match p.2 with
    | .fn f => (match defs[num.idxOf f]? with
      | some d => decide (PySem.W.nsIn K mainGlobals p.1 = some (some (.ref (He.fAd K d.at_))))
      | none => false)
    | .hf f => (match defs[num.idxOf f]? with
      | some d => decide (PySem.W.nsIn K mainGlobals p.1 = some (some (.ref (He.fAd K d.at_))))
      | none => false)
    | .cst d => (match PySem.W.nsIn K mainGlobals p.1 with
      | some (some u) => datB K 20 d u
      | _ => false)
    | .kdt l => (match PySem.W.nsIn K mainGlobals p.1 with
      | some (some (.ref a)) => l.all fun q => (match PySem.W.nsIn K a (str q.1) with
        | some (some u) => datB K 20 q.2 u
        | _ => false)
      | _ => false)
    | .cls c sup fl => clsB K gl p.1 c sup fl
    | .ic _ _ _ => true) && bl.all fun x => decide (PySem.W.nsIn K mainGlobals x = some none)
/-- tables of fields -/
def fxB (K : PySem.W.Frag) (gl : List (Str × Gv)) (t : List (Nat × List Cs)) : Bool := t.all fun p => decide (flOf K gl p.1 = p.2.map str) && p.2.all fun k => decide (PySem.W.findIn K (.ref (caOf K gl p.1)) (str k) = some none)
theorem fixL_ok {t : List (Nat × List Cs)} {c : Nat} {k : Cs} {j : Nat} (h : fixL t c k = some j) : ∃ l, (c, l) ∈ t ∧ l[j]? = some k := by
  obtain ⟨l, h1, h2⟩ := Option.bind_eq_some_iff.mp h
  refine ⟨l, lk_memN h1, ?_⟩
  obtain ⟨hj, h3, _⟩ := List.findIdx?_eq_some_iff_getElem.mp h2
  rw [List.getElem?_eq_getElem hj]
  exact congrArg some (eq_of_beq h3)
/-- the tables' keys, as they lie, as they are told -/
def tabsO (gl : List (Str × Gv)) (K : PySem.W.Frag) : List (Option (List (Option (Str × Int)))) := gl.map fun p => match p.2 with
  | .kdt _ => (match PySem.W.nsIn K mainGlobals p.1 with
    | some (some (.ref a)) => He.dicW K a
    | _ => none)
  | _ => none
def tabsV (gl : List (Str × Gv)) (w : World) : List (Option (List (Option (Str × Int)))) := gl.map fun p => match p.2 with
  | .kdt l => some (He.keysIn w.params (l.map fun q => str q.1))
  | _ => none
theorem str_inj {a b : Cs} (h : str a = str b) : a = b := by
  have h2 := congrArg (fun s : Str => s.cps.toList) h
  simpa [str] using h2
theorem nsIn_none {K : PySem.W.Frag} {w : World} {a : Addr} {es : Array DictEntry} {n : Nat} {l : List (Cs × D)} {z : Cs} (kd : KDict K w a es n) (e : He.dicW K a = some (He.keysIn w.params (l.map fun q => str q.1))) (hz : l.lookup z = none) : PySem.W.nsIn K a (str z) = some none := by
  have e2 : es.toList.map He.keyOf = He.keysIn w.params (l.map fun q => str q.1) := by
    unfold He.dicW at e
    rw [kd.at_] at e
    simp only [kd.low] at e
    simpa using e
  have all : ∀ d ∈ es.toList, ∃ y t, d.key = .str y t ∧ y ≠ str z := fun d hd => by
    have hm : He.keyOf d ∈ He.keysIn w.params (l.map fun q => str q.1) := by rw [← e2]; exact List.mem_map_of_mem hd
    simp only [He.keysIn, List.map_map, List.mem_map, Function.comp] at hm
    obtain ⟨q, hq, hk⟩ := hm
    unfold He.keyOf at hk
    split at hk
    · rename_i x t hx
      obtain ⟨h5, h6⟩ := Prod.mk.inj (Option.some.inj hk)
      refine ⟨x, t, hx, fun ez => ?_⟩
      have e3 : q.1 = z := str_inj (h5.trans ez)
      have hn := List.lookup_eq_none_iff.mp hz q hq
      rw [e3] at hn
      simp at hn
    · cases hk
  unfold PySem.W.nsIn
  rw [kd.at_]
  have f : es.toList.find? (·.key.isStr (str z)) = none := by
    rw [List.find?_eq_none]
    intro d hd
    obtain ⟨y, t, h1, h2⟩ := all d hd
    rw [h1]
    simp [Value.isStr, h2]
  have g : es.toList.any (·.refKey) = false := by
    rw [List.any_eq_false]
    intro d hd
    obtain ⟨y, t, h1, h2⟩ := all d hd
    simp [DictEntry.refKey, h1]
  simp only [f, g]
  rfl
/-! ### tables of code objects -/
/-- an empty table -/
def isTab (g : Addr → Option Obj) (a : Addr) : Bool := match g a with
  | some ⟨.none, none, .fields vs, sl⟩ => vs.isEmpty && sl.isEmpty
  | _ => false
theorem isTab_ok {g : Addr → Option Obj} {a : Addr} (h : isTab g a = true) : g a = some { cls := .none, data := .fields #[] } := by
  unfold isTab at h
  split at h
  · rename_i vs sl q
    simp only [Bool.and_eq_true, Array.isEmpty_iff] at h
    rw [q, h.1, h.2]
  · cases h
def frR (g : Addr → Option Obj) (n : Nat) : PySem.W.Frag := He.frG g ((He.asD g n).filter fun a => !isTab g a)
/-- the table of the function's code object -/
def tabOf (K : PySem.W.Frag) (f : Addr) : Addr := match codeOf K f with
  | some c => (match K.lookup c with
    | some ⟨_, _, .fields vs, _⟩ => (match (vs[11]? : Option Value) with
      | some (.ref P) => P
      | _ => 0)
    | _ => 0)
  | none => 0
def lamQ (x : Str) : Str := x ++ ".<locals>." ++ "<lambda>"
def tabsK (K : PySem.W.Frag) (lamD : List Str) : List (Addr × Str) := lamD.map fun x => (tabOf K (He.fAd K (x, none)), lamQ x)
/-- the tables stand as they should -/
def tbB (g : Addr → Option Obj) (K : PySem.W.Frag) (lamD : List Str) : Bool :=
  lamD.all (fun x => (match codeOf K (He.fAd K (x, none)) with
    | some c => PySem.W.codeHdIn K c (tabOf K (He.fAd K (x, none)))
    | none => false) && (isTab g (tabOf K (He.fAd K (x, none))) && ((K.lookup (tabOf K (He.fAd K (x, none)))).isNone && !(mainGlobals == tabOf K (He.fAd K (x, none)))))) &&
  (decide ((tabsK K lamD).map (·.1)).Nodup && (lamD.isEmpty || (match PySem.W.nsIn K mainGlobals "__builtins__" with
    | some (some (.ref bm)) => !(bm == builtinsNs) && (!(bm == mainGlobals) && ((match K.lookup bm with
      | some ⟨.type c, some d, .plain, _⟩ => decide (c = "module") && d == builtinsNs
      | _ => false) && lamD.all fun x => !(bm == tabOf K (He.fAd K (x, none)))))
    | _ => false)))
structure TbOk (h : Heap) (K : PySem.W.Frag) (lamD : List Str) : Prop where
  hd : ∀ x ∈ lamD, ∃ c, codeOf K (He.fAd K (x, none)) = some c ∧ PySem.W.codeHdIn K c (tabOf K (He.fAd K (x, none))) = true
  tb : ∀ x ∈ lamD, h.get? (tabOf K (He.fAd K (x, none))) = some { cls := .none, data := .fields #[] }
  no : ∀ x ∈ lamD, K.lookup (tabOf K (He.fAd K (x, none))) = none ∧ mainGlobals ≠ tabOf K (He.fAd K (x, none))
  nd : ((tabsK K lamD).map (·.1)).Nodup
  bm : lamD ≠ [] → ∃ bm o, PySem.W.nsIn K mainGlobals "__builtins__" = some (some (.ref bm)) ∧ bm ≠ builtinsNs ∧ bm ≠ mainGlobals ∧ K.lookup bm = some o ∧ o.cls = .type "module" ∧ o.dict = some builtinsNs ∧ o.data = .plain ∧ ∀ x ∈ lamD, bm ≠ tabOf K (He.fAd K (x, none))
theorem tbB_ok {h : Heap} {K : PySem.W.Frag} {lamD : List Str} (b : tbB h.get? K lamD = true) : TbOk h K lamD := by
  simp only [tbB, Bool.and_eq_true, List.all_eq_true, decide_eq_true_eq, Option.isNone_iff_eq_none, Bool.not_eq_true', Bool.or_eq_true, List.isEmpty_iff] at b
  obtain ⟨b1, b2, b3⟩ := b
  refine ⟨fun x hx => ?_, fun x hx => isTab_ok (b1 x hx).2.1, fun x hx => ⟨(b1 x hx).2.2.1, fun e => ?_⟩, b2, fun ne => ?_⟩
  · have q := (b1 x hx).1
    split at q
    · exact ⟨_, ‹_›, q⟩
    · cases q
  · have q := (b1 x hx).2.2.2
    rw [← e] at q
    simp at q
  · have q := b3.resolve_left ne
    split at q
    · rename_i bm hbm
      simp only [Bool.and_eq_true, Bool.not_eq_true', beq_eq_false_iff_ne, ne_eq, List.all_eq_true] at q
      obtain ⟨q1, q2, q3, q4⟩ := q
      split at q3
      · rename_i c d sl hl
        simp only [Bool.and_eq_true, decide_eq_true_eq, beq_iff_eq] at q3
        exact ⟨bm, _, hbm, q1, q2, hl, congrArg Value.type q3.1, congrArg some q3.2, rfl, q4⟩
      · cases q3
    · cases q
theorem TbOk.keeps {h h' : Heap} {K : PySem.W.Frag} {lamD : List Str} (t : TbOk h K lamD) (k : ∀ b o, h.get? b = some o → h'.get? b = some o) : TbOk h' K lamD := ⟨t.hd, fun x hx => k _ _ (t.tb x hx), t.no, t.nd, t.bm⟩
theorem nodup_fst {l : List (Addr × Str)} (h : (l.map (·.1)).Nodup) : ∀ p ∈ l, ∀ q ∈ l, p.1 = q.1 → p.2 = q.2 := by
  induction l with
  | nil => intro p hp; cases hp
  | cons a l ih =>
    simp only [List.map_cons, List.nodup_cons] at h
    obtain ⟨n1, n2⟩ := h
    intro p hp q hq e
    rcases List.mem_cons.mp hp with e1 | hp'
    · rcases List.mem_cons.mp hq with e2 | hq'
      · rw [e1, e2]
      · exact absurd (List.mem_map.mpr ⟨q, hq', by rw [← e, e1]⟩) n1
    · rcases List.mem_cons.mp hq with e2 | hq'
      · exact absurd (List.mem_map.mpr ⟨p, hp', by rw [e, e2]⟩) n1
      · exact ih n2 p hp' q hq' e
/-- what of the text is told apart: the defs' numbers, those that get a lambda, the names of those that make one -/
structure Dsc where
  num : List Nat
  ho : List Nat
  lamD : List Str
  gl : List (Str × Gv)
  bl : List Str
  fxs : List (Nat × List Cs) := []
  /-- the classes whose __init__ stands among the defs: name, place there, fields -/
  ini : List (Str × Nat × List Str) := []
abbrev gxOf (x : Dsc) (K : PySem.W.Frag) (defs : List He.DefD) (pr : Prog) : Gx where
  K := K
  fa := fun f => match defs[x.num.idxOf f]? with
    | some d => He.fAd K d.at_
    | none => 0
  ca := caOf K x.gl
  flds := flOf K x.gl
  gl := x.gl
  fns := x.num.filter fun f => !x.ho.contains f
  bl := x.bl
  hfs := x.num.filter fun f => x.ho.contains f
  tabs := tabsK K x.lamD
  lamT := lamTof x.gl x.bl pr
  ht := ⟨fun _ => False, [], none⟩
/-- a def's text is read -/
structure TxOk (x : Dsc) (pr : Prog) (d : He.DefD) (f : Nat) : Prop where
  ex : ∃ (r : Rd1) (fd : Fd), FnScope r.N r.ps d.scope ∧ d.dfl = [] ∧ d.kwd = [] ∧
    (∀ (kV doc pm : Value) (an : Option Addr) (cdv ct : Value) (us : List Value), us.length = r.ps.length → bindArgs (PySem.W.fnOf d.name d.qual d.params d.body d.scope .none kV doc pm an cdv ct) ⟨us, []⟩ = pure (r.ps.zip us)) ∧
    pr.fn f = some fd ∧ readFd x.gl x.bl r d.scope d.body = some fd ∧ x.ho.contains f = r.cloN.isSome ∧ LamsIn pr r.lams ∧ (r.lams = [] ∨ (d.at_ = (d.qual, none) ∧ d.qual ∈ x.lamD))
/-- an __init__ of a class of exceptions -/
structure IniTx (d : He.DefD) (fl : List Str) : Prop where
  sc : FnScope (("self" : Str) :: fl) (("self" : Str) :: fl) d.scope
  dfl : d.dfl = [] ∧ d.kwd = []
  bd : ∀ (kV doc pm : Value) (an : Option Addr) (cdv ct : Value) (us : List Value), us.length = (("self" : Str) :: fl).length → bindArgs (PySem.W.fnOf d.name d.qual d.params d.body d.scope .none kV doc pm an cdv ct) ⟨us, []⟩ = pure ((("self" : Str) :: fl).zip us)
  body : initB fl d.body = true
  sz : fl.length ≤ 900
def iniG (x : Dsc) : Bool := x.gl.all fun p => match p.2 with
  | .cls _ _ fl => decide (fl = []) || x.ini.any fun q => decide (q.1 = p.1) && decide (q.2.2 = fl)
  | _ => true
def modsX (x : Dsc) (K : PySem.W.Frag) (defs : List He.DefD) : Bool := modsB x.num K defs x.gl x.bl && fxB K x.gl x.fxs
def glNum (x : Dsc) : Bool := x.gl.all fun p => match p.2 with
  | .fn f => x.num.contains f && !x.ho.contains f
  | .hf f => x.num.contains f && x.ho.contains f
  | _ => true
theorem mods_of {w : World} {x : Dsc} {K : PySem.W.Frag} {h : Heap} {mg : Str → Option Value} {defs : List He.DefD} {pr : Prog} {fa : List He.Fa} (X : K.In h) (N : h.Ns mainGlobals mg) (c : He.SaysD fa defs K) (b : modsX x K defs = true) (hnum : x.num.length ≤ defs.length)
    (hgn : glNum x = true) (hin : iniG x = true) (hti : ∀ q ∈ x.ini, ∃ d, defs[q.2.1]? = some d ∧ d.at_ = (q.1, some ("__init__" : Str)) ∧ IniTx d q.2.2) (hfx : pr.fix = fixL x.fxs) (hfi : pr.fixI = fun _ _ => none) (tb : tabsO x.gl K = tabsV x.gl w) (tk : TbOk h K x.lamD) (tx : ∀ (i : Nat) (d : He.DefD) (f : Nat), defs[i]? = some d → x.num[i]? = some f → TxOk x pr d f) : Mods w K mg (gxOf x K defs pr) pr := by
  simp only [modsX, modsB, fxB, Bool.and_eq_true, List.all_eq_true] at b
  obtain ⟨⟨b1, b2⟩, b3⟩ := b
  have hgn := List.all_eq_true.mp hgn
  have dok : ∀ f ∈ x.num, DefOk K (gxOf x K defs pr) pr f (x.ho.contains f) := fun f hf => by
    have hn : x.num.idxOf f < x.num.length := List.idxOf_lt_length_iff.mpr hf
    have hl : x.num.idxOf f < defs.length := Nat.lt_of_lt_of_le hn hnum
    have hd : defs[x.num.idxOf f]? = some defs[x.num.idxOf f] := by simp [hl]
    have hnf : x.num[x.num.idxOf f]? = some f := by
      rw [List.getElem?_eq_getElem hn, List.getElem_idxOf hn]
    obtain ⟨r, fd, h1, h2, h3, h4, h5, h6, h7, h8, h9⟩ := (tx _ _ f hd hnf).ex
    obtain ⟨fo, F⟩ := c.def_ _ hd
    have fe : (gxOf x K defs pr).fa f = He.fAd K defs[x.num.idxOf f].at_ := by
      show (match defs[x.num.idxOf f]? with
        | some d => He.fAd K d.at_
        | none => 0) = _
      rw [hd]
    have e1 : defs[x.num.idxOf f].dvs K = [] := by unfold He.DefD.dvs; rw [h2]; rfl
    have e2 : defs[x.num.idxOf f].kws K = [] := by unfold He.DefD.kws; rw [h3]; rfl
    rw [e1, e2, ← fe] at F
    refine ⟨_, _, _, _, _, _, _, fo, r, fd, F, h1, F.bindsN h4, h5, h6, h7.symm, h8, fun ne => ?_⟩
    obtain ⟨q1, q2⟩ := h9.resolve_left ne
    obtain ⟨c', q3, q4⟩ := tk.hd _ q2
    rw [fe, q1]
    exact ⟨c', _, q3, q4, List.mem_map.mpr ⟨_, q2, rfl⟩⟩
  have glf : ∀ (y : Str) (f : Nat), ((match defs[x.num.idxOf f]? with
      | some d => decide (PySem.W.nsIn K mainGlobals y = some (some (.ref (He.fAd K d.at_))))
      | none => false) = true) → mg y = some (.ref ((gxOf x K defs pr).fa f)) := fun y f q => by
    split at q
    · rename_i d hd
      show mg y = some (.ref (match defs[x.num.idxOf f]? with
        | some d => He.fAd K d.at_
        | none => 0))
      rw [hd]
      exact PySem.W.mg_of X N (of_decide_eq_true q)
    · cases q
  refine ⟨rfl, fun y f e => ?_, fun y f e => ?_, fun y d e => ?_, fun y l e => ?_, fun y hx => PySem.W.mg_none_of X N (of_decide_eq_true (b2 y hx)), fun y c sup fl e => ?_, fun y cn sup fl e hne => ?_, fun cn k j e => ?_, fun cn k j e => ?_, fun f hf => ?_, fun f hf => ?_, nodup_fst tk.nd, rfl, fun ne => ?_⟩
  · have q := b1 _ (lk_mem e)
    have qn := hgn _ (lk_mem e)
    simp only at q qn
    simp only [Bool.and_eq_true, Bool.not_eq_true'] at qn
    exact ⟨List.mem_filter.mpr ⟨by simpa using qn.1, by simpa using qn.2⟩, glf y f q⟩
  · have q := b1 _ (lk_mem e)
    have qn := hgn _ (lk_mem e)
    simp only at q qn
    simp only [Bool.and_eq_true] at qn
    exact ⟨List.mem_filter.mpr ⟨by simpa using qn.1, by simpa using qn.2⟩, glf y f q⟩
  · have q := b1 _ (lk_mem e)
    simp only at q
    split at q
    · rename_i u hu
      obtain ⟨v, h1, h2⟩ := datB_ok (G := gxOf x K defs pr) rfl 20 d u q
      exact ⟨v, u, PySem.W.mg_of X N hu, h1, h2⟩
    · cases q
  · have hmem := lk_mem e
    have q := b1 _ hmem
    have t := List.map_inj_left.mp tb _ hmem
    simp only at q t
    split at q
    · rename_i a ha
      rw [ha] at t
      simp only at t
      obtain ⟨es, n, kd⟩ := He.dicW_ok t
      refine ⟨a, PySem.W.mg_of X N ha, ⟨es, n, kd⟩, fun z => ?_⟩
      cases hl : l.lookup z with
      | none => exact ⟨none, nsIn_none kd t hl, rfl⟩
      | some d =>
        have qm := List.all_eq_true.mp q _ (lk_mem hl)
        simp only at qm
        split at qm
        · rename_i u hu
          obtain ⟨v, h1, h2⟩ := datB_ok (G := gxOf x K defs pr) rfl 20 d u qm
          exact ⟨some u, hu, u, v, rfl, h1, h2⟩
        · cases qm
    · cases q
  · have q := b1 _ (lk_mem e)
    simp only [clsB, Bool.and_eq_true, decide_eq_true_eq, Bool.or_eq_true, Bool.not_eq_true', decide_eq_false_iff_not, List.all_eq_true] at q
    obtain ⟨q1, q2, q3, q4, q5, q6, q7, q9, q10, q11, q8⟩ := q
    obtain ⟨x1, x2⟩ := isB_ok q5
    refine ⟨PySem.W.mg_of X N q1, q2, q3, q4, x1.hdC, x2, x1, q6, q9, q10, fun z => q7.resolve_left (fun n => n z), fun y d s f e2 => ?_⟩
    have := q8 _ (lk_mem e2)
    simpa only [Bool.and_eq_true, decide_eq_true_eq] using this
  · have q := b1 _ (lk_mem e)
    simp only [clsB, iniB, Bool.and_eq_true, decide_eq_true_eq, Bool.or_eq_true, Bool.not_eq_true', decide_eq_false_iff_not, List.all_eq_true] at q
    obtain ⟨_, _, _, _, _, _, _, _, q10, q11, _⟩ := q
    obtain ⟨i1, i2, i3⟩ := q11.resolve_left hne
    have g := List.all_eq_true.mp hin _ (lk_mem e)
    simp only [Bool.or_eq_true, decide_eq_true_eq, List.any_eq_true, Bool.and_eq_true] at g
    obtain ⟨r, hr, r1, r2⟩ := g.resolve_left hne
    obtain ⟨d, d1, d2, t1, t2, t3, t4, t5⟩ := hti r hr
    rw [r2] at t1 t3 t4 t5
    rw [r1] at d2
    obtain ⟨fo, F⟩ := c.def_ _ d1
    have e1 : d.dvs K = [] := by unfold He.DefD.dvs; rw [t2.1]; rfl
    have e2 : d.kws K = [] := by unfold He.DefD.kws; rw [t2.2]; rfl
    rw [e1, e2, d2] at F
    exact ⟨oexB_ok i1, q10, _, _, _, _, _, _, _, fo, F, t1, F.bindsN t3, t4, t5, i2, i3⟩
  · rw [hfx] at e
    obtain ⟨l, h1, h2⟩ := fixL_ok e
    obtain ⟨g1, g2⟩ := b3 _ h1
    have g1 : flOf K x.gl cn = l.map str := of_decide_eq_true g1
    refine ⟨by show (flOf K x.gl cn)[j]? = _; rw [g1]; simp [h2], ?_⟩
    have := g2 k (List.mem_of_getElem? h2)
    simpa using this
  · rw [hfi] at e
    cases e
  · obtain ⟨q1, q2⟩ := List.mem_filter.mp hf
    have := dok f q1
    rw [show x.ho.contains f = false by simpa using q2] at this
    exact this
  · obtain ⟨q1, q2⟩ := List.mem_filter.mp hf
    have := dok f q1
    rw [show x.ho.contains f = true by simpa using q2] at this
    exact this
  · obtain ⟨bm, o, m1, m2, m3, m4, m5, m6, m7, m8⟩ := tk.bm fun z => ne (by show tabsK K x.lamD = []; rw [z]; rfl)
    refine ⟨bm, o, PySem.W.mg_of X N m1, m2, m3, m4, m5, m6, m7, fun p hp => ?_⟩
    obtain ⟨y, hy, rfl⟩ := List.mem_map.mp hp
    exact ⟨m8 y hy, (tk.no y hy).2⟩
/-- the head's look: the defs, the names, the tables -/
abbrev AlP : Type := He.AlD × Bool × List (Option (List (Option (Str × Int)))) × Bool
def hookP (n : Nat) (fa : List He.Fa) (fn : List He.DefD) (x : Dsc) : PySem.W.Hook where
  α := AlP
  obs := fun s => (He.obsD fa fn (frR s.heap.get? n), modsX x (frR s.heap.get? n) fn, tabsO x.gl (frR s.heap.get? n), tbB s.heap.get? (frR s.heap.get? n) x.lamD)
  val := fun w => (He.valD fn, true, tabsV x.gl w, true)
  says := fun w h => ∃ K : PySem.W.Frag, K.In h ∧ He.SaysD fa fn K ∧ modsX x K fn = true ∧ tabsO x.gl K = tabsV x.gl w ∧ TbOk h K x.lamD
  of := fun _ s e => ⟨frR s.heap.get? n, He.frG_in, congrArg (fun z : AlP => z.1) e, congrArg (fun z : AlP => z.2.1) e, congrArg (fun z : AlP => z.2.2.1) e, tbB_ok (congrArg (fun z : AlP => z.2.2.2) e)⟩
  keeps := fun _ _ _ ⟨K, hK, c1, c2, c3, c4⟩ k => ⟨K, PySem.W.Frag.In.keeps hK k, c1, c2, c3, c4.keeps k⟩
def obP (n : Nat) (fa : List He.Fa) (fn : List He.DefD) (x : Dsc) (g : Addr → Option Obj) : AlP := (He.obsD fa fn (frR g n), modsX x (frR g n) fn, tabsO x.gl (frR g n), tbB g (frR g n) x.lamD)
theorem obP_eq {n : Nat} {fa : List He.Fa} {fn : List He.DefD} {x : Dsc} {s : Shared} {g : Addr → Option Obj} (h : ∀ a, g a = s.heap.get? a) : obP n fa fn x g = (hookP n fa fn x).obs s := by
  have e : g = s.heap.get? := funext h
  rw [e] <;> rfl
/-- the law, from the run of its text here -/
theorem walk_pv {x : Dsc} {l : PySem.W.OpenLaw} {n lev f : Nat} {q : Program} {loose : List Str} {XP : (Str → Option Value) → Heap → Prop} {d : DefRec} {pr : Prog} {k : Nat} {fa : List He.Fa} {defs : List He.DefD}
    (hn : l.most = some n) (hn2 : n ≤ sizeLine) (hdf : d.params.defaults = []) (hr : Rm lev callerA) (hnum : x.num.length ≤ defs.length) (hgn : glNum x = true) (hin : iniG x = true) (hti : ∀ q ∈ x.ini, ∃ d, defs[q.2.1]? = some d ∧ d.at_ = (q.1, some ("__init__" : Str)) ∧ IniTx d q.2.2) (hfx : pr.fix = fixL x.fxs) (hfi : pr.fixI = fun _ _ => none)
    (tx : ∀ (i : Nat) (d : He.DefD) (f : Nat), defs[i]? = some d → x.num[i]? = some f → TxOk x pr d f) (hgl : x.gl.lookup d.name = some (.fn f))
    (law : ∀ ns : List Int, ns.length ≤ n → callN pr lev f [.lst (ns.map .int)] [] = .ok (.bl true) []) :
    PySem.W.WalkO q loose XP (hookP k fa defs x).says l.row.toRowW d [] (fun f vs => PySem.call f vs) := by
  refine Att.attach_call hn hdf fun w s₀ s₁ mg mb fad o pm cd doc a vs ns G Y ho hd hcd hmg hobj hints hlen hg => ?_
  obtain ⟨K, KX, c, b, tb, tk⟩ := Y
  have M := mods_of (pr := pr) KX G.T.g c b hnum hgn hin hti hfx hfi tb tk tx
  obtain ⟨hfm, hm⟩ := M.gfn _ _ hgl
  have r := law_run (P := l.prog) (w := w) M hfm rfl KX G.T.g G.T.b G.T.builtins G.T.nolimit hg (fun p hp => by
    obtain ⟨y, hy, rfl⟩ := List.mem_map.mp hp
    obtain ⟨c', q1, q2⟩ := tk.hd y hy
    exact ⟨tk.tb y hy, (tk.no y hy).1, c', PySem.W.codeHd_of_K KX q2⟩) hobj hints (Nat.le_trans hlen hn2) hr (law ns hlen)
  have e2 : (gxOf x K defs pr).fa f = fad := by
    have := hm.symm.trans hmg
    simpa using this
  rw [e2] at r
  exact r
end PV
set_option Elab.async false
set_option autoImplicit false
set_option maxRecDepth 100000
namespace PV
/-- it comes to a value as wished, or raises as wished -/
def WR0 {α : Type} (r : R α) (Q : α → Hs → Prop) (X : Nat → List D → Hs → Prop) : Prop := match r with
  | .ok a h => Q a h
  | .ex c l h => X c l h
  | .bad => False
def WQ0 (r : SR) (N : Env → Hs → Prop) (T : D → Hs → Prop) (B K : Env → Hs → Prop) (Z : Nat → List D → Env → Hs → Prop) : Prop := match r with
  | .nx ρ h => N ρ h
  | .rt d h => T d h
  | .bk ρ h => B ρ h
  | .ct ρ h => K ρ h
  | .ex c l ρ h => Z c l ρ h
  | .bad => False
def noX : Nat → List D → Hs → Prop := fun _ _ _ => False
def noZ : Nat → List D → Env → Hs → Prop := fun _ _ _ _ => False
section
variable {α β : Type} {Q : β → Hs → Prop} {P : α → Hs → Prop} {h : Hs} {N B K : Env → Hs → Prop} {T : D → Hs → Prop} {ρ : Env} {X : Nat → List D → Hs → Prop} {Z : Nat → List D → Env → Hs → Prop}
theorem wr_ok {a : α} : WR0 (.ok a h) P X = P a h := id rfl
theorem wr_exc {c : Nat} {l : List D} : WR0 (.ex c l h : R α) P X = X c l h := id rfl
theorem wr_bad : WR0 (.bad : R α) P X = False := id rfl
theorem wr_then {r : R α} {f : α → Hs → R β} : WR0 (r.then f) Q X = WR0 r (fun a h => WR0 (f a h) Q X) X := by cases r <;> rfl
theorem wr_some {a : α} : WR0 (R.ofO (some a) h) P X = P a h := id rfl
theorem wr_none : WR0 (R.ofO (none : Option α) h) P X = False := id rfl
theorem wr_if {c : Prop} [Decidable c] {a : α} : WR0 (R.ofO (if c then some a else none) h) P X = (c ∧ P a h) := by
  by_cases e : c
  · rw [if_pos e]; simp [e, wr_some]
  · rw [if_neg e]; simp [e, wr_none]
theorem wr_ite {c : Prop} [Decidable c] {a b : R α} : WR0 (if c then a else b) P X = if c then WR0 a P X else WR0 b P X := by by_cases e : c <;> simp [e]
theorem wq_thenS {r : R α} {f : α → Hs → SR} : WQ0 (r.thenS ρ f) N T B K Z = WR0 r (fun a h => WQ0 (f a h) N T B K Z) (fun c l h => Z c l ρ h) := by cases r <;> rfl
theorem wq_then {r : SR} {f : Env → Hs → SR} : WQ0 (r.then f) N T B K Z = WQ0 r (fun ρ h => WQ0 (f ρ h) N T B K Z) T B K Z := by cases r <;> rfl
theorem wq_nx : WQ0 (.nx ρ h) N T B K Z = N ρ h := id rfl
theorem wq_rt {d : D} : WQ0 (.rt d h) N T B K Z = T d h := id rfl
theorem wq_bk : WQ0 (.bk ρ h) N T B K Z = B ρ h := id rfl
theorem wq_ct : WQ0 (.ct ρ h) N T B K Z = K ρ h := id rfl
theorem wq_exc {c : Nat} {l : List D} : WQ0 (.ex c l ρ h) N T B K Z = Z c l ρ h := id rfl
theorem wq_ite {c : Prop} [Decidable c] {a b : SR} : WQ0 (if c then a else b) N T B K Z = if c then WQ0 a N T B K Z else WQ0 b N T B K Z := by by_cases e : c <;> simp [e]
theorem wr_of {r : R α} {a : α} {h1 : Hs} (e : r = .ok a h1) (p : P a h1) : WR0 r P X := by rw [e]; exact p
theorem wr_ex {r : R α} (w : WR0 r P noX) : ∃ a h1, r = .ok a h1 ∧ P a h1 := by
  cases r with
  | ok a h1 => exact ⟨a, h1, rfl, w⟩
  | ex _ _ _ => exact w.elim
  | bad => exact w.elim
theorem wr_mono {r : R α} {P' : α → Hs → Prop} {X' : Nat → List D → Hs → Prop} (w : WR0 r P X) (k : ∀ a h, P a h → P' a h) (x : ∀ c l h, X c l h → X' c l h) : WR0 r P' X' := by
  cases r with
  | ok a h1 => exact k _ _ w
  | ex c l h1 => exact x _ _ _ w
  | bad => exact w.elim
theorem wq_mono {r : SR} {N' B' K' : Env → Hs → Prop} {T' : D → Hs → Prop} {Z' : Nat → List D → Env → Hs → Prop} (w : WQ0 r N T B K Z) (n : ∀ ρ h, N ρ h → N' ρ h) (t : ∀ d h, T d h → T' d h) (b : ∀ ρ h, B ρ h → B' ρ h) (k : ∀ ρ h, K ρ h → K' ρ h) (z : ∀ c l ρ h, Z c l ρ h → Z' c l ρ h) : WQ0 r N' T' B' K' Z' := by
  cases r with
  | nx ρ h => exact n _ _ w
  | rt d h => exact t _ _ w
  | bk ρ h => exact b _ _ w
  | ct ρ h => exact k _ _ w
  | ex c l ρ h => exact z _ _ _ _ w
  | bad => exact w.elim
end
theorem trim_same {h h' : Hs} {ds : List D} (e : h'.length = h.length) : trim h h' ds = h' := by
  unfold trim
  split
  · rw [← e]; exact List.take_length
  · split
    · exact List.take_of_length_le (by omega)
    · rfl
/-- a call -/
theorem wr_call {pr : Prog} {n f : Nat} {k : Option (Nat × List D)} {fd : Fd} {args : List D} {h : Hs} {P : D → Hs → Prop} {X : Nat → List D → Hs → Prop} (hf : pr.fn f = some fd) (hl : args.length = fd.np)
    (w : WQ0 (evSL (clOf pr n k) fd.body (args.map some ++ List.replicate (fd.nv - fd.np) none) h) (fun _ h' => P .non (trim h h' [])) (fun d h' => P d (trim h h' [d])) (fun _ _ => False) (fun _ _ => False) (fun c l _ h' => X c l (trim h h' l))) : WR0 (callK pr (n + 1) k f args h) P X := by
  simp only [callK, hf, runF, hl, if_true]
  revert w
  generalize evSL (clOf pr n k) fd.body _ h = r
  intro w
  cases r with
  | nx ρ h' => exact w
  | rt d h' => exact w
  | ex c l ρ h' => exact w
  | bk _ _ => exact w.elim
  | ct _ _ => exact w.elim
  | bad => exact w.elim
/-- a for: an invariant by the turn -/
theorem wq_for {f : D → Env → Hs → SR} {ok : Hs → Bool} {N : Env → Hs → Prop} {T : D → Hs → Prop} {B K : Env → Hs → Prop} {Z : Nat → List D → Env → Hs → Prop} (Iv : Nat → Env → Hs → Prop) : ∀ (l : List D) (i : Nat) {ρ : Env} {h : Hs}, Iv i ρ h →
    (∀ j x ρ h, l[j]? = some x → Iv (i + j) ρ h → WQ0 (f x ρ h) (fun ρ' h' => ok h' = true ∧ Iv (i + j + 1) ρ' h') T N (fun ρ' h' => ok h' = true ∧ Iv (i + j + 1) ρ' h') Z) → (∀ ρ h, Iv (i + l.length) ρ h → N ρ h) → WQ0 (forS f ok l ρ h) N T B K Z
  | [], i, ρ, h, h0, st, en => en ρ h h0
  | x :: r, i, ρ, h, h0, st, en => by
    have w := st 0 x ρ h rfl h0
    have go : ∀ ρ' h', Iv (i + 1) ρ' h' → WQ0 (forS f ok r ρ' h') N T B K Z := fun ρ' h' z => wq_for Iv r (i + 1) z (fun j y ρ h e q => by
      have := st (j + 1) y ρ h (by simpa using e) (by rw [show i + (j + 1) = i + 1 + j by omega]; exact q)
      rw [show i + (j + 1) + 1 = i + 1 + j + 1 by omega] at this
      exact this) fun ρ h q => en ρ h (by rw [show i + (x :: r).length = i + 1 + r.length by simp; omega]; exact q)
    unfold forS
    revert w
    generalize f x ρ h = q
    intro w
    cases q with
    | nx ρ' h' =>
      obtain ⟨w1, w2⟩ := w
      simp only [w1, if_true]
      exact go ρ' h' w2
    | ct ρ' h' =>
      obtain ⟨w1, w2⟩ := w
      simp only [w1, if_true]
      exact go ρ' h' w2
    | rt d h' => exact w
    | bk ρ' h' => exact w
    | ex c l ρ' h' => exact w
    | bad => exact w.elim
/-- a comprehension's turns: an invariant by the turn -/
theorem wr_turns {f : D → M (Option D)} {ok : Hs → Bool} {P : List D → Hs → Prop} {X : Nat → List D → Hs → Prop} (Iv : Nat → List D → Hs → Prop) : ∀ (l : List D) (i : Nat) {acc : List D} {h : Hs}, Iv i acc h →
    (∀ j x acc h, l[j]? = some x → Iv (i + j) acc h → WR0 (f x h) (fun d h' => ok h' = true ∧ Iv (i + j + 1) (match d with
      | some d => acc ++ [d]
      | none => acc) h') X) → (∀ acc h, Iv (i + l.length) acc h → P acc h) → WR0 (turns f ok l acc h) P X
  | [], i, acc, h, h0, st, en => en acc h h0
  | x :: r, i, acc, h, h0, st, en => by
    have w := st 0 x acc h rfl h0
    unfold turns
    rw [wr_then]
    refine wr_mono w (fun d h' ⟨w1, w2⟩ => ?_) fun _ _ _ z => z
    simp only [w1, if_true]
    exact wr_turns Iv r (i + 1) w2 (fun j y acc h e q => by
      have := st (j + 1) y acc h (by simpa using e) (by rw [show i + (j + 1) = i + 1 + j by omega]; exact q)
      rw [show i + (j + 1) + 1 = i + 1 + j + 1 by omega] at this
      exact this) fun acc h q => en acc h (by rw [show i + (x :: r).length = i + 1 + r.length by simp; omega]; exact q)
end PV
set_option Elab.async false
set_option autoImplicit false
set_option maxRecDepth 100000
namespace PV
section
variable {h : Hs} {i j : Int} {b : Nat} {x y : D} {l k : List D} {s t : Cs} {a c : Bool}
theorem vw_int : vw h (.int i) = .int i := id rfl
theorem vw_bl : vw h (.bl a) = .bl a := id rfl
theorem vw_str : vw h (.str s) = .str s := id rfl
theorem vw_tup : vw h (.tup l) = .tup l := id rfl
theorem vw_lst : vw h (.lst l) = .lst l := id rfl
theorem vw_dct {l : List (D × D)} : vw h (.dct l) = .dct l := id rfl
theorem vw_non : vw h .non = .non := id rfl
theorem vw_fn {f : Nat} : vw h (.fn f) = .fn f := id rfl
theorem vw_ref {n : Nat} (e : h[n]? = some x) (z : x ≠ .non) : vw h (.ref n) = x := by
  simp only [vw, List.getD_eq_getElem?_getD, e, Option.getD_some]
theorem getD_at {n : Nat} (e : h[n]? = some x) : h.getD n .non = x := by
  simp only [List.getD_eq_getElem?_getD, e, Option.getD_some]
/-- data are seen as they are, but cells -/
theorem vw_flat (f : x.flat = true) : vw h x = x := by cases x <;> first | rfl | simp [D.flat] at f
theorem add_ii : bop .add (.int i) (.int j) = some (.int (i + j)) := id rfl
theorem add_tt : bop .add (.tup l) (.tup k) = if okLen (l ++ k) then some (.tup (l ++ k)) else none := id rfl
theorem add_ll : bop .add (.lst l) (.lst k) = if okLen (l ++ k) then some (.lst (l ++ k)) else none := id rfl
theorem add_ss : bop .add (.str s) (.str t) = if okLen (s ++ t) then some (.str (s ++ t)) else none := id rfl
theorem sub_ii : bop .sub (.int i) (.int j) = some (.int (i - j)) := id rfl
theorem mul_ii : bop .mul (.int i) (.int j) = if small i || small j || (mid i && mid j) then some (.int (i * j)) else none := id rfl
theorem fdiv_ii : bop .fdiv (.int i) (.int j) = if decide (0 < j) && mid j then some (.int (i / j)) else none := id rfl
theorem mod_ii : bop .mod (.int i) (.int j) = if 0 < j then some (.int (i % j)) else none := id rfl
theorem pow_ii : bop .pow (.int i) (.int j) = if decide (0 ≤ j) && decide (j ≤ 1000000) && small i then some (.int (i ^ j.toNat)) else none := id rfl
theorem lt_ii : cop b .lt (.int i) (.int j) = some (.bl (decide (i < j))) := id rfl
theorem le_ii : cop b .le (.int i) (.int j) = some (.bl (decide (i ≤ j))) := id rfl
theorem gt_ii : cop b .gt (.int i) (.int j) = some (.bl (decide (j < i))) := id rfl
theorem ge_ii : cop b .ge (.int i) (.int j) = some (.bl (decide (j ≤ i))) := id rfl
theorem eq_d : cop b .eq x y = if x.flat && y.flat && decide (min x.dep y.dep ≤ b) then some (.bl (D.eqv x y)) else none := by cases x <;> cases y <;> rfl
theorem ne_d : cop b .ne x y = if x.flat && y.flat && decide (min x.dep y.dep ≤ b) then some (.bl (!D.eqv x y)) else none := by cases x <;> cases y <;> rfl
theorem eq_ii : cop b .eq (.int i) (.int j) = some (.bl (i == j)) := by simp [eq_d, D.flat, D.dep, D.eqv]
theorem ne_ii : cop b .ne (.int i) (.int j) = some (.bl (!(i == j))) := by simp [ne_d, D.flat, D.dep, D.eqv]
theorem eq_ss (hs : s.all (· < 1114112) = true) (ht : t.all (· < 1114112) = true) : cop b .eq (.str s) (.str t) = some (.bl (s == t)) := by
  rw [eq_d]; simp only [D.flat, D.dep, D.eqv, hs, ht]; simp
theorem ne_ss (hs : s.all (· < 1114112) = true) (ht : t.all (· < 1114112) = true) : cop b .ne (.str s) (.str t) = some (.bl (!(s == t))) := by
  rw [ne_d]; simp only [D.flat, D.dep, D.eqv, hs, ht]; simp
theorem item_t : item (.tup l) (.int i) = atI l i := id rfl
theorem item_l : item (.lst l) (.int i) = atI l i := id rfl
theorem atI_nat {α : Type} {l : List α} {n : Nat} : atI l (n : Int) = l[n]? := by
  unfold atI ixN
  by_cases e : n < l.length
  · simp [e]
  · simp [e]
theorem atI_lit {α : Type} {l : List α} {n : Nat} : atI l (OfNat.ofNat n : Int) = l[n]? := atI_nat
theorem atI_pos {α : Type} {l : List α} {i : Int} (h0 : 0 ≤ i) : atI l i = l[i.toNat]? := by
  have := atI_nat (l := l) (n := i.toNat)
  rwa [Int.toNat_of_nonneg h0] at this
theorem set_l : setAt (.lst l) (.int i) x = (ixN l.length i).map fun j => .lst (l.set j x) := id rfl
theorem len_t : blt b h .len [.tup l] = some (.int l.length) := id rfl
theorem len_l : blt b h .len [.lst l] = some (.int l.length) := id rfl
theorem asB_bl : asB (.bl a) = some a := id rfl
theorem asI_int : asI (.int i) = some i := id rfl
theorem asR_ref {n : Nat} : asR (.ref n) = some n := id rfl
theorem bnd_nm {n : Nat} {ρ : Env} : Pat.bnd h (.nm n) x ρ = some (ρ.set n (some x)) := id rfl
theorem list_l : blt b h .list [.lst l] = some (.lst l) := id rfl
theorem list_t : blt b h .list [.tup l] = some (.lst l) := id rfl
theorem tuple_l : blt b h .tuple [.lst l] = some (.tup l) := id rfl
theorem abs_i : blt b h .abs [.int i] = some (.int i.natAbs) := id rfl
theorem isin_d {T : Ty} : blt b h (.isin T) [x] = (tyOf T (vw h x)).map .bl := id rfl
theorem slc_t {o p : Option Int} : slice o p (.tup l) = some (.tup (cut l o p)) := id rfl
theorem slc_l {o p : Option Int} : slice o p (.lst l) = some (.lst (cut l o p)) := id rfl
theorem flat_ints : ∀ ns : List Int, D.flatL (ns.map .int) = true
  | [] => rfl
  | n :: r => by simp [D.flatL, D.flat, flat_ints r]
theorem dep_ints : ∀ ns : List Int, D.depL (ns.map .int) = 0
  | [] => rfl
  | n :: r => by simp [D.depL, D.dep, dep_ints r]
end
end PV
set_option Elab.async false
set_option autoImplicit false
set_option maxRecDepth 100000
namespace PV
class Kt (α : Type) where k : α → Hs → Prop
class Kn where k : Env → Hs → Prop
class Kpr where p : Prop
/-- what is wished of what is raised, by an expression, by a statement -/
class Kx where k : Nat → List D → Hs → Prop
class Kz where k : Nat → List D → Env → Hs → Prop
@[irreducible] def Wr {α : Type} (r : R α) [q : Kt α] [xk : Kx] : Prop := WR0 r q.k xk.k
@[irreducible] def Wq (r : SR) [N : Kn] [T : Kt D] [B : Kn] [K : Kn] [zk : Kz] : Prop := WQ0 r N.k T.k B.k K.k zk.k
/-- it comes to a value as wished -/
@[irreducible] def WR {α : Type} (r : R α) (Q : α → Hs → Prop) : Prop := WR0 r Q noX
/-- it comes to a value as wished, or raises as wished -/
@[irreducible] def WRx {α : Type} (r : R α) (Q : α → Hs → Prop) (X : Nat → List D → Hs → Prop) : Prop := WR0 r Q X
/-- either way by c; only c is looked into -/
def Br (c : Prop) [a : Kpr] [b : Kpr] : Prop := (c → a.p) ∧ (¬c → b.p)
theorem kt_mk {α : Type} {f : α → Hs → Prop} {a : α} {h : Hs} : @Kt.k α ⟨f⟩ a h = f a h := id rfl
theorem kn_mk {f : Env → Hs → Prop} {a : Env} {h : Hs} : @Kn.k ⟨f⟩ a h = f a h := id rfl
theorem kp_mk {f : Prop} : @Kpr.p ⟨f⟩ = f := id rfl
theorem kx_mk {f : Nat → List D → Hs → Prop} {c : Nat} {l : List D} {h : Hs} : @Kx.k ⟨f⟩ c l h = f c l h := id rfl
theorem kz_mk {f : Nat → List D → Env → Hs → Prop} {c : Nat} {l : List D} {ρ : Env} {h : Hs} : @Kz.k ⟨f⟩ c l ρ h = f c l ρ h := id rfl
theorem br_t {a b : Kpr} : @Br True a b = a.p := by simp [Br]
theorem br_f {a b : Kpr} : @Br False a b = b.p := by simp [Br]
theorem br_not {c : Prop} {a b : Kpr} : @Br (¬c) a b = @Br c b a := by unfold Br; by_cases c <;> simp_all
theorem br_and {c d : Prop} {a b : Kpr} : @Br (c ∧ d) a b = @Br c ⟨@Br d a b⟩ b := by unfold Br; by_cases c <;> by_cases d <;> simp_all
theorem br_or {c d : Prop} {a b : Kpr} : @Br (c ∨ d) a b = @Br c a ⟨@Br d a b⟩ := by unfold Br; by_cases c <;> by_cases d <;> simp_all
theorem br_i {c : Prop} {a b : Kpr} (h1 : c → a.p) (h2 : ¬c → b.p) : @Br c a b := ⟨h1, h2⟩
theorem br_ite {c : Prop} [Decidable c] {α : Type} {x y : α} {P : α → Prop} : P (if c then x else y) = @Br c ⟨P x⟩ ⟨P y⟩ := by unfold Br; by_cases c <;> simp_all
section
variable {α β : Type} {q : Kt β} {p : Kt α} {h : Hs} {a : α} {xk : Kx}
theorem r_ex {c : Nat} {l : List D} : @Wr _ (.ex c l h) p xk = xk.k c l h := by unfold Wr; rfl
theorem r_ok : @Wr _ (.ok a h) p xk = p.k a h := by unfold Wr; rfl
theorem r_then {r : R α} {f : α → Hs → R β} : @Wr _ (r.then f) q xk = @Wr _ r ⟨fun a h => @Wr _ (f a h) q xk⟩ xk := by unfold Wr; exact wr_then
theorem o_some : @Wr _ (R.ofO (some a) h) p xk = p.k a h := by unfold Wr; rfl
theorem o_if {c : Prop} [Decidable c] {o : Option α} : @Wr _ (R.ofO (if c then o else none) h) p xk = (c ∧ @Wr _ (R.ofO o h) p xk) := by
  unfold Wr
  by_cases e : c
  · rw [if_pos e]; simp [e]
  · rw [if_neg e]; simp [e, R.ofO, WR0]
theorem o_map {o : Option β} {f : β → α} : @Wr _ (R.ofO (o.map f) h) p xk = @Wr _ (R.ofO o h) ⟨fun b h => p.k (f b) h⟩ xk := by unfold Wr; cases o <;> rfl
theorem o_bind {o : Option β} {f : β → Option α} : @Wr _ (R.ofO (o.bind f) h) p xk = @Wr _ (R.ofO o h) ⟨fun b h => @Wr _ (R.ofO (f b) h) p xk⟩ xk := by unfold Wr; cases o <;> rfl
theorem r_mono {r : R α} {Q : α → Hs → Prop} (w : WR r Q) (k : ∀ a h, Q a h → p.k a h) : @Wr _ r p xk := by
  unfold WR at w
  unfold Wr
  exact wr_mono w k fun _ _ _ z => z.elim
theorem r_monox {r : R α} {Q : α → Hs → Prop} {X : Nat → List D → Hs → Prop} (w : WRx r Q X) (k : ∀ a h, Q a h → p.k a h) (x : ∀ c l h, X c l h → xk.k c l h) : @Wr _ r p xk := by
  unfold WRx at w
  unfold Wr
  exact wr_mono w k x
theorem wRx_mono {r : R α} {Q Q' : α → Hs → Prop} {X X' : Nat → List D → Hs → Prop} (w : WRx r Q X) (k : ∀ a h, Q a h → Q' a h) (x : ∀ c l h, X c l h → X' c l h) : WRx r Q' X' := by
  unfold WRx at w ⊢
  exact wr_mono w k x
theorem wRx_is {r : R α} {Q : α → Hs → Prop} {X : Nat → List D → Hs → Prop} (w : WRx r Q X) : (∃ a h1, r = .ok a h1 ∧ Q a h1) ∨ ∃ c l h1, r = .ex c l h1 ∧ X c l h1 := by
  unfold WRx at w
  cases r with
  | ok a h1 => exact .inl ⟨a, h1, rfl, w⟩
  | ex c l h1 => exact .inr ⟨c, l, h1, rfl, w⟩
  | bad => exact w.elim
theorem wRx_wR {r : R α} {Q : α → Hs → Prop} (w : WRx r Q noX) : WR r Q := by
  unfold WRx at w
  unfold WR
  exact w
theorem wR_mono {r : R α} {Q Q' : α → Hs → Prop} (w : WR r Q) (k : ∀ a h, Q a h → Q' a h) : WR r Q' := by
  unfold WR at w ⊢
  exact wr_mono w k fun _ _ _ z => z
theorem wR_ex {r : R α} {Q : α → Hs → Prop} (w : WR r Q) : ∃ a h1, r = .ok a h1 ∧ Q a h1 := by
  unfold WR at w
  exact wr_ex w
theorem wR_of {r : R α} {Q : α → Hs → Prop} {h1 : Hs} (e : r = .ok a h1) (k : Q a h1) : WR r Q := by
  unfold WR
  exact wr_of e k
theorem r_of {r : R α} {h1 : Hs} (e : r = .ok a h1) (k : p.k a h1) : @Wr _ r p xk := by
  unfold Wr
  exact wr_of e k
end
section
variable {C : Cl} {a b c e : E} {l : EL} {ρ : Env} {h : Hs} {q : Kt D} {ql : Kt (List D)} {qb : Kt Bool} {xk : Kx}
theorem w_cst {d : D} : @Wr _ (evE C (.cst d) ρ h) q xk = q.k d h := by simp only [Wr, Wq]; rfl
theorem w_var {i : Nat} : @Wr _ (evE C (.var i) ρ h) q xk = @Wr _ (R.ofO (ρ.getD i none) h) q xk := by simp only [Wr, Wq]; rfl
theorem w_op {o : Bop} : @Wr _ (evE C (.op o a b) ρ h) q xk = @Wr _ (evE C a ρ h) ⟨fun x h => @Wr _ (evE C b ρ h) ⟨fun y h => @Wr _ (R.ofO (bop o (vw h x) (vw h y)) h) q xk⟩ xk⟩ xk := by simp only [evE, Wr, wr_then, wr_ok]
theorem w_neg : @Wr _ (evE C (.neg a) ρ h) q xk = @Wr _ (evE C a ρ h) ⟨fun x h => @Wr _ (R.ofO (asI x) h) ⟨fun i h => q.k (.int (-i)) h⟩ xk⟩ xk := by simp only [evE, Wr, wr_then, wr_ok]
theorem w_not : @Wr _ (evE C (.not a) ρ h) q xk = @Wr _ (evE C a ρ h) ⟨fun x h => @Wr _ (R.ofO (asB x) h) ⟨fun i h => q.k (.bl (!i)) h⟩ xk⟩ xk := by simp only [evE, Wr, wr_then, wr_ok]
theorem w_cmp {o : Cop} : @Wr _ (evE C (.cmp o a b) ρ h) q xk = @Wr _ (evE C a ρ h) ⟨fun x h => @Wr _ (evE C b ρ h) ⟨fun y h => @Wr _ (R.ofO (cop C.bd o (vw h x) (vw h y)) h) q xk⟩ xk⟩ xk := by simp only [evE, Wr, wr_then, wr_ok]
theorem w_chain {o p : Cop} : @Wr _ (evE C (.chain o p a b c) ρ h) q xk = @Wr _ (evE C a ρ h) ⟨fun x h => @Wr _ (evE C b ρ h) ⟨fun y h => @Wr _ (R.ofO (cop C.bd o (vw h x) (vw h y)) h) ⟨fun d h => @Wr _ (R.ofO (asB d) h) ⟨fun t h => @Br (t = true) ⟨@Wr _ (evE C c ρ h) ⟨fun z h => @Wr _ (R.ofO (cop C.bd p (vw h y) (vw h z)) h) q xk⟩ xk⟩ ⟨q.k (.bl false) h⟩⟩ xk⟩ xk⟩ xk⟩ xk := by simp only [evE, Wr, wr_then, br_ite (P := fun r => WR0 r q.k xk.k), wr_ok, Br]
theorem w_and : @Wr _ (evE C (.and a b) ρ h) q xk = @Wr _ (evE C a ρ h) ⟨fun x h => @Wr _ (R.ofO (asB x) h) ⟨fun t h => @Br (t = true) ⟨@Wr _ (evE C b ρ h) ⟨fun y h => @Wr _ (R.ofO (asB y) h) ⟨fun t h => q.k (.bl t) h⟩ xk⟩ xk⟩ ⟨q.k (.bl false) h⟩⟩ xk⟩ xk := by simp only [evE, Wr, wr_then, br_ite (P := fun r => WR0 r q.k xk.k), wr_ok, Br]
theorem w_or : @Wr _ (evE C (.or a b) ρ h) q xk = @Wr _ (evE C a ρ h) ⟨fun x h => @Wr _ (R.ofO (asB x) h) ⟨fun t h => @Br (t = true) ⟨q.k (.bl true) h⟩ ⟨@Wr _ (evE C b ρ h) ⟨fun y h => @Wr _ (R.ofO (asB y) h) ⟨fun t h => q.k (.bl t) h⟩ xk⟩ xk⟩⟩ xk⟩ xk := by simp only [evE, Wr, wr_then, br_ite (P := fun r => WR0 r q.k xk.k), wr_ok, Br]
theorem w_ife : @Wr _ (evE C (.ife c a b) ρ h) q xk = @Wr _ (evE C c ρ h) ⟨fun x h => @Wr _ (R.ofO (asB x) h) ⟨fun t h => @Br (t = true) ⟨@Wr _ (evE C a ρ h) q xk⟩ ⟨@Wr _ (evE C b ρ h) q xk⟩⟩ xk⟩ xk := by simp only [evE, Wr, wr_then, br_ite (P := fun r => WR0 r q.k xk.k), wr_ok, Br]
theorem w_tup : @Wr _ (evE C (.tup l) ρ h) q xk = @Wr _ (evL C l ρ h) ⟨fun l h => q.k (.tup l) h⟩ xk := by simp only [evE, Wr, wr_then, wr_ok]
theorem w_lst : @Wr _ (evE C (.lst l) ρ h) q xk = @Wr _ (evL C l ρ h) ⟨fun l h => q.k (.lst l) h⟩ xk := by simp only [evE, Wr, wr_then, wr_ok]
theorem w_dct {k : EL} : @Wr _ (evE C (.dct k l) ρ h) q xk = @Wr _ (evL C k ρ h) ⟨fun ks h => @Wr _ (evL C l ρ h) ⟨fun vs h => @Wr _ (R.ofO (dctOf ks vs []) h) ⟨fun l h => q.k (.dct l) h⟩ xk⟩ xk⟩ xk := by simp only [evE, Wr, wr_then, wr_ok]
theorem w_idx : @Wr _ (evE C (.idx a b) ρ h) q xk = @Wr _ (evE C a ρ h) ⟨fun x h => @Wr _ (evE C b ρ h) ⟨fun y h => @Wr _ (R.ofO (item (vw h x) y) h) q xk⟩ xk⟩ xk := by simp only [evE, Wr, wr_then, wr_ok]
theorem w_slc {lo hi : EL} : @Wr _ (evE C (.slc a lo hi) ρ h) q xk = @Wr _ (evE C a ρ h) ⟨fun x h => @Wr _ (evL C lo ρ h) ⟨fun lo h => @Wr _ (R.ofO (optInt lo) h) ⟨fun lo h => @Wr _ (evL C hi ρ h) ⟨fun hi h => @Wr _ (R.ofO (optInt hi) h) ⟨fun hi h => @Wr _ (R.ofO (slice lo hi (vw h x)) h) q xk⟩ xk⟩ xk⟩ xk⟩ xk⟩ xk := by simp only [evE, Wr, wr_then, wr_ok]
theorem w_rev : @Wr _ (evE C (.rev a) ρ h) q xk = @Wr _ (evE C a ρ h) ⟨fun x h => @Wr _ (R.ofO (revD (vw h x)) h) ⟨fun l h => q.k l h⟩ xk⟩ xk := by simp only [evE, Wr, wr_then, wr_ok]
theorem w_fld {k : Cs} : @Wr _ (evE C (.fld a k) ρ h) q xk = @Wr _ (evE C a ρ h) ⟨fun x h => @Wr _ (R.ofO (fldAt C.P k (vw h x)) h) q xk⟩ xk := by simp only [evE, Wr, wr_then, wr_ok]
theorem w_call {f : Nat} : @Wr _ (evE C (.call f l) ρ h) q xk = @Wr _ (evL C l ρ h) ⟨fun l h => @Wr _ (C.call f l h) q xk⟩ xk := by simp only [evE, Wr, wr_then, wr_ok]
theorem w_capp : @Wr _ (evE C (.capp l) ρ h) q xk = @Wr _ (evL C l ρ h) ⟨fun l h => @Wr _ (R.ofO (C.ks) h) ⟨fun k h => @Wr _ (C.call k.1 (l ++ k.2) h) q xk⟩ xk⟩ xk := by simp only [evE, Wr, wr_then, wr_ok]
theorem w_callp {f : Nat}: @Wr _ (evE C (.callp f l) ρ h) q xk = @Wr _ (evL C l ρ h) ⟨fun l h => @Wr _ (R.ofO (C.ks) h) ⟨fun k h => @Wr _ (C.kall k f l h) q xk⟩ xk⟩ xk := by simp only [evE, Wr, wr_then, wr_ok]
theorem w_calll {f g : Nat} {is : List Nat}: @Wr _ (evE C (.calll f l g is) ρ h) q xk = @Wr _ (evL C l ρ h) ⟨fun l h => @Wr _ (R.ofO (setsOf ρ is) h) ⟨fun cs h => @Wr _ (C.kall (g, cs) f l h) q xk⟩ xk⟩ xk := by simp only [evE, Wr, wr_then, wr_ok]
theorem w_app : @Wr _ (evE C (.app a l) ρ h) q xk = @Wr _ (evE C a ρ h) ⟨fun x h => @Wr _ (R.ofO (asF x) h) ⟨fun p h => @Wr _ (evL C l ρ h) ⟨fun l h => @Wr _ (C.call p.1 (p.2 ++ l) h) q xk⟩ xk⟩ xk⟩ xk := by simp only [evE, Wr, wr_then, wr_ok]
theorem w_blt {b : Blt} : @Wr _ (evE C (.blt b l) ρ h) q xk = @Wr _ (evL C l ρ h) ⟨fun l h => @Wr _ (R.ofO (blt C.bd h b l) h) q xk⟩ xk := by simp only [evE, Wr, wr_then, wr_ok]
theorem w_mut {m : Mt} : @Wr _ (evE C (.mut m a l) ρ h) q xk = @Wr _ (evE C a ρ h) ⟨fun x h => @Wr _ (R.ofO (asR x) h) ⟨fun i h => @Wr _ (R.ofO (if mtTy m (h.getD i .non) then some () else none) h) ⟨fun _ h => @Wr _ (evL C l ρ h) ⟨fun l h => @Wr _ (R.ofO (mtd m (h.getD i .non) l h) h) ⟨fun p h => q.k p.2 (h.set i p.1)⟩ xk⟩ xk⟩ xk⟩ xk⟩ xk := by simp only [evE, Wr, wr_then, wr_ok]
theorem w_lam {f : Nat} {is : List Nat} : @Wr _ (evE C (.lam f is) ρ h) q xk = @Wr _ (R.ofO (setsOf ρ is) h) ⟨fun l h => q.k (.clo f l) h⟩ xk := by simp only [evE, Wr, wr_then, wr_ok]
theorem w_box : @Wr _ (evE C (.box a) ρ h) q xk = @Wr _ (evE C a ρ h) ⟨fun d h => boxed d = true ∧ q.k (.ref h.length) (h ++ [d])⟩ xk := by
  simp only [evE, Wr, wr_then]
  congr 1
  funext d h
  by_cases e : boxed d = true <;> simp [e, WR0]
theorem w_frz : @Wr _ (evE C (.frz a) ρ h) q xk = @Wr _ (evE C a ρ h) ⟨fun x h => @Wr _ (R.ofO (asR x) h) ⟨fun i h => h.getD i .non ≠ .non ∧ q.k (h.getD i .non) (gone h i)⟩ xk⟩ xk := by
  simp only [evE, Wr, wr_then]
  congr 1
  funext d h
  congr 1
  funext i h
  by_cases e : h.getD i .non = .non
  · rw [if_pos e]; exact propext ⟨False.elim, fun q => q.1 e⟩
  · rw [if_neg e]; exact propext ⟨fun q => ⟨e, q⟩, fun q => q.2⟩
theorem w_nil : @Wr _ (evL C .nil ρ h) ql xk = ql.k [] h := by unfold Wr; rfl
theorem w_cons : @Wr _ (evL C (.cons a l) ρ h) ql xk = @Wr _ (evE C a ρ h) ⟨fun x h => @Wr _ (evL C l ρ h) ⟨fun r h => ql.k (x :: r) h⟩ xk⟩ xk := by simp only [evL, Wr, wr_then, wr_ok]
theorem wT_nil : @Wr _ (evT C .nil ρ h) qb xk = qb.k true h := by unfold Wr; rfl
theorem wT_one : @Wr _ (evT C (.cons a .nil) ρ h) qb xk = @Wr _ (evE C a ρ h) ⟨fun x h => @Wr _ (R.ofO (asB x) h) qb xk⟩ xk := by simp only [evT, Wr, wr_then]
/-- a comprehension's turn -/
def compF (C : Cl) (p : Pat) (c : EL) (e : E) (ρ : Env) : D → M (Option D) := fun x h => (R.ofO (p.bnd h x (wipeE ρ p.slots)) h).then fun ρ' h => (evT C c ρ' h).then fun q h => if q then (evE C e ρ' h).then fun d h => .ok (some d) h else .ok none h
theorem w_comp {p : Pat} {k : Ik} {t : EL} : @Wr _ (evE C (.comp p k l t e) ρ h) q xk = @Wr _ (evL C l ρ h) ⟨fun vs h1 => @Wr _ (R.ofO (through h1 k vs) h1) ⟨fun xs h1 => fine k vs xs = true ∧ @Wr _ (turns (compF C p t e ρ) (fun h2 => stay h1 h2 vs) xs [] h1) ⟨fun l h => q.k (.lst l) h⟩ xk⟩ xk⟩ xk := by
  simp only [evE, Wr, wr_then]
  congr 1
  funext vs h1
  congr 1
  funext xs h2
  by_cases q : fine k vs xs = true
  · rw [if_pos q, wr_then]
    simp only [q, true_and, wr_ok]
    rfl
  · rw [if_neg q]; simp [q, WR0]
theorem w_compF {p : Pat} {t : EL} {x : D} {qo : Kt (Option D)} : @Wr _ (compF C p t e ρ x h) qo xk = @Wr _ (R.ofO (p.bnd h x (wipeE ρ p.slots)) h) ⟨fun ρ' h => @Wr _ (evT C t ρ' h) ⟨fun t h => @Br (t = true) ⟨@Wr _ (evE C e ρ' h) ⟨fun d h => qo.k (some d) h⟩ xk⟩ ⟨qo.k none h⟩⟩ xk⟩ xk := by
  simp only [compF, Wr, wr_then, br_ite (P := fun r => WR0 r qo.k xk.k), wr_ok, Br]
end
section
variable {C : Cl} {e c o i : E} {l : EL} {ρ : Env} {h : Hs} {N B K : Kn} {T : Kt D} {s : S} {x y : SL} {zk : Kz}
theorem q_nil : @Wq (evSL C .nil ρ h) N T B K zk = N.k ρ h := by simp only [Wr, Wq]; rfl
theorem q_cons : @Wq (evSL C (.cons s x) ρ h) N T B K zk = @Wq (evS C s ρ h) ⟨fun ρ h => @Wq (evSL C x ρ h) N T B K zk⟩ T B K zk := by simp only [evSL, Wq, wq_then]
theorem q_asg {p : Pat} : @Wq (evS C (.asg p e) ρ h) N T B K zk = @Wr _ (evE C e ρ h) ⟨fun d h => @Wr _ (R.ofO (p.bnd h d ρ) h) ⟨N.k⟩ ⟨fun c l h => zk.k c l ρ h⟩⟩ ⟨fun c l h => zk.k c l ρ h⟩ := by simp only [evS, Wr, Wq, wq_thenS, wq_nx, wq_rt]
theorem q_par {is : List Nat} : @Wq (evS C (.par is l) ρ h) N T B K zk = @Wr _ (evL C l ρ h) ⟨fun d h => @Wr _ (R.ofO (setsN ρ is d) h) ⟨N.k⟩ ⟨fun c l h => zk.k c l ρ h⟩⟩ ⟨fun c l h => zk.k c l ρ h⟩ := by simp only [evS, Wr, Wq, wq_thenS, wq_nx, wq_rt]
theorem q_aug {i : Nat} {o : Bop} : @Wq (evS C (.aug i o e) ρ h) N T B K zk = @Wr _ (R.ofO (ρ.getD i none) h) ⟨fun x h => @Wr _ (evE C e ρ h) ⟨fun y h => @Wr _ (R.ofO ((bop o x y).bind asI) h) ⟨fun d h => N.k (ρ.set i (some (.int d))) h⟩ ⟨fun c l h => zk.k c l ρ h⟩⟩ ⟨fun c l h => zk.k c l ρ h⟩⟩ ⟨fun c l h => zk.k c l ρ h⟩ := by simp only [evS, Wr, Wq, wq_thenS, wq_nx, wq_rt]
theorem q_sset : @Wq (evS C (.sset o i e) ρ h) N T B K zk = @Wr _ (evE C e ρ h) ⟨fun d h => @Wr _ (evE C o ρ h) ⟨fun x h => @Wr _ (R.ofO (asR x) h) ⟨fun j h => @Wr _ (evE C i ρ h) ⟨fun k h => @Wr _ (R.ofO (setAt (h.getD j .non) k d) h) ⟨fun c h => N.k ρ (h.set j c)⟩ ⟨fun c l h => zk.k c l ρ h⟩⟩ ⟨fun c l h => zk.k c l ρ h⟩⟩ ⟨fun c l h => zk.k c l ρ h⟩⟩ ⟨fun c l h => zk.k c l ρ h⟩⟩ ⟨fun c l h => zk.k c l ρ h⟩ := by simp only [evS, Wr, Wq, wq_thenS, wq_nx, wq_rt]
theorem q_del : @Wq (evS C (.del o i) ρ h) N T B K zk = @Wr _ (evE C o ρ h) ⟨fun x h => @Wr _ (R.ofO (asR x) h) ⟨fun j h => @Wr _ (evE C i ρ h) ⟨fun k h => @Wr _ (R.ofO (delAt (h.getD j .non) k) h) ⟨fun c h => N.k ρ (h.set j c)⟩ ⟨fun c l h => zk.k c l ρ h⟩⟩ ⟨fun c l h => zk.k c l ρ h⟩⟩ ⟨fun c l h => zk.k c l ρ h⟩⟩ ⟨fun c l h => zk.k c l ρ h⟩ := by simp only [evS, Wr, Wq, wq_thenS, wq_nx, wq_rt]
theorem q_ife : @Wq (evS C (.ife c x y) ρ h) N T B K zk = @Wr _ (evE C c ρ h) ⟨fun d h => @Wr _ (R.ofO (asB d) h) ⟨fun t h => @Br (t = true) ⟨@Wq (evSL C x ρ h) N T B K zk⟩ ⟨@Wq (evSL C y ρ h) N T B K zk⟩⟩ ⟨fun c l h => zk.k c l ρ h⟩⟩ ⟨fun c l h => zk.k c l ρ h⟩ := by simp only [evS, Wr, Wq, wq_thenS, br_ite (P := fun r => WQ0 r N.k T.k B.k K.k zk.k), Br]
/-- a for's turn -/
def forF (C : Cl) (p : Pat) (x : SL) : D → Env → Hs → SR := fun d ρ h => (R.ofO (p.bnd h d ρ) h).thenS ρ fun ρ' h => evSL C x ρ' h
theorem q_forF {p : Pat} {d : D} : @Wq (forF C p x d ρ h) N T B K zk = @Wr _ (R.ofO (p.bnd h d ρ) h) ⟨fun ρ h => @Wq (evSL C x ρ h) N T B K zk⟩ ⟨fun c l h => zk.k c l ρ h⟩ := by simp only [forF, Wr, Wq, wq_thenS]
theorem q_for {p : Pat} {k : Ik} : @Wq (evS C (.for_ p k l x) ρ h) N T B K zk = @Wr _ (evL C l ρ h) ⟨fun vs h1 => @Wr _ (R.ofO (through h1 k vs) h1) ⟨fun xs h1 => @Wq (forS (forF C p x) (fun h2 => stay h1 h2 vs) xs ρ h1) N T B K zk⟩ ⟨fun c l h => zk.k c l ρ h⟩⟩ ⟨fun c l h => zk.k c l ρ h⟩ := by simp only [evS, Wr, Wq, wq_thenS] <;> rfl
theorem q_whl : @Wq (evS C (.whl c x) ρ h) N T B K zk = @Wq (whlS (fun ρ h => (evE C c ρ h).then fun x h => R.ofO (asB x) h) (evSL C x) most ρ h) N T B K zk := by simp only [Wr, Wq]; rfl
theorem q_ret : @Wq (evS C (.ret e) ρ h) N T B K zk = @Wr _ (evE C e ρ h) T ⟨fun c l h => zk.k c l ρ h⟩ := by simp only [evS, Wr, Wq, wq_thenS, wq_nx, wq_rt]
theorem q_expr : @Wq (evS C (.expr e) ρ h) N T B K zk = @Wr _ (evE C e ρ h) ⟨fun _ h => N.k ρ h⟩ ⟨fun c l h => zk.k c l ρ h⟩ := by simp only [evS, Wr, Wq, wq_thenS, wq_nx, wq_rt]
theorem q_raise {cl : Nat} : @Wq (evS C (.raise cl l) ρ h) N T B K zk = @Wr _ (evL C l ρ h) ⟨fun ds h => zk.k cl ds ρ h⟩ ⟨fun c l h => zk.k c l ρ h⟩ := by simp only [evS, Wr, Wq, wq_thenS, wq_exc]
theorem q_try {hl : HL} : @Wq (evS C (.tryx x hl) ρ h) N T B K zk = @Wq (evSL C x ρ h) N T B K ⟨fun c l ρ h => @Wq (evH C hl c l ρ h) N T B K zk⟩ := by
  unfold Wq
  simp only [evS]
  cases evSL C x ρ h <;> first | rfl | (show WQ0 _ _ _ _ _ _ = Wq _; unfold Wq; rfl)
theorem q_hcons {cs : List Nat} {i c : Nat} {l : List D} {hl : HL} : @Wq (evH C (.cons cs (some i) x hl) c l ρ h) N T B K zk = @Br (cs.contains c = true) ⟨@Wq (evSL C x (ρ.set i (some (.exc c l))) h) ⟨fun ρ h => N.k (ρ.set i none) h⟩ T ⟨fun ρ h => B.k (ρ.set i none) h⟩ ⟨fun ρ h => K.k (ρ.set i none) h⟩ ⟨fun c l ρ h => zk.k c l (ρ.set i none) h⟩⟩ ⟨@Wq (evH C hl c l ρ h) N T B K zk⟩ := by
  unfold Br Wq
  by_cases q : cs.contains c = true
  · simp only [evH, q, if_true, true_implies, not_true_eq_false, false_implies, and_true]
    cases evSL C x (ρ.set i (some (.exc c l))) h <;> rfl
  · simp only [evH, q, if_false, false_implies, not_false_eq_true, true_implies, true_and, Bool.false_eq_true]
theorem q_hnil {c : Nat} {l : List D} : @Wq (evH C .nil c l ρ h) N T B K zk = zk.k c l ρ h := by unfold Wq; rfl
theorem q_pass : @Wq (evS C .pass ρ h) N T B K zk = N.k ρ h := by simp only [Wr, Wq]; rfl
theorem q_brk : @Wq (evS C .brk ρ h) N T B K zk = B.k ρ h := by simp only [Wr, Wq]; rfl
theorem q_cont : @Wq (evS C .cont ρ h) N T B K zk = K.k ρ h := by simp only [Wr, Wq]; rfl
/-- a text in between: what stands behind it -/
theorem q_cut {r : SR} (N' : Env → Hs → Prop) (w : @Wq r ⟨N'⟩ T B K zk) (k : ∀ ρ h, N' ρ h → N.k ρ h) : @Wq r N T B K zk := by
  unfold Wq at w ⊢
  exact wq_mono w k (fun _ _ z => z) (fun _ _ z => z) (fun _ _ z => z) (fun _ _ _ _ z => z)
theorem q_seq {C : Cl} (N' : Env → Hs → Prop) (w : @Wq (evS C s ρ h) ⟨N'⟩ T B K zk) (k : ∀ ρ h, N' ρ h → @Wq (evSL C x ρ h) N T B K zk) : @Wq (evSL C (.cons s x) ρ h) N T B K zk := by
  rw [q_cons]
  exact q_cut N' w k
end
theorem bd_eq {P : Prog} {n : Nat} {f : Nat → List D → M D} {g : Nat × List D → Nat → List D → M D} {k : Option (Nat × List D)} : (Cl.mk P n f g k).bd = 8 * n + 300 := id rfl
theorem turns_n {f : D → M (Option D)} {ok : Hs → Bool} {acc : List D} {h : Hs} {p : Kt (List D)} {xk : Kx} : @Wr _ (turns f ok [] acc h) p xk = p.k acc h := by unfold Wr; rfl
def addO (acc : List D) : Option D → List D
  | some d => acc ++ [d]
  | none => acc
theorem turns_c {f : D → M (Option D)} {ok : Hs → Bool} {x : D} {r acc : List D} {h : Hs} {p : Kt (List D)} {xk : Kx} : @Wr _ (turns f ok (x :: r) acc h) p xk = @Wr _ (f x h) ⟨fun d h' => ok h' = true ∧ @Wr _ (turns f ok r (addO acc d) h') p xk⟩ xk := by
  simp only [turns, Wr, wr_then]
  congr 1
  funext d h'
  cases d <;> (by_cases q : ok h' = true <;> simp [q, addO, WR0])
/-- a call -/
theorem call_k {pr : Prog} {n f : Nat} {k : Option (Nat × List D)} {fd : Fd} {args : List D} {h : Hs} {P : D → Hs → Prop} (hf : pr.fn f = some fd) (hl : args.length = fd.np)
    (w : @Wq (evSL (clOf pr n k) fd.body (args.map some ++ List.replicate (fd.nv - fd.np) none) h) ⟨fun _ h' => P .non (trim h h' [])⟩ ⟨fun d h' => P d (trim h h' [d])⟩ ⟨fun _ _ => False⟩ ⟨fun _ _ => False⟩ ⟨noZ⟩) : WR (callK pr (n + 1) k f args h) P := by
  unfold Wq at w
  unfold WR
  exact wr_call hf hl w
theorem call_i {pr : Prog} {n f : Nat} {fd : Fd} {args : List D} {h : Hs} {P : D → Hs → Prop} (hf : pr.fn f = some fd) (hl : args.length = fd.np)
    (w : @Wq (evSL (clOf pr n none) fd.body (args.map some ++ List.replicate (fd.nv - fd.np) none) h) ⟨fun _ h' => P .non (trim h h' [])⟩ ⟨fun d h' => P d (trim h h' [d])⟩ ⟨fun _ _ => False⟩ ⟨fun _ _ => False⟩ ⟨noZ⟩) : WR (callN pr (n + 1) f args h) P := call_k hf hl w
theorem call_kx {pr : Prog} {n f : Nat} {k : Option (Nat × List D)} {fd : Fd} {args : List D} {h : Hs} {P : D → Hs → Prop} {X : Nat → List D → Hs → Prop} (hf : pr.fn f = some fd) (hl : args.length = fd.np)
    (w : @Wq (evSL (clOf pr n k) fd.body (args.map some ++ List.replicate (fd.nv - fd.np) none) h) ⟨fun _ h' => P .non (trim h h' [])⟩ ⟨fun d h' => P d (trim h h' [d])⟩ ⟨fun _ _ => False⟩ ⟨fun _ _ => False⟩ ⟨fun c l _ h' => X c l (trim h h' l)⟩) : WRx (callK pr (n + 1) k f args h) P X := by
  unfold Wq at w
  unfold WRx
  exact wr_call hf hl w
theorem call_ix {pr : Prog} {n f : Nat} {fd : Fd} {args : List D} {h : Hs} {P : D → Hs → Prop} {X : Nat → List D → Hs → Prop} (hf : pr.fn f = some fd) (hl : args.length = fd.np)
    (w : @Wq (evSL (clOf pr n none) fd.body (args.map some ++ List.replicate (fd.nv - fd.np) none) h) ⟨fun _ h' => P .non (trim h h' [])⟩ ⟨fun d h' => P d (trim h h' [d])⟩ ⟨fun _ _ => False⟩ ⟨fun _ _ => False⟩ ⟨fun c l _ h' => X c l (trim h h' l)⟩) : WRx (callN pr (n + 1) f args h) P X := call_kx hf hl w
/-- a for: an invariant by the turn -/
theorem for_i {f : D → Env → Hs → SR} {ok : Hs → Bool} {N B K : Kn} {T : Kt D} {zk : Kz} {l : List D} {ρ : Env} {h : Hs} (Iv : Nat → Env → Hs → Prop) (h0 : Iv 0 ρ h)
    (st : ∀ j x ρ h, l[j]? = some x → Iv j ρ h → @Wq (f x ρ h) ⟨fun ρ' h' => ok h' = true ∧ Iv (j + 1) ρ' h'⟩ T N ⟨fun ρ' h' => ok h' = true ∧ Iv (j + 1) ρ' h'⟩ zk) (en : ∀ ρ h, Iv l.length ρ h → N.k ρ h) : @Wq (forS f ok l ρ h) N T B K zk := by
  unfold Wq at st ⊢
  exact wq_for Iv l 0 h0 (fun j x ρ h e q => by rw [Nat.zero_add] at q ⊢; exact st j x ρ h e q) (fun ρ h q => en ρ h (by rw [Nat.zero_add] at q; exact q))
/-- a comprehension's turns: an invariant by the turn -/
theorem turns_i {f : D → M (Option D)} {ok : Hs → Bool} {p : Kt (List D)} {xk : Kx} {l : List D} {h : Hs} (Iv : Nat → List D → Hs → Prop) (h0 : Iv 0 [] h)
    (st : ∀ j x acc h, l[j]? = some x → Iv j acc h → @Wr _ (f x h) ⟨fun d h' => ok h' = true ∧ Iv (j + 1) (match d with
      | some d => acc ++ [d]
      | none => acc) h'⟩ xk) (en : ∀ acc h, Iv l.length acc h → p.k acc h) : @Wr _ (turns f ok l [] h) p xk := by
  unfold Wr at st ⊢
  exact wr_turns Iv l 0 h0 (fun j x acc h e q => by rw [Nat.zero_add] at q ⊢; exact st j x acc h e q) (fun acc h q => en acc h (by rw [Nat.zero_add] at q; exact q))
end PV
set_option Elab.async false
set_option autoImplicit false
set_option maxRecDepth 100000
namespace PV
section
variable {h : Hs} {i j : Int} {b k n m : Nat} {x y z u v : D} {l r : List D} {c d : D} {α : Type} {p q s t a : α} {xs ys : List α}
theorem vw_setL (hk : k < h.length) : vw (h.set k (.lst l)) (.ref k) = .lst l := vw_ref (by simp [hk]) (by simp)
theorem vw_setD {l : List (D × D)} (hk : k < h.length) : vw (h.set k (.dct l)) (.ref k) = .dct l := vw_ref (by simp [hk]) (by simp)
theorem gD_set (hk : k < h.length) : (h.set k c).getD k .non = c := by simp [hk]
theorem atI_0 : atI (p :: xs) 0 = some p := atI_nat (n := 0)
theorem atI_1 : atI (p :: q :: xs) 1 = some q := atI_nat (n := 1)
theorem atI_2 : atI (p :: q :: s :: xs) 2 = some s := atI_nat (n := 2)
theorem atI_3 : atI (p :: q :: s :: t :: xs) 3 = some t := atI_nat (n := 3)
theorem atI_4 : atI (p :: q :: s :: t :: a :: xs) 4 = some a := atI_nat (n := 4)
theorem int_b {a : Bool} : blt b h .int [.bl a] = some (.int (if a then 1 else 0)) := id rfl
theorem int_i : blt b h .int [.int i] = some (.int i) := id rfl
theorem atI_f : atI (p :: q :: xs) (if false = true then 1 else 0) = some p := atI_nat (n := 0)
theorem atI_t : atI (p :: q :: xs) (if true = true then 1 else 0) = some q := atI_nat (n := 1)
theorem ixN_nat : ixN m (n : Int) = if n < m then some n else none := by
  unfold ixN
  by_cases e : n < m
  · simp [e]
  · simp [e]
theorem set_0 : setAt (.lst (x :: l)) (.int 0) c = some (.lst (c :: l)) := by rw [set_l, show (0 : Int) = ((0 : Nat) : Int) from rfl, ixN_nat]; simp
theorem set_1 : setAt (.lst (x :: y :: l)) (.int 1) c = some (.lst (x :: c :: l)) := by rw [set_l, show (1 : Int) = ((1 : Nat) : Int) from rfl, ixN_nat]; simp
theorem set_2 : setAt (.lst (x :: y :: z :: l)) (.int 2) c = some (.lst (x :: y :: c :: l)) := by rw [set_l, show (2 : Int) = ((2 : Nat) : Int) from rfl, ixN_nat]; simp
theorem set_3 : setAt (.lst (x :: y :: z :: u :: l)) (.int 3) c = some (.lst (x :: y :: z :: c :: l)) := by rw [set_l, show (3 : Int) = ((3 : Nat) : Int) from rfl, ixN_nat]; simp
theorem ty_non {T : Ty} : tyOf T .non = some false := by cases T <;> rfl
theorem ty_bl {T : Ty} {e : Bool} : tyOf T (.bl e) = some (match T with | .int => true | .bool => true | _ => false) := by cases T <;> rfl
theorem ty_int {T : Ty} : tyOf T (.int i) = some (match T with | .int => true | _ => false) := by cases T <;> rfl
theorem ty_str {T : Ty} {e : Cs} : tyOf T (.str e) = some (match T with | .str => true | _ => false) := by cases T <;> rfl
theorem ty_tup {T : Ty} : tyOf T (.tup l) = some (match T with | .tuple => true | _ => false) := by cases T <;> rfl
theorem ty_lst {T : Ty} : tyOf T (.lst l) = some (match T with | .list => true | _ => false) := by cases T <;> rfl
theorem ty_dct {T : Ty} {e : List (D × D)} : tyOf T (.dct e) = some (match T with | .dict => true | _ => false) := by cases T <;> rfl
theorem ncast {n : Nat} : ((OfNat.ofNat n : Nat) : Int) = (OfNat.ofNat n : Int) := id rfl
theorem nb {a : Bool} : (a == true) = a := by cases a <;> rfl
end
theorem eq_bb {b : Nat} {a c : Bool} : cop b .eq (.bl a) (.bl c) = some (.bl (a == c)) := by simp [eq_d, D.flat, D.dep, D.eqv]
theorem ne_bb {b : Nat} {a c : Bool} : cop b .ne (.bl a) (.bl c) = some (.bl (!(a == c))) := by simp [ne_d, D.flat, D.dep, D.eqv]
theorem is_bb {b : Nat} {a c : Bool} : cop b .is (.bl a) (.bl c) = some (.bl (a == c)) := id rfl
theorem isnot_bb {b : Nat} {a c : Bool} : cop b .isnot (.bl a) (.bl c) = some (.bl (a != c)) := id rfl
theorem is_xn {b : Nat} {x : D} : cop b .is x .non = some (.bl (decide (x = .non))) := by cases x <;> rfl
theorem isnot_xn {b : Nat} {x : D} : cop b .isnot x .non = some (.bl (decide (x ≠ .non))) := by cases x <;> rfl
theorem okLen_eq {α : Type} {l : List α} : okLen l = decide (l.length ≤ 16777216) := id rfl
theorem trim_set {h : Hs} {i : Nat} {c d : D} {ds : List D} : trim (h.set i c) (h.set i d) ds = h.set i d := trim_same (by simp)
theorem trim_id {h : Hs} {ds : List D} : trim h h ds = h := trim_same rfl
theorem eqv_nil {l : List D} : D.eqv (.lst l) (.lst []) = l.isEmpty := by cases l <;> simp [D.eqv, D.eqvL]
theorem ints_at {sc : List Int} {i : Int} (h0 : 0 ≤ i) (h1 : i < sc.length) : ∃ x, atI (sc.map D.int) i = some (.int x) := by
  rw [atI_pos h0]
  have h : i.toNat < sc.length := by omega
  exact ⟨sc[i.toNat], by simp [h]⟩
theorem small_of {i : Int} (h0 : -(2 ^ 64) < i) (h1 : i < 2 ^ 64) : small i = true := by simp [small]; omega
theorem mid_of {i : Int} (h : i.natAbs < 2 ^ 4000) : mid i = true := decide_eq_true h
@[irreducible] def lim : Nat := 2 ^ 1000
theorem lim_big : 1000000000000 < lim := by unfold lim; decide
theorem mid_nat {i : Int} {k : Nat} (h0 : 0 ≤ i) (h1 : i ≤ k) (h : k < lim) : mid i = true := mid_of (by
  unfold lim at h
  have : i.natAbs ≤ k := by omega
  exact Nat.lt_of_le_of_lt this (Nat.lt_trans h (Nat.pow_lt_pow_right (by decide) (by decide))))
theorem len_int {l : List D} : ((l.length : Nat) : Int) = l.length := id rfl
theorem eq_r {x y : D} {n : Nat} (hx : x.flat = true) (hy : y.flat = true) (hd : Nat.ble y.dep 300 = true) : cop (8 * n + 300) .eq x y = some (.bl (D.eqv x y)) := by
  have := Nat.le_of_ble_eq_true hd
  rw [eq_d, hx, hy, if_pos]
  simp; omega
theorem ne_r {x y : D} {n : Nat} (hx : x.flat = true) (hy : y.flat = true) (hd : Nat.ble y.dep 300 = true) : cop (8 * n + 300) .ne x y = some (.bl (!D.eqv x y)) := by
  have := Nat.le_of_ble_eq_true hd
  rw [ne_d, hx, hy, if_pos]
  simp; omega
theorem in_r {x : D} {l : List D} {n : Nat} (hx : x.flat = true) (hy : D.flatL l = true) (hd : Nat.ble (D.depL l) 300 = true) : cop (8 * n + 300) .inn x (.tup l) = some (.bl (l.any fun y => D.eqv y x)) := by
  have := Nat.le_of_ble_eq_true hd
  cases x <;> simp only [cop] <;> rw [hx, hy, if_pos] <;> simp <;> omega
theorem nin_r {x : D} {l : List D} {n : Nat} (hx : x.flat = true) (hy : D.flatL l = true) (hd : Nat.ble (D.depL l) 300 = true) : cop (8 * n + 300) .nin x (.tup l) = some (.bl (!l.any fun y => D.eqv y x)) := by
  have := Nat.le_of_ble_eq_true hd
  cases x <;> simp only [cop] <;> rw [hx, hy, if_pos] <;> simp <;> omega
theorem in_l {x : D} {l : List D} {n : Nat} (hx : x.flat = true) (hy : D.flatL l = true) (hd : Nat.ble x.dep 300 = true) : cop (8 * n + 300) .inn x (.tup l) = some (.bl (l.any fun y => D.eqv y x)) := by
  have := Nat.le_of_ble_eq_true hd
  cases x <;> simp only [cop] <;> rw [hx, hy, if_pos] <;> simp <;> omega
theorem nin_l {x : D} {l : List D} {n : Nat} (hx : x.flat = true) (hy : D.flatL l = true) (hd : Nat.ble x.dep 300 = true) : cop (8 * n + 300) .nin x (.tup l) = some (.bl (!l.any fun y => D.eqv y x)) := by
  have := Nat.le_of_ble_eq_true hd
  cases x <;> simp only [cop] <;> rw [hx, hy, if_pos] <;> simp <;> omega
section
variable {α : Type} {x y : α} {l : List α} {n : Nat}
theorem cut_lo : cut l (some (n : Int)) none = l.drop n := by
  unfold cut sIx
  have : ¬ (n : Int) < 0 := by omega
  simp only [this, if_false, Int.toNat_natCast]
  by_cases h : n ≤ l.length
  · rw [Nat.min_eq_left h, List.take_of_length_le]; simp
  · rw [Nat.min_eq_right (by omega), List.drop_of_length_le (Nat.le_refl _), List.drop_of_length_le (by omega)]; simp
theorem cut_hi : cut l none (some (n : Int)) = l.take n := by
  unfold cut sIx
  have : ¬ (n : Int) < 0 := by omega
  simp only [this, if_false, Int.toNat_natCast, List.drop_zero, Nat.sub_zero]
  by_cases h : n ≤ l.length
  · rw [Nat.min_eq_left h]
  · rw [Nat.min_eq_right (by omega), List.take_of_length_le (Nat.le_refl _), List.take_of_length_le (by omega)]
theorem cut_lo1 : cut (x :: l) (some 1) none = l := cut_lo (n := 1)
theorem cut_lo2 : cut (x :: y :: l) (some 2) none = l := cut_lo (n := 2)
theorem cut_lo3 {z : α} : cut (x :: y :: z :: l) (some 3) none = l := cut_lo (n := 3)
theorem cut_hi1 : cut (x :: l) none (some 1) = [x] := cut_hi (n := 1)
theorem cut_hi2 : cut (x :: y :: l) none (some 2) = [x, y] := cut_hi (n := 2)
theorem cut_hi3 {z : α} : cut (x :: y :: z :: l) none (some 3) = [x, y, z] := cut_hi (n := 3)
theorem cut_m1 : cut l none (some (-1)) = l.dropLast := by
  unfold cut sIx
  simp only [show (-1 : Int) < 0 by decide, if_true, List.drop_zero, Nat.sub_zero, List.dropLast_eq_take]
  congr 1
  omega
end
theorem flat_lints {sc : List Int} : (D.lst (sc.map .int)).flat = true := flat_ints sc
theorem bnd_st {h : Hs} {is : List Nat} {j : Nat} {l : List D} {ρ : Env} : Pat.bnd h (.st is j) (.tup l) ρ = if is.length ≤ l.length then setsN ρ (is ++ [j]) (l.take is.length ++ [.lst (l.drop is.length)]) else none := by simp only [Pat.bnd]
theorem bnd_tp {h : Hs} {ps : List Pat} {l : List D} {ρ : Env} : Pat.bnd h (.tp ps) (.tup l) ρ = Pat.bndL h ps l ρ := by simp only [Pat.bnd]
theorem bnd_stL {h : Hs} {is : List Nat} {j : Nat} {l : List D} {ρ : Env} : Pat.bnd h (.st is j) (.lst l) ρ = if is.length ≤ l.length then setsN ρ (is ++ [j]) (l.take is.length ++ [.lst (l.drop is.length)]) else none := by simp only [Pat.bnd]
theorem bnd_tpL {h : Hs} {ps : List Pat} {l : List D} {ρ : Env} : Pat.bnd h (.tp ps) (.lst l) ρ = Pat.bndL h ps l ρ := by simp only [Pat.bnd]
theorem bndL_n {h : Hs} {ρ : Env} : Pat.bndL h [] [] ρ = some ρ := by simp only [Pat.bndL]
theorem bndL_c {h : Hs} {p : Pat} {ps : List Pat} {x : D} {l : List D} {ρ : Env} : Pat.bndL h (p :: ps) (x :: l) ρ = (p.bnd h x ρ).bind fun ρ => Pat.bndL h ps l ρ := by
  simp only [Pat.bndL]
  cases p.bnd h x ρ <;> rfl
theorem setsN_n {ρ : Env} : setsN ρ [] [] = some ρ := id rfl
theorem setsN_c {ρ : Env} {i : Nat} {is : List Nat} {x : D} {l : List D} : setsN ρ (i :: is) (x :: l) = setsN (ρ.set i (some x)) is l := id rfl
theorem all_l {b : Nat} {h : Hs} {l : List D} : blt b h .all [.lst l] = (allBl l).map fun l => .bl (l.all id) := id rfl
theorem any_l {b : Nat} {h : Hs} {l : List D} : blt b h .any [.lst l] = (allBl l).map fun l => .bl (l.any id) := id rfl
theorem allBl_n : allBl [] = some [] := id rfl
theorem allBl_c {b : Bool} {l : List D} : allBl (.bl b :: l) = (allBl l).map (b :: ·) := id rfl
theorem trim_new {h : Hs} {c : D} (hc : c.within (h.length + 1) = true) : trim h (h ++ [c]) [.ref h.length] = h ++ [c] := by
  unfold trim
  have f1 : fits h.length h (h ++ [c]) [.ref h.length] = false := by simp [fits, D.withinL, D.within]
  have f2 : fits (h.length + 1) h (h ++ [c]) [.ref h.length] = true := by
    simp only [fits, D.withinL, D.within, Bool.and_true, Bool.and_eq_true, decide_eq_true_eq, List.all_eq_true, List.mem_range, Bool.or_eq_true]
    refine ⟨by omega, fun i hi => ?_⟩
    by_cases q : i < h.length
    · exact .inl (by rw [List.getElem?_append_left q])
    · have : i = h.length := by omega
      subst this
      exact .inr (by simpa using hc)
  rw [f1, f2]
  simp only [Bool.false_eq_true, if_false, if_true]
  exact List.take_of_length_le (by simp)
theorem max_ii {b : Nat} {h : Hs} {i j : Int} : blt b h .max2 [.int i, .int j] = some (.int (if j > i then j else i)) := id rfl
theorem min_ii {b : Nat} {h : Hs} {i j : Int} : blt b h .min2 [.int i, .int j] = some (.int (if j < i then j else i)) := id rfl
/-- the cell i is as c says; the law's own heap around it -/
def Gen (h : Hs) (i : Nat) (Dc : D → Prop) (P : D → Prop) : D → Hs → Prop := fun v h' => ∃ c, h' = h.set i c ∧ Dc c ∧ P v
end PV
set_option Elab.async false
set_option autoImplicit false
set_option maxRecDepth 100000
namespace PV
open PySem
def B64 : Nat := 1000000000000000000000000000000000000000000000000000000000000000000000000000000
mutual
/-- plain data, whole numbers of less than seventy-nine figures -/
def D.okd : D → Bool
  | .non | .bl _ => true
  | .int i => decide (i.natAbs < B64)
  | .str x => x.all (· < 1114112)
  | .tup l | .lst l => D.okdL l
  | _ => false
def D.okdL : List D → Bool
  | [] => true
  | x :: r => x.okd && D.okdL r
end
mutual
/-- at least how many signs its text has -/
def D.sz : D → Nat
  | .int _ => 80
  | .str x => 10 * x.length + 2
  | .tup l | .lst l => D.szL l + 4
  | _ => 5
def D.szL : List D → Nat
  | [] => 0
  | x :: r => x.sz + 2 + D.szL r
end
mutual
theorem D.flat_of_okd : ∀ d : D, d.okd = true → d.flat = true
  | .non, _ | .bl _, _ | .int _, _ => rfl
  | .str x, h => h
  | .tup l, h => D.flatL_of_okd l h
  | .lst l, h => D.flatL_of_okd l h
theorem D.flatL_of_okd : ∀ d : List D, D.okdL d = true → D.flatL d = true
  | [], _ => rfl
  | x :: r, h => by
    simp only [D.okdL, Bool.and_eq_true] at h
    simp only [D.flatL, D.flat_of_okd x h.1, D.flatL_of_okd r h.2, Bool.and_self]
end
theorem dig_len {i : Int} (h : i.natAbs < B64) : (PyData.shown (.int i)).length ≤ 80 := by
  have e := int_text_length_le10 (k := 78) (by decide) (show i.natAbs < 10 ^ 78 from h)
  show (Str.ofString (toString i)).length ≤ 80
  rw [ofString_length]
  omega
theorem log_lt {i : Int} (h : i.natAbs < B64) : decide (i.natAbs.log2 < 1920) = true := by
  apply decide_eq_true
  by_cases z : i.natAbs = 0
  · rw [z]; decide
  · exact (Nat.log2_lt z).2 (Nat.lt_of_lt_of_le h (by decide))
mutual
theorem D.show_of_okd : ∀ d : D, d.okd = true → d.py.showable = true
  | .non, _ | .bl _, _ | .str _, _ => rfl
  | .int i, h => log_lt (of_decide_eq_true h)
  | .tup l, h => D.showL_of_okd l h
  | .lst l, h => D.showL_of_okd l h
theorem D.showL_of_okd : ∀ d : List D, D.okdL d = true → PyData.showableAll (D.pyL d) = true
  | [], _ => rfl
  | x :: r, h => by
    simp only [D.okdL, Bool.and_eq_true] at h
    simp only [D.pyL, PyData.showableAll, D.show_of_okd x h.1, D.showL_of_okd r h.2, Bool.and_self]
end
theorem shownAll_len : ∀ l : List PyData, (PyData.shownAll l).length = l.length
  | [] => rfl
  | x :: r => by simp only [PyData.shownAll, List.length_cons, shownAll_len r]
theorem pyL_len : ∀ l : List D, (D.pyL l).length = l.length
  | [] => rfl
  | x :: r => by simp only [D.pyL, List.length_cons, pyL_len r]
mutual
theorem D.shown_le : ∀ d : D, d.okd = true → d.py.shown.length ≤ d.sz
  | .non, _ => by decide
  | .bl b, _ => by cases b <;> decide
  | .int i, h => dig_len (of_decide_eq_true h)
  | .str x, h => by
    have := StrLaws.reprText_len ⟨x.toArray⟩ (fun c hc => by
      have h : x.all (· < 1114112) = true := h
      have := List.all_eq_true.mp h c (by simpa using hc)
      have := of_decide_eq_true this
      omega)
    simp only [D.py, PyData.shown, D.sz]
    exact this
  | .tup l, h => by
    have h1 := D.shownL_le l h
    have h2 := tupleText_len_le (PyData.shownAll (D.pyL l))
    rw [shownAll_len, pyL_len] at h2
    simp only [D.py, PyData.shown, D.sz]
    omega
  | .lst l, h => by
    have h1 := D.shownL_le l h
    have h2 := listText_len_le (PyData.shownAll (D.pyL l))
    rw [shownAll_len, pyL_len] at h2
    simp only [D.py, PyData.shown, D.sz]
    omega
theorem D.shownL_le : ∀ d : List D, D.okdL d = true → ((PyData.shownAll (D.pyL d)).map (·.length)).sum + 2 * d.length ≤ D.szL d
  | [], _ => by decide
  | x :: r, h => by
    simp only [D.okdL, Bool.and_eq_true] at h
    have h1 := D.shown_le x h.1
    have h2 := D.shownL_le r h.2
    simp only [D.pyL, PyData.shownAll, List.map_cons, List.sum_cons, List.length_cons, D.szL]
    omega
end
/-- plain data, so great at most, so far within one another at most -/
def Fl (m k : Nat) (d : D) : Prop := d.okd = true ∧ d.sz ≤ m ∧ d.dep ≤ k
def FlL (m k : Nat) (l : List D) : Prop := D.okdL l = true ∧ D.szL l ≤ m ∧ D.depL l ≤ k
section
variable {m k m' k' n : Nat} {d x : D} {l r : List D}
theorem Fl.okd (f : Fl m k d) : d.okd = true := f.1
theorem Fl.flat (f : Fl m k d) : d.flat = true := D.flat_of_okd d f.1
theorem Fl.dep (f : Fl m k d) : d.dep ≤ k := f.2.2
theorem FlL.flat (f : FlL m k l) : D.flatL l = true := D.flatL_of_okd l f.1
theorem Fl.mono (f : Fl m k d) (h1 : m ≤ m') (h2 : k ≤ k') : Fl m' k' d := ⟨f.1, Nat.le_trans f.2.1 h1, Nat.le_trans f.2.2 h2⟩
theorem FlL.mono (f : FlL m k l) (h1 : m ≤ m') (h2 : k ≤ k') : FlL m' k' l := ⟨f.1, Nat.le_trans f.2.1 h1, Nat.le_trans f.2.2 h2⟩
theorem FlL.nil : FlL 0 0 [] := ⟨rfl, Nat.le_refl _, Nat.le_refl _⟩
theorem FlL.cons (f : Fl m k x) (g : FlL m' k l) : FlL (m + 2 + m') k (x :: l) := by
  refine ⟨?_, ?_, ?_⟩
  · simp only [D.okdL, f.1, g.1, Bool.and_self]
  · simp only [D.szL]; have := f.2.1; have := g.2.1; omega
  · simp only [D.depL]; have := f.2.2; have := g.2.2; omega
theorem Fl.tup (g : FlL m k l) : Fl (m + 4) (k + 1) (.tup l) := ⟨g.1, by simp only [D.sz]; have := g.2.1; omega, by simp only [D.dep]; have := g.2.2; omega⟩
theorem Fl.lst (g : FlL m k l) : Fl (m + 4) (k + 1) (.lst l) := ⟨g.1, by simp only [D.sz]; have := g.2.1; omega, by simp only [D.dep]; have := g.2.2; omega⟩
theorem Fl.untup (g : Fl m (k + 1) (.tup l)) : FlL (m - 4) k l := ⟨g.1, by have := g.2.1; simp only [D.sz] at this; omega, by have := g.2.2; simp only [D.dep] at this; omega⟩
theorem Fl.unlst (g : Fl m (k + 1) (.lst l)) : FlL (m - 4) k l := ⟨g.1, by have := g.2.1; simp only [D.sz] at this; omega, by have := g.2.2; simp only [D.dep] at this; omega⟩
theorem okdL_app : D.okdL (l ++ r) = (D.okdL l && D.okdL r) := by
  induction l with
  | nil => simp [D.okdL]
  | cons x l ih => simp only [List.cons_append, D.okdL, ih, Bool.and_assoc]
theorem szL_app : D.szL (l ++ r) = D.szL l + D.szL r := by
  induction l with
  | nil => simp [D.szL]
  | cons x l ih => simp only [List.cons_append, D.szL, ih]; omega
theorem depL_app : D.depL (l ++ r) = max (D.depL l) (D.depL r) := by
  induction l with
  | nil => simp [D.depL]
  | cons x l ih => simp only [List.cons_append, D.depL, ih]; omega
theorem FlL.app (f : FlL m k l) (g : FlL m' k r) : FlL (m + m') k (l ++ r) := by
  refine ⟨?_, ?_, ?_⟩
  · rw [okdL_app, f.1, g.1]; rfl
  · rw [szL_app]; have := f.2.1; have := g.2.1; omega
  · rw [depL_app]; have := f.2.2; have := g.2.2; omega
theorem FlL.split (f : FlL m k (l ++ r)) : FlL m k l ∧ FlL m k r := by
  obtain ⟨h1, h2, h3⟩ := f
  rw [okdL_app, Bool.and_eq_true] at h1
  rw [szL_app] at h2
  rw [depL_app] at h3
  exact ⟨⟨h1.1, by omega, by omega⟩, ⟨h1.2, by omega, by omega⟩⟩
theorem FlL.head (f : FlL m k (x :: l)) : Fl m k x := by
  obtain ⟨h1, h2, h3⟩ := f
  simp only [D.okdL, Bool.and_eq_true] at h1
  simp only [D.szL] at h2
  simp only [D.depL] at h3
  exact ⟨h1.1, by omega, by omega⟩
theorem FlL.tail (f : FlL m k (x :: l)) : FlL m k l := by
  obtain ⟨h1, h2, h3⟩ := f
  simp only [D.okdL, Bool.and_eq_true] at h1
  simp only [D.szL] at h2
  simp only [D.depL] at h3
  exact ⟨h1.2, by omega, by omega⟩
theorem FlL.drop (f : FlL m k l) (n : Nat) : FlL m k (l.drop n) := by
  rw [← List.take_append_drop n l] at f
  exact f.split.2
theorem FlL.take (f : FlL m k l) (n : Nat) : FlL m k (l.take n) := by
  rw [← List.take_append_drop n l] at f
  exact f.split.1
theorem FlL.cut (f : FlL m k l) (a b : Option Int) : FlL m k (cut l a b) := (f.drop _).take _
theorem FlL.mem (f : FlL m k l) (h : x ∈ l) : Fl m k x := by
  obtain ⟨a, b, rfl⟩ := List.append_of_mem h
  exact f.split.2.head
theorem FlL.all (f : FlL m k l) : ∀ x ∈ l, Fl m k x := fun x h => f.mem h
theorem len_sz : l.length ≤ D.szL l := by
  induction l with
  | nil => simp
  | cons x l ih => simp only [List.length_cons, D.szL]; omega
theorem FlL.len (f : FlL m k l) : l.length ≤ m := Nat.le_trans len_sz f.2.1
theorem okLen_of {α : Type} {l : List α} (h : l.length ≤ 16777216) : okLen l = true := decide_eq_true h
/-- repr of it -/
theorem Fl.repr (f : Fl m k d) (hm : m ≤ 16000000) (hk : k ≤ 8 * n + 300) {h : Hs} : blt (8 * n + 300) h .repr [d] = some (.str (shown d)) := by
  have e : vw h d = d := vw_flat f.flat
  have hl : (shown d).length ≤ d.sz := by
    show d.py.shown.cps.toList.length ≤ _
    rw [Array.length_toList]
    exact D.shown_le d f.1
  have := f.2.1
  have : (reprOk (vw h d) && decide ((vw h d).dep ≤ 8 * n + 300)) = true := by
    rw [e]
    simp only [reprOk, f.flat, D.show_of_okd d f.1, Bool.true_or, Bool.true_and, Bool.and_eq_true, decide_eq_true_eq]
    exact ⟨okLen_of (by omega), Nat.le_trans f.dep hk⟩
  rw [e] at this
  simp only [blt]
  rw [e, if_pos this]
end
mutual
theorem D.eqv_refl : ∀ d : D, d.flat = true → D.eqv d d = true
  | .non, _ => rfl
  | .bl b, _ => by simp [D.eqv]
  | .int i, _ => by simp [D.eqv]
  | .str x, _ => by simp [D.eqv]
  | .tup l, h => D.eqvL_refl l h
  | .lst l, h => D.eqvL_refl l h
theorem D.eqvL_refl : ∀ l : List D, D.flatL l = true → D.eqvL l l = true
  | [], _ => rfl
  | x :: r, h => by
    simp only [D.flatL, Bool.and_eq_true] at h
    simp only [D.eqvL, D.eqv_refl x h.1, D.eqvL_refl r h.2, Bool.and_self]
end
theorem flat_shape {d : D} (f : d.flat = true) : d = .non ∨ (∃ b, d = .bl b) ∨ (∃ i, d = .int i) ∨ (∃ s, d = .str s) ∨ (∃ l, d = .tup l ∧ D.flatL l = true) ∨ ∃ l, d = .lst l ∧ D.flatL l = true := by
  cases d with
  | non => exact .inl rfl
  | bl b => exact .inr (.inl ⟨b, rfl⟩)
  | int b => exact .inr (.inr (.inl ⟨b, rfl⟩))
  | str b => exact .inr (.inr (.inr (.inl ⟨b, rfl⟩)))
  | tup b => exact .inr (.inr (.inr (.inr (.inl ⟨b, rfl, f⟩))))
  | lst b => exact .inr (.inr (.inr (.inr (.inr ⟨b, rfl, f⟩))))
  | _ => cases f
theorem Fl.lit {d : D} {m k m0 k0 : Nat} (h : (d.okd && Nat.ble d.sz m0 && Nat.ble d.dep k0) = true) (h1 : m0 ≤ m) (h2 : k0 ≤ k) : Fl m k d := by
  simp only [Bool.and_eq_true, Nat.ble_eq] at h
  exact ⟨h.1.1, by omega, by omega⟩
theorem eq_of_wr {r : R D} {a : D} {h : Hs} (w : WR r fun v h' => v = a ∧ h' = h) : r = .ok a h := by
  obtain ⟨v, h1, e, rfl, rfl⟩ := wR_ex w
  exact e
end PV
set_option Elab.async false
set_option autoImplicit false
set_option maxRecDepth 100000
namespace PV
open PySem PySem.Builtin PySem.Builtin.Str
def SgL (l : List Nat) : Prop := ∀ c ∈ l, c < 1114112
def Sg (s : Str) : Prop := SgL s.cps.toList
theorem SgL.app {a b : List Nat} (ha : SgL a) (hb : SgL b) : SgL (a ++ b) := fun c h => (List.mem_append.mp h).elim (ha c) (hb c)
theorem Sg.app {a b : Str} (ha : Sg a) (hb : Sg b) : Sg (a ++ b) := by
  have : (a ++ b).cps.toList = a.cps.toList ++ b.cps.toList := Array.toList_append
  unfold Sg
  rw [this]
  exact SgL.app ha hb
theorem sg_chars (l : List Char) : SgL (l.map Char.toNat) := fun c h => by
  obtain ⟨x, _, rfl⟩ := List.mem_map.mp h
  have := x.valid
  rcases this with h | h
  · exact Nat.lt_trans h (by decide)
  · exact h.2
theorem sg_of (s : String) : Sg (Str.ofString s) := by
  unfold Sg
  rw [Str.ofString_eq_toList]
  exact sg_chars _
theorem sg_join {sep : Str} (h : Sg sep) : ∀ l : List Str, (∀ x ∈ l, Sg x) → Sg (Str.join sep l)
  | [], _ => by intro c hc; simp [Str.join, Str.empty] at hc
  | [x], hx => hx x (by simp)
  | x :: y :: r, hx => ((hx x (by simp)).app h).app (sg_join h (y :: r) fun z hz => hx z (by simp [hz]))
theorem sg_textFrom : ∀ (l : List Str) (k : Nat) (acc : Str), Sg acc → (∀ x ∈ l, Sg x) → Sg (textFrom k acc l)
  | [], _, _, ha, _ => ha
  | x :: r, k, acc, ha, hx => sg_textFrom r (k + 1) _ ((ha.app (sg_of _)).app (hx x (by simp))) fun z hz => hx z (by simp [hz])
theorem sg_list {l : List Str} (h : ∀ x ∈ l, Sg x) : Sg (listText l) := (sg_textFrom l 0 _ (sg_of _) h).app (sg_of _)
theorem sg_tuple {l : List Str} (h : ∀ x ∈ l, Sg x) : Sg (tupleText l) := ((sg_of _).app (sg_join (sg_of _) l h)).app (sg_of _)
theorem sg_hex (w c : Nat) : SgL (List.replicate w 48 ++ (Nat.toDigits 16 c).map Char.toNat) := SgL.app (fun d h => by rw [(List.mem_replicate.mp h).2]; decide) (sg_chars _)
theorem sg_lits {l : List Nat} (h : (l.all fun c => Nat.blt c 1114112) = true) : SgL l := fun c hc => by
  have := List.all_eq_true.mp h c hc
  simp [Nat.blt] at this
  omega
theorem sg_reprChar {q c : Nat} (h : c < 1114112) : SgL (reprChar q c) := by
  unfold reprChar
  dsimp only
  have one : SgL [92, c] := fun d hd => by simp at hd; rcases hd with rfl | rfl <;> omega
  have one' : SgL [c] := fun d hd => by simp at hd; omega
  repeat' split
  · exact one
  · exact sg_lits rfl
  · exact sg_lits rfl
  · exact sg_lits rfl
  · exact one'
  · exact SgL.app (sg_lits rfl) (sg_hex _ _)
  · exact SgL.app (sg_lits rfl) (sg_hex _ _)
  · exact SgL.app (sg_lits rfl) (sg_hex _ _)
theorem sg_fold {q : Nat} : ∀ (l : List Nat) (acc : Array Nat), SgL l → SgL acc.toList → SgL (l.foldl (fun out c => out ++ (reprChar q c).toArray) acc).toList
  | [], _, _, h => h
  | c :: r, acc, h, ha => sg_fold r _ (fun d hd => h d (List.mem_cons_of_mem _ hd)) (by
      rw [Array.toList_append]
      exact SgL.app ha (sg_reprChar (h c List.mem_cons_self)))
theorem sg_repr {x : Str} (h : Sg x) : Sg (reprText x) := by
  have q : reprQuote x < 1114112 := by unfold reprQuote; split <;> decide
  unfold reprText Sg
  rw [Array.toList_push, ← Array.foldl_toList]
  refine SgL.app (sg_fold _ _ h ?_) ?_ <;> (intro d hd; simp at hd; omega)
mutual
theorem D.sg_shown : ∀ d : D, d.okd = true → Sg d.py.shown
  | .non, _ => sg_of _
  | .bl b, _ => by cases b <;> exact sg_of _
  | .int i, _ => sg_of _
  | .str x, h => sg_repr fun c hc => by
      have h : x.all (· < 1114112) = true := h
      exact of_decide_eq_true (List.all_eq_true.mp h c (by simpa using hc))
  | .tup l, h => sg_tuple (D.sg_shownL l h)
  | .lst l, h => sg_list (D.sg_shownL l h)
theorem D.sg_shownL : ∀ l : List D, D.okdL l = true → ∀ s ∈ PyData.shownAll (D.pyL l), Sg s
  | [], _, s, h => by simp [D.pyL, PyData.shownAll] at h
  | x :: r, h, s, hs => by
    simp only [D.okdL, Bool.and_eq_true] at h
    simp only [D.pyL, PyData.shownAll, List.mem_cons] at hs
    rcases hs with rfl | hs
    · exact D.sg_shown x h.1
    · exact D.sg_shownL r h.2 s hs
end
theorem Fl.shown_flat {m k : Nat} {d : D} (f : Fl m k d) : (D.str (shown d)).flat = true := by
  simp only [D.flat, List.all_eq_true, decide_eq_true_eq]
  exact D.sg_shown d f.1
theorem ne_shown {m k n : Nat} {d : D} (f : Fl m k d) : cop (8 * n + 300) .ne (.str (shown d)) (.str (shown d)) = some (.bl false) := by
  rw [ne_r f.shown_flat f.shown_flat (by rfl)]
  simp [D.eqv]
/-! what is gone through -/
section
variable {h h' : Hs} {i j : Int} {l : List D} {ds : List D}
theorem th_range : through h .range [.int i] = if rngOk i then some (rangeD 0 i.toNat) else none := id rfl
theorem th_range2 : through h .range2 [.int i, .int j] = if rngOk i && rngOk j then some (rangeD i (j - i).toNat) else none := id rfl
theorem th_tup : through h .plain [.tup l] = some l := id rfl
theorem th_lst : through h .plain [.lst l] = some l := id rfl
theorem rng_ok (h1 : -1000000 < i) (h2 : i < 1000000) : rngOk i = true := by simp [rngOk]; omega
theorem fine_tup : fine .plain [.tup l] ds = true := id rfl
theorem fine_lst : fine .plain [.lst l] ds = true := id rfl
theorem fine_rng (z : ds.length ≤ 16777216) : fine .range [.int i] ds = true := decide_eq_true z
theorem rgD_len {n : Nat} : (rangeD i n).length = n := by simp [rangeD]
theorem rangeD_at {n k : Nat} {x : D} (z : (rangeD i n)[k]? = some x) : x = .int (i + k) ∧ k < n := by
  simp only [rangeD, List.getElem?_map, Option.map_eq_some_iff] at z
  obtain ⟨a, z, rfl⟩ := z
  obtain ⟨e, z⟩ := List.getElem?_eq_some_iff.mp z
  simp at e z
  subst z
  exact ⟨rfl, e⟩
theorem stay_nil : stay h h' [] = true := id rfl
theorem stay_int : stay h h' (.int i :: l) = stay h h' l := id rfl
theorem stay_lst : stay h h' (.lst ds :: l) = stay h h' l := id rfl
theorem stay_tup : stay h h' (.tup ds :: l) = stay h h' l := id rfl
end
end PV
set_option Elab.async false
set_option autoImplicit false
set_option maxRecDepth 100000
namespace PV
inductive U1 where | next | all | some
  deriving DecidableEq
inductive B2 where | plus | times | same | and | or | if_
  deriving DecidableEq
inductive Th where
  | num (i : Int) | name (s : Cs) | bound (i : Int) | no
  | un (u : U1) (a : Th) | bi (b : B2) (a c : Th)
  deriving DecidableEq
def U1.w : U1 → Cs
  | .next => [110, 101, 120, 116]
  | .all => [97, 108, 108]
  | .some => [115, 111, 109, 101]
def B2.w : B2 → Cs
  | .plus => [112, 108, 117, 115]
  | .times => [116, 105, 109, 101, 115]
  | .same => [115, 97, 109, 101]
  | .and => [97, 110, 100]
  | .or => [111, 114]
  | .if_ => [105, 102]
def Th.d : Th → D
  | .num i => .tup [.str [110, 117, 109], .int i]
  | .name s => .tup [.str [110, 97, 109, 101], .str s]
  | .bound i => .tup [.str [98, 111, 117, 110, 100], .int i]
  | .no => .tup [.str [110, 111]]
  | .un u a => .tup [.str u.w, a.d]
  | .bi b a c => .tup [.str b.w, a.d, c.d]
/-- how many pieces -/
def Th.pcs : Th → Nat
  | .un _ a => a.pcs + 1
  | .bi _ a c => a.pcs + c.pcs + 1
  | _ => 1
/-- how far within one another -/
def Th.dp : Th → Nat
  | .un _ a => a.dp + 1
  | .bi _ a c => max a.dp c.dp + 1
  | _ => 1
def word (s : Cs) : Bool := decide (1 ≤ s.length) && decide (s.length ≤ 8) && s.all fun c => decide (97 ≤ c) && decide (c ≤ 122)
/-- numbers and names as they have to be; bounds below so many -/
def tmB : Int → Th → Bool
  | _, .num i => decide (0 ≤ i) && decide (i < 10 ^ 60)
  | _, .name s => word s
  | a, .bound i => decide (0 ≤ i) && decide (i < a)
  | a, .un .next t => tmB a t
  | a, .bi .plus t u => tmB a t && tmB a u
  | a, .bi .times t u => tmB a t && tmB a u
  | _, _ => false
def syB : Int → Th → Bool
  | _, .no => true
  | a, .bi .same t u => tmB a t && tmB a u
  | a, .bi .and t u => syB a t && syB a u
  | a, .bi .or t u => syB a t && syB a u
  | a, .bi .if_ t u => syB a t && syB a u
  | a, .un .all t => syB (a + 1) t
  | a, .un .some t => syB (a + 1) t
  | _, _ => false
/-- all numbers and names in it as they have to be, bounds from 0 on -/
def Th.ok : Th → Bool
  | .num i => decide (0 ≤ i) && decide (i < 10 ^ 60)
  | .name s => word s
  | .bound i => decide (0 ≤ i) && decide (i < 1000000)
  | .no => true
  | .un _ t => t.ok
  | .bi _ t u => t.ok && u.ok
def Th.names : Th → List Cs
  | .name s => [s]
  | .un _ t => t.names
  | .bi _ t u => t.names ++ u.names
  | _ => []
section
variable {t u : Th} {a b : Int}
theorem tmB_ok : ∀ {t : Th} {a : Int}, a < 1000000 → tmB a t = true → t.ok = true
  | .num i, a, h, e => e
  | .name i, a, h, e => e
  | .bound i, a, h, e => by simp only [tmB, Th.ok, Bool.and_eq_true, decide_eq_true_eq] at e ⊢; omega
  | .no, a, h, e => by simp [tmB] at e
  | .un u t, a, h, e => by
    cases u <;> simp only [tmB] at e
    · exact tmB_ok (t := t) h e
    all_goals cases e
  | .bi u s t, a, h, e => by
    cases u <;> simp only [tmB, Bool.and_eq_true] at e
    · simp only [Th.ok, tmB_ok h e.1, tmB_ok h e.2, Bool.and_self]
    · simp only [Th.ok, tmB_ok h e.1, tmB_ok h e.2, Bool.and_self]
    all_goals cases e
theorem syB_ok : ∀ {t : Th} {a : Int}, a + t.dp < 1000000 → syB a t = true → t.ok = true
  | .num i, a, h, e => by simp [syB] at e
  | .name i, a, h, e => by simp [syB] at e
  | .bound i, a, h, e => by simp [syB] at e
  | .no, a, h, e => rfl
  | .un u t, a, h, e => by
    simp only [Th.dp] at h
    cases u <;> simp only [syB] at e
    · cases e
    · exact syB_ok (t := t) (by omega) e
    · exact syB_ok (t := t) (by omega) e
  | .bi u s t, a, h, e => by
    simp only [Th.dp] at h
    cases u <;> simp only [syB, Bool.and_eq_true] at e
    · cases e
    · cases e
    · simp only [Th.ok, tmB_ok (a := a) (by omega) e.1, tmB_ok (a := a) (by omega) e.2, Bool.and_self]
    all_goals simp only [Th.ok, syB_ok (a := a) (by omega) e.1, syB_ok (a := a) (by omega) e.2, Bool.and_self]
theorem B64_big : (10 : Int) ^ 60 < B64 := by decide
theorem okd_int {i : Int} (h0 : 0 ≤ i) (h1 : i < 10 ^ 60) : (D.int i).okd = true := by
  have := B64_big
  exact decide_eq_true (by omega)
theorem word_okd {s : Cs} (h : word s = true) : (D.str s).okd = true := by
  simp only [word, Bool.and_eq_true, List.all_eq_true, decide_eq_true_eq] at h
  simp only [D.okd, List.all_eq_true, decide_eq_true_eq]
  intro c hc
  have := h.2 c hc
  omega
theorem word_len {s : Cs} (h : word s = true) : 1 ≤ s.length ∧ s.length ≤ 8 := by
  simp only [word, Bool.and_eq_true, decide_eq_true_eq] at h
  exact h.1
theorem U1.okd (u : U1) : (D.str u.w).okd = true := by cases u <;> rfl
theorem B2.okd (u : B2) : (D.str u.w).okd = true := by cases u <;> rfl
theorem U1.len (u : U1) : u.w.length ≤ 5 ∧ 2 ≤ u.w.length := by cases u <;> decide
theorem B2.len (u : B2) : u.w.length ≤ 5 ∧ 2 ≤ u.w.length := by cases u <;> decide
theorem Th.pcs_pos : ∀ t : Th, 1 ≤ t.pcs
  | .num _ | .name _ | .bound _ | .no => Nat.le_refl _
  | .un _ a => by simp only [Th.pcs]; omega
  | .bi _ a c => by simp only [Th.pcs]; omega
theorem Th.dp_pos : ∀ t : Th, 1 ≤ t.dp
  | .num _ | .name _ | .bound _ | .no => Nat.le_refl _
  | .un _ a => by simp only [Th.dp]; omega
  | .bi _ a c => by simp only [Th.dp]; omega
theorem Th.fl : ∀ t : Th, t.ok = true → Fl (150 * t.pcs) t.dp t.d
  | .num i, h => by
    simp only [Th.ok, Bool.and_eq_true, decide_eq_true_eq] at h
    refine ⟨?_, by simp [Th.d, D.sz, D.szL, Th.pcs], by simp [Th.d, D.dep, D.depL, Th.dp]⟩
    have := okd_int h.1 h.2
    simp only [Th.d, D.okd, D.okdL] at this ⊢
    simp [this]
  | .name s, h => by
    simp only [Th.ok] at h
    have h1 := word_len h
    have h2 := word_okd h
    refine ⟨?_, by simp only [Th.d, D.sz, D.szL, Th.pcs, List.length_cons, List.length_nil]; omega, by simp [Th.d, D.dep, D.depL, Th.dp]⟩
    simp only [Th.d, D.okd, D.okdL] at h2 ⊢
    simp [h2]
  | .bound i, h => by
    simp only [Th.ok, Bool.and_eq_true, decide_eq_true_eq] at h
    refine ⟨?_, by simp [Th.d, D.sz, D.szL, Th.pcs], by simp [Th.d, D.dep, D.depL, Th.dp]⟩
    have := okd_int h.1 (show i < 10 ^ 60 by omega)
    simp only [Th.d, D.okd, D.okdL] at this ⊢
    simp [this]
  | .no, _ => Fl.lit (m0 := 100) (k0 := 1) rfl (by decide) (by decide)
  | .un u a, h => by
    simp only [Th.ok] at h
    obtain ⟨i1, i2, i3⟩ := Th.fl a h
    have := u.len
    have hu := u.okd
    refine ⟨?_, ?_, ?_⟩
    · simp only [Th.d, D.okd, D.okdL] at hu ⊢; simp [i1, hu]
    · simp only [Th.d, D.sz, D.szL, Th.pcs]; omega
    · simp only [Th.d, D.dep, D.depL, Th.dp]; omega
  | .bi u a c, h => by
    simp only [Th.ok, Bool.and_eq_true] at h
    obtain ⟨i1, i2, i3⟩ := Th.fl a h.1
    obtain ⟨j1, j2, j3⟩ := Th.fl c h.2
    have := u.len
    have hu := u.okd
    refine ⟨?_, ?_, ?_⟩
    · simp only [Th.d, D.okd, D.okdL] at hu ⊢; simp [i1, j1, hu]
    · simp only [Th.d, D.sz, D.szL, Th.pcs]; omega
    · simp only [Th.d, D.dep, D.depL, Th.dp]; omega
theorem Th.flat (h : t.ok = true) : t.d.flat = true := (t.fl h).flat
end
/-! == of them -/
theorem U1.w_inj {u v : U1} (h : u.w = v.w) : u = v := by cases u <;> cases v <;> first | rfl | (simp [U1.w] at h)
theorem B2.w_inj {u v : B2} (h : u.w = v.w) : u = v := by cases u <;> cases v <;> first | rfl | (simp [B2.w] at h)
theorem Th.d_inj : ∀ {t u : Th}, t.d = u.d → t = u := by
  intro t
  induction t with
  | num i => intro u h; cases u with
    | num j => simp only [Th.d, D.tup.injEq, List.cons.injEq, D.int.injEq, and_true, true_and] at h; rw [h]
    | un u _ => cases u <;> simp [Th.d, U1.w] at h
    | _ => simp [Th.d] at h
  | name i => intro u h; cases u with
    | name j => simp only [Th.d, D.tup.injEq, List.cons.injEq, D.str.injEq, and_true, true_and] at h; rw [h]
    | un u _ => cases u <;> simp [Th.d, U1.w] at h
    | _ => simp [Th.d] at h
  | bound i => intro u h; cases u with
    | bound j => simp only [Th.d, D.tup.injEq, List.cons.injEq, D.int.injEq, and_true, true_and] at h; rw [h]
    | un u _ => cases u <;> simp [Th.d, U1.w] at h
    | _ => simp [Th.d] at h
  | no => intro u h; cases u <;> simp [Th.d] at h ⊢
  | un v a ih => intro u h; cases u with
    | un u c =>
      simp only [Th.d, D.tup.injEq, List.cons.injEq, D.str.injEq, and_true] at h
      rw [ih h.2, U1.w_inj h.1]
    | bi b _ _ => simp [Th.d] at h
    | _ => cases v <;> simp [Th.d, U1.w] at h
  | bi v a b ih ih2 => intro u h; cases u with
    | bi u c e =>
      simp only [Th.d, D.tup.injEq, List.cons.injEq, D.str.injEq, and_true] at h
      rw [ih h.2.1, ih2 h.2.2, B2.w_inj h.1]
    | _ => simp [Th.d] at h
mutual
/-- no truth or number may be alike where no truth stands -/
def D.nob : D → Bool
  | .bl _ => false
  | .tup l | .lst l => D.nobL l
  | _ => true
def D.nobL : List D → Bool
  | [] => true
  | x :: r => x.nob && D.nobL r
end
mutual
theorem D.eqv_iff : ∀ {x y : D}, x.flat = true → y.flat = true → x.nob = true → y.nob = true → (D.eqv x y = true ↔ x = y)
  | .non, y, fx, fy, nx, ny => by cases y <;> simp [D.eqv]
  | .bl b, y, fx, fy, nx, ny => by simp [D.nob] at nx
  | .int i, y, fx, fy, nx, ny => by cases y <;> simp [D.eqv, D.nob] at ny ⊢
  | .str i, y, fx, fy, nx, ny => by cases y <;> simp [D.eqv, D.nob] at ny ⊢
  | .tup l, y, fx, fy, nx, ny => by
    cases y with
    | tup k => simp only [D.eqv, D.tup.injEq]; exact D.eqvL_iff fx fy nx ny
    | _ => simp [D.eqv]
  | .lst l, y, fx, fy, nx, ny => by
    cases y with
    | lst k => simp only [D.eqv, D.lst.injEq]; exact D.eqvL_iff fx fy nx ny
    | _ => simp [D.eqv]
  | .dct _, _, fx, _, _, _ => by cases fx
  | .ins _ _, _, fx, _, _, _ => by cases fx
  | .exc _ _, _, fx, _, _, _ => by cases fx
  | .ref _, _, fx, _, _, _ => by cases fx
  | .fn _, _, fx, _, _, _ => by cases fx
  | .clo _ _, _, fx, _, _, _ => by cases fx
theorem D.eqvL_iff : ∀ {x y : List D}, D.flatL x = true → D.flatL y = true → D.nobL x = true → D.nobL y = true → (D.eqvL x y = true ↔ x = y)
  | [], [], _, _, _, _ => by simp [D.eqvL]
  | [], _ :: _, _, _, _, _ => by simp [D.eqvL]
  | _ :: _, [], _, _, _, _ => by simp [D.eqvL]
  | x :: r, y :: s, fx, fy, nx, ny => by
    simp only [D.flatL, D.nobL, Bool.and_eq_true] at fx fy nx ny
    simp only [D.eqvL, Bool.and_eq_true, List.cons.injEq, D.eqv_iff fx.1 fy.1 nx.1 ny.1, D.eqvL_iff fx.2 fy.2 nx.2 ny.2]
end
theorem Th.nob : ∀ t : Th, t.d.nob = true
  | .num _ | .name _ | .bound _ | .no => rfl
  | .un _ a => by simp only [Th.d, D.nob, D.nobL, Th.nob a]; rfl
  | .bi _ a b => by simp only [Th.d, D.nob, D.nobL, Th.nob a, Th.nob b]; rfl
theorem Th.eqv {t u : Th} (ht : t.ok = true) (hu : u.ok = true) : D.eqv t.d u.d = decide (t = u) := by
  by_cases e : t = u
  · subst e; simp [(D.eqv_iff (Th.flat ht) (Th.flat ht) t.nob t.nob).mpr rfl]
  · have : ¬ D.eqv t.d u.d = true := fun h => e (Th.d_inj ((D.eqv_iff (Th.flat ht) (Th.flat hu) t.nob u.nob).mp h))
    simp [e, this]
mutual
/-- how many tuples and lists -/
def D.nt : D → Nat
  | .tup l | .lst l => D.ntL l + 1
  | _ => 0
def D.ntL : List D → Nat
  | [] => 0
  | x :: r => x.nt + D.ntL r
end
theorem Th.nt : ∀ t : Th, t.d.nt = t.pcs
  | .num _ | .name _ | .bound _ | .no => rfl
  | .un _ a => by simp only [Th.d, D.nt, D.ntL, Th.nt a, Th.pcs]; omega
  | .bi _ a b => by simp only [Th.d, D.nt, D.ntL, Th.nt a, Th.nt b, Th.pcs]; omega
end PV
set_option Elab.async false
set_option autoImplicit false
set_option maxRecDepth 100000
namespace PV
theorem whl_i {c : Env → M Bool} {f : Env → Hs → SR} {N B K : Kn} {T : Kt D} {zk : Kz} (Iv : Nat → Env → Hs → Prop)
    (st : ∀ n ρ h, Iv n ρ h → @Wr Bool (c ρ h) ⟨fun b h1 => @Br (b = true) ⟨@Wq (f ρ h1) ⟨fun ρ' h' => ∃ n', n' < n ∧ Iv n' ρ' h'⟩ T N ⟨fun ρ' h' => ∃ n', n' < n ∧ Iv n' ρ' h'⟩ zk⟩ ⟨N.k ρ h1⟩⟩ ⟨fun c l h => zk.k c l ρ h⟩) :
    ∀ (k n : Nat) (ρ : Env) (h : Hs), n < k → Iv n ρ h → @Wq (whlS c f k ρ h) N T B K zk
  | 0, n, ρ, h, hk, iv => absurd hk (Nat.not_lt_zero _)
  | k + 1, n, ρ, h, hk, iv => by
    have s := st n ρ h iv
    have go := fun n' (hn : n' < n) ρ h iv => whl_i (N := N) (B := B) (K := K) (T := T) (zk := zk) Iv st k n' ρ h (by omega) iv
    unfold Wr at s
    unfold whlS
    revert s
    generalize c ρ h = r
    intro s
    cases r with
    | ok b h1 =>
      cases b with
      | false =>
        have := s.2 (by simp)
        unfold Wq; exact this
      | true =>
        have w := s.1 rfl
        simp only [kp_mk] at w
        unfold Wq at w ⊢
        dsimp only
        revert w
        generalize f ρ h1 = q
        intro w
        cases q with
        | nx ρ' h' =>
          obtain ⟨n', hn, iv'⟩ := w
          have := go n' hn ρ' h' iv'
          unfold Wq at this
          exact this
        | ct ρ' h' =>
          obtain ⟨n', hn, iv'⟩ := w
          have := go n' hn ρ' h' iv'
          unfold Wq at this
          exact this
        | bk ρ' h' => exact w
        | rt d h' => exact w
        | ex c l ρ' h' => exact w
        | bad => exact w.elim
    | ex c l h1 =>
      unfold Wq
      exact s
    | bad => exact s.elim
theorem lineN : line = 16777216 := id rfl
theorem dget_n {x : D} : dget [] x = none := id rfl
theorem dget_s {a b : Cs} {v : D} {l : List (D × D)} : dget ((.str a, v) :: l) (.str b) = if (a == b) = true then some v else dget l (.str b) := by
  by_cases e : a = b
  · subst e; simp [dget]
  · simp [dget, e]
theorem kget_s {b : Nat} {h : Hs} {l : List (D × D)} {s : Cs} {d : D} : blt b h .kget [.dct l, .str s, d] = some ((dget l (.str s)).getD d) := id rfl
section
variable {h k : Hs} {c d x : D} {l : List D} {ds : List D} {i : Nat}
theorem vw_appL : vw (h ++ [.lst l]) (.ref h.length) = .lst l := vw_ref (by simp) (by simp)
theorem vw_appD {l : List (D × D)} : vw (h ++ [.dct l]) (.ref h.length) = .dct l := vw_ref (by simp) (by simp)
theorem gD_app : (h ++ [c]).getD h.length .non = c := by simp
theorem set_app : (h ++ [c]).set h.length d = h ++ [d] := by simp
theorem trim_app (w : D.withinL h.length ds = true) : trim h (h ++ k) ds = h := by
  unfold trim
  have : fits h.length h (h ++ k) ds = true := by
    simp only [fits, w, Bool.true_and, List.all_eq_true, List.mem_range, Bool.or_eq_true, decide_eq_true_eq]
    exact fun i hi => .inl (List.getElem?_append_left hi)
  rw [this]; simp
theorem mt_pop {b : D} : mtd .pop (.lst (l ++ [b])) [] k = some (.lst l, b) := by simp [mtd]
theorem mt_ext {m : List D} (e : vw k x = .lst m) : mtd .extend (.lst l) [x] k = if okLen (l ++ m) then some (.lst (l ++ m), .non) else none := by simp only [mtd, e]
theorem mt_extL {m : List D} : mtd .extend (.lst l) [.lst m] k = if okLen (l ++ m) then some (.lst (l ++ m), .non) else none := id rfl
theorem mt_app : mtd .append (.lst l) [x] k = if decide (l.length < line) then some (.lst (l ++ [x]), .non) else none := id rfl
theorem ty_pop : mtTy .pop (.lst l) = true := id rfl
theorem ty_ext : mtTy .extend (.lst l) = true := id rfl
theorem ty_app : mtTy .append (.lst l) = true := id rfl
theorem box_lst : boxed (.lst l) = true := id rfl
theorem box_dct {l : List (D × D)} : boxed (.dct l) = true := id rfl
theorem asF_fn {f : Nat} : asF (.fn f) = some (f, []) := id rfl
end
theorem eqvL_nil : ∀ {l : List D}, D.eqvL l [] = l.isEmpty
  | [] => by simp only [D.eqvL, List.isEmpty_nil]
  | _ :: _ => by simp only [D.eqvL, List.isEmpty_cons]
theorem eqvL_nil2 : ∀ {l : List D}, D.eqvL [] l = l.isEmpty
  | [] => by simp only [D.eqvL, List.isEmpty_nil]
  | _ :: _ => by simp only [D.eqvL, List.isEmpty_cons]
theorem withL_n {n : Nat} : D.withinL n [] = true := id rfl
theorem withL_b {n : Nat} {b : Bool} {l : List D} : D.withinL n (.bl b :: l) = D.withinL n l := by simp only [D.withinL, D.within, Bool.true_and]
theorem isE_app {α : Type} {l r : List α} : (l ++ r).isEmpty = (l.isEmpty && r.isEmpty) := by cases l <;> rfl
theorem isE_map {α β : Type} {l : List α} {f : α → β} : (l.map f).isEmpty = l.isEmpty := by cases l <;> rfl
theorem flatL_iff {l : List D} : D.flatL l = true ↔ ∀ x ∈ l, x.flat = true := by
  induction l with
  | nil => simp [D.flatL]
  | cons x l ih => simp [D.flatL, ih]
theorem for_n {f : D → Env → Hs → SR} {ok : Hs → Bool} {N B K : Kn} {T : Kt D} {zk : Kz} {ρ : Env} {h : Hs} : @Wq (forS f ok [] ρ h) N T B K zk = N.k ρ h := by unfold Wq; rfl
theorem for_c {f : D → Env → Hs → SR} {ok : Hs → Bool} {N B K : Kn} {T : Kt D} {zk : Kz} {ρ : Env} {h : Hs} {x : D} {r : List D} : @Wq (forS f ok (x :: r) ρ h) N T B K zk = @Wq (f x ρ h) ⟨fun ρ h => ok h = true ∧ @Wq (forS f ok r ρ h) N T B K zk⟩ T N ⟨fun ρ h => ok h = true ∧ @Wq (forS f ok r ρ h) N T B K zk⟩ zk := by
  unfold Wq
  simp only [forS]
  cases f x ρ h with
  | nx ρ' h' => by_cases q : ok h' = true <;> simp [q, WQ0]
  | ct ρ' h' => by_cases q : ok h' = true <;> simp [q, WQ0]
  | _ => rfl
theorem small_10 : small 10 = true := by decide
theorem join_letters {b : Nat} {h : Hs} {cs : Cs} (hl : cs.length ≤ 1000000) : blt b h .join [.str [], .lst (cs.map fun c => .str [c])] = some (.str cs) := by
  have e1 : ∀ cs : Cs, allStr (cs.map fun c => D.str [c]) = some (cs.map fun c => [c]) := by
    intro cs
    induction cs with
    | nil => rfl
    | cons c cs ih => simp only [List.map_cons, allStr, ih, Option.map_some]
  have e2 : ∀ cs : Cs, joinC [] (cs.map fun c => [c]) = cs := by
    intro cs
    induction cs with
    | nil => rfl
    | cons c cs ih =>
      cases cs with
      | nil => rfl
      | cons d cs => simp only [List.map_cons, joinC] at ih ⊢; rw [ih]; rfl
  have e3 : ∀ cs : Cs, ((cs.map fun c => [c]).map List.length).sum = cs.length := by
    intro cs
    induction cs with
    | nil => rfl
    | cons c cs ih => simp only [List.map_cons, List.sum_cons, List.length_cons, List.length_nil, ih]; omega
  simp only [blt, vw_lst, e1, e2]
  rw [if_pos]
  simp only [e3, List.length_nil, Nat.mul_zero, Nat.add_zero, lineN, decide_eq_true_eq]
  omega
theorem setA {h k : Hs} {i : Nat} {c : D} (hi : i < h.length) : h.set i c ++ k = (h ++ k).set i c := (List.set_append_left i c hi).symm
theorem gD_setA {h : Hs} {i : Nat} {c d : D} (hi : i < h.length) : ((h ++ [d]).set i c).getD h.length .non = d := by
  rw [← setA hi, ← List.length_set (as := h) (i := i) (a := c)]
  exact gD_app
theorem vw_setA {h : Hs} {i : Nat} {c : D} {l : List D} (hi : i < h.length) : vw ((h ++ [D.lst l]).set i c) (.ref h.length) = .lst l := by
  rw [← setA hi, ← List.length_set (as := h) (i := i) (a := c)]
  exact vw_appL
theorem vw_setAD {h : Hs} {i : Nat} {c : D} {l : List (D × D)} (hi : i < h.length) : vw ((h ++ [D.dct l]).set i c) (.ref h.length) = .dct l := by
  rw [← setA hi, ← List.length_set (as := h) (i := i) (a := c)]
  exact vw_appD
theorem set_setA {h : Hs} {i : Nat} {c d e : D} (hi : i < h.length) : ((h ++ [d]).set i c).set h.length e = (h ++ [e]).set i c := by
  have : h.length ≠ i := by omega
  rw [List.set_comm _ _ (Ne.symm this)]; simp
theorem rng_ok' {i : Int} (h1 : -1000000 < i) (h2 : i < 1000000) : rngOk i = true := rng_ok h1 h2
theorem frz_app {h : Hs} {c : D} : gone (h ++ [c]) h.length = h ++ [.non] := by simp [gone]
theorem len_set {h : Hs} {i : Nat} {c : D} : (h.set i c).length = h.length := List.length_set
theorem len_app1 {h : Hs} {c : D} : (h ++ [c]).length = h.length + 1 := by simp
theorem trim_appS {h k : Hs} {i : Nat} {c d : D} {ds : List D} (hi : i < h.length) (w : D.withinL h.length ds = true) (wc : d.within h.length = true) : trim (h.set i c) (h.set i d ++ k) ds = h.set i d := by
  unfold trim
  have : fits (h.set i c).length (h.set i c) (h.set i d ++ k) ds = true := by
    simp only [fits, List.length_set, w, Bool.true_and, List.all_eq_true, List.mem_range, Bool.or_eq_true, decide_eq_true_eq]
    intro j hj
    by_cases e : j = i
    · subst e
      refine .inr ?_
      rw [List.getD_eq_getElem?_getD, List.getElem?_append_left (by simpa using hj)]
      simp [hj, wc]
    · refine .inl ?_
      rw [List.getElem?_append_left (by simpa using hj), List.getElem?_set_ne (Ne.symm e), List.getElem?_set_ne (Ne.symm e)]
  rw [this]
  simp only [if_true, List.length_set]
  exact List.take_left' (by simp)
theorem kix_s {b : Nat} {h : Hs} {l : List (D × D)} {s : Cs} : blt b h .kix [.dct l, .str s] = dget l (.str s) := id rfl
theorem kin_s {b : Nat} {h : Hs} {l : List (D × D)} {s : Cs} : blt b h .kin [.dct l, .str s] = some (.bl (dget l (.str s)).isSome) := id rfl
theorem knin_s {b : Nat} {h : Hs} {l : List (D × D)} {s : Cs} : blt b h .knin [.dct l, .str s] = some (.bl (!(dget l (.str s)).isSome)) := id rfl
theorem th_zip {h : Hs} {x y : D} : through h .zip [x, y] = (seqS (vw h x)).bind fun l => (seqS (vw h y)).map (zipD l) := id rfl
theorem seqS_t {l : List D} : seqS (.tup l) = some l := id rfl
theorem seqS_l {l : List D} : seqS (.lst l) = some l := id rfl
theorem seqS_s {s : Cs} : seqS (.str s) = some (s.map fun c => .str [c]) := id rfl
theorem zipD_c {x y : D} {r s : List D} : zipD (x :: r) (y :: s) = .tup [x, y] :: zipD r s := id rfl
theorem zipD_n {s : List D} : zipD [] s = [] := by unfold zipD; rfl
theorem zipD_n2 {s : List D} : zipD s [] = [] := by cases s <;> rfl
theorem fine_zl {x : D} {l ds : List D} : fine .zip [x, .lst l] ds = true := by cases x <;> rfl
theorem fine_zt {x : D} {l ds : List D} : fine .zip [x, .tup l] ds = true := by cases x <;> rfl
theorem isin2_d {b : Nat} {h : Hs} {t u : Ty} {x : D} : blt b h (.isin2 t u) [x] = (match tyOf t (vw h x), tyOf u (vw h x) with
    | some a, some b => some (.bl (a || b))
    | _, _ => none) := id rfl
theorem in_dS {b : Nat} {s : Cs} {l : List (D × D)} : cop b .inn (.str s) (.dct l) = some (.bl (dget l (.str s)).isSome) := by simp [cop, isKey]
theorem nin_dS {b : Nat} {s : Cs} {l : List (D × D)} : cop b .nin (.str s) (.dct l) = some (.bl (!(dget l (.str s)).isSome)) := by simp [cop, isKey]
theorem item_dS {s : Cs} {l : List (D × D)} : item (.dct l) (.str s) = dget l (.str s) := by simp [item, isKey]
theorem dctOf_n {acc : List (D × D)} : dctOf [] [] acc = some acc := id rfl
theorem dctOf_c {k : Cs} {v : D} {ks vs : List D} {acc : List (D × D)} : dctOf (.str k :: ks) (v :: vs) acc = dctOf ks vs (dput acc (.str k) v) := by simp [dctOf, isKey]
theorem dput_n {k v : D} : dput [] k v = [(k, v)] := id rfl
theorem dput_ne {a b : Cs} {u v : D} {l : List (D × D)} (h : (a == b) = false) : dput ((.str a, u) :: l) (.str b) v = (.str a, u) :: dput l (.str b) v := by
  simp only [beq_eq_false_iff_ne, ne_eq] at h
  unfold dput
  by_cases q : l.any (fun p => decide (p.1 = D.str b)) = true
  · simp [h, q]
  · simp [h, q]
theorem most_big : 1000000000000 < most := by unfold most; decide
theorem fm_some {α β : Type} {f : α → β} {l : List α} : l.filterMap (fun x => some (f x)) = l.map f := by induction l <;> simp_all
/-- a comprehension that changes nothing -/
theorem turns_p {f : D → M (Option D)} {ok : Hs → Bool} {p : Kt (List D)} {xk : Kx} {h : Hs} (g : D → Option D) (hok : ok h = true) : ∀ {l acc : List D},
    (∀ x ∈ l, @Wr _ (f x h) ⟨fun d h' => d = g x ∧ h' = h⟩ xk) → p.k (acc ++ l.filterMap g) h → @Wr _ (turns f ok l acc h) p xk
  | [], acc, _, k => by rw [turns_n]; simpa using k
  | x :: r, acc, hf, k => by
    rw [turns_c]
    have w := hf x (by simp)
    have go : @Wr _ (turns f ok r (addO acc (g x)) h) p xk := turns_p g hok (fun y hy => hf y (by simp [hy])) (by
      cases e : g x with
      | none => simp only [addO, List.filterMap_cons, e] at k ⊢; exact k
      | some d => simp only [addO, List.filterMap_cons, e] at k ⊢; simpa using k)
    unfold Wr at w ⊢
    refine wr_mono w ?_ fun _ _ _ z => z
    rintro d h' ⟨rfl, rfl⟩
    unfold Wr at go
    exact ⟨hok, go⟩
theorem turns_m {α : Type} {f : D → M (Option D)} {ok : Hs → Bool} {p : Kt (List D)} {xk : Kx} {h : Hs} (e : α → D) (g : α → Option D) (hok : ok h = true) : ∀ {l : List α} {acc : List D},
    (∀ x ∈ l, @Wr _ (f (e x) h) ⟨fun d h' => d = g x ∧ h' = h⟩ xk) → p.k (acc ++ l.filterMap g) h → @Wr _ (turns f ok (l.map e) acc h) p xk
  | [], acc, _, k => by rw [List.map_nil, turns_n]; simpa using k
  | x :: r, acc, hf, k => by
    rw [List.map_cons, turns_c]
    have w := hf x (by simp)
    have go : @Wr _ (turns f ok (r.map e) (addO acc (g x)) h) p xk := turns_m e g hok (fun y hy => hf y (by simp [hy])) (by
      cases e : g x with
      | none => simp only [addO, List.filterMap_cons, e] at k ⊢; exact k
      | some d => simp only [addO, List.filterMap_cons, e] at k ⊢; simpa using k)
    unfold Wr at w ⊢
    refine wr_mono w ?_ fun _ _ _ z => z
    rintro d h' ⟨rfl, rfl⟩
    unfold Wr at go
    exact ⟨hok, go⟩
theorem turns_s {α : Type} {f : D → M (Option D)} {ok : Hs → Bool} {p : Kt (List D)} {xk : Kx} {h : Hs} (e : α → D) (g : α → D) (hok : ok h = true) {l : List α}
    (hf : ∀ x ∈ l, @Wr _ (f (e x) h) ⟨fun d h' => d = some (g x) ∧ h' = h⟩ xk) (k : p.k (l.map g) h) : @Wr _ (turns f ok (l.map e) [] h) p xk :=
  turns_m e (fun x => some (g x)) hok hf (by rw [fm_some]; exact k)
theorem allBl_map {α : Type} {f : α → Bool} : ∀ {l : List α}, allBl (l.map fun x => .bl (f x)) = some (l.map f)
  | [] => rfl
  | x :: r => by simp only [List.map_cons, allBl, allBl_map, Option.map_some]
theorem len_s {b : Nat} {h : Hs} {s : Cs} : blt b h .len [.str s] = if okLen s then some (.int s.length) else none := by rfl
theorem th_str {h : Hs} {s : Cs} : through h .plain [.str s] = some (s.map fun c => .str [c]) := id rfl
theorem fine_str {s : Cs} {ds : List D} (z : ds.length ≤ 16777216) : fine .plain [.str s] ds = true := decide_eq_true z
theorem stay_str {h h' : Hs} {s : Cs} {l : List D} : stay h h' (.str s :: l) = stay h h' l := id rfl
theorem stay_non {h h' : Hs} {l : List D} : stay h h' (.non :: l) = stay h h' l := id rfl
theorem stay_bl {h h' : Hs} {b : Bool} {l : List D} : stay h h' (.bl b :: l) = stay h h' l := id rfl
theorem in_s {b c : Nat} {y : Cs} : cop b .inn (.str [c]) (.str y) = some (.bl (decide (c ∈ y))) := id rfl
theorem nin_s {b c : Nat} {y : Cs} : cop b .nin (.str [c]) (.str y) = some (.bl (!decide (c ∈ y))) := id rfl
def az : Cs := [97, 98, 99, 100, 101, 102, 103, 104, 105, 106, 107, 108, 109, 110, 111, 112, 113, 114, 115, 116, 117, 118, 119, 120, 121, 122]
theorem in_az (c : Nat) : c ∈ az ↔ 97 ≤ c ∧ c ≤ 122 := by
  constructor
  · intro h
    have : az.all (fun c => decide (97 ≤ c) && decide (c ≤ 122)) = true := by decide
    simpa using List.all_eq_true.mp this c h
  · rintro ⟨h1, h2⟩
    have : (List.range 26).all (fun k => decide (97 + k ∈ az)) = true := by decide
    have := List.all_eq_true.mp this (c - 97) (by simp; omega)
    rw [decide_eq_true_eq, show 97 + (c - 97) = c by omega] at this
    exact this
theorem setsOf_n {ρ : Env} : setsOf ρ [] = some [] := id rfl
theorem setsOf_c {ρ : Env} {i : Nat} {r : List Nat} : setsOf ρ (i :: r) = (ρ.getD i none).bind fun d => (setsOf ρ r).map (d :: ·) := by
  simp only [setsOf]
  cases ρ.getD i none <;> rfl
theorem rev_t {l : List D} : revD (.tup l) = some (.tup l.reverse) := rfl
theorem rev_l {l : List D} : revD (.lst l) = some (.lst l.reverse) := rfl
end PV
set_option Elab.async false
set_option autoImplicit false
set_option maxRecDepth 100000
namespace PV
def wN : Cs := [110, 117, 109]
def wA : Cs := [110, 97, 109, 101]
def wB : Cs := [98, 111, 117, 110, 100]
/-- the parts of anything read as a term -/
def kidsT (a : Int) : D → Option (List D)
  | .tup (.str w :: ps) =>
    if w = wN then (match ps with
      | [.int i] => if 0 ≤ i ∧ i < 10 ^ 60 then some [] else none
      | _ => none)
    else if w = wA then (match ps with
      | [.str s] => if word s = true then some [] else none
      | _ => none)
    else if w = wB then (match ps with
      | [.int i] => if 0 ≤ i ∧ i < a then some [] else none
      | _ => none)
    else if w = U1.w .next then (match ps with
      | [p] => some [p]
      | _ => none)
    else if w = B2.w .plus ∨ w = B2.w .times then (match ps with
      | [p, q] => some [p, q]
      | _ => none)
    else none
  | _ => none
/-- how many pieces; 0 where it is none -/
def sumI : List Nat → Nat
  | [] => 1
  | x :: r => if x = 0 ∨ sumI r = 0 then 0 else x + sumI r
section
variable {α : Type} (kids : α → Option (List α))
def szI : Nat → α → Nat
  | 0, _ => 0
  | k + 1, x => match kids x with
    | none => 0
    | some l => sumI (l.map (szI k))
/-- all that is left to be read is right, and not too many -/
def good (m : Nat) (st : List (α × Nat)) : Prop := (∀ e ∈ st, szI kids (61 - e.2) e.1 ≠ 0) ∧ m + (st.map fun e => szI kids (61 - e.2) e.1).sum ≤ 400
instance (m : Nat) (st : List (α × Nat)) : Decidable (good kids m st) := by unfold good; infer_instance
variable {kids} {m dp : Nat} {st : List (α × Nat)} {x : α} {l : List α}
theorem sumI_pos : ∀ {l : List Nat}, sumI l ≠ 0 ↔ ∀ y ∈ l, y ≠ 0
  | [] => by simp [sumI]
  | x :: r => by
    simp only [sumI, List.mem_cons, forall_eq_or_imp]
    rw [← sumI_pos]
    split
    · rename_i h; rcases h with h | h <;> simp [h]
    · rename_i h; omega
theorem sumI_sum : ∀ {l : List Nat}, sumI l ≠ 0 → sumI l = 1 + l.sum
  | [], _ => rfl
  | x :: r, h => by
    simp only [sumI] at h ⊢
    split
    · rename_i q; rw [if_pos q] at h; exact absurd rfl h
    · rename_i q
      rw [sumI_sum (l := r) (by omega)]
      simp only [List.sum_cons]; omega
theorem good_nil : good kids m [] ↔ m ≤ 400 := by simp [good]
theorem good_none (h : kids x = none) : ¬ good kids m (st ++ [(x, dp)]) := fun g => by
  have := g.1 (x, dp) (by simp)
  apply this
  show szI kids (61 - dp) x = 0
  cases 61 - dp <;> simp [szI, h]
theorem good_deep (h : 60 < dp) : ¬ good kids m (st ++ [(x, dp)]) := fun g => by
  have := g.1 (x, dp) (by simp)
  apply this
  show szI kids (61 - dp) x = 0
  rw [show 61 - dp = 0 by omega]; rfl
theorem good_many (h : 400 < m + 1) : ¬ good kids m (st ++ [(x, dp)]) := fun g => by
  have h1 := g.1 (x, dp) (by simp)
  have h2 := g.2
  simp only [List.map_append, List.map_cons, List.map_nil, List.sum_append, List.sum_cons, List.sum_nil] at h2 h1
  omega
theorem good_step (h : kids x = some l) (hd : dp ≤ 60) : good kids m (st ++ [(x, dp)]) ↔ good kids (m + 1) (st ++ l.map fun y => (y, dp + 1)) := by
  have e : szI kids (61 - dp) x = sumI (l.map (szI kids (60 - dp))) := by
    rw [show 61 - dp = (60 - dp) + 1 by omega]
    simp only [szI, h]
  have e2 : ∀ y, szI kids (61 - (dp + 1)) y = szI kids (60 - dp) y := fun y => by rw [show 61 - (dp + 1) = 60 - dp by omega]
  unfold good
  simp only [List.mem_append, List.mem_cons, List.not_mem_nil, or_false, List.map_append, List.map_cons, List.map_nil, List.sum_append, List.sum_cons, List.sum_nil, List.map_map, Function.comp_def, e2, List.mem_map]
  constructor
  · rintro ⟨h1, h2⟩
    have h3 := h1 (x, dp) (.inr rfl)
    simp only [e] at h3 h2
    have h4 := sumI_sum h3
    have h5 : (l.map fun x => szI kids (60 - dp) x).sum = (l.map (szI kids (60 - dp))).sum := rfl
    refine ⟨?_, by omega⟩
    rintro z (hz | ⟨y, hy, rfl⟩)
    · exact h1 z (.inl hz)
    · simp only [e2]
      exact sumI_pos.mp h3 _ (List.mem_map_of_mem hy)
  · rintro ⟨h1, h2⟩
    have h3 : sumI (l.map (szI kids (60 - dp))) ≠ 0 := sumI_pos.mpr fun y hy => by
      obtain ⟨z, hz, rfl⟩ := List.mem_map.mp hy
      have := h1 (z, dp + 1) (.inr ⟨z, hz, rfl⟩)
      simpa only [e2] using this
    have h4 := sumI_sum h3
    have h5 : (l.map fun x => szI kids (60 - dp) x).sum = (l.map (szI kids (60 - dp))).sum := rfl
    refine ⟨?_, by rw [e]; omega⟩
    rintro z (hz | rfl)
    · exact h1 z (.inl hz)
    · simp only [e]; exact h3
theorem good_one {x : α} : good kids 0 [(x, 1)] ↔ szI kids 60 x ≠ 0 ∧ szI kids 60 x ≤ 400 := by simp [good]
end
/-! terms and sayings as such -/
def kidsS (a : Int) : D → Option (List (Cs × D × Int))
  | .tup (.str w :: ps) =>
    if w = B2.w .same then (match ps with
      | [p, q] => some [([116], p, a), ([116], q, a)]
      | _ => none)
    else if w = [110, 111] then (match ps with
      | [] => some []
      | _ => none)
    else if w = B2.w .and ∨ w = B2.w .or ∨ w = B2.w .if_ then (match ps with
      | [p, q] => some [([115], p, a), ([115], q, a)]
      | _ => none)
    else if w = U1.w .all ∨ w = U1.w .some then (match ps with
      | [p] => some [([98], p, a + 1)]
      | _ => none)
    else none
  | _ => none
def kT (x : D × Int) : Option (List (D × Int)) := (kidsT x.2 x.1).map fun l => l.map fun p => (p, x.2)
def kS (x : Cs × D × Int) : Option (List (Cs × D × Int)) := if x.1 = [116] then (kidsT x.2.2 x.2.1).map fun l => l.map fun p => ([116], p, x.2.2) else kidsS x.2.2 x.2.1
theorem kidsT_d : ∀ {t : Th} {a : Int}, tmB a t = true → ∃ l : List Th, kidsT a t.d = some (l.map Th.d) ∧ (∀ u ∈ l, tmB a u = true) ∧ t.pcs = 1 + (l.map Th.pcs).sum ∧ ∀ k, t.dp ≤ k + 1 ↔ ∀ u ∈ l, u.dp ≤ k
  | .num i, a, h => by
    simp only [tmB, Bool.and_eq_true, decide_eq_true_eq] at h
    exact ⟨[], by simp only [Th.d, kidsT, wN, if_true, h.1, h.2, and_self]; rfl, by simp, rfl, by simp [Th.dp]⟩
  | .name i, a, h => by
    simp only [tmB] at h
    exact ⟨[], by simp [Th.d, kidsT, wN, wA, h], by simp, rfl, by simp [Th.dp]⟩
  | .bound i, a, h => by
    simp only [tmB, Bool.and_eq_true, decide_eq_true_eq] at h
    exact ⟨[], by simp [Th.d, kidsT, wN, wA, wB, h.1, h.2], by simp, rfl, by simp [Th.dp]⟩
  | .no, a, h => by simp [tmB] at h
  | .un .next t, a, h => ⟨[t], by simp [Th.d, kidsT, wN, wA, wB, U1.w], by simpa [tmB] using h, by simp [Th.pcs]; omega, by simp [Th.dp]⟩
  | .un .all t, a, h => by simp [tmB] at h
  | .un .some t, a, h => by simp [tmB] at h
  | .bi .plus t u, a, h => ⟨[t, u], by simp [Th.d, kidsT, wN, wA, wB, U1.w, B2.w], by simpa [tmB] using h, by simp [Th.pcs]; omega, by simp [Th.dp]; omega⟩
  | .bi .times t u, a, h => ⟨[t, u], by simp [Th.d, kidsT, wN, wA, wB, U1.w, B2.w], by simpa [tmB] using h, by simp [Th.pcs]; omega, by simp [Th.dp]; omega⟩
  | .bi .same t u, a, h => by simp [tmB] at h
  | .bi .and t u, a, h => by simp [tmB] at h
  | .bi .or t u, a, h => by simp [tmB] at h
  | .bi .if_ t u, a, h => by simp [tmB] at h
theorem sz_gen {l : List Th} {f : Th → Nat} {k p d : Nat} (e : ∀ u ∈ l, f u = if u.dp ≤ k then u.pcs else 0) (h3 : p = 1 + (l.map Th.pcs).sum) (h4 : d ≤ k + 1 ↔ ∀ u ∈ l, u.dp ≤ k) :
    sumI (l.map f) = if d ≤ k + 1 then p else 0 := by
  rw [List.map_congr_left e]
  by_cases hd : d ≤ k + 1
  · rw [if_pos hd, h3]
    have e2 : l.map (fun u => if u.dp ≤ k then u.pcs else 0) = l.map Th.pcs := List.map_congr_left fun u hu => if_pos (h4.mp hd u hu)
    rw [e2, sumI_sum (sumI_pos.mpr fun y hy => by obtain ⟨z, _, rfl⟩ := List.mem_map.mp hy; have := z.pcs_pos; omega)]
  · rw [if_neg hd]
    by_cases q : sumI (l.map fun u => if u.dp ≤ k then u.pcs else 0) = 0
    · exact q
    · have q := sumI_pos.mp q
      refine absurd (h4.mpr fun u hu => ?_) hd
      have := q _ (List.mem_map_of_mem hu)
      by_cases z : u.dp ≤ k
      · exact z
      · exact absurd (if_neg z) this
theorem szI_t : ∀ (k : Nat) {t : Th} {a : Int}, tmB a t = true → szI kT k (t.d, a) = if t.dp ≤ k then t.pcs else 0
  | 0, t, a, h => by have := t.dp_pos; simp only [szI]; rw [if_neg (by omega)]
  | k + 1, t, a, h => by
    obtain ⟨l, h1, h2, h3, h4⟩ := kidsT_d h
    simp only [szI, kT, h1, Option.map_some, List.map_map, Function.comp_def]
    exact sz_gen (fun u hu => szI_t k (h2 u hu)) h3 (h4 k)
theorem szS_t : ∀ (k : Nat) {t : Th} {a : Int}, tmB a t = true → szI kS k ([116], t.d, a) = if t.dp ≤ k then t.pcs else 0
  | 0, t, a, h => by have := t.dp_pos; simp only [szI]; rw [if_neg (by omega)]
  | k + 1, t, a, h => by
    obtain ⟨l, h1, h2, h3, h4⟩ := kidsT_d h
    simp only [szI, kS, if_true, h1, Option.map_some, List.map_map, Function.comp_def]
    exact sz_gen (fun u hu => szS_t k (h2 u hu)) h3 (h4 k)
theorem szS_s : ∀ (k : Nat) {t : Th} {a : Int} {s : Cs}, s ≠ [116] → syB a t = true → szI kS k (s, t.d, a) = if t.dp ≤ k then t.pcs else 0
  | 0, t, a, s, hs, h => by have := t.dp_pos; simp only [szI]; rw [if_neg (by omega)]
  | k + 1, t, a, s, hs, h => by
    have one : ∀ (v : Cs) (u : Th), szI kS k (v, u.d, a) = (if u.dp ≤ k then u.pcs else 0) → True := fun _ _ _ => trivial
    match t, h with
    | .no, _ =>
      simp only [szI, kS, if_neg hs, Th.d]
      exact (if_pos (by simp [Th.dp])).symm
    | .un .all u, h =>
      simp only [syB] at h
      have e : kidsS a (Th.un .all u).d = some [([98], u.d, a + 1)] := by simp [Th.d, kidsS, U1.w, B2.w]
      simp only [szI, kS, if_neg hs, e]
      exact sz_gen (l := [u]) (f := fun u => szI kS k ([98], u.d, a + 1)) (by simpa using szS_s k (by decide) h) (by simp [Th.pcs]; omega) (by simp [Th.dp])
    | .un .some u, h =>
      simp only [syB] at h
      have e : kidsS a (Th.un .some u).d = some [([98], u.d, a + 1)] := by simp [Th.d, kidsS, U1.w, B2.w]
      simp only [szI, kS, if_neg hs, e]
      exact sz_gen (l := [u]) (f := fun u => szI kS k ([98], u.d, a + 1)) (by simpa using szS_s k (by decide) h) (by simp [Th.pcs]; omega) (by simp [Th.dp])
    | .bi .same u v, h =>
      simp only [syB, Bool.and_eq_true] at h
      have e : kidsS a (Th.bi .same u v).d = some [([116], u.d, a), ([116], v.d, a)] := by simp [Th.d, kidsS, U1.w, B2.w]
      simp only [szI, kS, if_neg hs, e]
      exact sz_gen (l := [u, v]) (f := fun u => szI kS k ([116], u.d, a)) (by simpa using ⟨szS_t k h.1, szS_t k h.2⟩) (by simp [Th.pcs]; omega) (by simp [Th.dp]; omega)
    | .bi .and u v, h =>
      simp only [syB, Bool.and_eq_true] at h
      have e : kidsS a (Th.bi .and u v).d = some [([115], u.d, a), ([115], v.d, a)] := by simp [Th.d, kidsS, U1.w, B2.w]
      simp only [szI, kS, if_neg hs, e]
      exact sz_gen (l := [u, v]) (f := fun u => szI kS k ([115], u.d, a)) (by simpa using ⟨szS_s k (by decide) h.1, szS_s k (by decide) h.2⟩) (by simp [Th.pcs]; omega) (by simp [Th.dp]; omega)
    | .bi .or u v, h =>
      simp only [syB, Bool.and_eq_true] at h
      have e : kidsS a (Th.bi .or u v).d = some [([115], u.d, a), ([115], v.d, a)] := by simp [Th.d, kidsS, U1.w, B2.w]
      simp only [szI, kS, if_neg hs, e]
      exact sz_gen (l := [u, v]) (f := fun u => szI kS k ([115], u.d, a)) (by simpa using ⟨szS_s k (by decide) h.1, szS_s k (by decide) h.2⟩) (by simp [Th.pcs]; omega) (by simp [Th.dp]; omega)
    | .bi .if_ u v, h =>
      simp only [syB, Bool.and_eq_true] at h
      have e : kidsS a (Th.bi .if_ u v).d = some [([115], u.d, a), ([115], v.d, a)] := by simp [Th.d, kidsS, U1.w, B2.w]
      simp only [szI, kS, if_neg hs, e]
      exact sz_gen (l := [u, v]) (f := fun u => szI kS k ([115], u.d, a)) (by simpa using ⟨szS_s k (by decide) h.1, szS_s k (by decide) h.2⟩) (by simp [Th.pcs]; omega) (by simp [Th.dp]; omega)
/-! more bounds, more room: the same -/
theorem sum_eq {α : Type} {f g : α → Nat} {l : List α} (h : ∀ x ∈ l, f x ≠ 0 → g x = f x) (z : sumI (l.map f) ≠ 0) : sumI (l.map g) = sumI (l.map f) := by
  have p := sumI_pos.mp z
  rw [List.map_congr_left fun x hx => h x hx (p _ (List.mem_map_of_mem hx))]
theorem szI_k {α : Type} {kids : α → Option (List α)} : ∀ (k : Nat) (x : α), szI kids k x ≠ 0 → szI kids (k + 1) x = szI kids k x
  | 0, x, h => absurd rfl h
  | k + 1, x, h => by
    have e : ∀ j, szI kids (j + 1) x = (match kids x with
      | none => 0
      | some l => sumI (l.map (szI kids j))) := fun _ => rfl
    rw [e k] at h
    rw [e (k + 1), e k]
    cases q : kids x with
    | none => rfl
    | some l =>
      rw [q] at h
      exact sum_eq (fun y _ hy => szI_k k y hy) h
theorem kidsT_a {a b : Int} (hab : a ≤ b) {d : D} {l : List D} (h : kidsT a d = some l) : kidsT b d = some l := by
  unfold kidsT at h ⊢
  split at h
  · rename_i w ps
    try simp only
    by_cases h1 : w = wN
    · rw [if_pos h1] at h ⊢; exact h
    · rw [if_neg h1] at h ⊢
      by_cases h2 : w = wA
      · rw [if_pos h2] at h ⊢; exact h
      · rw [if_neg h2] at h ⊢
        by_cases h3 : w = wB
        · rw [if_pos h3] at h ⊢
          split at h
          · split at h
            · rename_i q
              try simp only
              rw [if_pos ⟨q.1, by omega⟩]; exact h
            · cases h
          · cases h
        · rw [if_neg h3] at h ⊢; exact h
  · cases h
theorem szI_some {α : Type} {kids : α → Option (List α)} {k : Nat} {x : α} {l : List α} (h : kids x = some l) : szI kids (k + 1) x = sumI (l.map (szI kids k)) := by simp only [szI, h]
theorem szI_nz {α : Type} {kids : α → Option (List α)} {k : Nat} {x : α} (h : szI kids (k + 1) x ≠ 0) : ∃ l, kids x = some l ∧ sumI (l.map (szI kids k)) ≠ 0 := by
  cases q : kids x with
  | none => simp [szI, q] at h
  | some l => exact ⟨l, rfl, by rw [szI_some q] at h; exact h⟩
def shS (c : Int) (x : Cs × D × Int) : Cs × D × Int := (x.1, x.2.1, x.2.2 + c)
theorem kidsS_a {a b : Int} {d : D} {l : List (Cs × D × Int)} (h : kidsS a d = some l) : kidsS b d = some (l.map (shS (b - a))) := by
  have e1 : a + (b - a) = b := by omega
  have e2 : a + 1 + (b - a) = b + 1 := by omega
  unfold kidsS at h ⊢
  split at h
  · rename_i w ps
    repeat' split at h
    all_goals first
      | cases h
      | skip
    all_goals simp_all [shS]
  · cases h
theorem kS_a {a b : Int} (hab : a ≤ b) {s : Cs} {d : D} {l : List (Cs × D × Int)} (h : kS (s, d, a) = some l) : kS (s, d, b) = some (l.map (shS (b - a))) := by
  have e1 : a + (b - a) = b := by omega
  unfold kS at h ⊢
  by_cases st : s = [116]
  · simp only [if_pos st] at h ⊢
    obtain ⟨k, h1, rfl⟩ := Option.map_eq_some_iff.mp h
    rw [kidsT_a hab h1]
    simp [shS, Function.comp_def, e1]
  · simp only [if_neg st] at h ⊢
    exact kidsS_a h
theorem szS_a : ∀ (k : Nat) {s : Cs} {d : D} {a b : Int}, a ≤ b → szI kS k (s, d, a) ≠ 0 → szI kS k (s, d, b) = szI kS k (s, d, a)
  | 0, _, _, _, _, _, h => absurd rfl h
  | k + 1, s, d, a, b, hab, h => by
    obtain ⟨l, h1, h2⟩ := szI_nz h
    rw [szI_some h1, szI_some (kS_a hab h1), List.map_map]
    exact sum_eq (fun ⟨s', d', c⟩ _ hy => szS_a k (show c ≤ c + (b - a) by omega) hy) h2
theorem szS_sb (k : Nat) (d : D) (a : Int) : szI kS k ([98], d, a) = szI kS k ([115], d, a) := by
  cases k with
  | zero => rfl
  | succ k => simp [szI, kS]
theorem szS_t0 : ∀ (k : Nat) (d : D) (a : Int), szI kS k ([116], d, a) = szI kT k (d, a)
  | 0, _, _ => rfl
  | k + 1, d, a => by
    simp only [szI, kS, kT, if_true]
    cases kidsT a d with
    | none => rfl
    | some l =>
      simp only [Option.map_some, List.map_map, Function.comp_def]
      congr 1
      exact List.map_congr_left fun p _ => szS_t0 k p a
/-! no more pieces than tuples -/
theorem ntL_mem {x : D} : ∀ {l : List D}, x ∈ l → x.nt ≤ D.ntL l
  | y :: r, h => by
    simp only [D.ntL]
    rcases List.mem_cons.mp h with rfl | h
    · omega
    · have := ntL_mem h; omega
theorem szI_le {α : Type} {kids : α → Option (List α)} {f : α → Nat} (hk : ∀ x l, kids x = some l → 1 + (l.map f).sum ≤ f x) : ∀ (k : Nat) (x : α), szI kids k x ≤ f x
  | 0, x => Nat.zero_le _
  | k + 1, x => by
    simp only [szI]
    cases e : kids x with
    | none => exact Nat.zero_le _
    | some l =>
      have h1 := hk x l e
      dsimp only
      by_cases q : sumI (l.map (szI kids k)) = 0
      · omega
      · rw [sumI_sum q]
        have : ∀ l : List α, (l.map (szI kids k)).sum ≤ (l.map f).sum := by
          intro l
          induction l with
          | nil => simp
          | cons y r ih => simp only [List.map_cons, List.sum_cons]; have := szI_le hk k y; omega
        have := this l
        omega
theorem kidsT_nt {a : Int} {d : D} {l : List D} (h : kidsT a d = some l) : 1 + D.ntL l ≤ d.nt := by
  unfold kidsT at h
  split at h
  · rename_i w ps
    simp only [D.nt, D.ntL]
    repeat' split at h
    all_goals first
      | cases h
      | skip
    all_goals simp only [D.ntL, D.nt]; omega
  · cases h
theorem sum_nt (l : List D) : (l.map D.nt).sum = D.ntL l := by
  induction l with
  | nil => rfl
  | cons x r ih => simp only [List.map_cons, List.sum_cons, D.ntL, ih]
theorem kT_nt (x : D × Int) (l : List (D × Int)) (h : kT x = some l) : 1 + (l.map fun y => y.1.nt).sum ≤ x.1.nt := by
  obtain ⟨k, h1, rfl⟩ := Option.map_eq_some_iff.mp h
  have := kidsT_nt h1
  simp only [List.map_map, Function.comp_def]
  have e := sum_nt k
  exact (show 1 + (k.map D.nt).sum ≤ _ by omega)
theorem kidsS_nt {a : Int} {d : D} {l : List (Cs × D × Int)} (h : kidsS a d = some l) : 1 + (l.map fun y => y.2.1.nt).sum ≤ d.nt := by
  unfold kidsS at h
  split at h
  · rename_i w ps
    simp only [D.nt, D.ntL]
    repeat' split at h
    all_goals first
      | cases h
      | skip
    all_goals simp only [D.ntL, D.nt, List.map_cons, List.map_nil, List.sum_cons, List.sum_nil]; omega
  · cases h
theorem kS_nt (x : Cs × D × Int) (l : List (Cs × D × Int)) (h : kS x = some l) : 1 + (l.map fun y => y.2.1.nt).sum ≤ x.2.1.nt := by
  unfold kS at h
  split at h
  · obtain ⟨k, h1, rfl⟩ := Option.map_eq_some_iff.mp h
    have := kidsT_nt h1
    simp only [List.map_map, Function.comp_def]
    have e := sum_nt k
    exact (show 1 + (k.map D.nt).sum ≤ _ by omega)
  · exact kidsS_nt h
theorem szT_nt (k : Nat) (d : D) (a : Int) : szI kT k (d, a) ≤ d.nt := szI_le (f := fun x => x.1.nt) kT_nt k (d, a)
theorem szS_nt (k : Nat) (s : Cs) (d : D) (a : Int) : szI kS k (s, d, a) ≤ d.nt := szI_le (f := fun x => x.2.1.nt) kS_nt k (s, d, a)
end PV
set_option Elab.async false
set_option autoImplicit false
set_option maxRecDepth 100000
namespace PV
theorem sum_l {b : Nat} {h : Hs} {l : List D} : blt b h .sum [.lst l] = (allInt l).map fun l => .int l.sum := id rfl
theorem allInt_n : allInt [] = some [] := id rfl
theorem allInt_c {i : Int} {l : List D} : allInt (.int i :: l) = (allInt l).map (i :: ·) := id rfl
/-- how many more bounds in it -/
def U1.tk : U1 → Nat
  | .next => 0
  | _ => 1
/-- names and bounds changed by f, told how many all and some stand around -/
def Th.chg (f : Th → Nat → Th) : Nat → Th → Th
  | _, .num i => .num i
  | k, .name s => f (.name s) k
  | k, .bound i => f (.bound i) k
  | _, .no => .no
  | k, .un u t => .un u (Th.chg f (k + u.tk) t)
  | k, .bi b t u => .bi b (Th.chg f k t) (Th.chg f k u)
def fB (t : Th) : Th → Nat → Th := fun p k => if p = .bound k then t else p
def fT (s : Cs) : Th → Nat → Th := fun p k => if p = .name s then .bound k else p
def fF (s : Cs) (t : Th) : Th → Nat → Th := fun p _ => if p = .name s then t else p
def leafy : Th → Bool
  | .name _ | .bound _ => true
  | _ => false
theorem tmB_mono : ∀ {t : Th} {a b : Int}, a ≤ b → tmB a t = true → tmB b t = true
  | .num i, a, b, h, e => e
  | .name i, a, b, h, e => e
  | .bound i, a, b, h, e => by simp only [tmB, Bool.and_eq_true, decide_eq_true_eq] at e ⊢; omega
  | .no, a, b, h, e => by simp [tmB] at e
  | .un u t, a, b, h, e => by
    cases u <;> simp only [tmB] at e ⊢
    · exact tmB_mono h e
    all_goals cases e
  | .bi u s t, a, b, h, e => by
    cases u <;> simp only [tmB, Bool.and_eq_true] at e ⊢
    · exact ⟨tmB_mono h e.1, tmB_mono h e.2⟩
    · exact ⟨tmB_mono h e.1, tmB_mono h e.2⟩
    all_goals cases e
theorem syB_mono : ∀ {t : Th} {a b : Int}, a ≤ b → syB a t = true → syB b t = true
  | .num i, a, b, h, e => by simp [syB] at e
  | .name i, a, b, h, e => by simp [syB] at e
  | .bound i, a, b, h, e => by simp [syB] at e
  | .no, a, b, h, e => rfl
  | .un u t, a, b, h, e => by
    cases u <;> simp only [syB] at e ⊢
    · cases e
    · exact syB_mono (by omega) e
    · exact syB_mono (by omega) e
  | .bi u s t, a, b, h, e => by
    cases u <;> simp only [syB, Bool.and_eq_true] at e ⊢
    · cases e
    · cases e
    · exact ⟨tmB_mono h e.1, tmB_mono h e.2⟩
    all_goals exact ⟨syB_mono h e.1, syB_mono h e.2⟩
/-- leaves below c more go to terms below c' more -/
def Lf (f : Th → Nat → Th) (c c' : Int) : Prop := ∀ p (j : Nat), leafy p = true → tmB (j + c) p = true → tmB (j + c') (f p j) = true
theorem tmB_chg {f : Th → Nat → Th} {c c' : Int} (L : Lf f c c') : ∀ (t : Th) (k : Nat), tmB (k + c) t = true → tmB (k + c') (t.chg f k) = true
  | .num i, k, e => e
  | .name s, k, e => L _ k rfl e
  | .bound i, k, e => L _ k rfl e
  | .no, k, e => by simp [tmB] at e
  | .un u t, k, e => by
    cases u <;> simp only [tmB] at e
    · exact tmB_chg L t k e
    all_goals cases e
  | .bi b t u, k, e => by
    cases b <;> simp only [tmB, Bool.and_eq_true] at e
    · simp only [Th.chg, tmB, tmB_chg L t k e.1, tmB_chg L u k e.2, Bool.and_self]
    · simp only [Th.chg, tmB, tmB_chg L t k e.1, tmB_chg L u k e.2, Bool.and_self]
    all_goals cases e
theorem syB_chg {f : Th → Nat → Th} {c c' : Int} (L : Lf f c c') : ∀ (t : Th) (k : Nat), syB (k + c) t = true → syB (k + c') (t.chg f k) = true
  | .num i, k, e => by simp [syB] at e
  | .name s, k, e => by simp [syB] at e
  | .bound i, k, e => by simp [syB] at e
  | .no, k, e => rfl
  | .un u t, k, e => by
    cases u <;> simp only [syB] at e
    · cases e
    all_goals
      have := syB_chg L t (k + 1) (by rw [← e]; congr 1; simp; omega)
      simp only [Th.chg, syB, U1.tk]
      rw [← this]; congr 1; simp; omega
  | .bi b t u, k, e => by
    cases b <;> simp only [syB, Bool.and_eq_true] at e
    · cases e
    · cases e
    · simp only [Th.chg, syB, tmB_chg L t k e.1, tmB_chg L u k e.2, Bool.and_self]
    all_goals simp only [Th.chg, syB, syB_chg L t k e.1, syB_chg L u k e.2, Bool.and_self]
theorem lf_B {t : Th} (h : tmB 0 t = true) : Lf (fB t) 1 0 := fun p j hp e => by
  unfold fB
  split
  · exact tmB_mono (by omega) h
  · rename_i n
    cases p with
    | name s => exact e
    | bound i =>
      simp only [tmB, Bool.and_eq_true, decide_eq_true_eq] at e ⊢
      have : i ≠ j := fun z => n (by rw [z])
      omega
    | _ => cases hp
theorem lf_T {s : Cs} : Lf (fT s) 0 1 := fun p j hp e => by
  unfold fT
  split
  · simp [tmB]; omega
  · exact tmB_mono (by omega) e
theorem lf_F {s : Cs} {t : Th} (h : tmB 0 t = true) : Lf (fF s t) 0 0 := fun p j hp e => by
  unfold fF
  split
  · exact tmB_mono (by omega) h
  · exact e
theorem dp_chg {f : Th → Nat → Th} {d : Nat} (hf : ∀ p j, leafy p = true → (f p j).dp ≤ d + 1) : ∀ (t : Th) (k : Nat), (t.chg f k).dp ≤ t.dp + d
  | .num i, k => by simp only [Th.chg, Th.dp]; omega
  | .name s, k => by simp only [Th.chg, Th.dp]; have := hf (.name s) k rfl; omega
  | .bound i, k => by simp only [Th.chg, Th.dp]; have := hf (.bound i) k rfl; omega
  | .no, k => by simp only [Th.chg, Th.dp]; omega
  | .un u t, k => by simp only [Th.chg, Th.dp]; have := dp_chg hf t (k + u.tk); omega
  | .bi b t u, k => by simp only [Th.chg, Th.dp]; have := dp_chg hf t k; have := dp_chg hf u k; omega
theorem pcs_chg {f : Th → Nat → Th} {q : Nat} (hq : 1 ≤ q) (hf : ∀ p j, leafy p = true → (f p j).pcs ≤ q) : ∀ (t : Th) (k : Nat), (t.chg f k).pcs ≤ t.pcs * q
  | .num i, k => by simp only [Th.chg, Th.pcs]; omega
  | .name s, k => by simp only [Th.chg, Th.pcs]; have := hf (.name s) k rfl; omega
  | .bound i, k => by simp only [Th.chg, Th.pcs]; have := hf (.bound i) k rfl; omega
  | .no, k => by simp only [Th.chg, Th.pcs]; omega
  | .un u t, k => by simp only [Th.chg, Th.pcs, Nat.add_mul]; have := pcs_chg hq hf t (k + u.tk); omega
  | .bi b t u, k => by simp only [Th.chg, Th.pcs, Nat.add_mul]; have := pcs_chg hq hf t k; have := pcs_chg hq hf u k; omega
theorem leaf_dp {p : Th} (h : leafy p = true) : p.dp = 1 := by cases p <;> first | rfl | cases h
theorem leaf_pcs {p : Th} (h : leafy p = true) : p.pcs = 1 := by cases p <;> first | rfl | cases h
theorem fB_dp {t p : Th} {j d : Nat} (hp : leafy p = true) (h : t.dp ≤ d + 1) : (fB t p j).dp ≤ d + 1 := by
  unfold fB; split
  · exact h
  · rw [leaf_dp hp]; omega
theorem fF_dp {s : Cs} {t p : Th} {j d : Nat} (hp : leafy p = true) (h : t.dp ≤ d + 1) : (fF s t p j).dp ≤ d + 1 := by
  unfold fF; split
  · exact h
  · rw [leaf_dp hp]; omega
theorem fT_dp {s : Cs} {p : Th} {j : Nat} (hp : leafy p = true) : (fT s p j).dp ≤ 0 + 1 := by
  unfold fT; split
  · exact Nat.le_refl _
  · rw [leaf_dp hp]; omega
theorem fB_pcs {t p : Th} {j d : Nat} (hp : leafy p = true) (h1 : 1 ≤ d) (h : t.pcs ≤ d) : (fB t p j).pcs ≤ d := by
  unfold fB; split
  · exact h
  · rw [leaf_pcs hp]; omega
theorem fF_pcs {s : Cs} {t p : Th} {j d : Nat} (hp : leafy p = true) (h1 : 1 ≤ d) (h : t.pcs ≤ d) : (fF s t p j).pcs ≤ d := by
  unfold fF; split
  · exact h
  · rw [leaf_pcs hp]; omega
theorem fT_pcs {s : Cs} {p : Th} {j : Nat} (hp : leafy p = true) : (fT s p j).pcs ≤ 1 := by
  unfold fT; split
  · exact Nat.le_refl _
  · rw [leaf_pcs hp]; omega
/-- where no leaf is changed -/
theorem tm_id {f : Th → Nat → Th} {c : Int} {N : List Cs} (hf : ∀ p (j : Nat), leafy p = true → tmB (j + c) p = true → (∀ s, p = .name s → s ∈ N) → f p j = p) : ∀ (t : Th) (k : Nat), tmB (k + c) t = true → (∀ s ∈ t.names, s ∈ N) → t.chg f k = t
  | .num i, k, e, n => rfl
  | .name s, k, e, n => hf _ k rfl e fun z h => by cases h; exact n s (by simp [Th.names])
  | .bound i, k, e, n => hf _ k rfl e fun z h => by cases h
  | .no, k, e, n => rfl
  | .un u t, k, e, n => by
    cases u <;> simp only [tmB] at e
    · simp only [Th.chg, U1.tk]; rw [tm_id hf t (k + 0) e n]
    all_goals cases e
  | .bi b t u, k, e, n => by
    simp only [Th.names, List.mem_append] at n
    cases b <;> simp only [tmB, Bool.and_eq_true] at e
    · simp only [Th.chg]; rw [tm_id hf t k e.1 fun s h => n s (.inl h), tm_id hf u k e.2 fun s h => n s (.inr h)]
    · simp only [Th.chg]; rw [tm_id hf t k e.1 fun s h => n s (.inl h), tm_id hf u k e.2 fun s h => n s (.inr h)]
    all_goals cases e
theorem sy_id {f : Th → Nat → Th} {c : Int} {N : List Cs} (hf : ∀ p (j : Nat), leafy p = true → tmB (j + c) p = true → (∀ s, p = .name s → s ∈ N) → f p j = p) : ∀ (t : Th) (k : Nat), syB (k + c) t = true → (∀ s ∈ t.names, s ∈ N) → t.chg f k = t
  | .num i, k, e, n => rfl
  | .name s, k, e, n => by simp [syB] at e
  | .bound i, k, e, n => by simp [syB] at e
  | .no, k, e, n => rfl
  | .un u t, k, e, n => by
    cases u <;> simp only [syB] at e
    · cases e
    all_goals simp only [Th.chg, U1.tk]; rw [sy_id hf t (k + 1) (by rw [← e]; congr 1; simp; omega) n]
  | .bi b t u, k, e, n => by
    simp only [Th.names, List.mem_append] at n
    cases b <;> simp only [syB, Bool.and_eq_true] at e
    · cases e
    · cases e
    · simp only [Th.chg]; rw [tm_id hf t k e.1 fun s h => n s (.inl h), tm_id hf u k e.2 fun s h => n s (.inr h)]
    all_goals simp only [Th.chg]; rw [sy_id hf t k e.1 fun s h => n s (.inl h), sy_id hf u k e.2 fun s h => n s (.inr h)]
/-- no bound of a saying is out -/
theorem put_id {b t : Th} (h : syB 0 b = true) : b.chg (fB t) 0 = b :=
  sy_id (c := 0) (N := b.names) (fun p j hp e _ => by
    unfold fB
    split
    · rename_i q
      subst q
      simp [tmB] at e
    · rfl) b 0 (by simpa using h) fun s hs => hs
theorem for_id {s : Cs} {b t : Th} {a : Int} (h : syB a b = true) (hs : s ∉ b.names) : b.chg (fF s t) 0 = b :=
  sy_id (c := a) (N := b.names) (fun p j hp e n => by
    unfold fF
    split
    · rename_i q
      exact absurd (n s q) hs
    · rfl) b 0 (by simpa using h) fun s hs => hs
theorem take_id {s : Cs} {b : Th} {a : Int} (h : syB a b = true) (hs : s ∉ b.names) : b.chg (fT s) 0 = b :=
  sy_id (c := a) (N := b.names) (fun p j hp e n => by
    unfold fT
    split
    · rename_i q
      exact absurd (n s q) hs
    · rfl) b 0 (by simpa using h) fun s hs => hs
def Th.nmD (t : Th) : List D := t.names.map .str
theorem nin_lst {x : D} {l : List D} {n : Nat} (hx : x.flat = true) (hy : D.flatL l = true) (hd : Nat.ble x.dep 300 = true) : cop (8 * n + 300) .nin x (.lst l) = some (.bl (!l.any fun y => D.eqv y x)) := by
  have := Nat.le_of_ble_eq_true hd
  cases x <;> simp only [cop] <;> rw [hx, hy, if_pos] <;> simp <;> omega
theorem in_lst {x : D} {l : List D} {n : Nat} (hx : x.flat = true) (hy : D.flatL l = true) (hd : Nat.ble x.dep 300 = true) : cop (8 * n + 300) .inn x (.lst l) = some (.bl (l.any fun y => D.eqv y x)) := by
  have := Nat.le_of_ble_eq_true hd
  cases x <;> simp only [cop] <;> rw [hx, hy, if_pos] <;> simp <;> omega
theorem any_str (l : List Cs) (s : Cs) : ((l.map D.str).any fun y => D.eqv y (.str s)) = decide (s ∈ l) := by
  induction l with
  | nil => rfl
  | cons a l ih =>
    simp only [List.map_cons, List.any_cons, ih, D.eqv]
    by_cases e : a = s
    · subst e; simp
    · simp [e, Ne.symm e]
theorem flat_strs {l : List Cs} (h : ∀ s ∈ l, word s = true) : D.flatL (l.map D.str) = true := flatL_iff.mpr fun x hx => by
  obtain ⟨s, hs, rfl⟩ := List.mem_map.mp hx
  exact D.flat_of_okd _ (word_okd (h s hs))
theorem Th.names_w : ∀ {t : Th}, t.ok = true → ∀ s ∈ t.names, word s = true
  | .num _, _, s, h | .bound _, _, s, h | .no, _, s, h => by simp [Th.names] at h
  | .name x, o, s, h => by simp only [Th.names, List.mem_singleton] at h; subst h; exact o
  | .un _ a, o, s, h => Th.names_w (t := a) o s h
  | .bi _ a b, o, s, h => by
    simp only [Th.ok, Bool.and_eq_true] at o
    simp only [Th.names, List.mem_append] at h
    exact h.elim (Th.names_w o.1 s) (Th.names_w o.2 s)
theorem nm_len : ∀ t : Th, t.names.length ≤ t.pcs
  | .num _ | .bound _ | .no => by simp [Th.names]
  | .name _ => Nat.le_refl _
  | .un _ a => by simp only [Th.names, Th.pcs]; have := nm_len a; omega
  | .bi _ a b => by simp only [Th.names, Th.pcs, List.length_append]; have := nm_len a; have := nm_len b; omega
end PV
set_option Elab.async false
set_option autoImplicit false
set_option maxRecDepth 100000
namespace PV
theorem csLt_irr : ∀ a : Cs, csLt a a = false
  | [] => rfl
  | a :: r => by simp [csLt, csLt_irr r]
theorem csLt_tri : ∀ a b : Cs, csLt a b = true ∨ a = b ∨ csLt b a = true
  | [], [] => .inr (.inl rfl)
  | [], _ :: _ => .inl rfl
  | _ :: _, [] => .inr (.inr rfl)
  | a :: r, b :: s => by
    simp only [csLt, Bool.or_eq_true, decide_eq_true_eq, Bool.and_eq_true, beq_iff_eq, List.cons.injEq]
    rcases Nat.lt_trichotomy a b with h | h | h
    · exact .inl (.inl h)
    · rcases csLt_tri r s with q | q | q
      · exact .inl (.inr ⟨h, q⟩)
      · exact .inr (.inl ⟨h, q⟩)
      · exact .inr (.inr (.inr ⟨h.symm, q⟩))
    · exact .inr (.inr (.inl h))
theorem csLt_tr : ∀ {a b c : Cs}, csLt a b = true → csLt b c = true → csLt a c = true
  | _, _, [], _, h => by cases ‹Cs› <;> simp [csLt] at h
  | [], _, _ :: _, _, _ => rfl
  | a :: r, [], _ :: _, h, _ => by simp [csLt] at h
  | a :: r, b :: s, c :: t, h1, h2 => by
    simp only [csLt, Bool.or_eq_true, decide_eq_true_eq, Bool.and_eq_true, beq_iff_eq] at h1 h2 ⊢
    rcases h1 with h1 | ⟨h1, q1⟩
    · rcases h2 with h2 | ⟨h2, q2⟩
      · exact .inl (by omega)
      · exact .inl (by omega)
    · rcases h2 with h2 | ⟨h2, q2⟩
      · exact .inl (by omega)
      · exact .inr ⟨by omega, csLt_tr q1 q2⟩
theorem insC_mem {x y : Cs} : ∀ {l : List Cs}, y ∈ insC x l ↔ y = x ∨ y ∈ l
  | [] => by simp [insC]
  | z :: r => by
    unfold insC
    split
    · simp
    · simp only [List.mem_cons, insC_mem (l := r)]
      constructor
      · rintro (h | h | h) <;> simp [h]
      · rintro (h | h | h) <;> simp [h]
theorem sortC_mem {y : Cs} : ∀ {l : List Cs}, y ∈ sortC l ↔ y ∈ l
  | [] => Iff.rfl
  | x :: r => by simp only [sortC, insC_mem, sortC_mem (l := r), List.mem_cons]
/-- rising, each once -/
def Up (l : List Cs) : Prop := l.Pairwise fun a b => csLt a b = true
theorem insC_up {x : Cs} : ∀ {l : List Cs}, Up l → x ∉ l → Up (insC x l)
  | [], _, _ => by simp [insC, Up]
  | y :: r, h, n => by
    unfold insC
    have h := List.pairwise_cons.mp h
    simp only [List.mem_cons, not_or] at n
    split
    · rename_i q
      refine List.pairwise_cons.mpr ⟨fun z hz => ?_, List.pairwise_cons.mpr h⟩
      rcases List.mem_cons.mp hz with rfl | hz
      · exact q
      · exact csLt_tr q (h.1 z hz)
    · rename_i q
      refine List.pairwise_cons.mpr ⟨fun z hz => ?_, insC_up h.2 n.2⟩
      rcases insC_mem.mp hz with rfl | hz
      · rcases csLt_tri z y with p | p | p
        · exact absurd p q
        · exact absurd p n.1
        · exact p
      · exact h.1 z hz
theorem sortC_up : ∀ {l : List Cs}, l.Nodup → Up (sortC l)
  | [], _ => List.Pairwise.nil
  | x :: r, h => by
    have h := List.nodup_cons.mp h
    exact insC_up (sortC_up h.2) fun q => h.1 (sortC_mem.mp q)
theorem up_eq : ∀ {l k : List Cs}, Up l → Up k → (∀ s, s ∈ l ↔ s ∈ k) → l = k
  | [], [], _, _, _ => rfl
  | [], y :: k, _, _, h => absurd ((h y).mpr (by simp)) (by simp)
  | x :: l, [], _, _, h => absurd ((h x).mp (by simp)) (by simp)
  | x :: l, y :: k, hl, hk, h => by
    have hl := List.pairwise_cons.mp hl
    have hk := List.pairwise_cons.mp hk
    have e : x = y := by
      rcases List.mem_cons.mp ((h x).mp (by simp)) with e | m
      · exact e
      · rcases List.mem_cons.mp ((h y).mpr (by simp)) with e | m2
        · exact e.symm
        · have q := csLt_tr (hl.1 y m2) (hk.1 x m)
          rw [csLt_irr] at q
          cases q
    subst e
    have irr : ∀ {z : Cs} {m : List Cs}, (∀ a' ∈ m, csLt z a' = true) → z ∉ m := fun hm q => by
      have := hm _ q
      rw [csLt_irr] at this
      cases this
    rw [up_eq hl.2 hk.2 fun s => ⟨fun m => (List.mem_cons.mp ((h s).mp (List.mem_cons_of_mem _ m))).resolve_left fun e => irr hl.1 (e ▸ m), fun m => (List.mem_cons.mp ((h s).mpr (List.mem_cons_of_mem _ m))).resolve_left fun e => irr hk.1 (e ▸ m)⟩]
theorem once_len : ∀ l : List Cs, (once l).length ≤ l.length
  | [] => Nat.le_refl _
  | x :: r => by
    unfold once
    have := once_len r
    split
    · simp only [List.length_cons]; omega
    · simp only [List.length_cons]; omega
theorem upC_mem {s : Cs} {l : List Cs} : s ∈ upC l ↔ s ∈ l := by rw [upC, sortC_mem, once_mem]
theorem upC_eq {l k : List Cs} (hk : k.Nodup) (h : ∀ s, s ∈ k ↔ s ∈ l) : sortC k = upC l :=
  up_eq (sortC_up hk) (sortC_up (once_nd l)) fun s => by rw [sortC_mem, h, upC_mem]
theorem nd_sub : ∀ {k N : List Cs}, k.Nodup → (∀ s ∈ k, s ∈ N) → k.length ≤ N.length
  | [], _, _, _ => Nat.zero_le _
  | x :: k, N, hk, h => by
    have hk := List.nodup_cons.mp hk
    have hx := h x (by simp)
    have := nd_sub (N := N.erase x) hk.2 fun s hs => (List.mem_erase_of_ne (fun e => hk.1 (by rw [← e]; exact hs))).mpr (h s (by simp [hs]))
    have l := List.length_erase_of_mem hx
    have : 0 < N.length := List.length_pos_of_mem hx
    simp only [List.length_cons]
    omega
/-- the names' dict -/
def nmDct (k : List Cs) : List (D × D) := k.map fun s => (.str s, .bl true)
theorem nm_any {k : List Cs} {s : Cs} : (nmDct k).any (fun p => decide (p.1 = D.str s)) = decide (s ∈ k) := by
  induction k with
  | nil => rfl
  | cons a k ih =>
    simp only [nmDct, List.map_cons, List.any_cons] at ih ⊢
    rw [ih]
    by_cases e : a = s
    · simp [e]
    · simp [e, Ne.symm e]
theorem nm_put {k : List Cs} {s : Cs} : dput (nmDct k) (.str s) (.bl true) = nmDct (if s ∈ k then k else k ++ [s]) := by
  unfold dput
  rw [nm_any]
  by_cases e : s ∈ k
  · simp only [e, decide_true, if_true]
    unfold nmDct
    rw [List.map_map]
    apply List.map_congr_left
    intro a _
    by_cases q : a = s <;> simp [q]
  · simp [e, nmDct]
theorem allStr_map {l : List Cs} : allStr (l.map .str) = some l := by
  induction l with
  | nil => rfl
  | cons a l ih => simp [allStr, ih]
section
variable {h : Hs} {a b c : D} {l : List D}
theorem vw2L : vw (h ++ [a, .lst l]) (.ref (h.length + 1)) = .lst l := vw_ref (by simp) (by simp)
theorem vw2D {l : List (D × D)} : vw (h ++ [.dct l, b]) (.ref h.length) = .dct l := vw_ref (by simp) (by simp)
theorem gd2L : (h ++ [a, b]).getD (h.length + 1) .non = b := by simp
theorem gd2D : (h ++ [a, b]).getD h.length .non = a := by simp
theorem set2L : (h ++ [a, b]).set (h.length + 1) c = h ++ [a, c] := by simp
theorem set2D : (h ++ [a, b]).set h.length c = h ++ [c, b] := by simp
theorem app2 : h ++ [a] ++ [b] = h ++ [a, b] := by simp
theorem len_a1 : (h ++ [a]).length = h.length + 1 := by simp
end
theorem set_dS {l : List (D × D)} {s : Cs} {x : D} : setAt (.dct l) (.str s) x = if decide (l.length < line) then some (.dct (dput l (.str s) x)) else none := by simp [setAt, isKey]
theorem sorted_d {b : Nat} {h : Hs} {x : D} {l : List (D × D)} (e : vw h x = .dct l) : blt b h .sorted [x] = if decide (l.length < 64) then (allStr (l.map (·.1))).map fun l => .lst ((sortC l).map .str) else none := by simp only [blt, e]
theorem set_ld {b : Nat} {h : Hs} {l : List Cs} (hl : l.length < 4000) : blt b h .set [.lst (l.map .str)] = some (.lst ((upC l).map .str)) := by
  simp only [blt, vw]
  rw [allStr_map, List.length_map, decide_eq_true hl]
  rfl
theorem nm_keys {k : List Cs} : (nmDct k).map (·.1) = k.map .str := by simp [nmDct]
theorem nm_dlen {k : List Cs} : (nmDct k).length = k.length := by simp [nmDct]
end PV
set_option Elab.async false
set_option autoImplicit false
set_option maxRecDepth 100000
namespace PV
open PySem
/-- doubled by a wish -/
def dbl (w : Th) : Th → Th
  | .no => w
  | .bi .same t u => .bi .if_ (.bi .if_ (.bi .same t u) w) w
  | .bi .or a b => .bi .if_ (.bi .and (.bi .if_ (dbl w a) w) (.bi .if_ (dbl w b) w)) w
  | .un .some a => .bi .if_ (.un .all (.bi .if_ (dbl w a) w)) w
  | .bi b a c => .bi b (dbl w a) (dbl w c)
  | .un u a => .un u (dbl w a)
  | t => t
theorem dbl_sy {w : Th} (hw : syB 0 w = true) : ∀ {t : Th} {a : Int}, 0 ≤ a → syB a t = true → syB a (dbl w t) = true
  | .num i, a, ha, e => by simp [syB] at e
  | .name i, a, ha, e => by simp [syB] at e
  | .bound i, a, ha, e => by simp [syB] at e
  | .no, a, ha, e => syB_mono ha hw
  | .un u t, a, ha, e => by
    have m := syB_mono (b := a + 1) (by omega) hw
    have m0 := syB_mono (b := a) (by omega) hw
    cases u <;> simp only [syB] at e
    · cases e
    all_goals
      have i := dbl_sy hw (t := t) (a := a + 1) (by omega) e
      simp only [dbl, syB, i, m, m0, Bool.and_self]
  | .bi u s t, a, ha, e => by
    have m0 := syB_mono (b := a) (by omega) hw
    cases u <;> simp only [syB, Bool.and_eq_true] at e
    · cases e
    · cases e
    · simp only [dbl, syB, e.1, e.2, m0, Bool.and_self]
    all_goals
      have i := dbl_sy hw (t := s) ha e.1
      have j := dbl_sy hw (t := t) ha e.2
      simp only [dbl, syB, i, j, m0, Bool.and_self]
theorem dbl_dp {w : Th} : ∀ {t : Th} {a : Int}, syB a t = true → (dbl w t).dp ≤ 3 * t.dp + w.dp
  | .num i, a, e => by simp [syB] at e
  | .name i, a, e => by simp [syB] at e
  | .bound i, a, e => by simp [syB] at e
  | .no, a, e => by simp only [dbl, Th.dp]; omega
  | .un u t, a, e => by
    cases u <;> simp only [syB] at e
    · cases e
    all_goals
      have i := dbl_dp (w := w) (t := t) e
      simp only [dbl, Th.dp]; omega
  | .bi u s t, a, e => by
    cases u <;> simp only [syB, Bool.and_eq_true] at e
    · cases e
    · cases e
    · simp only [dbl, Th.dp]; omega
    all_goals
      have i := dbl_dp (w := w) (t := s) e.1
      have j := dbl_dp (w := w) (t := t) e.2
      simp only [dbl, Th.dp]; omega
theorem dbl_pcs {w : Th} : ∀ {t : Th} {a : Int}, syB a t = true → (dbl w t).pcs ≤ (4 * w.pcs + 5) * t.pcs
  | .num i, a, e => by simp [syB] at e
  | .name i, a, e => by simp [syB] at e
  | .bound i, a, e => by simp [syB] at e
  | .no, a, e => by simp only [dbl, Th.pcs]; omega
  | .un u t, a, e => by
    cases u <;> simp only [syB] at e
    · cases e
    all_goals
      have i := dbl_pcs (w := w) (t := t) e
      simp only [dbl, Th.pcs, Nat.mul_add, Nat.mul_one]; omega
  | .bi u s t, a, e => by
    cases u <;> simp only [syB, Bool.and_eq_true] at e
    · cases e
    · cases e
    · have := s.pcs_pos
      have := t.pcs_pos
      have h1 : 4 * w.pcs + 5 ≤ (4 * w.pcs + 5) * s.pcs := Nat.le_mul_of_pos_right _ (by omega)
      have h2 : s.pcs ≤ (4 * w.pcs + 5) * s.pcs := Nat.le_mul_of_pos_left _ (by omega)
      have h3 : t.pcs ≤ (4 * w.pcs + 5) * t.pcs := Nat.le_mul_of_pos_left _ (by omega)
      simp only [dbl, Th.pcs, Nat.mul_add, Nat.mul_one]; omega
    all_goals
      have i := dbl_pcs (w := w) (t := s) e.1
      have j := dbl_pcs (w := w) (t := t) e.2
      simp only [dbl, Th.pcs, Nat.mul_add, Nat.mul_one]; omega
theorem dbl_names {w : Th} : ∀ {t : Th} {a : Int}, syB a t = true → ∀ s ∈ (dbl w t).names, s ∈ t.names ∨ s ∈ w.names
  | .num i, a, e => by simp [syB] at e
  | .name i, a, e => by simp [syB] at e
  | .bound i, a, e => by simp [syB] at e
  | .no, a, e => fun s h => .inr h
  | .un u t, a, e => by
    cases u <;> simp only [syB] at e
    · cases e
    all_goals
      have i := dbl_names (w := w) (t := t) e
      intro s h
      simp only [dbl, Th.names, List.mem_append] at h ⊢
      have q := i s
      grind
  | .bi u s t, a, e => by
    cases u <;> simp only [syB, Bool.and_eq_true] at e
    · cases e
    · cases e
    · intro x h
      simp only [dbl, Th.names, List.mem_append] at h ⊢
      grind
    all_goals
      have i := dbl_names (w := w) (t := s) e.1
      have j := dbl_names (w := w) (t := t) e.2
      intro x h
      simp only [dbl, Th.names, List.mem_append] at h ⊢
      have := i x
      have := j x
      grind
/-- a name put in ahead or behind -/
theorem dbl_for {w o : Th} {s : Cs} (hw : ∀ k, w.chg (fF s o) k = w) : ∀ {t : Th} {a : Int} (k : Nat), syB a t = true → dbl w (t.chg (fF s o) k) = (dbl w t).chg (fF s o) k
  | .num i, a, k, e => by simp [syB] at e
  | .name i, a, k, e => by simp [syB] at e
  | .bound i, a, k, e => by simp [syB] at e
  | .no, a, k, e => by simp only [dbl, Th.chg, hw]
  | .un u t, a, k, e => by
    cases u <;> simp only [syB] at e
    · cases e
    all_goals
      have i := fun k => dbl_for hw (t := t) k e
      simp only [dbl, Th.chg, i, hw, U1.tk]
  | .bi u s t, a, k, e => by
    cases u <;> simp only [syB, Bool.and_eq_true] at e
    · cases e
    · cases e
    · simp only [dbl, Th.chg, hw]
    all_goals
      have i := fun k => dbl_for hw (t := s) k e.1
      have j := fun k => dbl_for hw (t := t) k e.2
      simp only [dbl, Th.chg, i, j, hw]
theorem for_same {s : Cs} {w o : Th} : ∀ (k : Nat), s ∉ w.names → w.chg (fF s o) k = w := by
  induction w with
  | name x =>
    intro k h
    simp only [Th.names, List.mem_singleton] at h
    simp only [Th.chg, fF]
    rw [if_neg (by simpa using Ne.symm h)]
  | un u a ih => intro k h; simp only [Th.chg, ih _ h]
  | bi b a c ih1 ih2 =>
    intro k h
    simp only [Th.names, List.mem_append, not_or] at h
    simp only [Th.chg, ih1 k h.1, ih2 k h.2]
  | _ => intro k h; simp [Th.chg, fF]
/-- a leaf becomes the bound that is out by 0 -/
def trn (o : Th) : Nat → Th → Th
  | k, .un u a => .un u (trn o (k + u.tk) a)
  | k, .bi b a c => .bi b (trn o k a) (trn o k c)
  | k, t => if t = o then .bound k else t
theorem trn_tm {o : Th} : ∀ {t : Th} {k : Nat}, tmB k t = true → tmB (k + 1) (trn o k t) = true
  | .num i, k, e => by
    unfold trn; split
    · simp [tmB]; omega
    · exact e
  | .name i, k, e => by
    unfold trn; split
    · simp [tmB]; omega
    · exact e
  | .bound i, k, e => by
    unfold trn; split
    · simp [tmB]; omega
    · exact tmB_mono (by omega) e
  | .no, k, e => by simp [tmB] at e
  | .un u t, k, e => by
    cases u <;> simp only [tmB] at e
    · exact trn_tm (t := t) (k := k) e
    all_goals cases e
  | .bi b t u, k, e => by
    cases b <;> simp only [tmB, Bool.and_eq_true] at e
    · simp only [trn, tmB, trn_tm e.1, trn_tm e.2, Bool.and_self]
    · simp only [trn, tmB, trn_tm e.1, trn_tm e.2, Bool.and_self]
    all_goals cases e
theorem trn_sy {o : Th} (ho : o ≠ .no) : ∀ {t : Th} {k : Nat}, syB k t = true → syB (k + 1) (trn o k t) = true
  | .num i, k, e => by simp [syB] at e
  | .name i, k, e => by simp [syB] at e
  | .bound i, k, e => by simp [syB] at e
  | .no, k, e => by
    unfold trn
    rw [if_neg (Ne.symm ho)]
    rfl
  | .un u t, k, e => by
    cases u <;> simp only [syB] at e
    · cases e
    all_goals
      have i := trn_sy ho (t := t) (k := k + 1) (by rw [← e]; congr 1)
      simp only [trn, syB, U1.tk]
      rw [← i]; congr 1
  | .bi b t u, k, e => by
    cases b <;> simp only [syB, Bool.and_eq_true] at e
    · cases e
    · cases e
    · simp only [trn, syB, trn_tm e.1, trn_tm e.2, Bool.and_self]
    all_goals simp only [trn, syB, trn_sy ho e.1, trn_sy ho e.2, Bool.and_self]
theorem trn_dp {o : Th} : ∀ (t : Th) (k : Nat), (trn o k t).dp = t.dp
  | .un u a, k => by simp only [trn, Th.dp, trn_dp a]
  | .bi b a c, k => by simp only [trn, Th.dp, trn_dp a, trn_dp c]
  | .num _, k | .name _, k | .bound _, k | .no, k => by unfold trn; split <;> rfl
theorem trn_pcs {o : Th} : ∀ (t : Th) (k : Nat), (trn o k t).pcs = t.pcs
  | .un u a, k => by simp only [trn, Th.pcs, trn_pcs a]
  | .bi b a c, k => by simp only [trn, Th.pcs, trn_pcs a, trn_pcs c]
  | .num _, k | .name _, k | .bound _, k | .no, k => by unfold trn; split <;> rfl
theorem trn_names {o : Th} : ∀ (t : Th) (k : Nat), ∀ s ∈ (trn o k t).names, s ∈ t.names
  | .un u a, k, s, h => trn_names a _ s h
  | .bi b a c, k, s, h => by
    simp only [trn, Th.names, List.mem_append] at h ⊢
    exact h.imp (trn_names a k s) (trn_names c k s)
  | .num _, k, s, h | .bound _, k, s, h | .no, k, s, h => by
    unfold trn at h
    split at h <;> simp [Th.names] at h
  | .name x, k, s, h => by
    unfold trn at h
    split at h
    · simp [Th.names] at h
    · exact h
/-! how long a text is at least -/
theorem tup1_len {a : Str} : a.length + 3 ≤ (tupleText [a]).length := by
  unfold tupleText
  rw [strLen_append, strLen_append]
  show _ ≤ 1 + a.length + 2
  omega
theorem tup2_len {a b : Str} : a.length + b.length + 4 ≤ (tupleText [a, b]).length := by
  unfold tupleText
  rw [strLen_append, strLen_append]
  show _ ≤ 1 + (a ++ (", " : Str) ++ b).length + 1
  rw [strLen_append, strLen_append]
  have : (", " : Str).length = 2 := rfl
  omega
theorem tup3_len {a b c : Str} : a.length + b.length + c.length + 6 ≤ (tupleText [a, b, c]).length := by
  unfold tupleText
  rw [strLen_append, strLen_append]
  show _ ≤ 1 + (a ++ (", " : Str) ++ (b ++ (", " : Str) ++ c)).length + 1
  rw [strLen_append, strLen_append, strLen_append, strLen_append]
  have : (", " : Str).length = 2 := rfl
  omega
theorem uw_len (u : U1) : 5 ≤ (PyData.shown (D.str u.w).py).length := by cases u <;> decide +kernel
theorem bw_len (b : B2) : 4 ≤ (PyData.shown (D.str b.w).py).length := by cases b <;> decide +kernel
/-- the length of a text is at least 8.5 signs for a piece, nearly -/
theorem th_len : ∀ t : Th, 17 * t.pcs ≤ 2 * (PyData.shown t.d.py).length + 3
  | .num i => by
    have h := tup2_len (a := PyData.shown (D.str [110, 117, 109]).py) (b := PyData.shown (D.int i).py)
    have : 5 ≤ (PyData.shown (D.str [110, 117, 109]).py).length := by decide +kernel
    simp only [Th.d, D.py, D.pyL, PyData.shown, PyData.shownAll, Th.pcs] at h this ⊢
    omega
  | .name i => by
    have h := tup2_len (a := PyData.shown (D.str [110, 97, 109, 101]).py) (b := PyData.shown (D.str i).py)
    have : 6 ≤ (PyData.shown (D.str [110, 97, 109, 101]).py).length := by decide +kernel
    simp only [Th.d, D.py, D.pyL, PyData.shown, PyData.shownAll, Th.pcs] at h this ⊢
    omega
  | .bound i => by
    have h := tup2_len (a := PyData.shown (D.str [98, 111, 117, 110, 100]).py) (b := PyData.shown (D.int i).py)
    have : 7 ≤ (PyData.shown (D.str [98, 111, 117, 110, 100]).py).length := by decide +kernel
    simp only [Th.d, D.py, D.pyL, PyData.shown, PyData.shownAll, Th.pcs] at h this ⊢
    omega
  | .no => by decide +kernel
  | .un u a => by
    have h := tup2_len (a := PyData.shown (D.str u.w).py) (b := PyData.shown a.d.py)
    have := uw_len u
    have := th_len a
    simp only [Th.d, D.py, D.pyL, PyData.shown, PyData.shownAll, Th.pcs] at *
    omega
  | .bi u a b => by
    have h := tup3_len (a := PyData.shown (D.str u.w).py) (b := PyData.shown a.d.py) (c := PyData.shown b.d.py)
    have := bw_len u
    have := th_len a
    have := th_len b
    simp only [Th.d, D.py, D.pyL, PyData.shown, PyData.shownAll, Th.pcs] at *
    omega
theorem shown_len (t : Th) : 17 * t.pcs ≤ 2 * (shown t.d).length + 3 := by
  have := th_len t
  unfold shown
  rw [Array.length_toList]
  exact this
end PV
set_option Elab.async false
set_option autoImplicit false
set_option maxRecDepth 100000
namespace PV
theorem chg_chg {f g : Th → Nat → Th} : ∀ (t : Th) (k : Nat), (t.chg f k).chg g k = t.chg (fun p j => (f p j).chg g j) k
  | .num _, _ => rfl
  | .no, _ => rfl
  | .name _, _ => rfl
  | .bound _, _ => rfl
  | .un u a, k => by simp only [Th.chg, chg_chg a]
  | .bi b a c, k => by simp only [Th.chg, chg_chg a, chg_chg c]
/-- f and g alike at the leaves that there are -/
theorem tm_cg {f g : Th → Nat → Th} {c : Int} {N : List Cs} (hf : ∀ p (j : Nat), leafy p = true → tmB (j + c) p = true → (∀ s, p = .name s → s ∈ N) → f p j = g p j) : ∀ (t : Th) (k : Nat), tmB (k + c) t = true → (∀ s ∈ t.names, s ∈ N) → t.chg f k = t.chg g k
  | .num i, k, e, n => rfl
  | .name s, k, e, n => hf _ k rfl e fun z h => by cases h; exact n s (by simp [Th.names])
  | .bound i, k, e, n => hf _ k rfl e fun z h => by cases h
  | .no, k, e, n => rfl
  | .un u t, k, e, n => by
    cases u <;> simp only [tmB] at e
    · simp only [Th.chg, U1.tk]; rw [tm_cg hf t (k + 0) e n]
    all_goals cases e
  | .bi b t u, k, e, n => by
    simp only [Th.names, List.mem_append] at n
    cases b <;> simp only [tmB, Bool.and_eq_true] at e
    · simp only [Th.chg]; rw [tm_cg hf t k e.1 fun s h => n s (.inl h), tm_cg hf u k e.2 fun s h => n s (.inr h)]
    · simp only [Th.chg]; rw [tm_cg hf t k e.1 fun s h => n s (.inl h), tm_cg hf u k e.2 fun s h => n s (.inr h)]
    all_goals cases e
theorem sy_cg {f g : Th → Nat → Th} {c : Int} {N : List Cs} (hf : ∀ p (j : Nat), leafy p = true → tmB (j + c) p = true → (∀ s, p = .name s → s ∈ N) → f p j = g p j) : ∀ (t : Th) (k : Nat), syB (k + c) t = true → (∀ s ∈ t.names, s ∈ N) → t.chg f k = t.chg g k
  | .num i, k, e, n => rfl
  | .name s, k, e, n => by simp [syB] at e
  | .bound i, k, e, n => by simp [syB] at e
  | .no, k, e, n => rfl
  | .un u t, k, e, n => by
    cases u <;> simp only [syB] at e
    · cases e
    all_goals simp only [Th.chg, U1.tk]; rw [sy_cg hf t (k + 1) (by rw [← e]; congr 1; simp; omega) n]
  | .bi b t u, k, e, n => by
    simp only [Th.names, List.mem_append] at n
    cases b <;> simp only [syB, Bool.and_eq_true] at e
    · cases e
    · cases e
    · simp only [Th.chg]; rw [tm_cg hf t k e.1 fun s h => n s (.inl h), tm_cg hf u k e.2 fun s h => n s (.inr h)]
    all_goals simp only [Th.chg]; rw [sy_cg hf t k e.1 fun s h => n s (.inl h), sy_cg hf u k e.2 fun s h => n s (.inr h)]
/-- the place is nothing to a name -/
theorem chg_F {s : Cs} {T : Th} : ∀ (t : Th) (j k : Nat), t.chg (fF s T) j = t.chg (fF s T) k
  | .num _, _, _ => rfl
  | .no, _, _ => rfl
  | .name _, _, _ => rfl
  | .bound _, _, _ => rfl
  | .un u a, j, k => by simp only [Th.chg]; rw [chg_F a (j + u.tk) (k + u.tk)]
  | .bi b a c, j, k => by simp only [Th.chg]; rw [chg_F a j k, chg_F c j k]
theorem F_self {s : Cs} : ∀ (t : Th) (k : Nat), t.chg (fF s (.name s)) k = t
  | .num _, _ => rfl
  | .no, _ => rfl
  | .name x, _ => by
    simp only [Th.chg, fF]
    split
    · rename_i e; exact e.symm
    · rfl
  | .bound _, _ => by simp [Th.chg, fF]
  | .un u a, k => by simp only [Th.chg, F_self a]
  | .bi b a c, k => by simp only [Th.chg, F_self a, F_self c]
/-- names behind it -/
theorem names_F {s x : Cs} {T : Th} : ∀ (t : Th) (k : Nat), x ∈ (t.chg (fF s T) k).names ↔ (x ∈ t.names ∧ x ≠ s) ∨ (s ∈ t.names ∧ x ∈ T.names)
  | .num _, _ => by simp [Th.chg, Th.names]
  | .no, _ => by simp [Th.chg, Th.names]
  | .name y, _ => by
    simp only [Th.chg, fF, Th.names, List.mem_singleton]
    split
    · rename_i e
      cases e
      simp only [true_and]
      exact ⟨.inr, fun h => h.elim (fun h => absurd h.1 h.2) id⟩
    · rename_i e
      have e : ¬ y = s := fun z => e (by rw [z])
      simp only [Th.names, List.mem_singleton]
      refine ⟨fun h => .inl ⟨h, fun z => e (by rw [← h, z])⟩, fun h => h.elim (·.1) fun h => absurd h.1.symm e⟩
  | .bound _, _ => by simp [Th.chg, fF, Th.names]
  | .un u a, k => by simp only [Th.chg, Th.names]; exact names_F a _
  | .bi b a c, k => by
    simp only [Th.chg, Th.names, List.mem_append]
    rw [names_F a k, names_F c k]
    grind
/-- taken away, then a term put in -/
theorem take_put {s : Cs} {S T : Th} (h : syB 0 S = true) : (S.chg (fT s) 0).chg (fB T) 0 = S.chg (fF s T) 0 := by
  rw [chg_chg]
  refine sy_cg (c := 0) (N := S.names) (fun p j hp e _ => ?_) S 0 (by simpa using h) fun s hs => hs
  cases p with
  | name x =>
    simp only [fT, fF]
    split
    · simp [Th.chg, fB]
    · simp [Th.chg, fB]
  | bound i =>
    simp only [tmB, Bool.and_eq_true, decide_eq_true_eq] at e
    have : ¬ i = (j : Int) := by omega
    simp [fT, fF, Th.chg, fB, this]
  | _ => cases hp
/-- a name of nowhere put in, then taken away -/
theorem put_take {z : Cs} {B : Th} {a : Int} (h : syB a B = true) (hz : z ∉ B.names) : (B.chg (fB (.name z)) 0).chg (fT z) 0 = B := by
  rw [chg_chg]
  refine sy_id (c := a) (N := B.names) (fun p j hp e n => ?_) B 0 (by simpa using h) fun s hs => hs
  cases p with
  | name x =>
    have : ¬ x = z := fun e => hz (e ▸ n x rfl)
    simp [fB, Th.chg, fT, this]
  | bound i =>
    simp only [fB]
    split
    · rename_i q
      simp [Th.chg, fT, q]
    · simp [Th.chg, fT]
  | _ => cases hp
/-- a name of nowhere put in, then a term for it -/
theorem put_for_z {z : Cs} {B T : Th} {a : Int} (h : syB a B = true) (hz : z ∉ B.names) : (B.chg (fB (.name z)) 0).chg (fF z T) 0 = B.chg (fB T) 0 := by
  rw [chg_chg]
  refine sy_cg (c := a) (N := B.names) (fun p j hp e n => ?_) B 0 (by simpa using h) fun s hs => hs
  cases p with
  | name x =>
    have : ¬ x = z := fun e => hz (e ▸ n x rfl)
    simp [fB, Th.chg, fF, this]
  | bound i =>
    simp only [fB]
    split
    · simp [Th.chg, fF]
    · simp [Th.chg, fF]
  | _ => cases hp
/-- two terms for two names, either way about -/
theorem for_for {s o : Cs} {S T U : Th} {a : Int} (h : syB a S = true) (hs : s ≠ o) (hU : s ∉ U.names) : (S.chg (fF s T) 0).chg (fF o U) 0 = (S.chg (fF o U) 0).chg (fF s (T.chg (fF o U) 0)) 0 := by
  rw [chg_chg, chg_chg]
  refine sy_cg (c := a) (N := S.names) (fun p j hp e n => ?_) S 0 (by simpa using h) fun s hs => hs
  cases p with
  | name x =>
    by_cases e1 : x = s
    · subst e1
      simp [fF, Th.chg, hs]
      exact chg_F T j 0
    · by_cases e2 : x = o
      · subst e2
        show (fF s T (.name x) j).chg (fF x U) j = (fF x U (.name x) j).chg (fF s (T.chg (fF x U) 0)) j
        have h1 : fF s T (.name x) j = .name x := by simp [fF, e1]
        have h2 : fF x U (.name x) j = U := by simp [fF]
        rw [h1, h2, for_same j hU]
        simp [Th.chg, fF]
      · simp [fF, Th.chg, e1, e2]
  | bound i => simp [fF, Th.chg]
  | _ => cases hp
theorem upC_cg {l k : List Cs} (h : ∀ s, s ∈ l ↔ s ∈ k) : upC l = upC k := by
  unfold upC
  exact up_eq (sortC_up (once_nd l)) (sortC_up (once_nd k)) fun s => by rw [sortC_mem, sortC_mem, once_mem, once_mem, h]
theorem insC_len {x : Cs} : ∀ l : List Cs, (insC x l).length = l.length + 1
  | [] => rfl
  | y :: r => by
    unfold insC
    split
    · rfl
    · rw [List.length_cons, insC_len r, List.length_cons]
theorem sortC_len : ∀ l : List Cs, (sortC l).length = l.length
  | [] => rfl
  | x :: r => by
    show (insC x (sortC r)).length = _
    rw [insC_len, sortC_len r, List.length_cons]
theorem upC_len {l : List Cs} : (upC l).length ≤ l.length := by
  unfold upC
  rw [sortC_len]
  exact once_len l
theorem depL_strs : ∀ l : List Cs, D.depL (l.map .str) = 0
  | [] => rfl
  | x :: r => by simp only [List.map_cons, D.depL, D.dep, depL_strs r]; rfl
theorem ne_strs {n : Nat} {l : List Cs} (h : ∀ s ∈ l, word s = true) : cop (8 * n + 300) .ne (.lst (l.map .str)) (.lst (l.map .str)) = some (.bl false) := by
  have f : (D.lst (l.map .str)).flat = true := flat_strs h
  rw [ne_r f f (by simp only [D.dep, depL_strs]; rfl), D.eqv_refl _ f]
  rfl
theorem fm_ne {s : Cs} : ∀ l : List Cs, [] ++ List.filterMap (fun x => if x = s then none else some (D.str x)) l = (l.filter fun x => decide (x ≠ s)).map .str
  | [] => rfl
  | x :: r => by
    have := fm_ne (s := s) r
    rw [List.nil_append] at this ⊢
    by_cases e : x = s
    · simp [e, this]
    · simp [e]
      simpa using this
theorem set_l2 {b : Nat} {h : Hs} {l k : List Cs} (hl : l.length + k.length < 4000) : blt b h .set [.lst (l.map .str ++ k.map .str)] = some (.lst ((upC (l ++ k)).map .str)) := by
  rw [← List.map_append]
  exact set_ld (by rw [List.length_append]; exact hl)
theorem ne_str {n : Nat} {x s : Cs} (hx : word x = true) (hs : word s = true) : cop (8 * n + 300) .ne (.str x) (.str s) = some (.bl (!decide (x = s))) := by
  rw [ne_r (D.flat_of_okd _ (word_okd hx)) (D.flat_of_okd _ (word_okd hs)) rfl]
  by_cases e : x = s <;> simp [D.eqv, e]
end PV
set_option Elab.async false
set_option autoImplicit false
set_option maxRecDepth 100000
namespace PV
/-- kinds without from -/
inductive Kd where | non | num | pair (a b : Kd) | eith (a b : Kd)
deriving DecidableEq
def Kd.d : Kd → D
  | .non => .tup [.str [110, 111, 110, 101]]
  | .num => .tup [.str [110, 117, 109, 98, 101, 114]]
  | .pair a b => .tup [.str [112, 97, 105, 114], a.d, b.d]
  | .eith a b => .tup [.str [101, 105, 116, 104, 101, 114], a.d, b.d]
def Kd.dep : Kd → Nat
  | .non | .num => 0
  | .pair a b | .eith a b => max a.dep b.dep + 1
abbrev cThis : Cs := [116, 104, 105, 115]
abbrev cThat : Cs := [116, 104, 97, 116]
def isW : Kd → D → Bool
  | .non, d => match d with
    | .non => true
    | _ => false
  | .num, d => match d with
    | .int i => decide (0 ≤ i) && decide (i < 1000000000000000000000000000000000000000000000000000000000000)
    | _ => false
  | .pair a b, d => match d with
    | .tup [x, y] => isW a x && isW b y
    | _ => false
  | .eith a b, d => match d with
    | .tup [.str s, y] => if s = cThis then isW a y else if s = cThat then isW b y else false
    | _ => false
theorem Kd.flat : ∀ k : Kd, k.d.flat = true
  | .non => by decide
  | .num => by decide
  | .pair a b => by
    have := a.flat; have := b.flat
    simp [Kd.d, D.flat, D.flatL, *]
  | .eith a b => by
    have := a.flat; have := b.flat
    simp [Kd.d, D.flat, D.flatL, *]
/-- flat sayings; seen ones -/
def flt : Th → Bool
  | .no => true
  | .bi .same _ _ => true
  | .bi .and a b => flt a && flt b
  | .bi .if_ a b => flt a && flt b
  | _ => false
def sei : Th → Bool
  | .no => true
  | .bi .same _ _ => true
  | .un .some a => sei a
  | .bi .and a b => sei a && sei b
  | .bi .or a b => sei a && sei b
  | .bi .if_ a b => flt a && sei b
  | _ => false
def kd : Th → Kd
  | .un .some a => if kd a = .non then .num else .pair .num (kd a)
  | .bi .or a b => .eith (kd a) (kd b)
  | .bi .if_ _ b => kd b
  | .bi .and a b => if kd a = .non then kd b else if kd b = .non then kd a else .pair (kd a) (kd b)
  | _ => .non
theorem kd_flt : ∀ {t : Th}, sei t = true → (kd t = .non ↔ flt t = true)
  | .num _, e | .name _, e | .bound _, e => by simp [sei] at e
  | .no, e => by simp [kd, flt]
  | .un u a, e => by
    cases u <;> simp only [sei] at e <;> try cases e
    simp only [kd, flt]
    split <;> simp
  | .bi b s t, e => by
    cases b <;> simp only [sei, Bool.and_eq_true] at e
    · cases e
    · cases e
    · simp [kd, flt]
    · have i := kd_flt e.1
      have j := kd_flt e.2
      simp only [kd, flt, Bool.and_eq_true, ← i, ← j]
      by_cases h1 : kd s = .non
      · simp [h1]
      · by_cases h2 : kd t = .non
        · simp [h1, h2]
        · simp [h1, h2]
    · simp [kd, flt]
    · have j := kd_flt e.2
      simp only [kd, flt, Bool.and_eq_true, j, e.1, true_and]
theorem flt_see : ∀ {t : Th}, flt t = true → sei t = true
  | .num _, e | .name _, e | .bound _, e => by simp [flt] at e
  | .no, e => rfl
  | .un u a, e => by simp [flt] at e
  | .bi b s t, e => by
    cases b <;> simp only [flt, Bool.and_eq_true] at e
    · cases e
    · cases e
    · rfl
    · simp only [sei, flt_see e.1, flt_see e.2, Bool.and_self]
    · cases e
    · simp only [sei, e.1, flt_see e.2, Bool.and_self]
theorem kd_dep : ∀ t : Th, (kd t).dep ≤ t.dp
  | .num _ | .name _ | .bound _ | .no => by simp [kd, Kd.dep]
  | .un u a => by
    have := kd_dep a
    cases u <;> simp only [kd, Kd.dep, Th.dp] <;> try omega
    split <;> simp only [Kd.dep] <;> omega
  | .bi b s t => by
    have := kd_dep s
    have := kd_dep t
    cases b <;> simp only [kd, Kd.dep, Th.dp] <;> try omega
    split
    · omega
    · split
      · omega
      · simp only [Kd.dep]; omega
/-- worth of a closed term; truth of a closed flat saying -/
def val : Th → Int
  | .num i => i
  | .un .next t => val t + 1
  | .bi .plus t u => val t + val u
  | .bi .times t u => val t * val u
  | _ => 0
def tru : Th → Bool
  | .bi .same t u => decide (val t = val u)
  | .bi .and a b => tru a && tru b
  | .bi .if_ a b => tru b || !tru a
  | _ => false
/-- terms of small numbers and bounds, two within one another; sayings of them -/
def lfS (a : Nat) : Th → Bool
  | .num i => decide (0 ≤ i) && decide (i < 100)
  | .bound i => decide (0 ≤ i) && decide (i < a)
  | _ => false
def tSy (a : Nat) : Th → Bool
  | .un .next t => lfS a t
  | .bi .plus t u => lfS a t && lfS a u
  | .bi .times t u => lfS a t && lfS a u
  | t => lfS a t
def sS : Nat → Th → Bool
  | _, .no => true
  | a, .bi .same t u => tSy a t && tSy a u
  | a, .un .some t => sS (a + 1) t
  | a, .bi .and s t => sS a s && sS a t
  | a, .bi .or s t => sS a s && sS a t
  | a, .bi .if_ s t => sS a s && sS a t
  | _, _ => false
theorem lfS_tm {a : Nat} : ∀ {t : Th}, lfS a t = true → tmB a t = true
  | .num i, e => by simp [lfS] at e; simp [tmB]; omega
  | .bound i, e => by simpa [lfS, tmB] using e
  | .name _, e | .no, e | .un _ _, e | .bi _ _ _, e => by simp [lfS] at e
theorem tS_tm {a : Nat} : ∀ {t : Th}, tSy a t = true → tmB a t = true
  | .num i, e => lfS_tm (t := .num i) e
  | .bound i, e => lfS_tm (t := .bound i) e
  | .name _, e | .no, e => by simp [tSy, lfS] at e
  | .un u t, e => by
    cases u <;> simp only [tSy, lfS] at e
    · exact lfS_tm (t := t) e
    all_goals cases e
  | .bi b t u, e => by
    cases b <;> simp only [tSy, lfS, Bool.and_eq_true] at e
    · simp only [tmB, lfS_tm e.1, lfS_tm e.2, Bool.and_self]
    · simp only [tmB, lfS_tm e.1, lfS_tm e.2, Bool.and_self]
    all_goals cases e
theorem sS_sy : ∀ {t : Th} {a : Nat}, sS a t = true → syB a t = true
  | .num _, a, e | .name _, a, e | .bound _, a, e => by simp [sS] at e
  | .no, a, e => rfl
  | .un u t, a, e => by
    cases u <;> simp only [sS] at e <;> try cases e
    have := sS_sy (t := t) e
    simpa [syB] using this
  | .bi b t u, a, e => by
    cases b <;> simp only [sS, Bool.and_eq_true] at e
    · cases e
    · cases e
    · simp only [syB, tS_tm e.1, tS_tm e.2, Bool.and_self]
    all_goals simp only [syB, sS_sy e.1, sS_sy e.2, Bool.and_self]
theorem lfS_val {t : Th} (e : lfS 0 t = true) : 0 ≤ val t ∧ val t < 100 := by
  cases t <;> simp [lfS] at e
  · simp only [val]; omega
  · omega
theorem tS_val {t : Th} (e : tSy 0 t = true) : 0 ≤ val t ∧ val t < 10000 := by
  cases t with
  | num i => have := lfS_val (t := .num i) e; omega
  | bound i => have := lfS_val (t := .bound i) e; omega
  | name _ => simp [tSy, lfS] at e
  | no => simp [tSy, lfS] at e
  | un u t =>
    cases u <;> simp only [tSy, lfS] at e
    · have := lfS_val e
      simp only [val]; omega
    all_goals cases e
  | bi b t u =>
    cases b <;> simp only [tSy, lfS, Bool.and_eq_true] at e
    · have := lfS_val e.1
      have := lfS_val e.2
      simp only [val]; omega
    · have h1 := lfS_val e.1
      have h2 := lfS_val e.2
      simp only [val]
      refine ⟨Int.mul_nonneg h1.1 h2.1, ?_⟩
      have : val t * val u ≤ 99 * 99 := Int.mul_le_mul (by omega) (by omega) h2.1 (by omega)
      omega
    all_goals cases e
/-- a number put in for the outermost bound -/
theorem lfS_put {a : Nat} {i : Int} (h0 : 0 ≤ i) (h1 : i < 100) : ∀ {t : Th}, lfS (a + 1) t = true → lfS a (t.chg (fB (.num i)) a) = true
  | .num j, e => e
  | .bound j, e => by
    simp only [Th.chg, fB]
    split
    · simp [lfS, h0, h1]
    · rename_i n
      simp [lfS] at e ⊢
      have : ¬ j = (a : Int) := fun z => n (by rw [z])
      omega
  | .name _, e | .no, e | .un _ _, e | .bi _ _ _, e => by simp [lfS] at e
theorem lfS_tS {a : Nat} {t : Th} (e : lfS a t = true) : tSy a t = true := by
  cases t <;> first | exact e | simp [lfS] at e
theorem tS_put {a : Nat} {i : Int} (h0 : 0 ≤ i) (h1 : i < 100) : ∀ {t : Th}, tSy (a + 1) t = true → tSy a (t.chg (fB (.num i)) a) = true
  | .num j, e => e
  | .bound j, e => lfS_tS (lfS_put h0 h1 (t := .bound j) e)
  | .name _, e | .no, e => by simp [tSy, lfS] at e
  | .un u t, e => by
    cases u <;> simp only [tSy, lfS] at e
    · simpa [Th.chg, tSy, U1.tk] using lfS_put h0 h1 e
    all_goals cases e
  | .bi b t u, e => by
    cases b <;> simp only [tSy, lfS, Bool.and_eq_true] at e
    · simp only [Th.chg, tSy, lfS_put h0 h1 e.1, lfS_put h0 h1 e.2, Bool.and_self]
    · simp only [Th.chg, tSy, lfS_put h0 h1 e.1, lfS_put h0 h1 e.2, Bool.and_self]
    all_goals cases e
theorem sS_put {i : Int} (h0 : 0 ≤ i) (h1 : i < 100) : ∀ {t : Th} {a : Nat}, sS (a + 1) t = true → sS a (t.chg (fB (.num i)) a) = true
  | .num _, a, e | .name _, a, e | .bound _, a, e => by simp [sS] at e
  | .no, a, e => rfl
  | .un u t, a, e => by
    cases u <;> simp only [sS] at e <;> try cases e
    simpa [Th.chg, sS, U1.tk] using sS_put h0 h1 (t := t) e
  | .bi b t u, a, e => by
    cases b <;> simp only [sS, Bool.and_eq_true] at e
    · cases e
    · cases e
    · simp only [Th.chg, sS, tS_put h0 h1 e.1, tS_put h0 h1 e.2, Bool.and_self]
    all_goals simp only [Th.chg, sS, sS_put h0 h1 e.1, sS_put h0 h1 e.2, Bool.and_self]
theorem flt_chg {f : Th → Nat → Th} : ∀ (t : Th) (a k : Nat), sS a t = true → flt (t.chg f k) = flt t ∧ sei (t.chg f k) = sei t ∧ kd (t.chg f k) = kd t
  | .num _, a, k, e | .name _, a, k, e | .bound _, a, k, e => by simp [sS] at e
  | .no, a, k, e => ⟨rfl, rfl, rfl⟩
  | .un u t, a, k, e => by
    cases u <;> simp only [sS] at e <;> try cases e
    obtain ⟨h1, h2, h3⟩ := flt_chg (f := f) t (a + 1) (k + U1.some.tk) e
    simp only [Th.chg, flt, sei, kd, h2, h3, and_self]
  | .bi b t u, a, k, e => by
    cases b <;> simp only [sS, Bool.and_eq_true] at e
    · cases e
    · cases e
    · simp [Th.chg, flt, sei, kd]
    all_goals
      obtain ⟨h1, h2, h3⟩ := flt_chg (f := f) t a k e.1
      obtain ⟨g1, g2, g3⟩ := flt_chg (f := f) u a k e.2
      simp only [Th.chg, flt, sei, kd, h1, h2, h3, g1, g2, g3, and_self]
/-- both sides of an and -/
def sid (a b : Th) (x : D) : D × D := if flt a then (.non, x) else if flt b then (x, .non) else match x with
  | .tup [p, q] => (p, q)
  | _ => (.non, .non)
def snd (a : Th) (x : D) : Int × D := if flt a then (match x with
    | .int i => (i, .non)
    | _ => (0, .non)) else match x with
  | .tup [.int i, y] => (i, y)
  | _ => (0, .non)
/-- borne out -/
def brn : Nat → Th → D → Bool
  | 0, _, _ => false
  | n + 1, t, x => if flt t then tru t else match t with
    | .bi .and a b => brn n a (sid a b x).1 && brn n b (sid a b x).2
    | .bi .or a b => (match x with
      | .tup [.str w, y] => brn n (if w = cThat then b else a) y
      | _ => false)
    | .bi .if_ a b => !tru a || brn n b x
    | .un .some a => brn n (a.chg (fB (.num (snd a x).1)) 0) (snd a x).2
    | _ => false
/-! no number between a hundred and what is too great -/
mutual
def sm : D → Bool
  | .int i => decide (i < 100) || decide (1000000000000000000000000000000000000000000000000000000000000 ≤ i)
  | .tup l => smL l
  | .lst l => smL l
  | _ => true
def smL : List D → Bool
  | [] => true
  | x :: r => sm x && smL r
end
theorem smL_iff : ∀ {l : List D}, smL l = true ↔ ∀ x ∈ l, sm x = true
  | [] => by simp [smL]
  | x :: r => by simp [smL, smL_iff (l := r)]
/-- of the parts -/
theorem sid_w {a b : Th} {x : D} (sa : sei a = true) (sb : sei b = true) (f : flt (.bi .and a b) = false) (h : isW (kd (.bi .and a b)) x = true) (m : sm x = true) :
    isW (kd a) (sid a b x).1 = true ∧ isW (kd b) (sid a b x).2 = true ∧ sm (sid a b x).1 = true ∧ sm (sid a b x).2 = true := by
  have ka := kd_flt sa
  have kb := kd_flt sb
  simp only [kd] at h
  unfold sid
  by_cases h1 : flt a = true
  · have k1 := ka.mpr h1
    rw [if_pos k1] at h
    rw [if_pos h1, k1]
    exact ⟨rfl, h, rfl, m⟩
  · have k1 : kd a ≠ .non := fun z => h1 (ka.mp z)
    rw [if_neg k1] at h
    rw [if_neg h1]
    by_cases h2 : flt b = true
    · have k2 := kb.mpr h2
      rw [if_pos k2] at h
      rw [if_pos h2, k2]
      exact ⟨h, rfl, m, rfl⟩
    · have k2 : kd b ≠ .non := fun z => h2 (kb.mp z)
      rw [if_neg k2] at h
      rw [if_neg h2]
      simp only [isW] at h
      split at h
      · simp only [Bool.and_eq_true] at h
        simp only [sm, smL, Bool.and_eq_true] at m
        exact ⟨h.1, h.2, m.1, m.2.1⟩
      · cases h
theorem snd_w {a : Th} {x : D} (sa : sei a = true) (h : isW (kd (.un .some a)) x = true) (m : sm x = true) :
    0 ≤ (snd a x).1 ∧ (snd a x).1 < 100 ∧ isW (kd a) (snd a x).2 = true ∧ sm (snd a x).2 = true ∧ (x = if flt a then .int (snd a x).1 else .tup [.int (snd a x).1, (snd a x).2]) := by
  have ka := kd_flt sa
  simp only [kd] at h
  unfold snd
  by_cases h1 : flt a = true
  · have k1 := ka.mpr h1
    rw [if_pos k1] at h
    simp only [if_pos h1, k1]
    simp only [isW] at h
    split at h
    · simp only [Bool.and_eq_true, decide_eq_true_eq] at h
      simp only [sm, Bool.or_eq_true, decide_eq_true_eq] at m
      exact ⟨h.1, by omega, rfl, rfl, rfl⟩
    · cases h
  · have k1 : kd a ≠ .non := fun z => h1 (ka.mp z)
    rw [if_neg k1] at h
    simp only [if_neg h1]
    simp only [isW] at h
    split at h
    · rename_i p q
      simp only [Bool.and_eq_true] at h
      simp only [sm, smL, Bool.and_eq_true] at m
      split at h
      · rename_i i
        simp only [Bool.and_eq_true, decide_eq_true_eq] at h
        have m1 := m.1
        simp only [sm, Bool.or_eq_true, decide_eq_true_eq] at m1
        exact ⟨h.1.1, by simp only; omega, h.2, m.2.1, rfl⟩
      · simp at h
    · cases h
theorem vw_exc {h : Hs} {c : Nat} {l : List D} : vw h (.exc c l) = .exc c l := id rfl
theorem isx_d {h : Hs} {b c : Nat} {l : List D} {cs ds : List Nat} : blt b h (.isx cs ds) [.exc c l] = some (.bl (cs.contains c || ds.contains c)) := id rfl
theorem flda_e {P : Prog} {k : Cs} {c : Nat} {l : List D} : fldAt P k (.exc c l) = (P.fix c k).bind fun j => l[j]? := id rfl
end PV
open PV
local macro_rules
  | `(tactic| simp_arith [$xs,*]) => `(tactic| simp (disch := first | assumption | exact id rfl | (simp only [D.flat, D.flatL, flat_ints, Bool.and_self, Bool.and_true, *]; done) | fail) only [vw_exc, isx_d, flda_e, q_try, kx_mk, kz_mk, r_ex, q_raise, q_hcons, q_hnil, w_fld, setsOf_n, setsOf_c, w_capp, w_calll, w_callp, rev_t, rev_l, in_dS, nin_dS, item_dS, dctOf_n, dctOf_c, dput_n, dput_ne, Int.add_zero, kix_s, kin_s, knin_s, th_zip, seqS_t, seqS_l, seqS_s, zipD_c, zipD_n, zipD_n2, fine_zl, fine_zt, isin2_d, Option.isSome_some, Option.isSome_none, Pat.slotsL, List.append_nil, small_10, for_n, for_c, eqvL_nil, eqvL_nil2, isE_app, isE_map, Int.reducePow, Nat.reducePow, vw_appL, vw_appD, gD_app, set_app, ty_pop, ty_ext, ty_app, mt_pop, mt_extL, mt_app, box_lst, box_dct, asF_fn, len_s, th_str, stay_str, stay_non, stay_bl, in_s, nin_s, kget_s, dget_s, dget_n, Option.getD_some, Option.getD_none, allBl_map, List.replicate, r_ok, r_then, kt_mk, kn_mk, kp_mk, o_some, o_if, o_map, o_bind, br_t, br_f, br_not, w_cst, w_var, w_op, w_neg, w_not, w_cmp, w_chain, w_and, w_or, w_ife, w_tup, w_lst, w_dct, w_idx, w_slc, w_rev, w_call, w_app, w_blt, w_mut, w_lam, w_box, w_frz, w_nil, w_cons, wT_nil, wT_one, w_comp, w_compF, q_nil, q_cons, q_asg, q_par, q_aug, q_sset, q_del, q_ife, q_for, q_forF, q_ret, q_expr, q_pass, q_brk, q_cont, Int.reduceAdd, Int.reduceSub, Int.reduceMul, Int.reduceNeg, Int.reduceEq, Int.reduceBEq, Int.reduceLT, Int.reduceLE, Int.reduceToNat, Nat.reduceAdd, Nat.reduceSub, Nat.reduceMul, Nat.reduceEqDiff, Nat.reduceBEq, Nat.reduceLT, Nat.reduceLeDiff, Bool.or_true, Bool.true_or, Bool.false_or, Bool.and_true, Bool.true_and, Bool.and_false, Bool.false_and, decide_true, decide_false, reduceCtorEq, Int.zero_add, Int.cast_ofNat_Int, Int.natCast_add, Int.natCast_one, Int.natCast_zero, List.getD_cons_zero, List.getD_cons_succ, List.set_cons_zero, List.set_cons_succ, bnd_nm, bnd_st, bnd_tp, bnd_stL, bnd_tpL, bndL_n, bndL_c, setsN_n, setsN_c, all_l, any_l, allBl_n, allBl_c, List.all_cons, List.all_nil, id_eq, max_ii, min_ii, turns_n, turns_c, addO, List.take_succ_cons, List.take_zero, List.drop_succ_cons, List.drop_zero, Nat.le_add_left, vw_flat, vw_int, vw_bl, vw_str, vw_tup, vw_lst, vw_dct, vw_non, vw_fn, add_ii, add_tt, add_ll, add_ss, sub_ii, mul_ii, fdiv_ii, mod_ii, pow_ii, lt_ii, le_ii, gt_ii, ge_ii, eq_ii, ne_ii, eq_bb, ne_bb, is_bb, isnot_bb, is_xn, isnot_xn, bne_self_eq_false, ne_eq, not_true_eq_false, not_false_eq_true, beq_self_eq_true, isin_d, ty_non, ty_bl, ty_int, ty_str, ty_tup, ty_lst, ty_dct, List.cons_beq_cons, List.nil_beq_eq, List.beq_nil_eq, List.isEmpty_cons, List.isEmpty_nil, eqv_nil, eq_r, ne_r, in_r, nin_r, in_l, nin_l, cut_lo1, cut_lo2, cut_lo3, cut_hi1, cut_hi2, cut_hi3, okLen_eq, List.length_append, D.eqv, D.eqvL, List.any_cons, List.any_nil, Bool.or_false, List.length_cons, trim_set, trim_id, isin_d, ty_non, ty_bl, ty_int, ty_str, ty_tup, ty_lst, ty_dct, eqv_nil, eq_r, ne_r, in_r, nin_r, in_l, nin_l, cut_lo1, cut_lo2, cut_lo3, cut_hi1, cut_hi2, cut_hi3, okLen_eq, List.length_append, D.eqv, D.eqvL, List.any_cons, List.any_nil, Bool.or_false, List.length_cons, trim_set, trim_id, asB_bl, asI_int, asR_ref, len_t, len_l, th_range, th_range2, th_tup, th_lst, fine_tup, fine_lst, stay_nil, stay_int, stay_lst, stay_tup, Pat.slots, wipeE, item_t, item_l, list_l, list_t, int_b, int_i, reduceIte, tuple_l, abs_i, slc_t, slc_l, optInt, bd_eq, Bool.not_true, Bool.not_false, decide_eq_true_eq, Bool.true_eq_false, Bool.false_eq_true, Bool.not_eq_true', decide_eq_false_iff_not, true_and, and_true, beq_iff_eq, vw_setL, gD_set, List.set_set, atI_0, atI_1, atI_2, atI_3, atI_4, set_0, set_1, set_2, set_3, List.length_cons, List.length_nil, List.length_map, Option.map_some, Option.bind_some, Option.some.injEq, List.map_cons, List.map_nil, List.nil_append, List.cons_append, $xs,*])
namespace Lw
open PySem PySem.Spec PyProof.Rows L2 PV
/-- the rows of the text -/
def top (i : Nat) : Stmt := PySem.Challenge.pw_prooffruit_k04_worths_of_terms.main.body.getD i (.Pass ⟨0, 0, 0, 0⟩)
def dd (i : Nat) (x : Str) : He.DefD := ⟨(x, none), x, x, defArgs (top i), defBody (top i), defScope (top i), [], []⟩
def cb (i : Nat) : List Stmt := match top i with
  | .ClassDef _ _ _ b _ _ _ _ _ _ _ => b
  | _ => []
def mm (i j : Nat) (x m : Str) : He.DefD := ⟨(x, some m), m, x ++ "." ++ m, defArgs ((cb i).getD j (.Pass ⟨0, 0, 0, 0⟩)), defBody ((cb i).getD j (.Pass ⟨0, 0, 0, 0⟩)), defScope ((cb i).getD j (.Pass ⟨0, 0, 0, 0⟩)), [], []⟩
def defs : List He.DefD := dd 9 "bounded" :: dd 10 "worth" :: dd 12 "_law_feed" :: dd 13 "_law_take" :: dd 14 "_law_pick" :: dd 15 "_law_leaf" :: dd 16 "_law_term" :: dd 17 "_law_worth" :: dd 18 "_law_told" :: dd 19 "law" :: mm 2 0 "NoText" "__init__" :: mm 3 0 "NoNumber" "__init__" :: mm 4 0 "NoGround" "__init__" :: mm 5 0 "NoWorth" "__init__" :: []
def gl : List (Str × Gv) := ("bounded", .fn 75) :: ("worth", .fn 76) :: ("_law_feed", .fn 18) :: ("_law_take", .fn 19) :: ("_law_pick", .fn 20) :: ("_law_leaf", .fn 21) :: ("_law_term", .fn 22) :: ("_law_worth", .fn 85) :: ("_law_told", .fn 86) :: ("law", .fn 87) :: ("MOST_NUMBER", .cst (.int (1000000000000000000000000000000000000000000000000000000000000))) :: ("GroundError", .cls 0 [0] []) :: ("NoText", .cls 4 [4, 0] ["at"]) :: ("NoNumber", .cls 1 [1, 0] ["name"]) :: ("NoGround", .cls 5 [5, 0] ["place", "word"]) :: ("NoWorth", .cls 2 [2, 0] ["thing"]) :: ("TooMany", .cls 3 [3, 0] []) :: []
def bl : List Str := ["len", "repr", "int", "abs", "min", "max", "range", "isinstance", "bool", "ValueError"]
def num : List Nat := [75, 76, 18, 19, 20, 21, 22, 85, 86, 87]
def rd0 : Rd1 := ⟨["number"], ["number"], [], [], none, []⟩
def rd1 : Rd1 := ⟨["term", "numbers"], ["term", "numbers", "word", "one", "parts", "others", "part"], [], [], none, []⟩
def rd2 : Rd1 := ⟨["_law_script", "_law_k"], ["_law_script", "_law_k", "_law_seed", "_law_digits"], [], ["return"], none, []⟩
def rd3 : Rd1 := ⟨["_law_feed_here", "_law_many"], ["_law_feed_here", "_law_many", "_law_found"], [], [], none, []⟩
def rd4 : Rd1 := ⟨["_law_feed_here", "_law_some"], ["_law_feed_here", "_law_some"], [], [], none, []⟩
def rd5 : Rd1 := ⟨["_law_feed_here", "_law_names", "_law_around"], ["_law_feed_here", "_law_names", "_law_around", "_law_way"], [], [], none, []⟩
def rd6 : Rd1 := ⟨["_law_feed_here", "_law_deep", "_law_names", "_law_around"], ["_law_feed_here", "_law_deep", "_law_names", "_law_around", "_law_word", "_law_one"], [], [], none, []⟩
def rd7 : Rd1 := ⟨["_law_term_here", "_law_numbers"], ["_law_term_here", "_law_numbers", "_law_some", "_law_one", "_law_found"], ["_law_some"], [], none, []⟩
def rd8 : Rd1 := ⟨["_law_term_here", "_law_numbers"], ["_law_term_here", "_law_numbers", "_law_found", "_law_caught", "e"], [], [], none, []⟩
def rd9 : Rd1 := ⟨["_law_script"], ["_law_script", "_law_k", "_law_feed_here", "_law_letters", "_law_names", "_law_turn", "_law_term_here", "_law_numbers", "_law_name", "_law_kept", "_law_due", "_law_found", "_law_great", "_law_place"], ["_law_feed_here", "_law_names", "_law_numbers"], [], none, []⟩
def fxs : List (Nat × List Cs) := [(4, [[97, 116]]), (1, [[110, 97, 109, 101]]), (5, [[112, 108, 97, 99, 101], [119, 111, 114, 100]]), (2, [[116, 104, 105, 110, 103]])]
def ini : List (Str × Nat × List Str) := ("NoText", 10, ["at"]) :: ("NoNumber", 11, ["name"]) :: ("NoGround", 12, ["place", "word"]) :: ("NoWorth", 13, ["thing"]) :: []
def dsc : Dsc := ⟨num, [], [], gl, bl, fxs, ini⟩
def rds : List Rd1 := [rd0, rd1, rd2, rd3, rd4, rd5, rd6, rd7, rd8, rd9]
def fd75 : Fd := ⟨1, 1, (.cons (.ife (.cmp .ge (.var 0) (.cst (.int (1000000000000000000000000000000000000000000000000000000000000)))) (.cons (.raise 3 .nil) .nil) .nil) (.cons (.ret (.var 0)) .nil))⟩
def fd76 : Fd := ⟨2, 7, (.cons (.asg (.st [2] 4) (.var 0)) (.cons (.ife (.cmp .eq (.var 2) (.cst (.str [110, 117, 109]))) (.cons (.ret (.idx (.var 4) (.cst (.int (0))))) .nil) .nil) (.cons (.ife (.cmp .eq (.var 2) (.cst (.str [110, 97, 109, 101]))) (.cons (.ife (.cmp .nin (.idx (.var 4) (.cst (.int (0)))) (.var 1)) (.cons (.raise 1 (.cons (.idx (.var 4) (.cst (.int (0)))) .nil)) .nil) .nil) (.cons (.ret (.call 75 (.cons (.idx (.var 1) (.idx (.var 4) (.cst (.int (0))))) .nil))) .nil)) .nil) (.cons (.asg (.st [3] 5) (.comp (.nm 6) .plain (.cons (.var 4) .nil) .nil (.call 76 (.cons (.var 6) (.cons (.var 1) .nil))))) (.cons (.ife (.cmp .eq (.var 2) (.cst (.str [110, 101, 120, 116]))) (.cons (.ret (.call 75 (.cons (.op .add (.var 3) (.cst (.int (1)))) .nil))) .nil) .nil) (.cons (.ret (.call 75 (.cons (.ife (.cmp .eq (.var 2) (.cst (.str [112, 108, 117, 115]))) (.op .add (.var 3) (.idx (.var 5) (.cst (.int (0))))) (.op .mul (.var 3) (.idx (.var 5) (.cst (.int (0)))))) .nil))) .nil))))))⟩
def fd18 : Fd := ⟨2, 4, (.cons (.asg (.nm 2) (.op .add (.op .mul (.cst (.int (67))) (.var 1)) (.cst (.int (19))))) (.cons (.ife (.cmp .lt (.var 1) (.blt .len (.cons (.var 0) .nil))) (.cons (.asg (.nm 2) (.idx (.var 0) (.var 1))) .nil) .nil) (.cons (.asg (.nm 3) (.cst (.int (0)))) (.cons (.ife (.cmp .ge (.blt .abs (.cons (.var 2) .nil)) (.op .pow (.cst (.int (10))) (.cst (.int (18))))) (.cons (.asg (.nm 3) (.op .sub (.blt .abs (.cons (.var 2) .nil)) (.op .pow (.cst (.int (10))) (.cst (.int (18)))))) .nil) .nil) (.cons (.ret (.box (.lst (.cons (.var 3) (.cons (.op .mod (.op .add (.op .add (.op .mul (.var 2) (.cst (.int (6364136223846793005)))) (.op .mul (.cst (.int (7919))) (.var 1))) (.cst (.int (1442695040888963407)))) (.cst (.int (2305843009213693951)))) .nil))))) .nil)))))⟩
def fd19 : Fd := ⟨2, 3, (.cons (.ife (.cmp .gt (.idx (.var 0) (.cst (.int (0)))) (.cst (.int (0)))) (.cons (.asg (.nm 2) (.op .mod (.idx (.var 0) (.cst (.int (0)))) (.var 1))) (.cons (.sset (.var 0) (.cst (.int (0))) (.op .fdiv (.idx (.var 0) (.cst (.int (0)))) (.var 1))) (.cons (.ret (.var 2)) .nil))) .nil) (.cons (.sset (.var 0) (.cst (.int (1))) (.op .mod (.op .add (.op .mul (.idx (.var 0) (.cst (.int (1)))) (.cst (.int (48271)))) (.cst (.int (12345)))) (.cst (.int (2305843009213693951))))) (.cons (.ret (.op .mod (.op .fdiv (.idx (.var 0) (.cst (.int (1)))) (.cst (.int (2097152)))) (.var 1))) .nil)))⟩
def fd20 : Fd := ⟨2, 2, (.cons (.ret (.idx (.var 1) (.call 19 (.cons (.var 0) (.cons (.blt .len (.cons (.var 1) .nil)) .nil))))) .nil)⟩
def fd21 : Fd := ⟨3, 4, (.cons (.asg (.nm 3) (.call 19 (.cons (.var 0) (.cons (.cst (.int (8))) .nil)))) (.cons (.ife (.and (.cmp .lt (.var 3) (.cst (.int (3)))) (.cmp .ne (.var 1) (.lst .nil))) (.cons (.ret (.tup (.cons (.cst (.str [110, 97, 109, 101])) (.cons (.call 20 (.cons (.var 0) (.cons (.var 1) .nil))) .nil)))) .nil) .nil) (.cons (.ife (.and (.cmp .lt (.var 3) (.cst (.int (5)))) (.cmp .gt (.var 2) (.cst (.int (0))))) (.cons (.ret (.tup (.cons (.cst (.str [98, 111, 117, 110, 100])) (.cons (.call 19 (.cons (.var 0) (.cons (.var 2) .nil))) .nil)))) .nil) .nil) (.cons (.ret (.tup (.cons (.cst (.str [110, 117, 109])) (.cons (.call 20 (.cons (.var 0) (.cons (.lst (.cons (.cst (.int (0))) (.cons (.cst (.int (1))) (.cons (.cst (.int (2))) (.cons (.call 19 (.cons (.var 0) (.cons (.cst (.int (7))) .nil))) (.cons (.call 19 (.cons (.var 0) (.cons (.op .pow (.cst (.int (10))) (.cst (.int (30)))) .nil))) (.cons (.op .sub (.op .pow (.cst (.int (10))) (.cst (.int (60)))) (.cst (.int (1)))) .nil))))))) .nil))) .nil)))) .nil))))⟩
def fd22 : Fd := ⟨4, 6, (.cons (.ife (.or (.cmp .eq (.var 1) (.cst (.int (0)))) (.cmp .eq (.call 19 (.cons (.var 0) (.cons (.cst (.int (3))) .nil))) (.cst (.int (0))))) (.cons (.ret (.call 21 (.cons (.var 0) (.cons (.var 2) (.cons (.var 3) .nil))))) .nil) .nil) (.cons (.asg (.nm 4) (.call 20 (.cons (.var 0) (.cons (.lst (.cons (.cst (.str [110, 101, 120, 116])) (.cons (.cst (.str [112, 108, 117, 115])) (.cons (.cst (.str [116, 105, 109, 101, 115])) .nil)))) .nil)))) (.cons (.asg (.nm 5) (.call 22 (.cons (.var 0) (.cons (.op .sub (.var 1) (.cst (.int (1)))) (.cons (.var 2) (.cons (.var 3) .nil)))))) (.cons (.ife (.cmp .eq (.var 4) (.cst (.str [110, 101, 120, 116]))) (.cons (.ret (.tup (.cons (.var 4) (.cons (.var 5) .nil)))) .nil) .nil) (.cons (.ret (.tup (.cons (.var 4) (.cons (.var 5) (.cons (.call 22 (.cons (.var 0) (.cons (.op .sub (.var 1) (.cst (.int (1)))) (.cons (.var 2) (.cons (.var 3) .nil))))) .nil))))) .nil)))))⟩
def fd85 : Fd := ⟨2, 5, (.cons (.ife (.cmp .eq (.idx (.var 0) (.cst (.int (0)))) (.cst (.str [110, 117, 109]))) (.cons (.ret (.idx (.var 0) (.cst (.int (1))))) .nil) .nil) (.cons (.ife (.cmp .eq (.idx (.var 0) (.cst (.int (0)))) (.cst (.str [110, 97, 109, 101]))) (.cons (.ife (.cmp .nin (.idx (.var 0) (.cst (.int (1)))) (.var 1)) (.cons (.ret (.idx (.var 0) (.cst (.int (1))))) .nil) .nil) (.cons (.ret (.ife (.cmp .lt (.idx (.var 1) (.idx (.var 0) (.cst (.int (1))))) (.op .pow (.cst (.int (10))) (.cst (.int (60))))) (.idx (.var 1) (.idx (.var 0) (.cst (.int (1))))) (.cst .non))) .nil)) .nil) (.cons (.asg (.nm 2) (.box (.lst .nil))) (.cons (.for_ (.nm 3) .plain (.cons (.slc (.var 0) (.cons (.cst (.int (1))) .nil) .nil) .nil) (.cons (.expr (.mut .append (.var 2) (.cons (.call 85 (.cons (.var 3) (.cons (.var 1) .nil))) .nil))) (.cons (.ife (.not (.blt (.isin .int) (.cons (.idx (.var 2) (.neg (.cst (.int (1))))) .nil))) (.cons (.ret (.idx (.var 2) (.neg (.cst (.int (1)))))) .nil) .nil) .nil))) (.cons (.ife (.cmp .eq (.idx (.var 0) (.cst (.int (0)))) (.cst (.str [110, 101, 120, 116]))) (.cons (.asg (.nm 4) (.op .add (.idx (.var 2) (.cst (.int (0)))) (.cst (.int (1))))) .nil) (.cons (.ife (.cmp .eq (.idx (.var 0) (.cst (.int (0)))) (.cst (.str [112, 108, 117, 115]))) (.cons (.asg (.nm 4) (.op .add (.idx (.var 2) (.cst (.int (0)))) (.idx (.var 2) (.cst (.int (1)))))) .nil) (.cons (.asg (.nm 4) (.op .mul (.idx (.var 2) (.cst (.int (0)))) (.idx (.var 2) (.cst (.int (1)))))) .nil)) .nil)) (.cons (.ret (.ife (.cmp .lt (.var 4) (.op .pow (.cst (.int (10))) (.cst (.int (60))))) (.var 4) (.cst .non))) .nil))))))⟩
def fd86 : Fd := ⟨2, 5, (.cons (.asg (.nm 2) (.cst .non)) (.cons (.asg (.nm 3) (.cst .non)) (.cons (.tryx (.cons (.asg (.nm 2) (.call 76 (.cons (.var 0) (.cons (.var 1) .nil)))) .nil) (.cons [0, 4, 1, 5, 2, 3] (some 4) (.cons (.asg (.nm 3) (.var 4)) .nil) .nil)) (.cons (.ife (.cmp .is (.var 3) (.cst .non)) (.cons (.ret (.ife (.and (.blt (.isin .int) (.cons (.var 2) .nil)) (.not (.blt (.isin .bool) (.cons (.var 2) .nil)))) (.var 2) (.cst (.str [111, 100, 100, 33])))) .nil) .nil) (.cons (.ife (.or (.blt (.isx [4, 5, 2] []) (.cons (.var 3) .nil)) (.not (.blt (.isx [0, 4, 1, 5, 2, 3] []) (.cons (.var 3) .nil)))) (.cons (.ret (.cst (.str [111, 100, 100, 33]))) .nil) .nil) (.cons (.ife (.and (.blt (.isx [3] []) (.cons (.var 3) .nil)) (.not (.blt (.isx [1] []) (.cons (.var 3) .nil)))) (.cons (.ret (.cst .non)) .nil) .nil) (.cons (.ret (.ife (.and (.blt (.isx [1] []) (.cons (.var 3) .nil)) (.not (.blt (.isx [3] []) (.cons (.var 3) .nil)))) (.fld (.var 3) [110, 97, 109, 101]) (.cst (.str [111, 100, 100, 33])))) .nil)))))))⟩
def fd87 : Fd := ⟨1, 14, (.cons (.for_ (.nm 1) .range (.cons (.blt .max2 (.cons (.cst (.int (2))) (.cons (.blt .min2 (.cons (.cst (.int (6))) (.cons (.blt .len (.cons (.var 0) .nil)) .nil))) .nil))) .nil) (.cons (.asg (.nm 2) (.call 18 (.cons (.var 0) (.cons (.var 1) .nil)))) (.cons (.asg (.nm 3) (.cst (.str [97, 98, 99, 100, 101, 102, 103, 104, 105, 106, 107, 108, 109, 110, 111, 112, 113, 114, 115, 116, 117, 118, 119, 120, 121, 122]))) (.cons (.asg (.nm 4) (.box (.lst .nil))) (.cons (.for_ (.nm 5) .range (.cons (.cst (.int (4))) .nil) (.cons (.expr (.mut .append (.var 4) (.cons (.blt .join (.cons (.cst (.str [])) (.cons (.comp (.nm 13) .range (.cons (.op .add (.cst (.int (1))) (.call 19 (.cons (.var 2) (.cons (.cst (.int (8))) .nil)))) .nil) .nil (.call 20 (.cons (.var 2) (.cons (.var 3) .nil)))) .nil))) .nil))) .nil)) (.cons (.asg (.nm 6) (.call 22 (.cons (.var 2) (.cons (.cst (.int (5))) (.cons (.var 4) (.cons (.cst (.int (0))) .nil)))))) (.cons (.asg (.nm 7) (.box (.dct (.cons (.cst (.str [122, 122, 122, 122, 122, 122, 122, 122])) .nil) (.cons (.cst (.int (10000000000000000000000000000000000000000000000000000000000000))) .nil)))) (.cons (.for_ (.nm 8) .plain (.cons (.var 4) .nil) (.cons (.asg (.nm 12) (.call 20 (.cons (.var 2) (.cons (.lst (.cons (.op .sub (.op .pow (.cst (.int (10))) (.cst (.int (60)))) (.cst (.int (1)))) (.cons (.op .pow (.cst (.int (10))) (.cst (.int (60)))) (.cons (.op .add (.op .pow (.cst (.int (10))) (.cst (.int (20)))) (.cst (.int (7)))) .nil)))) .nil)))) (.cons (.ife (.cmp .gt (.call 19 (.cons (.var 2) (.cons (.cst (.int (6))) .nil))) (.cst (.int (0)))) (.cons (.sset (.var 7) (.var 8) (.call 20 (.cons (.var 2) (.cons (.lst (.cons (.cst (.int (0))) (.cons (.cst (.int (1))) (.cons (.cst (.int (2))) (.cons (.call 19 (.cons (.var 2) (.cons (.cst (.int (100))) .nil))) (.cons (.op .pow (.cst (.int (10))) (.cst (.int (15)))) (.cons (.var 12) .nil))))))) .nil)))) .nil) .nil) .nil))) (.cons (.asg (.nm 9) (.blt .repr (.cons (.var 7) .nil))) (.cons (.asg (.nm 10) (.call 85 (.cons (.var 6) (.cons (.var 7) .nil)))) (.cons (.asg (.nm 11) (.call 86 (.cons (.var 6) (.cons (.var 7) .nil)))) (.cons (.ife (.or (.cmp .ne (.var 11) (.var 10)) (.or (.cmp .ne (.cmp .is (.var 11) (.cst .non)) (.cmp .is (.var 10) (.cst .non))) (.cmp .ne (.blt .repr (.cons (.var 7) .nil)) (.var 9)))) (.cons (.ret (.cst (.bl false))) .nil) .nil) .nil)))))))))))) (.cons (.ret (.cmp .eq (.call 76 (.cons (.tup (.cons (.cst (.str [110, 117, 109])) (.cons (.cst (.int (7))) .nil))) (.cons (.dct .nil .nil) .nil))) (.cst (.int (7))))) .nil))⟩
def pr : Prog := ⟨fun f => match f with
  | 75 => some fd75
  | 76 => some fd76
  | 18 => some fd18
  | 19 => some fd19
  | 20 => some fd20
  | 21 => some fd21
  | 22 => some fd22
  | 85 => some fd85
  | 86 => some fd86
  | 87 => some fd87
  | _ => none, fun _ => none, fixL fxs, fun _ _ => none, fun _ _ => none⟩
theorem tx0 : TxOk dsc pr (dd 9 "bounded") 75 := ⟨rd0, fd75, ⟨rfl, rfl, rfl, by decide +kernel, rfl, by decide +kernel, by decide +kernel⟩, rfl, rfl,
  fun _ _ _ _ _ _ us hl => match us, hl with | [_], _ => rfl, rfl, by kernel_rfl, by decide, trivial, .inl rfl⟩
theorem tx1 : TxOk dsc pr (dd 10 "worth") 76 := ⟨rd1, fd76, ⟨rfl, rfl, rfl, by decide +kernel, rfl, by decide +kernel, by decide +kernel⟩, rfl, rfl,
  fun _ _ _ _ _ _ us hl => match us, hl with | [_, _], _ => rfl, rfl, by kernel_rfl, by decide, trivial, .inl rfl⟩
theorem tx2 : TxOk dsc pr (dd 12 "_law_feed") 18 := ⟨rd2, fd18, ⟨rfl, rfl, rfl, by decide +kernel, rfl, by decide +kernel, by decide +kernel⟩, rfl, rfl,
  fun _ _ _ _ _ _ us hl => match us, hl with | [_, _], _ => rfl, rfl, by kernel_rfl, by decide, trivial, .inl rfl⟩
theorem tx3 : TxOk dsc pr (dd 13 "_law_take") 19 := ⟨rd3, fd19, ⟨rfl, rfl, rfl, by decide +kernel, rfl, by decide +kernel, by decide +kernel⟩, rfl, rfl,
  fun _ _ _ _ _ _ us hl => match us, hl with | [_, _], _ => rfl, rfl, by kernel_rfl, by decide, trivial, .inl rfl⟩
theorem tx4 : TxOk dsc pr (dd 14 "_law_pick") 20 := ⟨rd4, fd20, ⟨rfl, rfl, rfl, by decide +kernel, rfl, by decide +kernel, by decide +kernel⟩, rfl, rfl,
  fun _ _ _ _ _ _ us hl => match us, hl with | [_, _], _ => rfl, rfl, by kernel_rfl, by decide, trivial, .inl rfl⟩
theorem tx5 : TxOk dsc pr (dd 15 "_law_leaf") 21 := ⟨rd5, fd21, ⟨rfl, rfl, rfl, by decide +kernel, rfl, by decide +kernel, by decide +kernel⟩, rfl, rfl,
  fun _ _ _ _ _ _ us hl => match us, hl with | [_, _, _], _ => rfl, rfl, by kernel_rfl, by decide, trivial, .inl rfl⟩
theorem tx6 : TxOk dsc pr (dd 16 "_law_term") 22 := ⟨rd6, fd22, ⟨rfl, rfl, rfl, by decide +kernel, rfl, by decide +kernel, by decide +kernel⟩, rfl, rfl,
  fun _ _ _ _ _ _ us hl => match us, hl with | [_, _, _, _], _ => rfl, rfl, by kernel_rfl, by decide, trivial, .inl rfl⟩
theorem tx7 : TxOk dsc pr (dd 17 "_law_worth") 85 := ⟨rd7, fd85, ⟨rfl, rfl, rfl, by decide +kernel, rfl, by decide +kernel, by decide +kernel⟩, rfl, rfl,
  fun _ _ _ _ _ _ us hl => match us, hl with | [_, _], _ => rfl, rfl, by kernel_rfl, by decide, trivial, .inl rfl⟩
theorem tx8 : TxOk dsc pr (dd 18 "_law_told") 86 := ⟨rd8, fd86, ⟨rfl, rfl, rfl, by decide +kernel, rfl, by decide +kernel, by decide +kernel⟩, rfl, rfl,
  fun _ _ _ _ _ _ us hl => match us, hl with | [_, _], _ => rfl, rfl, by kernel_rfl, by decide, trivial, .inl rfl⟩
theorem tx9 : TxOk dsc pr (dd 19 "law") 87 := ⟨rd9, fd87, ⟨rfl, rfl, rfl, by decide +kernel, rfl, by decide +kernel, by decide +kernel⟩, rfl, rfl,
  fun _ _ _ _ _ _ us hl => match us, hl with | [_], _ => rfl, rfl, by kernel_rfl, by decide, trivial, .inl rfl⟩
theorem ti0 : ∃ d, defs[10]? = some d ∧ d.at_ = (("NoText" : Str), some ("__init__" : Str)) ∧ IniTx d ["at"] := ⟨mm 2 0 "NoText" "__init__", rfl, rfl, ⟨⟨rfl, rfl, rfl, by decide +kernel, rfl, by decide +kernel, by decide +kernel⟩, ⟨rfl, rfl⟩,
  fun _ _ _ _ _ _ us hl => match us, hl with | [_, _], _ => rfl, by decide +kernel, by decide⟩⟩
theorem ti1 : ∃ d, defs[11]? = some d ∧ d.at_ = (("NoNumber" : Str), some ("__init__" : Str)) ∧ IniTx d ["name"] := ⟨mm 3 0 "NoNumber" "__init__", rfl, rfl, ⟨⟨rfl, rfl, rfl, by decide +kernel, rfl, by decide +kernel, by decide +kernel⟩, ⟨rfl, rfl⟩,
  fun _ _ _ _ _ _ us hl => match us, hl with | [_, _], _ => rfl, by decide +kernel, by decide⟩⟩
theorem ti2 : ∃ d, defs[12]? = some d ∧ d.at_ = (("NoGround" : Str), some ("__init__" : Str)) ∧ IniTx d ["place", "word"] := ⟨mm 4 0 "NoGround" "__init__", rfl, rfl, ⟨⟨rfl, rfl, rfl, by decide +kernel, rfl, by decide +kernel, by decide +kernel⟩, ⟨rfl, rfl⟩,
  fun _ _ _ _ _ _ us hl => match us, hl with | [_, _, _], _ => rfl, by decide +kernel, by decide⟩⟩
theorem ti3 : ∃ d, defs[13]? = some d ∧ d.at_ = (("NoWorth" : Str), some ("__init__" : Str)) ∧ IniTx d ["thing"] := ⟨mm 5 0 "NoWorth" "__init__", rfl, rfl, ⟨⟨rfl, rfl, rfl, by decide +kernel, rfl, by decide +kernel, by decide +kernel⟩, ⟨rfl, rfl⟩,
  fun _ _ _ _ _ _ us hl => match us, hl with | [_, _], _ => rfl, by decide +kernel, by decide⟩⟩
theorem ti : ∀ q ∈ dsc.ini, ∃ d, defs[q.2.1]? = some d ∧ d.at_ = (q.1, some ("__init__" : Str)) ∧ IniTx d q.2.2 := by
  intro q hq
  simp only [dsc, ini, List.mem_cons, List.not_mem_nil, or_false] at hq
  rcases hq with rfl | rfl | rfl | rfl
  · exact ti0
  · exact ti1
  · exact ti2
  · exact ti3
theorem tx : ∀ (i : Nat) (d : He.DefD) (f : Nat), defs[i]? = some d → num[i]? = some f → TxOk dsc pr d f
  | 0, d, f, h, k => by cases h; cases k; exact tx0
  | 1, d, f, h, k => by cases h; cases k; exact tx1
  | 2, d, f, h, k => by cases h; cases k; exact tx2
  | 3, d, f, h, k => by cases h; cases k; exact tx3
  | 4, d, f, h, k => by cases h; cases k; exact tx4
  | 5, d, f, h, k => by cases h; cases k; exact tx5
  | 6, d, f, h, k => by cases h; cases k; exact tx6
  | 7, d, f, h, k => by cases h; cases k; exact tx7
  | 8, d, f, h, k => by cases h; cases k; exact tx8
  | 9, d, f, h, k => by cases h; cases k; exact tx9
  | i + 10, d, f, h, k => by cases k
abbrev RO : PySem.W.OpenRow := PySem.W.OpenLaw.row PySem.Challenge.rw_prooffruit_k04_worths_of_terms
abbrev hk : PySem.W.Hook := hookP 5 [] defs dsc
def ob (s : PySem.W.SharedT) : AlP := obP 5 [] defs dsc (HandSHeadRun.getT s)
theorem ob_eq (s : PySem.W.SharedT) : ob s = hk.obs s.abs := obP_eq (HandSHeadRun.getT_eq s)
def loose : List Str := "GroundError" :: "NoText" :: "NoNumber" :: "NoGround" :: "NoWorth" :: "TooMany" :: "MOST_NUMBER" :: "bounded" :: "worth" :: "_law_feed" :: "_law_take" :: "_law_pick" :: "_law_leaf" :: "_law_term" :: "_law_worth" :: "_law_told" :: []
theorem run (w : World) : HandSHeadRun.RunEq RO (PySem.W.view RO.prog [19]) hk ob 4000 loose w := by
  intro os
  kernel_rfl
end Lw
namespace Lw
open PV
/-- a feed's cell -/
def Fc (c : D) : Prop := ∃ a b : Int, c = .lst [.int a, .int b] ∧ 0 ≤ a ∧ 0 ≤ b ∧ b < 2305843009213693951
theorem take {n i : Nat} {h : Hs} {c : D} {s : Int} (hn : 1 ≤ n) (hi : i < h.length) (hd : Fc c) (h0 : 0 < s) (h1 : s.natAbs < B64) :
    WR (callN pr n 19 [.ref i, .int s] (h.set i c)) fun v h' => ∃ c', h' = h.set i c' ∧ Fc c' ∧ ∃ r, v = .int r ∧ 0 ≤ r ∧ r < s := by
  obtain ⟨n, rfl⟩ : ∃ m, n = m + 1 := ⟨n - 1, by omega⟩
  obtain ⟨a, b, rfl, a0, b0, b1⟩ := hd
  refine call_i (fd := fd19) rfl rfl ?_
  unfold fd19
  have ms : mid s = true := mid_of (Nat.lt_trans h1 (by decide))
  have m2 : mid 2097152 = true := by decide
  have s4 : small 48271 = true := by decide
  have vals : ∀ z : Int, ∃ r, D.int (z % s) = .int r ∧ 0 ≤ r ∧ r < s := fun z => ⟨_, rfl, Int.emod_nonneg _ (by omega), Int.emod_lt_of_pos _ h0⟩
  repeat' (first | (with_reducible refine br_i (fun _ => ?_) (fun _ => ?_)) | simp_arith [trim_set, ms, m2, s4, h0])
  · exact ⟨_, rfl, ⟨_, _, rfl, Int.ediv_nonneg a0 (by omega), b0, b1⟩, _, rfl, Int.emod_nonneg _ (by omega), Int.emod_lt_of_pos _ h0⟩
  · exact ⟨_, rfl, ⟨_, _, rfl, a0, Int.emod_nonneg _ (by omega), Int.emod_lt_of_pos _ (by omega)⟩, _, rfl, Int.emod_nonneg _ (by omega), Int.emod_lt_of_pos _ h0⟩
theorem fpick {n i : Nat} {h : Hs} {c : D} {l : List D} (P : D → Prop) (hn : 2 ≤ n) (hi : i < h.length) (hd : Fc c) (h0 : 0 < l.length) (h1 : l.length < 1000000) (hl : ∀ x ∈ l, P x) :
    WR (callN pr n 20 [.ref i, .lst l] (h.set i c)) fun v h' => ∃ c', h' = h.set i c' ∧ Fc c' ∧ P v := by
  obtain ⟨n, rfl⟩ : ∃ m, n = m + 1 := ⟨n - 1, by omega⟩
  refine call_i (fd := fd20) rfl rfl ?_
  unfold fd20
  simp_arith [kt_mk]
  refine r_mono (take (by omega) hi hd (s := l.length) (by omega) (by unfold B64; omega)) ?_
  rintro v _ ⟨c', rfl, hc, r, rfl, r0, r1⟩
  simp_arith [kt_mk]
  rw [atI_pos r0]
  have hr : r.toNat < l.length := by omega
  rw [List.getElem?_eq_getElem hr]
  simp_arith [kt_mk]
  exact ⟨_, rfl, hc, hl _ (List.getElem_mem hr)⟩
theorem feed {n k : Nat} {h : Hs} {ns : List Int} (hn : 1 ≤ n) (hk : k < 1000) :
    WR (callN pr n 18 [.lst (ns.map .int), .int k] h) fun v h' => ∃ c, v = .ref h.length ∧ h' = h ++ [c] ∧ Fc c := by
  obtain ⟨n, rfl⟩ : ∃ m, n = m + 1 := ⟨n - 1, by omega⟩
  refine call_i (fd := fd18) rfl rfl ?_
  unfold fd18
  have s1 : small 67 = true := by decide
  have s2 : small 6364136223846793005 = true := by decide
  have s3 : small 7919 = true := by decide
  have s10 : small 10 = true := by decide
  have tn : ∀ a b : Int, trim h (h ++ [.lst [.int a, .int b]]) [.ref h.length] = h ++ [.lst [.int a, .int b]] := fun a b => trim_new rfl
  have bx : ∀ a b : Int, boxed (.lst [.int a, .int b]) = true := fun _ _ => rfl
  simp_arith [s1, s2, s3, s10]
  refine br_i (fun e => ?_) fun e => ?_
  · obtain ⟨x, hx⟩ := ints_at (sc := ns) (i := k) (by omega) e
    simp_arith [s1, s2, s3, s10, hx]
    refine br_i (fun e1 => ?_) fun e1 => ?_
    · simp_arith [s1, s2, s3, s10, hx, tn, bx]
      exact ⟨_, rfl, _, _, rfl, by omega, Int.emod_nonneg _ (by omega), Int.emod_lt_of_pos _ (by omega)⟩
    · simp_arith [s1, s2, s3, s10, hx, tn, bx]
      exact ⟨_, rfl, _, _, rfl, by omega, Int.emod_nonneg _ (by omega), Int.emod_lt_of_pos _ (by omega)⟩
  · simp_arith [s1, s2, s3, s10]
    refine br_i (fun e1 => ?_) fun e1 => ?_
    · simp_arith [s1, s2, s3, s10, tn, bx]
      exact ⟨_, rfl, _, _, rfl, by omega, Int.emod_nonneg _ (by omega), Int.emod_lt_of_pos _ (by omega)⟩
    · simp_arith [s1, s2, s3, s10, tn, bx]
      exact ⟨_, rfl, _, _, rfl, by omega, Int.emod_nonneg _ (by omega), Int.emod_lt_of_pos _ (by omega)⟩

end Lw
namespace Lw
open PV
theorem b7 (r : Int) (h0 : 0 ≤ r) (h1 : r < 1000000) : r.natAbs < B64 := by unfold B64; omega
/-- names -/
def Nw (ns : List D) : Prop := ns.length < 1000 ∧ ∀ x ∈ ns, ∃ s : Cs, x = .str s ∧ word s = true
theorem Nw.flat {ns : List D} (h : Nw ns) : (D.lst ns).flat = true := by
  have : ∀ l : List D, (∀ x ∈ l, ∃ s : Cs, x = .str s ∧ word s = true) → D.flatL l = true := by
    intro l
    induction l with
    | nil => intro _; rfl
    | cons x l ih =>
      intro h
      obtain ⟨s, rfl, h2⟩ := h x (by simp)
      simp only [D.flatL, ih fun y hy => h y (by simp [hy]), D.flat_of_okd _ (word_okd h2), Bool.and_self]
  exact this ns h.2
/-- terms and sayings over the names ns, bounds below a -/
def TmN (ns : List D) (a : Int) (p k : Nat) (v : D) : Prop := ∃ t : Th, v = t.d ∧ tmB a t = true ∧ (∀ s ∈ t.names, D.str s ∈ ns) ∧ t.pcs ≤ p ∧ t.dp ≤ k
def SyN (ns : List D) (a : Int) (p k : Nat) (v : D) : Prop := ∃ t : Th, v = t.d ∧ syB a t = true ∧ (∀ s ∈ t.names, D.str s ∈ ns) ∧ t.pcs ≤ p ∧ t.dp ≤ k
theorem TmN.mono {ns : List D} {a : Int} {m k m' k' : Nat} {v : D} (s : TmN ns a m k v) (h1 : m ≤ m') (h2 : k ≤ k') : TmN ns a m' k' v := by
  obtain ⟨t, h3, h4, h5, h6, h7⟩ := s
  exact ⟨t, h3, h4, h5, by omega, by omega⟩
theorem SyN.mono {ns : List D} {a : Int} {m k m' k' : Nat} {v : D} (s : SyN ns a m k v) (h1 : m ≤ m') (h2 : k ≤ k') : SyN ns a m' k' v := by
  obtain ⟨t, h3, h4, h5, h6, h7⟩ := s
  exact ⟨t, h3, h4, h5, by omega, by omega⟩
theorem tn_num {ns : List D} {a i : Int} (h0 : 0 ≤ i) (h1 : i < 10 ^ 60) : TmN ns a 1 1 (.tup [.str [110, 117, 109], .int i]) := ⟨.num i, rfl, by simp [tmB]; omega, by simp [Th.names], Nat.le_refl _, Nat.le_refl _⟩
theorem tn_name {ns : List D} (hm : Nw ns) {a : Int} {x : D} (hx : x ∈ ns) : TmN ns a 1 1 (.tup [.str [110, 97, 109, 101], x]) := by
  obtain ⟨s, rfl, h⟩ := hm.2 x hx
  exact ⟨.name s, rfl, h, by simpa [Th.names] using hx, Nat.le_refl _, Nat.le_refl _⟩
theorem tn_bound {ns : List D} {a i : Int} (h0 : 0 ≤ i) (h1 : i < a) : TmN ns a 1 1 (.tup [.str [98, 111, 117, 110, 100], .int i]) := ⟨.bound i, rfl, by simp [tmB]; omega, by simp [Th.names], Nat.le_refl _, Nat.le_refl _⟩
theorem tn_next {ns : List D} {a : Int} {m k : Nat} {t : D} (s : TmN ns a m k t) : TmN ns a (m + 1) (k + 1) (.tup [.str [110, 101, 120, 116], t]) := by
  obtain ⟨t, rfl, h4, h5, h6, h7⟩ := s
  exact ⟨.un .next t, rfl, h4, h5, by simp only [Th.pcs]; omega, by simp only [Th.dp]; omega⟩
theorem tn_two {ns : List D} {a : Int} {m m' k : Nat} {t u : D} {w : Cs} (hw : w = [112, 108, 117, 115] ∨ w = [116, 105, 109, 101, 115]) (s : TmN ns a m k t) (r : TmN ns a m' k u) : TmN ns a (m + m' + 1) (k + 1) (.tup [.str w, t, u]) := by
  obtain ⟨t, rfl, h4, h5, h6, h7⟩ := s
  obtain ⟨u, rfl, g4, g5, g6, g7⟩ := r
  have nm : ∀ s ∈ t.names ++ u.names, D.str s ∈ ns := fun s hs => (List.mem_append.mp hs).elim (h5 s) (g5 s)
  rcases hw with rfl | rfl
  · exact ⟨.bi .plus t u, rfl, by simp [tmB, h4, g4], nm, by simp only [Th.pcs]; omega, by simp only [Th.dp]; omega⟩
  · exact ⟨.bi .times t u, rfl, by simp [tmB, h4, g4], nm, by simp only [Th.pcs]; omega, by simp only [Th.dp]; omega⟩

end Lw
namespace Lw
open PV
theorem fpickR {n i : Nat} {h : Hs} {c nd : D} {l : List D} (hv : ∀ c, vw (h.set i c) nd = .lst l) (P : D → Prop) (hn : 2 ≤ n) (hi : i < h.length) (hd : Fc c) (h0 : 0 < l.length) (h1 : l.length < 1000000) (hl : ∀ x ∈ l, P x) :
    WR (callN pr n 20 [.ref i, nd] (h.set i c)) fun v h' => ∃ c', h' = h.set i c' ∧ Fc c' ∧ P v := by
  obtain ⟨n, rfl⟩ : ∃ m, n = m + 1 := ⟨n - 1, by omega⟩
  refine call_i (fd := fd20) rfl rfl ?_
  unfold fd20
  have ln : ∀ (b : Nat) (c : D), blt b (h.set i c) .len [nd] = some (.int l.length) := fun b c => by simp only [blt, hv]
  simp_arith [ln, hv]
  refine r_mono (take (by omega) hi hd (s := l.length) (by omega) (by unfold B64; omega)) ?_
  rintro v _ ⟨c', rfl, hc, r, rfl, r0, r1⟩
  simp_arith [ln, hv]
  have it : item (.lst l) (.int r) = atI l r := rfl
  first | rw [atI_pos r0] | (rw [it, atI_pos r0])
  have hr : r.toNat < l.length := by omega
  rw [List.getElem?_eq_getElem hr]
  simp_arith [kt_mk]
  exact ⟨_, rfl, hc, hl _ (List.getElem_mem hr)⟩
theorem leafR {n i : Nat} {h : Hs} {c nd : D} {ns : List D} {a : Int} (hv : ∀ c, vw (h.set i c) nd = .lst ns) (hn : 3 ≤ n) (hi : i < h.length) (hd : Fc c) (hm : Nw ns) (a1 : a < 1000) :
    WR (callN pr n 21 [.ref i, nd, .int a] (h.set i c)) fun v h' => ∃ c', h' = h.set i c' ∧ Fc c' ∧ TmN ns a 1 1 v := by
  obtain ⟨n, rfl⟩ : ∃ m, n = m + 1 := ⟨n - 1, by omega⟩
  refine call_i (fd := fd21) rfl rfl ?_
  unfold fd21
  have fn := hm.flat
  have s10 : small 10 = true := by decide
  have b30 : (Int.natAbs (10 ^ 30)) < B64 := by decide
  simp_arith [hv]
  refine r_mono (take (by omega) hi hd (by omega) (b7 _ (by omega) (by omega))) ?_
  rintro v _ ⟨c1, rfl, hc1, r, rfl, r0, r1⟩
  repeat' (first | (with_reducible refine br_i (fun _ => ?_) (fun _ => ?_)) | simp_arith [s10, hv])
  all_goals first
    | (
      refine r_mono (fpickR hv (fun x => TmN ns a 1 1 (.tup [.str [110, 97, 109, 101], x])) (by omega) hi hc1 ?_ (by have := hm.1; omega) (fun x hx => tn_name hm hx)) ?_
      · rename_i e
        cases ns with
        | nil => simp [D.eqvL] at e
        | cons => simp
      · rintro x _ ⟨c2, rfl, hc2, hx⟩
        simp_arith [hv]
        exact ⟨_, rfl, hc2, hx⟩)
    | (
      refine r_mono (take (by omega) hi hc1 (by omega) (b7 _ (by omega) (by omega))) ?_
      rintro v _ ⟨c2, rfl, hc2, r2, rfl, p0, p1⟩
      simp_arith [hv]
      exact ⟨_, rfl, hc2, tn_bound p0 p1⟩)
    | (
      refine r_mono (take (by omega) hi hc1 (by omega) (b7 _ (by omega) (by omega))) ?_
      rintro v _ ⟨c2, rfl, hc2, r2, rfl, p0, p1⟩
      simp_arith [s10, hv]
      refine r_mono (take (by omega) hi hc2 (by decide) b30) ?_
      rintro v _ ⟨c3, rfl, hc3, r3, rfl, q0, q1⟩
      simp_arith [s10, hv]
      refine r_mono (fpick (fun x => TmN ns a 1 1 (.tup [.str [110, 117, 109], x])) (by omega) hi hc3 (by simp) (by simp) ?_) ?_
      · have q2 : r3 < 10 ^ 30 := q1
        simp only [List.mem_cons, List.not_mem_nil, or_false]
        rintro x (rfl | rfl | rfl | rfl | rfl | rfl)
        all_goals exact tn_num (by omega) (by omega)
      · rintro x _ ⟨c4, rfl, hc4, hx⟩
        simp_arith [hv]
        exact ⟨_, rfl, hc4, hx⟩)
theorem termR {i : Nat} {h : Hs} {nd : D} {ns : List D} {a : Int} (hv : ∀ c, vw (h.set i c) nd = .lst ns) (hi : i < h.length) (hm : Nw ns) (a1 : a < 1000) : ∀ (dp n : Nat) (c : D), dp + 4 ≤ n → Fc c →
    WR (callN pr n 22 [.ref i, .int dp, nd, .int a] (h.set i c)) fun v h' => ∃ c', h' = h.set i c' ∧ Fc c' ∧ TmN ns a (2 * 2 ^ dp - 1) (dp + 1) v := by
  intro dp
  induction dp with
  | zero =>
    intro n c hn hd
    obtain ⟨n, rfl⟩ : ∃ m, n = m + 1 := ⟨n - 1, by omega⟩
    refine call_i (fd := fd22) rfl rfl ?_
    unfold fd22
    have nz : ((0 : Nat) : Int) = 0 := rfl
    rw [nz]
    simp_arith [hv]
    refine r_mono (leafR hv (by omega) hi hd hm a1) ?_
    rintro v _ ⟨c1, rfl, hc1, tv⟩
    simp_arith [hv]
    exact ⟨_, rfl, hc1, tv⟩
  | succ dp ih =>
    intro n c hn hd
    obtain ⟨n, rfl⟩ : ∃ m, n = m + 1 := ⟨n - 1, by omega⟩
    refine call_i (fd := fd22) rfl rfl ?_
    unfold fd22
    have e3 : 2 ^ (dp + 1) = 2 * 2 ^ dp := by rw [Nat.pow_succ, Nat.mul_comm]
    have p3 : 0 < 2 ^ dp := Nat.pow_pos (by decide)
    rw [e3]
    have nz : ¬ ((dp : Int) + 1 = 0) := by omega
    have pd : (dp : Int) + 1 - 1 = dp := by omega
    simp_arith [nz, pd, hv]
    refine r_mono (take (by omega) hi hd (by omega) (b7 _ (by omega) (by omega))) ?_
    rintro v _ ⟨c1, rfl, hc1, r, rfl, r0, r1⟩
    simp_arith [nz, pd, hv]
    refine br_i (fun _ => ?_) fun _ => ?_
    · simp_arith [hv]
      refine r_mono (leafR hv (by omega) hi hc1 hm a1) ?_
      rintro v _ ⟨c2, rfl, hc2, tv⟩
      simp_arith [hv]
      exact ⟨_, rfl, hc2, tv.mono (by omega) (by omega)⟩
    · simp_arith [nz, pd, hv]
      refine r_mono (fpick (fun x => x = .str [110, 101, 120, 116] ∨ x = .str [112, 108, 117, 115] ∨ x = .str [116, 105, 109, 101, 115]) (by omega) hi hc1 (by simp) (by simp) (by simp)) ?_
      rintro w _ ⟨c2, rfl, hc2, hw⟩
      simp_arith [nz, pd, hv]
      refine r_mono (ih _ _ (by omega) hc2) ?_
      rintro v1 _ ⟨c3, rfl, hc3, t1⟩
      rcases hw with rfl | rfl | rfl
      · simp_arith [nz, pd, hv]
        exact ⟨_, rfl, hc3, (tn_next t1).mono (by omega) (by omega)⟩
      · simp_arith [nz, pd, hv]
        refine r_mono (ih _ _ (by omega) hc3) ?_
        rintro v2 _ ⟨c4, rfl, hc4, t2⟩
        simp_arith [hv]
        exact ⟨_, rfl, hc4, (tn_two (.inl rfl) t1 t2).mono (by omega) (by omega)⟩
      · simp_arith [nz, pd, hv]
        refine r_mono (ih _ _ (by omega) hc3) ?_
        rintro v2 _ ⟨c4, rfl, hc4, t2⟩
        simp_arith [hv]
        exact ⟨_, rfl, hc4, (tn_two (.inr rfl) t1 t2).mono (by omega) (by omega)⟩

end Lw
namespace Lw
open PV
/-! worths of terms, or what is refused -/
inductive Wo where | ok (i : Int) | non (s : Cs) | big
def bigN : Int := 1000000000000000000000000000000000000000000000000000000000000
def wbd (i : Int) : Wo := if i < 1000000000000000000000000000000000000000000000000000000000000 then .ok i else .big
def nlk (L : List (Cs × Int)) (s : Cs) : Option Int := (L.find? fun p => p.1 == s).map (·.2)
def wth (L : List (Cs × Int)) : Th → Wo
  | .num i => .ok i
  | .name s => match nlk L s with
    | none => .non s
    | some v => wbd v
  | .un _ t => match wth L t with
    | .ok i => wbd (i + 1)
    | e => e
  | .bi b t u => match wth L t with
    | .ok i => match wth L u with
      | .ok j => wbd (if b = .plus then i + j else i * j)
      | e => e
    | e => e
  | _ => .big
def Wo.r : Wo → Hs → R D
  | .ok i, h => .ok (.int i) h
  | .non s, h => .ex 1 [.str s] h
  | .big, h => .ex 3 [] h
def nD (L : List (Cs × Int)) : List (D × D) := L.map fun p => (.str p.1, .int p.2)
theorem nlk_d (L : List (Cs × Int)) (s : Cs) : dget (nD L) (.str s) = (nlk L s).map .int := by
  unfold dget nD nlk
  induction L with
  | nil => rfl
  | cons p L ih =>
    simp only [List.map_cons, List.find?_cons]
    by_cases e : p.1 = s
    · simp [e]
    · simp only [D.str.injEq, e, decide_false]
      rw [show (p.1 == s) = false by simpa using e]
      exact ih
theorem eq_of_wrx {r r0 : R D} (w : WRx r (fun v h => r0 = .ok v h) (fun c l h => r0 = .ex c l h)) : r = r0 := by
  rcases wRx_is w with ⟨a, h, e, q⟩ | ⟨c, l, h, e, q⟩
  · rw [e, q]
  · rw [e, q]
theorem bounded {n : Nat} {h : Hs} {i : Int} (hn : 1 ≤ n) : callN pr n 75 [.int i] h = (wbd i).r h := by
  obtain ⟨n, rfl⟩ : ∃ m, n = m + 1 := ⟨n - 1, by omega⟩
  refine eq_of_wrx (call_ix (fd := fd75) rfl rfl ?_)
  unfold fd75
  repeat' (first | (with_reducible refine br_i (fun _ => ?_) (fun _ => ?_)) | (with_reducible refine And.intro (by omega) ?_) | simp_arith [kt_mk])
  all_goals (rename_i z; simp only [wbd]; split <;> first | rfl | omega)
/-- terms without bounds -/
def tC : Th → Bool
  | .num i => decide (0 ≤ i) && decide (i < 1000000000000000000000000000000000000000000000000000000000000)
  | .name s => word s
  | .un .next t => tC t
  | .bi .plus t u => tC t && tC u
  | .bi .times t u => tC t && tC u
  | _ => false
theorem wbd_in {i j : Int} (h : wbd i = .ok j) (h0 : 0 ≤ i) : 0 ≤ j ∧ j < 1000000000000000000000000000000000000000000000000000000000000 := by
  unfold wbd at h
  split at h
  · cases h; omega
  · cases h
theorem wth_in {L : List (Cs × Int)} (hL : ∀ p ∈ L, 0 ≤ p.2) : ∀ {t : Th} {i : Int}, tC t = true → wth L t = .ok i → 0 ≤ i ∧ i < 1000000000000000000000000000000000000000000000000000000000000
  | .num i, j, ht, e => by
    simp only [wth, Wo.ok.injEq] at e
    subst e
    simpa [tC] using ht
  | .name s, j, ht, e => by
    simp only [wth] at e
    split at e
    · cases e
    · rename_i v hv
      refine wbd_in e ?_
      obtain ⟨p, hp, rfl⟩ := Option.map_eq_some_iff.mp hv
      exact hL p (List.mem_of_find?_eq_some hp)
  | .un u t, j, ht, e => by
    cases u <;> simp only [tC] at ht <;> try cases ht
    simp only [wth] at e
    split at e
    · rename_i i hi
      have := wth_in hL ht hi
      exact wbd_in e (by omega)
    · rename_i x hx
      exact absurd e (hx j)
  | .bi b t u, j, ht, e => by
    have two : tC t = true ∧ tC u = true := by cases b <;> simp [tC] at ht <;> exact ht
    simp only [wth] at e
    split at e
    · rename_i i hi
      split at e
      · rename_i k hk
        have i1 := wth_in hL two.1 hi
        have i2 := wth_in hL two.2 hk
        refine wbd_in e ?_
        split
        · omega
        · exact Int.mul_nonneg i1.1 i2.1
      · rename_i x hx
        exact absurd e (hx j)
    · rename_i x hx
      exact absurd e (hx j)
  | .bound _, _, ht, _ => by simp [tC] at ht
  | .no, _, ht, _ => by simp [tC] at ht
theorem worth {L : List (Cs × Int)} (hL : ∀ p ∈ L, 0 ≤ p.2) {x : D} : ∀ (t : Th) (n : Nat) (h : Hs), vw h x = .dct (nD L) → tC t = true → t.dp + 1 ≤ n → callN pr n 76 [t.d, x] h = (wth L t).r h := by
  intro t
  induction t with
  | num i =>
    intro n h hx ht hn
    simp only [Th.dp] at hn
    obtain ⟨n, rfl⟩ : ∃ m, n = m + 1 := ⟨n - 1, by omega⟩
    refine eq_of_wrx (call_ix (fd := fd76) rfl rfl ?_)
    unfold fd76
    simp only [Th.d]
    repeat' (first | (with_reducible refine br_i (fun _ => ?_) (fun _ => ?_)) | (with_reducible refine And.intro (by omega) ?_) | simp_arith [hx])
    rfl
  | name s =>
    intro n h hx ht hn
    simp only [Th.dp] at hn
    obtain ⟨n, rfl⟩ : ∃ m, n = m + 1 := ⟨n - 1, by omega⟩
    have dg := nlk_d L s
    have bd := fun i => bounded (h := h) (i := i) (show 1 ≤ n by omega)
    refine eq_of_wrx (call_ix (fd := fd76) rfl rfl ?_)
    unfold fd76
    simp only [Th.d]
    cases e : nlk L s with
    | none =>
      rw [e] at dg
      repeat' (first | (with_reducible refine br_i (fun _ => ?_) (fun _ => ?_)) | (with_reducible refine And.intro (by omega) ?_) | simp_arith [hx, dg, Option.map_none, Option.isSome_none])
      simp only [wth, e]; rfl
    | some v =>
      rw [e] at dg
      have bd := bd v
      have ew : wth L (.name s) = wbd v := by simp only [wth, e]
      rw [ew]
      cases q : wbd v with
      | ok i => rw [q] at bd; simp only [Wo.r] at bd ⊢; repeat' (first | (with_reducible refine br_i (fun _ => ?_) (fun _ => ?_)) | (with_reducible refine And.intro (by omega) ?_) | simp_arith [hx, dg, bd, Option.map_some]); rfl
      | non s => unfold wbd at q; split at q <;> cases q
      | big => rw [q] at bd; simp only [Wo.r] at bd ⊢; repeat' (first | (with_reducible refine br_i (fun _ => ?_) (fun _ => ?_)) | (with_reducible refine And.intro (by omega) ?_) | simp_arith [hx, dg, bd, Option.map_some]); rfl
  | bound i => intro n h hx ht; simp [tC] at ht
  | no => intro n h hx ht; simp [tC] at ht
  | un u t ih =>
    intro n h hx ht hn
    simp only [Th.dp] at hn
    obtain ⟨n, rfl⟩ : ∃ m, n = m + 1 := ⟨n - 1, by omega⟩
    cases u <;> simp only [tC] at ht <;> try cases ht
    have i := ih n h hx ht (by omega)
    have bd := fun i => bounded (h := h) (i := i) (show 1 ≤ n by omega)
    refine eq_of_wrx (call_ix (fd := fd76) rfl rfl ?_)
    unfold fd76
    simp only [Th.d, U1.w]
    cases e : wth L t with
    | ok v =>
      have bd := bd (v + 1)
      have ew : wth L (.un .next t) = wbd (v + 1) := by simp only [wth, e]
      rw [ew]
      rw [e] at i
      cases q : wbd (v + 1) with
      | ok k => rw [q] at bd; simp only [Wo.r] at bd i ⊢; repeat' (first | (with_reducible refine br_i (fun _ => ?_) (fun _ => ?_)) | (with_reducible refine And.intro (by omega) ?_) | simp_arith [i, bd]); rfl
      | non s => unfold wbd at q; split at q <;> cases q
      | big => rw [q] at bd; simp only [Wo.r] at bd i ⊢; repeat' (first | (with_reducible refine br_i (fun _ => ?_) (fun _ => ?_)) | (with_reducible refine And.intro (by omega) ?_) | simp_arith [i, bd]); rfl
    | non s =>
      have ew : wth L (.un .next t) = .non s := by simp only [wth, e]
      rw [ew]
      rw [e] at i
      simp only [Wo.r] at i ⊢
      repeat' (first | (with_reducible refine br_i (fun _ => ?_) (fun _ => ?_)) | (with_reducible refine And.intro (by omega) ?_) | simp_arith [i])
      rfl
    | big =>
      have ew : wth L (.un .next t) = .big := by simp only [wth, e]
      rw [ew]
      rw [e] at i
      simp only [Wo.r] at i ⊢
      repeat' (first | (with_reducible refine br_i (fun _ => ?_) (fun _ => ?_)) | (with_reducible refine And.intro (by omega) ?_) | simp_arith [i])
      rfl
  | bi b t u ih1 ih2 =>
    intro n h hx ht hn
    simp only [Th.dp] at hn
    obtain ⟨n, rfl⟩ : ∃ m, n = m + 1 := ⟨n - 1, by omega⟩
    have two : tC t = true ∧ tC u = true := by cases b <;> simp [tC] at ht <;> exact ht
    have i := ih1 n h hx two.1 (by omega)
    have j := ih2 n h hx two.2 (by omega)
    have in1 := fun i => wth_in hL (t := t) (i := i) two.1
    have in2 := fun i => wth_in hL (t := u) (i := i) two.2
    have bd := fun i => bounded (h := h) (i := i) (show 1 ≤ n by omega)
    refine eq_of_wrx (call_ix (fd := fd76) rfl rfl ?_)
    unfold fd76
    cases e1 : wth L t with
    | ok v =>
      have v1 := in1 v e1
      rw [e1] at i
      cases e2 : wth L u with
      | ok z =>
        have z1 := in2 z e2
        rw [e2] at j
        have mv : mid v = true := mid_of (Nat.lt_trans (m := 10 ^ 60) (by omega) (by decide))
        have mz : mid z = true := mid_of (Nat.lt_trans (m := 10 ^ 60) (by omega) (by decide))
        cases b <;> simp only [tC] at ht <;> try cases ht
        · have bd := bd (v + z)
          have ew : wth L (.bi .plus t u) = wbd (v + z) := by simp only [wth, e1, e2, if_true]
          rw [ew]
          simp only [Th.d, B2.w]
          cases q : wbd (v + z) with
          | ok k => rw [q] at bd; simp only [Wo.r] at bd i j ⊢; repeat' (first | (with_reducible refine br_i (fun _ => ?_) (fun _ => ?_)) | (with_reducible refine And.intro (by omega) ?_) | simp_arith [i, j, bd]); rfl
          | non s => unfold wbd at q; split at q <;> cases q
          | big => rw [q] at bd; simp only [Wo.r] at bd i j ⊢; repeat' (first | (with_reducible refine br_i (fun _ => ?_) (fun _ => ?_)) | (with_reducible refine And.intro (by omega) ?_) | simp_arith [i, j, bd]); rfl
        · have bd := bd (v * z)
          have ew : wth L (.bi .times t u) = wbd (v * z) := by simp only [wth, e1, e2, reduceCtorEq, if_false]
          rw [ew]
          simp only [Th.d, B2.w]
          cases q : wbd (v * z) with
          | ok k => rw [q] at bd; simp only [Wo.r] at bd i j ⊢; repeat' (first | (with_reducible refine br_i (fun _ => ?_) (fun _ => ?_)) | (with_reducible refine And.intro (by omega) ?_) | simp_arith [i, j, bd, mv, mz]); rfl
          | non s => unfold wbd at q; split at q <;> cases q
          | big => rw [q] at bd; simp only [Wo.r] at bd i j ⊢; repeat' (first | (with_reducible refine br_i (fun _ => ?_) (fun _ => ?_)) | (with_reducible refine And.intro (by omega) ?_) | simp_arith [i, j, bd, mv, mz]); rfl
      | non s =>
        have ew : wth L (.bi b t u) = .non s := by simp only [wth, e1, e2]
        rw [ew]
        rw [e2] at j
        simp only [Wo.r] at i j ⊢
        cases b <;> simp only [tC] at ht <;> try cases ht
        all_goals (simp only [Th.d, B2.w]; repeat' (first | (with_reducible refine br_i (fun _ => ?_) (fun _ => ?_)) | (with_reducible refine And.intro (by omega) ?_) | simp_arith [i, j]); rfl)
      | big =>
        have ew : wth L (.bi b t u) = .big := by simp only [wth, e1, e2]
        rw [ew]
        rw [e2] at j
        simp only [Wo.r] at i j ⊢
        cases b <;> simp only [tC] at ht <;> try cases ht
        all_goals (simp only [Th.d, B2.w]; repeat' (first | (with_reducible refine br_i (fun _ => ?_) (fun _ => ?_)) | (with_reducible refine And.intro (by omega) ?_) | simp_arith [i, j]); rfl)
    | non s =>
      have ew : wth L (.bi b t u) = .non s := by simp only [wth, e1]
      rw [ew]
      rw [e1] at i
      simp only [Wo.r] at i ⊢
      cases b <;> simp only [tC] at ht <;> try cases ht
      all_goals (simp only [Th.d, B2.w]; repeat' (first | (with_reducible refine br_i (fun _ => ?_) (fun _ => ?_)) | (with_reducible refine And.intro (by omega) ?_) | simp_arith [i]); rfl)
    | big =>
      have ew : wth L (.bi b t u) = .big := by simp only [wth, e1]
      rw [ew]
      rw [e1] at i
      simp only [Wo.r] at i ⊢
      cases b <;> simp only [tC] at ht <;> try cases ht
      all_goals (simp only [Th.d, B2.w]; repeat' (first | (with_reducible refine br_i (fun _ => ?_) (fun _ => ?_)) | (with_reducible refine And.intro (by omega) ?_) | simp_arith [i]); rfl)

end Lw
namespace Lw
open PV
theorem trim_nil {h' : Hs} {b : Bool} : trim [] h' [.bl b] = [] := by simp [trim, fits, D.withinL, D.within]
theorem turns_of (l a b : Int) (ha : 0 ≤ a) (hab : a ≤ b) (hb : b < 1000) (h0 : 0 ≤ l) : ∃ t : Nat, (if (if l < b then l else b) > a then (if l < b then l else b) else a) = t ∧ (t : Int) ≤ b := by
  by_cases q : l < b
  · simp only [q, if_true]
    by_cases q2 : l > a
    · exact ⟨l.toNat, by simp [q2]; omega, by omega⟩
    · exact ⟨a.toNat, by simp [q2]; omega, by omega⟩
  · simp only [q, if_false]
    by_cases q2 : b > a
    · exact ⟨b.toNat, by simp [q2]; omega, by omega⟩
    · exact ⟨a.toNat, by simp [q2]; omega, by omega⟩

end Lw
namespace Lw
open PV
/-- a letter of a text -/
theorem fpickS {n i : Nat} {h : Hs} {c : D} {l : Cs} (P : Nat → Prop) (hn : 2 ≤ n) (hi : i < h.length) (hd : Fc c) (h0 : 0 < l.length) (h1 : l.length < 1000000) (hl : ∀ x ∈ l, P x) :
    WR (callN pr n 20 [.ref i, .str l] (h.set i c)) fun v h' => ∃ c', h' = h.set i c' ∧ Fc c' ∧ ∃ x, v = .str [x] ∧ P x := by
  obtain ⟨n, rfl⟩ : ∃ m, n = m + 1 := ⟨n - 1, by omega⟩
  refine call_i (fd := fd20) rfl rfl ?_
  unfold fd20
  have ok : okLen l = true := by simp only [okLen, lineN, decide_eq_true_eq]; omega
  have ln : ∀ (b : Nat) (h : Hs), blt b h .len [.str l] = some (.int l.length) := fun b h => by simp only [blt, vw]; rw [ok]; rfl
  simp_arith [ln]
  refine r_mono (take (by omega) hi hd (s := l.length) (by omega) (by unfold B64; omega)) ?_
  rintro v _ ⟨c', rfl, hc, r, rfl, r0, r1⟩
  have hr : r.toNat < l.length := by omega
  have it : item (.str l) (.int r) = some (.str [l[r.toNat]]) := by
    simp only [item, ok, if_true]
    rw [atI_pos r0, List.getElem?_eq_getElem hr]
    rfl
  simp_arith [it]
  exact ⟨_, rfl, hc, _, rfl, hl _ (List.getElem_mem hr)⟩

end Lw
namespace Lw
open PV
theorem nw_of {l : List Cs} (h : l.length < 1000) (hw : l.all word = true) : Nw (l.map .str) := ⟨by simpa using h, fun x hx => by
  obtain ⟨s, hs, rfl⟩ := List.mem_map.mp hx
  exact ⟨s, rfl, List.all_eq_true.mp hw s hs⟩⟩

end Lw
namespace Lw
open PV
/-! numbers put into the table, worths under it -/
def lput (L : List (Cs × Int)) (s : Cs) (v : Int) : List (Cs × Int) := if L.any (fun p => decide (p.1 = s)) then L.map (fun p => if p.1 = s then (p.1, v) else p) else L ++ [(s, v)]
theorem nD_len {L : List (Cs × Int)} : (nD L).length = L.length := by simp [nD]
theorem nD_any {L : List (Cs × Int)} {s : Cs} : (nD L).any (fun p => decide (p.1 = D.str s)) = L.any fun p => decide (p.1 = s) := by
  simp only [nD, List.any_map]
  congr 1
  funext p
  simp
theorem nD_put {L : List (Cs × Int)} {s : Cs} {v : Int} : dput (nD L) (.str s) (.int v) = nD (lput L s v) := by
  unfold dput lput
  rw [nD_any]
  split
  · simp only [nD, List.map_map]
    congr 1
    funext p
    simp only [Function.comp]
    by_cases e : p.1 = s <;> simp [e]
  · simp [nD]
theorem nlk_put {s y : Cs} {v : Int} : ∀ {L : List (Cs × Int)}, nlk (lput L s v) y = if y = s then some v else nlk L y := by
  intro L
  by_cases e : L.any (fun p => decide (p.1 = s)) = true
  · simp only [lput, e, if_true]
    induction L with
    | nil => simp at e
    | cons p L ih =>
      simp only [List.map_cons, nlk, List.find?_cons]
      by_cases q : p.1 = s
      · subst q
        by_cases r : y = p.1
        · subst r; simp
        · have : (p.1 == y) = false := by simpa using fun h => r h.symm
          simp only [if_true, this, r, if_false]
          by_cases k : L.any (fun x => decide (x.1 = p.1)) = true
          · have := ih k
            simp only [nlk, r, if_false] at this
            exact this
          · have m : L.map (fun x => if x.1 = p.1 then (x.1, v) else x) = L := by
              conv => rhs; rw [← List.map_id L]
              refine List.map_congr_left fun x hx => ?_
              have : ¬ x.1 = p.1 := fun z => k (List.any_eq_true.mpr ⟨x, hx, by simpa using z⟩)
              simp [this]
            rw [m]
      · have k : L.any (fun x => decide (x.1 = s)) = true := by simpa [q] using e
        have := ih k
        simp only [nlk] at this
        simp only [q, if_false]
        by_cases r : p.1 = y
        · subst r
          simp [q]
        · rw [show (p.1 == y) = false by simpa using r]
          exact this
  · simp only [lput, e, if_false, Bool.false_eq_true, nlk, List.find?_append]
    have k : ∀ x ∈ L, ¬ x.1 = s := fun x hx z => e (List.any_eq_true.mpr ⟨x, hx, by simpa using z⟩)
    by_cases r : y = s
    · subst r
      have n : L.find? (fun p => p.1 == y) = none := by
        rw [List.find?_eq_none]
        intro x hx
        simpa using k x hx
      simp [n]
    · have z : (s == y) = false := by simpa using fun h => r h.symm
      cases L.find? (fun p => p.1 == y) <;> simp [z, r]
theorem lput_in {L : List (Cs × Int)} {s : Cs} {v : Int} {p : Cs × Int} (h : p ∈ lput L s v) : p ∈ L ∨ p = (s, v) := by
  unfold lput at h
  split at h
  · obtain ⟨q, hq, e⟩ := List.mem_map.mp h
    split at e
    · rename_i z; right; rw [← e, z]
    · left; rw [← e]; exact hq
  · rcases List.mem_append.mp h with h | h
    · exact .inl h
    · exact .inr (List.mem_singleton.mp h)
theorem lput_len {L : List (Cs × Int)} {s : Cs} {v : Int} : (lput L s v).length ≤ L.length + 1 := by
  unfold lput
  split <;> simp
/-- all names in it known -/
def Kwn (L : List (Cs × Int)) (t : Th) : Prop := ∀ s ∈ t.names, (nlk L s).isSome = true
theorem wbd_nn {i : Int} {s : Cs} : wbd i ≠ .non s := by unfold wbd; split <;> simp
theorem kn_non {L : List (Cs × Int)} : ∀ {t : Th} {s : Cs}, Kwn L t → wth L t ≠ .non s
  | .num i, s, h => by simp [wth]
  | .name y, s, h => by
    have := h y (by simp [Th.names])
    simp only [wth]
    cases e : nlk L y with
    | none => rw [e] at this; cases this
    | some v => exact wbd_nn
  | .bound _, s, h => by simp [wth]
  | .no, s, h => by simp [wth]
  | .un u t, s, h => by
    have := kn_non (t := t) (s := s) (L := L) h
    simp only [wth]
    split
    · exact wbd_nn
    · exact this
  | .bi b t u, s, h => by
    have h1 := kn_non (t := t) (s := s) (L := L) fun x hx => h x (List.mem_append.mpr (.inl hx))
    have h2 := kn_non (t := u) (s := s) (L := L) fun x hx => h x (List.mem_append.mpr (.inr hx))
    simp only [wth]
    split
    · split
      · exact wbd_nn
      · exact h2
    · exact h1
def wq (L : List (Cs × Int)) (t : Th) : Option Int := match wth L t with
  | .ok i => some i
  | _ => none
theorem wq_some {L : List (Cs × Int)} {t : Th} {i : Int} : wq L t = some i ↔ wth L t = .ok i := by
  unfold wq
  cases wth L t <;> simp
theorem tC_of : ∀ {t : Th}, tmB 0 t = true → tC t = true
  | .num i, h => by simpa [tmB, tC] using h
  | .name s, h => h
  | .bound i, h => by simp [tmB] at h; omega
  | .no, h => by simp [tmB] at h
  | .un u t, h => by
    cases u <;> simp only [tmB] at h <;> try cases h
    simp only [tC]; exact tC_of h
  | .bi b t u, h => by
    cases b <;> simp only [tmB, Bool.and_eq_true] at h <;> try cases h
    all_goals (rename_i h1 h2; simp only [tC, tC_of h1, tC_of h2, Bool.and_self])
/-- a name's number put for it -/
theorem wth_put {L L' : List (Cs × Int)} {x : Cs} {b : Th} {s : Int} (hb : wth L b = .ok s) (hs : wbd s = .ok s) (h1 : nlk L' x = some s) (h2 : ∀ y, y ≠ x → nlk L' y = nlk L y) : ∀ (a : Th) (k : Nat), wth L (a.chg (fF x b) k) = wth L' a
  | .num i, k => rfl
  | .name y, k => by
    simp only [Th.chg, fF, Th.name.injEq]
    by_cases e : y = x
    · subst e
      simp only [if_true, wth, h1, hb, hs]
    · simp only [e, if_false, wth, h2 y e]
  | .bound _, k => by simp [Th.chg, fF, wth]
  | .no, k => rfl
  | .un u t, k => by simp only [Th.chg, wth, wth_put hb hs h1 h2 t _]
  | .bi o t u, k => by simp only [Th.chg, wth, wth_put hb hs h1 h2 t _, wth_put hb hs h1 h2 u _]
theorem wth_big {L : List (Cs × Int)} {x : Cs} {b : Th} (hb : ∀ s, wth L b ≠ .ok s) : ∀ (a : Th) (k : Nat), x ∈ a.names → ∀ s, wth L (a.chg (fF x b) k) ≠ .ok s
  | .num i, k, h, s => by simp [Th.names] at h
  | .name y, k, h, s => by
    simp only [Th.names, List.mem_singleton] at h
    subst h
    simp only [Th.chg, fF, if_true]
    exact hb s
  | .bound _, k, h, s => by simp [Th.names] at h
  | .no, k, h, s => by simp [Th.names] at h
  | .un u t, k, h, s => by
    have := fun s => wth_big hb t (k + u.tk) h s
    simp only [Th.chg, wth]
    cases e : wth L (t.chg (fF x b) (k + u.tk)) with
    | ok i => exact absurd e (this i)
    | non s => simp
    | big => simp
  | .bi o t u, k, h, s => by
    simp only [Th.chg, wth]
    rcases List.mem_append.mp h with h | h
    · have := fun s => wth_big hb t k h s
      cases e : wth L (t.chg (fF x b) k) with
      | ok i => exact absurd e (this i)
      | non s => simp
      | big => simp
    · have := fun s => wth_big hb u k h s
      cases e1 : wth L (t.chg (fF x b) k) with
      | ok i =>
        cases e : wth L (u.chg (fF x b) k) with
        | ok i => exact absurd e (this i)
        | non s => simp
        | big => simp
      | non s => simp
      | big => simp
theorem wth_nil {L L' : List (Cs × Int)} : ∀ {t : Th}, t.names = [] → wth L t = wth L' t
  | .num i, h => rfl
  | .name y, h => by simp [Th.names] at h
  | .bound _, h => rfl
  | .no, h => rfl
  | .un u t, h => by simp only [wth, wth_nil (t := t) (L := L) (L' := L') h]
  | .bi o t u, h => by
    obtain ⟨h1, h2⟩ := List.append_eq_nil_iff.mp h
    simp only [wth, wth_nil (t := t) (L := L) (L' := L') h1, wth_nil (t := u) (L := L) (L' := L') h2]
theorem wq_comm {L : List (Cs × Int)} {t u : Th} : wq L (.bi .plus t u) = wq L (.bi .plus u t) := by
  unfold wq
  simp only [wth, if_true]
  cases wth L t <;> cases wth L u <;> simp [Int.add_comm]
theorem q_hcn {C : Cl} {cs : List Nat} {c : Nat} {l : List D} {x : SL} {hl : HL} {ρ : Env} {h : Hs} {N B K : Kn} {T : Kt D} {zk : Kz} : @Wq (evH C (.cons cs none x hl) c l ρ h) N T B K zk = @Br (cs.contains c = true) ⟨@Wq (evSL C x ρ h) N T B K zk⟩ ⟨@Wq (evH C hl c l ρ h) N T B K zk⟩ := by
  unfold Br Wq
  by_cases q : cs.contains c = true
  · simp only [evH, q, if_true, true_implies, not_true_eq_false, false_implies, and_true]
  · simp only [evH, q, if_false, false_implies, not_false_eq_true, true_implies, true_and, Bool.false_eq_true]

end Lw
namespace Lw
open PV
def oW : Wo → D
  | .ok i => .int i
  | .non s => .str s
  | .big => .non
def z8 : Cs := [122, 122, 122, 122, 122, 122, 122, 122]
theorem sz_str {s : Cs} (h : s.length ≤ 8) : (D.str s).sz ≤ 100 := by simp only [D.sz]; omega
theorem kv_len : ∀ L : List (Cs × Int), (∀ p ∈ L, word p.1 = true ∧ p.2.natAbs < B64) → ((PySem.PyData.shownKv (D.pyP (nD L))).map (·.length)).sum ≤ 300 * L.length ∧ (PySem.PyData.shownKv (D.pyP (nD L))).length = L.length
  | [], _ => by simp [nD, D.pyP, PySem.PyData.shownKv]
  | p :: L, h => by
    have ih := kv_len L fun q hq => h q (by simp [hq])
    obtain ⟨h1, h2⟩ := h p (by simp)
    have a1 := D.shown_le (.str p.1) (word_okd h1)
    have a2 := sz_str (word_len h1).2
    have a3 := dig_len h2
    simp only [nD] at ih
    simp only [nD, List.map_cons, D.pyP, PySem.PyData.shownKv, List.sum_cons, List.length_cons]
    have l1 : ((D.str p.1).py.shown ++ (": " : PySem.Str) ++ (D.int p.2).py.shown).length = (D.str p.1).py.shown.length + 2 + (D.int p.2).py.shown.length := by
      rw [PySem.Str.length_append, PySem.Str.length_append]; rfl
    have a4 : (D.int p.2).py.shown.length ≤ 80 := a3
    rw [l1]
    omega
theorem kv_ok : ∀ L : List (Cs × Int), (∀ p ∈ L, word p.1 = true ∧ p.2.natAbs < B64) → PySem.PyData.showableKv (D.pyP (nD L)) = true ∧ dctFlat (.dct (nD L)) = true
  | [], _ => ⟨rfl, rfl⟩
  | p :: L, h => by
    have ih := kv_ok L fun q hq => h q (by simp [hq])
    obtain ⟨h1, h2⟩ := h p (by simp)
    have i1 : (D.int p.2).okd = true := by unfold D.okd; exact decide_eq_true h2
    have a1 := D.show_of_okd (.str p.1) (word_okd h1)
    have a2 := D.show_of_okd (.int p.2) i1
    have f1 := D.flat_of_okd _ (word_okd h1)
    have f2 := D.flat_of_okd _ i1
    have e : nD (p :: L) = (.str p.1, .int p.2) :: nD L := rfl
    have q : dctFlat (.dct ((.str p.1, .int p.2) :: nD L)) = ((true && ((D.str p.1).flat && (D.int p.2).flat)) && dctFlat (.dct (nD L))) := rfl
    rw [e, q, f1, f2, ih.2]
    simp only [D.pyP, PySem.PyData.showableKv, a1, a2, ih.1, Bool.and_self, and_self]
theorem nD_dep : ∀ L : List (Cs × Int), D.depP (nD L) = 0
  | [] => rfl
  | p :: L => by
    have : nD (p :: L) = (.str p.1, .int p.2) :: nD L := rfl
    rw [this]
    simp only [D.depP, D.dep, nD_dep L, Nat.max_self]
theorem nD_repr {b : Nat} {h : Hs} {x : D} {L : List (Cs × Int)} (hx : vw h x = .dct (nD L)) (hL : ∀ p ∈ L, word p.1 = true ∧ p.2.natAbs < B64) (ll : L.length ≤ 100) (hb : 1 ≤ b) : blt b h .repr [x] = some (.str (shown (.dct (nD L)))) := by
  obtain ⟨a, f⟩ := kv_ok L hL
  obtain ⟨c, d⟩ := kv_len L hL
  have e := PySem.dictText_len_le (PySem.PyData.shownKv (D.pyP (nD L)))
  have l : (shown (.dct (nD L))).length ≤ 16777216 := by
    show (D.dct (nD L)).py.shown.cps.toList.length ≤ _
    rw [Array.length_toList]
    have : (D.dct (nD L)).py.shown.length = (PySem.dictText (PySem.PyData.shownKv (D.pyP (nD L)))).length := by simp only [D.py, PySem.PyData.shown]
    show (D.dct (nD L)).py.shown.length ≤ _
    rw [this]
    omega
  have s : (D.dct (nD L)).py.showable = true := by simp only [D.py, PySem.PyData.showable, a]
  have r : (reprOk (.dct (nD L)) && decide ((D.dct (nD L)).dep ≤ b)) = true := by
    simp only [reprOk, f, s, okLen_of l, Bool.or_true, Bool.and_self, Bool.true_and]
    exact decide_eq_true (by simp only [D.dep, nD_dep]; omega)
  simp only [blt, hx]
  rw [if_pos r]
theorem own {L : List (Cs × Int)} (hL : ∀ p ∈ L, 0 ≤ p.2) {q : Nat} : ∀ (t : Th) (n : Nat) (h : Hs), h[q]? = some (.dct (nD L)) → tC t = true → t.dp + 1 ≤ n → callN pr n 85 [t.d, .ref q] h = .ok (oW (wth L t)) h := by
  have s10 : small 10 = true := by decide
  have vk : ∀ {h : Hs}, h[q]? = some (.dct (nD L)) → ∀ k : Hs, vw (h ++ k) (.ref q) = .dct (nD L) ∧ (h ++ k)[q]? = some (.dct (nD L)) := fun {h} e k => by
    have : q < h.length := (List.getElem?_eq_some_iff.mp e).1
    have : (h ++ k)[q]? = some (.dct (nD L)) := by rw [List.getElem?_append_left this]; exact e
    exact ⟨vw_ref this (by simp), this⟩
  have li : ∀ a : D, atI [a] (-1) = some a := fun _ => rfl
  have lj : ∀ a b : D, atI [a, b] (-1) = some b := fun _ _ => rfl
  have l0 : (0 < line) = True := by simp [line]
  have l1 : (1 < line) = True := by simp [line]
  intro t
  induction t with
  | num i =>
    intro n h hx ht hn
    simp only [Th.dp] at hn
    obtain ⟨n, rfl⟩ : ∃ m, n = m + 1 := ⟨n - 1, by omega⟩
    refine eq_of_wr (call_i (fd := fd85) rfl rfl ?_)
    unfold fd85
    simp only [Th.d]
    repeat' (first | (with_reducible refine br_i (fun _ => ?_) (fun _ => ?_)) | (with_reducible refine And.intro (by omega) ?_) | simp_arith [kt_mk])
    rfl
  | name s =>
    intro n h hx ht hn
    simp only [Th.dp] at hn
    obtain ⟨n, rfl⟩ : ∃ m, n = m + 1 := ⟨n - 1, by omega⟩
    have dg := nlk_d L s
    have v0 := (vk hx []).1
    rw [List.append_nil] at v0
    refine eq_of_wr (call_i (fd := fd85) rfl rfl ?_)
    unfold fd85
    simp only [Th.d]
    cases e : nlk L s with
    | none =>
      rw [e] at dg
      repeat' (first | (with_reducible refine br_i (fun _ => ?_) (fun _ => ?_)) | (with_reducible refine And.intro (by omega) ?_) | simp_arith [v0, dg, s10, Option.map_none, Option.isSome_none])
      simp only [wth, e]; rfl
    | some v =>
      rw [e] at dg
      repeat' (first | (with_reducible refine br_i (fun _ => ?_) (fun _ => ?_)) | (with_reducible refine And.intro (by omega) ?_) | simp_arith [v0, dg, s10, Option.map_some])
      all_goals (simp only [wth, e, wbd]; split <;> first | rfl | omega)
  | bound i => intro n h hx ht; simp [tC] at ht
  | no => intro n h hx ht; simp [tC] at ht
  | un u t ih =>
    intro n h hx ht hn
    simp only [Th.dp] at hn
    obtain ⟨n, rfl⟩ : ∃ m, n = m + 1 := ⟨n - 1, by omega⟩
    cases u <;> simp only [tC] at ht <;> try cases ht
    have i := fun k => ih n (h ++ k) (vk hx k).2 ht (by omega)
    have td := fun (k : Hs) (o : D) (w : D.withinL h.length [o] = true) => trim_app (h := h) (k := k) w
    refine eq_of_wr (call_i (fd := fd85) rfl rfl ?_)
    unfold fd85
    simp only [Th.d, U1.w]
    cases e : wth L t with
    | ok v =>
      rw [e] at i
      simp only [oW] at i
      repeat' (first | (with_reducible refine br_i (fun _ => ?_) (fun _ => ?_)) | (with_reducible refine And.intro (by omega) ?_) | simp_arith [i, s10, li, l0, td])
      all_goals (simp only [wth, e, wbd]; split <;> first | rfl | omega)
    | non s =>
      rw [e] at i
      simp only [oW] at i
      repeat' (first | (with_reducible refine br_i (fun _ => ?_) (fun _ => ?_)) | (with_reducible refine And.intro (by omega) ?_) | simp_arith [i, s10, li, l0, td])
      all_goals (simp only [wth, e]; rfl)
    | big =>
      rw [e] at i
      simp only [oW] at i
      repeat' (first | (with_reducible refine br_i (fun _ => ?_) (fun _ => ?_)) | (with_reducible refine And.intro (by omega) ?_) | simp_arith [i, s10, li, l0, td])
      all_goals (simp only [wth, e]; rfl)
  | bi b t u ih1 ih2 =>
    intro n h hx ht hn
    simp only [Th.dp] at hn
    obtain ⟨n, rfl⟩ : ∃ m, n = m + 1 := ⟨n - 1, by omega⟩
    have two : tC t = true ∧ tC u = true := by cases b <;> simp [tC] at ht <;> exact ht
    have i := fun k => ih1 n (h ++ k) (vk hx k).2 two.1 (by omega)
    have j := fun k => ih2 n (h ++ k) (vk hx k).2 two.2 (by omega)
    have in1 := fun i => wth_in hL (t := t) (i := i) two.1
    have in2 := fun i => wth_in hL (t := u) (i := i) two.2
    have td := fun (k : Hs) (o : D) (w : D.withinL h.length [o] = true) => trim_app (h := h) (k := k) w
    refine eq_of_wr (call_i (fd := fd85) rfl rfl ?_)
    unfold fd85
    cases e1 : wth L t with
    | ok v =>
      have v1 := in1 v e1
      rw [e1] at i
      cases e2 : wth L u with
      | ok z =>
        have z1 := in2 z e2
        rw [e2] at j
        have mv : mid v = true := mid_of (Nat.lt_trans (m := 10 ^ 60) (by omega) (by decide))
        have mz : mid z = true := mid_of (Nat.lt_trans (m := 10 ^ 60) (by omega) (by decide))
        simp only [oW] at i j
        cases b <;> simp only [tC] at ht <;> try cases ht
        all_goals
          simp only [Th.d, B2.w]
          repeat' (first | (with_reducible refine br_i (fun _ => ?_) (fun _ => ?_)) | (with_reducible refine And.intro (by omega) ?_) | simp_arith [i, j, s10, li, lj, l0, l1, td, mv, mz])
          all_goals (simp only [wth, e1, e2, wbd, if_true, if_false, reduceCtorEq]; split <;> first | rfl | omega)
      | non s =>
        rw [e2] at j
        simp only [oW] at i j
        cases b <;> simp only [tC] at ht <;> try cases ht
        all_goals
          simp only [Th.d, B2.w]
          repeat' (first | (with_reducible refine br_i (fun _ => ?_) (fun _ => ?_)) | (with_reducible refine And.intro (by omega) ?_) | simp_arith [i, j, s10, li, lj, l0, l1, td])
          all_goals (simp only [wth, e1, e2]; rfl)
      | big =>
        rw [e2] at j
        simp only [oW] at i j
        cases b <;> simp only [tC] at ht <;> try cases ht
        all_goals
          simp only [Th.d, B2.w]
          repeat' (first | (with_reducible refine br_i (fun _ => ?_) (fun _ => ?_)) | (with_reducible refine And.intro (by omega) ?_) | simp_arith [i, j, s10, li, lj, l0, l1, td])
          all_goals (simp only [wth, e1, e2]; rfl)
    | non s =>
      rw [e1] at i
      simp only [oW] at i
      cases b <;> simp only [tC] at ht <;> try cases ht
      all_goals
        simp only [Th.d, B2.w]
        repeat' (first | (with_reducible refine br_i (fun _ => ?_) (fun _ => ?_)) | (with_reducible refine And.intro (by omega) ?_) | simp_arith [i, s10, li, lj, l0, l1, td])
        all_goals (simp only [wth, e1]; rfl)
    | big =>
      rw [e1] at i
      simp only [oW] at i
      cases b <;> simp only [tC] at ht <;> try cases ht
      all_goals
        simp only [Th.d, B2.w]
        repeat' (first | (with_reducible refine br_i (fun _ => ?_) (fun _ => ?_)) | (with_reducible refine And.intro (by omega) ?_) | simp_arith [i, s10, li, lj, l0, l1, td])
        all_goals (simp only [wth, e1]; rfl)
theorem told {L : List (Cs × Int)} (hL : ∀ p ∈ L, 0 ≤ p.2) {t : Th} {n : Nat} {h : Hs} {x : D} (hx : vw h x = .dct (nD L)) (ht : tC t = true) (hn : t.dp + 2 ≤ n) : callN pr n 86 [t.d, x] h = .ok (oW (wth L t)) h := by
  obtain ⟨n, rfl⟩ : ∃ m, n = m + 1 := ⟨n - 1, by omega⟩
  have i := worth hL t n h hx ht (by omega)
  have c1 : [0, 4, 1, 5, 2, 3].contains 3 = true := rfl
  have c2 : [0, 4, 1, 5, 2, 3].contains 1 = true := rfl
  have c3 : [4, 5, 2].contains 1 = false := rfl
  have c4 : [4, 5, 2].contains 3 = false := rfl
  have c5 : [3].contains 3 = true := rfl
  have c6 : [3].contains 1 = false := rfl
  have c7 : [1].contains 3 = false := rfl
  have c8 : [1].contains 1 = true := rfl
  have c9 : ∀ k : Nat, ([] : List Nat).contains k = false := fun _ => rfl
  have fl : ∀ s : Cs, fldAt pr [110, 97, 109, 101] (.exc 1 [.str s]) = some (.str s) := fun _ => rfl
  have es : ∀ (m : Nat) (c : Nat) (l : List D), cop (8 * m + 300) .is (.exc c l) .non = some (.bl false) := fun _ _ _ => rfl
  refine eq_of_wr (call_i (fd := fd86) rfl rfl ?_)
  unfold fd86
  cases e : wth L t with
  | ok v =>
    rw [e] at i
    simp only [Wo.r] at i
    repeat' (first | (with_reducible refine br_i (fun _ => ?_) (fun _ => ?_)) | (with_reducible refine And.intro (by omega) ?_) | simp_arith [i])
    rfl
  | non s =>
    rw [e] at i
    simp only [Wo.r] at i
    repeat' (first | (with_reducible refine br_i (fun _ => ?_) (fun _ => ?_)) | (with_reducible refine And.intro (by omega) ?_) | simp_arith [i, c1, c2, c3, c4, c5, c6, c7, c8, c9, fl, es])
    rfl
  | big =>
    rw [e] at i
    simp only [Wo.r] at i
    repeat' (first | (with_reducible refine br_i (fun _ => ?_) (fun _ => ?_)) | (with_reducible refine And.intro (by omega) ?_) | simp_arith [i, c1, c2, c3, c4, c5, c6, c7, c8, c9, fl, es])
    rfl
theorem kv_sg : ∀ L : List (Cs × Int), (∀ p ∈ L, word p.1 = true ∧ p.2.natAbs < B64) → ∀ x ∈ PySem.PyData.shownKv (D.pyP (nD L)), Sg x
  | [], _, x, hx => by simp [nD, D.pyP, PySem.PyData.shownKv] at hx
  | p :: L, h, x, hx => by
    obtain ⟨h1, h2⟩ := h p (by simp)
    have i1 : (D.int p.2).okd = true := by unfold D.okd; exact decide_eq_true h2
    have e : nD (p :: L) = (.str p.1, .int p.2) :: nD L := rfl
    rw [e] at hx
    simp only [D.pyP, PySem.PyData.shownKv, List.mem_cons] at hx
    rcases hx with rfl | hx
    · exact ((D.sg_shown (.str p.1) (word_okd h1)).app (sg_of _)).app (D.sg_shown (.int p.2) i1)
    · exact kv_sg L (fun q hq => h q (by simp [hq])) x hx
theorem nD_shown_ne {n : Nat} {L : List (Cs × Int)} (hL : ∀ p ∈ L, word p.1 = true ∧ p.2.natAbs < B64) : cop (8 * n + 300) .ne (.str (shown (.dct (nD L)))) (.str (shown (.dct (nD L)))) = some (.bl false) := by
  have s : Sg (D.dct (nD L)).py.shown := by
    simp only [D.py, PySem.PyData.shown]
    exact ((sg_of _).app (sg_join (sg_of _) _ (kv_sg L hL))).app (sg_of _)
  have f : (D.str (shown (.dct (nD L)))).flat = true := by
    simp only [D.flat, List.all_eq_true, decide_eq_true_eq]
    exact s
  rw [ne_r f f rfl]
  simp [D.eqv]

end Lw
namespace Lw
open PV
abbrev abc : Cs := [97, 98, 99, 100, 101, 102, 103, 104, 105, 106, 107, 108, 109, 110, 111, 112, 113, 114, 115, 116, 117, 118, 119, 120, 121, 122]
theorem abc_ok : ∀ x ∈ abc, 97 ≤ x ∧ x ≤ 122 := by decide
theorem word_of {s : Cs} (h1 : 1 ≤ s.length) (h2 : s.length ≤ 8) (h3 : ∀ x ∈ s, 97 ≤ x ∧ x ≤ 122) : word s = true := by
  unfold word
  simp only [Bool.and_eq_true, decide_eq_true_eq, List.all_eq_true]
  exact ⟨⟨h1, h2⟩, h3⟩
theorem ne_oW {n : Nat} {o : Wo} (h : ∀ s, o = .non s → word s = true) : cop (8 * n + 300) .ne (oW o) (oW o) = some (.bl false) := by
  cases o with
  | big => rw [ne_r rfl rfl rfl]; rfl
  | ok i => rw [ne_r rfl rfl rfl]; simp [oW, D.eqv]
  | non s =>
    have f := D.flat_of_okd _ (word_okd (h s rfl))
    rw [show oW (.non s) = .str s from rfl, ne_r f f rfl]
    simp [D.eqv]
theorem is_oW {n : Nat} (o : Wo) : ∃ b, cop (8 * n + 300) .is (oW o) .non = some (.bl b) := by
  cases o <;> exact ⟨_, rfl⟩
theorem vw_oW {h : Hs} (o : Wo) : vw h (oW o) = oW o := by cases o <;> rfl
theorem non_w {L : List (Cs × Int)} : ∀ {t : Th} {s : Cs}, t.ok = true → wth L t = .non s → word s = true
  | .num i, s, _, h => by simp [wth] at h
  | .name y, s, ht, h => by
    simp only [wth] at h
    split at h
    · cases h; exact ht
    · exact absurd h wbd_nn
  | .bound _, s, _, h => by simp [wth] at h
  | .no, s, _, h => by simp [wth] at h
  | .un u t, s, ht, h => by
    simp only [wth] at h
    cases e : wth L t with
    | ok i => rw [e] at h; exact absurd h wbd_nn
    | non s' => rw [e] at h; cases h; exact non_w (t := t) ht e
    | big => rw [e] at h; cases h
  | .bi b t u, s, ht, h => by
    simp only [Th.ok, Bool.and_eq_true] at ht
    simp only [wth] at h
    cases e : wth L t with
    | ok i =>
      rw [e] at h
      cases e2 : wth L u with
      | ok j => rw [e2] at h; exact absurd h wbd_nn
      | non s' => rw [e2] at h; cases h; exact non_w (t := u) ht.2 e2
      | big => rw [e2] at h; cases h
    | non s' => rw [e] at h; cases h; exact non_w (t := t) ht.1 e
    | big => rw [e] at h; cases h
theorem law_ok (ns : List Int) (hl : ns.length ≤ 63) : callN pr 500 87 [.lst (ns.map .int)] [] = .ok (.bl true) [] := by
  obtain ⟨N, eN⟩ : ∃ N, N = 498 := ⟨_, rfl⟩
  rw [show 500 = N + 1 + 1 by omega]
  refine eq_of_wr (call_i (fd := fd87) rfl rfl ?_)
  unfold fd87
  obtain ⟨t, et, ht⟩ := turns_of ns.length 2 6 (by omega) (by omega) (by omega) (by omega)
  have rt : rngOk (t : Int) = true := rng_ok (by omega) (by omega)
  have s10 : small 10 = true := by decide
  simp_arith [et, rt]
  refine for_i (fun j ρ h' => ∃ a1 a2 a3 a4 a5 a6 a7 a8 a9 a10 a11 a12 a13, ρ = [some (.lst (ns.map .int)), a1, a2, a3, a4, a5, a6, a7, a8, a9, a10, a11, a12, a13]) ⟨_, _, _, _, _, _, _, _, _, _, _, _, _, rfl⟩ ?_ ?_
  · rintro j x _ h0 hx ⟨a1, a2, a3, a4, a5, a6, a7, a8, a9, a10, a11, a12, a13, rfl⟩
    obtain ⟨rfl, hj⟩ := rangeD_at hx
    have hj : j < 6 := by have : (t : Int).toNat = t := by omega
                          omega
    simp_arith [kt_mk]
    refine r_mono (feed (by omega) (by omega)) ?_
    rintro v _ ⟨c, rfl, rfl, hc⟩
    obtain ⟨hb, ehb⟩ : ∃ hb : Hs, hb = h0 ++ [.non] := ⟨_, rfl⟩
    have e1 : h0 ++ [c] = hb.set h0.length c := by rw [ehb]; simp
    have hi : h0.length < hb.length := by rw [ehb]; simp
    rw [e1]
    clear e1 ehb
    obtain ⟨i, ei⟩ : ∃ i, i = h0.length := ⟨_, rfl⟩
    rw [← ei] at hi ⊢
    clear ei hx
    have hi2 : ∀ l : List D, i < (hb ++ [D.lst l]).length := fun l => by simp; omega
    have r4 : rngOk 4 = true := rng_ok (by omega) (by omega)
    simp_arith [box_lst, len_set, r4]
    rw [show hb.set i c ++ [D.lst []] = (hb ++ [D.lst []]).set i c from setA hi]
    have g0 : ∀ (c : D) (l : List D), ((hb ++ [D.lst l]).set i c).getD hb.length .non = .lst l := fun c l => gD_setA hi
    have s0 : ∀ (c e : D) (l : List D), ((hb ++ [D.lst l]).set i c).set hb.length e = (hb ++ [e]).set i c := fun c e l => set_setA hi
    have v0 : ∀ (c : D) (l : List D), vw ((hb ++ [D.lst l]).set i c) (.ref hb.length) = .lst l := fun c l => vw_setA hi
    refine for_i (fun k ρ h' => ∃ c ws a5 a13, h' = (hb ++ [D.lst (ws.map .str)]).set i c ∧ Fc c ∧ ws.length = k ∧ (∀ s ∈ ws, word s = true) ∧
      ρ = [some (.lst (ns.map .int)), some (.int j), some (.ref i), some (.str abc), some (.ref hb.length), a5, a6, a7, a8, a9, a10, a11, a12, a13]) ⟨c, [], _, _, rfl, hc, rfl, by simp, rfl⟩ ?_ ?_
    · rintro k x _ _ hx ⟨c2, ws, a5, a13, rfl, hc2, wl, wo, rfl⟩
      obtain ⟨rfl, hk⟩ := rangeD_at hx
      have hk : k < 4 := by omega
      simp_arith [g0]
      refine r_mono (take (by omega) (hi2 _) hc2 (by omega) (b7 _ (by omega) (by omega))) ?_
      rintro v _ ⟨c3, rfl, hc3, q, rfl, q0, q1⟩
      have rq : rngOk (1 + q) = true := rng_ok (by omega) (by omega)
      simp_arith [rq]
      refine ⟨fine_rng (by rw [rgD_len]; omega), ?_⟩
      refine turns_i (fun z acc h' => ∃ c cs, h' = (hb ++ [D.lst (ws.map .str)]).set i c ∧ Fc c ∧ acc = cs.map (fun x => D.str [x]) ∧ cs.length = z ∧ ∀ x ∈ cs, 97 ≤ x ∧ x ≤ 122) ⟨c3, [], rfl, hc3, rfl, rfl, by simp⟩ ?_ ?_
      · rintro z x acc _ hx ⟨c4, cs, rfl, hc4, rfl, lz, cz⟩
        clear hx
        simp_arith [kt_mk]
        refine r_mono (fpickS (fun x => 97 ≤ x ∧ x ≤ 122) (by omega) (hi2 _) hc4 (by decide) (by decide) abc_ok) ?_
        rintro v _ ⟨c5, rfl, hc5, y, rfl, y0⟩
        simp_arith [kt_mk]
        refine ⟨_, cs ++ [y], rfl, hc5, by simp, by simp [lz], fun x hx => ?_⟩
        rcases List.mem_append.mp hx with hx | hx
        · exact cz x hx
        · rw [List.mem_singleton] at hx
          rw [hx]
          exact y0
      · rintro acc _ ⟨c4, cs, rfl, hc4, rfl, lz, cz⟩
        rw [rgD_len] at lz
        have jl := fun (b : Nat) (h : Hs) => join_letters (b := b) (h := h) (cs := cs) (by omega)
        have wcs : word cs = true := word_of (by omega) (by omega) cz
        simp_arith [g0, s0, jl]
        refine ⟨by unfold line; omega, _, ws ++ [cs], _, _, by rw [List.map_append]; rfl, hc4, by simp [wl], fun x hx => ?_, rfl⟩
        rcases List.mem_append.mp hx with hx | hx
        · exact wo x hx
        · rw [List.mem_singleton] at hx
          rw [hx]
          exact wcs
    · rintro _ _ ⟨c2, ws, a5, a13, rfl, hc2, wl, wo, rfl⟩
      rw [rgD_len] at wl
      have wl : ws.length = 4 := wl
      have nw : Nw (ws.map .str) := nw_of (by omega) (by rw [List.all_eq_true]; exact wo)
      have hv : ∀ c, vw ((hb ++ [D.lst (ws.map .str)]).set i c) (.ref hb.length) = .lst (ws.map .str) := fun c => v0 c _
      have t5 := termR (a := 0) hv (hi2 _) nw (by omega) 5
      rw [show ((5 : Nat) : Int) = 5 from rfl] at t5
      simp_arith [kt_mk]
      refine r_mono (t5 _ _ (by omega) hc2) ?_
      rintro _ _ ⟨c3, rfl, hc3, T, rfl, T1, T2, T3, T4⟩
      have oT : T.ok = true := tmB_ok (a := 0) (by omega) T1
      obtain ⟨hc, ehc⟩ : ∃ hc : Hs, hc = hb ++ [D.lst (ws.map .str)] := ⟨_, rfl⟩
      have lhc : hc.length = hb.length + 1 := by rw [ehc]; simp
      rw [← ehc]
      have hi3 : ∀ l : List (D × D), i < (hc ++ [D.dct l]).length := fun l => by simp [lhc]; omega
      have ihc : i < hc.length := by omega
      have g1 : ∀ (c : D) (l : List (D × D)), ((hc ++ [D.dct l]).set i c).getD hc.length .non = .dct l := fun c l => gD_setA ihc
      have s1 : ∀ (c e : D) (l : List (D × D)), ((hc ++ [D.dct l]).set i c).set hc.length e = (hc ++ [e]).set i c := fun c e l => set_setA ihc
      have v1 : ∀ (c : D) (l : List (D × D)), vw ((hc ++ [D.dct l]).set i c) (.ref hb.length) = .lst (ws.map .str) := fun c l => vw_ref (by
        rw [← setA ihc, List.getElem?_append_left (by simp [lhc]), List.getElem?_set_ne (by omega), ehc]
        simp) (by simp)
      have w1 : ∀ (c : D) (l : List (D × D)), vw ((hc ++ [D.dct l]).set i c) (.ref hc.length) = .dct l := fun c l => vw_setAD ihc
      have dd : dctOf [D.str [122, 122, 122, 122, 122, 122, 122, 122]] [D.int 10000000000000000000000000000000000000000000000000000000000000] [] = some (nD [([122, 122, 122, 122, 122, 122, 122, 122], 10000000000000000000000000000000000000000000000000000000000000)]) := rfl
      clear g0 s0 hi2 t5 hv v0
      repeat' (first | (with_reducible refine br_i (fun _ => ?_) (fun _ => ?_)) | (with_reducible refine And.intro (by omega) ?_) | simp_arith [box_dct, len_set, dd, -for_c])
      simp only [setA ihc]
      have cell : ∀ (c : D) (l : List (D × D)), ((hc ++ [D.dct l]).set i c)[hb.length]? = some (.lst (ws.map .str)) := fun c l => by
        rw [← setA ihc, List.getElem?_append_left (by simp [lhc]), List.getElem?_set_ne (by omega), ehc]
        simp
      have cel2 : ∀ (c : D) (l : List (D × D)), ((hc ++ [D.dct l]).set i c)[hc.length]? = some (.dct l) := fun c l => by
        rw [List.getElem?_set_ne (by omega)]
        simp
      have th : ∀ (c : D) (l : List (D × D)), through ((hc ++ [D.dct l]).set i c) .plain [.ref hb.length] = some (ws.map .str) := fun c l => by simp only [through, v1]
      have sty : ∀ (c : D) (l : List (D × D)) (c' : D) (l' : List (D × D)), stay ((hc ++ [D.dct l]).set i c) ((hc ++ [D.dct l']).set i c') [.ref hb.length] = true := fun c l c' l' => by simp [stay, cell]
      repeat' (first | (with_reducible refine br_i (fun _ => ?_) (fun _ => ?_)) | (with_reducible refine And.intro (by omega) ?_) | simp_arith [th, -for_c])
      refine for_i (fun k ρ h' => ∃ c L a8 a12, h' = (hc ++ [D.dct (nD L)]).set i c ∧ Fc c ∧ L.length ≤ k + 1 ∧ (∀ p ∈ L, word p.1 = true ∧ 0 ≤ p.2 ∧ p.2.natAbs < B64) ∧
        ρ = [some (.lst (ns.map .int)), some (.int j), some (.ref i), some (.str abc), some (.ref hb.length), a5, some T.d, some (.ref hc.length), a8, a9, a10, a11, a12, a13]) ⟨c3, _, _, _, rfl, hc3, by simp, fun p hp => ?_, rfl⟩ ?_ ?_
      · rw [List.mem_singleton] at hp
        subst hp
        exact ⟨rfl, by decide, by decide⟩
      · rintro k x _ _ hx ⟨c4, L, a8, a12, rfl, hc4, Ll, Lb, rfl⟩
        obtain ⟨s, rfl, hs⟩ : ∃ s, x = .str s ∧ s ∈ ws := by
          obtain ⟨s, hs, e⟩ := List.mem_map.mp (List.mem_of_getElem? hx)
          exact ⟨s, e.symm, hs⟩
        have hk : k < 4 := by
          have := (List.getElem?_eq_some_iff.mp hx).1
          simp at this
          omega
        clear hx
        have sw := wo s hs
        have ll : decide ((nD L).length < line) = true := decide_eq_true (by simp only [nD, List.length_map]; unfold line; omega)
        simp_arith [s10]
        refine r_mono (fpick (fun x => ∃ v : Int, x = .int v ∧ 0 ≤ v ∧ v.natAbs < B64) (by omega) (hi3 _) hc4 (by simp) (by simp) ?_) ?_
        · simp only [List.mem_cons, List.not_mem_nil, or_false]
          rintro x (rfl | rfl | rfl)
          all_goals exact ⟨_, rfl, by decide, by decide⟩
        rintro _ _ ⟨c5, rfl, hc5, v5, rfl, w0, w1⟩
        simp_arith [s10]
        refine r_mono (take (by omega) (hi3 _) hc5 (by omega) (b7 _ (by omega) (by omega))) ?_
        rintro _ _ ⟨c6, rfl, hc6, r6, rfl, p0, p1⟩
        simp_arith [s10]
        refine br_i (fun _ => ?_) fun _ => ?_
        · simp_arith [s10]
          refine r_mono (take (by omega) (hi3 _) hc6 (by omega) (b7 _ (by omega) (by omega))) ?_
          rintro _ _ ⟨c7, rfl, hc7, r7, rfl, q0, q1⟩
          simp_arith [s10]
          refine r_mono (fpick (fun x => ∃ v : Int, x = .int v ∧ 0 ≤ v ∧ v.natAbs < B64) (by omega) (hi3 _) hc7 (by simp) (by simp) ?_) ?_
          · simp only [List.mem_cons, List.not_mem_nil, or_false]
            rintro x (rfl | rfl | rfl | rfl | rfl | rfl)
            · exact ⟨_, rfl, by decide, by decide⟩
            · exact ⟨_, rfl, by decide, by decide⟩
            · exact ⟨_, rfl, by decide, by decide⟩
            · exact ⟨_, rfl, q0, b7 _ q0 (by omega)⟩
            · exact ⟨_, rfl, by decide, by decide⟩
            · exact ⟨_, rfl, w0, w1⟩
          rintro _ _ ⟨c8, rfl, hc8, v, rfl, y0, y1⟩
          simp_arith [g1, set_dS, ll, nD_put, s1, sty]
          refine ⟨_, _, _, _, rfl, hc8, by have := lput_len (L := L) (s := s) (v := v); omega, fun p hp => ?_, rfl⟩
          rcases lput_in hp with h | rfl
          · exact Lb p h
          · exact ⟨sw, y0, y1⟩
        · simp_arith [sty]
          exact ⟨_, _, _, _, rfl, hc6, by omega, Lb, rfl⟩
      · rintro _ _ ⟨c4, L, a8, a12, rfl, hc4, Ll, Lb, rfl⟩
        have Ll : L.length ≤ 5 := by simpa [wl] using Ll
        have L0 : ∀ p ∈ L, 0 ≤ p.2 := fun p hp => (Lb p hp).2.1
        have Lw : ∀ p ∈ L, word p.1 = true ∧ p.2.natAbs < B64 := fun p hp => ⟨(Lb p hp).1, (Lb p hp).2.2⟩
        have rp := nD_repr (b := 8 * (N + 1) + 300) (w1 c4 (nD L)) Lw (by omega) (by omega)
        have k1 := own L0 T (N + 1) _ (cel2 c4 (nD L)) (tC_of T1) (by omega)
        have k2 := told L0 (t := T) (n := N + 1) (w1 c4 (nD L)) (tC_of T1) (by omega)
        have n1 := ne_oW (n := N + 1) (o := wth L T) fun s hs => non_w oT hs
        obtain ⟨b, n2⟩ := is_oW (n := N + 1) (wth L T)
        have n3 := nD_shown_ne (n := N + 1) Lw
        repeat' (first | (with_reducible refine br_i (fun _ => ?_) (fun _ => ?_)) | (with_reducible refine And.intro (by omega) ?_) | simp_arith [rp, k1, k2, n1, n2, n3, vw_oW])
        exact ⟨_, _, _, _, _, _, _, _, _, _, _, _, _, rfl⟩
  · rintro _ h0 ⟨a1, a2, a3, a4, a5, a6, a7, a8, a9, a10, a11, a12, a13, rfl⟩
    have hw := fun h => worth (L := []) (by simp) (x := .dct []) (.num 7) (N + 1) h rfl rfl (by simp only [Th.dp]; omega)
    have dd : dctOf [] [] [] = some [] := rfl
    simp only [Th.d, wth, Wo.r] at hw
    repeat' (first | (with_reducible refine br_i (fun _ => ?_) (fun _ => ?_)) | (with_reducible refine And.intro (by omega) ?_) | simp_arith [hw, dd, trim_nil])

end Lw
open PySem PySem.W PySem.Calls PyProof.Rows
theorem PySem.Challenge.cw_prooffruit_k04_worths_of_terms_holds : PySem.Challenge.rw_prooffruit_k04_worths_of_terms.Holds := by
  w_on; o_law
  refine HandSHeadRun.head_any (r := OpenLaw.row PySem.Challenge.rw_prooffruit_k04_worths_of_terms) (q := view (OpenLaw.row PySem.Challenge.rw_prooffruit_k04_worths_of_terms).prog [19]) (H := Lw.hk) (ob := Lw.ob) (M := 4000) (loose := Lw.loose)
    (d := HandSHeadRun.topDef (OpenLaw.row PySem.Challenge.rw_prooffruit_k04_worths_of_terms).prog 19) (kwd := []) Lw.ob_eq (by kernel_rfl) (fun s => by kernel_rfl) Lw.run (by kernel_rfl) (by kernel_rfl) (by kernel_rfl) (by rfl)
    (by first | assumption | decide +kernel) (by decide +kernel) ⟨rfl, rfl, rfl, rfl, rfl, by decide +kernel⟩ ?hw ?hc
  case hw => w_witness2
  case hc => exact PV.walk_pv (x := Lw.dsc) (l := PySem.Challenge.rw_prooffruit_k04_worths_of_terms) (n := 63) (lev := 500) (f := 87) (pr := Lw.pr) rfl (by decide) (by kernel_rfl) ⟨rfl, by decide +kernel, by decide +kernel, rfl⟩ (by decide) (by decide +kernel) (by decide +kernel) Lw.ti rfl rfl Lw.tx (by kernel_rfl) Lw.law_ok
