import PyProof.Rows.All
import PySem.Challenge.RW_maketrue_k37_lines_told
import HandS.ForMost
import HandS.Exc
import HandS.ExcOwn
import HandS.TryMany
import HandS.StrMore
import HandS.StrSplit
import HandS.TupAny
import HandS.IsInst
import HandS.Deep
import HandS.Zip
import HandS.Conv
import HandS.Style
import KE.IntTextLaws
import KE.KIntText
import HandS.TupMul
import PyProof.StrBlock2
import HandS.ExcInit
import HandS.Nested
import KE.KExcSuper
import KE.KSuper
import HandS.Steps
import HandS.WordsExc
import KE.GoesEnum
import HandS.ExcField
import HandS.RaiseMore
set_option linter.all false
set_option autoImplicit false
/-! MkVal: the core language, its values and its evaluator. Plain Lean. -/
namespace MK

/-- a value: a frozen list (lst) is one that nobody changes any more; ref is a place of the store -/
inductive PV where
  | non | bl (b : Bool) | int (i : Int) | str (s : List Nat) | tup (xs : List PV) | lst (xs : List PV) | ref (n : Nat) | ty (t : String)
deriving Inhabited, Repr

/-- what stands at a place of the store -/
inductive Cell where
  | lst (xs : List PV)
  | ins (c : Nat) (fs : List (String × PV))
deriving Inhabited, Repr

abbrev Store := List Cell
abbrev Env := List (Option PV)

inductive Out (α : Type) where
  | ok (a : α) (S : Store)
  | exc (c : Nat) (as : List PV) (S : Store)
  | bad

def Out.bind {α β : Type} : Out α → (α → Store → Out β) → Out β
  | .ok a S, f => f a S
  | .exc c as S, _ => .exc c as S
  | .bad, _ => .bad
@[simp] theorem Out.bind_ok {α β : Type} (a : α) (S : Store) (f : α → Store → Out β) : (Out.ok a S).bind f = f a S := rfl
@[simp] theorem Out.bind_exc {α β : Type} (c : Nat) (as : List PV) (S : Store) (f : α → Store → Out β) : (Out.exc c as S : Out α).bind f = .exc c as S := rfl
@[simp] theorem Out.bind_bad {α β : Type} (f : α → Store → Out β) : (Out.bad : Out α).bind f = .bad := rfl

/-- an option as an outcome, the store as it is -/
def lift {α : Type} (S : Store) : Option α → Out α
  | some a => .ok a S
  | none => .bad
@[simp] theorem lift_some {α : Type} (S : Store) (a : α) : lift S (some a) = .ok a S := rfl
@[simp] theorem lift_none {α : Type} (S : Store) : lift S (none : Option α) = .bad := rfl

/-- the end of a statement -/
inductive SOut where
  | next (ρ : Env) (S : Store)
  | ret (v : PV) (S : Store)
  | brk (ρ : Env) (S : Store)
  | cont (ρ : Env) (S : Store)
  | exc (c : Nat) (as : List PV) (ρ : Env) (S : Store)
  | bad
def SOut.andThen : SOut → (Env → Store → SOut) → SOut
  | .next ρ S, f => f ρ S
  | .ret v S, _ => .ret v S
  | .brk ρ S, _ => .brk ρ S
  | .cont ρ S, _ => .cont ρ S
  | .exc c as ρ S, _ => .exc c as ρ S
  | .bad, _ => .bad
@[simp] theorem SOut.next_andThen (ρ : Env) (S : Store) (f : Env → Store → SOut) : (SOut.next ρ S).andThen f = f ρ S := rfl
@[simp] theorem SOut.ret_andThen (v : PV) (S : Store) (f : Env → Store → SOut) : (SOut.ret v S).andThen f = .ret v S := rfl
@[simp] theorem SOut.brk_andThen (ρ : Env) (S : Store) (f : Env → Store → SOut) : (SOut.brk ρ S).andThen f = .brk ρ S := rfl
@[simp] theorem SOut.cont_andThen (ρ : Env) (S : Store) (f : Env → Store → SOut) : (SOut.cont ρ S).andThen f = .cont ρ S := rfl
@[simp] theorem SOut.exc_andThen (c : Nat) (as : List PV) (ρ : Env) (S : Store) (f : Env → Store → SOut) : (SOut.exc c as ρ S).andThen f = .exc c as ρ S := rfl
@[simp] theorem SOut.bad_andThen (f : Env → Store → SOut) : SOut.bad.andThen f = .bad := rfl
def Out.toS {α : Type} (ρ : Env) : Out α → (α → Store → SOut) → SOut
  | .ok a S, f => f a S
  | .exc c as S, _ => .exc c as ρ S
  | .bad, _ => .bad
@[simp] theorem Out.toS_ok {α : Type} (ρ : Env) (a : α) (S : Store) (f : α → Store → SOut) : (Out.ok a S).toS ρ f = f a S := rfl
@[simp] theorem Out.toS_exc {α : Type} (ρ : Env) (c : Nat) (as : List PV) (S : Store) (f : α → Store → SOut) : (Out.exc c as S : Out α).toS ρ f = .exc c as ρ S := rfl
@[simp] theorem Out.toS_bad {α : Type} (ρ : Env) (f : α → Store → SOut) : (Out.bad : Out α).toS ρ f = .bad := rfl

/-- the largest length of a list or a text -/
def SZ : Nat := 16777216

/-! ### equality of values is decided -/
mutual
def PV.dec : (a b : PV) → Decidable (a = b)
  | .non, .non => isTrue rfl
  | .bl a, .bl b => if h : a = b then isTrue (by rw [h]) else isFalse fun e => h (by injection e)
  | .int a, .int b => if h : a = b then isTrue (by rw [h]) else isFalse fun e => h (by injection e)
  | .str a, .str b => if h : a = b then isTrue (by rw [h]) else isFalse fun e => h (by injection e)
  | .tup a, .tup b => match PV.decL a b with
    | isTrue h => isTrue (by rw [h])
    | isFalse h => isFalse fun e => h (by injection e)
  | .lst a, .lst b => match PV.decL a b with
    | isTrue h => isTrue (by rw [h])
    | isFalse h => isFalse fun e => h (by injection e)
  | .ref a, .ref b => if h : a = b then isTrue (by rw [h]) else isFalse fun e => h (by injection e)
  | .ty a, .ty b => if h : a = b then isTrue (by rw [h]) else isFalse fun e => h (by injection e)
  | .non, .bl _ | .non, .int _ | .non, .str _ | .non, .tup _ | .non, .lst _ | .non, .ref _ | .non, .ty _ => isFalse (by intro e; cases e)
  | .bl _, .non | .bl _, .int _ | .bl _, .str _ | .bl _, .tup _ | .bl _, .lst _ | .bl _, .ref _ | .bl _, .ty _ => isFalse (by intro e; cases e)
  | .int _, .non | .int _, .bl _ | .int _, .str _ | .int _, .tup _ | .int _, .lst _ | .int _, .ref _ | .int _, .ty _ => isFalse (by intro e; cases e)
  | .str _, .non | .str _, .bl _ | .str _, .int _ | .str _, .tup _ | .str _, .lst _ | .str _, .ref _ | .str _, .ty _ => isFalse (by intro e; cases e)
  | .tup _, .non | .tup _, .bl _ | .tup _, .int _ | .tup _, .str _ | .tup _, .lst _ | .tup _, .ref _ | .tup _, .ty _ => isFalse (by intro e; cases e)
  | .lst _, .non | .lst _, .bl _ | .lst _, .int _ | .lst _, .str _ | .lst _, .tup _ | .lst _, .ref _ | .lst _, .ty _ => isFalse (by intro e; cases e)
  | .ref _, .non | .ref _, .bl _ | .ref _, .int _ | .ref _, .str _ | .ref _, .tup _ | .ref _, .lst _ | .ref _, .ty _ => isFalse (by intro e; cases e)
  | .ty _, .non | .ty _, .bl _ | .ty _, .int _ | .ty _, .str _ | .ty _, .tup _ | .ty _, .lst _ | .ty _, .ref _ => isFalse (by intro e; cases e)
def PV.decL : (a b : List PV) → Decidable (a = b)
  | [], [] => isTrue rfl
  | x :: xs, y :: ys => match PV.dec x y, PV.decL xs ys with
    | isTrue h1, isTrue h2 => isTrue (by rw [h1, h2])
    | isFalse h, _ => isFalse fun e => h (by injection e)
    | _, isFalse h => isFalse fun e => h (by injection e)
  | [], _ :: _ => isFalse (by intro e; cases e)
  | _ :: _, [] => isFalse (by intro e; cases e)
end
instance : DecidableEq PV := PV.dec
instance : DecidableEq Cell := fun a b => match a, b with
  | .lst xs, .lst ys => if h : xs = ys then isTrue (by rw [h]) else isFalse fun e => h (by injection e)
  | .ins c fs, .ins d gs => if h : c = d ∧ fs = gs then isTrue (by rw [h.1, h.2]) else isFalse fun e => h (by injection e with e1 e2; exact ⟨e1, e2⟩)
  | .lst _, .ins _ _ => isFalse (by intro e; cases e)
  | .ins _ _, .lst _ => isFalse (by intro e; cases e)

/-! ### operators on values -/
inductive BO where | add | sub | mul | fdiv | mod | pow
deriving DecidableEq, Repr, Inhabited
inductive CO where | eq | ne | lt | le | gt | ge | isN | notN | mem | nmem
deriving DecidableEq, Repr, Inhabited

mutual
/-- Python's == on values without places -/
def PV.eqv : PV → PV → Bool
  | .non, .non => true
  | .bl a, .bl b => a == b
  | .bl a, .int j => (if a then 1 else 0) == j
  | .int i, .bl b => i == (if b then 1 else 0)
  | .int i, .int j => i == j
  | .str x, .str y => x == y
  | .lst xs, .lst ys => PV.eqvAll xs ys
  | .tup xs, .tup ys => PV.eqvAll xs ys
  | _, _ => false
def PV.eqvAll : List PV → List PV → Bool
  | [], [] => true
  | x :: xs, y :: ys => PV.eqv x y && PV.eqvAll xs ys
  | _, _ => false
end
mutual
/-- no place, no type within; at most so deep -/
def PV.plain : Nat → PV → Bool
  | _, .non => true
  | _, .bl _ => true
  | _, .int _ => true
  | _, .str _ => true
  | n + 1, .tup xs => PV.plainAll n xs
  | n + 1, .lst xs => PV.plainAll n xs
  | _, _ => false
def PV.plainAll : Nat → List PV → Bool
  | _, [] => true
  | n, x :: xs => PV.plain n x && PV.plainAll n xs
end
/-- how deep data may be that is compared -/
def DEEP : Nat := 60

/-- the place i of n, from the end if below 0 -/
def ixAt {α : Type} (xs : List α) (i : Int) : Option α :=
  if 0 ≤ i then xs[i.toNat]? else if -(xs.length : Int) ≤ i then xs[(i + xs.length).toNat]? else none
/-- a slice's part, clipped -/
def clip (n d : Nat) : Option Int → Nat
  | none => d
  | some v => if v < 0 then (v + (n : Int)).toNat else min v.toNat n
def cut {α : Type} (xs : List α) (lo hi : Option Int) : List α := (xs.drop (clip xs.length 0 lo)).take (clip xs.length xs.length hi - clip xs.length 0 lo)

/-- the items of a list, frozen or in the store -/
def listOf (S : Store) : PV → Option (List PV)
  | .lst xs => some xs
  | .ref n => match S[n]? with
    | some (.lst xs) => some xs
    | _ => none
  | _ => none
/-- the items of a list or a tuple -/
def seqOf (S : Store) : PV → Option (List PV)
  | .tup xs => some xs
  | v => listOf S v

def strsOf : List PV → Option (List (List Nat))
  | [] => some []
  | .str s :: r => (strsOf r).map (s :: ·)
  | _ => none
def intsOf : List PV → Option (List Int)
  | [] => some []
  | .int s :: r => (intsOf r).map (s :: ·)
  | _ => none
def blsOf : List PV → Option (List Bool)
  | [] => some []
  | .bl s :: r => (blsOf r).map (s :: ·)
  | _ => none

/-- bounds under which * is known -/
def mulOk (i j : Int) : Bool := i.natAbs < 2 ^ 64 || j.natAbs < 2 ^ 64

def evBin (S : Store) : BO → PV → PV → Option PV
  | .add, .int i, .int j => some (.int (i + j))
  | .sub, .int i, .int j => some (.int (i - j))
  | .mul, .int i, .int j => if mulOk i j then some (.int (i * j)) else none
  | .fdiv, .int i, .int j => if 0 < j ∧ j < 1073741824 then some (.int (i / j)) else none
  | .mod, .int i, .int j => if 0 < j then some (.int (i % j)) else none
  | .pow, .int i, .int j => if 0 ≤ j ∧ j ≤ 1000000 ∧ i.natAbs < 2 ^ 64 then some (.int (i ^ j.toNat)) else none
  | .add, .str x, .str y => if x.length + y.length ≤ SZ then some (.str (x ++ y)) else none
  | .add, .tup x, .tup y => if x.length + y.length ≤ SZ then some (.tup (x ++ y)) else none
  | .add, .lst x, .lst y => if x.length + y.length ≤ SZ then some (.lst (x ++ y)) else none
  | .mul, .str x, .int n => if 1 ≤ n ∧ n ≤ 1000000 ∧ x.length * n.toNat ≤ SZ then some (.str (List.replicate n.toNat x).flatten) else none
  | .mul, .tup x, .int n => if x ≠ [] ∧ 2 ≤ n ∧ n ≤ 1000 ∧ x.length ≤ 1000 then some (.tup (List.replicate n.toNat x).flatten) else none
  | .mul, .lst x, .int n => if 0 ≤ n ∧ n ≤ 1000 ∧ x.length ≤ 1000 then some (.lst (List.replicate n.toNat x).flatten) else none
  | _, _, _ => none

/-- x op= y -/
def evAug : BO → PV → PV → Option PV
  | .add, .int i, .int j => some (.int (i + j))
  | .sub, .int i, .int j => some (.int (i - j))
  | .mul, .int i, .int j => if mulOk i j then some (.int (i * j)) else none
  | .fdiv, .int i, .int j => if 0 < j ∧ j < 1073741824 then some (.int (i / j)) else none
  | .mod, .int i, .int j => if 0 < j then some (.int (i % j)) else none
  | .add, .str x, .str y => if x.length + y.length ≤ SZ then some (.str (x ++ y)) else none
  | _, _, _ => none

/-- x in xs, for data -/
def memV (x : PV) (xs : List PV) : Bool := xs.any fun y => PV.eqv y x
/-- one sign in a text -/
def evIn (S : Store) : PV → PV → Option Bool
  | .str [c], .str y => some (decide (c ∈ y))
  | x, y => match x.plain DEEP, seqOf S y with
    | true, some ys => if PV.plainAll DEEP ys then some (memV x ys) else none
    | _, _ => none

def evCmp (S : Store) : CO → PV → PV → Option Bool
  | .eq, a, b => if a.plain DEEP && b.plain DEEP then some (PV.eqv a b) else none
  | .ne, a, b => if a.plain DEEP && b.plain DEEP then some (!PV.eqv a b) else none
  | .lt, .int i, .int j => some (decide (i < j))
  | .le, .int i, .int j => some (decide (i ≤ j))
  | .gt, .int i, .int j => some (decide (j < i))
  | .ge, .int i, .int j => some (decide (j ≤ i))
  | .isN, a, .non => some (match a with | .non => true | _ => false)
  | .notN, a, .non => some (match a with | .non => false | _ => true)
  | .mem, a, b => evIn S a b
  | .nmem, a, b => (evIn S a b).map (!·)
  | _, _, _ => none

/-- a[i] -/
def evIx (S : Store) : PV → PV → Option PV
  | .str s, .int i => (ixAt s i).map fun c => .str [c]
  | .tup xs, .int i => ixAt xs i
  | v, .int i => match listOf S v with
    | some xs => ixAt xs i
    | none => none
  | _, _ => none
def evSl (S : Store) : PV → Option Int → Option Int → Option PV
  | .str s, lo, hi => some (.str (cut s lo hi))
  | .tup xs, lo, hi => some (.tup (cut xs lo hi))
  | v, lo, hi => (listOf S v).map fun xs => .lst (cut xs lo hi)

/-! ### built-ins -/
inductive BI where | len | int | str | abs | min2 | max2 | all | any | tuple | list
deriving DecidableEq, Repr, Inhabited
inductive BM where | index | find | find3 | rjust | split2 | join
deriving DecidableEq, Repr, Inhabited

/-- a number's figures -/
def figs (i : Int) : List Nat := (toString i).toList.map Char.toNat
/-- the place of the first sign -/
def findC (c : Nat) : List Nat → Nat → Option Nat
  | [], _ => none
  | x :: r, k => if x = c then some k else findC c r (k + 1)
/-- the number that figures are -/
def numOf : List Nat → Nat → Option Nat
  | [], n => some n
  | c :: r, n => if 48 ≤ c ∧ c ≤ 57 then numOf r (10 * n + (c - 48)) else none
def joinL (sep : List Nat) : List (List Nat) → List Nat
  | [] => []
  | [x] => x
  | x :: y :: r => x ++ sep ++ joinL sep (y :: r)

def evBI (S : Store) : BI → List PV → Option PV
  | .len, [.str s] => some (.int s.length)
  | .len, [v] => (seqOf S v).map fun xs => .int xs.length
  | .int, [.int i] => some (.int i)
  | .int, [.bl b] => some (.int (if b then 1 else 0))
  | .int, [.str s] => if 0 < s.length ∧ s.length ≤ 640 then (numOf s 0).map fun (n : Nat) => PV.int (n : Int) else none
  | .str, [.int i] => if i.natAbs < 2 ^ 1000 then some (.str (figs i)) else none
  | .abs, [.int i] => some (.int (if i < 0 then -i else i))
  | .min2, [.int i, .int j] => some (.int (if j < i then j else i))
  | .max2, [.int i, .int j] => some (.int (if i < j then j else i))
  | .all, [v] => match listOf S v with
    | some xs => (blsOf xs).map fun bs => .bl (bs.all id)
    | none => none
  | .any, [v] => match listOf S v with
    | some xs => (blsOf xs).map fun bs => .bl (bs.any id)
    | none => none
  | .tuple, [v] => (seqOf S v).map fun xs => .tup xs
  | .list, [v] => (seqOf S v).map fun xs => .lst xs
  | _, _ => none

def evBM (S : Store) : BM → PV → List PV → Option PV
  | .index, .str s, [.str [c]] => (findC c s 0).map fun (k : Nat) => PV.int (k : Int)
  | .find, .str s, [.str [c]] => some (.int (match findC c s 0 with | some k => (k : Int) | none => -1))
  | .find3, .str s, [.str [c], .int i] => if 0 ≤ i then some (.int (match findC c (s.drop i.toNat) i.toNat with | some k => (k : Int) | none => -1)) else none
  | .rjust, .str s, [.int n, .str [c]] => if 0 ≤ n ∧ n ≤ 1000 ∧ s.length ≤ 1000000 then some (.str (List.replicate (n.toNat - s.length) c ++ s)) else none
  | .split2, .str s, [.str [c], .int 1] => if s.length + 2 ≤ SZ then some (.lst (match findC c s 0 with | some k => [.str (s.take k), .str (s.drop (k + 1))] | none => [.str s])) else none
  | .join, .str s, [v] => match listOf S v with
    | some xs => match strsOf xs with
      | some ss => if (ss.map List.length).sum + ss.length * s.length ≤ SZ then some (.str (joinL s ss)) else none
      | none => none
    | none => none
  | _, _, _ => none

/-- which built-in types isinstance knows -/
inductive TyN where | int | bool | str | tuple | list
deriving DecidableEq, Repr, Inhabited
def isTy (S : Store) : TyN → PV → Option Bool
  | .int, .int _ => some true
  | .int, .bl _ => some true
  | .bool, .bl _ => some true
  | .str, .str _ => some true
  | .tuple, .tup _ => some true
  | .list, .lst _ => some true
  | t, .ref n => match S[n]? with
    | some (.lst _) => some (t == .list)
    | _ => none
  | _, .ty _ => none
  | _, _ => some false

/-! ### the core language -/
inductive TG where
  | nm (i : Nat)
  | tp (ts : List TG)
deriving Inhabited, Repr

mutual
def asg : TG → PV → Env → Option Env
  | .nm i, v, ρ => if i < ρ.length then some (ρ.set i (some v)) else none
  | .tp ts, .tup vs, ρ => asgs ts vs ρ
  | _, _, _ => none
def asgs : List TG → List PV → Env → Option Env
  | [], [], ρ => some ρ
  | t :: ts, v :: vs, ρ => (asg t v ρ).bind fun ρ' => asgs ts vs ρ'
  | _, _, _ => none
end

mutual
inductive C where
  | var (i : Nat)
  | lit (v : PV)
  | gl (v : PV)
  | tup (es : List C)
  | lst (own : Bool) (es : List C)
  | bin (o : BO) (a b : C)
  | neg (a : C)
  | cmp (o : CO) (a b : C)
  | cmp2 (o p : CO) (a b c : C)
  | and (es : List C)
  | or (es : List C)
  | not (a : C)
  | ite (t a b : C)
  | ix (a b : C)
  | sl (l h : Bool) (a lo hi : C)
  | call (f : Nat) (es : List C)
  | bi (b : BI) (es : List C)
  | bm (m : BM) (o : C) (es : List C)
  | isi (a : C) (t : TyN)
  | lc (own : Bool) (vs : List Nat) (tg : TG) (it : It) (cond : List C) (elt : C)
  | app (o a : C)
/-- what is walked -/
inductive It where
  | seq (a : C)
  | rng (es : List C)
  | enum (a : C)
end

/-- what an except suite gives back: a value, a field of the exception, a choice by a field -/
inductive HX where
  | lit (v : PV)
  | fld (j : Nat)
  | ite (j : Nat) (v : PV) (a b : HX)
deriving Inhabited, Repr
inductive HK where
  | ret (x : HX)
  | pass | cont
deriving Inhabited, Repr
/-- an except clause: the classes that it takes, the slot of its name, its suite -/
structure Hd where
  cls : List Nat
  nm : Option Nat
  k : HK
deriving Inhabited, Repr
inductive S where
  | asg (t : TG) (e : C)
  | aug (i : Nat) (o : BO) (e : C)
  | ex (e : C)
  | ret (e : C)
  | retN
  | ifs (c : C) (a b : List S)
  | for_ (t : TG) (it : It) (b : List S)
  | while_ (c : C) (b : List S)
  | brk | cont | pass
  | raise (c : Nat) (es : List C)
  | try_ (b : List S) (hs : List Hd)
  | dead

mutual
/-- all places within are below n -/
def PV.under (n : Nat) : PV → Bool
  | .tup xs => PV.underAll n xs
  | .lst xs => PV.underAll n xs
  | .ref k => decide (k < n)
  | _ => true
def PV.underAll (n : Nat) : List PV → Bool
  | [] => true
  | x :: xs => PV.under n x && PV.underAll n xs
end

/-! ### the evaluator -/
/-- what is called, and how often a while may turn -/
structure Orc where
  call : Nat → List PV → Store → Out PV
  fuel : Nat

/-- the places of a comprehension's own names forgotten -/
def wipe (ρ : Env) : List Nat → Env
  | [] => ρ
  | v :: vs => (wipe ρ vs).set v none

def forL (step : PV → Env → Store → SOut) : List PV → Env → Store → SOut
  | [], ρ, S => .next ρ S
  | x :: xs, ρ, S => match step x ρ S with
    | .next ρ' S' => forL step xs ρ' S'
    | .cont ρ' S' => forL step xs ρ' S'
    | .brk ρ' S' => .next ρ' S'
    | .ret v S' => .ret v S'
    | .exc c as ρ' S' => .exc c as ρ' S'
    | .bad => .bad
/-- the list that is walked, where it stands in the store: it must stay as it is -/
def forW (kept : Store → Bool) (step : PV → Env → Store → SOut) (x : PV) (ρ : Env) (S : Store) : SOut := match step x ρ S with
  | .next ρ' S' => if kept S' then .next ρ' S' else .bad
  | .cont ρ' S' => if kept S' then .cont ρ' S' else .bad
  | r => r
def whileL (test : Env → Store → Out PV) (body : Env → Store → SOut) : Nat → Env → Store → SOut
  | 0, _, _ => .bad
  | n + 1, ρ, S => (test ρ S).toS ρ fun v S1 => match v with
    | .bl true => (match body ρ S1 with
      | .next ρ' S' => whileL test body n ρ' S'
      | .cont ρ' S' => whileL test body n ρ' S'
      | .brk ρ' S' => .next ρ' S'
      | .ret v S' => .ret v S'
      | .exc c as ρ' S' => .exc c as ρ' S'
      | .bad => .bad)
    | .bl false => .next ρ S1
    | _ => .bad
/-- a comprehension's turns: acc is what has been made so far -/
def compL (step : PV → Store → Out (Option PV)) : List PV → List PV → Store → Out (List PV)
  | acc, [], S => .ok acc S
  | acc, x :: xs, S => match step x S with
    | .ok (some y) S' => compL step (acc ++ [y]) xs S'
    | .ok none S' => compL step acc xs S'
    | _ => .bad

/-- a slice's part: an int -/
def partI : PV → Store → Out (Option Int)
  | .int i, S => .ok (some i) S
  | _, _ => .bad

/-- the items that are walked, and where they stand in the store -/
abbrev Walk := List PV × Option Nat
def walkOf (S : Store) : PV → Option Walk
  | .str s => some (s.map fun c => .str [c], none)
  | .tup xs => some (xs, none)
  | .lst xs => some (xs, none)
  | .ref n => match S[n]? with
    | some (.lst xs) => some (xs, some n)
    | _ => none
  | _ => none
def enumFrom : Nat → List PV → List PV
  | _, [] => []
  | n, x :: xs => .tup [.int n, x] :: enumFrom (n + 1) xs
def enumW (w : Walk) : Option Walk := match w.2 with
  | none => some (enumFrom 0 w.1, none)
  | some _ => none
def rngL (lo : Int) (n : Nat) : List PV := (List.range n).map fun (k : Nat) => PV.int (lo + (k : Int))
def BIG : Int := 1073741824
def rngOf : List PV → Option Walk
  | [.int j] => if -BIG ≤ j ∧ j < BIG then some (rngL 0 j.toNat, none) else none
  | [.int i, .int j] => if -BIG ≤ i ∧ i < BIG ∧ -BIG ≤ j ∧ j < BIG then some (rngL i (j - i).toNat, none) else none
  | _ => none
def keptOf (w : Walk) (S : Store) : Bool := match w.2 with
  | none => true
  | some n => decide (S[n]? = some (.lst w.1))

/-- one turn of a comprehension -/
def compStep (w : Walk) (as : PV → Env → Option Env) (cond : Env → Store → Out Bool) (elt : Env → Store → Out PV) (ρ : Env) (x : PV) (S : Store) : Out (Option PV) := match as x ρ with
  | none => .bad
  | some ρ' => (cond ρ' S).bind fun b S3 => if b then (elt ρ' S3).bind fun y S4 => if keptOf w S4 then .ok (some y) S4 else .bad
        else if keptOf w S3 then .ok none S3 else .bad
/-- the receiver is a text -/
def isStrV : PV → Bool
  | .str _ => true
  | _ => false
def isListRef (S : Store) : PV → Bool
  | .ref n => match S[n]? with
    | some (.lst _) => true
    | _ => false
  | _ => false
def appendTo (S : Store) (x y : PV) : Out PV := match x with
  | .ref n => (match S[n]? with
    | some (.lst xs) => if xs.length < SZ then .ok .non (S.set n (.lst (xs ++ [y]))) else .bad
    | _ => .bad)
  | _ => .bad
mutual
def evE (o : Orc) : C → Env → Store → Out PV
  | .var i, ρ, S => match ρ[i]? with
    | some (some v) => .ok v S
    | _ => .bad
  | .lit v, _, S => .ok v S
  | .gl v, _, S => .ok v S
  | .tup es, ρ, S => (evEs o es ρ S).bind fun vs S' => if vs.length ≤ SZ then .ok (.tup vs) S' else .bad
  | .lst own es, ρ, S => (evEs o es ρ S).bind fun vs S' => if vs.length ≤ SZ then (if own then .ok (.ref S'.length) (S' ++ [.lst vs]) else .ok (.lst vs) S') else .bad
  | .bin op a b, ρ, S => (evE o a ρ S).bind fun x S1 => (evE o b ρ S1).bind fun y S2 => lift S2 (evBin S2 op x y)
  | .neg a, ρ, S => (evE o a ρ S).bind fun x S1 => match x with
    | .int i => .ok (.int (-i)) S1
    | _ => .bad
  | .cmp op a b, ρ, S => (evE o a ρ S).bind fun x S1 => (evE o b ρ S1).bind fun y S2 => lift S2 ((evCmp S2 op x y).map PV.bl)
  | .cmp2 p q a b c, ρ, S => (evE o a ρ S).bind fun x S1 => (evE o b ρ S1).bind fun y S2 => match evCmp S2 p x y with
    | some true => (evE o c ρ S2).bind fun z S3 => lift S3 ((evCmp S3 q y z).map PV.bl)
    | some false => .ok (.bl false) S2
    | none => .bad
  | .and es, ρ, S => evAnd o es ρ S
  | .or es, ρ, S => evOr o es ρ S
  | .not a, ρ, S => (evE o a ρ S).bind fun x S1 => match x with
    | .bl b => .ok (.bl (!b)) S1
    | _ => .bad
  | .ite t a b, ρ, S => (evE o t ρ S).bind fun x S1 => match x with
    | .bl true => evE o a ρ S1
    | .bl false => evE o b ρ S1
    | _ => .bad
  | .ix a b, ρ, S => (evE o a ρ S).bind fun x S1 => (evE o b ρ S1).bind fun y S2 => lift S2 (evIx S2 x y)
  | .sl l h a lo hi, ρ, S => (evE o a ρ S).bind fun x S1 => (if l then (evE o lo ρ S1).bind partI else .ok none S1).bind fun lo' S2 => (if h then (evE o hi ρ S2).bind partI else .ok none S2).bind fun hi' S3 =>
    lift S3 (evSl S3 x lo' hi')
  | .call f es, ρ, S => (evEs o es ρ S).bind fun vs S' => o.call f vs S'
  | .bi b es, ρ, S => (evEs o es ρ S).bind fun vs S' => lift S' (evBI S' b vs)
  | .bm m r es, ρ, S => (evE o r ρ S).bind fun x S1 => if isStrV x then (evEs o es ρ S1).bind fun vs S2 => lift S2 (evBM S2 m x vs) else .bad
  | .isi a t, ρ, S => (evE o a ρ S).bind fun x S1 => lift S1 ((isTy S1 t x).map PV.bl)
  | .lc own vs tg it cond elt, ρ, S => (evIt o it ρ S).bind fun w S1 =>
    (compL (compStep w (asg tg) (evCond o cond) (evE o elt) (wipe ρ vs)) [] w.1 S1).bind fun ys S' =>
      if w.1.length ≤ SZ then (if own then .ok (.ref S'.length) (S' ++ [.lst ys]) else .ok (.lst ys) S') else .bad
  | .app r a, ρ, S => (evE o r ρ S).bind fun x S1 => if isListRef S1 x then (evE o a ρ S1).bind fun y S2 => appendTo S2 x y else .bad
def evEs (o : Orc) : List C → Env → Store → Out (List PV)
  | [], _, S => .ok [] S
  | c :: cs, ρ, S => (evE o c ρ S).bind fun v S1 => (evEs o cs ρ S1).bind fun vs S2 => .ok (v :: vs) S2
def evAnd (o : Orc) : List C → Env → Store → Out PV
  | [], _, _ => .bad
  | [c], ρ, S => evE o c ρ S
  | c :: d :: cs, ρ, S => (evE o c ρ S).bind fun v S1 => match v with
    | .bl true => evAnd o (d :: cs) ρ S1
    | .bl false => .ok (.bl false) S1
    | _ => .bad
def evOr (o : Orc) : List C → Env → Store → Out PV
  | [], _, _ => .bad
  | [c], ρ, S => evE o c ρ S
  | c :: d :: cs, ρ, S => (evE o c ρ S).bind fun v S1 => match v with
    | .bl false => evOr o (d :: cs) ρ S1
    | .bl true => .ok (.bl true) S1
    | _ => .bad
def evCond (o : Orc) : List C → Env → Store → Out Bool
  | [], _, S => .ok true S
  | c :: _, ρ, S => (evE o c ρ S).bind fun v S1 => match v with
    | .bl b => .ok b S1
    | _ => .bad
def evIt (o : Orc) : It → Env → Store → Out Walk
  | .seq a, ρ, S => (evE o a ρ S).bind fun v S1 => lift S1 (walkOf S1 v)
  | .rng es, ρ, S => (evEs o es ρ S).bind fun vs S1 => lift S1 (rngOf vs)
  | .enum a, ρ, S => (evE o a ρ S).bind fun v S1 => lift S1 ((walkOf S1 v).bind enumW)
end

/-- what an exception may bear -/
def xOk : PV → Bool
  | .int i => decide (i.natAbs < 2 ^ 64)
  | .str s => decide (s.length ≤ 1000000)
  | _ => false
def evHX (as : List PV) : HX → Option PV
  | .lit v => some v
  | .fld j => as[j]?
  | .ite j v a b => match as[j]? with
    | some x => if PV.eqv x v then evHX as a else evHX as b
    | none => none
def slotB (ρ : Env) : Option Nat → Bool
  | none => true
  | some i => decide (i < ρ.length)
def evHK (as : List PV) (h : Hd) (ρ : Env) (S : Store) : SOut := match h.k, h.nm with
  | .ret x, nm => if slotB ρ nm then (match evHX as x with
    | some v => .ret v S
    | none => .bad) else .bad
  | .pass, none => .next ρ S
  | .cont, none => .cont ρ S
  | _, _ => .bad
def runH : List Hd → Nat → List PV → Env → Store → SOut
  | [], c, as, ρ, S => .exc c as ρ S
  | h :: hs, c, as, ρ, S => if h.cls.contains c then evHK as h ρ S else runH hs c as ρ S
mutual
def evS (o : Orc) : S → Env → Store → SOut
  | .asg t e, ρ, S => (evE o e ρ S).toS ρ fun v S1 => match asg t v ρ with
    | some ρ' => .next ρ' S1
    | none => .bad
  | .aug i op e, ρ, S => match ρ[i]? with
    | some (some x) => (evE o e ρ S).toS ρ fun y S1 => match evAug op x y with
      | some z => .next (ρ.set i (some z)) S1
      | none => .bad
    | _ => .bad
  | .ex e, ρ, S => (evE o e ρ S).toS ρ fun _ S1 => .next ρ S1
  | .ret e, ρ, S => (evE o e ρ S).toS ρ fun v S1 => .ret v S1
  | .retN, _, S => .ret .non S
  | .ifs c a b, ρ, S => (evE o c ρ S).toS ρ fun v S1 => match v with
    | .bl true => evSs o a ρ S1
    | .bl false => evSs o b ρ S1
    | _ => .bad
  | .for_ t it b, ρ, S => (evIt o it ρ S).toS ρ fun w S1 =>
    forL (forW (keptOf w) fun x ρ S => match asg t x ρ with
      | some ρ' => evSs o b ρ' S
      | none => .bad) w.1 ρ S1
  | .while_ c b, ρ, S => whileL (evE o c) (evSs o b) o.fuel ρ S
  | .brk, ρ, S => .brk ρ S
  | .cont, ρ, S => .cont ρ S
  | .pass, ρ, S => .next ρ S
  | .raise c es, ρ, S => (evEs o es ρ S).toS ρ fun vs S1 => if vs.all xOk then .exc c vs ρ S1 else .bad
  | .try_ b hs, ρ, S => match evSs o b ρ S with
    | .exc c as ρ' S' => runH hs c as ρ' S'
    | r => r
  | .dead, _, _ => .bad
def evSs (o : Orc) : List S → Env → Store → SOut
  | [], ρ, S => .next ρ S
  | s :: ss, ρ, S => (evS o s ρ S).andThen fun ρ' S' => evSs o ss ρ' S'
end

/-- a def: its parameters, all its names, its body; trunc: what it has laid in the store is forgotten at its end -/
structure Fn where
  np : Nat
  nl : Nat
  trunc : Bool
  body : List S
def start (nl : Nat) (vs : List PV) : Env := vs.map some ++ List.replicate (nl - vs.length) none
def frzL (f : PV → Option PV) : List PV → Option (List PV)
  | [] => some []
  | x :: xs => match f x, frzL f xs with
    | some y, some ys => some (y :: ys)
    | _, _ => none
/-- a value that leaves a def: its own lists are changed no more; at most so deep -/
def frz (S : Store) (n0 : Nat) : Nat → PV → Option PV
  | 0, v => match v with
    | .tup _ | .lst _ | .ref _ => none
    | v => some v
  | d + 1, v => match v with
    | .tup xs => (frzL (frz S n0 d) xs).map .tup
    | .lst xs => (frzL (frz S n0 d) xs).map .lst
    | .ref k => if k < n0 then some (.ref k) else match S[k]? with
      | some (.lst xs) => (frzL (frz S n0 d) xs).map .lst
      | _ => none
    | v => some v
def close (trunc : Bool) (S0 : Store) (v : PV) (S : Store) : Out PV :=
  if trunc then (match frz S S0.length 60 v with
    | some v' => if S.take S0.length = S0 then .ok v' S0 else .bad
    | none => .bad) else .ok v S
def fin (trunc : Bool) (S0 : Store) : SOut → Out PV
  | .ret v S => close trunc S0 v S
  | .next _ S => close trunc S0 .non S
  | .exc c as _ S => if trunc then (if S.take S0.length = S0 then .exc c as S0 else .bad) else .exc c as S
  | _ => .bad
/-- a call, at most n deep -/
def callF (fuel : Nat) (fns : List Fn) : Nat → Nat → List PV → Store → Out PV
  | 0, _, _, _ => .bad
  | n + 1, f, vs, S => match fns[f]? with
    | some F => if vs.length = F.np then fin F.trunc S (evSs ⟨fun g ws S' => callF fuel fns n g ws S', fuel⟩ F.body (start F.nl vs) S) else .bad
    | none => .bad
end MK

set_option linter.all false
set_option autoImplicit false
/-! MkEv: how the evaluator is run in a proof. Plain Lean. -/
namespace MK
/-! what is behind waits -/
section
variable (o : Orc) (ρ : Env) (S : Store)
/-! statements -/
@[simp] theorem evSs_nil : evSs o [] ρ S = .next ρ S := rfl
@[simp] theorem evSs_cons (s : MK.S) (ss : List MK.S) : evSs o (s :: ss) ρ S = (evS o s ρ S).andThen fun ρ' S' => evSs o ss ρ' S' := rfl
def asgK (t : TG) (ρ : Env) (v : PV) (S1 : Store) : SOut := match asg t v ρ with
  | some ρ' => .next ρ' S1
  | none => .bad
@[simp] theorem evS_asg (t : TG) (e : C) : evS o (.asg t e) ρ S = (evE o e ρ S).toS ρ (asgK t ρ) := rfl
def setN (ρ : Env) (i : Nat) (v : PV) : Env := ρ.set i (some v)
theorem asgK_nm {i : Nat} {v : PV} {S1 : Store} (h : i < ρ.length) : asgK (.nm i) ρ v S1 = .next (ρ.set i (some v)) S1 := by
  show (match (if i < ρ.length then some (ρ.set i (some v)) else none) with | some ρ' => SOut.next ρ' S1 | none => .bad) = _
  rw [if_pos h]
theorem asgK_tp2 {i j : Nat} {x y : PV} {S1 : Store} (h : i < ρ.length) (h2 : j < ρ.length) : asgK (.tp [.nm i, .nm j]) ρ (.tup [x, y]) S1 = .next ((ρ.set i (some x)).set j (some y)) S1 := by
  have e : asg (.tp [.nm i, .nm j]) (.tup [x, y]) ρ = some ((ρ.set i (some x)).set j (some y)) := by
    show ((if i < ρ.length then some (ρ.set i (some x)) else none).bind fun ρ1 => (if j < ρ1.length then some (ρ1.set j (some y)) else none).bind fun ρ2 => some ρ2) = _
    rw [if_pos h, Option.bind_some, if_pos (by rw [List.length_set]; exact h2)]
    rfl
  unfold asgK
  rw [e]
theorem asgK_tp3 {i j k : Nat} {x y z : PV} {S1 : Store} (h : i < ρ.length) (h2 : j < ρ.length) (h3 : k < ρ.length) : asgK (.tp [.nm i, .nm j, .nm k]) ρ (.tup [x, y, z]) S1 = .next (((ρ.set i (some x)).set j (some y)).set k (some z)) S1 := by
  have e : asg (.tp [.nm i, .nm j, .nm k]) (.tup [x, y, z]) ρ = some (((ρ.set i (some x)).set j (some y)).set k (some z)) := by
    show ((if i < ρ.length then some (ρ.set i (some x)) else none).bind fun ρ1 => (if j < ρ1.length then some (ρ1.set j (some y)) else none).bind fun ρ2 => (if k < ρ2.length then some (ρ2.set k (some z)) else none).bind fun ρ3 => some ρ3) = _
    rw [if_pos h, Option.bind_some, if_pos (by rw [List.length_set]; exact h2), Option.bind_some, if_pos (by rw [List.length_set, List.length_set]; exact h3)]
    rfl
  unfold asgK
  rw [e]
def augK (i : Nat) (op : BO) (ρ : Env) (x y : PV) (S1 : Store) : SOut := match evAug op x y with
      | some z => .next (ρ.set i (some z)) S1
      | none => .bad
@[simp] theorem evS_aug (i : Nat) (op : BO) (e : C) : evS o (.aug i op e) ρ S = match ρ[i]? with
  | some (some x) => (evE o e ρ S).toS ρ (augK i op ρ x)
  | _ => .bad := rfl
@[simp] theorem evS_ex (e : C) : evS o (.ex e) ρ S = (evE o e ρ S).toS ρ fun _ S1 => .next ρ S1 := rfl
@[simp] theorem evS_ret (e : C) : evS o (.ret e) ρ S = (evE o e ρ S).toS ρ fun v S1 => .ret v S1 := rfl
@[simp] theorem evS_retN : evS o .retN ρ S = .ret .non S := rfl
@[simp] theorem evS_brk : evS o .brk ρ S = .brk ρ S := rfl
@[simp] theorem evS_cont : evS o .cont ρ S = .cont ρ S := rfl
@[simp] theorem evS_pass : evS o .pass ρ S = .next ρ S := rfl
def ifK (o : Orc) (a b : List MK.S) (ρ : Env) (v : PV) (S1 : Store) : SOut := match v with
    | .bl true => evSs o a ρ S1
    | .bl false => evSs o b ρ S1
    | _ => .bad
@[simp] theorem evS_ifs (c : C) (a b : List MK.S) : evS o (.ifs c a b) ρ S = (evE o c ρ S).toS ρ (ifK o a b ρ) := rfl
@[simp] theorem ifK_true (a b : List MK.S) (S1 : Store) : ifK o a b ρ (.bl true) S1 = evSs o a ρ S1 := rfl
@[simp] theorem ifK_false (a b : List MK.S) (S1 : Store) : ifK o a b ρ (.bl false) S1 = evSs o b ρ S1 := rfl
/-- a loop's turn -/
def turn (o : Orc) (t : TG) (b : List MK.S) (x : PV) (ρ : Env) (S : Store) : SOut := match asg t x ρ with
      | some ρ' => evSs o b ρ' S
      | none => .bad
theorem turn_nm {i : Nat} {b : List MK.S} {x : PV} (h : i < ρ.length) : turn o (.nm i) b x ρ S = evSs o b (ρ.set i (some x)) S := by
  unfold turn
  show (match (if i < ρ.length then some (ρ.set i (some x)) else none) with | some ρ' => evSs o b ρ' S | none => .bad) = _
  rw [if_pos h]
theorem turn_tp2 {i j : Nat} {b : List MK.S} {x y : PV} (h : i < ρ.length) (h2 : j < ρ.length) : turn o (.tp [.nm i, .nm j]) b (.tup [x, y]) ρ S = evSs o b ((ρ.set i (some x)).set j (some y)) S := by
  have e : asg (.tp [.nm i, .nm j]) (.tup [x, y]) ρ = some ((ρ.set i (some x)).set j (some y)) := by
    show ((if i < ρ.length then some (ρ.set i (some x)) else none).bind fun ρ1 => (if j < ρ1.length then some (ρ1.set j (some y)) else none).bind fun ρ2 => some ρ2) = _
    rw [if_pos h, Option.bind_some, if_pos (by rw [List.length_set]; exact h2)]
    rfl
  unfold turn
  rw [e]
def forK (o : Orc) (t : TG) (b : List MK.S) (ρ : Env) (w : Walk) (S1 : Store) : SOut := forL (forW (keptOf w) (turn o t b)) w.1 ρ S1
@[simp] theorem evS_for (t : TG) (it : It) (b : List MK.S) : evS o (.for_ t it b) ρ S = (evIt o it ρ S).toS ρ (forK o t b ρ) := rfl
@[simp] theorem evS_while (c : C) (b : List MK.S) : evS o (.while_ c b) ρ S = whileL (evE o c) (evSs o b) o.fuel ρ S := rfl
/-! expressions -/
@[simp] theorem evEs_nil : evEs o [] ρ S = .ok [] S := rfl
@[simp] theorem evEs_cons (c : C) (cs : List C) : evEs o (c :: cs) ρ S = (evE o c ρ S).bind fun v S1 => (evEs o cs ρ S1).bind fun vs S2 => .ok (v :: vs) S2 := rfl
@[simp] theorem evE_var (i : Nat) : evE o (.var i) ρ S = match ρ[i]? with
  | some (some v) => .ok v S
  | _ => .bad := rfl
@[simp] theorem evE_lit (v : PV) : evE o (.lit v) ρ S = .ok v S := rfl
@[simp] theorem evE_gl (v : PV) : evE o (.gl v) ρ S = .ok v S := rfl
def tupK (vs : List PV) (S' : Store) : Out PV := if vs.length ≤ SZ then .ok (.tup vs) S' else .bad
@[simp] theorem evE_tup (es : List C) : evE o (.tup es) ρ S = (evEs o es ρ S).bind tupK := rfl
def lstK (own : Bool) (vs : List PV) (S' : Store) : Out PV := if vs.length ≤ SZ then (if own then .ok (.ref S'.length) (S' ++ [.lst vs]) else .ok (.lst vs) S') else .bad
@[simp] theorem evE_lst (own : Bool) (es : List C) : evE o (.lst own es) ρ S = (evEs o es ρ S).bind (lstK own) := rfl
@[simp] theorem evE_bin (op : BO) (a b : C) : evE o (.bin op a b) ρ S = (evE o a ρ S).bind fun x S1 => (evE o b ρ S1).bind fun y S2 => lift S2 (evBin S2 op x y) := rfl
def negK (x : PV) (S1 : Store) : Out PV := match x with
    | .int i => .ok (.int (-i)) S1
    | _ => .bad
@[simp] theorem negK_int (i : Int) (S1 : Store) : negK (.int i) S1 = .ok (.int (-i)) S1 := rfl
@[simp] theorem evE_neg (a : C) : evE o (.neg a) ρ S = (evE o a ρ S).bind negK := rfl
def cmpK (op : CO) (x y : PV) (S2 : Store) : Out PV := lift S2 ((evCmp S2 op x y).map PV.bl)
@[simp] theorem evE_cmp (op : CO) (a b : C) : evE o (.cmp op a b) ρ S = (evE o a ρ S).bind fun x S1 => (evE o b ρ S1).bind (cmpK op x) := rfl
def cmp2K (o : Orc) (p q : CO) (c : C) (ρ : Env) (x y : PV) (S2 : Store) : Out PV := match evCmp S2 p x y with
    | some true => (evE o c ρ S2).bind fun z S3 => lift S3 ((evCmp S3 q y z).map PV.bl)
    | some false => .ok (.bl false) S2
    | none => .bad
@[simp] theorem evE_cmp2 (p q : CO) (a b c : C) : evE o (.cmp2 p q a b c) ρ S = (evE o a ρ S).bind fun x S1 => (evE o b ρ S1).bind fun y S2 => cmp2K o p q c ρ x y S2 := rfl
theorem cmp2_ok {p q : CO} {c : C} {x y z : PV} {b1 b2 : Bool} (h1 : evCmp S p x y = some b1) (hc : evE o c ρ S = .ok z S) (h2 : evCmp S q y z = some b2) : cmp2K o p q c ρ x y S = .ok (.bl (b1 && b2)) S := by
  unfold cmp2K
  rw [h1]
  cases b1 with
  | true => show (evE o c ρ S).bind _ = _; rw [hc, Out.bind_ok, h2]; rfl
  | false => rfl
@[simp] theorem cmp2_lit (i j k : Int) : cmp2K o .le .le (.lit (.int k)) ρ (.int i) (.int j) S = .ok (.bl (decide (i ≤ j) && decide (j ≤ k))) S := cmp2_ok o ρ S rfl rfl rfl
@[simp] theorem cmp2_gl (i j k : Int) : cmp2K o .le .le (.gl (.int k)) ρ (.int i) (.int j) S = .ok (.bl (decide (i ≤ j) && decide (j ≤ k))) S := cmp2_ok o ρ S rfl rfl rfl
@[simp] theorem evE_and (es : List C) : evE o (.and es) ρ S = evAnd o es ρ S := rfl
@[simp] theorem evE_or (es : List C) : evE o (.or es) ρ S = evOr o es ρ S := rfl
def andK (o : Orc) (ds : List C) (ρ : Env) (v : PV) (S1 : Store) : Out PV := match v with
    | .bl true => evAnd o ds ρ S1
    | .bl false => .ok (.bl false) S1
    | _ => .bad
def orK (o : Orc) (ds : List C) (ρ : Env) (v : PV) (S1 : Store) : Out PV := match v with
    | .bl false => evOr o ds ρ S1
    | .bl true => .ok (.bl true) S1
    | _ => .bad
@[simp] theorem evAnd_one (c : C) : evAnd o [c] ρ S = evE o c ρ S := rfl
@[simp] theorem evOr_one (c : C) : evOr o [c] ρ S = evE o c ρ S := rfl
@[simp] theorem evAnd_cons (c d : C) (ds : List C) : evAnd o (c :: d :: ds) ρ S = (evE o c ρ S).bind (andK o (d :: ds) ρ) := rfl
@[simp] theorem evOr_cons (c d : C) (ds : List C) : evOr o (c :: d :: ds) ρ S = (evE o c ρ S).bind (orK o (d :: ds) ρ) := rfl
@[simp] theorem andK_true (ds : List C) (S1 : Store) : andK o ds ρ (.bl true) S1 = evAnd o ds ρ S1 := rfl
@[simp] theorem andK_false (ds : List C) (S1 : Store) : andK o ds ρ (.bl false) S1 = .ok (.bl false) S1 := rfl
@[simp] theorem orK_false (ds : List C) (S1 : Store) : orK o ds ρ (.bl false) S1 = evOr o ds ρ S1 := rfl
@[simp] theorem orK_true (ds : List C) (S1 : Store) : orK o ds ρ (.bl true) S1 = .ok (.bl true) S1 := rfl
def notK (x : PV) (S1 : Store) : Out PV := match x with
    | .bl b => .ok (.bl (!b)) S1
    | _ => .bad
@[simp] theorem notK_bl (b : Bool) (S1 : Store) : notK (.bl b) S1 = .ok (.bl (!b)) S1 := rfl
@[simp] theorem evE_not (a : C) : evE o (.not a) ρ S = (evE o a ρ S).bind notK := rfl
def iteK (o : Orc) (a b : C) (ρ : Env) (x : PV) (S1 : Store) : Out PV := match x with
    | .bl true => evE o a ρ S1
    | .bl false => evE o b ρ S1
    | _ => .bad
@[simp] theorem evE_ite (t a b : C) : evE o (.ite t a b) ρ S = (evE o t ρ S).bind (iteK o a b ρ) := rfl
@[simp] theorem iteK_true (a b : C) (S1 : Store) : iteK o a b ρ (.bl true) S1 = evE o a ρ S1 := rfl
@[simp] theorem iteK_false (a b : C) (S1 : Store) : iteK o a b ρ (.bl false) S1 = evE o b ρ S1 := rfl
@[simp] theorem evE_ix (a b : C) : evE o (.ix a b) ρ S = (evE o a ρ S).bind fun x S1 => (evE o b ρ S1).bind fun y S2 => lift S2 (evIx S2 x y) := rfl
@[simp] theorem evE_sl (l h : Bool) (a lo hi : C) : evE o (.sl l h a lo hi) ρ S = (evE o a ρ S).bind fun x S1 => (if l then (evE o lo ρ S1).bind partI else .ok none S1).bind fun lo' S2 => (if h then (evE o hi ρ S2).bind partI else .ok none S2).bind fun hi' S3 =>
    lift S3 (evSl S3 x lo' hi') := rfl
@[simp] theorem partI_int (i : Int) (S1 : Store) : partI (.int i) S1 = .ok (some i) S1 := rfl
@[simp] theorem evE_call (f : Nat) (es : List C) : evE o (.call f es) ρ S = (evEs o es ρ S).bind (o.call f) := rfl
@[simp] theorem evE_bi (b : BI) (es : List C) : evE o (.bi b es) ρ S = (evEs o es ρ S).bind fun vs S' => lift S' (evBI S' b vs) := rfl
def bmK (o : Orc) (m : BM) (es : List C) (ρ : Env) (x : PV) (S1 : Store) : Out PV := if isStrV x then (evEs o es ρ S1).bind fun vs S2 => lift S2 (evBM S2 m x vs) else .bad
@[simp] theorem evE_bm (m : BM) (r : C) (es : List C) : evE o (.bm m r es) ρ S = (evE o r ρ S).bind (bmK o m es ρ) := rfl
@[simp] theorem bmK_str (m : BM) (es : List C) (s : List Nat) (S1 : Store) : bmK o m es ρ (.str s) S1 = (evEs o es ρ S1).bind fun vs S2 => lift S2 (evBM S2 m (.str s) vs) := rfl
@[simp] theorem evE_isi (a : C) (t : TyN) : evE o (.isi a t) ρ S = (evE o a ρ S).bind fun x S1 => lift S1 ((isTy S1 t x).map PV.bl) := rfl
/-- a comprehension's turn -/
def cturn (o : Orc) (tg : TG) (cond : List C) (elt : C) (ρ : Env) (w : Walk) : PV → Store → Out (Option PV) := compStep w (asg tg) (evCond o cond) (evE o elt) ρ
def lcE (own : Bool) (w : Walk) (ys : List PV) (S' : Store) : Out PV := if w.1.length ≤ SZ then (if own then .ok (.ref S'.length) (S' ++ [.lst ys]) else .ok (.lst ys) S') else .bad
def lcK (o : Orc) (own : Bool) (vs : List Nat) (tg : TG) (cond : List C) (elt : C) (ρ : Env) (w : Walk) (S1 : Store) : Out PV := (compL (cturn o tg cond elt (wipe ρ vs) w) [] w.1 S1).bind (lcE own w)
@[simp] theorem evE_lc (own : Bool) (vs : List Nat) (tg : TG) (it : It) (cond : List C) (elt : C) : evE o (.lc own vs tg it cond elt) ρ S = (evIt o it ρ S).bind (lcK o own vs tg cond elt ρ) := rfl
def appK (o : Orc) (a : C) (ρ : Env) (x : PV) (S1 : Store) : Out PV := if isListRef S1 x then (evE o a ρ S1).bind fun y S2 => appendTo S2 x y else .bad
@[simp] theorem evE_app (r a : C) : evE o (.app r a) ρ S = (evE o r ρ S).bind (appK o a ρ) := rfl
@[simp] theorem evIt_seq (a : C) : evIt o (.seq a) ρ S = (evE o a ρ S).bind fun v S1 => lift S1 (walkOf S1 v) := rfl
@[simp] theorem evIt_rng (es : List C) : evIt o (.rng es) ρ S = (evEs o es ρ S).bind fun vs S1 => lift S1 (rngOf vs) := rfl
@[simp] theorem evIt_enum (a : C) : evIt o (.enum a) ρ S = (evE o a ρ S).bind fun v S1 => lift S1 ((walkOf S1 v).bind enumW) := rfl
@[simp] theorem evCond_nil : evCond o [] ρ S = .ok true S := rfl
/-! operators -/
@[simp] theorem add_int (i j : Int) : evBin S .add (.int i) (.int j) = some (.int (i + j)) := rfl
@[simp] theorem sub_int (i j : Int) : evBin S .sub (.int i) (.int j) = some (.int (i - j)) := rfl
theorem mul_int {i j : Int} (h : mulOk i j = true) : evBin S .mul (.int i) (.int j) = some (.int (i * j)) := if_pos h
theorem mod_int {i j : Int} (h : 0 < j) : evBin S .mod (.int i) (.int j) = some (.int (i % j)) := if_pos h
theorem fdiv_int {i j : Int} (h : 0 < j ∧ j < 1073741824) : evBin S .fdiv (.int i) (.int j) = some (.int (i / j)) := if_pos h
theorem add_str {x y : List Nat} (h : x.length + y.length ≤ SZ) : evBin S .add (.str x) (.str y) = some (.str (x ++ y)) := if_pos h
theorem add_tup {x y : List PV} (h : x.length + y.length ≤ SZ) : evBin S .add (.tup x) (.tup y) = some (.tup (x ++ y)) := if_pos h
theorem add_lst {x y : List PV} (h : x.length + y.length ≤ SZ) : evBin S .add (.lst x) (.lst y) = some (.lst (x ++ y)) := if_pos h
@[simp] theorem aug_add (i j : Int) : evAug .add (.int i) (.int j) = some (.int (i + j)) := rfl
theorem aug_add_str {x y : List Nat} (h : x.length + y.length ≤ SZ) : evAug .add (.str x) (.str y) = some (.str (x ++ y)) := if_pos h
@[simp] theorem cmp_eq_int (i j : Int) : evCmp S .eq (.int i) (.int j) = some (decide (i = j)) := by
  show some (i == j) = _
  rfl
@[simp] theorem cmp_ne_int (i j : Int) : evCmp S .ne (.int i) (.int j) = some (!decide (i = j)) := rfl
@[simp] theorem cmp_eq_str (i j : List Nat) : evCmp S .eq (.str i) (.str j) = some (decide (i = j)) := by
  show some (i == j) = _
  congr 1
  by_cases h : i = j <;> simp [h]
@[simp] theorem cmp_ne_str (i j : List Nat) : evCmp S .ne (.str i) (.str j) = some (!decide (i = j)) := by
  show some (!(i == j)) = _
  congr 2
  by_cases h : i = j <;> simp [h]
@[simp] theorem cmp_lt (i j : Int) : evCmp S .lt (.int i) (.int j) = some (decide (i < j)) := rfl
@[simp] theorem cmp_le (i j : Int) : evCmp S .le (.int i) (.int j) = some (decide (i ≤ j)) := rfl
@[simp] theorem cmp_gt (i j : Int) : evCmp S .gt (.int i) (.int j) = some (decide (j < i)) := rfl
@[simp] theorem cmp_ge (i j : Int) : evCmp S .ge (.int i) (.int j) = some (decide (j ≤ i)) := rfl
@[simp] theorem cmp_isN (a : PV) : evCmp S .isN a .non = some (match a with | .non => true | _ => false) := rfl
@[simp] theorem cmp_notN (a : PV) : evCmp S .notN a .non = some (match a with | .non => false | _ => true) := rfl
@[simp] theorem mem_sign (c : Nat) (s : List Nat) : evCmp S .mem (.str [c]) (.str s) = some (decide (c ∈ s)) := rfl
@[simp] theorem nmem_sign (c : Nat) (s : List Nat) : evCmp S .nmem (.str [c]) (.str s) = some (!decide (c ∈ s)) := rfl
end
/-! loops -/
theorem forL_run {step : PV → Env → Store → SOut} (Inv : Nat → Env → Store → Prop) : ∀ (xs : List PV) (k : Nat) (ρ : Env) (S : Store), Inv k ρ S →
    (∀ i x ρ S, xs[i]? = some x → Inv (k + i) ρ S → ∃ ρ' S', (step x ρ S = .next ρ' S' ∨ step x ρ S = .cont ρ' S') ∧ Inv (k + i + 1) ρ' S') →
    ∃ ρ' S', forL step xs ρ S = .next ρ' S' ∧ Inv (k + xs.length) ρ' S'
  | [], k, ρ, S, h, _ => ⟨ρ, S, rfl, h⟩
  | x :: xs, k, ρ, S, h, hs => by
    obtain ⟨ρ1, S1, e, h1⟩ := hs 0 x ρ S rfl h
    obtain ⟨ρ2, S2, e2, h2⟩ := forL_run Inv xs (k + 1) ρ1 S1 h1 fun i y ρ S hy hi => by
      have := hs (i + 1) y ρ S (by simpa using hy) (by rw [show k + (i + 1) = k + 1 + i from by omega]; exact hi)
      rw [show k + (i + 1) + 1 = k + 1 + i + 1 from by omega] at this
      exact this
    refine ⟨ρ2, S2, ?_, by rw [List.length_cons, show k + (xs.length + 1) = k + 1 + xs.length from by omega]; exact h2⟩
    rcases e with e | e
    · unfold forL; rw [e]; exact e2
    · unfold forL; rw [e]; exact e2
theorem compL_run {step : PV → Store → Out (Option PV)} (f : PV → PV) (S : Store) : ∀ (xs acc : List PV), (∀ x ∈ xs, step x S = .ok (some (f x)) S) → compL step acc xs S = .ok (acc ++ xs.map f) S
  | [], acc, _ => by rw [List.map_nil, List.append_nil]; rfl
  | x :: xs, acc, h => by
    unfold compL
    rw [h x (by simp)]
    have := compL_run f S xs (acc ++ [f x]) fun y hy => h y (by simp [hy])
    rw [List.map_cons, show acc ++ f x :: xs.map f = acc ++ [f x] ++ xs.map f from by simp]
    exact this
theorem cturn_ok {o : Orc} {tg : TG} {elt : C} {ρ ρ' : Env} {w : Walk} {x y : PV} {S : Store} (h1 : asg tg x ρ = some ρ') (h2 : evE o elt ρ' S = .ok y S) (h3 : w.2 = none) : cturn o tg [] elt ρ w x S = .ok (some y) S := by
  unfold cturn compStep
  rw [h1]
  show (evE o elt ρ' S).bind (fun y S4 => if keptOf w S4 then .ok (some y) S4 else .bad) = _
  rw [h2, Out.bind_ok]
  unfold keptOf
  rw [h3]
  rfl
theorem forW_free {w : Walk} {step : PV → Env → Store → SOut} (h : w.2 = none) : forW (keptOf w) step = step := by
  funext x ρ S
  unfold forW
  have : ∀ S, keptOf w S = true := fun S => by unfold keptOf; rw [h]
  cases step x ρ S <;> simp [this]
@[simp] theorem enumFrom_length : ∀ (n : Nat) (xs : List PV), (enumFrom n xs).length = xs.length
  | _, [] => rfl
  | n, x :: xs => by rw [enumFrom, List.length_cons, List.length_cons, enumFrom_length]
theorem enumFrom_at : ∀ (n : Nat) (xs : List PV) (i : Nat), (enumFrom n xs)[i]? = (xs[i]?).map fun x => .tup [.int ((n + i : Nat) : Int), x]
  | _, [], i => by rw [enumFrom]; rfl
  | n, x :: xs, 0 => rfl
  | n, x :: xs, i + 1 => by
    rw [enumFrom, List.getElem?_cons_succ, List.getElem?_cons_succ, enumFrom_at]
    rw [show n + 1 + i = n + (i + 1) from by omega]
end MK

set_option linter.all false
set_option autoImplicit false
/-! MkFig: a number's figures. Plain Lean. -/
namespace MK
theorem figs_nat (n : Nat) : figs (n : Int) = (Nat.toDigits 10 n).map Char.toNat := by
  unfold figs
  have : (toString (n : Int)) = Nat.repr n := rfl
  rw [this, Nat.toList_repr]
theorem digit_nat {d : Nat} (h : d < 10) : (Nat.digitChar d).toNat = 48 + d := by
  have : ∀ d : Fin 10, (Nat.digitChar d.val).toNat = 48 + d.val := by decide
  exact this ⟨d, h⟩
theorem figs_if (n : Nat) : figs (n : Int) = if n < 10 then [48 + n] else figs ((n / 10 : Nat) : Int) ++ [48 + n % 10] := by
  rw [figs_nat, Nat.toDigits_eq_if (by decide)]
  by_cases h : n < 10
  · rw [if_pos h, if_pos h]
    simp [digit_nat h]
  · rw [if_neg h, if_neg h, List.map_append, figs_nat]
    simp [digit_nat (Nat.mod_lt n (by decide : 0 < 10))]
theorem figs_digit : ∀ (n : Nat) (c : Nat), c ∈ figs (n : Int) → 48 ≤ c ∧ c ≤ 57 := by
  intro n
  induction n using Nat.strongRecOn with
  | ind n ih =>
    intro c hc
    rw [figs_if] at hc
    split at hc
    · have := List.mem_singleton.mp hc
      omega
    · rcases List.mem_append.mp hc with h | h
      · exact ih (n / 10) (by omega) c h
      · have := List.mem_singleton.mp h
        omega
theorem numOf_snoc : ∀ (s : List Nat) (a c : Nat), 48 ≤ c → c ≤ 57 → numOf (s ++ [c]) a = (numOf s a).map fun n => 10 * n + (c - 48)
  | [], a, c, h1, h2 => by
    show (if 48 ≤ c ∧ c ≤ 57 then numOf [] (10 * a + (c - 48)) else none) = _
    rw [if_pos ⟨h1, h2⟩]
    rfl
  | x :: s, a, c, h1, h2 => by
    show (if 48 ≤ x ∧ x ≤ 57 then numOf (s ++ [c]) (10 * a + (x - 48)) else none) = (if 48 ≤ x ∧ x ≤ 57 then numOf s (10 * a + (x - 48)) else none).map _
    split
    · exact numOf_snoc s _ c h1 h2
    · rfl
theorem numOf_figs (n : Nat) : numOf (figs (n : Int)) 0 = some n := by
  induction n using Nat.strongRecOn with
  | ind n ih =>
    rw [figs_if]
    split
    · show (if 48 ≤ 48 + n ∧ 48 + n ≤ 57 then numOf [] (10 * 0 + (48 + n - 48)) else none) = _
      rw [if_pos (by omega)]
      show some _ = _
      congr 1
      omega
    · rw [numOf_snoc _ _ _ (by omega) (by omega), ih (n / 10) (by omega)]
      show some (10 * (n / 10) + (48 + n % 10 - 48)) = _
      congr 1
      omega
theorem figs_inj {m n : Nat} (h : figs (m : Int) = figs (n : Int)) : m = n := by
  have := numOf_figs m
  rw [h, numOf_figs] at this
  exact (Option.some.inj this).symm
theorem figs_pos (n : Nat) : 0 < (figs (n : Int)).length := by
  rw [figs_if]
  split <;> simp
theorem figs_le : ∀ (k n : Nat), 0 < k → n < 10 ^ k → (figs (n : Int)).length ≤ k
  | 0, n, h, _ => absurd h (by decide)
  | 1, n, _, h => by
    rw [figs_if, if_pos (by simpa using h)]
    simp
  | k + 2, n, _, h => by
    rw [figs_if]
    split
    · simp
    · rw [List.length_append]
      have : (figs ((n / 10 : Nat) : Int)).length ≤ k + 1 := figs_le (k + 1) (n / 10) (by omega) (by rw [Nat.div_lt_iff_lt_mul (by decide)]; rw [Nat.pow_succ] at h; exact h)
      show (figs ((n / 10 : Nat) : Int)).length + 1 ≤ k + 2
      omega
theorem evBI_str (S : Store) {i : Int} (h : i.natAbs < 2 ^ 64) : evBI S .str [.int i] = some (.str (figs i)) := by
  have h2 : i.natAbs < 2 ^ 1000 := Nat.lt_of_lt_of_le h (Nat.pow_le_pow_right (by decide) (by decide))
  unfold evBI
  exact if_pos h2
theorem evBI_str_nat (S : Store) {n : Nat} (h : n < 2 ^ 64) : evBI S .str [.int (n : Int)] = some (.str (figs (n : Int))) := evBI_str S (by rw [Int.natAbs_natCast]; exact h)
theorem evBI_int_str (S : Store) {s : List Nat} {n : Nat} (h0 : 0 < s.length) (h1 : s.length ≤ 640) (h : numOf s 0 = some n) : evBI S .int [.str s] = some (.int (n : Int)) := by
  show (if 0 < s.length ∧ s.length ≤ 640 then (numOf s 0).map fun (n : Nat) => PV.int (n : Int) else none) = _
  rw [if_pos ⟨h0, h1⟩, h]
  rfl
section
variable (S : Store)
@[simp] theorem len_str (s : List Nat) : evBI S .len [.str s] = some (.int s.length) := rfl
@[simp] theorem len_tup (s : List PV) : evBI S .len [.tup s] = some (.int s.length) := rfl
@[simp] theorem len_lst (s : List PV) : evBI S .len [.lst s] = some (.int s.length) := rfl
theorem len_ref {n : Nat} {xs : List PV} (h : S[n]? = some (.lst xs)) : evBI S .len [.ref n] = some (.int xs.length) := by
  show ((match S[n]? with | some (.lst xs) => some xs | _ => none).map fun (xs : List PV) => PV.int xs.length) = _
  rw [h]; rfl
@[simp] theorem int_int (i : Int) : evBI S .int [.int i] = some (.int i) := rfl
@[simp] theorem abs_int (i : Int) : evBI S .abs [.int i] = some (.int (if i < 0 then -i else i)) := rfl
@[simp] theorem min_int (i j : Int) : evBI S .min2 [.int i, .int j] = some (.int (if j < i then j else i)) := rfl
@[simp] theorem max_int (i j : Int) : evBI S .max2 [.int i, .int j] = some (.int (if i < j then j else i)) := rfl
@[simp] theorem tuple_lst (xs : List PV) : evBI S .tuple [.lst xs] = some (.tup xs) := rfl
@[simp] theorem tuple_tup (xs : List PV) : evBI S .tuple [.tup xs] = some (.tup xs) := rfl
theorem tuple_ref {n : Nat} {xs : List PV} (h : S[n]? = some (.lst xs)) : evBI S .tuple [.ref n] = some (.tup xs) := by
  show ((match S[n]? with | some (.lst xs) => some xs | _ => none).map fun xs => PV.tup xs) = _
  rw [h]; rfl
@[simp] theorem isTy_str_str (s : List Nat) : isTy S .str (.str s) = some true := rfl
@[simp] theorem isTy_int_int (s : Int) : isTy S .int (.int s) = some true := rfl
@[simp] theorem isTy_bool_int (s : Int) : isTy S .bool (.int s) = some false := rfl
@[simp] theorem isTy_tuple_tup (s : List PV) : isTy S .tuple (.tup s) = some true := rfl
@[simp] theorem walk_str (s : List Nat) : walkOf S (.str s) = some (s.map fun c => .str [c], none) := rfl
@[simp] theorem walk_tup (s : List PV) : walkOf S (.tup s) = some (s, none) := rfl
@[simp] theorem walk_lst (s : List PV) : walkOf S (.lst s) = some (s, none) := rfl
@[simp] theorem enum_some (s : List PV) : (some (s, none) : Option Walk).bind enumW = some (enumFrom 0 s, none) := rfl
end
theorem rng_one {n : Nat} (h : n < 1000000000) : rngOf [.int (n : Int)] = some (rngL 0 n, none) := by
  unfold rngOf
  have h1 : -BIG ≤ (n : Int) ∧ (n : Int) < BIG := by
    have : BIG = 1073741824 := rfl
    rw [this]; omega
  simp only [h1, and_self, if_true, Int.toNat_natCast]
theorem rng_two {m n : Nat} (h : n < 1000000000) (h2 : m < 1000000000) : rngOf [.int (m : Int), .int (n : Int)] = some (rngL m (n - m), none) := by
  unfold rngOf
  have h1 : -BIG ≤ (m : Int) ∧ (m : Int) < BIG ∧ -BIG ≤ (n : Int) ∧ (n : Int) < BIG := by
    have : BIG = 1073741824 := rfl
    rw [this]; omega
  simp only [h1, and_self, if_true]
  rw [show ((n : Int) - (m : Int)).toNat = n - m from by omega]
@[simp] theorem rngL_length (lo : Int) (n : Nat) : (rngL lo n).length = n := by simp [rngL]
theorem rngL_at {lo : Int} {n i : Nat} {x : PV} (h : (rngL lo n)[i]? = some x) : i < n ∧ x = .int (lo + (i : Int)) := by
  have hi : i < n := by simpa using (List.getElem?_eq_some_iff.mp h).1
  unfold rngL at h
  rw [List.getElem?_map, List.getElem?_range hi] at h
  cases h
  exact ⟨hi, rfl⟩
theorem it_rng1 {o : Orc} {e : C} {ρ : Env} {S S1 : Store} {n : Nat} (h : evE o e ρ S = .ok (.int (n : Int)) S1) (hn : n < 1000000000) : evIt o (.rng [e]) ρ S = .ok (rngL 0 n, none) S1 := by
  rw [evIt_rng, evEs_cons, h, Out.bind_ok, evEs_nil, Out.bind_ok, Out.bind_ok, rng_one hn, lift_some]
theorem for_rng1 {o : Orc} {e : C} {ρ : Env} {S S1 : Store} {n : Nat} {t : TG} {b : List MK.S} (h : evE o e ρ S = .ok (.int (n : Int)) S1) (hn : n < 1000000000) : evS o (.for_ t (.rng [e]) b) ρ S = forL (turn o t b) (rngL 0 n) ρ S1 := by
  rw [evS_for, it_rng1 h hn, Out.toS_ok, forK, forW_free rfl]
theorem it_rng2 {o : Orc} {d e : C} {ρ : Env} {S S1 S2 : Store} {m n : Nat} (hd : evE o d ρ S = .ok (.int (m : Int)) S1) (h : evE o e ρ S1 = .ok (.int (n : Int)) S2) (hm : m < 1000000000) (hn : n < 1000000000) : evIt o (.rng [d, e]) ρ S = .ok (rngL m (n - m), none) S2 := by
  rw [evIt_rng, evEs_cons, hd, Out.bind_ok, evEs_cons, h, Out.bind_ok, evEs_nil, Out.bind_ok, Out.bind_ok, Out.bind_ok, rng_two hn hm, lift_some]
theorem for_rng2 {o : Orc} {d e : C} {ρ : Env} {S S1 S2 : Store} {m n : Nat} {t : TG} {b : List MK.S} (hd : evE o d ρ S = .ok (.int (m : Int)) S1) (h : evE o e ρ S1 = .ok (.int (n : Int)) S2) (hm : m < 1000000000) (hn : n < 1000000000) : evS o (.for_ t (.rng [d, e]) b) ρ S = forL (turn o t b) (rngL m (n - m)) ρ S2 := by
  rw [evS_for, it_rng2 hd h hm hn, Out.toS_ok, forK, forW_free rfl]
theorem ixs_str {S : Store} {s : List Nat} {i c : Nat} (h : s[i]? = some c) : evIx S (.str s) (.int (i : Int)) = some (.str [c]) := by
  show (ixAt s (i : Int)).map _ = _
  unfold ixAt
  rw [if_pos (by omega), Int.toNat_natCast, h]
  rfl
theorem ixs_tup {S : Store} {s : List PV} {i : Nat} {c : PV} (h : s[i]? = some c) : evIx S (.tup s) (.int (i : Int)) = some c := by
  show ixAt s (i : Int) = _
  unfold ixAt
  rw [if_pos (by omega), Int.toNat_natCast, h]
theorem ixs_lst {S : Store} {s : List PV} {i : Nat} {c : PV} (h : s[i]? = some c) : evIx S (.lst s) (.int (i : Int)) = some c := by
  show ixAt s (i : Int) = _
  unfold ixAt
  rw [if_pos (by omega), Int.toNat_natCast, h]
theorem cut_to {α : Type} (xs : List α) (k : Nat) : cut xs none (some (k : Int)) = xs.take k := by
  unfold cut clip
  have h0 : ¬ ((k : Int) < 0) := by omega
  simp [h0]
theorem cut_from {α : Type} (xs : List α) (k : Nat) : cut xs (some (k : Int)) none = xs.drop k := by
  unfold cut clip
  have h0 : ¬ ((k : Int) < 0) := by omega
  simp only [h0, if_false, Int.toNat_natCast]
  by_cases h : k ≤ xs.length
  · rw [Nat.min_eq_left h, List.take_of_length_le (by rw [List.length_drop]; exact Nat.le_refl _)]
  · rw [Nat.min_eq_right (by omega), List.drop_of_length_le (Nat.le_refl _), List.drop_of_length_le (by omega)]
    simp
theorem cut_mid {α : Type} (xs : List α) (j k : Nat) : cut xs (some (j : Int)) (some (k : Int)) = (xs.take k).drop j := by
  unfold cut clip
  have h0 : ¬ ((k : Int) < 0) := by omega
  have h1 : ¬ ((j : Int) < 0) := by omega
  simp only [h0, h1, if_false, Int.toNat_natCast]
  rw [List.drop_take]
  by_cases hj : j ≤ xs.length
  · rw [Nat.min_eq_left hj]
    by_cases hk : k ≤ xs.length
    · rw [Nat.min_eq_left hk]
    · rw [Nat.min_eq_right (by omega), List.take_of_length_le (by rw [List.length_drop]; omega), List.take_of_length_le (by rw [List.length_drop]; omega)]
  · have e1 : min j xs.length = xs.length := Nat.min_eq_right (by omega)
    rw [e1, List.drop_of_length_le (Nat.le_refl _), List.drop_of_length_le (by omega)]
    simp
theorem tup1_ok {o : Orc} {a : C} {ρ : Env} {S : Store} {x : PV} (h1 : evE o a ρ S = .ok x S) : evE o (.tup [a]) ρ S = .ok (.tup [x]) S := by
  rw [evE_tup, evEs_cons, h1, Out.bind_ok, evEs_nil, Out.bind_ok, Out.bind_ok]; rfl
theorem tup2_ok {o : Orc} {a b : C} {ρ : Env} {S : Store} {x y : PV} (h1 : evE o a ρ S = .ok x S) (h2 : evE o b ρ S = .ok y S) : evE o (.tup [a, b]) ρ S = .ok (.tup [x, y]) S := by
  rw [evE_tup, evEs_cons, h1, Out.bind_ok, evEs_cons, h2, Out.bind_ok, evEs_nil, Out.bind_ok, Out.bind_ok, Out.bind_ok]; rfl
theorem tup3_ok {o : Orc} {a b c : C} {ρ : Env} {S : Store} {x y z : PV} (h1 : evE o a ρ S = .ok x S) (h2 : evE o b ρ S = .ok y S) (h3 : evE o c ρ S = .ok z S) : evE o (.tup [a, b, c]) ρ S = .ok (.tup [x, y, z]) S := by
  rw [evE_tup, evEs_cons, h1, Out.bind_ok, evEs_cons, h2, Out.bind_ok, evEs_cons, h3, Out.bind_ok, evEs_nil, Out.bind_ok, Out.bind_ok, Out.bind_ok, Out.bind_ok]; rfl
section
variable (S : Store)
theorem sl_str_to (s : List Nat) (k : Nat) : evSl S (.str s) none (some (k : Int)) = some (.str (s.take k)) := by show some (PV.str (cut s _ _)) = _; rw [cut_to]
theorem sl_str_from (s : List Nat) (k : Nat) : evSl S (.str s) (some (k : Int)) none = some (.str (s.drop k)) := by show some (PV.str (cut s _ _)) = _; rw [cut_from]
theorem sl_str_mid (s : List Nat) (j k : Nat) : evSl S (.str s) (some (j : Int)) (some (k : Int)) = some (.str ((s.take k).drop j)) := by show some (PV.str (cut s _ _)) = _; rw [cut_mid]
theorem sl_tup_to (s : List PV) (k : Nat) : evSl S (.tup s) none (some (k : Int)) = some (.tup (s.take k)) := by show some (PV.tup (cut s _ _)) = _; rw [cut_to]
theorem sl_lst_to (s : List PV) (k : Nat) : evSl S (.lst s) none (some (k : Int)) = some (.lst (s.take k)) := by show some (PV.lst (cut s _ _)) = _; rw [cut_to]
theorem sl_lst_from (s : List PV) (k : Nat) : evSl S (.lst s) (some (k : Int)) none = some (.lst (s.drop k)) := by show some (PV.lst (cut s _ _)) = _; rw [cut_from]
theorem sl_lst_mid (s : List PV) (j k : Nat) : evSl S (.lst s) (some (j : Int)) (some (k : Int)) = some (.lst ((s.take k).drop j)) := by show some (PV.lst (cut s _ _)) = _; rw [cut_mid]
end
/-! an end without places -/
theorem fin_non (S : Store) : fin true S (.ret .non S) = .ok .non S := by simp [fin, close, frz]
theorem fin_int (S : Store) (i : Int) : fin true S (.ret (.int i) S) = .ok (.int i) S := by simp [fin, close, frz]
theorem fin_bl (S : Store) (i : Bool) : fin true S (.ret (.bl i) S) = .ok (.bl i) S := by simp [fin, close, frz]
theorem fin_str (S : Store) (i : List Nat) : fin true S (.ret (.str i) S) = .ok (.str i) S := by simp [fin, close, frz]
/-- and / or in one go -/
theorem and_if {o : Orc} {ds : List C} {ρ : Env} {S : Store} {b : Bool} {r : Out PV} (h1 : b = true → evAnd o ds ρ S = r) (h2 : b = false → Out.ok (PV.bl false) S = r) : andK o ds ρ (.bl b) S = r := by
  cases b
  · exact h2 rfl
  · exact h1 rfl
theorem and_ok {o : Orc} {ds : List C} {ρ : Env} {S : Store} {b c : Bool} (h : b = true → evAnd o ds ρ S = .ok (.bl c) S) : andK o ds ρ (.bl b) S = .ok (.bl (b && c)) S := by
  cases b
  · rfl
  · exact h rfl
theorem or_ok {o : Orc} {ds : List C} {ρ : Env} {S : Store} {b c : Bool} (h : b = false → evOr o ds ρ S = .ok (.bl c) S) : orK o ds ρ (.bl b) S = .ok (.bl (b || c)) S := by
  cases b
  · exact h rfl
  · rfl
/-! maps over lists -/
theorem compL_map {α : Type} {step : PV → Store → Out (Option PV)} (g h : α → PV) (S : Store) : ∀ (l : List α) (acc : List PV), (∀ a ∈ l, step (g a) S = .ok (some (h a)) S) → compL step acc (l.map g) S = .ok (acc ++ l.map h) S
  | [], acc, _ => by simp [compL]
  | a :: l, acc, hs => by
    rw [List.map_cons]
    unfold compL
    rw [hs a (by simp)]
    have := compL_map g h S l (acc ++ [h a]) fun b hb => hs b (by simp [hb])
    rw [List.map_cons, show acc ++ h a :: l.map h = acc ++ [h a] ++ l.map h from by simp]
    exact this
theorem blsOf_map {α : Type} (p : α → Bool) : ∀ l : List α, blsOf (l.map fun a => PV.bl (p a)) = some (l.map p)
  | [] => rfl
  | a :: l => by
    rw [List.map_cons, List.map_cons]
    show (blsOf (l.map fun a => PV.bl (p a))).map (p a :: ·) = _
    rw [blsOf_map p l]
    rfl
theorem strsOf_map {α : Type} (p : α → List Nat) : ∀ l : List α, strsOf (l.map fun a => PV.str (p a)) = some (l.map p)
  | [] => rfl
  | a :: l => by
    rw [List.map_cons, List.map_cons]
    show (strsOf (l.map fun a => PV.str (p a))).map (p a :: ·) = _
    rw [strsOf_map p l]
    rfl
theorem evBI_all {α : Type} (S : Store) (p : α → Bool) (l : List α) : evBI S .all [.lst (l.map fun a => PV.bl (p a))] = some (.bl (l.all p)) := by
  show ((blsOf (l.map fun a => PV.bl (p a))).map fun bs => PV.bl (bs.all id)) = _
  rw [blsOf_map]
  show some (PV.bl ((l.map p).all id)) = _
  rw [List.all_map]
  rfl
theorem joinL_nil : ∀ l : List (List Nat), joinL [] l = l.flatten
  | [] => rfl
  | [x] => by simp [joinL]
  | x :: y :: r => by
    unfold joinL
    rw [joinL_nil (y :: r)]
    simp
theorem evBM_join {α : Type} (S : Store) (p : α → List Nat) (l : List α) (h : ((l.map p).map List.length).sum ≤ SZ) : evBM S .join (.str []) [.lst (l.map fun a => PV.str (p a))] = some (.str (l.map p).flatten) := by
  show (match strsOf (l.map fun a => PV.str (p a)) with
      | some ss => if (ss.map List.length).sum + ss.length * ([] : List Nat).length ≤ SZ then some (PV.str (joinL [] ss)) else none
      | none => none) = _
  rw [strsOf_map]
  simp only [List.length_nil, Nat.mul_zero, Nat.add_zero]
  rw [if_pos h, joinL_nil]
theorem join_strs (S : Store) (l : List (List Nat)) (h : l.flatten.length ≤ SZ) : evBM S .join (.str []) [.lst (l.map .str)] = some (.str l.flatten) := by
  have := evBM_join S (fun a => a) l (by rw [List.map_id']; rw [List.length_flatten] at h; exact h)
  rw [List.map_id'] at this
  exact this
end MK

set_option linter.all false
set_option autoImplicit false
set_option maxRecDepth 100000
set_option maxHeartbeats 4000000
/-! MkDraws: the draws that every law begins with. Plain Lean. -/
namespace MK
def bDraws : List S := [
  .asg (.nm 2) (.lst true []),
  .asg (.nm 3) (.lit (.int 7)),
  .for_ (.nm 4) (.seq (.sl false true (.var 0) (.lit .non) (.lit (.int 63)))) [.asg (.nm 6) (.bi .abs [.var 4]), .asg (.nm 3) (.bin .mod (.bi .int [.bin .add (.bin .add (.bin .mul (.var 3) (.lit (.int 48271))) (.var 6)) (.lit (.int 11))]) (.lit (.int 2147483647))), .ifs (.cmp .ge (.var 6) (.bin .pow (.lit (.int 10)) (.lit (.int 18)))) [.for_ (.nm 5) (.rng [.lit (.int 60)]) [.ifs (.cmp .gt (.var 6) (.lit (.int 0))) [.ex (.app (.var 2) (.bin .mod (.bi .int [.var 6]) (.lit (.int 1009)))), .asg (.nm 6) (.bin .fdiv (.var 6) (.lit (.int 1009)))] []]] [.ex (.app (.var 2) (.bin .mod (.bin .fdiv (.bi .int [.bin .add (.bin .mul (.var 3) (.lit (.int 16807))) (.lit (.int 5))]) (.lit (.int 3))) (.lit (.int 65521))))]],
  .for_ (.nm 5) (.rng [.var 1]) [.ifs (.cmp .lt (.bi .len [.var 2]) (.var 1)) [.asg (.nm 3) (.bin .mod (.bi .int [.bin .add (.bin .add (.bin .mul (.var 3) (.lit (.int 69621))) (.var 5)) (.lit (.int 1))]) (.lit (.int 2147483647))), .ex (.app (.var 2) (.bin .mod (.bin .fdiv (.bi .int [.var 3]) (.lit (.int 7))) (.lit (.int 65521))))] []],
  .ret (.sl false true (.var 2) (.lit .non) (.var 1))]
/-- one more at the end of the newest list -/
theorem app_end {o : Orc} {a : C} {ρ : Env} {S : Store} {xs : List PV} {y : PV} (h : evE o a ρ (S ++ [.lst xs]) = .ok y (S ++ [.lst xs])) (hl : xs.length < SZ) : appK o a ρ (.ref S.length) (S ++ [.lst xs]) = .ok .non (S ++ [.lst (xs ++ [y])]) := by
  have hg : (S ++ [Cell.lst xs])[S.length]? = some (.lst xs) := by simp
  have hr : isListRef (S ++ [Cell.lst xs]) (.ref S.length) = true := by
    show (match (S ++ [Cell.lst xs])[S.length]? with | some (.lst _) => true | _ => false) = true
    rw [hg]
  unfold appK
  rw [if_pos hr, h, Out.bind_ok]
  show (match (S ++ [Cell.lst xs])[S.length]? with
    | some (.lst xs') => if xs'.length < SZ then Out.ok PV.non ((S ++ [Cell.lst xs]).set S.length (.lst (xs' ++ [y]))) else .bad
    | _ => .bad) = _
  rw [hg]
  simp only [if_pos hl]
  simp
def okD (ds : List Int) : Prop := ∀ d ∈ ds, 0 ≤ d ∧ d < 65521
theorem okD.snoc {ds : List Int} {d : Int} (h : okD ds) (h1 : 0 ≤ d) (h2 : d < 65521) : okD (ds ++ [d]) := fun x hx => by
  rcases List.mem_append.mp hx with q | q
  · exact h x q
  · rw [List.mem_singleton.mp q]; exact ⟨h1, h2⟩
theorem map_snoc (ds : List Int) (d : Int) : (ds.map PV.int) ++ [PV.int d] = (ds ++ [d]).map PV.int := by simp
section
variable (o : Orc)
theorem mulK (S : Store) (i : Int) (j : Int) (h : j.natAbs < 2 ^ 64) : evBin S .mul (.int i) (.int j) = some (.int (i * j)) := mul_int _ (by unfold mulOk; rw [Bool.or_eq_true]; exact .inr (decide_eq_true h))
theorem pow18 (S : Store) : evBin S .pow (.int 10) (.int 18) = some (.int (10 ^ 18)) := by
  show (if (0 : Int) ≤ 18 ∧ (18 : Int) ≤ 1000000 ∧ (10 : Int).natAbs < 2 ^ 64 then some (PV.int ((10 : Int) ^ (18 : Int).toNat)) else none) = _
  rw [if_pos (by decide)]
  rfl
/-- the inner loop -/
theorem draws_in (S : Store) (sc mn : PV) (a b c : Option PV) (num : Int) (ds : List Int) (hd : okD ds) (hl : ds.length + 60 < SZ) :
    ∃ ds' : List Int, okD ds' ∧ ds'.length ≤ ds.length + 60 ∧ ∃ k' num', forL (turn o (.nm 5) [.ifs (.cmp .gt (.var 6) (.lit (.int 0))) [.ex (.app (.var 2) (.bin .mod (.bi .int [.var 6]) (.lit (.int 1009)))), .asg (.nm 6) (.bin .fdiv (.var 6) (.lit (.int 1009)))] []]) (rngL 0 60)
      [some sc, some mn, some (.ref S.length), a, b, c, some (.int num)] (S ++ [.lst (ds.map .int)]) = .next [some sc, some mn, some (.ref S.length), a, b, k', num'] (S ++ [.lst (ds'.map .int)]) := by
  have key := forL_run (step := turn o (.nm 5) [.ifs (.cmp .gt (.var 6) (.lit (.int 0))) [.ex (.app (.var 2) (.bin .mod (.bi .int [.var 6]) (.lit (.int 1009)))), .asg (.nm 6) (.bin .fdiv (.var 6) (.lit (.int 1009)))] []])
    (fun i ρ S' => ∃ ds' : List Int, okD ds' ∧ ds'.length ≤ ds.length + i ∧ ∃ (k' : Option PV) (n' : Int), ρ = [some sc, some mn, some (.ref S.length), a, b, k', some (.int n')] ∧ S' = S ++ [.lst (ds'.map .int)]) (rngL 0 60) 0 [some sc, some mn, some (.ref S.length), a, b, c, some (.int num)] (S ++ [.lst (ds.map .int)]) ⟨ds, hd, by omega, c, num, rfl, rfl⟩ ?_
  · obtain ⟨ρ', S', e, ds', hd', hl', k', n', rfl, rfl⟩ := key
    refine ⟨ds', hd', by simpa using hl', k', some (.int n'), e⟩
  · rintro i x ρ S' hx ⟨ds1, hd1, hl1, k1, n1, rfl, rfl⟩
    obtain ⟨hi, rfl⟩ := rngL_at hx
    rw [turn_nm _ _ _ (by simp)]
    have hmod : ∀ S z, evBin S .mod (.int z) (.int 1009) = some (.int (z % 1009)) := fun S z => mod_int _ (by decide)
    have hdiv : ∀ S z, evBin S .fdiv (.int z) (.int 1009) = some (.int (z / 1009)) := fun S z => fdiv_int _ (by decide)
    by_cases hp : 0 < n1
    · have ha : appK o (.bin .mod (.bi .int [.var 6]) (.lit (.int 1009))) [some sc, some mn, some (.ref S.length), a, b, some (.int (0 + (i : Int))), some (.int n1)] (.ref S.length) (S ++ [.lst (ds1.map .int)]) = .ok .non (S ++ [.lst (ds1.map .int ++ [.int (n1 % 1009)])]) :=
        app_end (by simp [hmod]) (by rw [List.length_map]; omega)
      simp only [Int.zero_add] at ha
      rw [map_snoc] at ha
      refine ⟨[some sc, some mn, some (.ref S.length), a, b, some (.int i), some (.int (n1 / 1009))], S ++ [.lst ((ds1 ++ [n1 % 1009]).map .int)], .inl ?_, ds1 ++ [n1 % 1009], hd1.snoc (Int.emod_nonneg _ (by decide)) (by have := Int.emod_lt_of_pos n1 (show (0:Int) < 1009 by decide); omega), by rw [List.length_append]; simp; omega, some (.int i), n1 / 1009, rfl, rfl⟩
      simp [cmpK, hp, ha, hdiv, asgK_nm]
    · refine ⟨[some sc, some mn, some (.ref S.length), a, b, some (.int i), some (.int n1)], S ++ [.lst (ds1.map .int)], .inl ?_, ds1, hd1, by omega, some (.int i), n1, rfl, rfl⟩
      simp [cmpK, hp]

def in60 : List MK.S := [.ifs (.cmp .gt (.var 6) (.lit (.int 0))) [.ex (.app (.var 2) (.bin .mod (.bi .int [.var 6]) (.lit (.int 1009)))), .asg (.nm 6) (.bin .fdiv (.var 6) (.lit (.int 1009)))] []]
def outB : List MK.S := [.asg (.nm 6) (.bi .abs [.var 4]), .asg (.nm 3) (.bin .mod (.bi .int [.bin .add (.bin .add (.bin .mul (.var 3) (.lit (.int 48271))) (.var 6)) (.lit (.int 11))]) (.lit (.int 2147483647))), .ifs (.cmp .ge (.var 6) (.bin .pow (.lit (.int 10)) (.lit (.int 18)))) [.for_ (.nm 5) (.rng [.lit (.int 60)]) in60] [.ex (.app (.var 2) (.bin .mod (.bin .fdiv (.bi .int [.bin .add (.bin .mul (.var 3) (.lit (.int 16807))) (.lit (.int 5))]) (.lit (.int 3))) (.lit (.int 65521))))]]
def manyB : List MK.S := [.ifs (.cmp .lt (.bi .len [.var 2]) (.var 1)) [.asg (.nm 3) (.bin .mod (.bi .int [.bin .add (.bin .add (.bin .mul (.var 3) (.lit (.int 69621))) (.var 5)) (.lit (.int 1))]) (.lit (.int 2147483647))), .ex (.app (.var 2) (.bin .mod (.bin .fdiv (.bi .int [.var 3]) (.lit (.int 7))) (.lit (.int 65521))))] []]
/-- one turn of the outer loop -/
theorem draws_out (S : Store) (sc mn : PV) (seed z : Int) (b c d : Option PV) (ds : List Int) (hd : okD ds) (hl : ds.length + 60 < SZ) :
    ∃ (ds' : List Int) (seed' : Int) (b' c' d' : Option PV), okD ds' ∧ ds'.length ≤ ds.length + 60 ∧ turn o (.nm 4) outB (.int z) [some sc, some mn, some (.ref S.length), some (.int seed), b, c, d] (S ++ [.lst (ds.map .int)]) =
      .next [some sc, some mn, some (.ref S.length), some (.int seed'), b', c', d'] (S ++ [.lst (ds'.map .int)]) := by
  rw [turn_nm _ _ _ (by simp)]
  have hmod : ∀ S z, evBin S .mod (.int z) (.int 2147483647) = some (.int (z % 2147483647)) := fun S z => mod_int _ (by decide)
  have hmod2 : ∀ S z, evBin S .mod (.int z) (.int 65521) = some (.int (z % 65521)) := fun S z => mod_int _ (by decide)
  have hdiv : ∀ S z, evBin S .fdiv (.int z) (.int 3) = some (.int (z / 3)) := fun S z => fdiv_int _ (by decide)
  have m1 : ∀ S z, evBin S .mul (.int z) (.int 48271) = some (.int (z * 48271)) := fun S z => mulK S z _ (by decide)
  have m2 : ∀ S z, evBin S .mul (.int z) (.int 16807) = some (.int (z * 16807)) := fun S z => mulK S z _ (by decide)
  let num : Int := if z < 0 then -z else z
  let sd : Int := (seed * 48271 + num + 11) % 2147483647
  have e1 : ∀ k : Env → Store → SOut, True := fun _ => trivial
  have s1 : evS o (.asg (.nm 6) (.bi .abs [.var 4])) [some sc, some mn, some (.ref S.length), some (.int seed), some (.int z), c, d] (S ++ [.lst (ds.map .int)]) = .next [some sc, some mn, some (.ref S.length), some (.int seed), some (.int z), c, some (.int num)] (S ++ [.lst (ds.map .int)]) := by
    simp [asgK_nm, num]
  have s2 : evS o (.asg (.nm 3) (.bin .mod (.bi .int [.bin .add (.bin .add (.bin .mul (.var 3) (.lit (.int 48271))) (.var 6)) (.lit (.int 11))]) (.lit (.int 2147483647)))) [some sc, some mn, some (.ref S.length), some (.int seed), some (.int z), c, some (.int num)] (S ++ [.lst (ds.map .int)]) =
      .next [some sc, some mn, some (.ref S.length), some (.int sd), some (.int z), c, some (.int num)] (S ++ [.lst (ds.map .int)]) := by
    simp [asgK_nm, m1, hmod, sd]
  show ∃ (ds' : List Int) (seed' : Int) (b' c' d' : Option PV), _ ∧ _ ∧ evSs o outB [some sc, some mn, some (.ref S.length), some (.int seed), some (.int z), c, d] (S ++ [.lst (ds.map .int)]) = _
  unfold outB
  by_cases hp : (10 : Int) ^ 18 ≤ num
  · obtain ⟨ds', hd', hl', k', n', e⟩ := draws_in o S sc mn (some (.int sd)) (some (.int z)) c num ds hd hl
    refine ⟨ds', sd, some (.int z), k', n', hd', hl', ?_⟩
    have s3 : evS o (.ifs (.cmp .ge (.var 6) (.bin .pow (.lit (.int 10)) (.lit (.int 18)))) [.for_ (.nm 5) (.rng [.lit (.int 60)]) in60] [.ex (.app (.var 2) (.bin .mod (.bin .fdiv (.bi .int [.bin .add (.bin .mul (.var 3) (.lit (.int 16807))) (.lit (.int 5))]) (.lit (.int 3))) (.lit (.int 65521))))]) [some sc, some mn, some (.ref S.length), some (.int sd), some (.int z), c, some (.int num)] (S ++ [.lst (ds.map .int)]) =
        .next [some sc, some mn, some (.ref S.length), some (.int sd), some (.int z), k', n'] (S ++ [.lst (ds'.map .int)]) := by
      have hc : evE o (.cmp .ge (.var 6) (.bin .pow (.lit (.int 10)) (.lit (.int 18)))) [some sc, some mn, some (.ref S.length), some (.int sd), some (.int z), c, some (.int num)] (S ++ [.lst (ds.map .int)]) = .ok (.bl true) (S ++ [.lst (ds.map .int)]) := by
        simp only [evE_cmp, evE_var, evE_bin, evE_lit, List.getElem?_cons_zero, List.getElem?_cons_succ, Out.bind_ok, pow18, lift_some, cmpK, cmp_ge, decide_eq_true hp, Option.map_some]
      rw [evS_ifs, hc, Out.toS_ok, ifK_true, evSs_cons, for_rng1 (n := 60) (S1 := S ++ [.lst (ds.map .int)]) rfl (by decide)]
      unfold in60
      rw [e]
      rfl
    rw [evSs_cons, s1, SOut.next_andThen, evSs_cons, s2, SOut.next_andThen, evSs_cons, s3]
    rfl
  · have ha : appK o (.bin .mod (.bin .fdiv (.bi .int [.bin .add (.bin .mul (.var 3) (.lit (.int 16807))) (.lit (.int 5))]) (.lit (.int 3))) (.lit (.int 65521))) [some sc, some mn, some (.ref S.length), some (.int sd), some (.int z), c, some (.int num)] (.ref S.length) (S ++ [.lst (ds.map .int)]) = .ok .non (S ++ [.lst (ds.map .int ++ [.int ((sd * 16807 + 5) / 3 % 65521)])]) :=
      app_end (by simp [m2, hdiv, hmod2]) (by rw [List.length_map]; omega)
    rw [map_snoc] at ha
    refine ⟨ds ++ [(sd * 16807 + 5) / 3 % 65521], sd, some (.int z), c, some (.int num), hd.snoc (Int.emod_nonneg _ (by decide)) (Int.emod_lt_of_pos _ (by decide)), by rw [List.length_append]; simp, ?_⟩
    have s3 : evS o (.ifs (.cmp .ge (.var 6) (.bin .pow (.lit (.int 10)) (.lit (.int 18)))) [.for_ (.nm 5) (.rng [.lit (.int 60)]) in60] [.ex (.app (.var 2) (.bin .mod (.bin .fdiv (.bi .int [.bin .add (.bin .mul (.var 3) (.lit (.int 16807))) (.lit (.int 5))]) (.lit (.int 3))) (.lit (.int 65521))))]) [some sc, some mn, some (.ref S.length), some (.int sd), some (.int z), c, some (.int num)] (S ++ [.lst (ds.map .int)]) =
        .next [some sc, some mn, some (.ref S.length), some (.int sd), some (.int z), c, some (.int num)] (S ++ [.lst ((ds ++ [(sd * 16807 + 5) / 3 % 65521]).map .int)]) := by
      have hc : evE o (.cmp .ge (.var 6) (.bin .pow (.lit (.int 10)) (.lit (.int 18)))) [some sc, some mn, some (.ref S.length), some (.int sd), some (.int z), c, some (.int num)] (S ++ [.lst (ds.map .int)]) = .ok (.bl false) (S ++ [.lst (ds.map .int)]) := by
        simp only [evE_cmp, evE_var, evE_bin, evE_lit, List.getElem?_cons_zero, List.getElem?_cons_succ, Out.bind_ok, pow18, lift_some, cmpK, cmp_ge, decide_eq_false hp, Option.map_some]
      rw [evS_ifs, hc, Out.toS_ok, ifK_false, evSs_cons, evS_ex, evE_app]
      rw [show evE o (.var 2) [some sc, some mn, some (.ref S.length), some (.int sd), some (.int z), c, some (.int num)] (S ++ [.lst (ds.map .int)]) = .ok (.ref S.length) (S ++ [.lst (ds.map .int)]) from rfl, Out.bind_ok, ha]
      rfl
    rw [evSs_cons, s1, SOut.next_andThen, evSs_cons, s2, SOut.next_andThen, evSs_cons, s3]
    rfl
theorem draws_ok (S : Store) (ns : List Int) (many : Nat) (hm : many ≤ 100000) : ∃ ds : List Int, ds.length = many ∧ okD ds ∧ ∃ S', evSs o bDraws [some (.lst (ns.map .int)), some (.int many), none, none, none, none, none] S = .ret (.lst (ds.map .int)) (S ++ S') := by
  have e0 : bDraws = [.asg (.nm 2) (.lst true []), .asg (.nm 3) (.lit (.int 7)), .for_ (.nm 4) (.seq (.sl false true (.var 0) (.lit .non) (.lit (.int 63)))) outB, .for_ (.nm 5) (.rng [.var 1]) manyB, .ret (.sl false true (.var 2) (.lit .non) (.var 1))] := rfl
  have s1 : evS o (.asg (.nm 2) (.lst true [])) [some (.lst (ns.map .int)), some (.int many), none, none, none, none, none] S = .next [some (.lst (ns.map .int)), some (.int many), some (.ref S.length), none, none, none, none] (S ++ [.lst (([] : List Int).map .int)]) := by
    simp [lstK, asgK_nm]
  have s2 : evS o (.asg (.nm 3) (.lit (.int 7))) [some (.lst (ns.map .int)), some (.int many), some (.ref S.length), none, none, none, none] (S ++ [.lst (([] : List Int).map .int)]) = .next [some (.lst (ns.map .int)), some (.int many), some (.ref S.length), some (.int 7), none, none, none] (S ++ [.lst (([] : List Int).map .int)]) := by
    simp [asgK_nm]
  have hit : evIt o (.seq (.sl false true (.var 0) (.lit .non) (.lit (.int 63)))) [some (.lst (ns.map .int)), some (.int many), some (.ref S.length), some (.int 7), none, none, none] (S ++ [.lst (([] : List Int).map .int)]) = .ok ((ns.take 63).map .int, none) (S ++ [.lst (([] : List Int).map .int)]) := by
    have hs : ∀ S, evSl S (.lst (ns.map PV.int)) none (some 63) = some (.lst ((ns.take 63).map .int)) := fun S => by
      show some (PV.lst (cut (ns.map PV.int) none (some 63))) = _
      unfold cut clip
      simp [List.map_take, List.take_take]
    simp [hs]
  have key := forL_run (step := turn o (.nm 4) outB) (fun i ρ S' => ∃ (ds : List Int) (seed : Int) (b c d : Option PV), okD ds ∧ ds.length ≤ 60 * i ∧ ρ = [some (.lst (ns.map .int)), some (.int many), some (.ref S.length), some (.int seed), b, c, d] ∧ S' = S ++ [.lst (ds.map .int)])
    ((ns.take 63).map .int) 0 [some (.lst (ns.map .int)), some (.int many), some (.ref S.length), some (.int 7), none, none, none] (S ++ [.lst (([] : List Int).map .int)]) ⟨[], 7, none, none, none, fun d h => absurd h (by simp), by simp, rfl, rfl⟩ ?_
  · obtain ⟨ρ', S', e, ds, seed, b, c, d, hd, hl, rfl, rfl⟩ := key
    have hz : SZ = 16777216 := rfl
    rw [List.length_map, List.length_take] at hl
    have key2 := forL_run (step := turn o (.nm 5) manyB) (fun i ρ S' => ∃ (ds' : List Int) (seed : Int) (b c d : Option PV), okD ds' ∧ ds'.length ≤ ds.length + i ∧ (i ≤ ds'.length ∨ many ≤ ds'.length) ∧ ρ = [some (.lst (ns.map .int)), some (.int many), some (.ref S.length), some (.int seed), b, c, d] ∧ S' = S ++ [.lst (ds'.map .int)])
      (rngL 0 many) 0 _ (S ++ [.lst (ds.map .int)]) ⟨ds, seed, b, c, d, hd, by omega, by omega, rfl, rfl⟩ ?_
    · obtain ⟨ρ', S', e2, ds', seed', b', c', d', hd', hl', hm', rfl, rfl⟩ := key2
      rw [rngL_length] at hm'
      refine ⟨ds'.take many, by rw [List.length_take]; omega, fun x hx => hd' x (List.mem_of_mem_take hx), [.lst (ds'.map .int)], ?_⟩
      rw [e0, evSs_cons, s1, SOut.next_andThen, evSs_cons, s2, SOut.next_andThen, evSs_cons, evS_for, hit, Out.toS_ok, forK, forW_free rfl, e, SOut.next_andThen, evSs_cons, for_rng1 (n := many) (S1 := S ++ [.lst (ds.map .int)]) rfl (by omega), e2, SOut.next_andThen]
      have hs : evSl (S ++ [.lst (ds'.map .int)]) (.ref S.length) none (some (many : Int)) = some (.lst ((ds'.take many).map .int)) := by
        show (listOf (S ++ [.lst (ds'.map .int)]) (.ref S.length)).map (fun xs => PV.lst (cut xs none (some (many : Int)))) = _
        have : listOf (S ++ [.lst (ds'.map .int)]) (.ref S.length) = some (ds'.map .int) := by
          show (match (S ++ [Cell.lst (ds'.map .int)])[S.length]? with | some (.lst xs) => some xs | _ => none) = _
          rw [show (S ++ [Cell.lst (ds'.map .int)])[S.length]? = some (.lst (ds'.map .int)) from by simp]
        rw [this]
        unfold cut clip
        have h0 : ¬ ((many : Int) < 0) := by omega
        simp [List.map_take, List.take_take, h0]
      simp [hs]
    · rintro i x ρ S' hx ⟨ds1, sd1, b1, c1, d1, hd1, hl1, hm1, rfl, rfl⟩
      obtain ⟨hi, rfl⟩ := rngL_at hx
      rw [turn_nm _ _ _ (by simp)]
      have hlen : evBI (S ++ [.lst (ds1.map .int)]) .len [.ref S.length] = some (.int ds1.length) := by
        rw [len_ref _ (xs := ds1.map .int) (by simp)]
        simp
      have hmod : ∀ S z, evBin S .mod (.int z) (.int 2147483647) = some (.int (z % 2147483647)) := fun S z => mod_int _ (by decide)
      have hmod2 : ∀ S z, evBin S .mod (.int z) (.int 65521) = some (.int (z % 65521)) := fun S z => mod_int _ (by decide)
      have hdiv : ∀ S z, evBin S .fdiv (.int z) (.int 7) = some (.int (z / 7)) := fun S z => fdiv_int _ (by decide)
      have m1 : ∀ S z, evBin S .mul (.int z) (.int 69621) = some (.int (z * 69621)) := fun S z => mulK S z _ (by decide)
      by_cases hp : (ds1.length : Int) < many
      · have ha : appK o (.bin .mod (.bin .fdiv (.bi .int [.var 3]) (.lit (.int 7))) (.lit (.int 65521))) [some (.lst (ns.map .int)), some (.int many), some (.ref S.length), some (.int ((sd1 * 69621 + (i : Int) + 1) % 2147483647)), b1, some (.int i), d1] (.ref S.length) (S ++ [.lst (ds1.map .int)]) = .ok .non (S ++ [.lst (ds1.map .int ++ [.int ((sd1 * 69621 + (i : Int) + 1) % 2147483647 / 7 % 65521)])]) :=
          app_end (by simp [hdiv, hmod2]) (by rw [List.length_map]; omega)
        rw [map_snoc] at ha
        refine ⟨_, S ++ [.lst ((ds1 ++ [(sd1 * 69621 + (i : Int) + 1) % 2147483647 / 7 % 65521]).map .int)], .inl ?_, ds1 ++ [(sd1 * 69621 + (i : Int) + 1) % 2147483647 / 7 % 65521], (sd1 * 69621 + (i : Int) + 1) % 2147483647, b1, some (.int i), d1, hd1.snoc (Int.emod_nonneg _ (by decide)) (Int.emod_lt_of_pos _ (by decide)), by rw [List.length_append]; simp; omega, by rw [List.length_append]; simp; omega, rfl, rfl⟩
        simp [manyB, hlen, cmpK, hp, asgK_nm, m1, hmod, ha]
      · refine ⟨_, S ++ [.lst (ds1.map .int)], .inl ?_, ds1, sd1, b1, some (.int i), d1, hd1, by omega, by omega, rfl, rfl⟩
        simp [manyB, hlen, cmpK, hp]
  · rintro i x ρ S' hx ⟨ds1, sd1, b1, c1, d1, hd1, hl1, rfl, rfl⟩
    have hz : SZ = 16777216 := rfl
    have hi : i < 63 := by
      have := (List.getElem?_eq_some_iff.mp hx).1
      rw [List.length_map, List.length_take] at this
      omega
    rw [List.getElem?_map] at hx
    obtain ⟨z, hz2, rfl⟩ := Option.map_eq_some_iff.mp hx
    obtain ⟨ds', sd', b', c', d', hd', hl', e⟩ := draws_out o S (.lst (ns.map .int)) (.int many) sd1 z b1 c1 d1 ds1 hd1 (by omega)
    exact ⟨_, _, .inl e, ds', sd', b', c', d', hd', by omega, rfl, rfl⟩
theorem frz_ints (S : Store) (n0 : Nat) (ds : List Int) : frz S n0 60 (.lst (ds.map .int)) = some (.lst (ds.map .int)) := by
  have : ∀ l : List Int, frzL (frz S n0 59) (l.map PV.int) = some (l.map .int) := by
    intro l
    induction l with
    | nil => rfl
    | cons x r ih =>
      rw [List.map_cons]
      unfold frzL
      rw [ih]
      rfl
  show (frzL (frz S n0 59) (ds.map PV.int)).map PV.lst = _
  rw [this]
  rfl
/-- what _law_draws comes to -/
theorem draws_fin (S : Store) (ns : List Int) (many : Nat) (hm : many ≤ 100000) : ∃ ds : List Int, ds.length = many ∧ okD ds ∧ fin true S (evSs o bDraws [some (.lst (ns.map .int)), some (.int many), none, none, none, none, none] S) = .ok (.lst (ds.map .int)) S := by
  obtain ⟨ds, h1, h2, S', e⟩ := draws_ok o S ns many hm
  refine ⟨ds, h1, h2, ?_⟩
  rw [e]
  show close true S (.lst (ds.map .int)) (S ++ S') = _
  unfold close
  rw [if_pos rfl, frz_ints]
  simp
end
end MK

set_option linter.all false
set_option autoImplicit false
set_option maxRecDepth 100000
set_option maxHeartbeats 4000000
/-! MkOk: expressions, part by part; the store stays. Plain Lean. -/
namespace MK
section
variable {o : Orc} {ρ : Env} {S : Store}
theorem var_ok {i : Nat} {v : PV} (h : ρ[i]? = some (some v)) : evE o (.var i) ρ S = .ok v S := by rw [evE_var, h]
theorem con_ok (v : PV) : evE o (.lit v) ρ S = .ok v S := rfl
theorem bin_ok {op : BO} {a b : C} {x y z : PV} (ha : evE o a ρ S = .ok x S) (hb : evE o b ρ S = .ok y S) (h : evBin S op x y = some z) : evE o (.bin op a b) ρ S = .ok z S := by
  rw [evE_bin, ha, Out.bind_ok, hb, Out.bind_ok, h, lift_some]
theorem cmp_ok {op : CO} {a b : C} {x y : PV} {z : Bool} (ha : evE o a ρ S = .ok x S) (hb : evE o b ρ S = .ok y S) (h : evCmp S op x y = some z) : evE o (.cmp op a b) ρ S = .ok (.bl z) S := by
  rw [evE_cmp, ha, Out.bind_ok, hb, Out.bind_ok, cmpK, h]; rfl
theorem cmp2b_ok {p q : CO} {a b c : C} {x y z : PV} {b1 b2 : Bool} (ha : evE o a ρ S = .ok x S) (hb : evE o b ρ S = .ok y S) (h1 : evCmp S p x y = some b1) (hc : evE o c ρ S = .ok z S) (h2 : evCmp S q y z = some b2) : evE o (.cmp2 p q a b c) ρ S = .ok (.bl (b1 && b2)) S := by
  rw [evE_cmp2, ha, Out.bind_ok, hb, Out.bind_ok, cmp2_ok o ρ S h1 hc h2]
theorem ix_ok {a b : C} {x y z : PV} (ha : evE o a ρ S = .ok x S) (hb : evE o b ρ S = .ok y S) (h : evIx S x y = some z) : evE o (.ix a b) ρ S = .ok z S := by
  rw [evE_ix, ha, Out.bind_ok, hb, Out.bind_ok, h, lift_some]
theorem es0_ok : evEs o [] ρ S = .ok [] S := rfl
theorem es_ok {c : C} {cs : List C} {v : PV} {vs : List PV} (h : evE o c ρ S = .ok v S) (hs : evEs o cs ρ S = .ok vs S) : evEs o (c :: cs) ρ S = .ok (v :: vs) S := by
  rw [evEs_cons, h, Out.bind_ok, hs, Out.bind_ok]
theorem es1_ok {c : C} {v : PV} (h : evE o c ρ S = .ok v S) : evEs o [c] ρ S = .ok [v] S := es_ok h es0_ok
theorem es2_ok {c d : C} {v w : PV} (h : evE o c ρ S = .ok v S) (h2 : evE o d ρ S = .ok w S) : evEs o [c, d] ρ S = .ok [v, w] S := es_ok h (es1_ok h2)
theorem bi_ok {b : BI} {es : List C} {vs : List PV} {z : PV} (h : evEs o es ρ S = .ok vs S) (hb : evBI S b vs = some z) : evE o (.bi b es) ρ S = .ok z S := by
  rw [evE_bi, h, Out.bind_ok, hb, lift_some]
theorem bi1_ok {b : BI} {e : C} {v z : PV} (h : evE o e ρ S = .ok v S) (hb : evBI S b [v] = some z) : evE o (.bi b [e]) ρ S = .ok z S := bi_ok (es1_ok h) hb
theorem bm_ok {m : BM} {r : C} {es : List C} {s : List Nat} {vs : List PV} {z : PV} (hr : evE o r ρ S = .ok (.str s) S) (h : evEs o es ρ S = .ok vs S) (hb : evBM S m (.str s) vs = some z) : evE o (.bm m r es) ρ S = .ok z S := by
  rw [evE_bm, hr, Out.bind_ok, bmK_str, h, Out.bind_ok, hb, lift_some]
theorem call_ok {f : Nat} {es : List C} {vs : List PV} {r : Out PV} (h : evEs o es ρ S = .ok vs S) (hc : o.call f vs S = r) : evE o (.call f es) ρ S = r := by
  rw [evE_call, h, Out.bind_ok, hc]
theorem sl_to_ok {a h : C} {x z : PV} {k : Int} (ha : evE o a ρ S = .ok x S) (hh : evE o h ρ S = .ok (.int k) S) (hs : evSl S x none (some k) = some z) : evE o (.sl false true a (.lit .non) h) ρ S = .ok z S := by
  simp only [evE_sl, ha, hh, Out.bind_ok, Bool.false_eq_true, if_false, if_true, partI_int, hs, lift_some]
theorem sl_from_ok {a l : C} {x z : PV} {k : Int} (ha : evE o a ρ S = .ok x S) (hh : evE o l ρ S = .ok (.int k) S) (hs : evSl S x (some k) none = some z) : evE o (.sl true false a l (.lit .non)) ρ S = .ok z S := by
  simp only [evE_sl, ha, hh, Out.bind_ok, Bool.false_eq_true, if_false, if_true, partI_int, hs, lift_some]
theorem sl_mid_ok {a l h : C} {x z : PV} {j k : Int} (ha : evE o a ρ S = .ok x S) (hl : evE o l ρ S = .ok (.int j) S) (hh : evE o h ρ S = .ok (.int k) S) (hs : evSl S x (some j) (some k) = some z) : evE o (.sl true true a l h) ρ S = .ok z S := by
  simp only [evE_sl, ha, hl, hh, Out.bind_ok, if_true, partI_int, hs, lift_some]
theorem ite_ok {t a b : C} {c : Bool} {r : Out PV} (ht : evE o t ρ S = .ok (.bl c) S) (h1 : c = true → evE o a ρ S = r) (h2 : c = false → evE o b ρ S = r) : evE o (.ite t a b) ρ S = r := by
  rw [evE_ite, ht, Out.bind_ok]
  cases c with
  | true => rw [iteK_true, h1 rfl]
  | false => rw [iteK_false, h2 rfl]
theorem or2_ok {a b : C} {x y : Bool} (ha : evE o a ρ S = .ok (.bl x) S) (hb : x = false → evE o b ρ S = .ok (.bl y) S) : evE o (.or [a, b]) ρ S = .ok (.bl (x || y)) S := by
  rw [evE_or, evOr_cons, ha, Out.bind_ok]
  exact or_ok fun h => by rw [evOr_one]; exact hb h
theorem and2_ok {a b : C} {x y : Bool} (ha : evE o a ρ S = .ok (.bl x) S) (hb : x = true → evE o b ρ S = .ok (.bl y) S) : evE o (.and [a, b]) ρ S = .ok (.bl (x && y)) S := by
  rw [evE_and, evAnd_cons, ha, Out.bind_ok]
  exact and_ok fun h => by rw [evAnd_one]; exact hb h
theorem lst1_ok {e : C} {v : PV} (h : evE o e ρ S = .ok v S) : evE o (.lst false [e]) ρ S = .ok (.lst [v]) S := by
  rw [evE_lst, es1_ok h, Out.bind_ok]; rfl
/-! statements -/
theorem asg_ok {e : C} {i : Nat} {v : PV} (he : evE o e ρ S = .ok v S) (hi : i < ρ.length) : evS o (.asg (.nm i) e) ρ S = .next (ρ.set i (some v)) S := by
  rw [evS_asg, he, Out.toS_ok, asgK_nm _ hi]
theorem asg2_ok {e : C} {i j : Nat} {v w : PV} (he : evE o e ρ S = .ok (.tup [v, w]) S) (hi : i < ρ.length) (hj : j < ρ.length) : evS o (.asg (.tp [.nm i, .nm j]) e) ρ S = .next ((ρ.set i (some v)).set j (some w)) S := by
  rw [evS_asg, he, Out.toS_ok, asgK_tp2 _ hi hj]
theorem ifs_no {c : C} {a : List MK.S} (h : evE o c ρ S = .ok (.bl false) S) : evS o (.ifs c a []) ρ S = .next ρ S := by
  rw [evS_ifs, h, Out.toS_ok, ifK_false, evSs_nil]
theorem seq_ok {s : MK.S} {ss : List MK.S} {ρ' : Env} {S' : Store} {r : SOut} (h : evS o s ρ S = .next ρ' S') (hs : evSs o ss ρ' S' = r) : evSs o (s :: ss) ρ S = r := by
  rw [evSs_cons, h, SOut.next_andThen, hs]
theorem last_ok {s : MK.S} {r : SOut} (h : evS o s ρ S = r) : evSs o [s] ρ S = r := by
  rw [evSs_cons, h]
  cases r <;> rfl
end
/-- a for over a range, with an invariant on the names; the store stays -/
theorem for_inv {o : Orc} {e : C} {ρ : Env} {S : Store} {n i : Nat} {b : List MK.S} (Inv : Nat → Env → Prop) (he : evE o e ρ S = .ok (.int (n : Int)) S) (hn : n < 1000000000) (h0 : Inv 0 ρ)
    (hi : ∀ k ρ, k < n → Inv k ρ → i < ρ.length ∧ ∃ ρ', evSs o b (ρ.set i (some (.int (k : Int)))) S = .next ρ' S ∧ Inv (k + 1) ρ') : ∃ ρ', evS o (.for_ (.nm i) (.rng [e]) b) ρ S = .next ρ' S ∧ Inv n ρ' := by
  have key := forL_run (step := turn o (.nm i) b) (fun k ρ S' => S' = S ∧ Inv k ρ) (rngL 0 n) 0 ρ S ⟨rfl, h0⟩ ?_
  · obtain ⟨ρ', S', e1, rfl, h⟩ := key
    rw [rngL_length, Nat.zero_add] at h
    exact ⟨ρ', by rw [for_rng1 he hn, e1], h⟩
  · rintro k x ρ S' hx ⟨rfl, h⟩
    obtain ⟨hk, rfl⟩ := rngL_at hx
    rw [Nat.zero_add] at h ⊢
    obtain ⟨hl, ρ', e1, h'⟩ := hi k ρ hk h
    rw [Int.zero_add]
    exact ⟨ρ', S', .inl (by rw [turn_nm _ _ _ hl, e1]), rfl, h'⟩
theorem for_inv2 {o : Orc} {d e : C} {ρ : Env} {S : Store} {m n i : Nat} {b : List MK.S} (Inv : Nat → Env → Prop) (hd : evE o d ρ S = .ok (.int (m : Int)) S) (he : evE o e ρ S = .ok (.int (n : Int)) S) (hm : m < 1000000000) (hn : n < 1000000000) (h0 : Inv m ρ)
    (hi : ∀ k ρ, m ≤ k → k < n → Inv k ρ → i < ρ.length ∧ ∃ ρ', evSs o b (ρ.set i (some (.int (k : Int)))) S = .next ρ' S ∧ Inv (k + 1) ρ') : ∃ ρ', evS o (.for_ (.nm i) (.rng [d, e]) b) ρ S = .next ρ' S ∧ Inv (m + (n - m)) ρ' := by
  have key := forL_run (step := turn o (.nm i) b) (fun k ρ S' => S' = S ∧ Inv (m + k) ρ) (rngL m (n - m)) 0 ρ S ⟨rfl, h0⟩ ?_
  · obtain ⟨ρ', S', e1, rfl, h⟩ := key
    rw [rngL_length, Nat.zero_add] at h
    exact ⟨ρ', by rw [for_rng2 hd he hm hn, e1], h⟩
  · rintro k x ρ S' hx ⟨rfl, h⟩
    obtain ⟨hk, rfl⟩ := rngL_at hx
    rw [Nat.zero_add] at h ⊢
    obtain ⟨hl, ρ', e1, h'⟩ := hi (m + k) ρ (by omega) (by omega) h
    rw [show ((m : Int) + (k : Int)) = ((m + k : Nat) : Int) from by push_cast; rfl]
    exact ⟨ρ', S', .inl (by rw [turn_nm _ _ _ hl, e1]), rfl, h'⟩
/-! values that are the same -/
mutual
theorem eqv_refl : ∀ (v : PV) (n : Nat), v.plain n = true → PV.eqv v v = true
  | .non, _, _ => rfl
  | .bl a, _, _ => by simp [PV.eqv]
  | .int a, _, _ => by simp [PV.eqv]
  | .str a, _, _ => by simp [PV.eqv]
  | .tup xs, 0, h => by simp [PV.plain] at h
  | .lst xs, 0, h => by simp [PV.plain] at h
  | .tup xs, n + 1, h => by
    unfold PV.eqv
    exact eqvAll_refl xs n (by simpa [PV.plain] using h)
  | .lst xs, n + 1, h => by
    unfold PV.eqv
    exact eqvAll_refl xs n (by simpa [PV.plain] using h)
  | .ref _, n, h => by cases n <;> simp [PV.plain] at h
  | .ty _, n, h => by cases n <;> simp [PV.plain] at h
theorem eqvAll_refl : ∀ (v : List PV) (n : Nat), PV.plainAll n v = true → PV.eqvAll v v = true
  | [], _, _ => rfl
  | x :: xs, n, h => by
    unfold PV.plainAll at h
    rw [Bool.and_eq_true] at h
    unfold PV.eqvAll
    rw [eqv_refl x n h.1, eqvAll_refl xs n h.2]
    rfl
end
theorem cmp_ne_same {S : Store} {v : PV} (h : v.plain DEEP = true) : evCmp S .ne v v = some false := by
  show (if v.plain DEEP && v.plain DEEP then some (!PV.eqv v v) else none) = _
  rw [h, eqv_refl v DEEP h]
  rfl
theorem cmp_eq_same {S : Store} {v : PV} (h : v.plain DEEP = true) : evCmp S .eq v v = some true := by
  show (if v.plain DEEP && v.plain DEEP then some (PV.eqv v v) else none) = _
  rw [h, eqv_refl v DEEP h]
  rfl
theorem plain_strs (n : Nat) : ∀ l : List (List Nat), PV.plainAll n (l.map .str) = true
  | [] => by simp [PV.plainAll]
  | x :: r => by
    rw [List.map_cons]
    unfold PV.plainAll
    rw [plain_strs n r]
    cases n <;> rfl
theorem plain_ints (n : Nat) : ∀ l : List Int, PV.plainAll n (l.map .int) = true
  | [] => by simp [PV.plainAll]
  | x :: r => by
    rw [List.map_cons]
    unfold PV.plainAll
    rw [plain_ints n r]
    cases n <;> rfl
end MK

set_option linter.all false
set_option autoImplicit false
set_option maxRecDepth 100000
set_option maxHeartbeats 4000000
/-! MkOk2: more of the same: numbers of nature, draws, loops over lists. -/
namespace MK.N
open MK
section
variable {ρ : Env} {S : Store} {o : Orc}
theorem add_nat (S : Store) (a b : Nat) : evBin S .add (.int (a : Int)) (.int (b : Int)) = some (.int ((a + b : Nat) : Int)) := rfl
theorem add_one (S : Store) (a : Nat) : evBin S .add (.int (a : Int)) (.int 1) = some (.int ((a + 1 : Nat) : Int)) := rfl
theorem mod_nat (S : Store) (a b : Nat) (h : 0 < b) : evBin S .mod (.int (a : Int)) (.int (b : Int)) = some (.int ((a % b : Nat) : Int)) := by
  rw [mod_int _ (by omega)]; rfl
theorem fdiv_nat (S : Store) (a b : Nat) (h : 0 < b ∧ b < 1073741824) : evBin S .fdiv (.int (a : Int)) (.int (b : Int)) = some (.int ((a / b : Nat) : Int)) := by
  rw [fdiv_int _ (by omega)]; rfl
theorem mul_nat (S : Store) (a b : Nat) (h : a < 1000) : evBin S .mul (.int (a : Int)) (.int (b : Int)) = some (.int ((a * b : Nat) : Int)) := by
  rw [mul_int _ (by unfold mulOk; simp; omega)]
  congr 2
theorem l_nat (o : Orc) (n : Nat) (z : Int) (h : z = (n : Int)) : evE o (.lit (.int z)) ρ S = .ok (.int (n : Int)) S := by rw [h]; rfl
theorem min_nat (S : Store) (i j : Nat) : evBI S .min2 [.int (i : Int), .int (j : Int)] = some (.int ((min i j : Nat) : Int)) := by rw [min_int]; congr 2; omega
theorem max_nat (S : Store) (i j : Nat) : evBI S .max2 [.int (i : Int), .int (j : Int)] = some (.int ((max i j : Nat) : Int)) := by rw [max_int]; congr 2; omega
theorem set_cut {α : Type} (l : List α) (p : Nat) (c : α) (h : p < l.length) : l.set p c = l.take p ++ [c] ++ l.drop (p + 1) := by
  rw [List.set_eq_take_append_cons_drop, if_pos h, List.append_assoc]
  rfl
theorem set_cut2 {α : Type} (l : List α) (i j : Nat) (x y : α) (hij : i < j) (hj : j < l.length) : (l.set i y).set j x = l.take i ++ [y] ++ (l.take j).drop (i + 1) ++ [x] ++ l.drop (j + 1) := by
  rw [set_cut _ _ _ (by rw [List.length_set]; exact hj), List.take_set, set_cut _ _ _ (by rw [List.length_take]; omega), List.take_take, Nat.min_eq_left (by omega), List.drop_set_of_lt (by omega)]
/-- a draw: a number of nature -/
theorem draw_at {o : Orc} {e : C} {k i m : Nat} {ds : List Int} (h1 : ρ[i]? = some (some (.lst (ds.map .int)))) (hd : okD ds) (hl : ds.length = m) (he : evE o e ρ S = .ok (.int (k : Int)) S) (hk : k < m) : ∃ d : Nat, evE o (.bi .int [.ix (.var i) e]) ρ S = .ok (.int (d : Int)) S := by
  have hk2 : k < ds.length := by omega
  have h0 := (hd ds[k] (List.getElem_mem hk2)).1
  refine ⟨ds[k].toNat, ?_⟩
  rw [Int.toNat_of_nonneg h0]
  refine bi1_ok (ix_ok (var_ok h1) he (z := .int ds[k]) (ixs_lst ?_)) (int_int _ _)
  rw [List.getElem?_map, List.getElem?_eq_getElem hk2]
  rfl
/-- e % m, of a number of nature -/
theorem mod_ok {e : C} {x m : Nat} {z : Int} (hz : z = (m : Int)) (h : evE o e ρ S = .ok (.int (x : Int)) S) (hm : 0 < m) : ∃ k : Nat, k < m ∧ evE o (.bin .mod e (.lit (.int z))) ρ S = .ok (.int (k : Int)) S :=
  ⟨x % m, Nat.mod_lt _ hm, bin_ok h (l_nat o m z hz) (mod_nat S x m hm)⟩
theorem modE_ok {e f : C} {x m : Nat} (h : evE o e ρ S = .ok (.int (x : Int)) S) (hf : evE o f ρ S = .ok (.int (m : Int)) S) (hm : 0 < m) : ∃ k : Nat, k < m ∧ evE o (.bin .mod e f) ρ S = .ok (.int (k : Int)) S :=
  ⟨x % m, Nat.mod_lt _ hm, bin_ok h hf (mod_nat S x m hm)⟩
end
/-- a for over a list's items, with an invariant on the names; the store stays -/
theorem for_seq_inv {o : Orc} {e : C} {ρ : Env} {S : Store} {i : Nat} {xs : List PV} {b : List MK.S} (Inv : Nat → Env → Prop) (he : evE o e ρ S = .ok (.lst xs) S) (h0 : Inv 0 ρ)
    (hi : ∀ k x ρ, xs[k]? = some x → Inv k ρ → i < ρ.length ∧ ∃ ρ', evSs o b (ρ.set i (some x)) S = .next ρ' S ∧ Inv (k + 1) ρ') : ∃ ρ', evS o (.for_ (.nm i) (.seq e) b) ρ S = .next ρ' S ∧ Inv xs.length ρ' := by
  have key := forL_run (step := turn o (.nm i) b) (fun k ρ S' => S' = S ∧ Inv k ρ) xs 0 ρ S ⟨rfl, h0⟩ ?_
  · obtain ⟨ρ', S', e1, rfl, h⟩ := key
    rw [Nat.zero_add] at h
    refine ⟨ρ', ?_, h⟩
    rw [evS_for, evIt_seq, he, Out.bind_ok, walk_lst, lift_some, Out.toS_ok, forK, forW_free rfl, e1]
  · rintro k x ρ S' hx ⟨rfl, h⟩
    rw [Nat.zero_add] at h ⊢
    obtain ⟨hl, ρ', e1, h'⟩ := hi k x ρ hx h
    exact ⟨ρ', S', .inl (by rw [turn_nm _ _ _ hl, e1]), rfl, h'⟩
end MK.N
namespace MK.N
open MK
theorem ifs_yes {o : Orc} {ρ : Env} {S : Store} {c : C} {a b : List MK.S} {r : SOut} (h : evE o c ρ S = .ok (.bl true) S) (hr : evSs o a ρ S = r) : evS o (.ifs c a b) ρ S = r := by
  rw [evS_ifs, h, Out.toS_ok, ifK_true, hr]
theorem lst_ok {o : Orc} {es : List C} {ρ : Env} {S : Store} {vs : List PV} (h : evEs o es ρ S = .ok vs S) (hl : vs.length ≤ SZ) : evE o (.lst false es) ρ S = .ok (.lst vs) S := by
  rw [evE_lst, h, Out.bind_ok]
  unfold lstK
  rw [if_pos hl, if_neg (by decide)]
/-- a comprehension over a list: item by item -/
theorem lc_ok {o : Orc} {ρ : Env} {S : Store} {i : Nat} {e elt : C} {α : Type} {l : List α} (g h : α → PV) (he : evE o e ρ S = .ok (.lst (l.map g)) S) (hl : l.length ≤ SZ) (hi : i < ρ.length)
    (hb : ∀ a ∈ l, evE o elt (ρ.set i (some (g a))) S = .ok (h a) S) : evE o (.lc false [i] (.nm i) (.seq e) [] elt) ρ S = .ok (.lst (l.map h)) S := by
  rw [evE_lc, evIt_seq, he, Out.bind_ok, walk_lst, lift_some, Out.bind_ok]
  unfold lcK
  rw [compL_map g h S l [] fun a ha => ?_]
  · rw [Out.bind_ok, lcE, if_pos (by rw [List.length_map]; exact hl), if_neg (by decide), List.nil_append]
  · refine cturn_ok (ρ' := ρ.set i (some (g a))) ?_ (hb a ha) rfl
    show (if i < (ρ.set i none).length then some ((ρ.set i none).set i (some (g a))) else none) = _
    rw [if_pos (by rw [List.length_set]; exact hi), List.set_set]
end MK.N

set_option linter.all false
set_option autoImplicit false
set_option Elab.async false
set_option maxRecDepth 100000
/-! MkRel: how the evaluator's values and store lie in the abstract heap. -/
namespace MK
open PySem PySem.Spec PyProof.Rows L2

theorem SZ_eq : SZ = sizeLine := by rw [sizeLine_eq]; rfl
def strV (s : List Nat) : Str := ⟨s.toArray⟩
@[simp] theorem strV_length (s : List Nat) : (strV s).length = s.length := by show (s.toArray).size = _; simp
@[simp] theorem strV_cps (s : List Nat) : (strV s).cps.toList = s := by show (s.toArray).toList = _; simp
theorem strV_inj {s t : List Nat} (h : strV s = strV t) : s = t := by
  have := congrArg (fun z : Str => z.cps.toList) h
  simpa using this
theorem strV_of (z : Str) : strV z.cps.toList = z := by
  obtain ⟨c⟩ := z
  show (⟨c.toList.toArray⟩ : Str) = ⟨c⟩
  simp

/-- a text of the evaluator: not too long, its signs are signs -/
def okS (s : List Nat) : Prop := s.length ≤ SZ ∧ ∀ c ∈ s, c < 1114112
theorem okS.append {s t : List Nat} (a : okS s) (b : okS t) (h : s.length + t.length ≤ SZ) : okS (s ++ t) :=
  ⟨by rw [List.length_append]; exact h, fun c hc => (List.mem_append.mp hc).elim (a.2 c) (b.2 c)⟩
theorem okS.sub {s t : List Nat} (a : okS s) (hl : t.length ≤ s.length) (h : ∀ c ∈ t, c ∈ s) : okS t := ⟨Nat.le_trans hl a.1, fun c hc => a.2 c (h c hc)⟩
theorem okS.cut {s : List Nat} (a : okS s) (lo hi : Option Int) : okS (cut s lo hi) :=
  a.sub (by unfold MK.cut; rw [List.length_take, List.length_drop]; omega) fun c hc => List.mem_of_mem_drop (List.mem_of_mem_take hc)
theorem okS.one {s : List Nat} {c : Nat} (a : okS s) (h : c ∈ s) : okS [c] := ⟨by show 1 ≤ SZ; decide, fun d hd => by rw [List.mem_singleton.mp hd]; exact a.2 c h⟩

/-- a list of the written part -/
def KL (K : PySem.W.Frag) (a : Addr) (xs : List V) : Prop :=
  ∃ (o : Obj) (its : Array Value) (n : Nat), K.lookup a = some o ∧ o.cls = .type "list" ∧ o.dict = none ∧ o.data = .seq its n ∧ its.size ≤ sizeLine ∧ Vals xs its.toList
def KT (K : PySem.W.Frag) (a : Addr) (xs : List V) : Prop :=
  ∃ (o : Obj) (its : Array Value) (n : Nat), K.lookup a = some o ∧ o.cls = .type "tuple" ∧ o.data = .seq its n ∧ its.size ≤ sizeLine ∧ Vals xs its.toList

/-- where the places are, and what may be changed (these and lists that are being made) -/
structure Mp where
  at_ : Nat → Addr
  Z : Addr → Prop

section
variable (K : PySem.W.Frag) (m : Mp) (n : Nat) (H : Hp)
def LstR (a : Addr) (vs : List V) : Prop := (Rd H a (.lst vs) ∧ ¬ m.Z a) ∨ KL K a vs
mutual
/-- a value lies in the heap; the places below n are at m -/
inductive VR : PV → V → Prop
  | non : VR .non .non
  | bl (b : Bool) : VR (.bl b) (.bl b)
  | int (i : Int) : VR (.int i) (.int i)
  | str (s : List Nat) (h : okS s) : VR (.str s) (.str (strV s))
  | tup {a : Addr} {vs : List V} {xs : List PV} : SqT K H a vs → VRs xs vs → VR (.tup xs) (.ref a)
  | lst {a : Addr} {vs : List V} {xs : List PV} : LstR K m H a vs → VRs xs vs → VR (.lst xs) (.ref a)
  | ref {k : Nat} : k < n → VR (.ref k) (.ref (m.at_ k))
  | ty (t : String) : VR (.ty t) (.ty t)
inductive VRs : List PV → List V → Prop
  | nil : VRs [] []
  | cons {x : PV} {v : V} {xs : List PV} {vs : List V} : VR x v → VRs xs vs → VRs (x :: xs) (v :: vs)
end
def CellR (a : Addr) : Cell → Prop
  | .lst xs => ∃ vs, H a = some (.lst vs) ∧ VRs K m n H xs vs
  | .ins _ _ => False
end

structure StoreR (K : PySem.W.Frag) (S : Store) (m : Mp) (H : Hp) : Prop where
  inj : ∀ j k, j < S.length → k < S.length → m.at_ j = m.at_ k → j = k
  cell : ∀ k c, S[k]? = some c → CellR K m S.length H (m.at_ k) c
  inZ : ∀ k, k < S.length → m.Z (m.at_ k)
  kind : ∀ a, m.Z a → ∃ vs, H a = some (.lst vs)

/-- the heap goes on: the places stay, what is no place stays as it is, new places are none of these -/
structure Ext (m : Mp) (n : Nat) (H : Hp) (m' : Mp) (n' : Nat) (H' : Hp) : Prop where
  z0 : ∀ k, k < n → m.Z (m.at_ k)
  le : n ≤ n'
  emb : ∀ k, k < n → m'.at_ k = m.at_ k
  keep : ∀ a o, H a = some o → (∀ k, k < n → m.at_ k ≠ a) → H' a = some o
  sub : ∀ a, m.Z a → m'.Z a
  fresh : ∀ a, m'.Z a → ¬ m.Z a → H a = none
  new : ∀ k, n ≤ k → k < n' → ¬ m.Z (m'.at_ k) ∧ H (m'.at_ k) = none

section
variable {K : PySem.W.Frag} {m m' m1 m2 : Mp} {n n' n1 n2 : Nat} {H H' H1 H2 : Hp} {S S' S1 S2 : Store} {a : Addr} {vs : List V}
theorem Ext.self (z : ∀ k, k < n → m.Z (m.at_ k)) : Ext m n H m n H := ⟨z, Nat.le_refl _, fun _ _ => rfl, fun _ _ h _ => h, fun _ h => h, fun _ h k => absurd h k, fun k h1 h2 => absurd (Nat.lt_of_lt_of_le h2 h1) (Nat.lt_irrefl _)⟩
theorem Ext.refl (st : StoreR K S m H) : Ext m S.length H m S.length H := .self st.inZ
theorem Ext.trans (a : Ext m n H m1 n1 H1) (b : Ext m1 n1 H1 m2 n2 H2) : Ext m n H m2 n2 H2 where
  z0 := a.z0
  le := Nat.le_trans a.le b.le
  emb := fun k h => (b.emb k (Nat.lt_of_lt_of_le h a.le)).trans (a.emb k h)
  keep := fun c o h hk => by
    refine b.keep c o (a.keep c o h hk) fun k hk1 e => ?_
    by_cases q : k < n
    · rw [a.emb k q] at e; exact hk k q e
    · have := (a.new k (Nat.le_of_not_lt q) hk1).2
      rw [e, h] at this; cases this
  sub := fun c h => b.sub c (a.sub c h)
  fresh := fun c h2 h0 => by
    by_cases q : m1.Z c
    · exact a.fresh c q h0
    · have h1 := b.fresh c h2 q
      cases e : H c with
      | none => rfl
      | some o =>
        have := a.keep c o e fun k hk e' => h0 (by rw [← e']; exact a.z0 k hk)
        rw [h1] at this; cases this
  new := fun k h1 h2 => by
    by_cases q : k < n1
    · rw [b.emb k q]; exact a.new k h1 q
    · obtain ⟨b1, b2⟩ := b.new k (Nat.le_of_not_lt q) h2
      have b3 : ¬ m.Z (m2.at_ k) := fun h => b1 (a.sub _ h)
      refine ⟨b3, ?_⟩
      cases e : H (m2.at_ k) with
      | none => rfl
      | some o =>
        have := a.keep _ o e fun k' hk e' => b3 (by rw [← e']; exact a.z0 k' hk)
        rw [b2] at this; cases this

/-- what is no list is at no place -/
theorem StoreR.off (st : StoreR K S m H) {o : HO} (h : H a = some o) (ho : ∀ vs, o ≠ .lst vs) : ¬ m.Z a := fun z => by
  obtain ⟨vs, q⟩ := st.kind a z
  rw [h] at q
  exact ho vs (Option.some.inj q)
theorem StoreR.at (st : StoreR K S m H) {k : Nat} (hk : k < S.length) : CellR K m S.length H (m.at_ k) S[k] := st.cell k _ (List.getElem?_eq_getElem hk)
theorem Ext.keepZ (ex : Ext m n H m' n' H') {o : HO} (h : H a = some o) (z : ¬ m.Z a) : H' a = some o := ex.keep a o h fun k hk e => z (by rw [← e]; exact ex.z0 k hk)
theorem Ext.offZ (ex : Ext m n H m' n' H') {o : HO} (h : H a = some o) (z : ¬ m.Z a) : ¬ m'.Z a := fun q => by
  have := ex.fresh a q z
  rw [h] at this; cases this

theorem SqT.on (st : StoreR K S m H) (ex : Ext m S.length H m' n' H') (h : SqT K H a vs) : SqT K H' a vs := by
  rcases h with (h | ⟨o, h⟩) | h
  · exact .inl (.inl (ex.keepZ h (st.off h fun vs q => by cases q)))
  · exact .inl (.inr ⟨o, ex.keepZ h (st.off h fun vs q => by cases q)⟩)
  · exact .inr h
theorem LstR.on (ex : Ext m n H m' n' H') (h : LstR K m H a vs) : LstR K m' H' a vs := by
  rcases h with ⟨h | ⟨o, h⟩, k⟩ | h
  · exact .inl ⟨.inl (ex.keepZ h k), ex.offZ h k⟩
  · exact .inl ⟨.inr ⟨o, ex.keepZ h k⟩, ex.offZ h k⟩
  · exact .inr h
theorem LstR.sq (h : LstR K m H a vs) : SqL K H a vs := by
  rcases h with ⟨h, _⟩ | h
  · exact .inl h
  · exact .inr h
mutual
theorem VR.on (st : StoreR K S m H) (ex : Ext m S.length H m' n' H') : ∀ {x : PV} {v : V}, VR K m S.length H x v → VR K m' n' H' x v
  | _, _, .non => .non
  | _, _, .bl b => .bl b
  | _, _, .int i => .int i
  | _, _, .str s h => .str s h
  | _, _, .tup h r => .tup (SqT.on st ex h) (VRs.on st ex r)
  | _, _, .lst h r => .lst (LstR.on ex h) (VRs.on st ex r)
  | _, _, .ref (k := k) h => by
    rw [← ex.emb k h]
    exact .ref (Nat.lt_of_lt_of_le h ex.le)
  | _, _, .ty t => .ty t
theorem VRs.on (st : StoreR K S m H) (ex : Ext m S.length H m' n' H') : ∀ {x : List PV} {v : List V}, VRs K m S.length H x v → VRs K m' n' H' x v
  | _, _, .nil => .nil
  | _, _, .cons r t => .cons (VR.on st ex r) (VRs.on st ex t)
end
theorem VRs.length : ∀ {x : List PV} {v : List V}, VRs K m n H x v → x.length = v.length
  | _, _, .nil => rfl
  | _, _, .cons _ t => by rw [List.length_cons, List.length_cons, VRs.length t]
theorem VRs.get : ∀ {xs : List PV} {vs : List V} {i : Nat} {x : PV}, VRs K m n H xs vs → xs[i]? = some x → ∃ v, vs[i]? = some v ∧ VR K m n H x v
  | _, _, _, _, .nil, e => by simp at e
  | _, _, 0, _, .cons r _, e => by simp at e; subst e; exact ⟨_, rfl, r⟩
  | _, _, i + 1, x, .cons _ t, e => by
    obtain ⟨v, h1, h2⟩ := VRs.get (i := i) (x := x) t (by simpa using e)
    exact ⟨v, by simpa using h1, h2⟩
theorem VRs.append : ∀ {xs ys : List PV} {vs ws : List V}, VRs K m n H xs vs → VRs K m n H ys ws → VRs K m n H (xs ++ ys) (vs ++ ws)
  | _, _, _, _, .nil, s => s
  | _, _, _, _, .cons r t, s => .cons r (VRs.append t s)
theorem VRs.take : ∀ {xs : List PV} {vs : List V} (k : Nat), VRs K m n H xs vs → VRs K m n H (xs.take k) (vs.take k)
  | _, _, 0, _ => by simp; exact .nil
  | _, _, _ + 1, .nil => .nil
  | _, _, k + 1, .cons r t => .cons r (VRs.take k t)
theorem VRs.drop : ∀ {xs : List PV} {vs : List V} (k : Nat), VRs K m n H xs vs → VRs K m n H (xs.drop k) (vs.drop k)
  | _, _, 0, r => r
  | _, _, _ + 1, .nil => .nil
  | _, _, k + 1, .cons _ t => VRs.drop k t

/-! ### a new object, a place written -/
theorem StoreR.some (st : StoreR K S m H) : ∀ k, k < S.length → ∃ u, H (m.at_ k) = some u := fun k hk => let ⟨vs, h⟩ := st.kind _ (st.inZ k hk); ⟨_, h⟩
theorem Ext.push {p : Addr} {o : HO} (st : StoreR K S m H) (hp : H p = none) : Ext m S.length H m S.length (upd H p o) where
  z0 := st.inZ
  le := Nat.le_refl _
  emb := fun _ _ => rfl
  keep := fun a u h _ => by rw [upd_ne (ne_of_none h hp)]; exact h
  sub := fun _ h => h
  fresh := fun _ h k => absurd h k
  new := fun k h1 h2 => absurd (Nat.lt_of_lt_of_le h2 h1) (Nat.lt_irrefl _)
theorem CellR.on (st : StoreR K S m H) (ex : Ext m S.length H m' n' H') {c : Cell} (ha : H' a = H a) (h : CellR K m S.length H a c) : CellR K m' n' H' a c := by
  cases c with
  | lst xs => obtain ⟨vs, e, r⟩ := h; exact ⟨vs, ha.trans e, VRs.on st ex r⟩
  | ins c fs => exact h.elim
theorem StoreR.push {p : Addr} {o : HO} (st : StoreR K S m H) (hp : H p = none) : StoreR K S m (upd H p o) where
  inj := st.inj
  cell := fun k c h => by
    have hk : k < S.length := (List.getElem?_eq_some_iff.mp h).1
    obtain ⟨u, hu⟩ := st.some k hk
    exact CellR.on st (Ext.push st hp) (upd_ne (ne_of_none hu hp)) (st.cell k c h)
  inZ := st.inZ
  kind := fun a z => let ⟨vs, h⟩ := st.kind a z; ⟨vs, by rw [upd_ne (ne_of_none h hp)]; exact h⟩
/-- a new place -/
def ext1 (m : Mp) (n : Nat) (p : Addr) : Mp := ⟨fun k => if k = n then p else m.at_ k, fun a => a = p ∨ m.Z a⟩
theorem ext1_same {m : Mp} {n : Nat} {p : Addr} : (ext1 m n p).at_ n = p := if_pos rfl
theorem ext1_ne {m : Mp} {n k : Nat} {p : Addr} (h : k ≠ n) : (ext1 m n p).at_ k = m.at_ k := if_neg h
theorem StoreR.noneZ (st : StoreR K S m H) {p : Addr} (hp : H p = none) : ¬ m.Z p := fun z => by
  obtain ⟨vs, h⟩ := st.kind p z
  rw [hp] at h; cases h
theorem Ext.place {p : Addr} {o : HO} (st : StoreR K S m H) (hp : H p = none) : Ext m S.length H (ext1 m S.length p) (S.length + 1) (upd H p o) where
  z0 := st.inZ
  le := Nat.le_succ _
  emb := fun k h => ext1_ne (Nat.ne_of_lt h)
  keep := fun a u h _ => by rw [upd_ne (ne_of_none h hp)]; exact h
  sub := fun _ h => .inr h
  fresh := fun a h k => by
    rcases h with rfl | h
    · exact hp
    · exact absurd h k
  new := fun k h1 h2 => by
    have e : k = S.length := by omega
    subst e
    rw [ext1_same]
    exact ⟨st.noneZ hp, hp⟩
theorem StoreR.place {p : Addr} {xs : List PV} (st : StoreR K S m H) (hp : H p = none) (r : VRs K m S.length H xs vs) : StoreR K (S ++ [.lst xs]) (ext1 m S.length p) (upd H p (.lst vs)) := by
  have ex : Ext m S.length H (ext1 m S.length p) (S.length + 1) (upd H p (.lst vs)) := Ext.place st hp
  have hl : (S ++ [Cell.lst xs]).length = S.length + 1 := by simp
  have np : ∀ k, k < S.length → m.at_ k ≠ p := fun k hk e => by
    obtain ⟨u, hu⟩ := st.some k hk
    rw [e, hp] at hu; cases hu
  refine ⟨fun j k hj hk e => ?_, fun k c h => ?_, fun k hk => ?_, fun a z => ?_⟩
  · rw [hl] at hj hk
    by_cases q1 : j = S.length <;> by_cases q2 : k = S.length
    · rw [q1, q2]
    · rw [q1, ext1_same, ext1_ne q2] at e
      exact absurd e.symm (np k (by omega))
    · rw [q2, ext1_same, ext1_ne q1] at e
      exact absurd e (np j (by omega))
    · rw [ext1_ne q1, ext1_ne q2] at e
      exact st.inj j k (by omega) (by omega) e
  · rw [hl]
    by_cases q : k = S.length
    · subst q
      rw [List.getElem?_append_right (Nat.le_refl _), Nat.sub_self] at h
      have h : c = .lst xs := by simpa using h.symm
      subst h
      exact ⟨vs, by rw [ext1_same]; exact upd_same, VRs.on st ex r⟩
    · have hk : k < S.length := by
        have := (List.getElem?_eq_some_iff.mp h).1
        rw [hl] at this; omega
      rw [List.getElem?_append_left hk] at h
      rw [ext1_ne q]
      obtain ⟨u, hu⟩ := st.some k hk
      exact CellR.on st ex (upd_ne (ne_of_none hu hp)) (st.cell k c h)
  · rw [hl] at hk
    by_cases q : k = S.length
    · rw [q, ext1_same]; exact .inl rfl
    · rw [ext1_ne q]; exact .inr (st.inZ k (by omega))
  · rcases z with rfl | z
    · exact ⟨vs, upd_same⟩
    · obtain ⟨ws, h⟩ := st.kind a z
      exact ⟨ws, by rw [upd_ne (ne_of_none h hp)]; exact h⟩
/-! ### a list that may be changed is changed -/
mutual
theorem VR.wr (st : StoreR K S m H) {D : Addr} {ws : List V} (z : m.Z D) : ∀ {x : PV} {v : V}, VR K m S.length H x v → VR K m S.length (upd H D (.lst ws)) x v
  | _, _, .non => .non
  | _, _, .bl b => .bl b
  | _, _, .int i => .int i
  | _, _, .str s h => .str s h
  | _, _, .tup h r => by
    refine .tup ?_ (VRs.wr st z r)
    rcases h with (h | ⟨o, h⟩) | h
    · exact .inl (.inl ((upd_ne fun e => st.off h (fun vs q => by cases q) (by rw [e]; exact z)).trans h))
    · exact .inl (.inr ⟨o, (upd_ne fun e => st.off h (fun vs q => by cases q) (by rw [e]; exact z)).trans h⟩)
    · exact .inr h
  | _, _, .lst h r => by
    refine .lst ?_ (VRs.wr st z r)
    rcases h with ⟨h | ⟨o, h⟩, k⟩ | h
    · exact .inl ⟨.inl ((upd_ne fun e => k (by rw [e]; exact z)).trans h), k⟩
    · exact .inl ⟨.inr ⟨o, (upd_ne fun e => k (by rw [e]; exact z)).trans h⟩, k⟩
    · exact .inr h
  | _, _, .ref h => .ref h
  | _, _, .ty t => .ty t
theorem VRs.wr (st : StoreR K S m H) {D : Addr} {ws : List V} (z : m.Z D) : ∀ {x : List PV} {v : List V}, VRs K m S.length H x v → VRs K m S.length (upd H D (.lst ws)) x v
  | _, _, .nil => .nil
  | _, _, .cons r t => .cons (VR.wr st z r) (VRs.wr st z t)
end
theorem Ext.write {k : Nat} {o : HO} (st : StoreR K S m H) (hk : k < S.length) : Ext m S.length H m S.length (upd H (m.at_ k) o) where
  z0 := st.inZ
  le := Nat.le_refl _
  emb := fun _ _ => rfl
  keep := fun a u h q => by rw [upd_ne (fun e => q k hk e.symm)]; exact h
  sub := fun _ h => h
  fresh := fun _ h k => absurd h k
  new := fun k h1 h2 => absurd (Nat.lt_of_lt_of_le h2 h1) (Nat.lt_irrefl _)
theorem StoreR.write {k : Nat} {xs : List PV} (st : StoreR K S m H) (hk : k < S.length) (r : VRs K m S.length H xs vs) : StoreR K (S.set k (.lst xs)) m (upd H (m.at_ k) (.lst vs)) := by
  have ex : Ext m S.length H m S.length (upd H (m.at_ k) (.lst vs)) := Ext.write st hk
  have hl : (S.set k (Cell.lst xs)).length = S.length := by simp
  refine ⟨fun i j hi hj e => st.inj i j (by rw [hl] at hi; exact hi) (by rw [hl] at hj; exact hj) e, fun j c h => ?_, fun j hj => st.inZ j (by rw [hl] at hj; exact hj), fun a z => ?_⟩
  · rw [hl]
    by_cases q : j = k
    · subst q
      rw [List.getElem?_set_self hk] at h
      cases h
      exact ⟨vs, upd_same, VRs.wr st (st.inZ j hk) r⟩
    · rw [List.getElem?_set_ne (Ne.symm q)] at h
      have hj : j < S.length := (List.getElem?_eq_some_iff.mp h).1
      have e : upd H (m.at_ k) (.lst vs) (m.at_ j) = H (m.at_ j) := upd_ne fun e => q (st.inj j k hj hk e)
      have hc := st.cell j c h
      cases c with
      | lst ys => obtain ⟨ws, e1, r1⟩ := hc; exact ⟨ws, e.trans e1, VRs.wr st (st.inZ k hk) r1⟩
      | ins c fs => exact hc.elim
  · by_cases q : a = m.at_ k
    · subst q; exact ⟨vs, upd_same⟩
    · obtain ⟨ws, h⟩ := st.kind a z
      exact ⟨ws, by rw [upd_ne q]; exact h⟩

/-! ### a list that is being made: it is no place, but nobody else's -/
def hid (m : Mp) (D : Addr) : Mp := ⟨m.at_, fun a => a = D ∨ m.Z a⟩
theorem Ext.hide {D : Addr} {o : HO} (st : StoreR K S m H) (hp : H D = none) : Ext m S.length H (hid m D) S.length (upd H D o) where
  z0 := st.inZ
  le := Nat.le_refl _
  emb := fun _ _ => rfl
  keep := fun a u h _ => by rw [upd_ne (ne_of_none h hp)]; exact h
  sub := fun _ h => .inr h
  fresh := fun a h k => by
    rcases h with rfl | h
    · exact hp
    · exact absurd h k
  new := fun k h1 h2 => absurd (Nat.lt_of_lt_of_le h2 h1) (Nat.lt_irrefl _)
theorem StoreR.hide {D : Addr} {ws : List V} (st : StoreR K S m H) (hp : H D = none) : StoreR K S (hid m D) (upd H D (.lst ws)) where
  inj := st.inj
  cell := fun k c h => by
    have hk : k < S.length := (List.getElem?_eq_some_iff.mp h).1
    obtain ⟨u, hu⟩ := st.some k hk
    exact CellR.on st (Ext.hide st hp) (upd_ne (ne_of_none hu hp)) (st.cell k c h)
  inZ := fun k hk => .inr (st.inZ k hk)
  kind := fun a z => by
    rcases z with rfl | z
    · exact ⟨ws, upd_same⟩
    · obtain ⟨vs, h⟩ := st.kind a z
      exact ⟨vs, by rw [upd_ne (ne_of_none h hp)]; exact h⟩
/-- the list being made is changed -/
theorem StoreR.grow {D : Addr} {ws : List V} (st : StoreR K S m H) (z : m.Z D) (no : ∀ k, k < S.length → m.at_ k ≠ D) : StoreR K S m (upd H D (.lst ws)) where
  inj := st.inj
  cell := fun k c h => by
    have hk : k < S.length := (List.getElem?_eq_some_iff.mp h).1
    have e : upd H D (.lst ws) (m.at_ k) = H (m.at_ k) := upd_ne (no k hk)
    have hc := st.cell k c h
    cases c with
    | lst ys => obtain ⟨us, e1, r1⟩ := hc; exact ⟨us, e.trans e1, VRs.wr st z r1⟩
    | ins c fs => exact hc.elim
  inZ := st.inZ
  kind := fun a y => by
    by_cases q : a = D
    · subst q; exact ⟨ws, upd_same⟩
    · obtain ⟨vs, h⟩ := st.kind a y
      exact ⟨vs, by rw [upd_ne q]; exact h⟩
/-- it is done: nobody's any more -/
def shw (m : Mp) (D : Addr) : Mp := ⟨m.at_, fun a => a ≠ D ∧ m.Z a⟩
mutual
/-- more places, fewer that may be changed, the same heap -/
theorem VR.re (hn : n ≤ n') (he : ∀ k, k < n → m'.at_ k = m.at_ k) (hz : ∀ a, m'.Z a → m.Z a) : ∀ {x : PV} {v : V}, VR K m n H x v → VR K m' n' H x v
  | _, _, .non => .non
  | _, _, .bl b => .bl b
  | _, _, .int i => .int i
  | _, _, .str s h => .str s h
  | _, _, .tup h r => .tup h (VRs.re hn he hz r)
  | _, _, .lst h r => .lst (h.imp (fun q => ⟨q.1, fun z => q.2 (hz _ z)⟩) id) (VRs.re hn he hz r)
  | _, _, .ref (k := k) h => by rw [← he k h]; exact .ref (Nat.lt_of_lt_of_le h hn)
  | _, _, .ty t => .ty t
theorem VRs.re (hn : n ≤ n') (he : ∀ k, k < n → m'.at_ k = m.at_ k) (hz : ∀ a, m'.Z a → m.Z a) : ∀ {x : List PV} {v : List V}, VRs K m n H x v → VRs K m' n' H x v
  | _, _, .nil => .nil
  | _, _, .cons r t => .cons (VR.re hn he hz r) (VRs.re hn he hz t)
end
theorem VR.shw {D : Addr} {x : PV} {v : V} (r : VR K m n H x v) : VR K (shw m D) n H x v := VR.re (m := m) (m' := MK.shw m D) (Nat.le_refl _) (fun _ _ => rfl) (fun (a : Addr) (h : (MK.shw m D).Z a) => h.2) r
theorem VRs.shw {D : Addr} {x : List PV} {v : List V} (r : VRs K m n H x v) : VRs K (shw m D) n H x v := VRs.re (m := m) (m' := MK.shw m D) (Nat.le_refl _) (fun _ _ => rfl) (fun (a : Addr) (h : (MK.shw m D).Z a) => h.2) r
theorem StoreR.shw {D : Addr} (st : StoreR K S m H) (no : ∀ k, k < S.length → m.at_ k ≠ D) : StoreR K S (shw m D) H where
  inj := st.inj
  cell := fun k c h => by
    have hc := st.cell k c h
    cases c with
    | lst ys => obtain ⟨us, e1, r1⟩ := hc; exact ⟨us, e1, VRs.shw r1⟩
    | ins c fs => exact hc.elim
  inZ := fun k hk => ⟨no k hk, st.inZ k hk⟩
  kind := fun a y => st.kind a y.2
theorem Ext.shw {D : Addr} (ex : Ext m n H m' n' H') (hp : H D = none) (z : ∀ a, m.Z a → H a ≠ none) : Ext m n H (shw m' D) n' H' where
  z0 := ex.z0
  le := ex.le
  emb := ex.emb
  keep := ex.keep
  sub := fun a h => ⟨fun e => z a h (e ▸ hp), ex.sub a h⟩
  fresh := fun a h k => ex.fresh a h.2 k
  new := ex.new

/-! ### lists and tuples that are read -/
theorem VR.listOf (st : StoreR K S m H) {x : PV} {v : V} {xs : List PV} (r : VR K m S.length H x v) (h : listOf S x = .some xs) : ∃ a vs, v = .ref a ∧ SqL K H a vs ∧ VRs K m S.length H xs vs := by
  cases r with
  | lst hl rs =>
    have h : Option.some _ = Option.some xs := h
    cases h
    exact ⟨_, _, rfl, hl.sq, rs⟩
  | @ref k hk =>
    have h : (match S[k]? with | .some (.lst xs) => Option.some xs | _ => Option.none) = Option.some xs := h
    have q := st.at hk
    rw [List.getElem?_eq_getElem hk] at h
    generalize S[k] = c at h q
    cases c with
    | lst ys =>
      have h : Option.some ys = Option.some xs := h
      cases h
      obtain ⟨vs, e, rs⟩ := q
      exact ⟨_, vs, rfl, .inl (.inl e), rs⟩
    | ins c fs => exact q.elim
  | non => exact nomatch h
  | bl _ => exact nomatch h
  | int _ => exact nomatch h
  | str _ _ => exact nomatch h
  | tup _ _ => exact nomatch h
  | ty _ => exact nomatch h
theorem VR.seqOf (st : StoreR K S m H) {x : PV} {v : V} {xs : List PV} (r : VR K m S.length H x v) (h : seqOf S x = .some xs) : ∃ a vs, v = .ref a ∧ (SqL K H a vs ∨ SqT K H a vs) ∧ VRs K m S.length H xs vs := by
  cases r with
  | tup ht rs =>
    have h : Option.some _ = Option.some xs := h
    cases h
    exact ⟨_, _, rfl, .inr ht, rs⟩
  | lst hl rs => obtain ⟨a, vs, e, q, rs'⟩ := VR.listOf st (VR.lst hl rs) h; exact ⟨a, vs, e, .inl q, rs'⟩
  | ref hk => obtain ⟨a, vs, e, q, rs'⟩ := VR.listOf st (VR.ref hk) h; exact ⟨a, vs, e, .inl q, rs'⟩
  | non => exact nomatch h
  | bl _ => exact nomatch h
  | int _ => exact nomatch h
  | str _ _ => exact nomatch h
  | ty _ => exact nomatch h
end

/-! ### exceptions -/
/-- the program's exception classes: where they lie, the field that each bears -/
structure Xs where
  n : Nat
  a : Nat → Addr
  f : Nat → Option Str
def flatV : PV → V
  | .int i => .int i
  | .str s => .str (strV s)
  | .bl b => .bl b
  | _ => .non
/-- the exception bears these values in its dict -/
def XD (xC : Xs) (c : Nat) (as : List PV) (d : Option Addr) (H : Hp) : Prop := c < xC.n ∧ match as with
  | [] => d = none
  | v :: _ => as = [v] ∧ xOk v = true ∧ (∀ s, v = .str s → okS s) ∧ ∃ (f : Str) (dd : Addr), xC.f c = some f ∧ d = some dd ∧ H dd = some (.xd [(f, flatV v)])
end MK

set_option linter.all false
set_option autoImplicit false
set_option Elab.async false
set_option maxRecDepth 100000
/-! MkStr: the model's texts and the evaluator's. -/
namespace MK
open PySem PySem.Spec PyProof.Rows L2 PySem.Builtin PySem.Builtin.Str

theorem occ_kept (s sub : Str) (hi : Nat) : ∀ (l : List Nat) (a f : Nat), (forIn l ((#[a] : Array Nat), f) (StrLaws.occBody s sub hi 1)).run.fst = #[a]
  | [], a, f => rfl
  | i :: l, a, f => by
    rw [List.forIn_cons]
    unfold StrLaws.occBody
    rw [if_neg (by simp)]
    exact occ_kept s sub hi l a f
theorem occ_from (s : List Nat) (c : Nat) : ∀ (n a f : Nat), f ≤ a → a + n = s.length + 1 →
    (forIn (List.range' a n) ((#[] : Array Nat), f) (StrLaws.occBody (strV s) (strV [c]) s.length 1)).run.fst.toList = (findC c (s.drop a) a).toList
  | 0, a, f, _, h => by
    have : s.drop a = [] := List.drop_eq_nil_of_le (by omega)
    rw [this]
    rfl
  | n + 1, a, f, hf, h => by
    rw [List.range'_succ, List.forIn_cons]
    unfold StrLaws.occBody
    have key := StrLaws.subAt_one (strV s) c a
    rw [strV_length, strV_cps] at key
    have key : a + (strV [c]).length ≤ s.length ∧ subAt (strV s) (strV [c]) a = true ↔ s[a]? = some c := key
    by_cases hc : s[a]? = some c
    · obtain ⟨k1, k2⟩ := key.mpr hc
      rw [if_pos ⟨⟨⟨by simp, hf⟩, k1⟩, k2⟩]
      obtain ⟨hl, he⟩ := List.getElem?_eq_some_iff.mp hc
      rw [List.drop_eq_getElem_cons hl, he]
      show (forIn _ (#[a], _) (StrLaws.occBody (strV s) (strV [c]) s.length 1)).run.fst.toList = _
      rw [occ_kept]
      simp [findC]
    · rw [if_neg fun q => hc (key.mp ⟨q.1.2, q.2⟩)]
      have ih := occ_from s c n (a + 1) f (by omega) (by omega)
      refine Eq.trans ih ?_
      by_cases hl : a < s.length
      · rw [List.drop_eq_getElem_cons hl]
        have : s[a] ≠ c := fun e => hc (by rw [List.getElem?_eq_getElem hl, e])
        simp [findC, this]
      · rw [List.drop_eq_nil_of_le (by omega), List.drop_eq_nil_of_le (by omega)]
        rfl
theorem occ1 (s : List Nat) (c a : Nat) (h : a ≤ s.length) : occurrences (strV s) (strV [c]) a s.length 1 = (findC c (s.drop a) a).toList := by
  rw [StrLaws.occ_eq]
  exact occ_from s c _ a a (Nat.le_refl _) (by omega)
theorem occ1_out (s : List Nat) (c a : Nat) (h : s.length < a) : occurrences (strV s) (strV [c]) a s.length 1 = [] := by
  rw [StrLaws.occ_eq]
  have : s.length + 1 - a = 0 := by omega
  rw [this]
  rfl
theorem findC_spec (c : Nat) : ∀ (s : List Nat) (k j : Nat), findC c s k = some j → k ≤ j ∧ j < k + s.length ∧ s[j - k]? = some c
  | [], k, j, h => by cases h
  | x :: r, k, j, h => by
    unfold findC at h
    split at h
    · rename_i e
      cases h
      refine ⟨Nat.le_refl _, by simp, by simp [e]⟩
    · obtain ⟨h1, h2, h3⟩ := findC_spec c r (k + 1) j h
      refine ⟨by omega, by simp; omega, ?_⟩
      have e : j - k = (j - (k + 1)) + 1 := by omega
      rw [e]
      simpa using h3
theorem occ_all (s : List Nat) (c : Nat) : occurrences (strV s) (strV [c]) 0 (strV s).length 1 = (findC c s 0).toList := by
  rw [strV_length, occ1 s c 0 (Nat.zero_le _)]
  rfl
/-! ### figures -/
theorem figs_str (i : Int) : (strV (figs i)) = (Str.ofString (toString i)) := by
  rw [Str.ofString_eq_toList]
  rfl
theorem figs_len (i : Int) (h : i.natAbs < 2 ^ 1000) : (figs i).length ≤ 1001 := by
  unfold figs
  rw [List.length_map]
  cases i with
  | ofNat m =>
    have := nat_repr_length_le (n := m) (k := 1000) (by decide) h
    rw [← String.length_toList] at this
    exact Nat.le_trans this (by decide)
  | negSucc m =>
    have h' : m + 1 < 2 ^ 1000 := h
    have := nat_repr_length_le (n := m + 1) (k := 1000) (by decide) h'
    show ("-" ++ Nat.repr (m + 1)).toList.length ≤ 1001
    rw [String.length_toList, String.length_append]
    have e : "-".length = 1 := rfl
    rw [e]
    omega
theorem figs_ok (i : Int) (h : i.natAbs < 2 ^ 1000) : okS (figs i) := by
  constructor
  · exact Nat.le_trans (figs_len i h) (by decide)
  · intro c hc
    unfold figs at hc
    obtain ⟨ch, _, rfl⟩ := List.mem_map.mp hc
    have hc : ch.val.toNat < 1114112 := by
      have h := ch.valid
      simp only [UInt32.isValidChar, Nat.isValidChar] at h
      omega
    exact hc
theorem numOf_digits : ∀ (s : List Nat) (a n : Nat), numOf s a = some n → PySem.NumText.AllDigits s
  | [], a, n, h => by intro c hc; cases hc
  | c :: r, a, n, h => by
    unfold numOf at h
    split at h
    · rename_i q
      intro d hd
      rcases List.mem_cons.mp hd with rfl | hd
      · exact q
      · exact numOf_digits r _ n h d hd
    · cases h
theorem numOf_val : ∀ (s : List Nat) (a n : Nat), numOf s a = some n → n = s.foldl (fun acc c => acc * 10 + (c - 48)) a
  | [], a, n, h => by cases h; rfl
  | c :: r, a, n, h => by
    unfold numOf at h
    split at h
    · have := numOf_val r _ n h
      rw [this, List.foldl_cons, Nat.mul_comm]
    · cases h
theorem int_text {s : List Nat} {n : Nat} (h0 : 0 < s.length) (h1 : s.length ≤ 640) (h : numOf s 0 = some n) : PySem.intText? (strV s) = some (n : Int) := by
  have hd := numOf_digits s 0 n h
  have hv := numOf_val s 0 n h
  have := PySem.intText_digits (x := strV s) (by rw [strV_cps]; exact hd) (by rw [strV_cps]; intro e; rw [e] at h0; cases h0) (by rw [strV_length]; omega)
  rw [this, strV_cps, hv]
  rfl

/-! ### find, split, join, rjust -/
theorem find_text (s : List Nat) (c : Nat) : Txt.find (strV s) (strV [c]) = (match findC c s 0 with | some k => (k : Int) | none => -1) := by
  show (match occurrences (strV s) (strV [c]) 0 (strV s).length 1 with | i :: _ => (i : Int) | [] => -1) = _
  rw [occ_all]
  cases findC c s 0 <;> rfl
theorem find3_text (s : List Nat) (c : Nat) (i : Int) (h : 0 ≤ i) : Txt.find3 (strV s) (strV [c]) i = (match findC c (s.drop i.toNat) i.toNat with | some k => (k : Int) | none => -1) := by
  show (match occurrences (strV s) (strV [c]) (fromIndex (strV s).length i) (strV s).length 1 with | i :: _ => (i : Int) | [] => -1) = _
  have e : fromIndex (strV s).length i = i.toNat := by
    unfold fromIndex
    rw [if_neg (by omega)]
    omega
  rw [e, strV_length]
  by_cases hl : i.toNat ≤ s.length
  · rw [occ1 s c _ hl]
    cases findC c (s.drop i.toNat) i.toNat <;> rfl
  · rw [occ1_out s c _ (by omega), List.drop_eq_nil_of_le (by omega)]
    rfl
theorem strSub_eq (s : List Nat) (i j : Nat) : strSub (strV s) i j = strV ((s.drop i).take (j - i)) := by
  show (⟨(strV s).cps.extract i j⟩ : Str) = ⟨_⟩
  congr 1
  show s.toArray.extract i j = _
  simp [List.extract_eq_take_drop]
theorem split_text (s : List Nat) (c : Nat) : Txt.splitMax (strV s) (strV [c]) 1 = (match findC c s 0 with | some k => [strV (s.take k), strV (s.drop (k + 1))] | none => [strV s]) := by
  unfold Txt.splitMax
  have hlim : limitOf (strV s) 1 = 1 := rfl
  rw [hlim, occ_all]
  cases hf : findC c s 0 with
  | none =>
    split
    · rfl
    · simp
  | some k =>
    obtain ⟨_, h2, h3⟩ := findC_spec c s 0 k hf
    have hk : k < s.length := by omega
    have hm : c ∈ s := List.mem_of_getElem? (by simpa using h3)
    have hno : (decide ((strV s).length < (strV [c]).length) || decide (PySem.Builtin.Str.strKind (strV s) < PySem.Builtin.Str.strKind (strV [c]))) = false := by
      rw [Bool.or_eq_false_iff]
      constructor
      · rw [strV_length, strV_length, decide_eq_false_iff_not]
        show ¬ s.length < 1
        omega
      · rw [decide_eq_false_iff_not]
        have k1 : PySem.Builtin.Str.strKind (strV [c]) = if c < 256 then 1 else if c < 65536 then 2 else 4 := by
          unfold PySem.Builtin.Str.strKind strV
          simp
        have k2 : PySem.Builtin.Str.strKind (strV s) = if s.all (· < 256) then 1 else if s.all (· < 65536) then 2 else 4 := by
          unfold PySem.Builtin.Str.strKind strV
          simp
        rw [k1, k2]
        have a1 : s.all (· < 256) = true → c < 256 := fun h => by
          have := List.all_eq_true.mp h c hm
          simpa using this
        have a2 : s.all (· < 65536) = true → c < 65536 := fun h => by
          have := List.all_eq_true.mp h c hm
          simpa using this
        split
        · rename_i h
          rw [if_pos (a1 h)]
          omega
        · split
          · rename_i h
            have := a2 h
            split <;> omega
          · split
            · omega
            · split <;> omega
    rw [if_neg (by rw [hno]; exact Bool.false_ne_true)]
    rw [if_neg (by simp)]
    show (List.zip (0 :: [k + (strV [c]).length]) ([k] ++ [(strV s).length])).map (fun (i, j) => strSub (strV s) i j) = _
    rw [strV_length, strV_length]
    show [strSub (strV s) 0 k, strSub (strV s) (k + 1) s.length] = _
    rw [strSub_eq, strSub_eq]
    have e1 : (s.drop 0).take (k - 0) = s.take k := by simp
    have e2 : (s.drop (k + 1)).take (s.length - (k + 1)) = s.drop (k + 1) := List.take_of_length_le (by rw [List.length_drop]; omega)
    rw [e1, e2]
theorem joinL_eq (sep : List Nat) : ∀ (ss : List (List Nat)), TL.joinL sep ss = joinL sep ss
  | [] => rfl
  | [_] => rfl
  | p :: q :: r => by
    show p ++ (sep ++ TL.joinL sep (q :: r)) = p ++ sep ++ joinL sep (q :: r)
    rw [joinL_eq sep (q :: r), List.append_assoc]
theorem join_text (sep : List Nat) (ss : List (List Nat)) : Txt.join (strV sep) (ss.map strV) = strV (joinL sep ss) := by
  rw [TL.join_eq]
  refine TL.ext_tl ?_
  rw [TL.tl_join, List.map_map]
  have : (ss.map (TL.tl ∘ strV)) = ss := by
    conv => rhs; rw [← List.map_id ss]
    exact List.map_congr_left fun x _ => strV_cps x
  rw [this]
  show TL.joinL (strV sep).cps.toList ss = (strV (joinL sep ss)).cps.toList
  rw [strV_cps, strV_cps, joinL_eq]
theorem joinL_len (sep : List Nat) : ∀ ss : List (List Nat), (joinL sep ss).length ≤ (ss.map List.length).sum + ss.length * sep.length
  | [] => by simp [joinL]
  | [x] => by simp [joinL]
  | x :: y :: r => by
    have := joinL_len sep (y :: r)
    show (x ++ sep ++ joinL sep (y :: r)).length ≤ _
    rw [List.length_append, List.length_append, List.map_cons, List.sum_cons, List.length_cons, Nat.add_mul]
    omega
theorem joinL_mem (sep : List Nat) : ∀ (ss : List (List Nat)) (c : Nat), c ∈ joinL sep ss → c ∈ sep ∨ ∃ x ∈ ss, c ∈ x
  | [], c, h => by cases h
  | [x], c, h => .inr ⟨x, List.mem_singleton.mpr rfl, h⟩
  | x :: y :: r, c, h => by
    have h : c ∈ x ++ sep ++ joinL sep (y :: r) := h
    rcases List.mem_append.mp h with h | h
    · rcases List.mem_append.mp h with h | h
      · exact .inr ⟨x, List.mem_cons_self, h⟩
      · exact .inl h
    · rcases joinL_mem sep (y :: r) c h with h | ⟨z, hz, h⟩
      · exact .inl h
      · exact .inr ⟨z, List.mem_cons_of_mem _ hz, h⟩
theorem rjust_text (s : List Nat) (n : Int) (c : Nat) : Txt.rjustF (strV s) n c = strV (List.replicate (n.toNat - s.length) c ++ s) := by
  unfold Txt.rjustF
  rw [strV_length]
  split
  · rename_i h
    have : n.toNat - s.length = 0 := by omega
    rw [this]
    rfl
  · unfold padded
    show (⟨Array.replicate (n.toNat - s.length) c ++ s.toArray ++ Array.replicate 0 c⟩ : Str) = ⟨_⟩
    simp
end MK

set_option linter.all false
set_option autoImplicit false
set_option Elab.async false
set_option maxRecDepth 100000
set_option maxHeartbeats 4000000
/-! MkOps: the operators and built-ins, from the layer's rules to the evaluator's. -/
namespace MK
open PySem PySem.Spec PyProof.Rows L2

/-- a value that is told without the store: what is wanted of it -/
def PEnd (K : PySem.W.Frag) (S : Store) (m : Mp) (H : Hp) (w : PV) (Q : VK) : Prop :=
  ∀ H', Ext m S.length H m S.length H' → StoreR K S m H' → ∀ z, VR K m S.length H' w z → Q z H'
section
variable {K : PySem.W.Frag} {S : Store} {m : Mp} {H : Hp} {w : PV} {Q : VK}
theorem PEnd.here (h : PEnd K S m H w Q) (st : StoreR K S m H) {z : V} (r : VR K m S.length H w z) : Q z H := h H (Ext.refl st) st z r
theorem PEnd.push (h : PEnd K S m H w Q) (st : StoreR K S m H) {p : Addr} {o : HO} (hp : H p = none) (r : VR K m S.length (upd H p o) w (.ref p)) : Q (.ref p) (upd H p o) :=
  h _ (Ext.push st hp) (st.push hp) _ r
theorem VRs.push {xs : List PV} {vs : List V} (st : StoreR K S m H) {p : Addr} {o : HO} (hp : H p = none) (r : VRs K m S.length H xs vs) : VRs K m S.length (upd H p o) xs vs := VRs.on st (Ext.push st hp) r
theorem VR.tupNew {xs : List PV} {vs : List V} (st : StoreR K S m H) {p : Addr} (hp : H p = none) (r : VRs K m S.length H xs vs) : VR K m S.length (upd H p (.tup vs)) (.tup xs) (.ref p) :=
  .tup (.inl (.inl upd_same)) (VRs.push st hp r)
theorem VR.lstNew {xs : List PV} {vs : List V} (st : StoreR K S m H) {p : Addr} (hp : H p = none) (r : VRs K m S.length H xs vs) : VR K m S.length (upd H p (.lst vs)) (.lst xs) (.ref p) :=
  .lst (.inl ⟨.inl upd_same, st.noneZ hp⟩) (VRs.push st hp r)
theorem PEnd.tup {xs : List PV} (h : PEnd K S m H (.tup xs) Q) (st : StoreR K S m H) {vs : List V} {p : Addr} (hp : H p = none) (r : VRs K m S.length H xs vs) : Q (.ref p) (upd H p (.tup vs)) := h.push st hp (VR.tupNew st hp r)
theorem PEnd.lst {xs : List PV} (h : PEnd K S m H (.lst xs) Q) (st : StoreR K S m H) {vs : List V} {p : Addr} (hp : H p = none) (r : VRs K m S.length H xs vs) : Q (.ref p) (upd H p (.lst vs)) := h.push st hp (VR.lstNew st hp r)
end

def opOf : BO → Operator
  | .add => .Add | .sub => .Sub | .mul => .Mult | .fdiv => .FloorDiv | .mod => .Mod | .pow => .Pow
def cmpOf : CO → CmpOp
  | .eq => .Eq | .ne => .NotEq | .lt => .Lt | .le => .LtE | .gt => .Gt | .ge => .GtE | .isN => .Is | .notN => .IsNot | .mem => .In | .nmem => .NotIn

section
variable {X : Cx}
/-- the shape of a rule for two values -/
def rB (K : PySem.W.Frag) (op : BO) : R2 := fun x y H Q => ∃ S m u v w, StoreR K S m H ∧ VR K m S.length H u x ∧ VR K m S.length H v y ∧ evBin S op u v = some w ∧ PEnd K S m H w Q
/-- xs + ys, of any lists that may be read -/
def rCatS (K : PySem.W.Frag) : R2 := fun x y H Q => ∃ l b xs zs, x = .ref l ∧ y = .ref b ∧ SqL K H l xs ∧ SqL K H b zs ∧ xs.length + zs.length ≤ sizeLine ∧ ∀ p, H p = none → Q (.ref p) (upd H p (.lst (xs ++ zs)))
theorem op_catS : OpR X (binaryOp .Add) (rCatS X.K) := by
  intro pins s σ H x y v u Q I rx ry h
  obtain ⟨l, b, xs, zs, rfl, rfl, hH, hB, hz, q⟩ := h
  cases rx
  cases ry
  obtain ⟨its, r, ⟨⟨cls, dd, data, sl⟩, n, ho, hc, hdn, hd⟩, hl⟩ := I.list hH
  obtain ⟨its2, r2, ⟨⟨cls2, dd2, data2, sl2⟩, n2, ho2, hc2, hdn2, hd2⟩, hl2⟩ := I.list hB
  simp only at hc hd hc2 hd2
  subst hc hd hc2 hd2
  have e : its.toArray ++ its2.toArray = (its ++ its2).toArray := by simp
  have e1 := r.length
  have e2 := r2.length
  refine concat_meets ⟨_, ho, rfl⟩ ⟨_, ho2, rfl⟩ noFill_list_add seq_list_add PySem.F.slot_list_add PySem.F.entry_list_add (PySem.F.args_list_add_2 _ _) (list_addW l b its.toArray its2.toArray n n2 dd dd2 sl sl2 (by simp; omega)) ⟨ho, ho2, ?_⟩
  rw [e]
  exact ⟨.ref _, _, I.lnew (t' := s.toks) (r.append r2) (by rw [List.length_append]; omega), rfl, q _ I.fresh⟩
theorem int_rmul_listW (a : Int) (t : Tok) (l : Addr) (items : Array Value) (n : Nat) (dd : Option Addr) (sl : Array (Option Value)) :
    Meets (Builtin.«int.__rmul__» ⟨[.int a t, .ref l], []⟩) (fun _ R s => s.heap.get? l = some { cls := .type "list", dict := dd, data := .seq items n, slots := sl } ∧ R (.ok (.ret Value.notImplemented)) s) :=
  .of_wp fun prog w A R s h => by obtain ⟨hp, g, d, tk, os⟩ := s; obtain ⟨hl, h⟩ := h; wp_walk using AutoSeq1.wpAny_loadPart' hl; exact ⟨_, rfl, h⟩
theorem list_mulW (l : Addr) (items : Array Value) (n : Nat) (dd : Option Addr) (sl : Array (Option Value)) (x : Int) (u : Tok) (hc0 : ¬(!Builtin.List.listFitsIndex x) = true) (hc1 : ¬items.size * x.toNat > (2 ^ 63 - 1) / 8) (hc2 : ¬Builtin.List.listTooLong (items.size * x.toNat) = true) :
    Meets (Builtin.«list.__mul__» ⟨[.ref l, .int x u], []⟩) (fun _ R s => s.heap.get? l = some { cls := .type "list", dict := dd, data := .seq items n, slots := sl } ∧ R (.ok (.ret (Value.ref s.heap.objs.size))) { s with heap := s.heap.push { cls := Value.type "list", data := Data.seq (List.foldl (fun x1 x2 => x1 ++ x2) #[] (List.replicate (if items.isEmpty = true then 0 else x.toNat) items)) }, toks := s.toks }) :=
  .of_wp fun prog w A R s h => by
    obtain ⟨hp, g, d, tk, os⟩ := s; obtain ⟨hl, h⟩ := h
    have hsz := AutoListH.joined_fits hc2
    wp_walk using AutoSeq1.wpAny_loadPart' hl; refine wpAny_ite_false (decide_eq_false (Nat.not_lt.mpr hsz)) ?_; wp_walk using AutoSeq1.wpAny_loadPart' hl; exact ⟨_, rfl, h⟩
/-- xs * k, of any list that may be read -/
def rRepS (K : PySem.W.Frag) : R2 := fun x y H Q => ∃ l k xs, x = .ref l ∧ y = .int k ∧ SqL K H l xs ∧ 0 ≤ k ∧ k ≤ 1000 ∧ xs.length ≤ 1000 ∧ ∀ p, H p = none → Q (.ref p) (upd H p (.lst (List.replicate k.toNat xs).flatten))
theorem op_repS : OpR X (binaryOp .Mult) (rRepS X.K) := by
  intro pins s σ H x y v u Q I rx ry h
  obtain ⟨l, k, xs, rfl, rfl, hH, h1, h2, hz, q⟩ := h
  cases rx
  obtain ⟨t, rfl⟩ := ry
  obtain ⟨its, r, ⟨⟨cls, dd, data, sl⟩, n, ho, hc, hdn, hd⟩, hl⟩ := I.list hH
  simp only at hc hd
  subst hc hd
  have hl := r.length
  have hb : its.toArray.size * k.toNat ≤ 1000 * 1000 := by rw [List.size_toArray, ← hl]; exact Nat.mul_le_mul hz (by omega)
  have hlen : its.toArray.size * k.toNat ≤ sizeLine := by rw [← SZ_eq]; exact Nat.le_trans hb (by decide)
  have hcap : ¬ its.toArray.size * k.toNat > (2 ^ 63 - 1) / 8 := by omega
  have hfit : ¬ (!Builtin.List.listFitsIndex k) = true := by
    rw [fitsIndex_both (by omega) (by omega)]
    exact Bool.false_ne_true
  have hlong : ¬ Builtin.List.listTooLong (its.toArray.size * k.toNat) = true := by
    rw [notLongL hlen]
    exact Bool.false_ne_true
  have hnew : List.foldl (fun x1 x2 => x1 ++ x2) #[] (List.replicate (if its.toArray.isEmpty = true then 0 else k.toNat) its.toArray) = (List.replicate k.toNat its).flatten.toArray := by
    have f0 : ∀ m : Nat, List.foldl (fun x1 x2 => x1 ++ x2) #[] (List.replicate m its.toArray) = (List.replicate m its).flatten.toArray := fun m => by
      have := foldl_rep its m []
      rw [List.nil_append] at this
      exact this
    rw [f0]
    cases its with
    | nil => simp
    | cons a r' => rw [if_neg (by simp)]
  refine wpAny_binaryOp_repeat_ref (T := "list") (U := "int") (by decide) ⟨_, ho, rfl⟩ (fun s' => typeIs_int s' k t) noFill_list_mul F.fills_int_mul F.slot_int_rmul repeat_list F.slot_int_index.lookup
    (call_meets F.slot_int_rmul (typeIs_int s k t) F.entry_int_rmul (F.args_int_rmul_2 _ _) (int_rmul_listW k t l its.toArray n dd sl)
      ⟨ho, rfl, ⟨_, ho, rfl⟩, call_meets F.slot_list_mul ⟨_, ho, rfl⟩ F.entry_list_mul (F.args_list_mul_2 _ _) (list_mulW l its.toArray n dd sl k t hfit hcap hlong) ⟨ho, ?_⟩⟩)
  rw [hnew]
  exact ⟨.ref _, _, I.lnew (t' := s.toks) (r.rep k.toNat) (by rw [PyProof.Rows.lm_len_rep_flat, Nat.mul_comm, ← SZ_eq]; rw [List.size_toArray, ← hl] at hb; exact Nat.le_trans hb (by decide)), rfl, q _ I.fresh⟩
theorem mulOk_C {i j : Int} (h : mulOk i j = true) : CMul i j := by
  unfold mulOk at h
  simp only [Bool.or_eq_true, decide_eq_true_eq] at h
  rcases h with h | h
  · exact .inl (by omega)
  · exact .inr (by omega)
theorem op_bin (op : BO) : OpR X (binaryOp (opOf op)) (rB X.K op) := by
  intro pins s σ H x y v u Q I rx ry h
  obtain ⟨S, m, a, b, w, st, ra, rb, e, q⟩ := h
  unfold evBin at e
  split at e
  · cases e; cases ra; cases rb
    exact op_add pins s σ H _ _ v u Q I rx ry ⟨_, _, rfl, rfl, q.here st (.int _)⟩
  · cases e; cases ra; cases rb
    exact op_sub pins s σ H _ _ v u Q I rx ry ⟨_, _, rfl, rfl, q.here st (.int _)⟩
  · split at e
    · rename_i hm
      cases e; cases ra; cases rb
      exact op_mul pins s σ H _ _ v u Q I rx ry ⟨_, _, rfl, rfl, mulOk_C hm, q.here st (.int _)⟩
    · cases e
  · split at e
    · rename_i hm
      cases e; cases ra; cases rb
      exact op_fdiv pins s σ H _ _ v u Q I rx ry ⟨_, _, rfl, rfl, hm, q.here st (.int _)⟩
    · cases e
  · split at e
    · rename_i hm
      cases e; cases ra; cases rb
      exact op_mod pins s σ H _ _ v u Q I rx ry ⟨_, _, rfl, rfl, hm, q.here st (.int _)⟩
    · cases e
  · split at e
    · rename_i hm
      cases e; cases ra; cases rb
      exact op_pow pins s σ H _ _ v u Q I rx ry ⟨_, _, rfl, rfl, hm, q.here st (.int _)⟩
    · cases e
  · split at e
    · rename_i xs ys hm
      cases e
      cases ra with
      | str _ h1 =>
        cases rb with
        | str _ h2 =>
          have e3 : strV xs ++ strV ys = strV (xs ++ ys) := by
            show (⟨xs.toArray ++ ys.toArray⟩ : Str) = ⟨(xs ++ ys).toArray⟩
            simp
          refine op_add_str pins s σ H _ _ v u Q I rx ry ⟨_, _, rfl, rfl, ?_, ?_⟩
          · rw [strV_length, strV_length, ← SZ_eq]; exact hm
          · rw [e3]
            exact q.here st (.str _ (h1.append h2 hm))
    · cases e
  · split at e
    · rename_i xs ys hm
      cases e
      cases ra with
      | @tup a vs _ ha r1 =>
        cases rb with
        | @tup b ws _ hb r2 =>
          have l1 := r1.length
          have l2 := r2.length
          have emp : ∀ {zs : List PV} {us : List V}, VRs X.K m S.length H zs us → us = [] → zs = [] := fun r e => by
            subst e; cases r; rfl
          refine op_catA pins s σ H _ _ v u Q I rx ry ⟨a, b, vs, ws, rfl, rfl, ha, hb, by rw [← l1, ← l2, ← SZ_eq]; exact hm, fun e => ?_, fun _ e => ?_, fun _ _ p hp => ?_⟩
          · have := emp r1 e
            subst this
            exact q.here st (.tup hb r2)
          · have := emp r2 e
            subst this
            exact q.here st (by rw [List.append_nil]; exact .tup ha r1)
          · exact q.push st hp (VR.tupNew st hp (r1.append r2))
    · cases e
  · split at e
    · rename_i xs ys hm
      cases e
      cases ra with
      | @lst a vs _ ha r1 =>
        cases rb with
        | @lst b ws _ hb r2 =>
          have l1 := r1.length
          have l2 := r2.length
          exact op_catS pins s σ H _ _ v u Q I rx ry ⟨a, b, vs, ws, rfl, rfl, ha.sq, hb.sq, by rw [← l1, ← l2, ← SZ_eq]; exact hm, fun p hp => q.push st hp (VR.lstNew st hp (r1.append r2))⟩
    · cases e
  · split at e
    · rename_i xs n hm
      cases e; cases rb
      cases ra with
      | str _ h1 =>
        obtain ⟨n1, n2, n3⟩ := hm
        have hlen : (strV xs).length = xs.length := strV_length xs
        have e1 : Txt.mul (strV xs) n = strV (List.replicate n.toNat xs).flatten := by
          unfold Txt.mul
          rw [if_neg (by omega)]
          have fo : ∀ (k : Nat) (a : List Nat), (List.replicate k xs.toArray).foldl (· ++ ·) a.toArray = (a ++ (List.replicate k xs).flatten).toArray := by
            intro k
            induction k with
            | zero => intro a; simp
            | succ k ih =>
              intro a
              rw [List.replicate_succ, List.foldl_cons, List.append_toArray, ih, List.replicate_succ, List.flatten_cons, List.append_assoc]
          split
          · rename_i hc
            rw [Bool.or_eq_true] at hc
            rcases hc with hc | hc
            · have : n = 1 := by simpa using hc
              subst this
              simp [List.replicate]
            · have : xs.length = 0 := by rw [hlen] at hc; simpa using hc
              have : xs = [] := List.eq_nil_of_length_eq_zero this
              subst this
              have hz : (List.replicate n.toNat ([] : List Nat)).flatten = [] := by simp
              rw [hz]
          · show (⟨(List.replicate n.toNat xs.toArray).foldl (· ++ ·) #[]⟩ : Str) = ⟨(List.replicate n.toNat xs).flatten.toArray⟩
            have := fo n.toNat []
            rw [List.nil_append] at this
            rw [← this]
        have hfl : (List.replicate n.toNat xs).flatten.length = xs.length * n.toNat := by simp [Nat.mul_comm]
        have hok : PySem.MulOk (strV xs) n := by
          refine ⟨by rw [decide_eq_false (by omega), decide_eq_false (by omega)]; rfl, fun _ _ => ?_, fun _ _ => ?_⟩
          · rw [hlen]
            have hz : (xs.length : Int) ≤ 16777216 := by
              have := h1.1
              have e : SZ = 16777216 := rfl
              omega
            have : (16777216 : Int) ≤ (2 ^ 63 - 1) / n := by
              rw [Int.le_ediv_iff_mul_le (by omega)]
              have : (16777216 : Int) * n ≤ 16777216 * 1000000 := Int.mul_le_mul_of_nonneg_left n2 (by decide)
              omega
            omega
          · rw [hlen]
            have : xs.length * n.toNat ≤ sizeLine := by rw [← SZ_eq]; exact n3
            unfold PySem.Builtin.Str.tooLong
            simpa using this
        obtain ⟨tk, rfl⟩ := rx
        obtain ⟨tk2, rfl⟩ := ry
        refine PySem.SB.mul hok fun t' k => ⟨.str (Txt.mul (strV xs) n), H, I.tok _, ⟨_, rfl⟩, ?_⟩
        rw [e1]
        refine q.here st (.str _ ⟨by rw [hfl]; exact n3, fun c hc => ?_⟩)
        obtain ⟨l, hl, hcl⟩ := List.mem_flatten.mp hc
        rw [(List.mem_replicate.mp hl).2] at hcl
        exact h1.2 c hcl
    · cases e
  · split at e
    · rename_i xs n hm
      cases e; cases rb
      cases ra with
      | @tup a vs _ ha r1 =>
        obtain ⟨n0, n1, n2, n3⟩ := hm
        have l1 := r1.length
        have rep : ∀ k : Nat, VRs X.K m S.length H (List.replicate k xs).flatten (List.replicate k vs).flatten := by
          intro k
          induction k with
          | zero => exact .nil
          | succ k ih => rw [List.replicate_succ, List.replicate_succ, List.flatten_cons, List.flatten_cons]; exact r1.append ih
        exact op_repT pins s σ H _ _ v u Q I rx ry ⟨a, n, vs, rfl, rfl, ha, fun e => n0 (by rw [e] at l1; exact List.eq_nil_of_length_eq_zero l1), n1, n2, by rw [← l1]; exact n3, fun p hp => q.push st hp (VR.tupNew st hp (rep n.toNat))⟩
    · cases e
  · split at e
    · rename_i xs n hm
      cases e; cases rb
      cases ra with
      | @lst a vs _ ha r1 =>
        obtain ⟨n1, n2, n3⟩ := hm
        have l1 := r1.length
        have rep : ∀ k : Nat, VRs X.K m S.length H (List.replicate k xs).flatten (List.replicate k vs).flatten := by
          intro k
          induction k with
          | zero => exact .nil
          | succ k ih => rw [List.replicate_succ, List.replicate_succ, List.flatten_cons, List.flatten_cons]; exact r1.append ih
        exact op_repS pins s σ H _ _ v u Q I rx ry ⟨a, n, vs, rfl, rfl, ha.sq, n1, n2, by rw [← l1]; exact n3, fun p hp => q.push st hp (VR.lstNew st hp (rep n.toNat))⟩
    · cases e
  · cases e
end
end MK

set_option linter.all false
set_option autoImplicit false
set_option Elab.async false
set_option maxRecDepth 100000
set_option maxHeartbeats 4000000
/-! MkCmp: comparisons, subscripts, slices. -/
namespace MK
open PySem PySem.Spec PyProof.Rows L2

mutual
def toD : PV → PyData
  | .non => .none
  | .bl b => .bool b
  | .int i => .int i
  | .str s => .str (strV s)
  | .tup xs => .tuple (toDs xs)
  | .lst xs => .list (toDs xs)
  | _ => .none
def toDs : List PV → List PyData
  | [] => []
  | x :: xs => toD x :: toDs xs
end
theorem toDs_map : ∀ xs : List PV, toDs xs = xs.map toD
  | [] => rfl
  | x :: xs => by rw [toDs, toDs_map xs]; rfl

section
variable {K : PySem.W.Frag} {m : Mp} {n : Nat} {H : Hp}
mutual
theorem VR.dp : ∀ {k : Nat} {x : PV} {v : V}, PV.plain k x = true → VR K m n H x v → Dp K H v (toD x)
  | _, _, _, _, .non => .non
  | _, _, _, _, .bl b => .bl b
  | _, _, _, _, .int i => .int i
  | _, _, _, _, .str s h => .str _
  | 0, _, _, p, .tup h r => by cases p
  | k + 1, _, _, p, .tup h r => .tup h (VRs.dp (k := k) p r)
  | 0, _, _, p, .lst h r => by cases p
  | k + 1, _, _, p, .lst h r => .lst h.sq (VRs.dp (k := k) p r)
  | 0, .ref _, _, p, _ => by cases p
  | _ + 1, .ref _, _, p, _ => by cases p
  | 0, .ty _, _, p, _ => by cases p
  | _ + 1, .ty _, _, p, _ => by cases p
theorem VRs.dp : ∀ {k : Nat} {xs : List PV} {vs : List V}, PV.plainAll k xs = true → VRs K m n H xs vs → DpAll K H vs (toDs xs)
  | _, _, _, _, .nil => .nil
  | k, x :: xs, _ :: _, p, .cons r t => by
    have p' : (PV.plain k x && PV.plainAll k xs) = true := p
    rw [Bool.and_eq_true] at p'
    exact .cons (VR.dp p'.1 r) (VRs.dp p'.2 t)
end
theorem canLay_str {s : List Nat} (h : okS s) : PyData.canLay0 (.str (strV s)) = true := by
  show PyData.strOk (strV s) = true
  unfold PyData.strOk
  show (strV s).cps.all (fun x => decide (x < 1114112)) = true
  rw [← Array.all_toList, strV_cps, List.all_eq_true]
  intro c hc
  exact decide_eq_true (h.2 c hc)
mutual
theorem VR.lay : ∀ {k : Nat} {x : PV} {v : V}, PV.plain k x = true → VR K m n H x v → (toD x).canLay0 = true ∧ (toD x).depth ≤ k
  | _, _, _, _, .non => ⟨rfl, Nat.zero_le _⟩
  | _, _, _, _, .bl b => ⟨rfl, Nat.zero_le _⟩
  | _, _, _, _, .int i => ⟨rfl, Nat.zero_le _⟩
  | _, _, _, _, .str s h => ⟨canLay_str h, Nat.zero_le _⟩
  | 0, _, _, p, .tup h r => by cases p
  | k + 1, _, _, p, .tup h r => by
    obtain ⟨h1, h2⟩ := VRs.lay (k := k) p r
    exact ⟨h1, Nat.succ_le_succ h2⟩
  | 0, _, _, p, .lst h r => by cases p
  | k + 1, _, _, p, .lst h r => by
    obtain ⟨h1, h2⟩ := VRs.lay (k := k) p r
    exact ⟨h1, Nat.succ_le_succ h2⟩
  | 0, .ref _, _, p, _ => by cases p
  | _ + 1, .ref _, _, p, _ => by cases p
  | 0, .ty _, _, p, _ => by cases p
  | _ + 1, .ty _, _, p, _ => by cases p
theorem VRs.lay : ∀ {k : Nat} {xs : List PV} {vs : List V}, PV.plainAll k xs = true → VRs K m n H xs vs → PyData.canLayAll0 (toDs xs) = true ∧ PyData.depthAll (toDs xs) ≤ k
  | _, _, _, _, .nil => ⟨rfl, Nat.zero_le _⟩
  | k, x :: xs, _ :: _, p, .cons r t => by
    have p' : (PV.plain k x && PV.plainAll k xs) = true := p
    rw [Bool.and_eq_true] at p'
    obtain ⟨a1, a2⟩ := VR.lay p'.1 r
    obtain ⟨b1, b2⟩ := VRs.lay p'.2 t
    refine ⟨?_, Nat.max_le.mpr ⟨a2, b2⟩⟩
    show ((toD x).canLay0 && PyData.canLayAll0 (toDs xs)) = true
    rw [a1, b1]
    rfl
end
theorem VR.shaped {x : PV} {v : V} (p : PV.plain DEEP x = true) (r : VR K m n H x v) : SeqAt.shaped (toD x) = true := by
  obtain ⟨h1, h2⟩ := VR.lay p r
  unfold SeqAt.shaped
  rw [h1, decide_eq_true (Nat.le_trans h2 (by decide))]
  rfl
end
theorem strV_beq (x y : List Nat) : (strV x == strV y) = (x == y) := by
  rw [Bool.eq_iff_iff, beq_iff_eq, beq_iff_eq]
  exact ⟨strV_inj, fun e => by rw [e]⟩
mutual
theorem eqv_toD : ∀ {j k : Nat} {x y : PV}, PV.plain j x = true → PV.plain k y = true → PyData.eqv (toD x) (toD y) = PV.eqv x y
  | _, _, .non, .non, _, _ => rfl
  | _, _, .non, .bl _, _, _ => rfl
  | _, _, .non, .int _, _, _ => rfl
  | _, _, .non, .str _, _, _ => rfl
  | _, _, .non, .tup _, _, _ => rfl
  | _, _, .non, .lst _, _, _ => rfl
  | _, _, .bl _, .non, _, _ => rfl
  | _, _, .bl _, .bl _, _, _ => rfl
  | _, _, .bl _, .int _, _, _ => rfl
  | _, _, .bl _, .str _, _, _ => rfl
  | _, _, .bl _, .tup _, _, _ => rfl
  | _, _, .bl _, .lst _, _, _ => rfl
  | _, _, .int _, .non, _, _ => rfl
  | _, _, .int _, .bl _, _, _ => rfl
  | _, _, .int _, .int _, _, _ => rfl
  | _, _, .int _, .str _, _, _ => rfl
  | _, _, .int _, .tup _, _, _ => rfl
  | _, _, .int _, .lst _, _, _ => rfl
  | _, _, .str _, .non, _, _ => rfl
  | _, _, .str _, .bl _, _, _ => rfl
  | _, _, .str _, .int _, _, _ => rfl
  | _, _, .str x, .str y, _, _ => strV_beq x y
  | _, _, .str _, .tup _, _, _ => rfl
  | _, _, .str _, .lst _, _, _ => rfl
  | _, _, .tup _, .non, _, _ => rfl
  | _, _, .tup _, .bl _, _, _ => rfl
  | _, _, .tup _, .int _, _, _ => rfl
  | _, _, .tup _, .str _, _, _ => rfl
  | 0, _, .tup _, .tup _, p, _ => by cases p
  | _ + 1, 0, .tup _, .tup _, _, q => by cases q
  | j + 1, k + 1, .tup xs, .tup ys, p, q => eqv_toDs (j := j) (k := k) (xs := xs) (ys := ys) p q
  | _, _, .tup _, .lst _, _, _ => rfl
  | _, _, .lst _, .non, _, _ => rfl
  | _, _, .lst _, .bl _, _, _ => rfl
  | _, _, .lst _, .int _, _, _ => rfl
  | _, _, .lst _, .str _, _, _ => rfl
  | _, _, .lst _, .tup _, _, _ => rfl
  | 0, _, .lst _, .lst _, p, _ => by cases p
  | _ + 1, 0, .lst _, .lst _, _, q => by cases q
  | j + 1, k + 1, .lst xs, .lst ys, p, q => eqv_toDs (j := j) (k := k) (xs := xs) (ys := ys) p q
  | 0, _, .ref _, _, p, _ => by cases p
  | _ + 1, _, .ref _, _, p, _ => by cases p
  | 0, _, .ty _, _, p, _ => by cases p
  | _ + 1, _, .ty _, _, p, _ => by cases p
  | _, 0, _, .ref _, _, q => by cases q
  | _, _ + 1, _, .ref _, _, q => by cases q
  | _, 0, _, .ty _, _, q => by cases q
  | _, _ + 1, _, .ty _, _, q => by cases q
theorem eqv_toDs : ∀ {j k : Nat} {xs ys : List PV}, PV.plainAll j xs = true → PV.plainAll k ys = true → PyData.eqvAll (toDs xs) (toDs ys) = PV.eqvAll xs ys
  | _, _, [], [], _, _ => rfl
  | _, _, [], _ :: _, _, _ => rfl
  | _, _, _ :: _, [], _, _ => rfl
  | j, k, x :: xs, y :: ys, p, q => by
    have p' : (PV.plain j x && PV.plainAll j xs) = true := p
    have q' : (PV.plain k y && PV.plainAll k ys) = true := q
    rw [Bool.and_eq_true] at p' q'
    show (PyData.eqv (toD x) (toD y) && PyData.eqvAll (toDs xs) (toDs ys)) = (PV.eqv x y && PV.eqvAll xs ys)
    rw [eqv_toD p'.1 q'.1, eqv_toDs p'.2 q'.2]
end

section
variable {X : Cx}
theorem in_tupD (hu : X.A.units + 65 < cLine) : OpR X (compareOp .In) (fun x y H Q => ∃ d ds, Dp X.K H x d ∧ Dp X.K H y (.tuple ds) ∧ SeqAt.shaped d = true ∧ SeqAt.shaped (.tuple ds) = true ∧ Q (.bl (ds.any fun z => PyData.eqv z d)) H) := by
  intro pins s σ H x y v u Q I rx ry h
  obtain ⟨d, ds, hd, he, sd, se, q⟩ := h
  obtain ⟨as, r1⟩ := Dp.reads I d x v hd rx
  obtain ⟨bs, r2⟩ := Dp.reads I (.tuple ds) y u he ry
  exact SeqAt.in_tuple_reads r2 r1 (SeqAt.canLay_of_shaped se) (SeqAt.canLay_of_shaped sd) (room_in_shaped sd hu) ⟨.bl _, H, I, rfl, q⟩
theorem notIn_tupD (hu : X.A.units + 65 < cLine) : OpR X (compareOp .NotIn) (fun x y H Q => ∃ d ds, Dp X.K H x d ∧ Dp X.K H y (.tuple ds) ∧ SeqAt.shaped d = true ∧ SeqAt.shaped (.tuple ds) = true ∧ Q (.bl (!ds.any fun z => PyData.eqv z d)) H) := by
  intro pins s σ H x y v u Q I rx ry h
  obtain ⟨d, ds, hd, he, sd, se, q⟩ := h
  obtain ⟨as, r1⟩ := Dp.reads I d x v hd rx
  obtain ⟨bs, r2⟩ := Dp.reads I (.tuple ds) y u he ry
  exact SeqAt.notIn_tuple_reads r2 r1 (SeqAt.canLay_of_shaped se) (SeqAt.canLay_of_shaped sd) (room_in_shaped sd hu) ⟨.bl _, H, I, rfl, q⟩

theorem any_toD {x : PV} {k j : Nat} (hx : PV.plain k x = true) : ∀ {ys : List PV}, PV.plainAll j ys = true → (toDs ys).any (fun z => PyData.eqv z (toD x)) = memV x ys
  | [], _ => rfl
  | y :: ys, p => by
    have p' : (PV.plain j y && PV.plainAll j ys) = true := p
    rw [Bool.and_eq_true] at p'
    show (PyData.eqv (toD y) (toD x) || (toDs ys).any (fun z => PyData.eqv z (toD x))) = (PV.eqv y x || memV x ys)
    rw [eqv_toD p'.1 hx, any_toD hx p'.2]

/-- the shape of a rule for a comparison -/
def rC (K : PySem.W.Frag) (op : CO) : R2 := fun x y H Q => ∃ S m u v w, StoreR K S m H ∧ VR K m S.length H u x ∧ VR K m S.length H v y ∧ evCmp S op u v = some w ∧ Q (.bl w) H
theorem plainAll_deep {ys : List PV} (h : PV.plainAll DEEP ys = true) (h2 : True) : True := trivial
/-- x in y, as the evaluator tells it -/
theorem evIn_cases {S : Store} {a b : PV} {w : Bool} (h : evIn S a b = some w) :
    (∃ c y, a = .str [c] ∧ b = .str y ∧ w = decide (c ∈ y)) ∨ (∃ ys, a.plain DEEP = true ∧ seqOf S b = some ys ∧ PV.plainAll DEEP ys = true ∧ w = memV a ys) := by
  unfold evIn at h
  split at h
  · cases h; exact .inl ⟨_, _, rfl, rfl, rfl⟩
  · split at h
    · rename_i h1 h2
      split at h
      · rename_i h3
        cases h; exact .inr ⟨_, h1, h2, h3, rfl⟩
      · cases h
    · cases h
theorem shaped_seq {K : PySem.W.Frag} {m : Mp} {n : Nat} {H : Hp} {ys : List PV} {vs : List V} (p : PV.plainAll DEEP ys = true) (r : VRs K m n H ys vs) : SeqAt.shaped (.list (toDs ys)) = true ∧ SeqAt.shaped (.tuple (toDs ys)) = true := by
  obtain ⟨h1, h2⟩ := VRs.lay p r
  have h3 : PyData.depthAll (toDs ys) + 1 ≤ 64 := by
    have : DEEP = 60 := rfl
    omega
  constructor <;>
  · unfold SeqAt.shaped
    show (PyData.canLayAll0 (toDs ys) && decide (PyData.depthAll (toDs ys) + 1 ≤ 64)) = true
    rw [h1, decide_eq_true h3]
    rfl
theorem op_cmp (op : CO) (hu : X.A.units + 65 < cLine) : OpR X (compareOp (cmpOf op)) (rC X.K op) := by
  intro pins s σ H x y v u Q I rx ry h
  obtain ⟨S, m, a, b, w, st, ra, rb, e, q⟩ := h
  unfold evCmp at e
  split at e
  · split at e
    · rename_i hp
      cases e
      rw [Bool.and_eq_true] at hp
      refine op_eqD (by omega) pins s σ H _ _ v u Q I rx ry ⟨_, _, VR.dp hp.1 ra, VR.dp hp.2 rb, VR.shaped hp.1 ra, VR.shaped hp.2 rb, ?_⟩
      rw [eqv_toD hp.1 hp.2]
      exact q
    · cases e
  · split at e
    · rename_i hp
      cases e
      rw [Bool.and_eq_true] at hp
      refine op_neD (by omega) pins s σ H _ _ v u Q I rx ry ⟨_, _, VR.dp hp.1 ra, VR.dp hp.2 rb, VR.shaped hp.1 ra, VR.shaped hp.2 rb, ?_⟩
      rw [eqv_toD hp.1 hp.2]
      exact q
    · cases e
  · cases e; cases ra; cases rb
    exact op_lt pins s σ H _ _ v u Q I rx ry ⟨_, _, rfl, rfl, q⟩
  · cases e; cases ra; cases rb
    exact op_le pins s σ H _ _ v u Q I rx ry ⟨_, _, rfl, rfl, q⟩
  · cases e; cases ra; cases rb
    exact op_gt pins s σ H _ _ v u Q I rx ry ⟨_, _, rfl, rfl, q⟩
  · cases e; cases ra; cases rb
    exact op_ge pins s σ H _ _ v u Q I rx ry ⟨_, _, rfl, rfl, q⟩
  · cases rb
    refine op_isN pins s σ H _ _ v u Q I rx ry ⟨rfl, ?_⟩
    cases ra <;> (cases e; simpa using q)
  · cases rb
    refine op_notN pins s σ H _ _ v u Q I rx ry ⟨rfl, ?_⟩
    cases ra <;> (cases e; simpa using q)
  · rcases evIn_cases e with ⟨c, ys, rfl, rfl, rfl⟩ | ⟨ys, hp, hs, hps, rfl⟩
    · cases ra; cases rb
      refine op_in_sign pins s σ H _ _ v u Q I rx ry ⟨c, strV ys, rfl, rfl, ?_⟩
      rw [strV_cps]
      exact q
    · cases rb with
      | tup ht r =>
        cases hs
        refine in_tupD hu pins s σ H _ _ v u Q I rx ry ⟨_, toDs _, VR.dp hp ra, .tup ht (VRs.dp hps r), VR.shaped hp ra, (shaped_seq hps r).2, ?_⟩
        rw [any_toD hp hps]
        exact q
      | lst hl r =>
        cases hs
        refine op_inD hu pins s σ H _ _ v u Q I rx ry ⟨_, toDs _, VR.dp hp ra, .lst hl.sq (VRs.dp hps r), VR.shaped hp ra, (shaped_seq hps r).1, ?_⟩
        rw [any_toD hp hps]
        exact q
      | ref hk =>
        obtain ⟨a, vs, e2, hq, r⟩ := VR.listOf st (VR.ref hk) hs
        rw [e2] at ry
        refine op_inD hu pins s σ H _ _ v u Q I rx ry ⟨_, toDs _, VR.dp hp ra, .lst hq (VRs.dp hps r), VR.shaped hp ra, (shaped_seq hps r).1, ?_⟩
        rw [any_toD hp hps]
        exact q
      | non => exact nomatch hs
      | bl _ => exact nomatch hs
      | int _ => exact nomatch hs
      | str _ _ => exact nomatch hs
      | ty _ => exact nomatch hs
  · obtain ⟨w', e', rfl⟩ := Option.map_eq_some_iff.mp e
    rcases evIn_cases e' with ⟨c, ys, rfl, rfl, rfl⟩ | ⟨ys, hp, hs, hps, rfl⟩
    · cases ra; cases rb
      refine op_notIn_sign pins s σ H _ _ v u Q I rx ry ⟨c, strV ys, rfl, rfl, ?_⟩
      rw [strV_cps]
      exact q
    · cases rb with
      | tup ht r =>
        cases hs
        refine notIn_tupD hu pins s σ H _ _ v u Q I rx ry ⟨_, toDs _, VR.dp hp ra, .tup ht (VRs.dp hps r), VR.shaped hp ra, (shaped_seq hps r).2, ?_⟩
        rw [any_toD hp hps]
        exact q
      | lst hl r =>
        cases hs
        refine op_notInD hu pins s σ H _ _ v u Q I rx ry ⟨_, toDs _, VR.dp hp ra, .lst hl.sq (VRs.dp hps r), VR.shaped hp ra, (shaped_seq hps r).1, ?_⟩
        rw [any_toD hp hps]
        exact q
      | ref hk =>
        obtain ⟨a, vs, e2, hq, r⟩ := VR.listOf st (VR.ref hk) hs
        rw [e2] at ry
        refine op_notInD hu pins s σ H _ _ v u Q I rx ry ⟨_, toDs _, VR.dp hp ra, .lst hq (VRs.dp hps r), VR.shaped hp ra, (shaped_seq hps r).1, ?_⟩
        rw [any_toD hp hps]
        exact q
      | non => exact nomatch hs
      | bl _ => exact nomatch hs
      | int _ => exact nomatch hs
      | str _ _ => exact nomatch hs
      | ty _ => exact nomatch hs
  · cases e
end
end MK

set_option linter.all false
set_option autoImplicit false
set_option Elab.async false
set_option maxRecDepth 100000
set_option maxHeartbeats 4000000
/-! MkBlt: subscripts, slices, built-ins, methods. -/
namespace MK
open PySem PySem.Spec PyProof.Rows L2

theorem clip_sIx (n d : Nat) (o : Option Int) : HT.sIx n d o = clip n d o := by
  cases o <;> rfl
theorem cutV_eq (xs : List V) (lo hi : Option Int) : cutV xs lo hi = cut xs lo hi := by
  unfold cutV cut
  rw [clip_sIx, clip_sIx]
theorem cutS_eq (s : List Nat) (lo hi : Option Int) : cutS (strV s) lo hi = strV (cut s lo hi) := by
  unfold cutS cut
  rw [strV_length, strV_cps, clip_sIx, clip_sIx]
  rfl
theorem atI_of {α : Type} {xs : List α} {i : Int} {x : α} (h : ixAt xs i = some x) : atI xs i = some x := by
  unfold ixAt at h
  unfold atI ixN
  split at h
  · rename_i h0
    rw [if_pos h0]
    have hl := (List.getElem?_eq_some_iff.mp h).1
    rw [if_pos (by omega)]
    exact h
  · rename_i h0
    rw [if_neg h0]
    split at h
    · rename_i h1
      rw [if_pos h1]
      exact h
    · cases h
section
variable {K : PySem.W.Frag} {m : Mp} {n : Nat} {H : Hp}
theorem VRs.ix {xs : List PV} {vs : List V} {i : Int} {x : PV} (r : VRs K m n H xs vs) (h : ixAt xs i = some x) : ∃ v, atI vs i = some v ∧ VR K m n H x v := by
  have hl := r.length
  unfold ixAt at h
  split at h
  · rename_i h0
    obtain ⟨v, e, rv⟩ := r.get h
    exact ⟨v, atI_of (by unfold ixAt; rw [if_pos h0]; exact e), rv⟩
  · rename_i h0
    split at h
    · rename_i h1
      obtain ⟨v, e, rv⟩ := r.get h
      exact ⟨v, atI_of (by unfold ixAt; rw [if_neg h0, if_pos (by omega), ← hl]; exact e), rv⟩
    · cases h
theorem VRs.cut {xs : List PV} {vs : List V} (lo hi : Option Int) (r : VRs K m n H xs vs) : VRs K m n H (cut xs lo hi) (cut vs lo hi) := by
  unfold MK.cut
  rw [← r.length]
  exact (r.drop _).take _
theorem VRs.strs : ∀ {xs : List PV} {vs : List V} {ss : List (List Nat)}, VRs K m n H xs vs → strsOf xs = some ss → vs = (ss.map strV).map V.str ∧ ∀ s ∈ ss, okS s
  | [], _, ss, .nil, h => by cases h; exact ⟨rfl, fun s hs => by cases hs⟩
  | x :: xs, _ :: _, ss, .cons r t, h => by
    cases r with
    | str s hs =>
      obtain ⟨r, e, rfl⟩ := Option.map_eq_some_iff.mp (show (strsOf xs).map (s :: ·) = some ss from h)
      obtain ⟨e1, e2⟩ := VRs.strs t e
      refine ⟨by rw [e1]; rfl, fun z hz => ?_⟩
      rcases List.mem_cons.mp hz with rfl | hz
      · exact hs
      · exact e2 z hz
    | _ => exact nomatch h
theorem VRs.ints : ∀ {xs : List PV} {vs : List V} {ss : List Int}, VRs K m n H xs vs → intsOf xs = some ss → vs = ss.map V.int
  | [], _, ss, .nil, h => by cases h; rfl
  | x :: xs, _ :: _, ss, .cons r t, h => by
    cases r with
    | int s =>
      obtain ⟨r, e, rfl⟩ := Option.map_eq_some_iff.mp (show (intsOf xs).map (s :: ·) = some ss from h)
      rw [VRs.ints t e]
      rfl
    | _ => exact nomatch h
theorem VRs.bls : ∀ {xs : List PV} {vs : List V} {ss : List Bool}, VRs K m n H xs vs → blsOf xs = some ss → vs = ss.map V.bl
  | [], _, ss, .nil, h => by cases h; rfl
  | x :: xs, _ :: _, ss, .cons r t, h => by
    cases r with
    | bl s =>
      obtain ⟨r, e, rfl⟩ := Option.map_eq_some_iff.mp (show (blsOf xs).map (s :: ·) = some ss from h)
      rw [VRs.bls t e]
      rfl
    | _ => exact nomatch h
end

section
variable {X : Cx}
/-! ### subscripts -/
def rI (K : PySem.W.Frag) : R2 := fun x y H Q => ∃ S m u v w, StoreR K S m H ∧ VR K m S.length H u x ∧ VR K m S.length H v y ∧ evIx S u v = some w ∧ PEnd K S m H w Q
theorem ix_ev : IxR X (rI X.K) := by
  intro value slice pins s σ H x y v u Q I rx ry h hs
  obtain ⟨S, m, a, b, w, st, ra, rb, e, q⟩ := h
  unfold evIx at e
  split at e
  · rename_i z i
    obtain ⟨c, e1, rfl⟩ := Option.map_eq_some_iff.mp e
    have e0 := e1
    cases ra with
    | str _ hs1 =>
      cases rb
      have hm : c ∈ z := by
        unfold ixAt at e0
        split at e0
        · exact List.mem_of_getElem? e0
        · split at e0
          · exact List.mem_of_getElem? e0
          · cases e0
      exact ix_str value slice pins s σ H _ _ v u Q I rx ry ⟨strV z, _, c, rfl, rfl, by rw [strV_length, ← SZ_eq]; exact hs1.1, by rw [strV_cps]; exact atI_of e1, q.here st (.str [c] (hs1.one hm))⟩ hs
  · cases ra with
    | tup ht r =>
      cases rb
      obtain ⟨z, e1, r1⟩ := r.ix e
      exact ix_tup value slice pins s σ H _ _ v u Q I rx ry ⟨_, _, _, z, rfl, rfl, ht, e1, q.here st r1⟩ hs
  · split at e
    · rename_i xs hl
      obtain ⟨p, vs, e2, hq, r⟩ := VR.listOf st ra hl
      subst e2
      cases rb
      obtain ⟨z, e1, r1⟩ := r.ix e
      exact ix_list value slice pins s σ H _ _ v u Q I rx ry ⟨p, vs, _, z, rfl, rfl, hq, e1, q.here st r1⟩ hs
    · cases e
  · cases e
/-! ### slices -/
def rS (K : PySem.W.Frag) : V → Option Int → Option Int → Hp → VK → Prop := fun x lo hi H Q => ∃ S m u w, StoreR K S m H ∧ VR K m S.length H u x ∧ evSl S u lo hi = some w ∧ PEnd K S m H w Q
theorem cut_all {α : Type} {xs : List α} {lo hi : Option Int} (h1 : clip xs.length 0 lo = 0) (h2 : clip xs.length xs.length hi = xs.length) : cut xs lo hi = xs := by
  unfold cut
  rw [h1, h2]
  simp
theorem sl_ev : SlR X (rS X.K) := by
  intro pins s σ H x v vl vu lo hi sl Q I rx hs pl pu h
  obtain ⟨S, m, a, w, st, ra, e, q⟩ := h
  unfold evSl at e
  split at e
  · cases e
    cases ra with
    | str _ hs1 =>
      refine sl_str pins s σ H _ v vl vu lo hi sl Q I rx hs pl pu ⟨strV _, rfl, by rw [strV_length, ← SZ_eq]; exact hs1.1, ?_⟩
      rw [cutS_eq]
      exact q.here st (.str _ (hs1.cut lo hi))
  · cases e
    cases ra with
    | @tup p vs _ ht r =>
      have hl := r.length
      refine sl_tupA pins s σ H _ v vl vu lo hi sl Q I rx hs pl pu ⟨p, vs, rfl, ht, fun hw => ?_, fun hw p' hp => ?_⟩
      · rw [clip_sIx, clip_sIx, ← hl] at hw
        exact q.here st (by rw [cut_all hw.1 hw.2]; exact .tup ht r)
      · rw [cutV_eq]
        exact q.tup st hp (r.cut lo hi)
  · obtain ⟨xs, hl, rfl⟩ := Option.map_eq_some_iff.mp e
    obtain ⟨p, vs, e2, hq, r⟩ := VR.listOf st ra hl
    subst e2
    refine sl_list pins s σ H _ v vl vu lo hi sl Q I rx hs pl pu ⟨p, vs, rfl, hq, fun p' hp => ?_⟩
    rw [cutV_eq]
    exact q.lst st hp (r.cut lo hi)
/-! ### built-ins -/
def biId : BI → Value
  | .len => .builtin "len" | .int => .type "int" | .str => .type "str" | .abs => .builtin "abs" | .min2 => .builtin "min" | .max2 => .builtin "max"
  | .all => .builtin "all" | .any => .builtin "any" | .tuple => .type "tuple" | .list => .type "list"
def biName : BI → String
  | .len => "len" | .int => "int" | .str => "str" | .abs => "abs" | .min2 => "min" | .max2 => "max" | .all => "all" | .any => "any" | .tuple => "tuple" | .list => "list"
def rBI (K : PySem.W.Frag) (b : BI) : List V → Hp → VK → Prop := fun vs H Q => ∃ S m us w, StoreR K S m H ∧ VRs K m S.length H us vs ∧ evBI S b us = some w ∧ PEnd K S m H w Q
theorem log2_lt {n k : Nat} (h : n < 2 ^ k) (hk : 0 < k) : n.log2 < k := by
  by_cases h0 : n = 0
  · subst h0; simpa using hk
  · exact (Nat.log2_lt h0).mpr h
theorem call_ev (hc : X.calm = true) (b : BI) : CallR X (biId b) (rBI X.K b) := by
  intro pins s σ H xs us Q I r h
  obtain ⟨S, m, as, w, st, ra, e, q⟩ := h
  unfold evBI at e
  split at e
  · cases e
    cases ra with
    | cons r1 rn =>
      cases rn
      cases r1 with
      | str _ hs => exact call_len_str pins s σ H _ us Q I r ⟨strV _, rfl, by rw [strV_length, ← SZ_eq]; exact hs.1, by rw [strV_length]; exact q.here st (.int _)⟩
  · obtain ⟨ys, hl, rfl⟩ := Option.map_eq_some_iff.mp e
    cases ra with
    | cons r1 rn =>
      cases rn
      obtain ⟨p, vs, e2, hq, rs⟩ := VR.seqOf st r1 hl
      subst e2
      exact call_len_seq pins s σ H _ us Q I r ⟨p, vs, rfl, hq, by rw [← rs.length]; exact q.here st (.int _)⟩
  · cases e
    cases ra with
    | cons r1 rn =>
      cases rn
      cases r1
      exact call_int1 pins s σ H _ us Q I r (.inl ⟨_, rfl, q.here st (.int _)⟩)
  · cases e
    cases ra with
    | cons r1 rn =>
      cases rn
      cases r1
      exact call_int1 pins s σ H _ us Q I r (.inr ⟨_, rfl, q.here st (.int _)⟩)
  · split at e
    · rename_i hz
      obtain ⟨n, hn, rfl⟩ := Option.map_eq_some_iff.mp e
      cases ra with
      | cons r1 rn =>
        cases rn
        cases r1 with
        | str _ hs => exact call_int_str pins s σ H _ us Q I r ⟨strV _, n, rfl, int_text hz.1 hz.2 hn, by rw [strV_length]; exact hz.2, q.here st (.int _)⟩
    · cases e
  · split at e
    · rename_i hz
      cases e
      cases ra with
      | cons r1 rn =>
        cases rn
        cases r1 with
        | int _ =>
          rename_i i
          refine call_str_int pins s σ H _ us Q I r ⟨i, rfl, Nat.lt_trans (log2_lt (k := 1000) hz (by decide)) (by decide), ?_⟩
          have := q.here st (.str (figs i) (figs_ok i hz))
          rw [figs_str] at this
          exact this
    · cases e
  · cases e
    cases ra with
    | cons r1 rn =>
      cases rn
      cases r1
      exact call_abs pins s σ H _ us Q I r ⟨_, rfl, q.here st (.int _)⟩
  · cases e
    cases ra with
    | cons r1 rn =>
      cases rn with
      | cons r2 rn =>
        cases rn
        cases r1
        cases r2
        exact call_min2 hc pins s σ H _ us Q I r ⟨_, _, rfl, q.here st (.int _)⟩
  · cases e
    cases ra with
    | cons r1 rn =>
      cases rn with
      | cons r2 rn =>
        cases rn
        cases r1
        cases r2
        exact call_max2 hc pins s σ H _ us Q I r ⟨_, _, rfl, q.here st (.int _)⟩
  · split at e
    · rename_i ys hl
      obtain ⟨bs, hb, rfl⟩ := Option.map_eq_some_iff.mp e
      cases ra with
      | cons r1 rn =>
        cases rn
        obtain ⟨p, vs, e2, hq, rs⟩ := VR.listOf st r1 hl
        subst e2
        have := rs.bls hb
        subst this
        exact cr_all hc pins s σ H _ us Q I r ⟨p, bs, rfl, hq, q.here st (.bl _)⟩
    · cases e
  · split at e
    · rename_i ys hl
      obtain ⟨bs, hb, rfl⟩ := Option.map_eq_some_iff.mp e
      cases ra with
      | cons r1 rn =>
        cases rn
        obtain ⟨p, vs, e2, hq, rs⟩ := VR.listOf st r1 hl
        subst e2
        have := rs.bls hb
        subst this
        exact cr_any hc pins s σ H _ us Q I r ⟨p, bs, rfl, hq, q.here st (.bl _)⟩
    · cases e
  · obtain ⟨ys, hl, rfl⟩ := Option.map_eq_some_iff.mp e
    cases ra with
    | cons r1 rn =>
      cases rn
      obtain ⟨p, vs, e2, hq, rs⟩ := VR.seqOf st r1 hl
      subst e2
      refine call_tuple_of pins s σ H _ us Q I r ⟨p, vs, rfl, ?_⟩
      rcases hq with hq | hq
      · exact .inl ⟨hq, fun l hp => q.tup st hp rs⟩
      · exact .inr ⟨hq, q.here st (.tup hq rs)⟩
  · obtain ⟨ys, hl, rfl⟩ := Option.map_eq_some_iff.mp e
    cases ra with
    | cons r1 rn =>
      cases rn
      obtain ⟨p, vs, e2, hq, rs⟩ := VR.seqOf st r1 hl
      subst e2
      exact call_list_of pins s σ H _ us Q I r ⟨p, vs, rfl, hq, fun l hp => q.lst st hp rs⟩
  · cases e
/-! ### methods of texts -/
def bmId : BM → String
  | .index => "str.index" | .find => "str.find" | .find3 => "str.find" | .rjust => "str.rjust" | .split2 => "str.split" | .join => "str.join"
def bmName : BM → String
  | .index => "index" | .find => "find" | .find3 => "find" | .rjust => "rjust" | .split2 => "split" | .join => "join"
def rBM (K : PySem.W.Frag) (b : BM) : V → List V → Hp → VK → Prop := fun x vs H Q => ∃ S m u us w, StoreR K S m H ∧ VR K m S.length H u x ∧ VRs K m S.length H us vs ∧ evBM S b u us = some w ∧ PEnd K S m H w Q
theorem rNew_of {K : PySem.W.Frag} {S : Store} {m : Mp} {H : Hp} {Q : VK} {ss : List (List Nat)} (st : StoreR K S m H) (hs : ∀ s ∈ ss, okS s) (q : PEnd K S m H (.lst (ss.map PV.str)) Q) : rNewStrs (ss.map strV) H Q := by
  intro p hp
  refine q.lst st hp ?_
  clear q
  induction ss with
  | nil => exact .nil
  | cons s ss ih => exact .cons (.str s (hs s List.mem_cons_self)) (ih fun z hz => hs z (List.mem_cons_of_mem _ hz))
theorem mt_ev (b : BM) : MtR X (bmId b) (rBM X.K b) := by
  intro pins s σ H x xs v us Q I rx r h
  obtain ⟨S, m, a, as, w, st, ra, rs, e, q⟩ := h
  unfold evBM at e
  split at e
  · obtain ⟨k, hk, rfl⟩ := Option.map_eq_some_iff.mp e
    cases ra with
    | str _ hs =>
      cases rs with
      | cons r1 rn =>
        cases rn
        cases r1
        obtain ⟨t, rfl⟩ := rx
        cases r with
        | cons q1 qn =>
          cases qn
          obtain ⟨t', rfl⟩ := q1
          exact PySem.SC.index (i := k) (rest := []) (by rw [occ_all, hk]; rfl) ⟨.int k, H, I.tok _, ⟨_, rfl⟩, q.here st (.int _)⟩
  · cases e
    cases ra with
    | str _ hs =>
      cases rs with
      | cons r1 rn =>
        cases rn
        cases r1
        refine mt_find pins s σ H _ _ v us Q I rx r ⟨_, _, rfl, rfl, ?_⟩
        rw [find_text]
        exact q.here st (.int _)
  · split at e
    · rename_i hz
      cases e
      cases ra with
      | str _ hs =>
        cases rs with
        | cons r1 rn =>
          cases rn with
          | cons r2 rn =>
            cases rn
            cases r1
            cases r2
            refine mt_find3 pins s σ H _ _ v us Q I rx r ⟨_, _, _, rfl, rfl, ?_⟩
            rw [find3_text _ _ _ hz]
            exact q.here st (.int _)
    · cases e
  · split at e
    · rename_i hz
      cases e
      cases ra with
      | str _ hs =>
        cases rs with
        | cons r1 rn =>
          cases rn with
          | cons r2 rn =>
            cases rn
            cases r1
            cases r2 with
            | str _ hc =>
              obtain ⟨t, rfl⟩ := rx
              cases r with
              | cons q1 qn =>
                cases qn with
                | cons q2 qn =>
                  cases qn
                  obtain ⟨t1, rfl⟩ := q1
                  obtain ⟨t2, rfl⟩ := q2
                  rename_i z n c
                  have hp : PadOk n = true := by
                    unfold PadOk fitsSsize Builtin.Str.tooLong
                    simp only [Bool.and_eq_true, Bool.not_eq_true', Bool.or_eq_false_iff, decide_eq_false_iff_not]
                    refine ⟨⟨by omega, by omega⟩, ?_⟩
                    rw [sizeLine_eq]
                    omega
                  refine PyProof.Rows.rjust_fill hp (by rw [strV_length]; rfl) fun t' k => ?_
                  have ec : (strV [c]).cps.getD 0 0 = c := rfl
                  rw [ec, rjust_text]
                  refine ⟨.str _, H, I.tok k, ⟨t', rfl⟩, q.here st (.str _ ⟨?_, fun d hd => ?_⟩)⟩
                  · rw [List.length_append, List.length_replicate]
                    have : SZ = 16777216 := rfl
                    omega
                  · rcases List.mem_append.mp hd with hd | hd
                    · rw [(List.mem_replicate.mp hd).2]
                      exact hc.2 c (List.mem_singleton.mpr rfl)
                    · exact hs.2 d hd
    · cases e
  · split at e
    · rename_i hz
      cases e
      cases ra with
      | str _ hs =>
        cases rs with
        | cons r1 rn =>
          cases rn with
          | cons r2 rn =>
            cases rn
            cases r1 with
            | str _ hc =>
              cases r2
              refine mt_splitMax pins s σ H _ _ v us Q I rx r ⟨_, _, 1, rfl, rfl, by rw [strV_length]; rfl, by decide, by decide, by rw [strV_length, ← SZ_eq]; exact hz, ?_⟩
              rw [split_text]
              rename_i z c
              cases hf : findC c z 0 with
              | none =>
                rw [hf] at q
                exact rNew_of (ss := [z]) st (fun y hy => by rw [List.mem_singleton.mp hy]; exact hs) q
              | some k =>
                rw [hf] at q
                refine rNew_of (ss := [z.take k, z.drop (k + 1)]) st (fun y hy => ?_) q
                rcases List.mem_cons.mp hy with rfl | hy
                · exact hs.sub (by rw [List.length_take]; omega) fun c hc => List.mem_of_mem_take hc
                · rw [List.mem_singleton.mp hy]
                  exact hs.sub (by rw [List.length_drop]; omega) fun c hc => List.mem_of_mem_drop hc
    · cases e
  · split at e
    · rename_i ys hl
      split at e
      · rename_i ss hss
        split at e
        · rename_i hz
          cases e
          cases ra with
          | str _ hs =>
            cases rs with
            | cons r1 rn =>
              cases rn
              obtain ⟨p, vs, e2, hq, rs⟩ := VR.listOf st r1 hl
              subst e2
              obtain ⟨e3, e4⟩ := rs.strs hss
              subst e3
              refine mt_join pins s σ H _ _ v us Q I rx r ⟨_, p, ss.map strV, rfl, rfl, .inl hq, ?_, ?_⟩
              · rw [List.map_map, strV_length, List.length_map]
                have : (ss.map ((fun x => x.length) ∘ strV)) = ss.map List.length := List.map_congr_left fun z _ => strV_length z
                rw [this]
                exact hz
              · rw [join_text]
                refine q.here st (.str _ ⟨Nat.le_trans (joinL_len _ ss) hz, fun c hc => ?_⟩)
                rcases joinL_mem _ ss c hc with h | ⟨z, h1, h2⟩
                · exact hs.2 c h
                · exact (e4 z h1).2 c h2
        · cases e
      · cases e
    · cases e
  · cases e
end
end MK

set_option linter.all false
set_option autoImplicit false
set_option Elab.async false
set_option maxRecDepth 100000
set_option maxHeartbeats 4000000
/-! MkPE: each construct's reading, by what its parts come to. -/
namespace MK
open PySem PySem.Spec PyProof.Rows L2

structure EnvR (K : PySem.W.Frag) (ρ : Env) (m : Mp) (n : Nat) (H : Hp) (σ : L2.St) : Prop where
  len : ρ.length = σ.length
  get : ∀ (i : Nat) (v : PV), ρ[i]? = some (some v) → ∃ x, σ[i]? = some (some x) ∧ VR K m n H v x
structure Good (K : PySem.W.Frag) (ρ : Env) (S : Store) (m : Mp) (σ : L2.St) (H : Hp) : Prop where
  env : EnvR K ρ m S.length H σ
  st : StoreR K S m H

section
variable (K : PySem.W.Frag) (xC : Xs)
/-- what is wanted of an outcome, from the state (m, S, H) on -/
def OP {α : Type} (W : WX) (σ : L2.St) (m : Mp) (S : Store) (H : Hp) (R : α → Store → Mp → Hp → Prop) : Out α → Prop
  | .ok a S' => ∀ m' H', Ext m S.length H m' S'.length H' → StoreR K S' m' H' → R a S' m' H'
  | .exc c as S' => ∀ m' H', Ext m S.length H m' S'.length H' → StoreR K S' m' H' → ∀ d, XD xC c as d H' → W (.ref (xC.a c)) d σ H'
  | .bad => False
def tE (W : WX) (f : Env → Store → Out PV) : TE := fun σ H Q => ∃ ρ S m, Good K ρ S m σ H ∧
  OP K xC W σ m S H (fun v S' m' H' => ∀ x, VR K m' S'.length H' v x → Q x H') (f ρ S)
def tT (W : WX) (f : Env → Store → Out PV) : TT := fun σ H Q => ∃ ρ S m, Good K ρ S m σ H ∧
  OP K xC W σ m S H (fun v S' m' H' => ∃ b, v = .bl b ∧ Q b H') (f ρ S)
def tA (W : WX) (f : Env → Store → Out (List PV)) : TA := fun σ H Q => ∃ ρ S m, Good K ρ S m σ H ∧
  OP K xC W σ m S H (fun v S' m' H' => ∀ x, VRs K m' S'.length H' v x → Q x H') (f ρ S)
end

section
variable {K : PySem.W.Frag} {xC : Xs} {W : WX} {σ : L2.St} {m m' : Mp} {S S' : Store} {H H' : Hp} {ρ : Env} {α β : Type}
theorem EnvR.on (st : StoreR K S m H) {n' : Nat} (ex : Ext m S.length H m' n' H') (e : EnvR K ρ m S.length H σ) : EnvR K ρ m' n' H' σ :=
  ⟨e.len, fun i v h => let ⟨x, h1, h2⟩ := e.get i v h; ⟨x, h1, VR.on st ex h2⟩⟩
theorem Good.on (g : Good K ρ S m σ H) (ex : Ext m S.length H m' S'.length H') (st : StoreR K S' m' H') : Good K ρ S' m' σ H' := ⟨g.env.on g.st ex, st⟩
theorem OP.ext {R : α → Store → Mp → Hp → Prop} (ex : Ext m S.length H m' S'.length H') : ∀ {o : Out α}, OP K xC W σ m S H R o → OP K xC W σ m' S' H' R o
  | .ok a S2, h => fun m2 H2 e s => h m2 H2 (ex.trans e) s
  | .exc c as S2, h => fun m2 H2 e s => h m2 H2 (ex.trans e) s
  | .bad, h => h
theorem OP.imp {R R' : α → Store → Mp → Hp → Prop} (i : ∀ a S' m' H', Ext m S.length H m' S'.length H' → StoreR K S' m' H' → R a S' m' H' → R' a S' m' H') : ∀ {o : Out α}, OP K xC W σ m S H R o → OP K xC W σ m S H R' o
  | .ok a S2, h => fun m2 H2 e s => i _ _ _ _ e s (h m2 H2 e s)
  | .exc c as S2, h => h
  | .bad, h => h
theorem OP.bind {R : β → Store → Mp → Hp → Prop} {f : α → Store → Out β} : ∀ {o : Out α}, OP K xC W σ m S H R (o.bind f) → OP K xC W σ m S H (fun a S1 m1 H1 => OP K xC W σ m1 S1 H1 R (f a S1)) o
  | .ok a S2, h => fun m2 H2 e s => OP.ext e h
  | .exc c as S2, h => h
  | .bad, h => h
theorem OP.lift {R : α → Store → Mp → Hp → Prop} : ∀ {o : Option α}, OP K xC W σ m S H R (lift S o) → ∃ a, o = some a ∧ ∀ m' H', Ext m S.length H m' S.length H' → StoreR K S m' H' → R a S m' H'
  | some a, h => ⟨a, rfl, h⟩
  | none, h => h.elim
/-- a plain value behind an operator -/
theorem PEnd.of {w : PV} {Q : VK} (h : ∀ m' H', Ext m S.length H m' S.length H' → StoreR K S m' H' → ∀ x, VR K m' S.length H' w x → Q x H') : PEnd K S m H w Q := fun H' e s z r => h m H' e s z r
end

section
variable {X : Cx} {xC : Xs} {W : WX}
theorem _root_.L2.PE.imp {e : Expr} {t t' : TE} (h : PE X e t) (i : ∀ σ H Q, t' σ H Q → t σ H Q) : PE X e t' := ⟨fun pins s σ H Q I q => h.run pins s σ H Q I (i σ H Q q)⟩
theorem _root_.L2.PT.imp {e : Expr} {t t' : TT} (h : PT X e t) (i : ∀ σ H Q, t' σ H Q → t σ H Q) : PT X e t' := ⟨fun pins s σ H Q I q => h.run pins s σ H Q I (i σ H Q q)⟩
theorem _root_.L2.PW.imp {e : Expr} {t t' : TT} (h : PW X e t) (i : ∀ σ H Q, t' σ H Q → t σ H Q) : PW X e t' := ⟨fun wh pins s σ H Q I q => h.run wh pins s σ H Q I (i σ H Q q)⟩
theorem _root_.L2.PA.imp {e : List Expr} {t t' : TA} (h : PA X e t) (i : ∀ σ H Q, t' σ H Q → t σ H Q) : PA X e t' := ⟨fun p pins s σ H Q I q => h.run p pins s σ H Q I (i σ H Q q)⟩
theorem _root_.L2.PS.imp {e : Stmt} {t t' : TS} (h : PS X e t) (i : ∀ D σ H, t' D σ H → t D σ H) : PS X e t' := ⟨fun pins s σ H D I q => h.run pins s σ H D I (i D σ H q)⟩
theorem _root_.L2.PSs.imp {e : List Stmt} {t t' : TS} (h : PSs X e t) (i : ∀ D σ H, t' D σ H → t D σ H) : PSs X e t' := ⟨fun pins s σ H D I q => h.run pins s σ H D I (i D σ H q)⟩
variable {a b c : Expr} {f g h : Env → Store → Out PV} {pos : Pos}

theorem e_var {i : Nat} {x : Str} (hN : X.N[i]? = some x) (hv : Vis X.env.scope x) (hd : (x == ("__debug__" : Str)) = false) (hcd : (x == ("__classdict__" : Str)) = false) :
    PE X (.Name x pos) (tE X.K xC W fun ρ S => match ρ[i]? with | some (some v) => .ok v S | _ => .bad) := by
  refine (pe_var hN hv hd hcd).imp fun σ H Q ⟨ρ, S, m, G, q⟩ => ?_
  dsimp only at q
  split at q
  · rename_i v hv'
    obtain ⟨x, h1, h2⟩ := G.env.get i v hv'
    exact ⟨x, h1, q m H (Ext.refl G.st) G.st x h2⟩
  · exact q.elim
theorem e_const {v : PV} {x : V} {e : Expr} (h : PE X e (tC x)) (r : ∀ m n H, VR X.K m n H v x) : PE X e (tE X.K xC W fun _ S => .ok v S) := by
  refine h.imp fun σ H Q ⟨ρ, S, m, G, q⟩ => ?_
  exact q m H (Ext.refl G.st) G.st x (r _ _ _)
theorem e_bin (op : BO) (ha : PE X a (tE X.K xC W f)) (hb : PE X b (tE X.K xC W g)) :
    PE X (.BinOp a (opOf op) b pos) (tE X.K xC W fun ρ S => (f ρ S).bind fun x S1 => (g ρ S1).bind fun y S2 => lift S2 (evBin S2 op x y)) := by
  refine (pe_op (op_bin op) ha hb).imp fun σ H Q ⟨ρ, S, m, G, q⟩ => ?_
  refine ⟨ρ, S, m, G, q.bind.imp fun x S1 m1 H1 e1 s1 q1 v1 r1 => ?_⟩
  refine ⟨ρ, S1, m1, G.on e1 s1, q1.bind.imp fun y S2 m2 H2 e2 s2 q2 v2 r2 => ?_⟩
  obtain ⟨w, hw, q3⟩ := q2.lift
  exact ⟨S2, m2, x, y, w, s2, VR.on s1 e2 r1, r2, hw, PEnd.of q3⟩
theorem e_neg (ha : PE X a (tE X.K xC W f)) : PE X (.UnaryOp .USub a pos) (tE X.K xC W fun ρ S => (f ρ S).bind fun x S1 => match x with | .int i => .ok (.int (-i)) S1 | _ => .bad) := by
  refine (pe_un un_neg ha).imp fun σ H Q ⟨ρ, S, m, G, q⟩ => ?_
  refine ⟨ρ, S, m, G, q.bind.imp fun x S1 m1 H1 e1 s1 q1 v1 r1 => ?_⟩
  cases x with
  | int i =>
    cases r1
    exact ⟨i, rfl, q1 m1 H1 (Ext.refl s1) s1 _ (.int _)⟩
  | _ => exact q1.elim
theorem e_cmp (op : CO) (hu : X.A.units + 65 < cLine) (ha : PE X a (tE X.K xC W f)) (hb : PE X b (tE X.K xC W g)) (hm : behindInMarks (cmpOf op) b = false) :
    PE X (.Compare a [cmpOf op] [b] pos) (tE X.K xC W fun ρ S => (f ρ S).bind fun x S1 => (g ρ S1).bind fun y S2 => lift S2 ((evCmp S2 op x y).map PV.bl)) := by
  refine (pe_cmpR (op_cmp op hu) ha hb hm).imp fun σ H Q ⟨ρ, S, m, G, q⟩ => ?_
  refine ⟨ρ, S, m, G, q.bind.imp fun x S1 m1 H1 e1 s1 q1 v1 r1 => ?_⟩
  refine ⟨ρ, S1, m1, G.on e1 s1, q1.bind.imp fun y S2 m2 H2 e2 s2 q2 v2 r2 => ?_⟩
  obtain ⟨w, hw, q3⟩ := q2.lift
  obtain ⟨k, hk, rfl⟩ := Option.map_eq_some_iff.mp hw
  exact ⟨S2, m2, x, y, k, s2, VR.on s1 e2 r1, r2, hk, q3 m2 H2 (Ext.refl s2) s2 _ (.bl k)⟩
theorem t_cmp (op : CO) (hu : X.A.units + 65 < cLine) (ha : PE X a (tE X.K xC W f)) (hb : PE X b (tE X.K xC W g)) (hm : behindInMarks (cmpOf op) b = false) :
    PT X (.Compare a [cmpOf op] [b] pos) (tT X.K xC W fun ρ S => (f ρ S).bind fun x S1 => (g ρ S1).bind fun y S2 => lift S2 ((evCmp S2 op x y).map PV.bl)) := by
  refine (pt_cmpR (op_cmp op hu) ha hb hm).imp fun σ H Q ⟨ρ, S, m, G, q⟩ => ?_
  refine ⟨ρ, S, m, G, q.bind.imp fun x S1 m1 H1 e1 s1 q1 v1 r1 => ?_⟩
  refine ⟨ρ, S1, m1, G.on e1 s1, q1.bind.imp fun y S2 m2 H2 e2 s2 q2 v2 r2 => ?_⟩
  obtain ⟨w, hw, q3⟩ := q2.lift
  obtain ⟨k, hk, rfl⟩ := Option.map_eq_some_iff.mp hw
  obtain ⟨b, eb, q4⟩ := q3 m2 H2 (Ext.refl s2) s2
  cases eb
  exact ⟨S2, m2, x, y, k, s2, VR.on s1 e2 r1, r2, hk, k, rfl, q4⟩
/-- a op b op c -/
def chainF (p q : CO) (f g h : Env → Store → Out PV) : Env → Store → Out PV := fun ρ S => (f ρ S).bind fun x S1 => (g ρ S1).bind fun y S2 => match evCmp S2 p x y with
  | some true => (h ρ S2).bind fun z S3 => lift S3 ((evCmp S3 q y z).map PV.bl)
  | some false => .ok (.bl false) S2
  | none => .bad
theorem e_chain (p p' : CO) (hu : X.A.units + 65 < cLine) (ha : PE X a (tE X.K xC W f)) (hb : PE X b (tE X.K xC W g)) (hc : PE X c (tE X.K xC W h)) (hm : lastMarks [cmpOf p, cmpOf p'] [b, c] = false) :
    PE X (.Compare a [cmpOf p, cmpOf p'] [b, c] pos) (tE X.K xC W (chainF p p' f g h)) := by
  refine (pe_chain (op_cmp p hu) (op_cmp p' hu) ha hb hc hm).imp fun σ H Q ⟨ρ, S, m, G, q⟩ => ?_
  refine ⟨ρ, S, m, G, OP.imp (fun x S1 m1 H1 e1 s1 q1 v1 r1 => ?_) (OP.bind q)⟩
  refine ⟨ρ, S1, m1, G.on e1 s1, q1.bind.imp fun y S2 m2 H2 e2 s2 q2 v2 r2 => ?_⟩
  split at q2
  · rename_i hk
    refine ⟨S2, m2, x, y, true, s2, VR.on s1 e2 r1, r2, hk, true, rfl, iteT ?_⟩
    refine ⟨ρ, S2, m2, (G.on e1 s1).on e2 s2, q2.bind.imp fun z S3 m3 H3 e3 s3 q3 v3 r3 => ?_⟩
    obtain ⟨w, hw, q4⟩ := q3.lift
    obtain ⟨k, hk, rfl⟩ := Option.map_eq_some_iff.mp hw
    exact ⟨S3, m3, y, z, k, s3, VR.on s2 e3 r2, r3, hk, q4 m3 H3 (Ext.refl s3) s3 _ (.bl k)⟩
  · rename_i hk
    exact ⟨S2, m2, x, y, false, s2, VR.on s1 e2 r1, r2, hk, false, rfl, iteF (q2 m2 H2 (Ext.refl s2) s2 _ (.bl false))⟩
  · exact q2.elim
theorem t_chain (p p' : CO) (hu : X.A.units + 65 < cLine) (ha : PE X a (tE X.K xC W f)) (hb : PE X b (tE X.K xC W g)) (hc : PE X c (tE X.K xC W h)) (hm : lastMarks [cmpOf p, cmpOf p'] [b, c] = false) :
    PT X (.Compare a [cmpOf p, cmpOf p'] [b, c] pos) (tT X.K xC W (chainF p p' f g h)) := by
  refine (pt_chain (op_cmp p hu) (op_cmp p' hu) ha hb hc hm).imp fun σ H Q ⟨ρ, S, m, G, q⟩ => ?_
  refine ⟨ρ, S, m, G, OP.imp (fun x S1 m1 H1 e1 s1 q1 v1 r1 => ?_) (OP.bind q)⟩
  refine ⟨ρ, S1, m1, G.on e1 s1, q1.bind.imp fun y S2 m2 H2 e2 s2 q2 v2 r2 => ?_⟩
  split at q2
  · rename_i hk
    refine ⟨S2, m2, x, y, true, s2, VR.on s1 e2 r1, r2, hk, true, rfl, iteT ?_⟩
    refine ⟨ρ, S2, m2, (G.on e1 s1).on e2 s2, q2.bind.imp fun z S3 m3 H3 e3 s3 q3 v3 r3 => ?_⟩
    obtain ⟨w, hw, q4⟩ := q3.lift
    obtain ⟨k, hk, rfl⟩ := Option.map_eq_some_iff.mp hw
    obtain ⟨b, eb, q5⟩ := q4 m3 H3 (Ext.refl s3) s3
    cases eb
    exact ⟨S3, m3, y, z, k, s3, VR.on s2 e3 r2, r3, hk, k, rfl, q5⟩
  · rename_i hk
    obtain ⟨b, eb, q5⟩ := q2 m2 H2 (Ext.refl s2) s2
    cases eb
    exact ⟨S2, m2, x, y, false, s2, VR.on s1 e2 r1, r2, hk, false, rfl, iteF ⟨false, rfl, q5⟩⟩
  · exact q2.elim
theorem e_not (ha : PE X a (tE X.K xC W f)) : PE X (.UnaryOp .Not a pos) (tE X.K xC W fun ρ S => (f ρ S).bind fun x S1 => match x with | .bl b => .ok (.bl (!b)) S1 | _ => .bad) := by
  refine (pe_not ha).imp fun σ H Q ⟨ρ, S, m, G, q⟩ => ?_
  refine ⟨ρ, S, m, G, q.bind.imp fun x S1 m1 H1 e1 s1 q1 v1 r1 => ?_⟩
  cases x with
  | bl i =>
    cases r1
    exact ⟨i, rfl, q1 m1 H1 (Ext.refl s1) s1 _ (.bl _)⟩
  | _ => exact q1.elim
theorem t_not (ha : PT X a (tT X.K xC W f)) : PT X (.UnaryOp .Not a pos) (tT X.K xC W fun ρ S => (f ρ S).bind fun x S1 => match x with | .bl b => .ok (.bl (!b)) S1 | _ => .bad) := by
  refine (pt_not ha).imp fun σ H Q ⟨ρ, S, m, G, q⟩ => ?_
  refine ⟨ρ, S, m, G, q.bind.imp fun x S1 m1 H1 e1 s1 q1 => ?_⟩
  cases x with
  | bl i =>
    obtain ⟨b, eb, q2⟩ := q1 m1 H1 (Ext.refl s1) s1
    cases eb
    exact ⟨i, rfl, q2⟩
  | _ => exact q1.elim
/-- a test by its value -/
theorem t_val (ha : PE X a (tE X.K xC W f)) (he : ∀ whole, isTrue a X.env whole = (do let v ← whole; standAt a.pos; holding [v] (truthy v))) : PT X a (tT X.K xC W f) := by
  refine (pt_val ha he).imp fun σ H Q ⟨ρ, S, m, G, q⟩ => ?_
  refine ⟨ρ, S, m, G, q.imp fun x S1 m1 H1 e1 s1 q1 v1 r1 => ?_⟩
  obtain ⟨b, rfl, q2⟩ := q1
  cases r1
  exact ⟨b, rfl, q2⟩
/-- a if t else b, and the like -/
def iteF3 (t f g : Env → Store → Out PV) : Env → Store → Out PV := fun ρ S => (t ρ S).bind fun x S1 => match x with
  | .bl true => f ρ S1
  | .bl false => g ρ S1
  | _ => .bad
theorem e_ite {t : Expr} {k : Env → Store → Out PV} (ht : PT X t (tT X.K xC W k)) (ha : PE X a (tE X.K xC W f)) (hb : PE X b (tE X.K xC W g)) : PE X (.IfExp t a b pos) (tE X.K xC W (iteF3 k f g)) := by
  refine (pe_ifExp ht ha hb).imp fun σ H Q ⟨ρ, S, m, G, q⟩ => ?_
  refine ⟨ρ, S, m, G, OP.imp (fun x S1 m1 H1 e1 s1 q1 => ?_) (OP.bind q)⟩
  cases x with
  | bl i =>
    refine ⟨i, rfl, ?_⟩
    cases i with
    | true => exact iteT ⟨ρ, S1, m1, G.on e1 s1, q1⟩
    | false => exact iteF ⟨ρ, S1, m1, G.on e1 s1, q1⟩
  | _ => exact q1.elim
theorem t_ite {t : Expr} {k : Env → Store → Out PV} (ht : PT X t (tT X.K xC W k)) (ha : PT X a (tT X.K xC W f)) (hb : PT X b (tT X.K xC W g)) : PT X (.IfExp t a b pos) (tT X.K xC W (iteF3 k f g)) := by
  refine ⟨fun pins s σ H Q I ⟨ρ, S, m, G, q⟩ => ?_⟩
  show wpAny _ _ (do if ← isTrue t X.env (eval t X.env) then isTrue a X.env (eval a X.env) else isTrue b X.env (eval b X.env)) _ _ s
  refine wpAny_bind (thn (ht.run pins s σ H (fun i H1 => ∃ S1 m1, Good X.K ρ S1 m1 σ H1 ∧ OP X.K xC W σ m1 S1 H1 (fun v S' m' H' => ∃ b, v = .bl b ∧ Q b H') (if i = true then f ρ S1 else g ρ S1)) I ⟨ρ, S, m, G, OP.imp (fun x S1 m1 H1 e1 s1 q1 => ?_) (OP.bind q)⟩) fun i s1 ⟨H1, I1, S1, m1, G1, q1⟩ => ?_)
  · cases x with
    | bl i =>
      refine ⟨i, rfl, S1, m1, G.on e1 s1, ?_⟩
      cases i with
      | true => exact q1
      | false => exact q1
    | _ => exact q1.elim
  · cases i with
    | true => exact ha.run pins s1 σ H1 Q I1 ⟨ρ, S1, m1, G1, q1⟩
    | false => exact hb.run pins s1 σ H1 Q I1 ⟨ρ, S1, m1, G1, q1⟩
def andF (f g : Env → Store → Out PV) : Env → Store → Out PV := fun ρ S => (f ρ S).bind fun v S1 => match v with
  | .bl true => g ρ S1
  | .bl false => .ok (.bl false) S1
  | _ => .bad
def orF (f g : Env → Store → Out PV) : Env → Store → Out PV := fun ρ S => (f ρ S).bind fun v S1 => match v with
  | .bl false => g ρ S1
  | .bl true => .ok (.bl true) S1
  | _ => .bad
variable {rest : List Expr}
theorem e_and (ha : PE X a (tE X.K xC W f)) (hb : PE X (.BoolOp .And (b :: rest) pos) (tE X.K xC W g)) : PE X (.BoolOp .And (a :: b :: rest) pos) (tE X.K xC W (andF f g)) := by
  refine (pe_and ha hb).imp fun σ H Q ⟨ρ, S, m, G, q⟩ => ?_
  refine ⟨ρ, S, m, G, OP.imp (fun x S1 m1 H1 e1 s1 q1 v1 r1 => ?_) (OP.bind q)⟩
  cases x with
  | bl i =>
    cases r1
    refine ⟨i, rfl, ?_⟩
    cases i with
    | true => exact iteT ⟨ρ, S1, m1, G.on e1 s1, q1⟩
    | false => exact iteF (q1 m1 H1 (Ext.refl s1) s1 _ (.bl false))
  | _ => exact q1.elim
theorem e_or (ha : PE X a (tE X.K xC W f)) (hb : PE X (.BoolOp .Or (b :: rest) pos) (tE X.K xC W g)) : PE X (.BoolOp .Or (a :: b :: rest) pos) (tE X.K xC W (orF f g)) := by
  refine (pe_or ha hb).imp fun σ H Q ⟨ρ, S, m, G, q⟩ => ?_
  refine ⟨ρ, S, m, G, OP.imp (fun x S1 m1 H1 e1 s1 q1 v1 r1 => ?_) (OP.bind q)⟩
  cases x with
  | bl i =>
    cases r1
    refine ⟨i, rfl, ?_⟩
    cases i with
    | false => exact iteF ⟨ρ, S1, m1, G.on e1 s1, q1⟩
    | true => exact iteT (q1 m1 H1 (Ext.refl s1) s1 _ (.bl true))
  | _ => exact q1.elim
theorem w_and (ha : PT X a (tT X.K xC W f)) (hb : PW X (.BoolOp .And (b :: rest) pos) (tT X.K xC W g)) : PW X (.BoolOp .And (a :: b :: rest) pos) (tT X.K xC W (andF f g)) := by
  refine (pw_and ha hb).imp fun σ H Q ⟨ρ, S, m, G, q⟩ => ?_
  refine ⟨ρ, S, m, G, OP.imp (fun x S1 m1 H1 e1 s1 q1 => ?_) (OP.bind q)⟩
  cases x with
  | bl i =>
    refine ⟨i, rfl, ?_⟩
    cases i with
    | true => exact iteT ⟨ρ, S1, m1, G.on e1 s1, q1⟩
    | false =>
      obtain ⟨b, eb, q2⟩ := q1 m1 H1 (Ext.refl s1) s1
      cases eb
      exact iteF q2
  | _ => exact q1.elim
theorem w_or (ha : PT X a (tT X.K xC W f)) (hb : PW X (.BoolOp .Or (b :: rest) pos) (tT X.K xC W g)) : PW X (.BoolOp .Or (a :: b :: rest) pos) (tT X.K xC W (orF f g)) := by
  refine (pw_or ha hb).imp fun σ H Q ⟨ρ, S, m, G, q⟩ => ?_
  refine ⟨ρ, S, m, G, OP.imp (fun x S1 m1 H1 e1 s1 q1 => ?_) (OP.bind q)⟩
  cases x with
  | bl i =>
    refine ⟨i, rfl, ?_⟩
    cases i with
    | false => exact iteF ⟨ρ, S1, m1, G.on e1 s1, q1⟩
    | true =>
      obtain ⟨b, eb, q2⟩ := q1 m1 H1 (Ext.refl s1) s1
      cases eb
      exact iteT q2
  | _ => exact q1.elim

/-! ### subscripts, slices -/
theorem e_ix (ha : PE X a (tE X.K xC W f)) (hb : PE X b (tE X.K xC W g)) (hs : PlainIx b) : PE X (.Subscript a b pos) (tE X.K xC W fun ρ S => (f ρ S).bind fun x S1 => (g ρ S1).bind fun y S2 => lift S2 (evIx S2 x y)) := by
  refine (pe_ix ix_ev ha hb hs).imp fun σ H Q ⟨ρ, S, m, G, q⟩ => ?_
  refine ⟨ρ, S, m, G, q.bind.imp fun x S1 m1 H1 e1 s1 q1 v1 r1 => ?_⟩
  refine ⟨ρ, S1, m1, G.on e1 s1, q1.bind.imp fun y S2 m2 H2 e2 s2 q2 v2 r2 => ?_⟩
  obtain ⟨w, hw, q3⟩ := q2.lift
  exact ⟨S2, m2, x, y, w, s2, VR.on s1 e2 r1, r2, hw, PEnd.of q3⟩
def tO (K : PySem.W.Frag) (xC : Xs) (W : WX) (f : Env → Store → Out (Option Int)) : TO := fun σ H Q => ∃ ρ S m, Good K ρ S m σ H ∧
  OP K xC W σ m S H (fun i S' m' H' => Q i H') (f ρ S)
theorem _root_.L2.PO.imp {e : Option Expr} {t t' : TO} (h : PO X e t) (i : ∀ σ H Q, t' σ H Q → t σ H Q) : PO X e t' := ⟨fun pins s σ H Q I q => h.run pins s σ H Q I (i σ H Q q)⟩
theorem o_none : PO X none (tO X.K xC W fun _ S => .ok none S) := by
  refine po_none.imp fun σ H Q ⟨ρ, S, m, G, q⟩ => ?_
  exact q m H (Ext.refl G.st) G.st
theorem o_some (ha : PE X a (tE X.K xC W f)) : PO X (some a) (tO X.K xC W fun ρ S => (f ρ S).bind partI) := by
  refine (po_some ha).imp fun σ H Q ⟨ρ, S, m, G, q⟩ => ?_
  refine ⟨ρ, S, m, G, OP.imp (fun x S1 m1 H1 e1 s1 q1 v1 r1 => ?_) (OP.bind q)⟩
  cases x with
  | int j =>
    cases r1
    exact ⟨j, rfl, q1 m1 H1 (Ext.refl s1) s1⟩
  | _ => exact q1.elim
def slF (f : Env → Store → Out PV) (g h : Env → Store → Out (Option Int)) : Env → Store → Out PV := fun ρ S => (f ρ S).bind fun x S1 => (g ρ S1).bind fun lo' S2 => (h ρ S2).bind fun hi' S3 => lift S3 (evSl S3 x lo' hi')
theorem e_sl {lo hi : Option Expr} {p2 : Pos} {g h : Env → Store → Out (Option Int)} (ha : PE X a (tE X.K xC W f)) (hl : PO X lo (tO X.K xC W g)) (hh : PO X hi (tO X.K xC W h)) : PE X (.Subscript a (.Slice lo hi none p2) pos) (tE X.K xC W (slF f g h)) := by
  refine (pe_slice sl_ev ha hl hh).imp fun σ H Q ⟨ρ, S, m, G, q⟩ => ?_
  refine ⟨ρ, S, m, G, OP.imp (fun x S1 m1 H1 e1 s1 q1 v1 r1 => ?_) (OP.bind q)⟩
  refine ⟨ρ, S1, m1, G.on e1 s1, q1.bind.imp fun y S2 m2 H2 e2 s2 q2 => ?_⟩
  refine ⟨ρ, S2, m2, (G.on e1 s1).on e2 s2, q2.bind.imp fun z S3 m3 H3 e3 s3 q3 => ?_⟩
  obtain ⟨w, hw, q4⟩ := q3.lift
  exact ⟨S3, m3, x, w, s3, VR.on s1 (e2.trans e3) r1, hw, PEnd.of q4⟩

/-! ### lists of expressions, displays -/
theorem a_nil : PA X [] (tA X.K xC W fun _ S => .ok [] S) := by
  refine pa_nil.imp fun σ H Q ⟨ρ, S, m, G, q⟩ => ?_
  exact q m H (Ext.refl G.st) G.st _ .nil
def consF (f : Env → Store → Out PV) (g : Env → Store → Out (List PV)) : Env → Store → Out (List PV) := fun ρ S => (f ρ S).bind fun v S1 => (g ρ S1).bind fun vs S2 => .ok (v :: vs) S2
theorem a_cons {es : List Expr} {g : Env → Store → Out (List PV)} (ha : PE X a (tE X.K xC W f)) (hr : PA X es (tA X.K xC W g)) (hs : starEach (a :: es) X.env = (false, eval a X.env) :: starEach es X.env) : PA X (a :: es) (tA X.K xC W (consF f g)) := by
  refine (pa_cons ha hr hs).imp fun σ H Q ⟨ρ, S, m, G, q⟩ => ?_
  refine ⟨ρ, S, m, G, OP.imp (fun x S1 m1 H1 e1 s1 q1 v1 r1 => ?_) (OP.bind q)⟩
  refine ⟨ρ, S1, m1, G.on e1 s1, q1.bind.imp fun y S2 m2 H2 e2 s2 q2 v2 r2 => ?_⟩
  exact q2 m2 H2 (Ext.refl s2) s2 _ (.cons (VR.on s1 e2 r1) r2)
variable {es : List Expr} {l : Env → Store → Out (List PV)}
theorem e_tup {k : Nat} (h : PA X es (tA X.K xC W l)) : PE X (.Tuple es k pos) (tE X.K xC W fun ρ S => (l ρ S).bind fun vs S' => if vs.length ≤ SZ then .ok (.tup vs) S' else .bad) := by
  refine (pe_tup h).imp fun σ H Q ⟨ρ, S, m, G, q⟩ => ?_
  refine ⟨ρ, S, m, G, q.bind.imp fun vs S1 m1 H1 e1 s1 q1 xs r => ?_⟩
  split at q1
  · rename_i hz
    refine ⟨by rw [← r.length, ← SZ_eq]; exact hz, fun p hp => ?_⟩
    exact q1 m1 _ (Ext.push s1 hp) (s1.push hp) _ (VR.tupNew s1 hp r)
  · exact q1.elim
def lstF (own : Bool) (l : Env → Store → Out (List PV)) : Env → Store → Out PV := fun ρ S => (l ρ S).bind fun vs S' => if vs.length ≤ SZ then (if own then .ok (.ref S'.length) (S' ++ [.lst vs]) else .ok (.lst vs) S') else .bad
theorem placed {K : PySem.W.Frag} {S : Store} {m : Mp} {H : Hp} {W : WX} {σ : L2.St} {vs : List PV} {xs : List V} {p : Addr} {Q : VK} (st : StoreR K S m H) (hp : H p = none) (r : VRs K m S.length H vs xs)
    (q : OP K xC W σ m S H (fun v S' m' H' => ∀ x, VR K m' S'.length H' v x → Q x H') (.ok (.ref S.length) (S ++ [.lst vs]))) : Q (.ref p) (upd H p (.lst xs)) := by
  have hl : (S ++ [Cell.lst vs]).length = S.length + 1 := by simp
  have := q (ext1 m S.length p) (upd H p (.lst xs)) (by rw [hl]; exact Ext.place st hp) (st.place hp r) (.ref ((ext1 m S.length p).at_ S.length)) (.ref (by rw [hl]; omega))
  rw [ext1_same] at this
  exact this
theorem e_lst {own : Bool} (h : PA X es (tA X.K xC W l)) : PE X (.List es pos) (tE X.K xC W (lstF own l)) := by
  refine (pe_lst h).imp fun σ H Q ⟨ρ, S, m, G, q⟩ => ?_
  refine ⟨ρ, S, m, G, OP.imp (fun vs S1 m1 H1 e1 s1 q1 xs r => ?_) (OP.bind q)⟩
  split at q1
  · rename_i hz
    refine ⟨by rw [← r.length, ← SZ_eq]; exact hz, fun p hp => ?_⟩
    cases own with
    | true => exact placed s1 hp r q1
    | false => exact q1 m1 _ (Ext.push s1 hp) (s1.push hp) _ (VR.lstNew s1 hp r)
  · exact q1.elim

/-! ### calls -/
/-- a def's promise, by what it comes to -/
def spF (K : PySem.W.Frag) (xC : Xs) (np : Nat) (g : List PV → Store → Out PV) : Sp := fun vs H Q E => ∃ us S m, StoreR K S m H ∧ VRs K m S.length H us vs ∧ us.length = np ∧
  OP K xC (fun c d _ H' => E c d H') [] m S H (fun v S' m' H' => ∀ x, VR K m' S'.length H' v x → Q x H') (g us S)
theorem OP.wish {K : PySem.W.Frag} {α : Type} {W W' : WX} {σ σ' : L2.St} {m : Mp} {S : Store} {H : Hp} {R : α → Store → Mp → Hp → Prop} (i : ∀ c d H', W c d σ H' → W' c d σ' H') : ∀ {o : Out α}, OP K xC W σ m S H R o → OP K xC W' σ' m S H R o
  | .ok a S2, h => h
  | .exc c as S2, h => fun m2 H2 e s d hd => i _ _ _ (h m2 H2 e s d hd)
  | .bad, h => h
theorem e_call {k np : Nat} {fa : Addr} {fd : FuncData} {ps : List Str} {x : Str} {p : Pos} {e : Expr} {g : List PV → Store → Out PV}
    (F : FnOk X.prog X.w X.K X.mg X.base (L2.CX X.prog X.w) k fa fd ps (spF X.K xC np g)) (tk : Takes X W) (hr : Room k X.A) (hg : Gl X x) (hm : X.mg x = some (.ref fa)) (hk : PySem.W.keepIn X.K (.ref fa) = true) (hb : Binds X.K fd ps [])
    (hl : ∀ ρ S vs S', l ρ S = .ok vs S' → vs.length = np)
    (ha : PA X (e :: es) (tA X.K xC W l)) (hdb : (x == ("__debug__" : Str)) = false) (he : starEach (e :: es) X.env = (false, eval e X.env) :: starEach es X.env) (hpl : (backTo pos (starEach es X.env)).any (·.1) = false) :
    PE X (.Call (.Name x p) (e :: es) [] pos) (tE X.K xC W fun ρ S => (l ρ S).bind fun vs S' => g vs S') := by
  refine (pe_callS F hr hg hm hk hb (fun σ => passAt tk σ) ha hdb he hpl).imp fun σ H Q ⟨ρ, S, m, G, q⟩ => ?_
  have hl' := hl ρ S
  refine ⟨ρ, S, m, G, ?_⟩
  dsimp only at q
  generalize l ρ S = o at hl' q
  cases o with
  | ok vs S1 =>
    have hn := hl' vs S1 rfl
    intro m1 H1 e1 s1 xs r
    exact ⟨vs, S1, m1, s1, r, hn, OP.wish (W := W) (σ := σ) (fun _ _ _ w => w) (OP.ext e1 q)⟩
  | exc c as S1 => exact q
  | bad => exact q

/-! ### built-ins -/
theorem bi_boot (b : BI) : bootBuiltins (biName b : Str) = some (biId b) := by cases b <;> decide +kernel
theorem e_bi (bf : BI) {e : Expr} {p : Pos} {x : Str} (hx : x = (biName bf : Str)) (hc : X.calm = true) (hg : Gl X x) (hm : X.mg x = none) (ha : PA X (e :: es) (tA X.K xC W l))
    (he : starEach (e :: es) X.env = (false, eval e X.env) :: starEach es X.env) (hpl : (backTo pos (starEach es X.env)).any (·.1) = false) :
    PE X (.Call (.Name x p) (e :: es) [] pos) (tE X.K xC W fun ρ S => (l ρ S).bind fun vs S' => lift S' (evBI S' bf vs)) := by
  have hv : bootBuiltins x = some (biId bf) := by rw [hx]; exact bi_boot bf
  have hn : x ≠ "__name__" := by rw [hx]; cases bf <;> decide +kernel
  have hdb : (x == ("__debug__" : Str)) = false := by rw [hx]; cases bf <;> decide +kernel
  have key : ∀ {r : TE}, (r = tCB (rBI X.K bf) (tA X.K xC W l)) → PE X (.Call (.Name x p) (e :: es) [] pos) r := by
    intro r hr
    subst hr
    have hce := call_ev (X := X) hc bf
    cases bf
    case int => exact pe_callTy hce hg hm hv ha hn hdb he hpl
    case str => exact pe_callTy hce hg hm hv ha hn hdb he hpl
    case tuple => exact pe_callTy hce hg hm hv ha hn hdb he hpl
    case list => exact pe_callTy hce hg hm hv ha hn hdb he hpl
    all_goals exact pe_callB hce hg hm hv ha hn hdb he hpl
  refine (key rfl).imp fun σ H Q ⟨ρ, S, m, G, q⟩ => ?_
  refine ⟨ρ, S, m, G, q.bind.imp fun vs S1 m1 H1 e1 s1 q1 xs r => ?_⟩
  obtain ⟨w, hw, q2⟩ := q1.lift
  exact ⟨S1, m1, vs, w, s1, r, hw, PEnd.of q2⟩
end
end MK

set_option linter.all false
set_option autoImplicit false
set_option Elab.async false
set_option maxRecDepth 100000
set_option maxHeartbeats 4000000
/-! MkPE2: methods, isinstance, append, walks, comprehensions. -/
namespace MK
open PySem PySem.Spec PyProof.Rows L2

section
variable {X : Cx} {xC : Xs} {W : WX} {a b c : Expr} {f g h : Env → Store → Out PV} {pos apos cpos : Pos} {es : List Expr} {l : Env → Store → Out (List PV)}

/-! ### methods of texts -/
theorem tyV_str {K : PySem.W.Frag} {m : Mp} {n : Nat} {H : Hp} {s : List Nat} {x : V} (r : VR K m n H (.str s) x) : tyV K "str" x H := by cases r; rfl
theorem evBM_str {S : Store} {b : BM} {u : PV} {us : List PV} {w : PV} (h : evBM S b u us = some w) : ∃ s, u = .str s := by
  cases u with
  | str s => exact ⟨s, rfl⟩
  | _ => cases b <;> cases h
def bmF (b : BM) (f : Env → Store → Out PV) (l : Env → Store → Out (List PV)) : Env → Store → Out PV := fun ρ S => (f ρ S).bind fun x S1 => if isStrV x then (l ρ S1).bind fun vs S2 => lift S2 (evBM S2 b x vs) else .bad
theorem e_bm (bf : BM) {o e : Expr} {name : Str} (hname : name = (bmName bf : Str)) (ho : PE X o (tE X.K xC W f)) (ha : PA X (e :: es) (tA X.K xC W l))
    (hbase : attributeBase o name X.env (eval o X.env) = eval o X.env)
    (hfew : ((backTo cpos (starEach (e :: es) X.env)).all (fun x => !x.1) && (backToKw cpos (keywordEach [] X.env)).all (fun x => x.1.isSome)
      && decide ((e :: es).length + ([] : List Keyword).length + (if ([] : List Keyword).isEmpty then 0 else 1) < 30)) = true)
    (hline : (apos.endLine == cpos.line) = true) (hs : starEach (e :: es) X.env = (false, eval e X.env) :: starEach es X.env) (hplain : (backTo cpos (starEach es X.env)).any (·.1) = false) :
    PE X (.Call (.Attribute o name apos) (e :: es) [] cpos) (tE X.K xC W (bmF bf f l)) := by
  subst hname
  have key : PE X (.Call (.Attribute o (bmName bf : Str) apos) (e :: es) [] cpos) (tBM X.K "str" (rBM X.K bf) (tE X.K xC W f) (tA X.K xC W l)) := by
    have hm := mt_ev (X := X) bf
    cases bf
    case index => exact pe_bm PySem.F.plainAttrs_str PySem.F.slot_str_index PySem.F.type_str_index hm ho ha hbase hfew hline hs hplain
    case find => exact pe_bm PySem.F.plainAttrs_str PySem.F.slot_str_find PySem.F.type_str_find hm ho ha hbase hfew hline hs hplain
    case find3 => exact pe_bm PySem.F.plainAttrs_str PySem.F.slot_str_find PySem.F.type_str_find hm ho ha hbase hfew hline hs hplain
    case rjust => exact pe_bm PySem.F.plainAttrs_str PySem.F.slot_str_rjust PySem.F.type_str_rjust hm ho ha hbase hfew hline hs hplain
    case split2 => exact pe_bm PySem.F.plainAttrs_str PySem.F.slot_str_split PySem.F.type_str_split hm ho ha hbase hfew hline hs hplain
    case join => exact pe_bm PySem.F.plainAttrs_str PySem.F.slot_str_join PySem.F.type_str_join hm ho ha hbase hfew hline hs hplain
  refine key.imp fun σ H Q ⟨ρ, S, m, G, q⟩ => ?_
  refine ⟨ρ, S, m, G, OP.imp (fun x S1 m1 H1 e1 s1 q1 v1 r1 => ?_) (OP.bind q)⟩
  cases x with
  | str s =>
    refine ⟨tyV_str r1, ρ, S1, m1, G.on e1 s1, OP.imp (fun vs S2 m2 H2 e2 s2 q2 xs r2 => ?_) (OP.bind (show OP X.K xC W σ m1 S1 H1 _ ((l ρ S1).bind _) from q1))⟩
    obtain ⟨w, hw, q3⟩ := q2.lift
    exact ⟨S2, m2, _, vs, w, s2, VR.on s1 e2 r1, r2, hw, PEnd.of q3⟩
  | _ => exact q1.elim

/-! ### append -/
theorem e_app {o e : Expr} (ho : PE X o (tE X.K xC W f)) (he : PE X e (tE X.K xC W g))
    (hbase : attributeBase o "append" X.env (eval o X.env) = eval o X.env)
    (hfew : ((backTo cpos (starEach [e] X.env)).all (fun x => !x.1) && (backToKw cpos (keywordEach [] X.env)).all (fun x => x.1.isSome)
      && decide (([e] : List Expr).length + ([] : List Keyword).length + (if ([] : List Keyword).isEmpty then 0 else 1) < 30)) = true)
    (hline : (apos.endLine == cpos.line) = true) (hs : starEach [e] X.env = (false, eval e X.env) :: starEach [] X.env) :
    PE X (.Call (.Attribute o "append" apos) [e] [] cpos) (tE X.K xC W fun ρ S => (f ρ S).bind fun x S1 => if isListRef S1 x then (g ρ S1).bind fun y S2 => appendTo S2 x y else .bad) := by
  refine (pe_bm PySem.F.plainAttrs_list PySem.F.slot_list_append PySem.F.type_list_append (show MtR X "list.append" rAppend from mt_append) ho (pa_cons he pa_nil hs) hbase hfew hline hs rfl).imp fun σ H Q ⟨ρ, S, m, G, q⟩ => ?_
  refine ⟨ρ, S, m, G, OP.imp (fun x S1 m1 H1 e1 s1 q1 v1 r1 => ?_) (OP.bind q)⟩
  split at q1
  · rename_i hl
    cases x with
    | ref n =>
      cases r1 with
      | ref hn =>
        have hcell := s1.at hn
        have hl : (match S1[n]? with | some (.lst _) => true | _ => false) = true := hl
        have hthere : ∃ vs, H1 (m1.at_ n) = some (.lst vs) := s1.kind _ (s1.inZ n hn)
        obtain ⟨vs0, hv0⟩ := hthere
        refine ⟨.inl ⟨rfl, vs0, .inl (.inl hv0)⟩, ρ, S1, m1, G.on e1 s1, OP.imp (fun y S2 m2 H2 e2 s2 q2 v2 r2 => ?_) (OP.bind q1)⟩
        have hn2 : n < S2.length := Nat.lt_of_lt_of_le hn e2.le
        unfold appendTo at q2
        dsimp only at q2
        split at q2
        · rename_i xs hx
          split at q2
          · rename_i hz
            obtain ⟨vs, e3, r3⟩ := s2.cell n _ hx
            have ea : m2.at_ n = m1.at_ n := e2.emb n hn
            refine ⟨m1.at_ n, vs, v2, rfl, rfl, by rw [← ea]; exact e3, by rw [← r3.length, ← SZ_eq]; exact hz, ?_⟩
            have ex : Ext m2 S2.length H2 m2 (S2.set n (Cell.lst (xs ++ [y]))).length (upd H2 (m2.at_ n) (.lst (vs ++ [v2]))) := by
              rw [List.length_set]
              exact Ext.write s2 hn2
            have := q2 m2 _ ex (s2.write hn2 (r3.append (.cons r2 .nil))) .non .non
            rw [ea] at this
            exact this
          · exact q2.elim
        · exact q2.elim
    | _ => cases hl
  · exact q1.elim

/-! ### isinstance -/
def tyName : TyN → String
  | .int => "int" | .bool => "bool" | .str => "str" | .tuple => "tuple" | .list => "list"
def tyOfV : PV → String
  | .non => "NoneType" | .bl _ => "bool" | .int _ => "int" | .str _ => "str" | .tup _ => "tuple" | .lst _ => "list" | .ref _ => "list" | .ty _ => "type"
theorem tyx {K : PySem.W.Frag} {S : Store} {m : Mp} {H : Hp} {t : TyN} {x : PV} {v : V} {w : Bool} (st : StoreR K S m H) (r : VR K m S.length H x v) (h : isTy S t x = some w) : TyX K H v (.type (tyOfV x)) := by
  cases r with
  | non => exact .base .non
  | bl b => exact .base (.bl b)
  | int i => exact .base (.int i)
  | str s hs => exact .base (.str _)
  | tup ht r =>
    rcases ht with (ht | ⟨o, ht⟩) | ⟨o, its, n, h1, h2, _⟩
    · exact .base (.tup ht)
    · exact .fTuple ht
    · exact .kTuple h1 h2
  | lst hl r =>
    rcases hl with ⟨hl | ⟨o, hl⟩, _⟩ | ⟨o, its, n, h1, h2, _⟩
    · exact .base (.lst hl)
    · exact .base (.frz hl)
    · exact .kList h1 h2
  | ref hk =>
    obtain ⟨vs, e⟩ := st.kind _ (st.inZ _ hk)
    exact .base (.lst e)
  | ty t' => cases t <;> cases h
theorem kit_is {S : Store} {t : TyN} {x : PV} {w : Bool} (h : isTy S t x = some w) : kitB (tyOfV x) (tyName t) = some w := by
  have ref : ∀ n, isTy S t (.ref n) = some w → kitB "list" (tyName t) = some w := by
    intro n h
    have h : (match S[n]? with | some (.lst _) => some (t == .list) | _ => none) = some w := by cases t <;> exact h
    split at h
    · cases h
      cases t <;> decide +kernel
    · cases h
  cases x with
  | ref n => exact ref n h
  | non => cases t <;> (cases h; show kitB "NoneType" _ = _; decide +kernel)
  | bl _ => cases t <;> (cases h; show kitB "bool" _ = _; decide +kernel)
  | int _ => cases t <;> (cases h; show kitB "int" _ = _; decide +kernel)
  | str _ => cases t <;> (cases h; show kitB "str" _ = _; decide +kernel)
  | tup _ => cases t <;> (cases h; show kitB "tuple" _ = _; decide +kernel)
  | lst _ => cases t <;> (cases h; show kitB "list" _ = _; decide +kernel)
  | ty _ => cases t <;> cases h
theorem ty_boot (t : TyN) : bootBuiltins (tyName t : Str) = some (.type (tyName t)) := by cases t <;> decide +kernel
theorem e_isi (t : TyN) {p p2 : Pos} {x y : Str} (hx : x = ("isinstance" : Str)) (hy : y = (tyName t : Str)) (hg : Gl X x) (hm : X.mg x = none) (hg2 : Gl X y) (hm2 : X.mg y = none) (ha : PE X a (tE X.K xC W f))
    (he : starEach [a, .Name y p2] X.env = (false, eval a X.env) :: starEach [.Name y p2] X.env) :
    PE X (.Call (.Name x p) [a, .Name y p2] [] pos) (tE X.K xC W fun ρ S => (f ρ S).bind fun x S1 => lift S1 ((isTy S1 t x).map PV.bl)) := by
  have hn : y ≠ "__name__" := by rw [hy]; cases t <;> decide +kernel
  have hd : (y == ("__debug__" : Str)) = false := by rw [hy]; cases t <;> decide +kernel
  have hb : bootBuiltins y = some (.type (tyName t)) := by rw [hy]; exact ty_boot t
  subst hx
  refine (pe_callB call_isi hg hm (by decide +kernel) (pa_cons ha (pa_cons (pe_bltn (v := .ty (tyName t)) hg2 hm2 hb rfl hn hd) pa_nil) he) (he := he)).imp fun σ H Q ⟨ρ, S, m, G, q⟩ => ?_
  refine ⟨ρ, S, m, G, q.bind.imp fun x S1 m1 H1 e1 s1 q1 v1 r1 => ?_⟩
  obtain ⟨w, hw, q2⟩ := q1.lift
  obtain ⟨k, hk, rfl⟩ := Option.map_eq_some_iff.mp hw
  exact ⟨v1, .ty (tyName t), _, _, k, rfl, .ty _, tyx s1 r1 hk, kit_ty (kit_is hk), q2 m1 H1 (Ext.refl s1) s1 _ (.bl k)⟩
end
end MK

set_option linter.all false
set_option autoImplicit false
set_option Elab.async false
set_option maxRecDepth 100000
set_option maxHeartbeats 4000000
/-! MkLc: walks, targets, comprehensions. -/
namespace MK
open PySem PySem.Spec PyProof.Rows L2

/-- an iterator yields just these items, as the state stands -/
structure Walks (K : PySem.W.Frag) (J : L2.It) (w : Walk) (S : Store) (m : Mp) (H : Hp) : Prop where
  go : ∀ i x, w.1[i]? = some x → J.go i H ∧ ∀ v H', J.yld i H v H' → Ext m S.length H m S.length H' ∧ StoreR K S m H' ∧ VR K m S.length H' x v
  stop : ∀ i, w.1.length ≤ i → J.stop i H
def WalksAll (K : PySem.W.Frag) (J : L2.It) (w : Walk) (S : Store) (m : Mp) (H : Hp) : Prop :=
  ∀ S' m' H', Ext m S.length H m' S'.length H' → StoreR K S' m' H' → keptOf w S' = true → Walks K J w S' m' H'
def tIt (K : PySem.W.Frag) (xC : Xs) (W : WX) (f : Env → Store → Out Walk) : TI := fun σ H R => ∃ ρ S m, Good K ρ S m σ H ∧
  OP K xC W σ m S H (fun w S' m' H' => ∀ J, WalksAll K J w S' m' H' → keptOf w S' = true → R J H') (f ρ S)
theorem _root_.L2.PI.imp {X : Cx} {tg e : Expr} {t t' : TI} (h : PI X tg e t) (i : ∀ σ H R, t' σ H R → t σ H R) : PI X tg e t' := ⟨fun pins s σ H R I q => h.run pins s σ H R I (i σ H R q)⟩

section
variable {X : Cx} {xC : Xs} {W : WX} {a b c e tg : Expr} {f g h : Env → Store → Out PV} {pos apos cpos : Pos} {es : List Expr} {l : Env → Store → Out (List PV)}

theorem walks_list {K : PySem.W.Frag} {S : Store} {m : Mp} {H : Hp} {a : Addr} {xs : List PV} {at_ : Option Nat}
    (h : ∀ S' m' H', Ext m S.length H m' S'.length H' → StoreR K S' m' H' → keptOf (xs, at_) S' = true → ∃ vs, SqL K H' a vs ∧ VRs K m' S'.length H' xs vs) : WalksAll K (Itl K a) (xs, at_) S m H := by
  intro S' m' H' ex st' kp
  obtain ⟨vs, hq, r⟩ := h S' m' H' ex st' kp
  refine ⟨fun i x hx => ?_, fun i hi => ⟨vs, hq, by rw [← r.length]; exact hi⟩⟩
  obtain ⟨v, hv, rv⟩ := r.get hx
  refine ⟨⟨vs, v, hq, hv⟩, fun v' H2 hy => ?_⟩
  obtain ⟨rfl, hy⟩ := hy
  have := hy vs hq
  rw [hv] at this
  cases this
  exact ⟨Ext.refl st', st', rv⟩
theorem walks_tup {K : PySem.W.Frag} {S : Store} {m : Mp} {H : Hp} {a : Addr} {xs : List PV} {vs : List V} (st : StoreR K S m H) (hq : SqT K H a vs) (r : VRs K m S.length H xs vs) : WalksAll K (Itt K a) (xs, none) S m H := by
  intro S' m' H' ex st' kp
  have hq' := SqT.on st ex hq
  have r' := VRs.on st ex r
  refine ⟨fun i x hx => ?_, fun i hi => ⟨vs, hq', by rw [← r.length]; exact hi⟩⟩
  obtain ⟨v, hv, rv⟩ := r'.get hx
  refine ⟨⟨vs, v, hq', hv⟩, fun v' H2 hy => ?_⟩
  obtain ⟨rfl, hy⟩ := hy
  have := hy vs hq'
  rw [hv] at this
  cases this
  exact ⟨Ext.refl st', st', rv⟩
theorem walks_str {K : PySem.W.Frag} {S : Store} {m : Mp} {H : Hp} {s : List Nat} (hs : okS s) : WalksAll K (Its (strV s)) (s.map fun c => .str [c], none) S m H := by
  intro S' m' H' ex st' kp
  have hz : (strV s).cps.size = s.length := strV_length s
  refine ⟨fun i x hx => ?_, fun i hi => ?_⟩
  · rw [List.getElem?_map] at hx
    obtain ⟨c, hc, rfl⟩ := Option.map_eq_some_iff.mp hx
    have hi : i < s.length := (List.getElem?_eq_some_iff.mp hc).1
    refine ⟨by show i < (strV s).cps.size; rw [hz]; exact hi, fun v' H2 hy => ?_⟩
    obtain ⟨rfl, c', hc', rfl⟩ := hy
    have e : (strV s).cps[i]? = s[i]? := by show s.toArray[i]? = _; simp
    rw [e, hc] at hc'
    cases hc'
    exact ⟨Ext.refl st', st', .str [c] (hs.one (List.mem_of_getElem? hc))⟩
  · show (strV s).cps.size ≤ i
    rw [hz]
    rw [List.length_map] at hi
    exact hi
theorem walks_rng {K : PySem.W.Frag} {S : Store} {m : Mp} {H : Hp} (lo : Int) (n : Nat) : WalksAll K (Itr lo n) (rngL lo n, none) S m H := by
  intro S' m' H' ex st' kp
  have hl : (rngL lo n).length = n := by unfold rngL; simp
  refine ⟨fun i x hx => ?_, fun i hi => ?_⟩
  · have hi : i < n := by
      have := (List.getElem?_eq_some_iff.mp hx).1
      rw [hl] at this; exact this
    refine ⟨hi, fun v' H2 hy => ?_⟩
    obtain ⟨rfl, rfl⟩ := hy
    unfold rngL at hx
    rw [List.getElem?_map, List.getElem?_range hi] at hx
    cases hx
    exact ⟨Ext.refl st', st', .int _⟩
  · show n ≤ i
    rw [hl] at hi
    exact hi
theorem it_list {pins : List (Addr × Obj)} {σ : L2.St} {H1 : Hp} {s1 : Shared} {R : L2.It → Hp → Prop} {a : Addr} {xs : List V} (I1 : Inv X pins σ H1 s1) (hq : SqL X.K H1 a xs) (q : R (Itl X.K a) H1) :
    wpAny (model X.prog X.w) X.A (pyIter (.ref a)) (PIE X pins σ tg R) X.xe s1 := by
  obtain ⟨its, rv, p, hz⟩ := I1.list hq
  refine wpAny_pyIter_list p.isList ?_
  refine ⟨s1.heap.objs.size, [s1.heap.objs.size], _, _, H1, rfl, I1.kept (t' := s1.toks) fun b o e => Heap.get?_push_of_some _ e, turn_list a _, ⟨_, Heap.get?_push_size _ rfl, rfl, rfl⟩, fun b hb => ?_, q⟩
  have e : b = s1.heap.objs.size := by simpa using hb
  subst e
  exact I1.fpOk (Nat.le_refl _) (I1.hok.fresh (Nat.le_refl _))
theorem it_tup {pins : List (Addr × Obj)} {σ : L2.St} {H1 : Hp} {s1 : Shared} {R : L2.It → Hp → Prop} {a : Addr} {xs : List V} (I1 : Inv X pins σ H1 s1) (hq : SqT X.K H1 a xs) (q : R (Itt X.K a) H1) :
    wpAny (model X.prog X.w) X.A (pyIter (.ref a)) (PIE X pins σ tg R) X.xe s1 := by
  obtain ⟨its, rv, p, hz⟩ := I1.tuple hq
  refine wpAny_pyIter_tuple (show s1.heap.IsTuple a its.toArray from p) ?_
  refine ⟨s1.heap.objs.size, [s1.heap.objs.size], _, _, H1, rfl, I1.kept (t' := s1.toks) fun b o e => Heap.get?_push_of_some _ e, turn_tuple a _, ⟨_, Heap.get?_push_size _ rfl, rfl, rfl⟩, fun b hb => ?_, q⟩
  have e : b = s1.heap.objs.size := by simpa using hb
  subst e
  exact I1.fpOk (Nat.le_refl _) (I1.hok.fresh (Nat.le_refl _))
theorem it_str {pins : List (Addr × Obj)} {σ : L2.St} {H1 : Hp} {s1 : Shared} {R : L2.It → Hp → Prop} {x : Str} {t : Tok} (I1 : Inv X pins σ H1 s1) (q : R (Its x) H1) :
    wpAny (model X.prog X.w) X.A (pyIter (.str x t)) (PIE X pins σ tg R) X.xe s1 := by
  cases ha : x.cps.all (· < 128)
  · exact wpAny_pyIter_wide ha (pi_one (tk := s1.toks) I1 _ (turn_str _ x t "str_iterator" (.inr rfl)) ⟨_, Heap.get?_push_size _ rfl, rfl, rfl⟩ q)
  · exact wpAny_pyIter_ascii ha (pi_one (tk := s1.toks) I1 _ (turn_str _ x t "str_ascii_iterator" (.inl rfl)) ⟨_, Heap.get?_push_size _ rfl, rfl, rfl⟩ q)
theorem kept_at {S : Store} {n : Nat} {xs : List PV} (h : keptOf (xs, some n) S = true) : S[n]? = some (.lst xs) := of_decide_eq_true h
/-- what is walked: a list, a tuple, a text -/
theorem i_seq (he : PE X e (tE X.K xC W f)) : PI X tg e (tIt X.K xC W fun ρ S => (f ρ S).bind fun v S1 => lift S1 (walkOf S1 v)) := by
  refine ⟨fun pins s σ H R I h => ?_⟩
  obtain ⟨ρ, S, m, G, q⟩ := h
  refine thn (he.run pins s σ H (fun x H1 => ∃ v S1 m1, StoreR X.K S1 m1 H1 ∧ VR X.K m1 S1.length H1 v x ∧ OP X.K xC W σ m1 S1 H1 (fun w S' m' H' => ∀ J, WalksAll X.K J w S' m' H' → keptOf w S' = true → R J H') (lift S1 (walkOf S1 v))) I ⟨ρ, S, m, G, OP.imp (fun v S1 m1 H1 e1 s1 q1 x r => ⟨v, S1, m1, s1, r, q1⟩) (OP.bind q)⟩) fun u s1 ⟨x, H1, I1, r1, hx⟩ => ?_
  obtain ⟨v, S1, m1, st, r, q1⟩ := hx
  obtain ⟨w, hw, q2⟩ := q1.lift
  have fin := q2 m1 H1 (Ext.refl st) st
  cases r with
  | str z hz =>
    obtain ⟨t, rfl⟩ := r1
    cases hw
    exact it_str I1 (fin _ (walks_str hz) rfl)
  | tup ht rs =>
    cases r1
    cases hw
    exact it_tup I1 ht (fin _ (walks_tup st ht rs) rfl)
  | lst hl rs =>
    cases r1
    cases hw
    exact it_list I1 hl.sq (fin _ (walks_list fun S' m' H' ex st' kp => ⟨_, (LstR.on ex hl).sq, VRs.on st ex rs⟩) rfl)
  | @ref k hk =>
    cases r1
    have hw : (match S1[k]? with | some (.lst xs) => some (xs, some k) | _ => none) = some w := hw
    split at hw
    · rename_i xs hx
      cases hw
      obtain ⟨vs, e, rs⟩ := st.cell k _ hx
      refine it_list I1 (.inl (.inl e)) (fin _ (walks_list fun S' m' H' ex st' kp => ?_) (decide_eq_true hx))
      obtain ⟨us, e', rs'⟩ := st'.cell k _ (kept_at kp)
      rw [ex.emb k hk] at e'
      exact ⟨us, .inl (.inl e'), rs'⟩
    · cases hw
  | non => cases hw
  | bl _ => cases hw
  | int _ => cases hw
  | ty _ => cases hw
theorem BIG_62 : BIG < 2 ^ 62 := by decide
theorem i_rng1 {p : Pos} {x : Str} (hx : x = ("range" : Str)) (hg : Gl X x) (hm : X.mg x = none) (ha : PA X [a] (tA X.K xC W l)) (hs : starEach [a] X.env = [(false, eval a X.env)])
    (hl : ∀ ρ S vs S', l ρ S = .ok vs S' → vs.length = 1) :
    PI X tg (.Call (.Name x p) [a] [] pos) (tIt X.K xC W fun ρ S => (l ρ S).bind fun vs S1 => lift S1 (rngOf vs)) := by
  subst hx
  refine (pi_range1 hg hm ha hs).imp fun σ H R ⟨ρ, S, m, G, q⟩ => ?_
  have hl' := hl ρ S
  dsimp only at q
  refine ⟨ρ, S, m, G, ?_⟩
  generalize l ρ S = o at q hl'
  cases o with
  | ok vs S1 =>
    intro m1 H1 e1 s1 xs r
    have hn := hl' vs S1 rfl
    obtain ⟨w, hw, q2⟩ := OP.lift (OP.ext e1 q)
    match vs, hn, r, hw with
    | [v], _, .cons rv .nil, hw =>
      cases rv with
      | int j =>
        have hw : (if -BIG ≤ j ∧ j < BIG then some (rngL 0 j.toNat, none) else none) = some w := hw
        split at hw
        · rename_i hj
          cases hw
          have := BIG_62
          refine ⟨j, rfl, by omega, by omega, q2 m1 H1 (Ext.refl s1) s1 _ (walks_rng 0 _) rfl⟩
        · cases hw
      | _ => cases hw
  | exc c as S1 => exact q
  | bad => exact q
theorem i_rng2 {p : Pos} {x : Str} (hx : x = ("range" : Str)) (hg : Gl X x) (hm : X.mg x = none) (ha : PA X [a, b] (tA X.K xC W l)) (hs : starEach [a, b] X.env = [(false, eval a X.env), (false, eval b X.env)]) (hs2 : starEach [b] X.env = [(false, eval b X.env)])
    (hl : ∀ ρ S vs S', l ρ S = .ok vs S' → vs.length = 2) :
    PI X tg (.Call (.Name x p) [a, b] [] pos) (tIt X.K xC W fun ρ S => (l ρ S).bind fun vs S1 => lift S1 (rngOf vs)) := by
  subst hx
  refine (pi_range2 hg hm ha hs hs2).imp fun σ H R ⟨ρ, S, m, G, q⟩ => ?_
  have hl' := hl ρ S
  dsimp only at q
  refine ⟨ρ, S, m, G, ?_⟩
  generalize l ρ S = o at q hl'
  cases o with
  | ok vs S1 =>
    intro m1 H1 e1 s1 xs r
    have hn := hl' vs S1 rfl
    obtain ⟨w, hw, q2⟩ := OP.lift (OP.ext e1 q)
    match vs, hn, r, hw with
    | [v, u], _, .cons rv (.cons ru .nil), hw =>
      cases rv with
      | int i =>
        cases ru with
        | int j =>
          have hw : (if -BIG ≤ i ∧ i < BIG ∧ -BIG ≤ j ∧ j < BIG then some (rngL i (j - i).toNat, none) else none) = some w := hw
          split at hw
          · rename_i hj
            cases hw
            have := BIG_62
            refine ⟨i, j, rfl, ⟨by omega, by omega, by omega, by omega⟩, q2 m1 H1 (Ext.refl s1) s1 _ (walks_rng i _) rfl⟩
          · cases hw
        | _ => cases hw
      | _ => cases hw
  | exc c as S1 => exact q
  | bad => exact q
end

/-! ### targets -/
mutual
def slots : TG → List Nat
  | .nm i => [i]
  | .tp ts => slotsL ts
def slotsL : List TG → List Nat
  | [] => []
  | t :: ts => slots t ++ slotsL ts
end
def gT (K : PySem.W.Frag) (t : TG) : L2.TG := fun v σ H Q => ∃ ρ S m pv ρ', Good K ρ S m σ H ∧ VR K m S.length H pv v ∧ asg t pv ρ = some ρ' ∧
  ∀ σ', Good K ρ' S m σ' H → (∀ vs, (∀ i ∈ slots t, i ∈ vs) → L2.wipe σ' vs = L2.wipe σ vs) → Q σ' H
def gTs (K : PySem.W.Frag) (ts : List TG) : L2.TGs := fun v σ H Q => ∃ ρ S m pv ρ', Good K ρ S m σ H ∧ VRs K m S.length H pv v ∧ asgs ts pv ρ = some ρ' ∧
  ∀ σ', Good K ρ' S m σ' H → (∀ vs, (∀ i ∈ slotsL ts, i ∈ vs) → L2.wipe σ' vs = L2.wipe σ vs) → Q σ' H
theorem _root_.L2.PG.imp {X : Cx} {e : Expr} {t t' : L2.TG} (h : PG X e t) (i : ∀ v σ H Q, t' v σ H Q → t v σ H Q) : PG X e t' := ⟨fun pins s σ H v u Q I r q => h.run pins s σ H v u Q I r (i v σ H Q q)⟩
theorem _root_.L2.PGs.imp {X : Cx} {e : List Expr} {t t' : L2.TGs} (h : PGs X e t) (i : ∀ v σ H Q, t' v σ H Q → t v σ H Q) : PGs X e t' := ⟨fun pins s σ H v u Q I r q => h.run pins s σ H v u Q I r (i v σ H Q q)⟩
theorem wipe_set_in {σ : L2.St} {i : Nat} {x : Option V} : ∀ {vs : List Nat}, i ∈ vs → L2.wipe (σ.set i x) vs = L2.wipe σ vs
  | v :: vs, h => by
    show (L2.wipe (σ.set i x) vs).set v none = (L2.wipe σ vs).set v none
    by_cases hi : i ∈ vs
    · rw [wipe_set_in hi]
    · have e : i = v := by
        rcases List.mem_cons.mp h with e | e
        · exact e
        · exact absurd e hi
      subst e
      have : ∀ (us : List Nat), i ∉ us → L2.wipe (σ.set i x) us = (L2.wipe σ us).set i x := by
        intro us
        induction us with
        | nil => intro _; rfl
        | cons u us ih =>
          intro hu
          have hu' : i ≠ u ∧ i ∉ us := ⟨fun e => hu (by rw [e]; exact List.mem_cons_self), fun q => hu (List.mem_cons_of_mem _ q)⟩
          show (L2.wipe (σ.set i x) us).set u none = ((L2.wipe σ us).set u none).set i x
          rw [ih hu'.2, List.set_comm _ _ hu'.1]
      rw [this vs hi, List.set_set]
theorem EnvR.set {K : PySem.W.Frag} {ρ : Env} {m : Mp} {n : Nat} {H : Hp} {σ : L2.St} {i : Nat} {v : PV} {x : V} (e : EnvR K ρ m n H σ) (r : VR K m n H v x) (hi : i < ρ.length) : EnvR K (ρ.set i (some v)) m n H (σ.set i (some x)) := by
  refine ⟨by rw [List.length_set, List.length_set]; exact e.len, fun j u h => ?_⟩
  by_cases q : j = i
  · subst q
    rw [List.getElem?_set_self hi] at h
    cases h
    exact ⟨x, List.getElem?_set_self (by rw [← e.len]; exact hi), r⟩
  · rw [List.getElem?_set_ne (Ne.symm q)] at h
    obtain ⟨y, h1, h2⟩ := e.get j u h
    exact ⟨y, by rw [List.getElem?_set_ne (Ne.symm q)]; exact h1, h2⟩
theorem EnvR.wipe {K : PySem.W.Frag} {ρ : Env} {m : Mp} {n : Nat} {H : Hp} {σ : L2.St} (e : EnvR K ρ m n H σ) : ∀ vs : List Nat, EnvR K (MK.wipe ρ vs) m n H (L2.wipe σ vs)
  | [] => e
  | v :: vs => by
    have ih := EnvR.wipe e vs
    refine ⟨by show ((MK.wipe ρ vs).set v none).length = ((L2.wipe σ vs).set v none).length; rw [List.length_set, List.length_set]; exact ih.len, fun j u h => ?_⟩
    have h : ((MK.wipe ρ vs).set v none)[j]? = some (some u) := h
    by_cases q : j = v
    · subst q
      by_cases hl : j < (MK.wipe ρ vs).length
      · rw [List.getElem?_set_self hl] at h; cases h
      · rw [List.getElem?_eq_none (by rw [List.length_set]; omega)] at h; cases h
    · rw [List.getElem?_set_ne (Ne.symm q)] at h
      obtain ⟨y, h1, h2⟩ := ih.get j u h
      exact ⟨y, by show ((L2.wipe σ vs).set v none)[j]? = _; rw [List.getElem?_set_ne (Ne.symm q)]; exact h1, h2⟩
section
variable {X : Cx} {pos : Pos}
theorem g_name {i : Nat} {x : Str} (hN : X.N.Nodup) (hi : X.N[i]? = some x) (hx : Loc X.env.scope x) (hf : X.fn x = true ∨ X.env.scope.names.lookup x = some .local) : PG X (.Name x pos) (gT X.K (.nm i)) := by
  refine (pg_name hN hi hx hf).imp fun v σ H Q ⟨ρ, S, m, pv, ρ', G, r, e, q⟩ => ?_
  have e : (if i < ρ.length then some (ρ.set i (some pv)) else none) = some ρ' := e
  split at e
  · rename_i hl
    cases e
    exact q _ ⟨G.env.set r hl, G.st⟩ fun vs hv => wipe_set_in (hv i (List.mem_singleton.mpr rfl))
  · cases e
theorem g_nil : PGs X [] (gTs X.K []) := by
  refine pgs_nil.imp fun v σ H Q ⟨ρ, S, m, pv, ρ', G, r, e, q⟩ => ?_
  cases r with
  | nil =>
    cases e
    exact ⟨rfl, q _ G fun vs _ => rfl⟩
  | cons _ _ => cases e
theorem g_cons {e : Expr} {es : List Expr} {t : TG} {ts : List TG} (h1 : PG X e (gT X.K t)) (h2 : PGs X es (gTs X.K ts)) (hs : (assignEach (e :: es) X.env).map (·.2) = assign e X.env :: (assignEach es X.env).map (·.2)) : PGs X (e :: es) (gTs X.K (t :: ts)) := by
  refine (pgs_cons h1 h2 hs).imp fun v σ H Q ⟨ρ, S, m, pv, ρ', G, r, ea, q⟩ => ?_
  cases r with
  | nil => cases ea
  | @cons p x ps xs rp rs =>
    obtain ⟨ρ1, ea1, ea2⟩ := Option.bind_eq_some_iff.mp (show (asg t p ρ).bind (fun ρ' => asgs ts ps ρ') = some ρ' from ea)
    refine ⟨x, xs, rfl, ρ, S, m, p, ρ1, G, rp, ea1, fun σ1 G1 w1 => ?_⟩
    refine ⟨ρ1, S, m, ps, ρ', G1, rs, ea2, fun σ2 G2 w2 => q σ2 G2 fun vs hv => ?_⟩
    rw [w2 vs fun i hi => hv i (List.mem_append_right _ hi), w1 vs fun i hi => hv i (List.mem_append_left _ hi)]
theorem asgs_len : ∀ {ts : List TG} {vs : List PV} {ρ ρ' : Env}, asgs ts vs ρ = some ρ' → vs.length = ts.length
  | [], [], _, _, _ => rfl
  | [], _ :: _, _, _, h => by cases h
  | _ :: _, [], _, _, h => by cases h
  | t :: ts, v :: vs, ρ, ρ', h => by
    obtain ⟨ρ1, _, h2⟩ := Option.bind_eq_some_iff.mp (show (asg t v ρ).bind (fun ρ' => asgs ts vs ρ') = some ρ' from h)
    rw [List.length_cons, List.length_cons, asgs_len h2]
theorem g_tup {es : List Expr} {k : Nat} {ts : List TG} (hc : X.calm = true) (h : PGs X es (gTs X.K ts)) (hn : (assignEach es X.env).length = ts.length) (hst : (assignEach es X.env).findIdx? (·.1) = none) : PG X (.Tuple es k pos) (gT X.K (.tp ts)) := by
  refine (pg_tup hc h hn hst).imp fun v σ H Q ⟨ρ, S, m, pv, ρ', G, r, e, q⟩ => ?_
  cases r with
  | tup ht rs =>
    have e : asgs ts _ ρ = some ρ' := e
    exact ⟨_, _, rfl, ht, by rw [← rs.length]; exact asgs_len e, ρ, S, m, _, ρ', G, rs, e, q⟩
  | _ => cases e
end

/-! ### comprehensions -/
def tCo (K : PySem.W.Frag) (xC : Xs) (W : WX) (f : Env → Store → Out Bool) : TT := fun σ H Q => ∃ ρ S m, Good K ρ S m σ H ∧ OP K xC W σ m S H (fun b S' m' H' => Q b H') (f ρ S)
theorem _root_.L2.PTs.imp {X : Cx} {e : List Expr} {t t' : TT} (h : PTs X e t) (i : ∀ σ H Q, t' σ H Q → t σ H Q) : PTs X e t' := ⟨fun pins s σ H Q I q => h.run pins s σ H Q I (i σ H Q q)⟩
section
variable {X : Cx} {xC : Xs} {W : WX} {a : Expr} {f : Env → Store → Out PV}
theorem co_nil : PTs X [] (tCo X.K xC W fun _ S => .ok true S) := by
  refine pts_nil.imp fun σ H Q ⟨ρ, S, m, G, q⟩ => ?_
  exact q m H (Ext.refl G.st) G.st
theorem co_one (h : PT X a (tT X.K xC W f)) : PTs X [a] (tCo X.K xC W fun ρ S => (f ρ S).bind fun v S1 => match v with | .bl b => .ok b S1 | _ => .bad) := by
  refine (pts_one h).imp fun σ H Q ⟨ρ, S, m, G, q⟩ => ?_
  refine ⟨ρ, S, m, G, OP.imp (fun v S1 m1 H1 e1 s1 q1 => ?_) (OP.bind q)⟩
  cases v with
  | bl b => exact ⟨b, rfl, q1 m1 H1 (Ext.refl s1) s1⟩
  | _ => exact q1.elim
end
theorem compL_ok {step : PV → Store → Out (Option PV)} : ∀ {acc xs : List PV} {S : Store}, compL step acc xs S ≠ .bad → ∃ ys S', compL step acc xs S = .ok ys S'
  | acc, [], S, _ => ⟨acc, S, rfl⟩
  | acc, x :: xs, S, h => by
    unfold compL at h ⊢
    cases hs : step x S with
    | ok r S' =>
      rw [hs] at h
      cases r with
      | some y => exact compL_ok h
      | none => exact compL_ok h
    | exc c as S' => rw [hs] at h; exact absurd rfl h
    | bad => rw [hs] at h; exact absurd rfl h
theorem compL_exc {step : PV → Store → Out (Option PV)} {c : Nat} {as : List PV} {S' : Store} : ∀ {acc xs : List PV} {S : Store}, compL step acc xs S ≠ .exc c as S'
  | acc, [], S => by intro h; cases h
  | acc, x :: xs, S => by
    unfold compL
    cases hs : step x S with
    | ok r S' => cases r <;> exact compL_exc
    | exc c as S' => intro h; cases h
    | bad => intro h; cases h
abbrev W0 : WX := fun _ _ _ _ => False
/-- [elt for tg in iter if cond] -/
def lcF (own : Bool) (vs : List Nat) (t : TG) (fi : Env → Store → Out Walk) (fc : Env → Store → Out Bool) (fe : Env → Store → Out PV) : Env → Store → Out PV := fun ρ S => (fi ρ S).bind fun w S1 =>
    (compL (compStep w (asg t) fc fe (wipe ρ vs)) [] w.1 S1).bind fun ys S' =>
      if w.1.length ≤ SZ then (if own then .ok (.ref S'.length) (S' ++ [.lst ys]) else .ok (.lst ys) S') else .bad
/-- a list in the making becomes a place -/
def ext2 (m : Mp) (n : Nat) (D : Addr) : Mp := ⟨fun k => if k = n then D else m.at_ k, m.Z⟩
theorem StoreR.placed {K : PySem.W.Frag} {S : Store} {m : Mp} {H : Hp} {D : Addr} {ys : List PV} {vs : List V} (st : StoreR K S m H) (z : m.Z D) (no : ∀ k, k < S.length → m.at_ k ≠ D) (hD : H D = Option.some (.lst vs)) (r : VRs K m S.length H ys vs) :
    StoreR K (S ++ [Cell.lst ys]) (ext2 m S.length D) H := by
  have hl : (S ++ [Cell.lst ys]).length = S.length + 1 := by simp
  have up : ∀ {x : List PV} {v : List V}, VRs K m S.length H x v → VRs K (ext2 m S.length D) (S.length + 1) H x v := fun r => VRs.re (m := m) (m' := ext2 m S.length D) (Nat.le_succ _) (fun k hk => if_neg (Nat.ne_of_lt hk)) (fun _ h => h) r
  refine ⟨fun j k hj hk e => ?_, fun k c h => ?_, fun k hk => ?_, st.kind⟩
  · rw [hl] at hj hk
    have e : (if j = S.length then D else m.at_ j) = (if k = S.length then D else m.at_ k) := e
    by_cases q1 : j = S.length <;> by_cases q2 : k = S.length
    · rw [q1, q2]
    · rw [if_pos q1, if_neg q2] at e
      exact absurd e.symm (no k (by omega))
    · rw [if_pos q2, if_neg q1] at e
      exact absurd e (no j (by omega))
    · rw [if_neg q1, if_neg q2] at e
      exact st.inj j k (by omega) (by omega) e
  · rw [hl]
    by_cases q : k = S.length
    · subst q
      rw [List.getElem?_append_right (Nat.le_refl _), Nat.sub_self] at h
      have h : c = .lst ys := by simpa using h.symm
      subst h
      exact ⟨vs, by show H (if S.length = S.length then D else m.at_ S.length) = _; rw [if_pos rfl]; exact hD, up r⟩
    · have hk : k < S.length := by
        have := (List.getElem?_eq_some_iff.mp h).1
        rw [hl] at this; omega
      rw [List.getElem?_append_left hk] at h
      have hc := st.cell k c h
      have ea : (ext2 m S.length D).at_ k = m.at_ k := if_neg q
      rw [ea]
      cases c with
      | lst zs => obtain ⟨us, e1, r1⟩ := hc; exact ⟨us, e1, up r1⟩
      | ins c fs => exact hc.elim
  · rw [hl] at hk
    show m.Z (if k = S.length then D else m.at_ k)
    by_cases q : k = S.length
    · rw [if_pos q]; exact z
    · rw [if_neg q]; exact st.inZ k (by omega)
section
variable {X : Cx} {xC : Xs} {W : WX} {elt tg iter : Expr} {ifs : List Expr} {scope : Scope} {own : List (Str × Nat)} {pos : Pos}
/-- the state between two turns: D holds what has been made -/
structure Mid (K : PySem.W.Frag) (ρ : Env) (σ : L2.St) (m1 : Mp) (S1 : Store) (H1 : Hp) (w : Walk) (D : Addr) (acc : List PV) (S : Store) (m : Mp) (H : Hp) : Prop where
  st : StoreR K S m H
  z : m.Z D
  no : ∀ k, k < S.length → m.at_ k ≠ D
  there : ∃ vs, H D = some (.lst vs) ∧ VRs K m S.length H acc vs
  env : EnvR K ρ m S.length H σ
  ext : Ext m1 S1.length H1 m S.length H
  kept : keptOf w S = true
theorem e_lc (ob : Bool) (t : TG) (hc : X.calm = true) (hN : X.N.Nodup) {fi : Env → Store → Out Walk} {fc : Env → Store → Out Bool} {fe : Env → Store → Out PV}
    (hi : PI X tg iter (tIt X.K xC W fi)) (ok : BlkOk X.N X.env.scope scope own) (hsl : ∀ i ∈ slots t, i ∈ own.map (·.2))
    (hg : ∀ (s : Shared) (H : Hp) (C : Addr) (cl : List (Str × Addr)) (fp : List Addr), PG (X.blk s H scope (compEnvC scope cl C X.env) fp) tg (gT X.K t))
    (ht : ∀ (s : Shared) (H : Hp) (C : Addr) (cl : List (Str × Addr)) (fp : List Addr), PTs (X.blk s H scope (compEnvC scope cl C X.env) fp) ifs (tCo X.K xC W0 fc))
    (he : ∀ (s : Shared) (H : Hp) (C : Addr) (cl : List (Str × Addr)) (fp : List Addr), PE (X.blk s H scope (compEnvC scope cl C X.env) fp) elt (tE X.K xC W0 fe)) (hs : ∀ x, foldedSetIterable iter X.env x = pure x) :
    ∀ σ H Q, tE X.K xC W (lcF ob (own.map (·.2)) t fi fc fe) σ H Q → tLc (tIt X.K xC W fi) (gT X.K t) (tCo X.K xC W0 fc) (tE X.K xC W0 fe) (own.map (·.2)) σ H Q := by
  intro σ H Q ⟨ρ, S, m, G, q⟩
  refine ⟨ρ, S, m, G, OP.imp (fun w S1 m1 H1 e1 s1 q1 J wk kp => ?_) (OP.bind q)⟩
  have G1 := G.on e1 s1
  -- all turns come to an end
  have good : ∃ ys S', compL (compStep w (asg t) fc fe (wipe ρ (own.map (·.2)))) [] w.1 S1 = .ok ys S' := by
    refine compL_ok fun e => ?_
    rw [e] at q1
    exact q1
  obtain ⟨ys, Sf, hall⟩ := good
  rw [hall] at q1
  intro D hD
  have hwD : w.1.length ≤ SZ := by
    by_cases hz : w.1.length ≤ SZ
    · exact hz
    · have q1 : OP X.K xC W σ m1 S1 H1 _ (if w.1.length ≤ SZ then _ else Out.bad) := q1
      rw [if_neg hz] at q1
      exact q1.elim
  have trk : ∀ a, m1.Z a → H1 a ≠ none := fun a h => by obtain ⟨vs, e⟩ := s1.kind a h; rw [e]; exact fun z => nomatch z
  refine ⟨fun i mm H => mm = w.1.length - i ∧ i ≤ w.1.length ∧ ∃ acc S m, Mid X.K ρ σ m1 S1 H1 w D acc S m H ∧ acc.length ≤ i ∧ compL (compStep w (asg t) fc fe (wipe ρ (own.map (·.2)))) acc (w.1.drop i) S = .ok ys Sf,
    ⟨w.1.length, by simp, Nat.zero_le _, [], S1, hid m1 D, ⟨s1.hide hD, .inl rfl, fun k hk e => ?_, ⟨[], upd_same, .nil⟩, ?_, Ext.hide s1 hD, kp⟩, Nat.le_refl _, hall⟩, ?_⟩
  · obtain ⟨u, hu⟩ := s1.some k hk
    have e : m1.at_ k = D := e
    rw [e, hD] at hu; cases hu
  · exact G1.env.on s1 (Ext.hide s1 hD)
  rintro i mm H2 ⟨rfl, hi, acc, S2, m2, M, hacc, heq⟩
  have ww := wk S2 m2 H2 M.ext M.st M.kept
  by_cases hlt : i < w.1.length
  · -- a turn
    have hx : w.1[i]? = some w.1[i] := List.getElem?_eq_getElem hlt
    obtain ⟨hgo, hyld⟩ := ww.go i _ hx
    rw [List.drop_eq_getElem_cons hlt] at heq
    refine .inr ⟨hgo, fun H' => ∃ acc S m, Mid X.K ρ σ m1 S1 H1 w D acc S m H' ∧ acc.length ≤ i + 1 ∧ compL (compStep w (asg t) fc fe (wipe ρ (own.map (·.2)))) acc (w.1.drop (i + 1)) S = .ok ys Sf,
      fun H' h => ⟨w.1.length - (i + 1), by omega, rfl, hlt, h⟩, fun x H3 hy => ?_⟩
    obtain ⟨ex3, st3, rx⟩ := hyld x H3 hy
    -- what the step comes to
    unfold compL at heq
    generalize hst : compStep w (asg t) fc fe (wipe ρ (own.map (·.2))) w.1[i] S2 = r at heq
    unfold compStep at hst
    cases ha : asg t w.1[i] (wipe ρ (own.map (·.2))) with
    | none =>
      rw [ha] at hst
      subst hst
      cases heq
    | some ρ' =>
      rw [ha] at hst
      dsimp only at hst
      have E3 : EnvR X.K ρ m2 S2.length H3 σ := M.env.on M.st ex3
      refine ⟨wipe ρ (own.map (·.2)), S2, m2, w.1[i], ρ', ⟨E3.wipe _, st3⟩, rx, ha, fun σ4 G4 w4 => ⟨?_, ?_⟩⟩
      · rw [w4 _ hsl]
        have idem : ∀ vs : List Nat, L2.wipe (L2.wipe σ vs) vs = L2.wipe σ vs := by
          intro vs
          have gen : ∀ us : List Nat, (∀ u ∈ us, u ∈ vs) → L2.wipe (L2.wipe σ vs) us = L2.wipe σ vs := by
            intro us
            induction us with
            | nil => intro _; rfl
            | cons u us ih =>
              intro hu
              show (L2.wipe (L2.wipe σ vs) us).set u none = _
              rw [ih fun z hz => hu z (List.mem_cons_of_mem _ hz)]
              have hm : u ∈ vs := hu u List.mem_cons_self
              have clear : ∀ (vs : List Nat), u ∈ vs → (L2.wipe σ vs).set u none = L2.wipe σ vs := by
                intro vs
                induction vs with
                | nil => intro h; cases h
                | cons v vs ihv =>
                  intro h
                  show ((L2.wipe σ vs).set v none).set u none = (L2.wipe σ vs).set v none
                  by_cases e : u = v
                  · subst e; rw [List.set_set]
                  · rcases List.mem_cons.mp h with h | h
                    · exact absurd h e
                    · rw [List.set_comm _ _ (Ne.symm e), ihv h]
              exact clear vs hm
          exact gen vs fun u hu => hu
        exact idem _
      · refine ⟨ρ', S2, m2, G4, ?_⟩
        cases hcnd : fc ρ' S2 with
        | exc c as S4 => rw [hcnd] at hst; subst hst; cases heq
        | bad => rw [hcnd] at hst; subst hst; cases heq
        | ok b S4 =>
          rw [hcnd] at hst
          intro m4 H4 e4 s4
          have G5 := G4.on e4 s4
          have D3 : ∃ vs, H3 D = some (.lst vs) ∧ VRs X.K m2 S2.length H3 acc vs := by
            obtain ⟨vs, h1, h2⟩ := M.there
            exact ⟨vs, ex3.keep D _ h1 M.no, VRs.on M.st ex3 h2⟩
          have keepD : ∀ {m' : Mp} {S' : Store} {H' : Hp}, Ext m2 S2.length H3 m' S'.length H' → (∀ k, k < S'.length → m'.at_ k ≠ D) := fun {m' S' H'} e k hk z => by
            by_cases q : k < S2.length
            · rw [e.emb k q] at z; exact M.no k q z
            · exact (e.new k (Nat.le_of_not_lt q) hk).1 (by rw [z]; exact M.z)
          cases b with
          | false =>
            refine iteF ?_
            simp only [Out.bind_ok, Bool.false_eq_true, if_false] at hst
            split at hst
            · rename_i hk
              subst hst
              obtain ⟨vs, h1, h2⟩ := D3
              exact ⟨acc, S4, m4, ⟨s4, e4.sub D M.z, keepD e4, ⟨vs, e4.keep D _ h1 M.no, VRs.on st3 e4 h2⟩, E3.on st3 e4, (M.ext.trans ex3).trans e4, hk⟩, by omega, heq⟩
            · subst hst; cases heq
          | true =>
            refine iteT ?_
            simp only [Out.bind_ok, if_true] at hst
            refine ⟨ρ', S4, m4, G5, ?_⟩
            cases hel : fe ρ' S4 with
            | exc c as S5 => rw [hel] at hst; subst hst; cases heq
            | bad => rw [hel] at hst; subst hst; cases heq
            | ok y S5 =>
              rw [hel] at hst
              simp only [Out.bind_ok] at hst
              split at hst
              · rename_i hk
                subst hst
                intro m5 H5 e5 s5 x5 r5
                obtain ⟨vs, h1, h2⟩ := D3
                have e35 := e4.trans e5
                have hD5 : H5 D = some (.lst vs) := e35.keep D _ h1 M.no
                have hz5 : m5.Z D := e35.sub D M.z
                have no5 := keepD e35
                have r6 : VRs X.K m5 S5.length H5 (acc ++ [y]) (vs ++ [x5]) := (VRs.on st3 e35 h2).append (.cons r5 .nil)
                refine ⟨vs, hD5, ?_, acc ++ [y], S5, m5, ⟨s5.grow hz5 no5, hz5, no5, ⟨_, upd_same, VRs.wr s5 hz5 r6⟩, ?_, ?_, hk⟩, by rw [List.length_append]; simp; omega, heq⟩
                · have := h2.length
                  have e1 := SZ_eq
                  omega
                · have E5 : EnvR X.K ρ m5 S5.length H5 σ := E3.on st3 e35
                  exact ⟨E5.len, fun j v hv => let ⟨x, h1, h2⟩ := E5.get j v hv; ⟨x, h1, VR.wr s5 hz5 h2⟩⟩
                · have e15 := (M.ext.trans ex3).trans e35
                  refine ⟨e15.z0, e15.le, e15.emb, fun a o ha hk' => ?_, e15.sub, e15.fresh, e15.new⟩
                  rw [upd_ne fun z => by rw [z, hD] at ha; cases ha]
                  exact e15.keep a o ha hk'
              · subst hst; cases heq
  · -- the end
    have hi' : i = w.1.length := by omega
    subst hi'
    rw [List.drop_length] at heq
    cases heq
    refine .inl ⟨ww.stop _ (Nat.le_refl _), ?_⟩
    have q1 : OP X.K xC W σ m1 S1 H1 _ (if w.1.length ≤ SZ then (if ob then Out.ok (PV.ref Sf.length) (Sf ++ [Cell.lst ys]) else Out.ok (PV.lst ys) Sf) else Out.bad) := q1
    rw [if_pos hwD] at q1
    obtain ⟨vs, h1, h2⟩ := M.there
    cases ob with
    | false =>
      rw [if_neg Bool.false_ne_true] at q1
      exact q1 (shw m2 D) H2 (M.ext.shw hD trk) (M.st.shw M.no) _ (.lst (.inl ⟨.inl h1, fun z => z.1 rfl⟩) (VRs.shw h2))
    | true =>
      rw [if_pos rfl] at q1
      have hl : (Sf ++ [Cell.lst ys]).length = Sf.length + 1 := by simp
      have ea : (ext2 m2 Sf.length D).at_ Sf.length = D := if_pos rfl
      have := q1 (ext2 m2 Sf.length D) H2 ?_ (M.st.placed M.z M.no h1 h2) _ (.ref (k := Sf.length) (by rw [hl]; omega))
      · rw [ea] at this
        exact this
      · rw [hl]
        have e := M.ext
        refine ⟨e.z0, Nat.le_succ_of_le e.le, fun k hk => ?_, e.keep, e.sub, e.fresh, fun k h1 h2 => ?_⟩
        · have : k ≠ Sf.length := by have := e.le; omega
          show (if k = Sf.length then D else m2.at_ k) = _
          rw [if_neg this]
          exact e.emb k hk
        · show ¬ m1.Z (if k = Sf.length then D else m2.at_ k) ∧ H1 (if k = Sf.length then D else m2.at_ k) = none
          by_cases q : k = Sf.length
          · rw [if_pos q]
            exact ⟨s1.noneZ hD, hD⟩
          · rw [if_neg q]
            exact e.new k h1 (by omega)
end
end MK

set_option linter.all false
set_option autoImplicit false
set_option Elab.async false
set_option maxRecDepth 100000
set_option maxHeartbeats 4000000
/-! MkSup: an exception class of the program whose __init__ says super().__init__(text), self.f = its one argument. -/
namespace MK
open PySem PySem.Spec PyProof.Rows L2 NdefX

abbrev NS (p : Str) : List Str := ["self", p, "__class__"]
abbrev PSl (p : Str) : List Str := ["self", p]
abbrev CL : List Str := ["__class__"]
/-- what the written part says of such a class -/
structure SupC (P : Program) (K : PySem.W.Frag) (C fI : Addr) (F : NF) (p f : Str) (msg : Expr) : Prop where
  T : OexC K C
  iC : PySem.W.findIn K (.ref C) "__init__" = some (some (.ref fI))
  tI : PySem.W.typeIn K (.ref fI) = some (.type "function")
  lk : ∃ oc od doc pm ctv osl, K.lookup fI = some ⟨oc, od, .func (F.fd doc pm ctv), osl⟩
  cd : PySem.W.codeIn K (.ref F.c) F.qual = true
  file : ∃ ccl cdd vs ccs file tf, K.lookup F.c = some ⟨ccl, cdd, .fields vs, ccs⟩ ∧ vs[2]? = some (.str file tf) ∧ ((P.main.file : Str) == file) = true
  cell : ∃ cc cl cld csl, F.cl = [(("__class__" : Str), cc)] ∧ K.lookup cc = some ⟨cl, cld, .cell (some (.ref C)), csl⟩
  cls : ∃ cdD, PySem.W.clsIn K C = some cdD
  mro : PySem.W.mroIn K C (.ref C) = some true
  sup : PySem.W.ks_superIn K C C "__init__" = some (some (.builtin "ValueError.__init__"))
  isV : PySem.W.subIn K (.ref C) (.type "ValueError") = some true
  tp : PySem.W.nsIn K cStatics "thirdparty.any" = some none
  no : PySem.W.nsIn K mainGlobals "super" = some none
  nof : PySem.W.findIn K (.ref C) f = some none
  top : (P.main.scope.names.lookup ("super" : Str)).isSome = false
  par : ∃ ar, (F.params.posonlyargs ++ F.params.args).head? = some ar ∧ ar.arg = "self"
  sc : NScope (NS p) (PSl p) CL F.scope
  pd : (p == ("__debug__" : Str)) = false
  pc : (p == ("__classdict__" : Str)) = false
  scS : F.scope.names.lookup ("super" : Str) = some .globalImplicit
  body : ∃ p0 p1 p2 p3 p4 p5 p6 p7 p8, F.body = [.Expr (.Call (.Attribute (.Call (.Name "super" p0) [] [] p1) "__init__" p2) [msg] [] p3) p4, .Assign [.Attribute (.Name "self" p5) f p6] (.Name p p7) p8] ∧
    ∀ env : PySem.Env, starEach [msg] env = (false, eval msg env) :: starEach [] env ∧ ∃ pl : Sem Bool, eval (.Call (.Attribute (.Call (.Name "super" p0) [] [] p1) "__init__" p2) [msg] [] p3) env = (do
      let ov ← attributeBase (.Call (.Name "super" p0) [] [] p1) "__init__" env (eval (.Call (.Name "super" p0) [] [] p1) env)
      standAt p2.atName
      let (f, first) ← holding [ov] (getMethod ov "__init__" pl)
      callWith p3 f first (backTo p3 (starEach [msg] env)) [])

theorem int_no {env : PySem.Env} (h : env.scope.kind = .function) : interactive env = false := by
  unfold interactive
  rw [h]
  rfl
section
variable {X : Cx} {pins : List (Addr × Obj)} {σ : L2.St} {H : Hp} {s : Shared}
/-- one more pin -/
theorem pin_more (I : L2.Inv X pins σ H s) {u : Addr} {o : Obj} (h1 : s.heap.get? u = some o) (h2 : H u = none) (h3 : u ≠ X.env.locals) (h4 : u ∉ X.fs) (h5 : ∀ v, o.data ≠ .cell v) : L2.Inv X ((u, o) :: pins) σ H s :=
  ⟨I.ok, I.os, I.bare, I.base, I.loc, I.cell, I.free, I.freeC, fun p hp => by
    rcases List.mem_append.mp hp with hp | hp
    · exact I.pin p (List.mem_append_left _ hp)
    · rcases List.mem_cons.mp hp with rfl | hp
      · exact ⟨h1, h2, h3, h4, h5⟩
      · exact I.pin p (List.mem_append_right _ hp), I.hok, I.len⟩
theorem pin_less {q : Addr × Obj} (I : L2.Inv X (q :: pins) σ H s) : L2.Inv X pins σ H s :=
  ⟨I.ok, I.os, I.bare, I.base, I.loc, I.cell, I.free, I.freeC, fun p hp => I.pin p (by
    rcases List.mem_append.mp hp with hp | hp
    · exact List.mem_append_left _ hp
    · exact List.mem_append_right _ (List.mem_cons_of_mem _ hp)), I.hok, I.len⟩
/-- the built-in __init__, bound to the exception, called -/
theorem call_mw {A : Around} {E : Value → Shared → Prop} {u a C : Addr} {us : List Value} {Q : Value → Shared → Prop} (T : OexC X.K C) (I : L2.Inv X pins σ H s) (e : H a = some (exo a C none)) (hu : s.heap.get? u = some (PySem.W.kxs_mw "ValueError.__init__" a)) (hl : us.length ≤ sizeLine) (h : ∀ s', L2.Inv X pins σ H s' → Q .none s') :
    wpAny (model X.prog X.w) A (call (.ref u) us) Q E s := by
  obtain ⟨nm, q, N, bs, bm, sn, sub, ab, col, dd, k0, k1, k2, k3, k5, hC, hbm⟩ := T.cls
  obtain ⟨t1, ho⟩ := exo_at I.hok e
  have hC2 := I.kIn _ _ hC
  obtain ⟨hp, g, d, t, os⟩ := s
  have FB := F.excBase_ValueError
  refine wpAny_call (codeAny_of_tree ?_)
  show wpAny _ A.in1 (callAny (.ref u) ⟨us, []⟩) _ _ _
  unfold callAny
  refine wpAny_bind (wpAny_load hu ?_)
  simp only [PySem.W.kxs_mw, show (Value.type "method-wrapper" == Value.type "method") = false from by decide, show (Value.type "method-wrapper" == Value.type "method-wrapper") = true from by decide, Bool.or_true, if_true]
  refine PySem.W.KFB.if_so (by decide) ?_
  refine wpAny_bind (PySem.W.check_bound_init FB.toExcCallFacts hC2 ho rfl ?_)
  refine wpAny_bind (wpAny_pure (wpAny_pure ?_))
  refine ⟨plainId_quiet FB.init.plain _, codeAny_builtin FB.initEntry ?_⟩
  refine PySem.W.exc_init_tree (cls := .ref C) (t0 := t1) (dv := none) (c2 := .none) (c3 := .none) (b4 := .bool false) ho hl fun h' k hx _ => ?_
  have J := I.write (t' := t) (x := a) (e := a) (o := exo a C none) (by rw [e]; exact True.intro) (.inl rfl) k ⟨_, hx⟩ (exo_ok hx)
  have eu : upd H a (exo a C none) = H := by
    funext b
    by_cases hb : b = a
    · rw [hb, upd_same, e]
    · rw [upd_ne hb]
  rw [eu] at J
  exact h _ J
end
section
variable {P : Program} {w : World} {K : PySem.W.Frag} {mg : Str → Option Value} {base : Heap} {C fI : Addr} {F : NF} {p f : Str} {msg : Expr} {k : Nat} {good : V → Prop}
/-- what the __init__ promises -/
def supSp (K : PySem.W.Frag) (C : Addr) (f : Str) (good : V → Prop) : Sp := fun vs H Q E => ∃ (a : Addr) (v : V), vs = [.ref a, v] ∧ good v ∧ H a = some (exo a C none) ∧ ∀ d, H d = none → d ≠ a → Q .non (upd (upd H d (exd d [(f, v)])) a (exo a C (some d)))
theorem fnok_sup (SC : SupC P K C fI F p f msg)
    (hmsg : ∀ (A : Around) (outer : List PySem.Env) (s : Shared) (H : Hp) (E : XK) (k : Nat), Room k (A.deeper (envF F fI s.heap.objs.size)) → ∃ t, PE (ncx (L2.CX P w) P w K mg base (NS p) F fI A outer s H E) msg t ∧ ∀ (a : Addr) (v : V) (H' : Hp) (Q : VK), good v → (∀ z, Q (.str z) H') → t [some (.ref a), some v, none] H' Q)
    {fd : FuncData} (hfd : ∃ oc od doc pm ctv osl, fd = F.fd doc pm ctv ∧ K.lookup fI = some ⟨oc, od, .func fd, osl⟩) : FnOk P w K mg base (L2.CX P w) (k + 1) fI fd (PSl p) (supSp K C f good) := by
  refine ⟨fun vs H Q E h => ?_, fun A outer s H args us vs Q E hr e0 hb r hsp => ?_⟩
  · obtain ⟨a, v, rfl, _⟩ := h
    rfl
  obtain ⟨a, v, rfl, hg, ha, hq⟩ := hsp
  obtain ⟨oc, od, doc, pm, ctv, osl, rfl, lk⟩ := hfd
  have KX : K.In s.heap := e0.mod.kin.keeps fun b o e => (e0.bs b o e).1
  have lim : s.heap.NoLimit := e0.mod.nolimit.keeps fun b o e => (e0.bs b o e).1
  obtain ⟨cc, cl, cld, csl, hcl, hcc⟩ := SC.cell
  have hcell : s.heap.IsCell cc (some (.ref C)) := ⟨_, KX _ _ hcc, rfl⟩
  have hfree : H cc = none := (e0.bs _ _ (e0.mod.kin _ _ hcc)).2
  have look1 : ∀ {y : Str} {c : Addr}, F.cl.lookup y = some c → y = "__class__" ∧ c = cc := fun {y c} h => by
    rw [hcl] at h
    simp only [List.lookup] at h
    split at h
    · rename_i q
      exact ⟨by simpa using q, (Option.some.inj h).symm⟩
    · cases h
  have hC : CellsAt F.cl CL [none] s.heap H := ⟨rfl, fun y c h => by
      obtain ⟨_, rfl⟩ := look1 h
      exact ⟨hfree, _, hcell⟩, fun x y c h1 h2 => by
      rw [(look1 h1).1, (look1 h2).1], fun i y h => by
      cases i with
      | zero =>
        cases h
        refine ⟨cc, by rw [hcl]; rfl, fun v hv => ?_⟩
        simp at hv
      | succ i => simp at h⟩
  refine codeAny_call_function hr.depth (KX _ _ lk) rfl SC.sc.co SC.sc.gen rfl (PySem.W.codeRec_of KX SC.cd) (hb _ _ _ _ ?_)
  refine wpAny_newFunctionEnv SC.sc.nocell (fun ⟨n, _⟩ hy => SC.sc.par n (List.of_mem_zip hy).1) (fun h₁ hns hsb => ⟨lim.fresh _ hsb, ?_⟩) SC.sc.kind
  show codeAny _ _ (.func F.body (envF F fI s.heap.objs.size)) _ _
  refine ks_codeAny_funcAt ?_
  have kp : ∀ b o, s.heap.get? b = some o → h₁.get? b = some o := fun b o e => hsb.extBut b o (Nat.ne_of_lt (Heap.lt_size e)) (Heap.get?_push_of_some _ e)
  have I : L2.Inv (ncx (L2.CX P w) P w K mg base (NS p) F fI A outer s H E) [] (startF (NS p) [.ref a, v] [none]) H { s with heap := h₁, toks := s.toks + ((PSl p).zip us).length } := inv_startN SC.sc hr.hd e0 rfl r hC hns kp
  obtain ⟨p0, p1, p2, p3, p4, p5, p6, p7, p8, hbody, hev⟩ := SC.body
  obtain ⟨hstar, pl, hev⟩ := hev (envF F fI s.heap.objs.size)
  have hex : _root_.PySem.wpAt (model P w) (A.deeper (envF F fI s.heap.objs.size)) (.func F.body (envF F fI s.heap.objs.size)) (execs F.body (envF F fI s.heap.objs.size))
      (SP (ncx (L2.CX P w) P w K mg base (NS p) F fI A outer s H E) [] { nx := fun _ H' => Q .non H', rt := Q })
      (ncx (L2.CX P w) P w K mg base (NS p) F fI A outer s H E).xe { s with heap := h₁, toks := s.toks + ((PSl p).zip us).length } := by
    generalize hX : ncx (L2.CX P w) P w K mg base (NS p) F fI A outer s H E = Xi at I ⊢
    generalize s.toks + _ = tk at I ⊢
    obtain ⟨ccl, cdd, vs, ccs, file, tf, hco, hvs, hfile⟩ := SC.file
    obtain ⟨ar, hpar, harg⟩ := SC.par
    obtain ⟨cdD, hcd⟩ := SC.cls
    have hkF : (envF F fI s.heap.objs.size).scope.kind = .function := SC.sc.kind
    have KX1 : K.In h₁ := KX.keeps kp
    obtain ⟨mb, hmb1, hmb2⟩ := e0.mod.blt
    have bk1 : ∀ b o, base.get? b = some o → h₁.get? b = some o := fun b o e => kp b o (e0.bs b o e).1
    have hself : F.scope.names.lookup ("self" : Str) = some .local := SC.sc.par _ (by simp)
    obtain ⟨m, hns1, hlk⟩ := I.loc
    rw [hbody]
    refine ks_wpAt_execs_cons (ks_wpAt_Expr_any (ks_wpAt_MethodCall (pl := pl) ?_ hev) (int_no SC.sc.kind) rfl)
    refine ks_wpAt_super_base (env := envF F fI s.heap.objs.size) (fd := F.fd doc pm ctv) SC.scS (SC.sc.frk _ (by simp)) rfl rfl (KX1 _ _ lk) rfl hpar rfl (KX1 _ _ hco) rfl hvs hfile SC.top ?_
    refine PySem.W.ks_loadName_global SC.sc.kind SC.scS (PySem.Calls.loadGlobal_builtin (env := envF F fI s.heap.objs.size) (e0.mod.glob.keeps bk1) (PySem.W.mg_none_of e0.mod.kin e0.mod.glob SC.no) (hmb1.keeps bk1) ((hmb2 _ (by decide)).trans (by kernel_rfl)) ⟨rfl, ?_⟩)
    have hlook : (envF F fI s.heap.objs.size).cells.lookup ("__class__" : Str) = some cc := by
      show F.cl.lookup ("__class__" : Str) = some cc
      rw [hcl]
      rfl
    refine wpAny_loadName_free SC.sc.kind (SC.sc.frk _ (by simp)) hlook ⟨_, KX1 _ _ hcc, rfl⟩ ?_
    have hms : m "self" = some (.ref a) := by
      obtain ⟨u, ru, lk⟩ := hlk 0 "self" (.ref a) (by rw [← hX]; rfl) rfl (by rw [← hX]; exact .inl hself)
      have ru : u = .ref a := ru
      subst ru
      rcases lk with ⟨_, q⟩ | ⟨q, _⟩
      · exact q
      · rw [← hX] at q
        have q : F.scope.names.lookup ("self" : Str) = some .cell ∨ F.scope.names.lookup ("self" : Str) = some .free := q
        rw [hself] at q
        rcases q with q | q <;> cases q
    rw [harg]
    refine wpAny_loadName_local SC.sc.kind hself (by rw [← hX] at hns1; exact hns1) hms ?_
    obtain ⟨oD, hD1, hD2⟩ : ∃ oD, h₁.get? C = some oD ∧ oD.data = .cls cdD := by
      have hcd := hcd
      unfold PySem.W.clsIn at hcd
      split at hcd
      · rename_i c d cd' sl ho
        cases hcd
        exact ⟨_, KX1 _ _ ho, rfl⟩
      · cases hcd
    refine ks_wpAny_isType_cls hD1 hD2 ⟨rfl, ?_⟩
    obtain ⟨t1, hax⟩ := exo_at I.hok ha
    refine ks_wpAny_call_super hD1 hD2 hax rfl (fun c e => by cases e) (PySem.W.looks_mroIn KX1 SC.mro) (fun h2 e2 k2 => ?_)
    have I2 : L2.Inv Xi [] (startF (NS p) [.ref a, v] [none]) H { s with heap := h2, toks := tk } := I.kept (t' := tk) k2
    have KX2 : K.In h2 := KX1.keeps k2
    have hax2 := k2 _ _ hax
    have IA : PySem.W.InstAt h2 a _ C none := ⟨hax2, rfl, rfl, trivial⟩
    have hI : PySem.W.Looks (model P w) h2 (isInstance (.ref a) (.type "ValueError")) true := IA.type.andThen (PySem.W.looks_subIn KX2 SC.isV)
    have hsup := SC.sup
    unfold PySem.W.ks_superIn at hsup
    rw [hcd] at hsup
    refine PySem.W.kxs_getMethod PySem.W.kxs_ValueError e2 (PySem.W.looks_opaque KX2 SC.tp) (l₀ := cdD.mro) (fun A Q E s k q => wpAny_bind ((PySem.W.looks_clsIn KX2 hcd) A _ E s k (wpAny_pure q))) rfl KX2 hsup hI (PySem.W.ks_ne KX2 IA hcd) rfl ?_
    have hu : (h2.push (PySem.W.kxs_mw "ValueError.__init__" a)).get? h2.objs.size = some (PySem.W.kxs_mw "ValueError.__init__" a) := Heap.get?_push_at rfl rfl
    have k3 : ∀ b o, h2.get? b = some o → (h2.push (PySem.W.kxs_mw "ValueError.__init__" a)).get? b = some o := fun b o e => Heap.get?_push_of_some _ e
    have nU : H h2.objs.size = none := I2.hok.fresh (Nat.le_refl _)
    have nL : h2.objs.size ≠ Xi.env.locals := fun z => by
      have := I2.lt
      rw [← z] at this
      exact absurd this (Nat.lt_irrefl _)
    have nF : h2.objs.size ∉ Xi.fs := I2.nofs (Nat.le_refl _)
    have I3 := pin_more (I2.kept (t' := tk + 1) k3) hu nU nL nF (fun v e => by cases e)
    generalize h2.objs.size = u at hu nU nL nF I3 ⊢
    generalize h2.push (PySem.W.kxs_mw "ValueError.__init__" a) = h3 at hu k3 I3 ⊢
    refine PySem.W.kxs_callWith (i := "ValueError.__init__") (x := a) (by rw [hstar]; rfl) ?_
    obtain ⟨t, hpe, ht⟩ := hmsg A outer s H E _ (hr.deeper _)
    rw [hX] at hpe
    have hpa : PA Xi [msg] (tCons t tNil) := pa_cons hpe pa_nil (by rw [← hX]; exact hstar)
    rw [hstar]
    refine PySem.Calls.evalArgs_plain ?_
    have hrun := hpa.run p3 [(u, PySem.W.kxs_mw "ValueError.__init__" a)] _ _ H (fun vs H' => ∃ z, vs = [V.str z] ∧ H' = H) I3 (ht a v H _ hg fun z => ⟨z, rfl, rfl⟩)
    rw [show Xi.env = envF F fI s.heap.objs.size from by rw [← hX]; rfl] at hrun
    rw [hstar] at hrun
    rw [show Xi.prog = P from by rw [← hX]; rfl, show Xi.w = w from by rw [← hX]; rfl, show Xi.A = A.deeper (envF F fI s.heap.objs.size) from by rw [← hX]; rfl] at hrun
    refine thn hrun fun us s4 hh => ?_
    obtain ⟨vs, H', I4, rv, z, rfl, rfl⟩ := hh
    have hu4 : s4.heap.get? u = some (PySem.W.kxs_mw "ValueError.__init__" a) := (I4.pin (u, PySem.W.kxs_mw "ValueError.__init__" a) (by simp)).1
    refine ⟨hu4, ?_⟩
    have hlen : us.length ≤ sizeLine := by
      rw [← Paired.length rv, sizeLine_eq]
      show 1 ≤ 16777216
      decide
    subst hX
    refine call_mw (X := ncx (L2.CX P w) P w K mg base (NS p) F fI A outer s H' E) (pins := [(u, PySem.W.kxs_mw "ValueError.__init__" a)]) (σ := startF (NS p) [.ref a, v] [none]) (H := H') SC.T I4 ha hu4 hlen fun s5 I5 => ?_
    refine wpAt_of_wpAny ?_
    have J := pin_less I5
    have hp1 : F.scope.names.lookup p = some .local := SC.sc.par _ (by simp)
    have nd := SC.sc.nd
    refine (pss_one (ps_ost (pe_var (i := 0) rfl (.inl hself) rfl rfl) (pe_var (i := 1) rfl (.inl hp1) SC.pd SC.pc) rfl)).run [] s5 _ H' _ J ?_
    refine ⟨v, rfl, .ref a, rfl, a, C, rfl, SC.T, SC.nof, .inl ⟨ha, fun dx n ne => ?_⟩⟩
    exact hq dx n ne
  refine _root_.PySem.wpAt_mono hex (fun fl s' hs => ?_) fun e s' hs => hs
  have fin : ∀ {σ' : L2.St} {H' : Hp} {v : V} {u : Value}, L2.Inv (ncx (L2.CX P w) P w K mg base (NS p) F fI A outer s H E) [] σ' H' s' → L2.RelV v u → Q v H' → CE outer P w H s Q u s' :=
    fun {σ' H' v u} J rv q => ⟨v, H', J.os, J.bare, J.base, J.hok, rv, q⟩
  cases fl with
  | ret u =>
    obtain ⟨v, σ', H', J, rv, q⟩ := hs
    exact fin J rv q
  | next =>
    obtain ⟨σ', H', J, q⟩ := hs
    exact fin (v := V.non) (u := Value.none) J rfl q
  | brk =>
    obtain ⟨_, _, _, q⟩ := hs
    exact False.elim q
  | cont =>
    obtain ⟨_, _, _, q⟩ := hs
    exact False.elim q
end
end MK

set_option linter.all false
set_option autoImplicit false
set_option Elab.async false
set_option maxRecDepth 100000
set_option maxHeartbeats 4000000
/-! MkSt: statements. -/
namespace MK
open PySem PySem.Spec PyProof.Rows L2

section
variable (K : PySem.W.Frag) (xC : Xs)
def OS (W : WX) (m : Mp) (S : Store) (H : Hp) (D : Ends) : SOut → Prop
  | .next ρ' S' => ∀ m' H' σ', Ext m S.length H m' S'.length H' → Good K ρ' S' m' σ' H' → D.nx σ' H'
  | .ret v S' => ∀ m' H', Ext m S.length H m' S'.length H' → StoreR K S' m' H' → ∀ x, VR K m' S'.length H' v x → D.rt x H'
  | .brk ρ' S' => ∀ m' H' σ', Ext m S.length H m' S'.length H' → Good K ρ' S' m' σ' H' → D.bk σ' H'
  | .cont ρ' S' => ∀ m' H' σ', Ext m S.length H m' S'.length H' → Good K ρ' S' m' σ' H' → D.ct σ' H'
  | .exc c as ρ' S' => ∀ m' H' σ', Ext m S.length H m' S'.length H' → Good K ρ' S' m' σ' H' → ∀ d, XD xC c as d H' → W (.ref (xC.a c)) d σ' H'
  | .bad => False
def tS (W : WX) (f : Env → Store → SOut) : TS := fun D σ H => ∃ ρ S m, Good K ρ S m σ H ∧ OS K xC W m S H D (f ρ S)
end
section
variable {K : PySem.W.Frag} {xC : Xs} {W : WX} {σ : L2.St} {m m' : Mp} {S S' : Store} {H H' : Hp} {ρ : Env} {D D' : Ends}
theorem OS.ext (ex : Ext m S.length H m' S'.length H') : ∀ {o : SOut}, OS K xC W m S H D o → OS K xC W m' S' H' D o
  | .next ρ S2, h => fun m2 H2 σ2 e g => h m2 H2 σ2 (ex.trans e) g
  | .brk ρ S2, h => fun m2 H2 σ2 e g => h m2 H2 σ2 (ex.trans e) g
  | .cont ρ S2, h => fun m2 H2 σ2 e g => h m2 H2 σ2 (ex.trans e) g
  | .exc c as ρ S2, h => fun m2 H2 σ2 e g => h m2 H2 σ2 (ex.trans e) g
  | .ret v S2, h => fun m2 H2 e s => h m2 H2 (ex.trans e) s
  | .bad, h => h
/-- an expression's outcome within a statement -/
theorem OS.toS {α : Type} {f : α → Store → SOut} (G : Good K ρ S m σ H) : ∀ {o : Out α}, OS K xC W m S H D (o.toS ρ f) → OP K xC W σ m S H (fun a S1 m1 H1 => OS K xC W m1 S1 H1 D (f a S1)) o
  | .ok a S2, h => fun m2 H2 e s => OS.ext e h
  | .exc c as S2, h => fun m2 H2 e s => h m2 H2 σ e (G.on e s)
  | .bad, h => h
end

section
variable {X : Cx} {xC : Xs} {W : WX} {a b e tg : Expr} {f g : Env → Store → Out PV} {pos : Pos} {st : Stmt} {rest : List Stmt} {u v : Env → Store → SOut}

/-! ### blocks -/
theorem ss_nil : PSs X [] (tS X.K xC W fun ρ S => .next ρ S) := by
  refine pss_nil.imp fun D σ H ⟨ρ, S, m, G, q⟩ => ?_
  exact q m H σ (Ext.refl G.st) G
theorem ss_cons (h1 : PS X st (tS X.K xC W u)) (h2 : PSs X rest (tS X.K xC W v)) : PSs X (st :: rest) (tS X.K xC W fun ρ S => (u ρ S).andThen v) := by
  refine (pss_cons h1 h2).imp fun D σ H ⟨ρ, S, m, G, q⟩ => ?_
  refine ⟨ρ, S, m, G, ?_⟩
  dsimp only at q
  generalize u ρ S = o at q
  cases o with
  | next ρ' S' => exact fun m2 H2 σ2 e g => ⟨ρ', S', m2, g, OS.ext e q⟩
  | ret v S' => exact q
  | brk ρ' S' => exact q
  | cont ρ' S' => exact q
  | exc c as ρ' S' => exact q
  | bad => exact q

/-! ### small statements -/
theorem s_pass : PS X (.Pass pos) (tS X.K xC W fun ρ S => .next ρ S) := by
  refine ps_pass.imp fun D σ H ⟨ρ, S, m, G, q⟩ => ?_
  exact q m H σ (Ext.refl G.st) G
theorem s_brk : PS X (.Break pos) (tS X.K xC W fun ρ S => .brk ρ S) := by
  refine ps_break.imp fun D σ H ⟨ρ, S, m, G, q⟩ => ?_
  exact q m H σ (Ext.refl G.st) G
theorem s_cont : PS X (.Continue pos) (tS X.K xC W fun ρ S => .cont ρ S) := by
  refine ps_continue.imp fun D σ H ⟨ρ, S, m, G, q⟩ => ?_
  exact q m H σ (Ext.refl G.st) G
theorem s_retN : PS X (.Return none pos) (tS X.K xC W fun _ S => .ret .non S) := by
  refine ps_retN.imp fun D σ H ⟨ρ, S, m, G, q⟩ => ?_
  exact q m H (Ext.refl G.st) G.st _ .non
theorem s_ret (h : PE X a (tE X.K xC W f)) : PS X (.Return (some a) pos) (tS X.K xC W fun ρ S => (f ρ S).toS ρ fun v S1 => .ret v S1) := by
  refine (ps_ret h).imp fun D σ H ⟨ρ, S, m, G, q⟩ => ?_
  exact ⟨ρ, S, m, G, OP.imp (fun v S1 m1 H1 e1 s1 q1 x r => q1 m1 H1 (Ext.refl s1) s1 x r) (OS.toS G q)⟩
theorem s_ex (h : PE X a (tE X.K xC W f)) (hs : swapsWith a none pos.line X.env = pure false) : PS X (.Expr a pos) (tS X.K xC W fun ρ S => (f ρ S).toS ρ fun _ S1 => .next ρ S1) := by
  refine (ps_expr h hs).imp fun D σ H ⟨ρ, S, m, G, q⟩ => ?_
  exact ⟨ρ, S, m, G, OP.imp (fun v S1 m1 H1 e1 s1 q1 x r => q1 m1 H1 σ (Ext.refl s1) (G.on e1 s1)) (OS.toS G q)⟩
def ifF (f : Env → Store → Out PV) (u v : Env → Store → SOut) : Env → Store → SOut := fun ρ S => (f ρ S).toS ρ fun x S1 => match x with
  | .bl true => u ρ S1
  | .bl false => v ρ S1
  | _ => .bad
theorem s_if {as bs : List Stmt} (hc : PT X a (tT X.K xC W f)) (ha : PSs X as (tS X.K xC W u)) (hb : PSs X bs (tS X.K xC W v)) : PS X (.If a as bs pos) (tS X.K xC W (ifF f u v)) := by
  refine (ps_if hc ha hb).imp fun D σ H ⟨ρ, S, m, G, q⟩ => ?_
  refine ⟨ρ, S, m, G, OP.imp (fun x S1 m1 H1 e1 s1 q1 => ?_) (OS.toS G q)⟩
  cases x with
  | bl i =>
    refine ⟨i, rfl, ?_⟩
    cases i with
    | true => exact iteT ⟨ρ, S1, m1, G.on e1 s1, q1⟩
    | false => exact iteF ⟨ρ, S1, m1, G.on e1 s1, q1⟩
  | _ => exact q1.elim

/-! ### stores -/
def asgF (t : TG) (f : Env → Store → Out PV) : Env → Store → SOut := fun ρ S => (f ρ S).toS ρ fun v S1 => match asg t v ρ with
  | some ρ' => .next ρ' S1
  | none => .bad
theorem asg_end {t : TG} {ρ : Env} {S1 : Store} {m1 : Mp} {H1 : Hp} {σ : L2.St} {D : Ends} {v : PV} {x : V} (G : Good X.K ρ S1 m1 σ H1) (r : VR X.K m1 S1.length H1 v x)
    (q : OS X.K xC W m1 S1 H1 D (match asg t v ρ with | some ρ' => .next ρ' S1 | none => .bad)) : gT X.K t x σ H1 D.nx := by
  cases ha : asg t v ρ with
  | none => rw [ha] at q; exact q.elim
  | some ρ' =>
    rw [ha] at q
    exact ⟨ρ, S1, m1, v, ρ', G, r, ha, fun σ' G' _ => q m1 H1 σ' (Ext.refl G'.st) G'⟩
theorem s_asg {t : TG} (he : PE X e (tE X.K xC W f)) (hg : PG X tg (gT X.K t)) (hs : swapsWithSole [tg] e pos.line X.env = pure false) (hw : swappedStores [tg] e X.env = pure none)
    (h1 : (assignEach [tg] X.env).map (·.2) = [assign tg X.env]) : PS X (.Assign [tg] e pos) (tS X.K xC W (asgF t f)) := by
  refine (ps_asg he hg hs hw h1).imp fun D σ H ⟨ρ, S, m, G, q⟩ => ?_
  refine ⟨ρ, S, m, G, OP.imp (fun v S1 m1 H1 e1 s1 q1 x r => ?_) (OS.toS G q)⟩
  exact asg_end (G.on e1 s1) r q1
theorem s_set {i : Nat} {x : Str} {pos' : Pos} (hN : X.N.Nodup) (hi : X.N[i]? = some x) (hx : Loc X.env.scope x) (he : PE X e (tE X.K xC W f)) (hs : swapsWith e (some (.Name x pos')) pos.line X.env = pure false) (hf : X.fn x = true ∨ X.env.scope.names.lookup x = some .local) :
    PS X (.Assign [.Name x pos'] e pos) (tS X.K xC W (asgF (.nm i) f)) := by
  refine (ps_set hN hi hx he hs hf).imp fun D σ H ⟨ρ, S, m, G, q⟩ => ?_
  refine ⟨ρ, S, m, G, OP.imp (fun v S1 m1 H1 e1 s1 q1 x r => ?_) (OS.toS G q)⟩
  have q1 : OS X.K xC W m1 S1 H1 D (match (if i < ρ.length then some (ρ.set i (some v)) else none) with | some ρ' => .next ρ' S1 | none => .bad) := q1
  by_cases hl : i < ρ.length
  · rw [if_pos hl] at q1
    have G1 := G.on e1 s1
    exact q1 m1 H1 _ (Ext.refl s1) ⟨G1.env.set r hl, s1⟩
  · rw [if_neg hl] at q1
    exact q1.elim
/-- a comprehension stored at a local name -/
theorem s_setLc {i : Nat} {y : Str} {py : Pos} {elt iter : Expr} {ifs : List Expr} {scope : Scope} {own : List (Str × Nat)} {lpos : Pos} (ob : Bool) (t : TG) (hc : X.calm = true) (hN : X.N.Nodup) (hy : X.N[i]? = some y) (hyl : X.env.scope.names.lookup y = some .local)
    (hsw : swapsWith (.ListComp elt [⟨tg, iter, ifs, 0⟩] scope lpos) (some (.Name y py)) pos.line X.env = pure true)
    {fi : Env → Store → Out Walk} {fc : Env → Store → Out Bool} {fe : Env → Store → Out PV}
    (hi : PI X tg iter (tIt X.K xC W fi)) (ok : BlkOk X.N X.env.scope scope own) (hsl : ∀ i ∈ slots t, i ∈ own.map (·.2))
    (hg : ∀ (s : Shared) (H : Hp) (C : Addr) (cl : List (Str × Addr)) (fp : List Addr), PG (X.blk s H scope (compEnvC scope cl C X.env) fp) tg (gT X.K t))
    (ht : ∀ (s : Shared) (H : Hp) (C : Addr) (cl : List (Str × Addr)) (fp : List Addr), PTs (X.blk s H scope (compEnvC scope cl C X.env) fp) ifs (tCo X.K xC W0 fc))
    (he : ∀ (s : Shared) (H : Hp) (C : Addr) (cl : List (Str × Addr)) (fp : List Addr), PE (X.blk s H scope (compEnvC scope cl C X.env) fp) elt (tE X.K xC W0 fe)) (hs : ∀ x, foldedSetIterable iter X.env x = pure x) :
    PS X (.Assign [.Name y py] (.ListComp elt [⟨tg, iter, ifs, 0⟩] scope lpos) pos) (tS X.K xC W (asgF (.nm i) (lcF ob (own.map (·.2)) t fi fc fe))) := by
  refine (ps_setLc hc hN hy hyl hsw hi ok hg ht he hs).imp fun D σ H ⟨ρ, S, m, G, q⟩ => ?_
  refine e_lc ob t hc hN hi ok hsl hg ht he hs σ H _ ⟨ρ, S, m, G, OP.imp (fun v S1 m1 H1 e1 s1 q1 x r => ?_) (OS.toS G q)⟩
  have q1 : OS X.K xC W m1 S1 H1 D (match (if i < ρ.length then some (ρ.set i (some v)) else none) with | some ρ' => .next ρ' S1 | none => .bad) := q1
  by_cases hl : i < ρ.length
  · rw [if_pos hl] at q1
    have G1 := G.on e1 s1
    exact q1 m1 H1 _ (Ext.refl s1) ⟨G1.env.set r hl, s1⟩
  · rw [if_neg hl] at q1
    exact q1.elim
def tupF (l : Env → Store → Out (List PV)) : Env → Store → Out PV := fun ρ S => (l ρ S).bind fun vs S' => if vs.length ≤ SZ then .ok (.tup vs) S' else .bad
/-- the outcome of a tuple that is stored at once -/
theorem par_end {l : Env → Store → Out (List PV)} {ts : List TG} {ρ : Env} {S : Store} {m : Mp} {H : Hp} {σ : L2.St} {D : Ends} (G : Good X.K ρ S m σ H) (q : OS X.K xC W m S H D (asgF (.tp ts) (tupF l) ρ S)) :
    OP X.K xC W σ m S H (fun vs S1 m1 H1 => ∃ ρ', asgs ts vs ρ = some ρ' ∧ OS X.K xC W m1 S1 H1 D (.next ρ' S1)) (l ρ S) := by
  unfold asgF tupF at q
  cases hl : l ρ S with
  | ok vs S1 =>
    intro m1 H1 e1 s1
    rw [hl] at q
    by_cases hz : vs.length ≤ SZ
    · simp only [Out.bind_ok, if_pos hz, Out.toS_ok] at q
      have q : OS X.K xC W m S H D (match asgs ts vs ρ with | some ρ' => .next ρ' S1 | none => .bad) := q
      cases ha : asgs ts vs ρ with
      | none => rw [ha] at q; exact q.elim
      | some ρ' => rw [ha] at q; exact ⟨ρ', rfl, OS.ext e1 q⟩
    · simp only [Out.bind_ok, if_neg hz, Out.toS_bad] at q
      exact q.elim
  | exc c as S1 =>
    rw [hl] at q
    exact fun m1 H1 e1 s1 => q m1 H1 σ e1 (G.on e1 s1)
  | bad => rw [hl] at q; exact q
theorem s_par {i j : Nat} {x y : Str} {l : Env → Store → Out (List PV)} {px py pt : Pos} {kt k2 pt2} (hc : X.calm = true) (hN : X.N.Nodup) (hi : X.N[i]? = some x) (hj : X.N[j]? = some y) (hij : i ≠ j)
    (hx : X.env.scope.names.lookup x = some .local) (hy : X.env.scope.names.lookup y = some .local) (ha : PA X [a, b] (tA X.K xC W l))
    (hw : swappedStores [.Tuple [.Name x px, .Name y py] kt pt] (.Tuple [a, b] k2 pt2) X.env = pure (some [x, y])) :
    PS X (.Assign [.Tuple [.Name x px, .Name y py] kt pt] (.Tuple [a, b] k2 pt2) pos) (tS X.K xC W (asgF (.tp [.nm i, .nm j]) (tupF l))) := by
  refine (ps_par hc hN hi hj hij hx hy ha hw).imp fun D σ H ⟨ρ, S, m, G, q⟩ => ?_
  refine ⟨ρ, S, m, G, OP.imp (fun vs S1 m1 H1 e1 s1 q1 xs r => ?_) (par_end G q)⟩
  obtain ⟨ρ', ha, q2⟩ := q1
  have hlen := asgs_len ha
  match vs, xs, r, hlen, ha with
  | [v, w], [xv, xw], .cons rv (.cons rw' .nil), _, ha =>
    refine ⟨xv, xw, rfl, ?_⟩
    have ha : ((if i < ρ.length then some (ρ.set i (some v)) else none).bind fun ρ1 => (if j < ρ1.length then some (ρ1.set j (some w)) else none).bind fun ρ2 => some ρ2) = some ρ' := ha
    by_cases h1 : i < ρ.length
    · rw [if_pos h1] at ha
      simp only [Option.bind_some] at ha
      by_cases h2 : j < (ρ.set i (some v)).length
      · rw [if_pos h2] at ha
        cases ha
        have G1 := G.on e1 s1
        exact q2 m1 H1 _ (Ext.refl s1) ⟨(G1.env.set rv h1).set rw' h2, s1⟩
      · rw [if_neg h2] at ha; cases ha
    · rw [if_neg h1] at ha; cases ha
theorem s_par3 {i j k : Nat} {x y z : Str} {c : Expr} {l : Env → Store → Out (List PV)} {px py pz pt : Pos} {kt k2 pt2} (hc : X.calm = true) (hN : X.N.Nodup) (hi : X.N[i]? = some x) (hj : X.N[j]? = some y) (hk : X.N[k]? = some z) (hij : i ≠ j) (hik : i ≠ k) (hjk : j ≠ k)
    (hx : X.env.scope.names.lookup x = some .local) (hy : X.env.scope.names.lookup y = some .local) (hz : X.env.scope.names.lookup z = some .local) (ha : PA X [a, b, c] (tA X.K xC W l))
    (hw : swappedStores [.Tuple [.Name x px, .Name y py, .Name z pz] kt pt] (.Tuple [a, b, c] k2 pt2) X.env = pure (some [x, y, z])) :
    PS X (.Assign [.Tuple [.Name x px, .Name y py, .Name z pz] kt pt] (.Tuple [a, b, c] k2 pt2) pos) (tS X.K xC W (asgF (.tp [.nm i, .nm j, .nm k]) (tupF l))) := by
  refine (ps_par3 hc hN hi hj hk hij hik hjk hx hy hz ha hw).imp fun D σ H ⟨ρ, S, m, G, q⟩ => ?_
  refine ⟨ρ, S, m, G, OP.imp (fun vs S1 m1 H1 e1 s1 q1 xs r => ?_) (par_end G q)⟩
  obtain ⟨ρ', ha, q2⟩ := q1
  have hlen := asgs_len ha
  match vs, xs, r, hlen, ha with
  | [v, w, u], [xv, xw, xu], .cons rv (.cons rw' (.cons ru .nil)), _, ha =>
    refine ⟨xv, xw, xu, rfl, ?_⟩
    have ha : ((if i < ρ.length then some (ρ.set i (some v)) else none).bind fun ρ1 => (if j < ρ1.length then some (ρ1.set j (some w)) else none).bind fun ρ2 => (if k < ρ2.length then some (ρ2.set k (some u)) else none).bind fun ρ3 => some ρ3) = some ρ' := ha
    by_cases h1 : i < ρ.length
    · rw [if_pos h1] at ha
      simp only [Option.bind_some] at ha
      by_cases h2 : j < (ρ.set i (some v)).length
      · rw [if_pos h2] at ha
        simp only [Option.bind_some] at ha
        by_cases h3 : k < ((ρ.set i (some v)).set j (some w)).length
        · rw [if_pos h3] at ha
          cases ha
          have G1 := G.on e1 s1
          exact q2 m1 H1 _ (Ext.refl s1) ⟨((G1.env.set rv h1).set rw' h2).set ru h3, s1⟩
        · rw [if_neg h3] at ha; cases ha
      · rw [if_neg h2] at ha; cases ha
    · rw [if_neg h1] at ha; cases ha

/-! ### op= -/
theorem ip_ev (op : BO) : PIp X (opOf op) (fun x y H Q => ∃ S m u v w, StoreR X.K S m H ∧ VR X.K m S.length H u x ∧ VR X.K m S.length H v y ∧ evAug op u v = some w ∧ PEnd X.K S m H w Q) := by
  intro pins s σ H x y v u Q I rx ry h
  obtain ⟨S, m, a, b, w, st, ra, rb, e, q⟩ := h
  unfold evAug at e
  split at e
  · cases e; cases ra; cases rb
    exact iop_add pins s σ H _ _ v u Q I rx ry ⟨_, _, rfl, rfl, q.here st (.int _)⟩
  · cases e; cases ra; cases rb
    exact iop_sub pins s σ H _ _ v u Q I rx ry ⟨_, _, rfl, rfl, q.here st (.int _)⟩
  · split at e
    · rename_i hm
      cases e; cases ra; cases rb
      exact iop_mul pins s σ H _ _ v u Q I rx ry ⟨_, _, rfl, rfl, mulOk_C hm, q.here st (.int _)⟩
    · cases e
  · split at e
    · rename_i hm
      cases e; cases ra; cases rb
      exact iop_fdiv pins s σ H _ _ v u Q I rx ry ⟨_, _, rfl, rfl, hm, q.here st (.int _)⟩
    · cases e
  · split at e
    · rename_i hm
      cases e; cases ra; cases rb
      exact iop_mod pins s σ H _ _ v u Q I rx ry ⟨_, _, rfl, rfl, hm, q.here st (.int _)⟩
    · cases e
  · split at e
    · rename_i xs ys hm
      cases e
      cases ra with
      | str _ h1 =>
        cases rb with
        | str _ h2 =>
          have e3 : strV xs ++ strV ys = strV (xs ++ ys) := by
            show (⟨xs.toArray ++ ys.toArray⟩ : Str) = ⟨(xs ++ ys).toArray⟩
            simp
          refine in_addS pins s σ H _ _ v u Q I rx ry ⟨_, _, rfl, rfl, ?_, ?_⟩
          · rw [strV_length, strV_length, ← SZ_eq]; exact hm
          · rw [e3]
            exact q.here st (.str _ (h1.append h2 hm))
    · cases e
  · cases e
def augF (i : Nat) (op : BO) (f : Env → Store → Out PV) : Env → Store → SOut := fun ρ S => match ρ[i]? with
    | some (some x) => (f ρ S).toS ρ fun y S1 => match evAug op x y with
      | some z => .next (ρ.set i (some z)) S1
      | none => .bad
    | _ => .bad
theorem s_aug {i : Nat} {x : Str} {pos' : Pos} (op : BO) (hN : X.N.Nodup) (hi : X.N[i]? = some x) (hx : Loc X.env.scope x) (he : PE X e (tE X.K xC W f)) (hf : X.fn x = true ∨ X.env.scope.names.lookup x = some .local) :
    PS X (.AugAssign (.Name x pos') (opOf op) e pos) (tS X.K xC W (augF i op f)) := by
  refine (ps_aug hN hi hx he (ip_ev op) hf).imp fun D σ H ⟨ρ, S, m, G, q⟩ => ?_
  unfold augF at q
  cases hρ : ρ[i]? with
  | none => rw [hρ] at q; exact q.elim
  | some o =>
    cases o with
    | none => rw [hρ] at q; exact q.elim
    | some xv =>
      rw [hρ] at q
      obtain ⟨z, h1, h2⟩ := G.env.get i xv hρ
      refine ⟨z, h1, ρ, S, m, G, OP.imp (fun v S1 m1 H1 e1 s1 q1 y r => ?_) (OS.toS G q)⟩
      cases ha : evAug op xv v with
      | none => rw [ha] at q1; exact q1.elim
      | some w =>
        rw [ha] at q1
        have G1 := G.on e1 s1
        refine ⟨S1, m1, xv, v, w, s1, VR.on G.st e1 h2, r, ha, fun H2 e2 s2 z rz => ?_⟩
        have G2 := G1.on e2 s2
        exact q1 m1 H2 _ e2 ⟨G2.env.set rz (List.getElem?_eq_some_iff.mp hρ).1, s2⟩

/-! ### loops -/
def forF (t : TG) (fi : Env → Store → Out Walk) (u : Env → Store → SOut) : Env → Store → SOut := fun ρ S => (fi ρ S).toS ρ fun w S1 =>
    forL (forW (keptOf w) fun x ρ S => match asg t x ρ with
      | some ρ' => u ρ' S
      | none => .bad) w.1 ρ S1
theorem s_for {iter : Expr} {body : List Stmt} {t : TG} {fi : Env → Store → Out Walk} (hp : PassesOwn (model X.prog X.w) X.A X.env X.xe) (hc : X.calm = true) (hi : PI X tg iter (tIt X.K xC W fi)) (hg : PG X tg (gT X.K t)) (hb : PSs X body (tS X.K xC W u))
    (hs : ∀ x, foldedSetIterable iter X.env x = pure x) : PS X (.For tg iter body [] pos) (tS X.K xC W (forF t fi u)) := by
  refine (ps_for hp hc hi hg hb hs).imp fun D σ H ⟨ρ, S, m, G, q⟩ => ?_
  refine ⟨ρ, S, m, G, OP.imp (fun w S1 m1 H1 e1 s1 q1 J wk kp => ?_) (OS.toS G q)⟩
  refine ⟨fun i mm σ H => mm = w.1.length - i ∧ i ≤ w.1.length ∧ ∃ ρ S m, Good X.K ρ S m σ H ∧ Ext m1 S1.length H1 m S.length H ∧ keptOf w S = true ∧
      OS X.K xC W m S H D (forL (forW (keptOf w) fun x ρ S => match asg t x ρ with | some ρ' => u ρ' S | none => .bad) (w.1.drop i) ρ S),
    ⟨w.1.length, by simp, Nat.zero_le _, ρ, S1, m1, G.on e1 s1, Ext.refl s1, kp, q1⟩, ?_⟩
  rintro i mm σ2 H2 ⟨rfl, hi, ρ2, S2, m2, G2, e2, kp2, q2⟩
  have ww := wk S2 m2 H2 e2 G2.st kp2
  by_cases hlt : i < w.1.length
  · have hx : w.1[i]? = some w.1[i] := List.getElem?_eq_getElem hlt
    obtain ⟨hgo, hyld⟩ := ww.go i _ hx
    rw [List.drop_eq_getElem_cons hlt] at q2
    refine .inr ⟨hgo, fun σ' H' => ∃ ρ S m, Good X.K ρ S m σ' H' ∧ Ext m1 S1.length H1 m S.length H' ∧ keptOf w S = true ∧
        OS X.K xC W m S H' D (forL (forW (keptOf w) fun x ρ S => match asg t x ρ with | some ρ' => u ρ' S | none => .bad) (w.1.drop (i + 1)) ρ S),
      fun σ' H' h => ⟨w.1.length - (i + 1), by omega, rfl, hlt, h⟩, fun x H3 hy => ?_⟩
    obtain ⟨ex3, st3, rx⟩ := hyld x H3 hy
    have G3 : Good X.K ρ2 S2 m2 σ2 H3 := G2.on ex3 st3
    cases ha : asg t w.1[i] ρ2 with
    | none => simp only [forL, forW, ha] at q2; exact q2.elim
    | some ρ' =>
      simp only [forL, forW, ha] at q2
      refine ⟨ρ2, S2, m2, w.1[i], ρ', G3, rx, ha, fun σ4 G4 _ => ⟨ρ', S2, m2, G4, ?_⟩⟩
      have q3 := OS.ext ex3 q2
      generalize u ρ' S2 = o at q3
      cases o with
      | next ρ5 S5 =>
        intro m5 H5 σ5 e5 G5
        dsimp only at q3
        by_cases hk : keptOf w S5 = true
        · rw [if_pos hk] at q3
          exact ⟨ρ5, S5, m5, G5, (e2.trans ex3).trans e5, hk, OS.ext e5 q3⟩
        · rw [if_neg hk] at q3
          exact q3.elim
      | cont ρ5 S5 =>
        intro m5 H5 σ5 e5 G5
        dsimp only at q3
        by_cases hk : keptOf w S5 = true
        · rw [if_pos hk] at q3
          exact ⟨ρ5, S5, m5, G5, (e2.trans ex3).trans e5, hk, OS.ext e5 q3⟩
        · rw [if_neg hk] at q3
          exact q3.elim
      | brk ρ5 S5 => exact q3
      | ret v S5 => exact q3
      | exc c as ρ5 S5 => exact q3
      | bad => exact q3
  · have hi' : i = w.1.length := by omega
    subst hi'
    rw [List.drop_length] at q2
    exact .inl ⟨ww.stop _ (Nat.le_refl _), q2 m2 H2 σ2 (Ext.refl G2.st) G2⟩
theorem s_while {body : List Stmt} (n : Nat) (hp : PassesOwn (model X.prog X.w) X.A X.env X.xe) (hc : PT X a (tT X.K xC W f)) (hb : PSs X body (tS X.K xC W u)) : PS X (.While a body [] pos) (tS X.K xC W fun ρ S => whileL f u n ρ S) := by
  refine (ps_while hp hc hb).imp fun D σ H ⟨ρ, S, m, G, q⟩ => ?_
  refine ⟨fun k σ H => ∃ ρ S m, Good X.K ρ S m σ H ∧ OS X.K xC W m S H D (whileL f u k ρ S), ⟨n, ρ, S, m, G, q⟩, ?_⟩
  rintro k σ2 H2 ⟨ρ2, S2, m2, G2, q2⟩
  cases k with
  | zero => exact q2.elim
  | succ k =>
    refine ⟨ρ2, S2, m2, G2, OP.imp (fun x S1 m1 H1 e1 s1 q1 => ?_) (OS.toS G2 q2)⟩
    cases x with
    | bl i =>
      refine ⟨i, rfl, ?_⟩
      have G3 := G2.on e1 s1
      cases i with
      | true =>
        refine iteT ⟨fun σ' H' => ∃ ρ S m, Good X.K ρ S m σ' H' ∧ OS X.K xC W m S H' D (whileL f u k ρ S), fun σ' H' h => ⟨k, Nat.lt_succ_self k, h⟩, ρ2, S1, m1, G3, ?_⟩
        dsimp only at q1
        generalize u ρ2 S1 = o at q1
        cases o with
        | next ρ5 S5 => exact fun m5 H5 σ5 e5 G5 => ⟨ρ5, S5, m5, G5, OS.ext e5 q1⟩
        | cont ρ5 S5 => exact fun m5 H5 σ5 e5 G5 => ⟨ρ5, S5, m5, G5, OS.ext e5 q1⟩
        | brk ρ5 S5 => exact q1
        | ret v S5 => exact q1
        | exc c as ρ5 S5 => exact q1
        | bad => exact q1
      | false => exact iteF (q1 m1 H1 σ2 (Ext.refl s1) G3)
    | _ => exact q1.elim

/-! ### raise -/
theorem s_raise {C : Addr} {x msg : Str} {j : Nat} {p p2 cpos : Pos} {k : Nat} (hk : k < xC.n) (hxc : xC.a k = C) (hc : X.calm = true) (tk : Takes X W) (q : PySem.W.excIn X.K C [.type "ValueError", .type "Exception", .type "BaseException", .type "object"] "ValueError.__new__" = true) (gC : X.mg x = some (.ref C)) (kC : PySem.W.keepIn X.K (.ref C) = true) (r : Raises X (.ref C)) (hg : Gl X x)
    (hdb : (x == ("__debug__" : Str)) = false) : PS X (.Raise (some (.Call (.Name x p) [.Constant (.str msg) j p2] [] cpos)) none pos) (tS X.K xC W fun ρ S => .exc k [] ρ S) := by
  refine (ps_raise hc tk (pmk_own PySem.F.excBase_ValueError q gC kC r hg hdb)).imp fun D σ H ⟨ρ, S, m, G, q⟩ => ?_
  have := q m H σ (Ext.refl G.st) G none ⟨hk, rfl⟩
  rw [hxc] at this
  exact this
/-- what such an __init__ takes -/
def goodX (v : V) : Prop := (∃ i : Int, v = .int i ∧ i.natAbs < 2 ^ 64) ∨ ∃ z : Str, v = .str z ∧ z.length ≤ 1000000
theorem xOk_good {K : PySem.W.Frag} {m : Mp} {n : Nat} {H : Hp} {v : PV} {x : V} (h : xOk v = true) (r : VR K m n H v x) : goodX x ∧ x = flatV v ∧ ∀ s, v = .str s → okS s := by
  cases r with
  | int i => exact ⟨.inl ⟨i, rfl, of_decide_eq_true h⟩, rfl, fun s e => by cases e⟩
  | str s h1 => exact ⟨.inr ⟨strV s, rfl, by rw [strV_length]; exact of_decide_eq_true h⟩, rfl, fun s e => by cases e; exact h1⟩
  | _ => exact absurd (show false = true from h) Bool.false_ne_true
theorem s_raiseA {C fI : Addr} {x f pr : Str} {fd : FuncData} {j : Nat} {p cpos : Pos} {k : Nat} {g : Env → Store → Out PV} (hk : k < xC.n) (hxc : xC.a k = C) (hxf : xC.f k = some f) (hc : X.calm = true) (tk : Takes X W) (T : OexC X.K C)
    (iC : PySem.W.findIn X.K (.ref C) "__init__" = some (some (.ref fI))) (tI : PySem.W.typeIn X.K (.ref fI) = some (.type "function")) (F1 : FnOk X.prog X.w X.K X.mg X.base (L2.CX X.prog X.w) j fI fd (PSl pr) (supSp X.K C f goodX)) (hr : Room (j + 1) X.A) (hb : Binds X.K fd (PSl pr) [])
    (hg : Gl X x) (hm : X.mg x = some (.ref C)) (hdb : (x == ("__debug__" : Str)) = false) (he : PE X e (tE X.K xC W g)) (hst : starEach [e] X.env = (false, eval e X.env) :: starEach [] X.env) :
    PS X (.Raise (some (.Call (.Name x p) [e] [] cpos)) none pos) (tS X.K xC W fun ρ S => (g ρ S).toS ρ fun v S1 => if xOk v then .exc k [v] ρ S1 else .bad) := by
  refine (ps_raise hc tk (pmk_oex (dvs := []) T iC tI F1 hr hb .nil passL hg hm (pa_cons he pa_nil hst) hdb hst)).imp fun D σ H ⟨ρ, S, m, G, q⟩ => ?_
  refine ⟨ρ, S, m, G, OP.imp (fun v S1 m1 H1 e1 s1 q1 x r => ?_) (OS.toS G q)⟩
  by_cases hv : xOk v = true
  · rw [if_pos hv] at q1
    obtain ⟨g1, rfl, g2⟩ := xOk_good hv r
    refine ⟨by show 1 ≤ 1000; decide, fun a ha => ⟨a, _, rfl, g1, upd_same, fun d hd hda => ?_⟩⟩
    have hd1 : H1 d = none := by
      rw [upd_ne hda] at hd
      exact hd
    refine ⟨rfl, d, [(f, flatV v)], upd_same, by rw [upd_ne hda, upd_same], hd1, ?_⟩
    have eH : upd (del (upd (upd (upd H1 a (exo a C none)) d (exd d [(f, flatV v)])) a (exo a C (some d))) a) d (.xd [(f, flatV v)]) = upd H1 d (.xd [(f, flatV v)]) := by
      funext b
      by_cases hb : b = d
      · rw [hb, upd_same, upd_same]
      · rw [upd_ne hb, upd_ne hb]
        by_cases hba : b = a
        · rw [hba, del_same, ha]
        · rw [del_ne hba, upd_ne hba, upd_ne hb, upd_ne hba]
    rw [eH]
    have := q1 m1 (upd H1 d (.xd [(f, flatV v)])) σ (Ext.push s1 hd1) ((G.on e1 s1).on (Ext.push s1 hd1) (s1.push hd1)) (some d) ⟨hk, rfl, hv, g2, f, d, hxf, rfl, upd_same⟩
    rw [hxc] at this
    exact this
  · rw [if_neg hv] at q1
    exact q1.elim
end
end MK

set_option linter.all false
set_option autoImplicit false
set_option Elab.async false
set_option maxRecDepth 100000
set_option maxHeartbeats 4000000
/-! MkEnum: enumerate over what nobody changes: a list, a tuple, a text. -/
namespace MK
open PySem PySem.Spec PyProof.Rows L2
open AutoSeq1 (wpAny_loadPart')

set_option maxHeartbeats 8000000 in
theorem meets_enum_new {v : Value} {o : Obj} {H : Heap → Prop} (B : Begins v o H) :
    Meets (Builtin.«enumerate.__new__» ⟨[.type "enumerate", v], []⟩) (fun _ R s => H s.heap ∧
      R (.ok (.ret (.ref (s.heap.push o).objs.size))) { s with heap := (s.heap.push o).push { cls := .type "enumerate", data := .fields #[.none, .bool false, .ref s.heap.objs.size, rawInt 0, .none, .none] } }) :=
  .of_wp fun prog w A R s h => by
    obtain ⟨hp, g, d, tk, os⟩ := s; obtain ⟨h1, h⟩ := h
    have hsub := sub_enumerate
    have q1 : ∀ {A' : Around} {E : Value → Shared → Prop} {Q : Value → Shared → Prop}, Q (.ref hp.objs.size) ⟨hp.push o, g, d, tk, os⟩ → wpAny (model prog w) A' (pyIter v) Q E ⟨hp, g, d, tk, os⟩ :=
      fun q => B.iter prog w _ _ ⟨hp, g, d, tk, os⟩ _ h1 q
    wp_walk using q1
    refine wpAny_stack_any fun st => wpAny_pure ?_
    split
    · rename_i c _ _ _ _ _
      cases (c == Value.type "enumerate")
      · wp_walk using q1
        exact ⟨_, rfl, h⟩
      · wp_walk using q1
        exact ⟨_, rfl, h⟩
    · wp_walk using q1
      exact ⟨_, rfl, h⟩
theorem enum_begin1 {prog : Program} {w : World} {A : Around} {E : Value → Shared → Prop} {s : Shared} {v : Value} {o : Obj} {H : Heap → Prop} {Q : Value → Shared → Prop} (B : Begins v o H) (h1 : H s.heap)
    (h : ∀ h', IsEnum h' (s.heap.objs.size + 1) s.heap.objs.size 0 .none → h'.get? s.heap.objs.size = some o → h'.objs.size = s.heap.objs.size + 2 →
      (∀ b o, s.heap.get? b = some o → h'.get? b = some o) → Q (.ref (s.heap.objs.size + 1)) { s with heap := h' }) :
    wpAny (model prog w) A (call (.type "enumerate") [v]) Q E s := by
  refine callType_new F.called_enumerate (by decide) (F.typeCall_enumerate_1 _) (F.newCall_enumerate_1 _) (fun obj => F.args_object_init_2 obj _) F.entry_enumerate_new
    (meets_enum_new B) ⟨h1, ?_⟩
  have hz : (s.heap.push o).objs.size = s.heap.objs.size + 1 := Heap.size_push ..
  show _ ∧ _
  rw [hz]
  have he : IsEnum ((s.heap.push o).push { cls := .type "enumerate", data := .fields #[.none, .bool false, .ref s.heap.objs.size, rawInt 0, .none, .none] }) (s.heap.objs.size + 1) s.heap.objs.size 0 .none := by
    have := Heap.get?_push_size (s.heap.push o) (o := { cls := .type "enumerate", data := .fields #[.none, .bool false, .ref s.heap.objs.size, rawInt 0, .none, .none] }) rfl
    rw [hz] at this; exact this
  refine ⟨⟨_, he, rfl⟩, h _ he (Heap.get?_push_of_some _ (Heap.get?_push_size _ B.free)) (by rw [Heap.size_push, hz]) fun b o x => Heap.get?_push_of_some _ (Heap.get?_push_of_some _ x)⟩

/-- pairs of a count and what src tells -/
def Ied (n : Nat) (src : Nat → Hp → V → Prop) (has : Hp → Prop) : L2.It :=
  ⟨fun i H => has H ∧ i < n, fun i H v H' => ∃ T x, v = .ref T ∧ H T = none ∧ H' = upd H T (.tup [.int (i : Nat), x]) ∧ src i H x, fun i H => has H ∧ n ≤ i⟩
theorem turn_enumS {P : Program} {w : World} {K : PySem.W.Frag} {elts : List Expr} {kk : Nat} {tpos : Pos} (e it : Addr) (x : Str) (t : Tok) :
    Turn P w K (.Tuple elts kk tpos) (Ied x.cps.size (fun i _ v => ∃ c, x.cps[i]? = some c ∧ v = .str ⟨#[c]⟩) (fun _ => True)) [e, it] e (fun i h => (∃ old, IsEnum h e it ((i : Nat) : Int) old) ∧ h.IsStrIter it (strIterType x) x t i ∧ e ≠ it) where
  mem := by simp
  obj := fun i h st b hb => by
    obtain ⟨⟨old, he⟩, ⟨o, ho, hc, hd⟩, _⟩ := st
    have e' : b = e ∨ b = it := by simpa using hb
    rcases e' with z | z
    · rw [z]; exact ⟨_, he, fun v q => nomatch q⟩
    · rw [z]; exact ⟨o, ho, fun v q => by rw [hd] at q; cases q⟩
  keep := fun i h h' st k => let ⟨⟨old, he⟩, ⟨o, ho, r⟩, hne⟩ := st; ⟨⟨old, k e (by simp) _ he⟩, ⟨o, k it (by simp) o ho, r⟩, hne⟩
  item := by
    intro X hP hw hK hc i pins s σ H E I hf st hg
    subst hP hw hK
    obtain ⟨⟨old, he⟩, hit, hne⟩ := st
    have hel : e < s.heap.objs.size := Heap.lt_size he
    have hil : it < s.heap.objs.size := by obtain ⟨_, q, _⟩ := hit; exact Heap.lt_size q
    refine wpAny_pyNext_enum_itemC (Draws.text (A := X.A.in1) (I.ok.hd hc) it x t) he hit hg.2 hne (by simpa using hne) fun u h' tk hP ho hit' hT hsz hk => ?_
    obtain ⟨c, uu, hcx, rfl⟩ := hP
    refine ⟨_, rfl, wpAny_letOwnedTupleGo_enum (s := { s with heap := h', toks := tk + 1 }) ho fun h'' he' sb => ?_⟩
    have hT2 : h''.get? s.heap.objs.size = some { cls := .type "tuple", data := .seq #[.int i tk, .str ⟨#[c]⟩ uu] } := (sb.2 _ (Nat.ne_of_gt hel)).trans hT
    have new : ObjOk X.prog X.w (upd H s.heap.objs.size (.tup [.int (i : Nat), .str ⟨#[c]⟩])) h'' s.heap.objs.size (.tup [.int (i : Nat), .str ⟨#[c]⟩]) :=
      ⟨by show 2 ≤ sizeLine; decide, [.int i tk, .str ⟨#[c]⟩ uu], .cons ⟨_, rfl⟩ (.cons ⟨uu, rfl⟩ .nil), ⟨_, hT2, rfl, _, rfl⟩⟩
    have I1 : Inv X pins σ (upd H s.heap.objs.size (.tup [.int (i : Nat), .str ⟨#[c]⟩])) { s with heap := h'', toks := tk + 1 } :=
      I.turnedNew (ch := [e, it]) (fun b ob hb q => (sb.2 b (fun z => hb (by simp [z]))).trans (hk b ob (fun z => hb (by simp [z])) (fun z => hb (by simp [z])) q)) hf (Nat.le_refl _) new
    refine ⟨.ref s.heap.objs.size, _, I1, rfl, ⟨_, .str ⟨#[c]⟩, rfl, I.hok.fresh (Nat.le_refl _), rfl, ⟨c, hcx, rfl⟩⟩, ⟨⟨.str ⟨#[c]⟩ uu, ?_⟩, ?_, hne⟩, fun b hb => ?_⟩
    · have e1 : ((i + 1 : Nat) : Int) = (i : Int) + 1 := by omega
      rw [e1]; exact he'
    · obtain ⟨o, ho2, r2⟩ := hit'
      exact ⟨o, (sb.2 it (Ne.symm hne)).trans ho2, r2⟩
    · have hb' : b < s.heap.objs.size := by
        have e' : b = e ∨ b = it := by simpa using hb
        rcases e' with z | z
        · rw [z]; exact hel
        · rw [z]; exact hil
      rw [upd_ne (Nat.ne_of_lt hb')]
      exact (hf b hb).1
  done := by
    intro X hP hw hK hc i pins s σ H E I hf st hg
    subst hP hw hK
    obtain ⟨⟨old, he⟩, hit, hne⟩ := st
    obtain ⟨f0, f1, f2, f3, f4, f5⟩ := hf it (by simp)
    obtain ⟨-, hn⟩ := hg
    have hx : x.cps[i]? = none := Array.getElem?_eq_none hn
    have D : Draws X.prog X.w X.A.in1 it [it] i (fun _ _ => True) (fun j h => j = i ∧ h.IsStrIter it (strIterType x) x t i) := ⟨fun j h st => by obtain ⟨_, o, q, _⟩ := st; exact ⟨o, q⟩, fun j h h' st k => ⟨st.1, by obtain ⟨_, o, q, r⟩ := st; exact ⟨o, k it (by simp) o q, r⟩⟩,
      fun j s Q E hj st => absurd (st.1 ▸ hj) (Nat.lt_irrefl _), fun s Q E st q => by
        have st2 := st.2
        cases ha : x.cps.all (· < 128)
        · have e1 : strIterType x = "str_iterator" := by simp only [strIterType, ha, Bool.false_eq_true, if_false]
          rw [e1] at st2
          exact wpAny_nextOf_wide_end (I.ok.hd hc) st2 hx q
        · have e1 : strIterType x = "str_ascii_iterator" := by simp only [strIterType, ha, if_true]
          rw [e1] at st2
          exact wpAny_nextOf_ascii_end (I.ok.hd hc) st2 hx q⟩
    exact wpAny_pyNext_enum_endD D he ⟨rfl, hit⟩ fun h' eb => ⟨rfl, I.turned (t' := s.toks) (fun b o hb q => eb b o hb q) f0 f1 f3 f4 f5⟩
  self := fun A i s Q E st h => let ⟨⟨_, he⟩, _⟩ := st; wpAny_pyIter_enum he h

theorem turn_enumT {P : Program} {w : World} {K : PySem.W.Frag} {elts : List Expr} {kk : Nat} {tpos : Pos} (a e it : Addr) (n : Nat) :
    Turn P w K (.Tuple elts kk tpos) (Ied n (fun i H v => ∀ xs, SqT K H a xs → xs[i]? = some v) (fun H => ∃ xs, SqT K H a xs ∧ xs.length = n)) [e, it] e (fun i h => (∃ old, IsEnum h e it ((i : Nat) : Int) old) ∧ h.IsTupleIter it a i ∧ e ≠ it) where
  mem := by simp
  obj := fun i h st b hb => by
    obtain ⟨⟨old, he⟩, ⟨o, ho, hc, hd⟩, _⟩ := st
    have e' : b = e ∨ b = it := by simpa using hb
    rcases e' with z | z
    · rw [z]; exact ⟨_, he, fun v q => nomatch q⟩
    · rw [z]; exact ⟨o, ho, fun v q => by rw [hd] at q; cases q⟩
  keep := fun i h h' st k => let ⟨⟨old, he⟩, hi, hne⟩ := st; ⟨⟨old, k e (by simp) _ he⟩, hi.at fun o q => k it (by simp) o q, hne⟩
  item := by
    intro X hP hw hK hc i pins s σ H E I hf st hg
    subst hP hw hK
    obtain ⟨⟨old, he⟩, hit, hne⟩ := st
    obtain ⟨⟨xs, hq, hn⟩, hlt⟩ := hg
    obtain ⟨its, rv, p, hz⟩ := I.tuple hq
    have hel : e < s.heap.objs.size := Heap.lt_size he
    have hil : it < s.heap.objs.size := by obtain ⟨_, q, _⟩ := hit; exact Heap.lt_size q
    have p : s.heap.IsTuple a its.toArray := p
    have hai : a ≠ it := fun z => by
      obtain ⟨o1, q1, c1, _⟩ := p
      obtain ⟨o2, q2, c2, _⟩ := hit
      rw [z, q2] at q1
      cases q1
      rw [c2] at c1
      exact absurd c1 (by decide)
    have hea : e ≠ a := fun z => by
      obtain ⟨o1, q1, c1, _⟩ := p
      rw [← z, he] at q1
      cases q1
      have c1 : Value.type "enumerate" = Value.type "tuple" := c1
      exact absurd c1 (by decide)
    have hl := rv.length
    refine wpAny_pyNext_enum_itemC (Draws.tuple (A := X.A.in1) (I.ok.hd hc) it a hai its.toArray) he ⟨hit, p⟩ (by simp; omega) hne (by simp [hne, hea]) fun u h' tk hP ho hit' hT hsz hk => ?_
    obtain ⟨hit', p'⟩ := hit'
    obtain ⟨x, hx, ru⟩ : ∃ x, xs[i]? = some x ∧ RelV x u := by
      have hx : i < xs.length := by omega
      obtain ⟨u', hu', ru⟩ := rv.get (List.getElem?_eq_getElem hx)
      have : its[i]? = some u := by simpa using hP
      rw [this] at hu'
      cases hu'
      exact ⟨_, List.getElem?_eq_getElem hx, ru⟩
    refine ⟨_, rfl, wpAny_letOwnedTupleGo_enum (s := { s with heap := h', toks := tk + 1 }) ho fun h'' he' sb => ?_⟩
    have hT2 : h''.get? s.heap.objs.size = some { cls := .type "tuple", data := .seq #[.int i tk, u] } := (sb.2 _ (Nat.ne_of_gt hel)).trans hT
    have new : ObjOk X.prog X.w (upd H s.heap.objs.size (.tup [.int (i : Nat), x])) h'' s.heap.objs.size (.tup [.int (i : Nat), x]) :=
      ⟨by show 2 ≤ sizeLine; decide, [.int i tk, u], .cons ⟨_, rfl⟩ (.cons ru .nil), ⟨_, hT2, rfl, _, rfl⟩⟩
    have I1 : Inv X pins σ (upd H s.heap.objs.size (.tup [.int (i : Nat), x])) { s with heap := h'', toks := tk + 1 } :=
      I.turnedNew (ch := [e, it]) (fun b ob hb q => (sb.2 b (fun z => hb (by simp [z]))).trans (hk b ob (fun z => hb (by simp [z])) (fun z => hb (by simp [z])) q)) hf (Nat.le_refl _) new
    refine ⟨.ref s.heap.objs.size, _, I1, rfl, ⟨_, x, rfl, I.hok.fresh (Nat.le_refl _), rfl, fun ys hy => by rw [I.tuple_inj hy hq]; exact hx⟩, ⟨⟨u, ?_⟩, hit'.at fun o q => (sb.2 it (Ne.symm hne)).trans q, hne⟩, fun b hb => ?_⟩
    · have e1 : ((i + 1 : Nat) : Int) = (i : Int) + 1 := by omega
      rw [e1]; exact he'
    · have hb' : b < s.heap.objs.size := by
        have e' : b = e ∨ b = it := by simpa using hb
        rcases e' with z | z
        · rw [z]; exact hel
        · rw [z]; exact hil
      rw [upd_ne (Nat.ne_of_lt hb')]
      exact (hf b hb).1
  done := by
    intro X hP hw hK hc i pins s σ H E I hf st hg
    subst hP hw hK
    obtain ⟨⟨old, he⟩, hit, hne⟩ := st
    obtain ⟨f0, f1, f2, f3, f4, f5⟩ := hf it (by simp)
    obtain ⟨⟨xs, hq, hn⟩, hle⟩ := hg
    obtain ⟨its, rv, p, hz⟩ := I.tuple hq
    have hl := rv.length
    have D : Draws X.prog X.w X.A.in1 it [it, a] i (fun _ _ => True) (fun j h => j = i ∧ h.IsTupleIter it a i ∧ h.IsTuple a its.toArray) := ⟨fun j h st => by obtain ⟨_, ⟨o, q, _⟩, _⟩ := st; exact ⟨o, q⟩, fun j h h' st k => ⟨st.1, st.2.1.at fun o e => k it (by simp) o e, st.2.2.at fun o e => k a (by simp) o e⟩,
      fun j s Q E hj st => absurd (st.1 ▸ hj) (Nat.lt_irrefl _), fun s Q E st q => wpAny_nextOf_tuple_end (I.ok.hd hc) st.2.1 st.2.2 (by simp; omega) q⟩
    exact wpAny_pyNext_enum_endD D he ⟨rfl, hit, p⟩ fun h' eb => ⟨rfl, I.turned (t' := s.toks) (fun b o hb q => eb b o hb q) f0 f1 f3 f4 f5⟩
  self := fun A i s Q E st h => let ⟨⟨_, he⟩, _⟩ := st; wpAny_pyIter_enum he h

theorem enumFrom_len : ∀ (n : Nat) (xs : List PV), (enumFrom n xs).length = xs.length
  | _, [] => rfl
  | n, x :: xs => by rw [enumFrom, List.length_cons, List.length_cons, enumFrom_len]
theorem enumFrom_get : ∀ (n : Nat) (xs : List PV) (i : Nat), (enumFrom n xs)[i]? = (xs[i]?).map fun x => .tup [.int ((n + i : Nat) : Int), x]
  | _, [], i => by rw [enumFrom]; rfl
  | n, x :: xs, 0 => rfl
  | n, x :: xs, i + 1 => by
    rw [enumFrom, List.getElem?_cons_succ, List.getElem?_cons_succ, enumFrom_get]
    rw [show n + 1 + i = n + (i + 1) from by omega]
theorem walks_enum {K : PySem.W.Frag} {J : L2.It} {xs : List PV} {S : Store} {m : Mp} {H : Hp}
    (h : ∀ S' m' H', Ext m S.length H m' S'.length H' → StoreR K S' m' H' → (∀ i x, xs[i]? = some x → J.go i H' ∧ ∀ v H2, J.yld i H' v H2 → ∃ T u, v = .ref T ∧ H' T = none ∧ H2 = upd H' T (.tup [.int (i : Nat), u]) ∧ VR K m' S'.length H' x u) ∧ ∀ i, xs.length ≤ i → J.stop i H') :
    WalksAll K J (enumFrom 0 xs, none) S m H := by
  intro S' m' H' ex st' kp
  obtain ⟨h1, h2⟩ := h S' m' H' ex st'
  refine ⟨fun i x hx => ?_, fun i hi => h2 i (by rw [← enumFrom_len 0 xs]; exact hi)⟩
  have hx : (enumFrom 0 xs)[i]? = some x := hx
  rw [enumFrom_get] at hx
  obtain ⟨y, hy, rfl⟩ := Option.map_eq_some_iff.mp hx
  obtain ⟨hg, hyld⟩ := h1 i y hy
  refine ⟨hg, fun v H2 hv => ?_⟩
  obtain ⟨T, u, rfl, hT, rfl, r⟩ := hyld v H2 hv
  refine ⟨Ext.push st' hT, st'.push hT, ?_⟩
  rw [show 0 + i = i from by omega]
  exact VR.tupNew st' hT (.cons (.int _) (.cons r .nil))

theorem fp_new {X : Cx} {pins : List (Addr × Obj)} {σ : L2.St} {H : Hp} {s : Shared} (I : Inv X pins σ H s) (b : Addr) (hb : b ∈ [s.heap.objs.size + 1, s.heap.objs.size]) : FpOk X pins H b := by
  have e' : b = s.heap.objs.size + 1 ∨ b = s.heap.objs.size := by simpa using hb
  have hle : s.heap.objs.size ≤ b := by
    rcases e' with z | z
    · rw [z]; exact Nat.le_add_right _ _
    · rw [z]; exact Nat.le_refl _
  exact I.fpOk hle (I.hok.fresh hle)
section
variable {X : Cx} {xC : Xs} {W : WX} {e : Expr} {f : Env → Store → Out PV} {p pos tpos : Pos} {elts : List Expr} {kk : Nat}
/-- enumerate(e) -/
theorem i_enum {x : Str} (hx : x = ("enumerate" : Str)) (hg : Gl X x) (hm : X.mg x = none) (he : PE X e (tE X.K xC W f)) (hs : starEach [e] X.env = (false, eval e X.env) :: starEach [] X.env) :
    PI X (.Tuple elts kk tpos) (.Call (.Name x p) [e] [] pos) (tIt X.K xC W fun ρ S => (f ρ S).bind fun v S1 => lift S1 ((walkOf S1 v).bind enumW)) := by
  subst hx
  refine ⟨fun pins s σ H R I h => ?_⟩
  obtain ⟨ρ, S, m, G, q⟩ := h
  have ha : PA X [e] _ := a_cons (g := fun _ S => .ok [] S) he a_nil hs
  refine Call_ (ld_blt I hg hm boot_enumerate (PyProof.Rows.callWith_type1 (thn (ha.run pos pins s σ H (fun xs H1 => ∃ v x S1 m1, xs = [x] ∧ StoreR X.K S1 m1 H1 ∧ VR X.K m1 S1.length H1 v x ∧ OP X.K xC W σ m1 S1 H1 (fun w S' m' H' => ∀ J, WalksAll X.K J w S' m' H' → keptOf w S' = true → R J H') (lift S1 ((walkOf S1 v).bind enumW))) I ⟨ρ, S, m, G, ?_⟩) fun us s1 ⟨vs, H1, I1, r1, q1⟩ => ?_) hs rfl))
  · have q2 := OP.bind q
    unfold consF
    dsimp only
    generalize f ρ S = o at q2
    cases o with
    | ok v S1 =>
      intro m1 H1 e1 s1 xs r
      cases r with
      | cons rv rr =>
        cases rr
        exact ⟨v, _, S1, m1, rfl, s1, rv, q2 m1 H1 e1 s1⟩
    | exc c as S1 => exact q2
    | bad => exact q2
  obtain ⟨v, xv, S1, m1, ex, st, r, q1⟩ := q1
  subst ex
  obtain ⟨w, hw, q2⟩ := q1.lift
  have fin := q2 m1 H1 (Ext.refl st) st
  cases r1 with
  | cons ru rr =>
    cases rr
    cases r with
    | str z hz =>
      obtain ⟨t, rfl⟩ := ru
      cases hw
      refine call_enumerate_str fun h' hE hit hsz hk => wpAny_pyIter_enum hE ?_
      have I2 : Inv X pins σ H1 { s1 with heap := h' } := I1.kept (t' := s1.toks) hk
      refine ⟨s1.heap.objs.size + 1, [s1.heap.objs.size + 1, s1.heap.objs.size], _, _, H1, rfl, I2, turn_enumS (s1.heap.objs.size + 1) s1.heap.objs.size _ t, ⟨⟨.none, hE⟩, hit, Nat.succ_ne_self _⟩, fun b hb => ?_, fin _ (walks_enum fun S' m' H' ex st' => ?_) rfl⟩
      · exact fp_new I1 b hb
      · have hz2 : z.length = (strV z).cps.size := (strV_length z).symm
        refine ⟨fun i x hx => ?_, fun i hi => ⟨trivial, ?_⟩⟩
        · rw [List.getElem?_map] at hx
          obtain ⟨c, hc, rfl⟩ := Option.map_eq_some_iff.mp hx
          have hi : i < z.length := (List.getElem?_eq_some_iff.mp hc).1
          refine ⟨⟨trivial, by rw [← hz2]; exact hi⟩, fun v H2 hy => ?_⟩
          obtain ⟨T, u, rfl, hT, rfl, c', hc', rfl⟩ := hy
          have e : (strV z).cps[i]? = z[i]? := by show z.toArray[i]? = _; simp
          rw [e, hc] at hc'
          cases hc'
          exact ⟨T, _, rfl, hT, rfl, .str [c] (hz.one (List.mem_of_getElem? hc))⟩
        · rw [List.length_map] at hi
          rw [← hz2]; exact hi
    | @tup a xs vs ht rs =>
      cases ru
      cases hw
      obtain ⟨its, rv, p, hz⟩ := I1.tuple ht
      have p : s1.heap.IsTuple a its.toArray := p
      refine enum_begin1 (begins_tuple a its.toArray) p fun h' hE hit hsz hk => wpAny_pyIter_enum hE ?_
      have I2 : Inv X pins σ H1 { s1 with heap := h' } := I1.kept (t' := s1.toks) hk
      refine ⟨s1.heap.objs.size + 1, [s1.heap.objs.size + 1, s1.heap.objs.size], _, _, H1, rfl, I2, turn_enumT a (s1.heap.objs.size + 1) s1.heap.objs.size xs.length, ⟨⟨.none, hE⟩, ⟨_, hit, rfl, rfl⟩, Nat.succ_ne_self _⟩, fun b hb => fp_new I1 b hb, fin _ (walks_enum fun S' m' H' ex st' => ?_) rfl⟩
      have ht' := SqT.on st ex ht
      have rs' := VRs.on st ex rs
      refine ⟨fun i x hx => ?_, fun i hi => ⟨⟨xs, ht', rfl⟩, by rw [← rs.length]; exact hi⟩⟩
      obtain ⟨v, hv, rv'⟩ := rs'.get hx
      refine ⟨⟨⟨xs, ht', rfl⟩, (List.getElem?_eq_some_iff.mp hv).1⟩, fun v' H2 hy => ?_⟩
      obtain ⟨T, u, rfl, hT, rfl, hu⟩ := hy
      have := hu xs ht'
      rw [hv] at this
      cases this
      exact ⟨T, _, rfl, hT, rfl, rv'⟩
    | @lst a xs vs hl rs =>
      cases ru
      cases hw
      obtain ⟨its, rv, p, hz⟩ := I1.list hl.sq
      refine call_enumerate_list p.isList fun h' hE hit hsz hk => wpAny_pyIter_enum hE ?_
      have I2 : Inv X pins σ H1 { s1 with heap := h' } := I1.kept (t' := s1.toks) hk
      refine ⟨s1.heap.objs.size + 1, [s1.heap.objs.size + 1, s1.heap.objs.size], _, _, H1, rfl, I2, turn_enum a (s1.heap.objs.size + 1) s1.heap.objs.size, ⟨⟨.none, hE⟩, hit, Nat.succ_ne_self _⟩, fun b hb => fp_new I1 b hb, fin _ (walks_enum fun S' m' H' ex st' => ?_) rfl⟩
      have ht' := (LstR.on ex hl).sq
      have rs' := VRs.on st ex rs
      refine ⟨fun i x hx => ?_, fun i hi => ⟨xs, ht', by rw [← rs.length]; exact hi⟩⟩
      obtain ⟨v, hv, rv'⟩ := rs'.get hx
      refine ⟨⟨xs, v, ht', hv⟩, fun v' H2 hy => ?_⟩
      obtain ⟨T, u, rfl, hT, rfl, hu⟩ := hy
      have := hu xs ht'
      rw [hv] at this
      cases this
      exact ⟨T, _, rfl, hT, rfl, rv'⟩
    | @ref k hk =>
      have hw : ((match S1[k]? with | some (.lst xs) => some (xs, some k) | _ => none).bind enumW) = some w := hw
      split at hw
      · cases hw
      · cases hw
    | non => cases hw
    | bl _ => cases hw
    | int _ => cases hw
    | ty _ => cases hw
end
end MK

set_option linter.all false
set_option autoImplicit false
set_option Elab.async false
set_option maxRecDepth 100000
set_option maxHeartbeats 8000000
/-! MkChk: the core program against the text; what it comes to is what the text does. -/
namespace MK
open PySem PySem.Spec PyProof.Rows L2

/-- the names of a program's top -/
structure Tab where
  fns : List (Str × Nat)
  gls : List (Str × PV)
  exs : List (Str × Option Str)
  blt : List Str
  subs : List (List Nat) := []

def nameOk (x : Str) : Bool := !(x == ("__debug__" : Str)) && !(x == ("__classdict__" : Str))
def globB (sc : Scope) (x : Str) : Bool := decide (sc.names.lookup x = some .globalImplicit) && !(x == ("__debug__" : Str))
def visB (sc : Scope) (x : Str) : Bool := decide (sc.names.lookup x = some .local) || (decide (sc.names.lookup x = some .cell) || decide (sc.names.lookup x = some .free))
def locB (sc : Scope) (x : Str) : Bool := decide (sc.names.lookup x = some .local) || decide (sc.names.lookup x = some .cell)
def okSb (s : List Nat) : Bool := decide (s.length ≤ SZ) && s.all fun c => decide (c < 1114112)
def litOk : PV → Const → Bool
  | .non, .none => true
  | .bl b, .bool c => b == c
  | .int i, .int j => i == j
  | .str s, .str z => decide (z = strV s) && okSb s
  | _, _ => false
/-- not a call of super() -/
def plainRecv : Expr → Bool
  | .Call (.Name id _) _ _ _ => !(id == ("super" : Str))
  | _ => true
/-- a new scope within another -/
def ownOf (N : List Str) (vs : List Nat) : List (Str × Nat) := vs.map fun i => ((N[i]?).getD ("" : Str), i)
theorem ownOf_snd (N : List Str) (vs : List Nat) : (ownOf N vs).map (·.2) = vs := by
  unfold ownOf
  rw [List.map_map]
  conv => rhs; rw [← List.map_id vs]
  exact List.map_congr_left fun _ _ => rfl

section
variable (T : Tab) (N : List Str)
mutual
def chkTG (fn : Str → Bool) : TG → Scope → Expr → Bool
  | .nm i, sc, .Name x _ => decide (N[i]? = some x) && locB sc x && (fn x || decide (sc.names.lookup x = some .local))
  | .tp ts, sc, .Tuple es _ _ => chkTGs fn ts sc es
  | _, _, _ => false
def chkTGs (fn : Str → Bool) : List TG → Scope → List Expr → Bool
  | [], _, [] => true
  | t :: ts, sc, e :: es => chkTG fn t sc e && chkTGs fn ts sc es
  | _, _, _ => false
end
def blkFn (scope : Scope) (x : Str) : Bool := scope.names.lookup x == some .cell
mutual
def chkE : C → Scope → Expr → Bool
  | .var i, sc, .Name x _ => decide (N[i]? = some x) && visB sc x && nameOk x
  | .lit v, _, .Constant c _ _ => litOk v c
  | .gl v, sc, .Name x _ => globB sc x && decide ((x, v) ∈ T.gls)
  | .tup es, sc, .Tuple es' _ _ => chkEs es sc es'
  | .lst _ es, sc, .List es' _ => chkEs es sc es'
  | .bin op a b, sc, .BinOp l o r _ => decide (o = opOf op) && chkE a sc l && chkE b sc r
  | .neg a, sc, .UnaryOp .USub x _ => chkE a sc x
  | .cmp op a b, sc, .Compare l [o] [r] _ => decide (o = cmpOf op) && chkE a sc l && chkE b sc r
  | .cmp2 p q a b c, sc, .Compare l [o, o'] [r, r'] _ => decide (o = cmpOf p) && decide (o' = cmpOf q) && chkE a sc l && chkE b sc r && chkE c sc r'
  | .and es, sc, .BoolOp .And es' _ => !es.isEmpty && chkEs es sc es'
  | .or es, sc, .BoolOp .Or es' _ => !es.isEmpty && chkEs es sc es'
  | .not a, sc, .UnaryOp .Not x _ => chkE a sc x
  | .ite t a b, sc, .IfExp t' a' b' _ => chkE t sc t' && chkE a sc a' && chkE b sc b'
  | .sl l h a lo hi, sc, .Subscript x (.Slice lo' hi' none _) _ => chkE a sc x && (match l, lo' with | true, some e => chkE lo sc e | false, none => true | _, _ => false) && (match h, hi' with | true, some e => chkE hi sc e | false, none => true | _, _ => false)
  | .ix a b, sc, .Subscript l r _ => chkE a sc l && chkE b sc r
  | .call f es, sc, .Call (.Name x _) es' [] _ => globB sc x && decide (T.fns[f]? = some (x, es.length)) && !es.isEmpty && chkEs es sc es'
  | .bi b es, sc, .Call (.Name x _) es' [] _ => globB sc x && decide (x = (biName b : Str)) && decide (x ∈ T.blt) && !es.isEmpty && chkEs es sc es'
  | .bm m o es, sc, .Call (.Attribute o' x ap) es' [] cp => decide (x = (bmName m : Str)) && (ap.endLine == cp.line) && plainRecv o' && chkE o sc o' && !es.isEmpty && decide (es.length < 29) && chkEs es sc es'
  | .isi a t, sc, .Call (.Name x _) [a', .Name y _] [] _ => globB sc x && decide (x = ("isinstance" : Str)) && decide (x ∈ T.blt) && globB sc y && decide (y = (tyName t : Str)) && decide (y ∈ T.blt) && chkE a sc a'
  | .lc _ vs tg it cond elt, sc, .ListComp elt' [⟨tg', it', ifs, 0⟩] scope _ => chkIt it sc tg' it' && blkC N sc scope (ownOf N vs) && chkTG N (blkFn scope) tg (relS scope sc) tg' && (slots tg).all (fun i => vs.contains i) &&
      chkCond cond (relS scope sc) ifs && chkE elt (relS scope sc) elt'
  | .app r a, sc, .Call (.Attribute o' x ap) [a'] [] cp => decide (x = ("append" : Str)) && (ap.endLine == cp.line) && plainRecv o' && chkE r sc o' && chkE a sc a'
  | _, _, _ => false
def chkEs : List C → Scope → List Expr → Bool
  | [], _, [] => true
  | c :: cs, sc, e :: es => chkE c sc e && chkEs cs sc es
  | _, _, _ => false
def chkCond : List C → Scope → List Expr → Bool
  | [], _, [] => true
  | [c], sc, [e] => chkE c sc e
  | _, _, _ => false
def chkIt : It → Scope → Expr → Expr → Bool
  | .seq a, sc, _, e => chkE a sc e
  | .rng es, sc, _, .Call (.Name x _) es' [] _ => globB sc x && decide (x = ("range" : Str)) && decide (x ∈ T.blt) && (es.length == 1 || es.length == 2) && chkEs es sc es'
  | .enum a, sc, .Tuple _ _ _, .Call (.Name x _) [e] [] _ => globB sc x && decide (x = ("enumerate" : Str)) && decide (x ∈ T.blt) && chkE a sc e
  | _, _, _, _ => false
end
end

/-- what is known of an exception class: at a, its field fo -/
structure XOk (P : Program) (w : World) (K : PySem.W.Frag) (mg : Str → Option Value) (base : Heap) (x : Str) (fo : Option Str) (a : Addr) : Prop where
  at_ : mg x = some (.ref a)
  keep : PySem.W.keepIn K (.ref a) = true
  plain : fo = none → PySem.W.excIn K a [.type "ValueError", .type "Exception", .type "BaseException", .type "object"] "ValueError.__new__" = true
  own : ∀ f, fo = some f → OexC K a ∧ XfC K a ∧ PySem.W.findIn K (.ref a) f = some none ∧ ∃ (fI : Addr) (fd : FuncData) (pr : Str), PySem.W.findIn K (.ref a) "__init__" = some (some (.ref fI)) ∧ PySem.W.typeIn K (.ref fI) = some (.type "function") ∧
    FnOk P w K mg base (L2.CX P w) 1 fI fd (PSl pr) (supSp K a f goodX) ∧ Binds K fd (PSl pr) []
/-- what is known of a program's names where code runs -/
structure Lk (X : Cx) (xC : Xs) (T : Tab) (k : Nat) (o : Orc) : Prop where
  calm : X.calm = true
  nd : X.N.Nodup
  room : Room k X.A
  fn : ∀ f x np, T.fns[f]? = some (x, np) → ∃ fa fd ps, FnOk X.prog X.w X.K X.mg X.base (L2.CX X.prog X.w) k fa fd ps (spF X.K xC np (o.call f)) ∧ X.mg x = some (.ref fa) ∧ PySem.W.keepIn X.K (.ref fa) = true ∧ Binds X.K fd ps []
  gl : ∀ x v, (x, v) ∈ T.gls → ∃ xv u, X.mg x = some u ∧ RelV xv u ∧ ∀ m n H, VR X.K m n H v xv
  bl : ∀ x, x ∈ T.blt → X.mg x = none
  ex : ∀ (i : Nat) x fo, T.exs[i]? = some (x, fo) → XOk X.prog X.w X.K X.mg X.base x fo (xC.a i) ∧ xC.f i = fo ∧ Raises X (.ref (xC.a i))
  xn : xC.n = T.exs.length
  exm : ∀ i j, i < xC.n → j < xC.n → PySem.W.exmOne X.K (.ref (xC.a i)) (.ref (xC.a j)) = some ((T.subs.getD j []).contains i)
  two : 2 ≤ k


section
variable {X : Cx} {xC : Xs} {T : Tab} {k : Nat} {o : Orc}
theorem Lk.block (L : Lk X xC T k o) (s : Shared) (H : Hp) (scope : Scope) (cenv : PySem.Env) (fp : List Addr) : Lk (X.blk s H scope cenv fp) xC T k o :=
  ⟨L.calm, L.nd, L.room, L.fn, L.gl, L.bl, L.ex, L.xn, L.exm, L.two⟩
theorem Lk.hu (L : Lk X xC T k o) : X.A.units + 65 < cLine := by have := L.room.un; omega
end

/-! ### what the checker shows of the text -/
section
variable {T : Tab} {N : List Str}
theorem globB_gl {X : Cx} {x : Str} (h : globB X.env.scope x = true) : Gl X x ∧ (x == ("__debug__" : Str)) = false := by
  unfold globB at h
  rw [Bool.and_eq_true, decide_eq_true_eq, Bool.not_eq_true'] at h
  exact h
theorem visB_vis {sc : Scope} {x : Str} (h : visB sc x = true) : Vis sc x := by
  unfold visB at h
  simp only [Bool.or_eq_true, decide_eq_true_eq] at h
  exact h
theorem locB_loc {sc : Scope} {x : Str} (h : locB sc x = true) : Loc sc x := by
  unfold locB at h
  simp only [Bool.or_eq_true, decide_eq_true_eq] at h
  exact h
/-- an expression that the checker takes has no star, no slice, no set, is no constant pile -/
theorem chk_star {c : C} {sc : Scope} {e : Expr} (h : chkE T N c sc e = true) (es : List Expr) (env : PySem.Env) : starEach (e :: es) env = (false, eval e env) :: starEach es env := by
  cases e with
  | Starred v p => cases c <;> exact absurd (show false = true from h) Bool.false_ne_true
  | _ => rfl
theorem chk_mark {c : C} {sc : Scope} {e : Expr} (h : chkE T N c sc e = true) (op : CmpOp) : behindInMarks op e = false := by
  cases e with
  | Set v p q => cases c <;> exact absurd (show false = true from h) Bool.false_ne_true
  | _ => rfl
theorem chk_last {c : C} {sc : Scope} {e : Expr} (h : chkE T N c sc e = true) (p q : CmpOp) (b : Expr) : lastMarks [p, q] [b, e] = false := chk_mark h q
theorem chk_fold {c : C} {sc : Scope} {e : Expr} (h : chkE T N c sc e = true) (env : PySem.Env) : ∀ x, foldedSetIterable e env x = pure x := by
  intro x
  cases e with
  | Set v p q => cases c <;> exact absurd (show false = true from h) Bool.false_ne_true
  | _ => rfl
theorem chk_ix {c : C} {sc : Scope} {e : Expr} (h : chkE T N c sc e = true) : PlainIx e := by
  intro o i
  cases e with
  | Slice a b s p => cases c <;> exact absurd (show false = true from h) Bool.false_ne_true
  | _ => rfl
theorem recv_base {e : Expr} (h : plainRecv e = true) (attr : Str) (env : PySem.Env) : attributeBase e attr env (eval e env) = eval e env := by
  unfold attributeBase
  split
  · rename_i id p pos
    have h : (!(id == ("super" : Str))) = true := h
    have h2 : (id != ("super" : Str)) = true := h
    simp only [h2, Bool.true_or, if_true]
  · rfl
theorem chk_noStar : ∀ {cs : List C} {sc : Scope} {es : List Expr} (env : PySem.Env) (pos : Pos), chkEs T N cs sc es = true → (backTo pos (starEach es env)).any (·.1) = false ∧ (backTo pos (starEach es env)).all (fun x => !x.1) = true
  | [], _, [], env, pos, _ => ⟨rfl, rfl⟩
  | [], _, _ :: _, _, _, h => absurd (show false = true from h) Bool.false_ne_true
  | _ :: _, _, [], _, _, h => absurd (show false = true from h) Bool.false_ne_true
  | c :: cs, sc, e :: es, env, pos, h => by
    have h : (chkE T N c sc e && chkEs T N cs sc es) = true := h
    rw [Bool.and_eq_true] at h
    rw [chk_star h.1]
    obtain ⟨h1, h2⟩ := chk_noStar env pos h.2
    constructor
    · show (false || (backTo pos (starEach es env)).any (·.1)) = false
      rw [h1]; rfl
    · show (true && (backTo pos (starEach es env)).all (fun x => !x.1)) = true
      rw [h2]; rfl
theorem chk_len : ∀ {cs : List C} {sc : Scope} {es : List Expr}, chkEs T N cs sc es = true → cs.length = es.length
  | [], _, [], _ => rfl
  | [], _, _ :: _, h => absurd (show false = true from h) Bool.false_ne_true
  | _ :: _, _, [], h => absurd (show false = true from h) Bool.false_ne_true
  | c :: cs, sc, e :: es, h => by
    have h : (chkE T N c sc e && chkEs T N cs sc es) = true := h
    rw [Bool.and_eq_true] at h
    rw [List.length_cons, List.length_cons, chk_len h.2]
end
theorem evEs_len {o : Orc} : ∀ {cs : List C} {ρ : Env} {S : Store} {vs : List PV} {S' : Store}, evEs o cs ρ S = .ok vs S' → vs.length = cs.length
  | [], ρ, S, vs, S', h => by cases h; rfl
  | c :: cs, ρ, S, vs, S', h => by
    unfold evEs at h
    cases h1 : evE o c ρ S with
    | ok v S1 =>
      rw [h1] at h
      simp only [Out.bind_ok] at h
      cases h2 : evEs o cs ρ S1 with
      | ok ws S2 =>
        rw [h2] at h
        cases h
        rw [List.length_cons, List.length_cons, evEs_len h2]
      | exc _ _ _ => rw [h2] at h; cases h
      | bad => rw [h2] at h; cases h
    | exc _ _ _ => rw [h1] at h; cases h
    | bad => rw [h1] at h; cases h

/-! ### targets -/
mutual
theorem sndTG {X : Cx} {N : List Str} {fn : Str → Bool} (hN : X.N = N) (hc : X.calm = true) (nd : X.N.Nodup) (hf : X.fn = fn) : ∀ (t : TG) (e : Expr), chkTG N fn t X.env.scope e = true → PG X e (gT X.K t)
  | .nm i, e, h => by
    cases e with
    | Name x p =>
      have h : (decide (N[i]? = some x) && locB X.env.scope x && (fn x || decide (X.env.scope.names.lookup x = some .local))) = true := h
      simp only [Bool.and_eq_true, Bool.or_eq_true, decide_eq_true_eq] at h
      exact g_name nd (by rw [hN]; exact h.1.1) (locB_loc h.1.2) (by rw [hf]; exact h.2)
    | _ => exact absurd (show false = true from h) Bool.false_ne_true
  | .tp ts, e, h => by
    cases e with
    | Tuple es k p =>
      have h : chkTGs N fn ts X.env.scope es = true := h
      obtain ⟨h1, h2, h3⟩ := sndTGs hN hc nd hf ts es h
      exact g_tup hc h1 h2 h3
    | _ => exact absurd (show false = true from h) Bool.false_ne_true
theorem sndTGs {X : Cx} {N : List Str} {fn : Str → Bool} (hN : X.N = N) (hc : X.calm = true) (nd : X.N.Nodup) (hf : X.fn = fn) : ∀ (ts : List TG) (es : List Expr), chkTGs N fn ts X.env.scope es = true →
    PGs X es (gTs X.K ts) ∧ (assignEach es X.env).length = ts.length ∧ (assignEach es X.env).findIdx? (·.1) = none
  | [], [], h => ⟨g_nil, rfl, rfl⟩
  | [], _ :: _, h => absurd (show false = true from h) Bool.false_ne_true
  | _ :: _, [], h => absurd (show false = true from h) Bool.false_ne_true
  | t :: ts, e :: es, h => by
    have h : (chkTG N fn t X.env.scope e && chkTGs N fn ts X.env.scope es) = true := h
    rw [Bool.and_eq_true] at h
    have h1 := sndTG hN hc nd hf t e h.1
    obtain ⟨h2, h3, h4⟩ := sndTGs hN hc nd hf ts es h.2
    have hs : assignEach (e :: es) X.env = (false, assign e X.env) :: assignEach es X.env := by
      cases e with
      | Starred v p => cases t <;> exact absurd (show false = true from h.1) Bool.false_ne_true
      | _ => rfl
    refine ⟨g_cons h1 h2 (by rw [hs]; rfl), by rw [hs, List.length_cons, List.length_cons, h3], ?_⟩
    rw [hs, List.findIdx?_cons, h4]
    rfl
end
end MK

set_option linter.all false
set_option autoImplicit false
set_option Elab.async false
set_option maxRecDepth 100000
set_option maxHeartbeats 8000000
/-! MkMain: what the evaluator tells, the text does. -/
namespace MK
open PySem PySem.Spec PyProof.Rows L2

theorem b_and {a b : Bool} (h : (a && b) = true) : a = true ∧ b = true := by rwa [Bool.and_eq_true] at h
theorem b_no {P : Prop} (h : false = true) : P := absurd h Bool.false_ne_true
theorem okSb_ok {s : List Nat} (h : okSb s = true) : okS s := by
  obtain ⟨h1, h2⟩ := b_and h
  exact ⟨of_decide_eq_true h1, fun c hc => of_decide_eq_true (List.all_eq_true.mp h2 c hc)⟩
/-- a constant -/
theorem lit_ok {X : Cx} {xC : Xs} {W : WX} {v : PV} {c : Const} {j : Nat} {pos : Pos} (h : litOk v c = true) : PE X (.Constant c j pos) (tE X.K xC W fun _ S => .ok v S) := by
  cases v with
  | non => cases c <;> first | exact b_no h | exact e_const pe_non fun _ _ _ => .non
  | bl b =>
    cases c with
    | bool d =>
      have : b = d := beq_iff_eq.mp h
      subst this
      exact e_const pe_bl fun _ _ _ => .bl b
    | _ => exact b_no h
  | int i =>
    cases c with
    | int d =>
      have : i = d := beq_iff_eq.mp h
      subst this
      exact e_const pe_int fun _ _ _ => .int i
    | _ => exact b_no h
  | str s =>
    cases c with
    | str z =>
      obtain ⟨h1, h2⟩ := b_and h
      have := of_decide_eq_true h1
      subst this
      exact e_const pe_str fun _ _ _ => .str s (okSb_ok h2)
    | _ => exact b_no h
  | _ => cases c <;> exact b_no h

theorem sndFold {T : Tab} {N : List Str} {env : PySem.Env} : ∀ (it : It) {sc : Scope} {tg e : Expr}, chkIt T N it sc tg e = true → ∀ x, foldedSetIterable e env x = pure x
  | .seq a, sc, tg, e, h => chk_fold h env
  | .rng es, sc, tg, e, h => by
    intro x
    cases e with
    | Set a b c => exact b_no h
    | _ => rfl
  | .enum a, sc, tg, e, h => by
    intro x
    cases e with
    | Set a b c => exact b_no (by cases tg <;> exact h)
    | _ => rfl
mutual
theorem sndE {xC : Xs} {T : Tab} {N : List Str} {k : Nat} {o : Orc} : ∀ (c : C) {X : Cx} {W : WX} {e : Expr}, X.N = N → Lk X xC T k o → Takes X W → chkE T N c X.env.scope e = true → PE X e (tE X.K xC W (evE o c))
  | .var i, X, W, e, hN, L, tk, h => by
    cases e with
    | Name x p =>
      obtain ⟨h1, h2⟩ := b_and h
      obtain ⟨h3, h4⟩ := b_and h1
      obtain ⟨h5, h6⟩ := b_and h2
      exact e_var (by rw [hN]; exact of_decide_eq_true h3) (visB_vis h4) (by simpa using h5) (by simpa using h6)
    | _ => exact b_no h
  | .lit v, X, W, e, hN, L, tk, h => by
    cases e with
    | Constant c j p => exact lit_ok h
    | _ => exact b_no h
  | .gl v, X, W, e, hN, L, tk, h => by
    cases e with
    | Name x p =>
      obtain ⟨h1, h2⟩ := b_and h
      obtain ⟨g1, g2⟩ := globB_gl h1
      obtain ⟨xv, u, hm, r, hv⟩ := L.gl x v (of_decide_eq_true h2)
      exact e_const (pe_glob g1 hm r g2) fun m n H => hv m n H
    | _ => exact b_no h
  | .tup es, X, W, e, hN, L, tk, h => by
    cases e with
    | Tuple es' j p => exact e_tup (sndEs es hN L tk h)
    | _ => exact b_no h
  | .lst own es, X, W, e, hN, L, tk, h => by
    cases e with
    | List es' p => exact e_lst (sndEs es hN L tk h)
    | _ => exact b_no h
  | .bin op a b, X, W, e, hN, L, tk, h => by
    cases e with
    | BinOp l o' r p =>
      obtain ⟨h1, h2⟩ := b_and h
      obtain ⟨h3, h4⟩ := b_and h1
      have := of_decide_eq_true h3
      subst this
      exact e_bin op (sndE a hN L tk h4) (sndE b hN L tk h2)
    | _ => exact b_no h
  | .neg a, X, W, e, hN, L, tk, h => by
    cases e with
    | UnaryOp o' x p =>
      cases o' with
      | USub => exact e_neg (sndE a hN L tk h)
      | _ => exact b_no h
    | _ => exact b_no h
  | .cmp op a b, X, W, e, hN, L, tk, h => by
    cases e with
    | Compare l ops rs p =>
      match ops, rs, h with
      | [o'], [r], h =>
        obtain ⟨h1, h2⟩ := b_and h
        obtain ⟨h3, h4⟩ := b_and h1
        have := of_decide_eq_true h3
        subst this
        exact e_cmp op L.hu (sndE a hN L tk h4) (sndE b hN L tk h2) (chk_mark h2 _)
      | [], _, h => exact b_no h
      | [_], [], h => exact b_no h
      | [_], _ :: _ :: _, h => exact b_no h
      | _ :: _ :: _, _, h => exact b_no h
    | _ => exact b_no h
  | .cmp2 p q a b c, X, W, e, hN, L, tk, h => by
    cases e with
    | Compare l ops rs pp =>
      match ops, rs, h with
      | [o', o2], [r, r2], h =>
        obtain ⟨h1, h2⟩ := b_and h
        obtain ⟨h3, h4⟩ := b_and h1
        obtain ⟨h5, h6⟩ := b_and h3
        obtain ⟨h7, h8⟩ := b_and h5
        have e1 := of_decide_eq_true h7
        have e2 := of_decide_eq_true h8
        subst e1 e2
        exact e_chain p q L.hu (sndE a hN L tk h6) (sndE b hN L tk h4) (sndE c hN L tk h2) (chk_last h2 _ _ _)
      | [], _, h => exact b_no h
      | [_], _, h => exact b_no h
      | [_, _], [], h => exact b_no h
      | [_, _], [_], h => exact b_no h
      | [_, _], _ :: _ :: _ :: _, h => exact b_no h
      | _ :: _ :: _ :: _, _, h => exact b_no h
    | _ => exact b_no h
  | .and es, X, W, e, hN, L, tk, h => by
    cases e with
    | BoolOp o' es' p =>
      cases o' with
      | And =>
        obtain ⟨h1, h2⟩ := b_and h
        exact sndAnd es hN L tk h2 (by intro z; rw [z] at h1; exact b_no h1)
      | Or => exact b_no h
    | _ => exact b_no h
  | .or es, X, W, e, hN, L, tk, h => by
    cases e with
    | BoolOp o' es' p =>
      cases o' with
      | Or =>
        obtain ⟨h1, h2⟩ := b_and h
        exact sndOr es hN L tk h2 (by intro z; rw [z] at h1; exact b_no h1)
      | And => exact b_no h
    | _ => exact b_no h
  | .not a, X, W, e, hN, L, tk, h => by
    cases e with
    | UnaryOp o' x p =>
      cases o' with
      | Not => exact e_not (sndE a hN L tk h)
      | _ => exact b_no h
    | _ => exact b_no h
  | .ite t a b, X, W, e, hN, L, tk, h => by
    cases e with
    | IfExp t' a' b' p =>
      obtain ⟨h1, h2⟩ := b_and h
      obtain ⟨h3, h4⟩ := b_and h1
      exact e_ite (sndT t hN L tk h3) (sndE a hN L tk h4) (sndE b hN L tk h2)
    | _ => exact b_no h
  | .ix a b, X, W, e, hN, L, tk, h => by
    cases e with
    | Subscript l r p =>
      have h : (chkE T N a X.env.scope l && chkE T N b X.env.scope r) = true := h
      obtain ⟨h1, h2⟩ := b_and h
      exact e_ix (sndE a hN L tk h1) (sndE b hN L tk h2) (chk_ix h2)
    | _ => exact b_no h
  | .sl l r a lo hi, X, W, e, hN, L, tk, h => by
    cases e with
    | Subscript x s p =>
      cases s with
      | Slice lo' hi' st p2 =>
        cases st with
        | some _ => exact b_no h
        | none =>
          obtain ⟨h1, h2⟩ := b_and h
          obtain ⟨h3, h4⟩ := b_and h1
          have ha := sndE a hN L tk h3 (W := W)
          have h1 : PO X lo' (tO X.K xC W fun ρ S => if l then (evE o lo ρ S).bind partI else .ok none S) := by
            cases l <;> cases lo' <;> first
              | exact b_no h4
              | exact o_none
              | exact o_some (sndE lo hN L tk h4)
          have h2 : PO X hi' (tO X.K xC W fun ρ S => if r then (evE o hi ρ S).bind partI else .ok none S) := by
            cases r <;> cases hi' <;> first
              | exact b_no h2
              | exact o_none
              | exact o_some (sndE hi hN L tk h2)
          exact e_sl ha h1 h2
      | _ => exact b_no h
    | _ => exact b_no h
  | .call f es, X, W, e, hN, L, tk, h => by
    cases e with
    | Call fe es' kw p =>
      cases fe with
      | Name x p2 =>
        cases kw with
        | cons _ _ => exact b_no h
        | nil =>
          obtain ⟨h1, h2⟩ := b_and h
          obtain ⟨h3, h4⟩ := b_and h1
          obtain ⟨h5, h6⟩ := b_and h3
          obtain ⟨g1, g2⟩ := globB_gl h5
          obtain ⟨fa, fd, ps, F, hm, hk, hb⟩ := L.fn f x _ (of_decide_eq_true h6)
          have hA := sndEs es hN L tk h2 (W := W)
          cases es with
          | nil => exact b_no h4
          | cons c cs =>
            cases es' with
            | nil => exact b_no h2
            | cons e' es' =>
              obtain ⟨k1, k2⟩ := b_and (show (chkE T N c X.env.scope e' && chkEs T N cs X.env.scope es') = true from h2)
              exact e_call F tk L.room g1 hm hk hb (fun ρ S vs S' q => evEs_len q) hA g2 (chk_star k1 _ _) (chk_noStar _ _ k2).1
      | _ => exact b_no h
    | _ => exact b_no h
  | .bi b es, X, W, e, hN, L, tk, h => by
    cases e with
    | Call fe es' kw p =>
      cases fe with
      | Name x p2 =>
        cases kw with
        | cons _ _ => exact b_no h
        | nil =>
          obtain ⟨h1, h2⟩ := b_and h
          obtain ⟨h3, h4⟩ := b_and h1
          obtain ⟨h5, h6⟩ := b_and h3
          obtain ⟨h7, h8⟩ := b_and h5
          obtain ⟨g1, g2⟩ := globB_gl h7
          have hA := sndEs es hN L tk h2 (W := W)
          cases es with
          | nil => exact b_no h4
          | cons c cs =>
            cases es' with
            | nil => exact b_no h2
            | cons e' es' =>
              obtain ⟨k1, k2⟩ := b_and (show (chkE T N c X.env.scope e' && chkEs T N cs X.env.scope es') = true from h2)
              exact e_bi b (of_decide_eq_true h8) L.calm g1 (L.bl x (of_decide_eq_true h6)) hA (chk_star k1 _ _) (chk_noStar _ _ k2).1
      | _ => exact b_no h
    | _ => exact b_no h
  | .bm m r es, X, W, e, hN, L, tk, h => by
    cases e with
    | Call fe es' kw p =>
      cases fe with
      | Attribute o' x ap =>
        cases kw with
        | cons _ _ => exact b_no h
        | nil =>
          obtain ⟨h1, h2⟩ := b_and h
          obtain ⟨h3, h4⟩ := b_and h1
          obtain ⟨h5, h6⟩ := b_and h3
          obtain ⟨h7, h8⟩ := b_and h5
          obtain ⟨h9, h10⟩ := b_and h7
          obtain ⟨h11, h12⟩ := b_and h9
          have hR := sndE r hN L tk h8 (W := W)
          have hA := sndEs es hN L tk h2 (W := W)
          have hlen := chk_len h2
          cases es with
          | nil => exact b_no h6
          | cons c cs =>
            cases es' with
            | nil => exact b_no h2
            | cons e' es' =>
              obtain ⟨k1, k2⟩ := b_and (show (chkE T N c X.env.scope e' && chkEs T N cs X.env.scope es') = true from h2)
              have few := of_decide_eq_true h4
              refine e_bm m (of_decide_eq_true h11) hR hA (recv_base h10 _ _) ?_ h12 (chk_star k1 _ _) (chk_noStar _ _ k2).1
              rw [(chk_noStar (cs := c :: cs) X.env p h2).2]
              have : (e' :: es').length + ([] : List Keyword).length + (if ([] : List Keyword).isEmpty then 0 else 1) < 30 := by
                show (e' :: es').length + 0 + 0 < 30
                omega
              rw [decide_eq_true this]
              rfl
      | _ => exact b_no h
    | _ => exact b_no h
  | .isi a t, X, W, e, hN, L, tk, h => by
    cases e with
    | Call fe es' kw p =>
      cases fe with
      | Name x p2 =>
        rcases es' with _ | ⟨a', _ | ⟨y, _ | ⟨z, zs⟩⟩⟩ <;> rcases kw with _ | ⟨kw1, kws⟩
        case cons.cons.nil.nil =>
          cases y with
          | Name y p3 =>
            obtain ⟨h1, h2⟩ := b_and h
            obtain ⟨h3, h4⟩ := b_and h1
            obtain ⟨h5, h6⟩ := b_and h3
            obtain ⟨h7, h8⟩ := b_and h5
            obtain ⟨h9, h10⟩ := b_and h7
            obtain ⟨h11, h12⟩ := b_and h9
            exact e_isi t (of_decide_eq_true h12) (of_decide_eq_true h6) (globB_gl h11).1 (L.bl x (of_decide_eq_true h10)) (globB_gl h8).1 (L.bl y (of_decide_eq_true h4)) (sndE a hN L tk h2) (chk_star h2 _ _)
          | _ => exact b_no h
        case cons.cons.nil.cons => exact b_no (by cases y <;> exact h)
        case cons.cons.cons.nil => exact b_no (by cases y <;> exact h)
        case cons.cons.cons.cons => exact b_no (by cases y <;> exact h)
        all_goals exact b_no h
      | _ => exact b_no h
    | _ => exact b_no h
  | .lc own vs tg it cond elt, X, W, e, hN, L, tk, h => by
    cases e with
    | ListComp elt' gs scope p =>
      match gs, h with
      | [⟨tg', it', ifs, 0⟩], h =>
        obtain ⟨h1, h2⟩ := b_and h
        obtain ⟨h3, h4⟩ := b_and h1
        obtain ⟨h5, h6⟩ := b_and h3
        obtain ⟨h7, h8⟩ := b_and h5
        obtain ⟨h9, h10⟩ := b_and h7
        have hsl : ∀ i ∈ slots tg, i ∈ (ownOf N vs).map (·.2) := fun i hi => by
          rw [ownOf_snd]
          have := List.all_eq_true.mp h6 i hi
          simpa using this
        have ok : BlkOk X.N X.env.scope scope (ownOf N vs) := by rw [hN]; exact blkOk_by h10
        have hi := sndIt it hN L tk h9 (W := W)
        have hfold := sndFold it h9 (T := T) (N := N) (env := X.env)
        have key := e_lc (W := W) own tg L.calm L.nd hi ok hsl
          (fun s H C cl fp => sndTG (X := X.blk s H scope (compEnvC scope cl C X.env) fp) (fn := blkFn scope) hN L.calm L.nd rfl tg tg' h8)
          (fun s H C cl fp => sndCond cond (X := X.blk s H scope (compEnvC scope cl C X.env) fp) hN (L.block s H scope _ fp) takes_none5 h4)
          (fun s H C cl fp => sndE elt (X := X.blk s H scope (compEnvC scope cl C X.env) fp) hN (L.block s H scope _ fp) takes_none5 h2) hfold
        have := (pe_lc L.calm L.nd hi ok
          (fun s H C cl fp => sndTG (X := X.blk s H scope (compEnvC scope cl C X.env) fp) (fn := blkFn scope) hN L.calm L.nd rfl tg tg' h8)
          (fun s H C cl fp => sndCond cond (X := X.blk s H scope (compEnvC scope cl C X.env) fp) hN (L.block s H scope _ fp) takes_none5 h4)
          (fun s H C cl fp => sndE elt (X := X.blk s H scope (compEnvC scope cl C X.env) fp) hN (L.block s H scope _ fp) takes_none5 h2) hfold (pos := p)).imp key
        rw [ownOf_snd] at this
        exact this
    | _ => exact b_no h
  | .app r a, X, W, e, hN, L, tk, h => by
    cases e with
    | Call fe es' kw p =>
      cases fe with
      | Attribute o' x ap =>
        rcases es' with _ | ⟨a', _ | ⟨z, zs⟩⟩ <;> rcases kw with _ | ⟨kw1, kws⟩
        case cons.nil.nil =>
          obtain ⟨h1, h2⟩ := b_and h
          obtain ⟨h3, h4⟩ := b_and h1
          obtain ⟨h5, h6⟩ := b_and h3
          obtain ⟨h7, h8⟩ := b_and h5
          have := of_decide_eq_true h7
          subst this
          have hs := chk_star h2 [] X.env
          refine e_app (sndE r hN L tk h4) (sndE a hN L tk h2) (recv_base h6 _ _) ?_ h8 hs
          rw [hs]
          rfl
        all_goals exact b_no h
      | _ => exact b_no h
    | _ => exact b_no h
  termination_by c => (sizeOf c, 0)
theorem sndT {xC : Xs} {T : Tab} {N : List Str} {k : Nat} {o : Orc} : ∀ (c : C) {X : Cx} {W : WX} {e : Expr}, X.N = N → Lk X xC T k o → Takes X W → chkE T N c X.env.scope e = true → PT X e (tT X.K xC W (evE o c)) := by
  intro c X W e hN L tk h
  -- by its value, but for the forms whose truth is asked part by part
  have byVal : (∀ whole, isTrue e X.env whole = (do let v ← whole; standAt e.pos; holding [v] (truthy v))) → PT X e (tT X.K xC W (evE o c)) := fun he => t_val (sndE c hN L tk h) he
  cases e with
  | BoolOp o' es p =>
    cases o' with
    | And =>
      cases c with
      | and cs =>
        obtain ⟨h1, h2⟩ := b_and h
        exact (sndAndW cs hN L tk h2 (by intro z; rw [z] at h1; exact b_no h1)).pt
      | _ => exact b_no h
    | Or =>
      cases c with
      | or cs =>
        obtain ⟨h1, h2⟩ := b_and h
        exact (sndOrW cs hN L tk h2 (by intro z; rw [z] at h1; exact b_no h1)).pt
      | _ => exact b_no h
  | UnaryOp o' x p =>
    cases o' with
    | Not =>
      cases c with
      | not a => exact t_not (sndT a hN L tk h)
      | _ => exact b_no h
    | _ => exact byVal fun _ => rfl
  | IfExp t' a' b' p =>
    cases c with
    | ite t a b =>
      obtain ⟨h1, h2⟩ := b_and h
      obtain ⟨h3, h4⟩ := b_and h1
      exact t_ite (sndT t hN L tk h3) (sndT a hN L tk h4) (sndT b hN L tk h2)
    | _ => exact b_no h
  | Compare l ops rs pp =>
    cases c with
    | cmp op a b =>
      match ops, rs, h with
      | [o'], [r], h =>
        obtain ⟨h1, h2⟩ := b_and h
        obtain ⟨h3, h4⟩ := b_and h1
        have := of_decide_eq_true h3
        subst this
        exact t_cmp op L.hu (sndE a hN L tk h4) (sndE b hN L tk h2) (chk_mark h2 _)
      | [], _, h => exact b_no h
      | [_], [], h => exact b_no h
      | [_], _ :: _ :: _, h => exact b_no h
      | _ :: _ :: _, _, h => exact b_no h
    | cmp2 p q a b c =>
      match ops, rs, h with
      | [o', o2], [r, r2], h =>
        obtain ⟨h1, h2⟩ := b_and h
        obtain ⟨h3, h4⟩ := b_and h1
        obtain ⟨h5, h6⟩ := b_and h3
        obtain ⟨h7, h8⟩ := b_and h5
        have e1 := of_decide_eq_true h7
        have e2 := of_decide_eq_true h8
        subst e1 e2
        exact t_chain p q L.hu (sndE a hN L tk h6) (sndE b hN L tk h4) (sndE c hN L tk h2) (chk_last h2 _ _ _)
      | [], _, h => exact b_no h
      | [_], _, h => exact b_no h
      | [_, _], [], h => exact b_no h
      | [_, _], [_], h => exact b_no h
      | [_, _], _ :: _ :: _ :: _, h => exact b_no h
      | _ :: _ :: _ :: _, _, h => exact b_no h
    | _ => exact b_no h
  | _ => exact byVal fun _ => rfl
  termination_by c => (sizeOf c, 1)
theorem sndEs {xC : Xs} {T : Tab} {N : List Str} {k : Nat} {o : Orc} : ∀ (cs : List C) {X : Cx} {W : WX} {es : List Expr}, X.N = N → Lk X xC T k o → Takes X W → chkEs T N cs X.env.scope es = true → PA X es (tA X.K xC W (evEs o cs))
  | [], X, W, es, hN, L, tk, h => by
    cases es with
    | nil => exact a_nil
    | cons _ _ => exact b_no h
  | c :: cs, X, W, es, hN, L, tk, h => by
    cases es with
    | nil => exact b_no h
    | cons e es =>
      obtain ⟨h1, h2⟩ := b_and h
      exact a_cons (sndE c hN L tk h1) (sndEs cs hN L tk h2) (chk_star h1 _ _)
  termination_by cs => (sizeOf cs, 0)
theorem sndAnd {xC : Xs} {T : Tab} {N : List Str} {k : Nat} {o : Orc} : ∀ (cs : List C) {X : Cx} {W : WX} {es : List Expr} {pos : Pos}, X.N = N → Lk X xC T k o → Takes X W → chkEs T N cs X.env.scope es = true → cs ≠ [] → PE X (.BoolOp .And es pos) (tE X.K xC W (evAnd o cs))
  | [], X, W, es, pos, hN, L, tk, h, hne => absurd rfl hne
  | [c], X, W, es, pos, hN, L, tk, h, hne => by
    rcases es with _ | ⟨e, _ | ⟨e', es⟩⟩
    · exact b_no h
    · obtain ⟨h1, h2⟩ := b_and h
      exact pe_one (sndE c hN L tk h1)
    · obtain ⟨h1, h2⟩ := b_and h
      exact b_no h2
  | c :: d :: cs, X, W, es, pos, hN, L, tk, h, hne => by
    rcases es with _ | ⟨e, _ | ⟨e', es⟩⟩
    · exact b_no h
    · obtain ⟨h1, h2⟩ := b_and h
      exact b_no h2
    · obtain ⟨h1, h2⟩ := b_and h
      exact e_and (sndE c hN L tk h1) (sndAnd (d :: cs) hN L tk h2 (by simp))
  termination_by cs => (sizeOf cs, 0)
theorem sndOr {xC : Xs} {T : Tab} {N : List Str} {k : Nat} {o : Orc} : ∀ (cs : List C) {X : Cx} {W : WX} {es : List Expr} {pos : Pos}, X.N = N → Lk X xC T k o → Takes X W → chkEs T N cs X.env.scope es = true → cs ≠ [] → PE X (.BoolOp .Or es pos) (tE X.K xC W (evOr o cs))
  | [], X, W, es, pos, hN, L, tk, h, hne => absurd rfl hne
  | [c], X, W, es, pos, hN, L, tk, h, hne => by
    rcases es with _ | ⟨e, _ | ⟨e', es⟩⟩
    · exact b_no h
    · obtain ⟨h1, h2⟩ := b_and h
      exact pe_one (sndE c hN L tk h1)
    · obtain ⟨h1, h2⟩ := b_and h
      exact b_no h2
  | c :: d :: cs, X, W, es, pos, hN, L, tk, h, hne => by
    rcases es with _ | ⟨e, _ | ⟨e', es⟩⟩
    · exact b_no h
    · obtain ⟨h1, h2⟩ := b_and h
      exact b_no h2
    · obtain ⟨h1, h2⟩ := b_and h
      exact e_or (sndE c hN L tk h1) (sndOr (d :: cs) hN L tk h2 (by simp))
  termination_by cs => (sizeOf cs, 0)
theorem sndAndW {xC : Xs} {T : Tab} {N : List Str} {k : Nat} {o : Orc} : ∀ (cs : List C) {X : Cx} {W : WX} {es : List Expr} {pos : Pos}, X.N = N → Lk X xC T k o → Takes X W → chkEs T N cs X.env.scope es = true → cs ≠ [] → PW X (.BoolOp .And es pos) (tT X.K xC W (evAnd o cs))
  | [], X, W, es, pos, hN, L, tk, h, hne => absurd rfl hne
  | [c], X, W, es, pos, hN, L, tk, h, hne => by
    rcases es with _ | ⟨e, _ | ⟨e', es⟩⟩
    · exact b_no h
    · obtain ⟨h1, h2⟩ := b_and h
      exact pw_and1 (sndT c hN L tk h1)
    · obtain ⟨h1, h2⟩ := b_and h
      exact b_no h2
  | c :: d :: cs, X, W, es, pos, hN, L, tk, h, hne => by
    rcases es with _ | ⟨e, _ | ⟨e', es⟩⟩
    · exact b_no h
    · obtain ⟨h1, h2⟩ := b_and h
      exact b_no h2
    · obtain ⟨h1, h2⟩ := b_and h
      exact w_and (sndT c hN L tk h1) (sndAndW (d :: cs) hN L tk h2 (by simp))
  termination_by cs => (sizeOf cs, 0)
theorem sndOrW {xC : Xs} {T : Tab} {N : List Str} {k : Nat} {o : Orc} : ∀ (cs : List C) {X : Cx} {W : WX} {es : List Expr} {pos : Pos}, X.N = N → Lk X xC T k o → Takes X W → chkEs T N cs X.env.scope es = true → cs ≠ [] → PW X (.BoolOp .Or es pos) (tT X.K xC W (evOr o cs))
  | [], X, W, es, pos, hN, L, tk, h, hne => absurd rfl hne
  | [c], X, W, es, pos, hN, L, tk, h, hne => by
    rcases es with _ | ⟨e, _ | ⟨e', es⟩⟩
    · exact b_no h
    · obtain ⟨h1, h2⟩ := b_and h
      exact pw_or1 (sndT c hN L tk h1)
    · obtain ⟨h1, h2⟩ := b_and h
      exact b_no h2
  | c :: d :: cs, X, W, es, pos, hN, L, tk, h, hne => by
    rcases es with _ | ⟨e, _ | ⟨e', es⟩⟩
    · exact b_no h
    · obtain ⟨h1, h2⟩ := b_and h
      exact b_no h2
    · obtain ⟨h1, h2⟩ := b_and h
      exact w_or (sndT c hN L tk h1) (sndOrW (d :: cs) hN L tk h2 (by simp))
  termination_by cs => (sizeOf cs, 0)
theorem sndCond {xC : Xs} {T : Tab} {N : List Str} {k : Nat} {o : Orc} : ∀ (cs : List C) {X : Cx} {W : WX} {es : List Expr}, X.N = N → Lk X xC T k o → Takes X W → chkCond T N cs X.env.scope es = true → PTs X es (tCo X.K xC W (evCond o cs))
  | [], X, W, es, hN, L, tk, h => by
    cases es with
    | nil => exact co_nil
    | cons _ _ => exact b_no h
  | [c], X, W, es, hN, L, tk, h => by
    rcases es with _ | ⟨e, _ | ⟨e', es⟩⟩
    · exact b_no h
    · exact co_one (sndT c hN L tk h)
    · exact b_no h
  | c :: d :: cs, X, W, es, hN, L, tk, h => b_no (by
    rcases es with _ | ⟨e, _ | ⟨e', es⟩⟩ <;> exact h)
  termination_by cs => (sizeOf cs, 0)
theorem sndIt {xC : Xs} {T : Tab} {N : List Str} {k : Nat} {o : Orc} : ∀ (it : It) {X : Cx} {W : WX} {tg e : Expr}, X.N = N → Lk X xC T k o → Takes X W → chkIt T N it X.env.scope tg e = true → PI X tg e (tIt X.K xC W (evIt o it))
  | .seq a, X, W, tg, e, hN, L, tk, h => i_seq (sndE a hN L tk h)
  | .rng es, X, W, tg, e, hN, L, tk, h => by
    cases e with
    | Call fe es' kw p =>
      cases fe with
      | Name x p2 =>
        cases kw with
        | cons _ _ => exact b_no h
        | nil =>
          obtain ⟨h1, h2⟩ := b_and h
          obtain ⟨h3, h4⟩ := b_and h1
          obtain ⟨h5, h6⟩ := b_and h3
          obtain ⟨h7, h8⟩ := b_and h5
          have hx := of_decide_eq_true h8
          have hm := L.bl x (of_decide_eq_true h6)
          have hA := sndEs es hN L tk h2 (W := W)
          have hl := chk_len h2
          rcases es with _ | ⟨c, _ | ⟨d, _ | ⟨d', cs⟩⟩⟩
          · simp at h4
          · rcases es' with _ | ⟨a, _ | ⟨b, es'⟩⟩
            · exact b_no h2
            · obtain ⟨k1, k2⟩ := b_and (show (chkE T N c X.env.scope a && chkEs T N [] X.env.scope []) = true from h2)
              exact i_rng1 hx (globB_gl h7).1 hm hA (chk_star k1 _ _) (fun ρ S vs S' q => evEs_len q)
            · obtain ⟨k1, k2⟩ := b_and (show (chkE T N c X.env.scope a && chkEs T N [] X.env.scope (b :: es')) = true from h2)
              exact b_no k2
          · rcases es' with _ | ⟨a, _ | ⟨b, _ | ⟨b', es'⟩⟩⟩
            · exact b_no h2
            · obtain ⟨k1, k2⟩ := b_and (show (chkE T N c X.env.scope a && chkEs T N [d] X.env.scope []) = true from h2)
              exact b_no k2
            · obtain ⟨k1, k2⟩ := b_and (show (chkE T N c X.env.scope a && chkEs T N [d] X.env.scope [b]) = true from h2)
              obtain ⟨k3, k4⟩ := b_and k2
              exact i_rng2 hx (globB_gl h7).1 hm hA (by rw [chk_star k1, chk_star k3]; rfl) (chk_star k3 _ _) (fun ρ S vs S' q => evEs_len q)
            · obtain ⟨k1, k2⟩ := b_and (show (chkE T N c X.env.scope a && chkEs T N [d] X.env.scope (b :: b' :: es')) = true from h2)
              obtain ⟨k3, k4⟩ := b_and k2
              exact b_no k4
          · simp at h4
      | _ => exact b_no h
    | _ => exact b_no h
  | .enum a, X, W, tg, e, hN, L, tk, h => by
    cases tg with
    | Tuple elts kk tpos =>
      cases e with
      | Call fe es' kw p =>
        cases fe with
        | Name x p2 =>
          rcases es' with _ | ⟨a', _ | ⟨z, zs⟩⟩ <;> rcases kw with _ | ⟨kw1, kws⟩
          case cons.nil.nil =>
            obtain ⟨h1, h2⟩ := b_and h
            obtain ⟨h3, h4⟩ := b_and h1
            obtain ⟨h5, h6⟩ := b_and h3
            exact i_enum (of_decide_eq_true h6) (globB_gl h5).1 (L.bl x (of_decide_eq_true h4)) (sndE a hN L tk h2) (chk_star h2 _ _)
          all_goals exact b_no h
        | _ => exact b_no h
      | _ => exact b_no h
    | _ => exact b_no h
  termination_by it => (sizeOf it, 0)
end
end MK

set_option linter.all false
set_option autoImplicit false
set_option Elab.async false
set_option maxRecDepth 100000
set_option maxHeartbeats 4000000
/-! MkTry: try, except clauses with and without a name. -/
namespace MK
open PySem PySem.Spec PyProof.Rows L2

/-- one clause: the class, the slot of its name, what its suite does -/
abbrev Cl := Value × Option Nat × (Addr → Value → Option Addr → TS)
def nmOk (X : Cx) : Option Nat → Option Str → Prop
  | none, none => True
  | some i, some n => X.N[i]? = some n ∧ X.env.kindOf n = some .local
  | _, _ => False
inductive HsOk (X : Cx) : List ExceptHandler → List Cl → Prop
  | nil : HsOk X [] []
  | cons {x : Str} {c : Value} {i : Option Nat} {n : Option Str} {ts : Addr → Value → Option Addr → TS} {b : Stmt} {bs : List Stmt} {np q : Pos} {hds : List ExceptHandler} {l : List Cl} (hc : Names X x c) (hn : nmOk X i n)
      (hsu : ∀ (a : Addr) (oe : Obj) (cls : Value) (d : Option Addr) (pn : List (Addr × Obj)), Zc cls d oe → (∃ vs, oe.data = .fields vs) → PSs (X.suite a ((a, oe) :: pn)) (b :: bs) (ts a cls d)) (r : HsOk X hds l) :
      HsOk X (.ExceptHandler (some (.Name x np)) n (b :: bs) q :: hds) ((c, i, ts) :: l)
/-- the ends of a suite whose name goes -/
def offE (D : Ends) : Option Nat → Ends
  | none => D
  | some i => { nx := fun σ H => D.nx (σ.set i none) H, rt := D.rt, bk := fun σ H => D.bk (σ.set i none) H, ct := fun σ H => D.ct (σ.set i none) H }
def onS (σ : L2.St) (a : Addr) : Option Nat → L2.St
  | none => σ
  | some i => σ.set i (some (.ref a))
def wHs (K : PySem.W.Frag) (Wout : WX) (D : Ends) : List Cl → WX
  | [] => Wout
  | (c, i, ts) :: r => fun cls d σ H => ∃ b, PySem.W.exmOne K cls c = some b ∧ (b = true → ∀ a, H a = none → ts a cls d (offE D i) (onS σ a i) H) ∧ (b = false → wHs K Wout D r cls d σ H)

section
variable {X : Cx} {body : List Stmt} {h0 : ExceptHandler} {hds : List ExceptHandler} {l : List Cl} {pos : Pos} {tb : WX → TS} {Wout : WX}
theorem ps_try_hs (hs : X.stack = X.env :: X.outer) (hf : X.env.frame = some X.env.locals) (hN : X.N.Nodup) (tk : Takes X Wout)
    (hb : ∀ (W : WX) (pn : List (Addr × Obj)) (xe : Value → Shared → Prop), Takes (X.tr pn xe) W → PassesOwn (model X.prog X.w) X.A X.env xe → PSs (X.tr pn xe) body (tb W))
    (hh : HsOk X (h0 :: hds) l) : PS X (.Try body (h0 :: hds) [] [] pos) (fun D σ H => tb (wHs X.K Wout D l) D σ H) := by
  refine ⟨fun pins s σ H D I h => ?_⟩
  have ok := I.ok
  have hfr : X.A.frames = some (X.env :: X.outer) := ok.frames.trans (by rw [hs])
  have bodyRun := (hb (wHs X.K Wout D l) (X.pn ++ pins) (fun e s₁ => wpAny (model X.prog X.w) X.A (noteFrame e X.env) (fun _ s₂ => wpAny (model X.prog X.w) X.A (setFlight e none) (fun _ s₃ =>
    wpAny (model X.prog X.w) X.A (handleBy e X.env (h0 :: hds)) (SP X pins D) X.xe s₃) X.xe s₂) X.xe s₁) (fun u s' xx => ?hcatch) PassesOwn.looking).run [] s σ H D (I.toTry _) h
  case hcatch =>
    obtain ⟨a, B, sI, pins', σ1, H1, cls, d, rfl, J0, nb, up, sky, na, os, ag, w⟩ := xx
    have J : L2.Inv X pins σ1 H1 sI := J0.ofTry ok
    have sky1 : Sky B (X.env :: X.outer) a (Zc cls d) X.env.locals s'.heap := hs ▸ sky
    show wpAny (model X.prog X.w) X.A (noteFrame (.ref a) X.env) _ _ _
    refine Sky.land Zc.steady hfr hf sky1 fun h3 fl3 up3 => ?_
    have up13 := up.trans up3
    have J3 : L2.Inv X pins σ1 H1 { s' with heap := h3 } := J.landed nb fl3.1 up13 os ag
    obtain ⟨oe3, vs3, he3, hz3, hd3⟩ := fl3.there
    have nfr : a ∉ frs (X.env :: X.outer) := fun hm => by
      obtain ⟨_, o1, e1, n1⟩ := fl3.2.2.1.mem hm
      rw [he3] at e1
      cases e1
      exact n1 _ hd3
    have nL : a ≠ X.env.locals := fun z => nfr (List.mem_filterMap.mpr ⟨X.env, List.mem_cons_self, by rw [hf, z]⟩)
    have nF : a ∉ X.fs := fun hm => by
      obtain ⟨e, he, q⟩ := List.mem_filterMap.mp hm
      exact nfr (List.mem_filterMap.mpr ⟨e, List.mem_cons_of_mem _ he, q⟩)
    have S3 := J3.suite he3 hd3 na nL nF
    -- the clauses, one after the other
    have walk : ∀ {hs' : List ExceptHandler} {l' : List Cl}, HsOk X hs' l' → wHs X.K Wout D l' cls d σ1 H1 → wpAny (model X.prog X.w) X.A (handleBy (.ref a) X.env hs') (SP X pins D) X.xe { s' with heap := h3 } := by
      intro hs' l' hk
      induction hk with
      | nil =>
        intro w
        refine wpAny_handleBy_nil ?_
        obtain ⟨k1, k2, k3, oe, vs, T, oT, ts', he, hz, hd, h1, hr⟩ := id fl3
        unfold PySem.passOn
        refine wpAny_bind (wpAny_field he hd h1 ?_)
        rw [if_neg (show ¬ ((Value.ref T == Value.none) = true) from by simp)]
        have out : wpAny (model X.prog X.w) X.A (setFlight (.ref a) X.env.frame) (fun _ s4 => wpAny (model X.prog X.w) X.A (throw (.ref a) : Sem Flow) (SP X pins D) X.xe s4) X.xe { s' with heap := h3 } := by
          rw [hf]
          exact HandSPX.setFlight_upZ fl3 fun h4 hh4 up4 => wpAny_throw (tk _ _ ⟨a, B, sI, pins, σ1, H1, cls, d, rfl, J, nb, up13.trans up4, .inr (.inr (hs.symm ▸ hh4)), na, os, ag, w⟩)
        first
          | exact wpAny_bind (wpAny_pure (wpAny_bind out))
          | exact wpAny_bind out
      | @cons x c i n ts b bs np q hds2 l2 hc hn hsu r ih =>
        intro w
        obtain ⟨yes, hb1, hyes, hno⟩ := w
        refine wpAny_handleBy_cons (codeAny_handlers_test ?_) (fun q => by cases q)
        have LT : PySem.W.Looks (model X.prog X.w) h3 (typeOf (.ref a)) cls := fun A Q E s k q => wpAny_typeOf_ref (k _ _ he3) (by rw [hz3.1]; exact q)
        have LM := PySem.W.exm_one (M := model X.prog X.w) J3.kIn LT hb1
        have named : ∀ {Q E : Value → Shared → Prop}, Q c { s' with heap := h3 } → wpAny (model X.prog X.w) (X.A.mark (some (.ref a))) (eval (.Name x np) X.env) Q E { s' with heap := h3 } := fun {Q E} hq => by
          obtain ⟨hg, hdbg, hm | ⟨hm, hv, hnn⟩⟩ := hc
          · exact ld_glob (X := X.suite a ((a, oe3) :: (X.pn ++ pins))) S3 hg hm hq hdbg
          · exact ld_blt (X := X.suite a ((a, oe3) :: (X.pn ++ pins))) S3 hg hm hv hq hnn hdbg
        refine named (LM.here ?_)
        cases yes with
        | false => exact ih (hno rfl)
        | true =>
          cases i with
          | none =>
            cases n with
            | some n => exact hn.elim
            | none =>
              refine codeAny_handlers_suite (HandSPX.lands_againZ fl3 fun h4 fl4 up4 => ?_)
              have J4 : L2.Inv X pins σ1 H1 { s' with heap := h4 } := J.landed nb fl4.1 (up13.trans up4) os ag
              obtain ⟨oe4, vs4, he4, hz4, hd4⟩ := fl4.there
              have S4 := J4.suite he4 hd4 na nL nF
              refine wpAny_mono ((hsu a oe4 cls d (X.pn ++ pins) hz4 ⟨_, hd4⟩).run [] _ _ H1 _ S4 (hyes rfl a na)) (fun f s6 hsp => ?_) (fun _ _ z => False.elim z)
              cases f with
              | next => obtain ⟨σ6, H6, S6, q6⟩ := hsp; exact ⟨_, _, S6.unsuite ok, q6⟩
              | brk => obtain ⟨σ6, H6, S6, q6⟩ := hsp; exact ⟨_, _, S6.unsuite ok, q6⟩
              | cont => obtain ⟨σ6, H6, S6, q6⟩ := hsp; exact ⟨_, _, S6.unsuite ok, q6⟩
              | ret u => obtain ⟨v6, σ6, H6, S6, r6, q6⟩ := hsp; exact ⟨_, _, _, S6.unsuite ok, r6, q6⟩
          | some i =>
            cases n with
            | none => exact hn.elim
            | some n =>
              obtain ⟨hi, hln⟩ := hn
              refine codeAny_handlers_suite_as (HandSPX.lands_againZ fl3 fun h4 fl4 up4 => ?_)
              have J4 : L2.Inv X pins σ1 H1 { s' with heap := h4 } := J.landed nb fl4.1 (up13.trans up4) os ag
              obtain ⟨oe4, vs4, he4, hz4, hd4⟩ := fl4.there
              have S4 := J4.suite he4 hd4 na nL nF
              refine store_ok (X := X.suite a ((a, oe4) :: (X.pn ++ pins))) (v := .ref a) S4 hN hi (.inl hln) rfl (fun s5 S5 => ?_) (.inr hln)
              refine wpAny_mono ((hsu a oe4 cls d (X.pn ++ pins) hz4 ⟨_, hd4⟩).run [] s5 _ H1 _ S5 (hyes rfl a na)) (fun f s6 hsp => ?_) (fun _ _ z => False.elim z)
              cases f with
              | next => obtain ⟨σ6, H6, S6, q6⟩ := hsp; exact gone_ok (S6.unsuite ok) hN hi hln fun s7 J7 => ⟨_, _, J7, q6⟩
              | brk => obtain ⟨σ6, H6, S6, q6⟩ := hsp; exact gone_ok (S6.unsuite ok) hN hi hln fun s7 J7 => ⟨_, _, J7, q6⟩
              | cont => obtain ⟨σ6, H6, S6, q6⟩ := hsp; exact gone_ok (S6.unsuite ok) hN hi hln fun s7 J7 => ⟨_, _, J7, q6⟩
              | ret u => obtain ⟨v6, σ6, H6, S6, r6, q6⟩ := hsp; exact gone_ok (S6.unsuite ok) hN hi hln fun s7 J7 => ⟨_, _, _, J7, r6, q6⟩
    exact walk hh w
  refine wpAny_Try_except (wpAny_mono bodyRun (fun f s1 hsp => ?_) fun e s1 he => he)
  cases f with
  | next => obtain ⟨σ', H', J', q⟩ := hsp; exact wpAny_execs_nil ⟨σ', H', J'.ofTry ok, q⟩
  | brk => obtain ⟨σ', H', J', q⟩ := hsp; exact ⟨σ', H', J'.ofTry ok, q⟩
  | cont => obtain ⟨σ', H', J', q⟩ := hsp; exact ⟨σ', H', J'.ofTry ok, q⟩
  | ret u => obtain ⟨v, σ', H', J', r, q⟩ := hsp; exact ⟨v, σ', H', J'.ofTry ok, r, q⟩
end

/-! ### the suites of the core -/
def isIS : PV → Bool
  | .int _ => true
  | .str _ => true
  | _ => false
/-- a constant, or one below 0 -/
def chkLit (v : PV) : Expr → Bool
  | .Constant c _ _ => litOk v c
  | .UnaryOp .USub (.Constant (.int i) _ _) _ => match v with
    | .int k => decide (k = -i)
    | _ => false
  | _ => false
/-- HX against a text: n the clause's name, f the field that its class's exceptions bear -/
def chkHX (n f : Option Str) : HX → Expr → Bool
  | .lit v, .Constant c _ _ => litOk v c
  | .fld j, .Attribute (.Name x _) y _ => decide (j = 0) && decide (n = some x) && decide (f = some y) && !(x == ("__debug__" : Str)) && !(x == ("__classdict__" : Str))
  | .ite j v a b, .IfExp (.Compare (.Attribute (.Name x _) y _) [.Eq] [c] _) a' b' _ => decide (j = 0) && decide (n = some x) && decide (f = some y) && !(x == ("__debug__" : Str)) && !(x == ("__classdict__" : Str)) && isIS v && chkLit v c && chkHX n f a a' && chkHX n f b b'
  | _, _ => false
/-- what is known of the exception within a suite: it lies at a, in the slot i of the name -/
structure HSt (K : PySem.W.Frag) (xC : Xs) (h : Hd) (a : Addr) (cls : Value) (d : Option Addr) (as : List PV) (σ : L2.St) (H : Hp) : Prop where
  c : ∃ c, cls = .ref (xC.a c) ∧ h.cls.contains c = true ∧ XD xC c as d H
  nm : ∀ i, h.nm = some i → σ[i]? = some (some (.ref a))
def tHX (K : PySem.W.Frag) (xC : Xs) (h : Hd) (a : Addr) (cls : Value) (d : Option Addr) (x : HX) : TE := fun σ H Q => ∃ as v, HSt K xC h a cls d as σ H ∧ evHX as x = some v ∧ Q (flatV v) H
/-- the classes that a clause takes are such whose field can be read -/
def FldOk (K : PySem.W.Frag) (xC : Xs) (h : Hd) (f : Option Str) : Prop := ∀ y, f = some y → ∀ c, h.cls.contains c = true → xC.f c = some y ∧ XfC K (xC.a c) ∧ PySem.W.findIn K (.ref (xC.a c)) y = some none
theorem pe_lit {X : Cx} {v : PV} {c : Const} {j : Nat} {pos : Pos} (h : litOk v c = true) : PE X (.Constant c j pos) (tC (flatV v)) := by
  cases v with
  | non => cases c <;> first | exact b_no h | exact pe_non
  | bl b =>
    cases c with
    | bool d =>
      have : b = d := beq_iff_eq.mp h
      subst this
      exact pe_bl
    | _ => exact b_no h
  | int i =>
    cases c with
    | int d =>
      have : i = d := beq_iff_eq.mp h
      subst this
      exact pe_int
    | _ => exact b_no h
  | str s =>
    cases c with
    | str z =>
      obtain ⟨h1, h2⟩ := b_and h
      have := of_decide_eq_true h1
      subst this
      exact pe_str
    | _ => exact b_no h
  | _ => cases c <;> exact b_no h
theorem pe_lit2 {X : Cx} {v : PV} {e : Expr} (h : chkLit v e = true) : PE X e (tC (flatV v)) ∧ behindInMarks .Eq e = false := by
  unfold chkLit at h
  split at h
  · exact ⟨pe_lit h, rfl⟩
  · split at h
    · have := of_decide_eq_true h
      subst this
      refine ⟨(pe_un un_neg pe_int).imp fun σ H Q q => ⟨_, rfl, q⟩, rfl⟩
    · cases h
  · cases h
theorem eqv_flat {x v : PV} (hx : xOk x = true) (hv : isIS v = true) : scal (flatV x) (flatV v) = true ∧ decide (flatV x = flatV v) = PV.eqv x v := by
  cases x with
  | int i =>
    cases v with
    | int j => exact ⟨rfl, by show decide (V.int i = V.int j) = (i == j); exact dec_int⟩
    | str t => exact ⟨rfl, rfl⟩
    | _ => exact b_no hv
  | str s =>
    cases v with
    | int j => exact ⟨rfl, rfl⟩
    | str t =>
      refine ⟨rfl, ?_⟩
      show decide (V.str (strV s) = V.str (strV t)) = (s == t)
      by_cases h : s = t
      · subst h; simp
      · rw [decide_eq_false fun e => h (strV_inj (by injection e))]
        simp [h]
    | _ => exact b_no hv
  | _ => exact b_no hx
section
variable {X : Cx} {xC : Xs} {h : Hd} {a : Addr} {oe : Obj} {cls : Value} {d : Option Addr} {pn : List (Addr × Obj)} {n f : Option Str}
theorem pe_fld0 {y z : Str} {np p : Pos} (hz : Zc cls d oe) (hf : ∃ vs, oe.data = .fields vs) (F : FldOk X.K xC h f) (hn : ∀ x, n = some x → ∃ i, h.nm = some i ∧ X.N[i]? = some x ∧ X.env.kindOf x = some .local) (e1 : n = some y) (e2 : f = some z) (d1 : (y == ("__debug__" : Str)) = false) (d2 : (y == ("__classdict__" : Str)) = false) :
    PE (X.suite a ((a, oe) :: pn)) (.Attribute (.Name y np) z p) (tHX X.K xC h a cls d (.fld 0)) := by
  obtain ⟨i, hi, hN, hk⟩ := hn y e1
  refine ⟨fun pins s σ H Q I ⟨as, v, st, hev, q⟩ => ?_⟩
  obtain ⟨c, hc, hcc, hx⟩ := st.c
  obtain ⟨k1, k2, k3⟩ := F z e2 c hcc
  refine (pe_xf (C := xC.a c) k2 k3 hz hf (pe_var (X := X.suite a ((a, oe) :: pn)) hN (.inl hk) d1 d2)).run pins s σ H Q I ?_
  refine ⟨.ref a, st.nm i hi, rfl, hc, ?_⟩
  obtain ⟨_, hx⟩ := hx
  cases as with
  | nil => cases hev
  | cons w r =>
    obtain ⟨e, _, _, f', dd, e3, e4, e5⟩ := hx
    rw [k1] at e3
    cases e3
    have : w = v := by
      have hev : (w :: r)[0]? = some v := hev
      simpa using hev
    subst this
    exact ⟨dd, _, flatV w, e4, e5, by simp [List.lookup], q⟩
theorem sndHX (hz : Zc cls d oe) (hf : ∃ vs, oe.data = .fields vs) (F : FldOk X.K xC h f) (hn : ∀ x, n = some x → ∃ i, h.nm = some i ∧ X.N[i]? = some x ∧ X.env.kindOf x = some .local) : ∀ (x : HX) (e : Expr), chkHX n f x e = true → PE (X.suite a ((a, oe) :: pn)) e (tHX X.K xC h a cls d x)
  | .lit v, e, hc => by
    cases e with
    | Constant c j p => exact (pe_lit hc).imp fun σ H Q ⟨as, w, st, hev, q⟩ => by cases hev; exact q
    | _ => exact b_no hc
  | .fld j, e, hc => by
    cases e with
    | Attribute o y p =>
      cases o with
      | Name x np =>
        obtain ⟨hc, c5⟩ := b_and hc
        obtain ⟨hc, c4⟩ := b_and hc
        obtain ⟨hc, c3⟩ := b_and hc
        obtain ⟨c1, c2⟩ := b_and hc
        have := of_decide_eq_true c1
        subst this
        exact pe_fld0 hz hf F hn (of_decide_eq_true c2) (of_decide_eq_true c3) (by simpa using c4) (by simpa using c5)
      | _ => exact b_no hc
    | _ => exact b_no hc
  | .ite j v p q, e, hc => by
    unfold chkHX at hc
    split at hc
    case h_3 x np y ap c cmp a' b' ip heq =>
      cases heq
      obtain ⟨hc, hq⟩ := b_and hc
      obtain ⟨hc, hp⟩ := b_and hc
      obtain ⟨hc, hl⟩ := b_and hc
      obtain ⟨hc, hv⟩ := b_and hc
      obtain ⟨hc, c5⟩ := b_and hc
      obtain ⟨hc, c4⟩ := b_and hc
      obtain ⟨hc, c3⟩ := b_and hc
      obtain ⟨c1, c2⟩ := b_and hc
      have := of_decide_eq_true c1
      subst this
      have hfld := fun np ap => pe_fld0 (xC := xC) (h := h) (a := a) (oe := oe) (cls := cls) (d := d) (pn := pn) (np := np) (p := ap) hz hf F hn (of_decide_eq_true c2) (of_decide_eq_true c3) (by simpa using c4) (by simpa using c5)
      refine (pe_ifExp (pt_cmpR op_eq (hfld _ _) (pe_lit2 hl).1 (pe_lit2 (X := X) hl).2) (sndHX hz hf F hn p _ hp) (sndHX hz hf F hn q _ hq)).imp fun σ H Q h0 => ?_
      obtain ⟨as, w, st, hev, qq⟩ := h0
      have hev : (match as[0]? with | some x => if PV.eqv x v then evHX as p else evHX as q | none => none) = some w := hev
      cases h0 : as[0]? with
      | none => rw [h0] at hev; cases hev
      | some x =>
        rw [h0] at hev
        have hxo : xOk x = true := by
          obtain ⟨c', _, _, hx⟩ := st.c
          obtain ⟨_, hx⟩ := hx
          cases as with
          | nil => cases h0
          | cons w' r =>
            obtain ⟨_, e, _⟩ := hx
            have : w' = x := by simpa using h0
            rw [← this]
            exact e
        obtain ⟨es, ed⟩ := eqv_flat hxo hv
        refine ⟨as, x, st, h0, es, _, rfl, ?_⟩
        rw [ed]
        have hev : (if PV.eqv x v then evHX as p else evHX as q) = some w := hev
        show if PV.eqv x v = true then tHX X.K xC h a cls d p σ H Q else tHX X.K xC h a cls d q σ H Q
        by_cases hb : PV.eqv x v = true
        · rw [if_pos hb] at hev ⊢
          exact ⟨as, w, st, hev, qq⟩
        · rw [if_neg hb] at hev ⊢
          exact ⟨as, w, st, hev, qq⟩
    all_goals first | (exact b_no hc) | (rename_i heq; cases heq)
end
end MK
namespace MK
open PySem PySem.Spec PyProof.Rows L2
def flatB : PV → Bool
  | .non => true
  | .bl _ => true
  | .int _ => true
  | .str s => okSb s
  | _ => false
def litsOk : HX → Bool
  | .lit v => flatB v
  | .fld _ => true
  | .ite _ _ a b => litsOk a && litsOk b
theorem vr_flat {K : PySem.W.Frag} {m : Mp} {n : Nat} {H : Hp} {v : PV} (h : flatB v = true) : VR K m n H v (flatV v) := by
  cases v with
  | non => exact .non
  | bl b => exact .bl b
  | int i => exact .int i
  | str s => exact .str s (okSb_ok h)
  | _ => exact b_no h
theorem vr_evHX {K : PySem.W.Frag} {xC : Xs} {m : Mp} {n : Nat} {H : Hp} {c : Nat} {as : List PV} {d : Option Addr} (hx : XD xC c as d H) : ∀ (x : HX) (v : PV), litsOk x = true → evHX as x = some v → VR K m n H v (flatV v)
  | .lit w, v, hl, h => by cases h; exact vr_flat hl
  | .fld j, v, hl, h => by
    have h : as[j]? = some v := h
    obtain ⟨_, hx⟩ := hx
    cases as with
    | nil => cases h
    | cons w r =>
      obtain ⟨e, e1, e2, _⟩ := hx
      have : v ∈ w :: r := List.mem_of_getElem? h
      rw [e] at this
      have : v = w := by simpa using this
      subst this
      cases v with
      | int i => exact .int i
      | str s => exact .str s (e2 s rfl)
      | _ => exact b_no e1
  | .ite j w a b, v, hl, h => by
    obtain ⟨l1, l2⟩ := b_and hl
    have h : (match as[j]? with | some x => if PV.eqv x w then evHX as a else evHX as b | none => none) = some v := h
    split at h
    · split at h
      · exact vr_evHX hx a v l1 h
      · exact vr_evHX hx b v l2 h
    · cases h
def tHd (K : PySem.W.Frag) (xC : Xs) (h : Hd) : Addr → Value → Option Addr → TS := fun a cls d D σ H => match h.k with
  | .ret x => tHX K xC h a cls d x σ H D.rt
  | .pass => D.nx σ H
  | .cont => D.ct σ H
def suiteOk (X : Cx) (xC : Xs) (h : Hd) (bs : List Stmt) : Prop := match h.k with
  | .ret x => ∃ e p, bs = [.Return (some e) p] ∧ litsOk x = true ∧ ∀ (a : Addr) (oe : Obj) (cls : Value) (d : Option Addr) (pn : List (Addr × Obj)), Zc cls d oe → (∃ vs, oe.data = .fields vs) → PE (X.suite a ((a, oe) :: pn)) e (tHX X.K xC h a cls d x)
  | .pass => ∃ p, bs = [.Pass p]
  | .cont => ∃ p, bs = [.Continue p]
inductive HsC (X : Cx) (xC : Xs) : List Hd → List ExceptHandler → Prop
  | nil : HsC X xC [] []
  | cons {h : Hd} {j : Nat} {x : Str} {n : Option Str} {bs : List Stmt} {np q : Pos} {hs : List Hd} {hds : List ExceptHandler} (hc : Names X x (.ref (xC.a j)))
      (hcls : ∀ i, i < xC.n → PySem.W.exmOne X.K (.ref (xC.a i)) (.ref (xC.a j)) = some (h.cls.contains i)) (hn : nmOk X h.nm n) (hsu : suiteOk X xC h bs) (r : HsC X xC hs hds) :
      HsC X xC (h :: hs) (.ExceptHandler (some (.Name x np)) n bs q :: hds)
section
variable {X : Cx} {xC : Xs} {W : WX}
theorem hsC_ok : ∀ {hs : List Hd} {hds : List ExceptHandler}, HsC X xC hs hds → ∃ l : List Cl, HsOk X hds l ∧
    ∀ (D : Ends) (c : Nat) (as : List PV) (ρ : Env) (S : Store) (m : Mp) (n0 : Nat) (S0 : Store) (H0 : Hp), OS X.K xC W m S0 H0 D (runH hs c as ρ S) → ∀ m' H' σ', Ext m S0.length H0 m' S.length H' → Good X.K ρ S m' σ' H' → ∀ d, XD xC c as d H' → wHs X.K W D l (.ref (xC.a c)) d σ' H' := by
  intro hs hds hk
  induction hk with
  | nil => exact ⟨[], .nil, fun D c as ρ S m n0 S0 H0 q m' H' σ' e g d hd => q m' H' σ' e g d hd⟩
  | @cons h j x n bs np q hs hds hc hcls hn hsu r ih =>
    obtain ⟨l, h1, h2⟩ := ih
    obtain ⟨kc, knm, kk⟩ := h
    have hb : ∃ b bs', bs = b :: bs' := by
      cases kk with
      | ret x => obtain ⟨e, p, rfl, _⟩ := hsu; exact ⟨_, _, rfl⟩
      | pass => obtain ⟨p, rfl⟩ := hsu; exact ⟨_, _, rfl⟩
      | cont => obtain ⟨p, rfl⟩ := hsu; exact ⟨_, _, rfl⟩
    obtain ⟨b, bs', rfl⟩ := hb
    refine ⟨(.ref (xC.a j), knm, tHd X.K xC ⟨kc, knm, kk⟩) :: l, .cons hc hn (fun a oe cls d pn hz hf => ?_) h1, fun D c as ρ S m n0 S0 H0 q m' H' σ' e g d hd => ?_⟩
    · cases kk with
      | ret x => obtain ⟨e, p, he, _, h3⟩ := hsu; cases he; exact pss_one (ps_ret (h3 a oe cls d pn hz hf))
      | pass => obtain ⟨p, he⟩ := hsu; cases he; exact pss_one ps_pass
      | cont => obtain ⟨p, he⟩ := hsu; cases he; exact pss_one ps_continue
    · refine ⟨_, hcls c hd.1, fun hyes a ha => ?_, fun hno => ?_⟩
      · have q : OS X.K xC W m S0 H0 D (if kc.contains c then evHK as ⟨kc, knm, kk⟩ ρ S else runH hs c as ρ S) := q
        rw [if_pos hyes] at q
        cases kk with
        | ret x =>
          obtain ⟨e', p, _, hl, _⟩ := hsu
          have q : OS X.K xC W m S0 H0 D (if slotB ρ knm then (match evHX as x with | some v => .ret v S | none => .bad) else .bad) := q
          by_cases hsl : slotB ρ knm = true
          · rw [if_pos hsl] at q
            cases hv : evHX as x with
            | none => rw [hv] at q; exact q.elim
            | some v =>
              rw [hv] at q
              have hxd : XD xC c as d H' := hd
              refine ⟨as, v, ⟨⟨c, rfl, hyes, hxd⟩, fun i hi => ?_⟩, hv, ?_⟩
              · have hi : knm = some i := hi
                subst hi
                have : i < ρ.length := of_decide_eq_true hsl
                show (σ'.set i (some (.ref a)))[i]? = _
                rw [List.getElem?_set_self (by rw [← g.env.len]; exact this)]
              · have := q m' H' e g.st _ (vr_evHX hxd x v hl hv)
                cases knm <;> exact this
          · rw [if_neg hsl] at q
            exact q.elim
        | pass =>
          cases knm with
          | none => exact q m' H' σ' e g
          | some i => exact q.elim
        | cont =>
          cases knm with
          | none => exact q m' H' σ' e g
          | some i => exact q.elim
      · have q : OS X.K xC W m S0 H0 D (if kc.contains c then evHK as ⟨kc, knm, kk⟩ ρ S else runH hs c as ρ S) := q
        rw [if_neg (by rw [hno]; exact Bool.false_ne_true)] at q
        exact h2 D c as ρ S m n0 S0 H0 q m' H' σ' e g d hd
theorem s_try {h0 : ExceptHandler} {hds : List ExceptHandler} {hs : List Hd} {body : List Stmt} {pos : Pos} {u : Env → Store → SOut} (hst : X.stack = X.env :: X.outer) (hfr : X.env.frame = some X.env.locals) (hN : X.N.Nodup) (tk : Takes X W)
    (hb : ∀ (W : WX) (pn : List (Addr × Obj)) (xe : Value → Shared → Prop), Takes (X.tr pn xe) W → PassesOwn (model X.prog X.w) X.A X.env xe → PSs (X.tr pn xe) body (tS X.K xC W u)) (hh : HsC X xC hs (h0 :: hds)) :
    PS X (.Try body (h0 :: hds) [] [] pos) (tS X.K xC W fun ρ S => match u ρ S with
      | .exc c as ρ' S' => runH hs c as ρ' S'
      | r => r) := by
  obtain ⟨l, h1, h2⟩ := hsC_ok (W := W) hh
  refine (ps_try_hs hst hfr hN tk (tb := fun W => tS X.K xC W u) hb h1).imp fun D σ H ⟨ρ, S, m, G, q⟩ => ?_
  refine ⟨ρ, S, m, G, ?_⟩
  dsimp only at q
  generalize u ρ S = o at q
  cases o with
  | next ρ' S' => exact q
  | ret v S' => exact q
  | brk ρ' S' => exact q
  | cont ρ' S' => exact q
  | exc c as ρ' S' => exact fun m' H' σ' e g d hd => h2 D c as ρ' S' m 0 S H q m' H' σ' e g d hd
  | bad => exact q.elim
end
end MK

set_option linter.all false
set_option autoImplicit false
set_option Elab.async false
set_option maxRecDepth 100000
set_option maxHeartbeats 8000000
/-! MkS: statements against the text. -/
namespace MK
open PySem PySem.Spec PyProof.Rows L2

def noStarE : Expr → Bool
  | .Starred .. => false
  | _ => true
theorem any_star (l : List Expr) (p : Expr → Bool) (hp : ∀ e, noStarE e = true → p e = false) (hl : ∀ e ∈ l, noStarE e = true) : ¬ (l.any p = true) := fun h => by
  obtain ⟨e, he, hm⟩ := List.any_eq_true.mp h
  rw [hp e (hl e he)] at hm
  exact Bool.false_ne_true hm
theorem sw_par2 {env : PySem.Env} {x y : Str} {px py pt : Pos} {a b : Expr} {kt k2 : Nat} {pt2 : Pos} (hk : env.scope.kind = .function) (hx : env.scope.names.lookup x = some .local) (hy : env.scope.names.lookup y = some .local)
    (hl : (py.line == px.line) = true) (hxy : ([x, y].eraseDups.length == 2) = true) (ha : noStarE a = true) (hb : noStarE b = true) (hf : [a, b].all (foldedForSure 8) = false) (hc : [a, b].all (constantsAlone 8) = false) :
    swappedStores [.Tuple [.Name x px, .Name y py] kt pt] (.Tuple [a, b] k2 pt2) env = pure (some [x, y]) := by
  have hbk : env.blockKind = .function := by unfold PySem.Env.blockKind; rw [hk]; rfl
  have kx : env.kindOf x = some .local := hx
  have ky : env.kindOf y = some .local := hy
  unfold swappedStores
  have hxy2 : [x, y].eraseDups.length = 2 := by simpa using hxy
  simp only [hbk, kx, ky, hl, hf, hc, hxy2, Expr.pos, List.filterMap, List.head?, Option.map, Option.getD, beq_self_eq_true, Bool.and_self, if_true, Bool.and_true]
  rw [if_neg (by exact Bool.false_ne_true), if_neg (any_star [a, b] _ (fun e h => by cases e <;> first | rfl | exact absurd (show false = true from h) Bool.false_ne_true) (by simp [ha, hb]))]
  rfl
theorem sw_par3 {env : PySem.Env} {x y z : Str} {px py pz pt : Pos} {a b c : Expr} {kt k2 : Nat} {pt2 : Pos} (hk : env.scope.kind = .function) (hx : env.scope.names.lookup x = some .local) (hy : env.scope.names.lookup y = some .local) (hz : env.scope.names.lookup z = some .local)
    (hl : (py.line == px.line) = true) (hl2 : (pz.line == px.line) = true) (hxy : ([x, y, z].eraseDups.length == 3) = true) (ha : noStarE a = true) (hb : noStarE b = true) (hcs : noStarE c = true) (hf : [a, b, c].all (foldedForSure 8) = false) (hc : [a, b, c].all (constantsAlone 8) = false) :
    swappedStores [.Tuple [.Name x px, .Name y py, .Name z pz] kt pt] (.Tuple [a, b, c] k2 pt2) env = pure (some [x, y, z]) := by
  have hbk : env.blockKind = .function := by unfold PySem.Env.blockKind; rw [hk]; rfl
  have kx : env.kindOf x = some .local := hx
  have ky : env.kindOf y = some .local := hy
  have kz : env.kindOf z = some .local := hz
  unfold swappedStores
  have hxy2 : [x, y, z].eraseDups.length = 3 := by simpa using hxy
  simp only [hbk, kx, ky, kz, hl, hl2, hf, hc, hxy2, Expr.pos, List.filterMap, List.head?, Option.map, Option.getD, beq_self_eq_true, Bool.and_self, if_true, Bool.and_true]
  rw [if_neg (by exact Bool.false_ne_true), if_neg (any_star [a, b, c] _ (fun e h => by cases e <;> first | rfl | exact absurd (show false = true from h) Bool.false_ne_true) (by simp [ha, hb, hcs]))]
  rfl
theorem sw_folded {env : PySem.Env} {ts vs : List Expr} {kt k2 : Nat} {pt pt2 : Pos} (hf : vs.all (foldedForSure 8) = true) : swappedStores [.Tuple ts kt pt] (.Tuple vs k2 pt2) env = pure none := by
  unfold swappedStores
  simp only [hf]
  split
  · rfl
  · split
    · rfl
    · split
      · rfl
      · rfl
theorem sw_cell2 {env : PySem.Env} {x y : Str} {px py pt : Pos} {vs : List Expr} {kt k2 : Nat} {pt2 : Pos} (h : (decide (env.scope.names.lookup x = some .local) && decide (env.scope.names.lookup y = some .local)) = false) :
    swappedStores [.Tuple [.Name x px, .Name y py] kt pt] (.Tuple vs k2 pt2) env = pure none := by
  unfold swappedStores
  have h : (decide (env.kindOf x = some .local) && decide (env.kindOf y = some .local)) = false := h
  have hn : ∀ z, (env.kindOf z == some NameKind.local) = decide (env.kindOf z = some .local) := fun z => by
    cases env.kindOf z with
    | none => rfl
    | some k => cases k <;> rfl
  simp only [List.filterMap, hn]
  generalize decide (env.kindOf x = some .local) = a at h
  generalize decide (env.kindOf y = some .local) = b at h
  generalize (px.line == _) = c
  generalize (py.line == _) = d
  cases a <;> cases b <;> cases c <;> cases d <;> first
    | (exact absurd h (by decide))
    | (split
       · rfl
       · split
         · rfl
         · rfl)
theorem sw_other {env : PySem.Env} {ts : List Expr} {kt : Nat} {pt : Pos} {v : Expr} (h : ∀ vs k p, v ≠ .Tuple vs k p) : swappedStores [.Tuple ts kt pt] v env = pure none := by
  cases v <;> first | rfl | exact absurd rfl (h _ _ _)

def notComp : Expr → Bool
  | .ListComp .. | .SetComp .. | .DictComp .. => false
  | _ => true
theorem sw_not {e : Expr} (h : notComp e = true) (t : Option Expr) (l : Nat) (env : PySem.Env) : swapsWith e t l env = pure false := by
  cases e <;> first | rfl | exact absurd (show false = true from h) Bool.false_ne_true
theorem sw_tup (e : Expr) (ts : List Expr) (k : Nat) (p : Pos) (l : Nat) (env : PySem.Env) : swapsWithSole [.Tuple ts k p] e l env = pure false := by
  show swapsWith e (some (.Tuple ts k p)) l env = pure false
  cases e <;> rfl
theorem b_not {b : Bool} (h : (!b) = true) : b = false := by
  cases b
  · rfl
  · exact absurd h (by decide)
theorem sw_cell {e : Expr} {x : Str} {px : Pos} {l : Nat} {env : PySem.Env} (h : env.scope.names.lookup x = some .cell) : swapsWith e (some (.Name x px)) l env = pure false := by
  have kx : env.kindOf x = some .cell := h
  cases e <;> first
    | rfl
    | (unfold swapsWith
       simp only [kx]
       rw [show ((some NameKind.cell == some NameKind.local)) = false from rfl]
       simp only [Bool.and_false, Bool.false_and])
def swLc (sc : Scope) (x : Str) (px : Pos) : Expr → Bool
  | .ListComp _ _ scope p => (px.line == p.line) && !(scope.names.any fun (n, k) => n == x && (k == .local || k == .cell))
  | _ => false
def lcB : C → Bool
  | .lc .. => true
  | _ => false
def eqFn (sc : Scope) : Bool := match sc.kind with | .function => true | _ => false
theorem eqFn_of {sc : Scope} (h : eqFn sc = true) : sc.kind = .function := by
  unfold eqFn at h
  split at h
  · assumption
  · exact absurd h Bool.false_ne_true
/-- what is stored where a tuple is taken apart: all at once -/
def parOk (sc : Scope) : List Expr → List Expr → Bool
  | [.Name x px, .Name y py], [a, b] => eqFn sc && decide (sc.names.lookup x = some .local) && decide (sc.names.lookup y = some .local) && (py.line == px.line) && ([x, y].eraseDups.length == 2) && noStarE a && noStarE b && !([a, b].all (foldedForSure 8)) && !([a, b].all (constantsAlone 8))
  | [.Name x px, .Name y py, .Name z pz], [a, b, c] => eqFn sc && decide (sc.names.lookup x = some .local) && decide (sc.names.lookup y = some .local) && decide (sc.names.lookup z = some .local) && (py.line == px.line) && (pz.line == px.line) && ([x, y, z].eraseDups.length == 3) && noStarE a && noStarE b && noStarE c && !([a, b, c].all (foldedForSure 8)) && !([a, b, c].all (constantsAlone 8))
  | _, _ => false
def notTup : Expr → Bool
  | .Tuple .. => false
  | _ => true
section
variable (T : Tab) (N : List Str)
def chkNm (sc : Scope) : Option Nat → Option Str → Bool
  | none, none => true
  | some i, some y => decide (N[i]? = some y) && decide (sc.names.lookup y = some .local)
  | _, _ => false
def fldOf (cls : List Nat) : Option Str := match cls with
  | [k] => match T.exs[k]? with
    | some (_, f) => f
    | none => none
  | _ => none
def chkSuite (h : Hd) (n : Option Str) : List Stmt → Bool
  | [.Return (some e) _] => match h.k with
    | .ret x => litsOk x && chkHX n (fldOf T h.cls) x e
    | _ => false
  | [.Pass _] => match h.k with
    | .pass => true
    | _ => false
  | [.Continue _] => match h.k with
    | .cont => true
    | _ => false
  | _ => false
def chkHd (sc : Scope) (h : Hd) : ExceptHandler → Bool
  | .ExceptHandler (some (.Name x _)) n bs _ => match T.exs.findIdx? fun z => z.1 == x with
    | some j => decide (h.cls = T.subs.getD j []) && globB sc x && chkNm N sc h.nm n && chkSuite T h n bs
    | none => false
  | _ => false
def chkHds (sc : Scope) : List Hd → List ExceptHandler → Bool
  | [], [] => true
  | h :: hs, e :: es => chkHd T N sc h e && chkHds sc hs es
  | _, _ => false
mutual
def chkS : S → Scope → Stmt → Bool
  | .asg (.nm i) c, sc, .Assign [.Name x px] e p => decide (N[i]? = some x) && locB sc x && chkE T N c sc e && (notComp e || decide (sc.names.lookup x = some .cell) || (eqFn sc && decide (sc.names.lookup x = some .local) && lcB c && swLc sc x px e))
  | .asg (.tp [.nm i, .nm j]) (.tup es), sc, .Assign [.Tuple [.Name x px, .Name y py] kt pt] (.Tuple [a, b] k2 pt2) p => decide (N[i]? = some x) && decide (N[j]? = some y) && decide (i ≠ j) && locB sc x && locB sc y && chkEs T N es sc [a, b] && ([a, b].all (foldedForSure 8) || !(decide (sc.names.lookup x = some .local) && decide (sc.names.lookup y = some .local)) || parOk sc [.Name x px, .Name y py] [a, b])
  | .asg (.tp [.nm i, .nm j, .nm k]) (.tup es), sc, .Assign [.Tuple [.Name x px, .Name y py, .Name z pz] kt pt] (.Tuple [a, b, c] k2 pt2) p => decide (N[i]? = some x) && decide (N[j]? = some y) && decide (N[k]? = some z) && decide (i ≠ j) && decide (i ≠ k) && decide (j ≠ k) && locB sc x && locB sc y && locB sc z && chkEs T N es sc [a, b, c] && ([a, b, c].all (foldedForSure 8) || parOk sc [.Name x px, .Name y py, .Name z pz] [a, b, c])
  | .asg (.tp ts) c, sc, .Assign [.Tuple es kt pt] e p => chkTGs N (fun _ => true) ts sc es && chkE T N c sc e && notTup e
  | .aug i op c, sc, .AugAssign (.Name x px) o e p => decide (o = opOf op) && decide (N[i]? = some x) && locB sc x && chkE T N c sc e
  | .ex c, sc, .Expr e p => notComp e && chkE T N c sc e
  | .ret c, sc, .Return (some e) p => chkE T N c sc e
  | .retN, sc, .Return none p => true
  | .ifs c a b, sc, .If e as bs p => chkE T N c sc e && chkSs a sc as && chkSs b sc bs
  | .for_ t it b, sc, .For tg e body [] p => chkTG N (fun _ => true) t sc tg && chkIt T N it sc tg e && chkSs b sc body
  | .while_ c b, sc, .While e body [] p => chkE T N c sc e && chkSs b sc body
  | .brk, _, .Break _ => true
  | .cont, _, .Continue _ => true
  | .pass, _, .Pass _ => true
  | .dead, _, _ => true
  | .raise k [], sc, .Raise (some (.Call (.Name x p) [.Constant (.str m) j p2] [] cpos)) none pos => decide (T.exs[k]? = some (x, none)) && globB sc x
  | .raise k [c], sc, .Raise (some (.Call (.Name x p) [e] [] cpos)) none pos => (match T.exs[k]? with | some (y, some _) => decide (y = x) | _ => false) && globB sc x && chkE T N c sc e
  | .try_ b hs, sc, .Try body hds [] [] p => chkSs b sc body && !hds.isEmpty && chkHds T N sc hs hds
  | _, _, _ => false
def chkSs : List S → Scope → List Stmt → Bool
  | [], _, [] => true
  | s :: ss, sc, t :: ts => chkS s sc t && chkSs ss sc ts
  | _, _, _ => false
end
end


theorem sndNm {xC : Xs} {T : Tab} {N : List Str} {k : Nat} {o : Orc} {i : Nat} {c : C} {X : Cx} {W : WX} {x : Str} {px p : Pos} {e : Expr} (hN : X.N = N) (hf : X.fn = (fun _ => true)) (L : Lk X xC T k o) (tk : Takes X W)
    (h : chkS T N (.asg (.nm i) c) X.env.scope (.Assign [.Name x px] e p) = true) : PS X (.Assign [.Name x px] e p) (tS X.K xC W (evS o (.asg (.nm i) c))) := by
  obtain ⟨h1, h2⟩ := b_and h
  obtain ⟨h3, h4⟩ := b_and h1
  obtain ⟨h5, h6⟩ := b_and h3
  have hi : X.N[i]? = some x := by rw [hN]; exact of_decide_eq_true h5
  rw [Bool.or_eq_true, Bool.or_eq_true] at h2
  rcases h2 with (h2 | h2) | h2
  · exact s_set L.nd hi (locB_loc h6) (sndE c hN L tk h4) (sw_not h2 _ _ _) (.inl (by rw [hf]))
  · exact s_set L.nd hi (locB_loc h6) (sndE c hN L tk h4) (sw_cell (of_decide_eq_true h2)) (.inl (by rw [hf]))
  · obtain ⟨k1, k2⟩ := b_and h2
    obtain ⟨k3, k4⟩ := b_and k1
    obtain ⟨k5, k6⟩ := b_and k3
    cases c with
    | lc own vs tg it cond elt =>
      cases e with
      | ListComp elt' gs scope p' =>
        match gs, h4, k2 with
        | [⟨tg', it', ifs, 0⟩], h, k2 =>
          obtain ⟨q1, q2⟩ := b_and k2
          have hsw := sw_true (elt := elt') (gs := [⟨tg', it', ifs, 0⟩]) (l := p.line) (env := X.env) (eqFn_of k5) (of_decide_eq_true k6) q1 (by simpa using q2)
          obtain ⟨h1, h2⟩ := b_and h
          obtain ⟨h3, h4⟩ := b_and h1
          obtain ⟨h5, h6⟩ := b_and h3
          obtain ⟨h7, h8⟩ := b_and h5
          obtain ⟨h9, h10⟩ := b_and h7
          have hsl : ∀ i ∈ slots tg, i ∈ (ownOf N vs).map (·.2) := fun i hi => by
            rw [ownOf_snd]
            have := List.all_eq_true.mp h6 i hi
            simpa using this
          have ok : BlkOk X.N X.env.scope scope (ownOf N vs) := by rw [hN]; exact blkOk_by h10
          have hit := sndIt it hN L tk h9 (W := W)
          have hfold := sndFold it h9 (T := T) (N := N) (env := X.env)
          have key := s_setLc (W := W) own tg L.calm L.nd hi (of_decide_eq_true k6) hsw hit ok hsl
            (fun s H C cl fp => sndTG (X := X.blk s H scope (compEnvC scope cl C X.env) fp) (fn := blkFn scope) hN L.calm L.nd rfl tg tg' h8)
            (fun s H C cl fp => sndCond cond (X := X.blk s H scope (compEnvC scope cl C X.env) fp) hN (L.block s H scope _ fp) takes_none5 h4)
            (fun s H C cl fp => sndE elt (X := X.blk s H scope (compEnvC scope cl C X.env) fp) hN (L.block s H scope _ fp) takes_none5 h2) hfold
          rw [ownOf_snd] at key
          exact key
      | _ => exact b_no h4
    | _ => exact b_no k4
theorem sndTp {xC : Xs} {T : Tab} {N : List Str} {k : Nat} {o : Orc} {ts : List TG} {c : C} {X : Cx} {W : WX} {st : Stmt} (hN : X.N = N) (hf : X.fn = (fun _ => true)) (L : Lk X xC T k o) (tk : Takes X W)
    (h : chkS T N (.asg (.tp ts) c) X.env.scope st = true) : PS X st (tS X.K xC W (evS o (.asg (.tp ts) c))) := by
  unfold chkS at h
  split at h
  case h_2 i j es x px y py kt pt a b k2 pt2 p heq =>
    cases heq
    obtain ⟨h, h2⟩ := b_and h
    obtain ⟨h, he⟩ := b_and h
    obtain ⟨h, ly⟩ := b_and h
    obtain ⟨h, lx⟩ := b_and h
    obtain ⟨h, hij⟩ := b_and h
    obtain ⟨hi, hj⟩ := b_and h
    have hi : X.N[i]? = some x := by rw [hN]; exact of_decide_eq_true hi
    have hj : X.N[j]? = some y := by rw [hN]; exact of_decide_eq_true hj
    have hA := sndEs es hN L tk he (W := W)
    rw [Bool.or_eq_true, Bool.or_eq_true] at h2
    have h3 : ([a, b].all (foldedForSure 8) = true ∨ (!(decide (X.env.scope.names.lookup x = some .local) && decide (X.env.scope.names.lookup y = some .local))) = true) ∨ parOk X.env.scope [.Name x px, .Name y py] [a, b] = true := h2
    rcases h3 with h2 | h2
    · have hg : PG X (.Tuple [.Name x px, .Name y py] kt pt) (gT X.K (.tp [.nm i, .nm j])) := sndTG (N := N) (fn := fun _ => true) hN L.calm L.nd hf (.tp [.nm i, .nm j]) _ (by
        show chkTGs N (fun _ => true) [.nm i, .nm j] X.env.scope [.Name x px, .Name y py] = true
        simp only [chkTGs, chkTG, lx, ly, Bool.true_or, Bool.and_true]
        rw [← hN, hi, hj]
        simp)
      rcases h2 with h2 | h2
      · exact s_asg (e_tup hA) hg (sw_tup _ _ _ _ _ _) (sw_folded h2) rfl
      · exact s_asg (e_tup hA) hg (sw_tup _ _ _ _ _ _) (sw_cell2 (b_not h2)) rfl
    · have h2 : (eqFn X.env.scope && decide (X.env.scope.names.lookup x = some .local) && decide (X.env.scope.names.lookup y = some .local) && (py.line == px.line) && ([x, y].eraseDups.length == 2) && noStarE a && noStarE b && !([a, b].all (foldedForSure 8)) && !([a, b].all (constantsAlone 8))) = true := h2
      obtain ⟨h2, q9⟩ := b_and h2
      obtain ⟨h2, q8⟩ := b_and h2
      obtain ⟨h2, q7⟩ := b_and h2
      obtain ⟨h2, q6⟩ := b_and h2
      obtain ⟨h2, q5⟩ := b_and h2
      obtain ⟨h2, q4⟩ := b_and h2
      obtain ⟨h2, q3⟩ := b_and h2
      obtain ⟨q1, q2⟩ := b_and h2
      exact s_par L.calm L.nd hi hj (of_decide_eq_true hij) (of_decide_eq_true q2) (of_decide_eq_true q3) hA
        (sw_par2 (eqFn_of q1) (of_decide_eq_true q2) (of_decide_eq_true q3) q4 q5 q6 q7 (b_not q8) (b_not q9))
  case h_3 i j k' es x px y py z pz kt pt a b c k2 pt2 p heq =>
    cases heq
    obtain ⟨h, h2⟩ := b_and h
    obtain ⟨h, he⟩ := b_and h
    obtain ⟨h, lz⟩ := b_and h
    obtain ⟨h, ly⟩ := b_and h
    obtain ⟨h, lx⟩ := b_and h
    obtain ⟨h, hjk⟩ := b_and h
    obtain ⟨h, hik⟩ := b_and h
    obtain ⟨h, hij⟩ := b_and h
    obtain ⟨h, hk⟩ := b_and h
    obtain ⟨hi, hj⟩ := b_and h
    have hi : X.N[i]? = some x := by rw [hN]; exact of_decide_eq_true hi
    have hj : X.N[j]? = some y := by rw [hN]; exact of_decide_eq_true hj
    have hk : X.N[k']? = some z := by rw [hN]; exact of_decide_eq_true hk
    have hA := sndEs es hN L tk he (W := W)
    rw [Bool.or_eq_true] at h2
    rcases h2 with h2 | h2
    · have hg : PG X (.Tuple [.Name x px, .Name y py, .Name z pz] kt pt) (gT X.K (.tp [.nm i, .nm j, .nm k'])) := sndTG (N := N) (fn := fun _ => true) hN L.calm L.nd hf (.tp [.nm i, .nm j, .nm k']) _ (by
        show chkTGs N (fun _ => true) [.nm i, .nm j, .nm k'] X.env.scope [.Name x px, .Name y py, .Name z pz] = true
        simp only [chkTGs, chkTG, lx, ly, lz, Bool.true_or, Bool.and_true]
        rw [← hN, hi, hj, hk]
        simp)
      exact s_asg (e_tup hA) hg (sw_tup _ _ _ _ _ _) (sw_folded h2) rfl
    · have h2 : (eqFn X.env.scope && decide (X.env.scope.names.lookup x = some .local) && decide (X.env.scope.names.lookup y = some .local) && decide (X.env.scope.names.lookup z = some .local) && (py.line == px.line) && (pz.line == px.line) && ([x, y, z].eraseDups.length == 3) && noStarE a && noStarE b && noStarE c && !([a, b, c].all (foldedForSure 8)) && !([a, b, c].all (constantsAlone 8))) = true := h2
      obtain ⟨h2, q12⟩ := b_and h2
      obtain ⟨h2, q11⟩ := b_and h2
      obtain ⟨h2, q10⟩ := b_and h2
      obtain ⟨h2, q9⟩ := b_and h2
      obtain ⟨h2, q8⟩ := b_and h2
      obtain ⟨h2, q7⟩ := b_and h2
      obtain ⟨h2, q6⟩ := b_and h2
      obtain ⟨h2, q5⟩ := b_and h2
      obtain ⟨h2, q4⟩ := b_and h2
      obtain ⟨h2, q3⟩ := b_and h2
      obtain ⟨q1, q2⟩ := b_and h2
      exact s_par3 L.calm L.nd hi hj hk (of_decide_eq_true hij) (of_decide_eq_true hik) (of_decide_eq_true hjk) (of_decide_eq_true q2) (of_decide_eq_true q3) (of_decide_eq_true q4) hA
        (sw_par3 (eqFn_of q1) (of_decide_eq_true q2) (of_decide_eq_true q3) (of_decide_eq_true q4) q5 q6 q7 q8 q9 q10 (b_not q11) (b_not q12))
  case h_4 ts' c' es kt pt e p hn1 hn2 heq =>
    cases heq
    obtain ⟨h, h2⟩ := b_and h
    obtain ⟨h, he⟩ := b_and h
    have hg : PG X (.Tuple es kt pt) (gT X.K (.tp ts)) := sndTG (N := N) (fn := fun _ => true) hN L.calm L.nd hf (.tp ts) _ h
    exact s_asg (sndE c hN L tk he) hg (sw_tup _ _ _ _ _ _) (sw_other fun vs k p z => by rw [z] at h2; exact b_no h2) rfl
  all_goals first | (exact b_no h) | (rename_i heq; cases heq)
theorem evRaise {o : Orc} {k : Nat} {c : C} : evS o (.raise k [c]) = fun ρ S => (evE o c ρ S).toS ρ fun v S1 => if xOk v then .exc k [v] ρ S1 else .bad := by
  funext ρ S
  show (evEs o [c] ρ S).toS ρ _ = _
  show ((evE o c ρ S).bind fun v S1 => .ok [v] S1).toS ρ _ = _
  cases evE o c ρ S with
  | ok v S1 =>
    show (if [v].all xOk then _ else _) = _
    rw [show [v].all xOk = xOk v from by simp]
    rfl
  | exc _ _ _ => rfl
  | bad => rfl
theorem sndRaise {xC : Xs} {T : Tab} {N : List Str} {k : Nat} {o : Orc} {j : Nat} {es : List C} {X : Cx} {W : WX} {st : Stmt} (hN : X.N = N) (L : Lk X xC T k o) (tk : Takes X W)
    (h : chkS T N (.raise j es) X.env.scope st = true) : PS X st (tS X.K xC W (evS o (.raise j es))) := by
  unfold chkS at h
  split at h
  case h_16 i x p m j' p2 cpos pos heq =>
    cases heq
    obtain ⟨h1, h2⟩ := b_and h
    have hj := of_decide_eq_true h1
    obtain ⟨e1, e2, e3⟩ := L.ex j x none hj
    have hlt : j < xC.n := by rw [L.xn]; exact (List.getElem?_eq_some_iff.mp hj).1
    exact s_raise hlt rfl L.calm tk (e1.plain rfl) e1.at_ e1.keep e3 (globB_gl h2).1 (globB_gl h2).2
  case h_17 i c x p e cpos pos heq =>
    cases heq
    obtain ⟨h, h3⟩ := b_and h
    obtain ⟨h1, h2⟩ := b_and h
    rw [evRaise]
    split at h1
    case h_1 y f hj =>
      have := of_decide_eq_true h1
      subst this
      obtain ⟨e1, e2, e3⟩ := L.ex j y (some f) hj
      have hlt : j < xC.n := by rw [L.xn]; exact (List.getElem?_eq_some_iff.mp hj).1
      obtain ⟨q1, q2, q3, fI, fd, pr, q4, q5, q6, q7⟩ := e1.own f rfl
      exact s_raiseA hlt rfl e2 L.calm tk q1 q4 q5 q6 (L.room.mono L.two) q7 (globB_gl h2).1 e1.at_ (globB_gl h2).2 (sndE c hN L tk h3) (chk_star h3 [] _)
    all_goals exact b_no h1
  all_goals first | (exact b_no h) | (rename_i heq; cases heq)
theorem sndHds {xC : Xs} {T : Tab} {N : List Str} {k : Nat} {o : Orc} {X : Cx} (hN : X.N = N) (L : Lk X xC T k o) : ∀ (hs : List Hd) (hds : List ExceptHandler), chkHds T N X.env.scope hs hds = true → HsC X xC hs hds
  | [], [], _ => .nil
  | [], _ :: _, h => b_no h
  | _ :: _, [], h => b_no h
  | h :: hs, e :: es, hc => by
    obtain ⟨h1, h2⟩ := b_and hc
    have r := sndHds hN L hs es h2
    unfold chkHd at h1
    split at h1
    case h_2 => exact b_no h1
    case h_1 x np n bs q =>
      split at h1
      case h_2 => exact b_no h1
      case h_1 j hj =>
        obtain ⟨h1, c4⟩ := b_and h1
        obtain ⟨h1, c3⟩ := b_and h1
        obtain ⟨c1, c2⟩ := b_and h1
        have hcls := of_decide_eq_true c1
        obtain ⟨hjl, hjx, _⟩ := List.findIdx?_eq_some_iff_getElem.mp hj
        have hjx : (T.exs[j]).1 = x := by simpa using hjx
        have hje : T.exs[j]? = some (x, (T.exs[j]).2) := by rw [List.getElem?_eq_getElem hjl, ← hjx]
        obtain ⟨e1, e2, e3⟩ := L.ex j x _ hje
        have hlt : j < xC.n := by rw [L.xn]; exact hjl
        refine .cons (j := j) ⟨(globB_gl c2).1, (globB_gl c2).2, .inl e1.at_⟩ (fun i hi => by rw [L.exm i j hi hlt, hcls]) ?_ ?_ r
        · cases hm : h.nm with
          | none =>
            cases n with
            | none => exact True.intro
            | some y => rw [hm] at c3; exact b_no c3
          | some i =>
            cases n with
            | none => rw [hm] at c3; exact b_no c3
            | some y =>
              rw [hm] at c3
              obtain ⟨k1, k2⟩ := b_and c3
              exact ⟨by rw [hN]; exact of_decide_eq_true k1, of_decide_eq_true k2⟩
        · have hF : FldOk X.K xC h (fldOf T h.cls) := fun y hy c hcc => by
            unfold fldOf at hy
            split at hy
            · rename_i k' hk'
              rw [hk'] at hcc
              have : c = k' := by simpa using hcc
              subst this
              split at hy
              · rename_i z f hz
                subst hy
                obtain ⟨z1, z2, _⟩ := L.ex c z (some y) hz
                obtain ⟨_, w2, w3, _⟩ := z1.own y rfl
                exact ⟨z2, w2, w3⟩
              · cases hy
            · cases hy
          have hnm : ∀ y, n = some y → ∃ i, h.nm = some i ∧ X.N[i]? = some y ∧ X.env.kindOf y = some .local := fun y hy => by
            subst hy
            unfold chkNm at c3
            split at c3
            · rename_i heq; cases heq
            · rename_i i z h3 heq
              cases heq
              obtain ⟨k1, k2⟩ := b_and c3
              exact ⟨i, h3, by rw [hN]; exact of_decide_eq_true k1, of_decide_eq_true k2⟩
            · exact b_no c3
          unfold chkSuite at c4
          unfold suiteOk
          split at c4
          · split at c4
            · rename_i hk
              rw [hk]
              obtain ⟨l1, l2⟩ := b_and c4
              exact ⟨_, _, rfl, l1, fun a oe cls d pn hz hf => sndHX hz hf hF hnm _ _ l2⟩
            · exact b_no c4
          · split at c4
            · rename_i hk
              rw [hk]
              exact ⟨_, rfl⟩
            · exact b_no c4
          · split at c4
            · rename_i hk
              rw [hk]
              exact ⟨_, rfl⟩
            · exact b_no c4
          · exact b_no c4
theorem Lk.tr {X : Cx} {xC : Xs} {T : Tab} {k : Nat} {o : Orc} (L : Lk X xC T k o) (pn : List (Addr × Obj)) (xe : Value → Shared → Prop) : Lk (X.tr pn xe) xC T k o :=
  ⟨L.calm, L.nd, L.room, L.fn, L.gl, L.bl, L.ex, L.xn, L.exm, L.two⟩
/-- a def's body: what leaves it, its frame -/
structure HP (X : Cx) : Prop where
  po : PassesOwn (model X.prog X.w) X.A X.env X.xe
  st : X.stack = X.env :: X.outer
  fr : X.env.frame = some X.env.locals
mutual
theorem sndS {xC : Xs} {T : Tab} {N : List Str} {k : Nat} {o : Orc} : ∀ (s : S) {X : Cx} {W : WX} {st : Stmt}, X.N = N → X.fn = (fun _ => true) → Lk X xC T k o → Takes X W → HP X → chkS T N s X.env.scope st = true → PS X st (tS X.K xC W (evS o s))
  | .asg (.nm i) c, X, W, st, hN, hf, L, tk, hp, h => by
    cases st with
    | Assign ts e p =>
      rcases ts with _ | ⟨t, _ | ⟨t2, ts⟩⟩
      · exact b_no h
      · cases t with
        | Name x px => exact sndNm hN hf L tk h
        | _ => exact b_no h
      · exact b_no (by cases t <;> exact h)
    | _ => exact b_no h
  | .asg (.tp ts) c, X, W, st, hN, hf, L, tk, hp, h => sndTp hN hf L tk h
  | .aug i op c, X, W, st, hN, hf, L, tk, hp, h => by
    cases st with
    | AugAssign tg o' e p =>
      cases tg with
      | Name x px =>
        obtain ⟨h1, h2⟩ := b_and h
        obtain ⟨h3, h4⟩ := b_and h1
        obtain ⟨h5, h6⟩ := b_and h3
        have := of_decide_eq_true h5
        subst this
        exact s_aug op L.nd (by rw [hN]; exact of_decide_eq_true h6) (locB_loc h4) (sndE c hN L tk h2) (.inl (by rw [hf]))
      | _ => exact b_no h
    | _ => exact b_no h
  | .ex c, X, W, st, hN, hf, L, tk, hp, h => by
    cases st with
    | Expr e p =>
      obtain ⟨h1, h2⟩ := b_and h
      exact s_ex (sndE c hN L tk h2) (sw_not h1 _ _ _)
    | _ => exact b_no h
  | .ret c, X, W, st, hN, hf, L, tk, hp, h => by
    cases st with
    | Return v p =>
      cases v with
      | some e => exact s_ret (sndE c hN L tk h)
      | none => exact b_no h
    | _ => exact b_no h
  | .retN, X, W, st, hN, hf, L, tk, hp, h => by
    cases st with
    | Return v p =>
      cases v with
      | some e => exact b_no h
      | none => exact s_retN
    | _ => exact b_no h
  | .ifs c a b, X, W, st, hN, hf, L, tk, hp, h => by
    cases st with
    | If e as bs p =>
      obtain ⟨h1, h2⟩ := b_and h
      obtain ⟨h3, h4⟩ := b_and h1
      exact s_if (sndT c hN L tk h3) (sndSs a hN hf L tk hp h4) (sndSs b hN hf L tk hp h2)
    | _ => exact b_no h
  | .for_ t it b, X, W, st, hN, hf, L, tk, hp, h => by
    cases st with
    | For tg e body els p =>
      cases els with
      | nil =>
        obtain ⟨h1, h2⟩ := b_and h
        obtain ⟨h3, h4⟩ := b_and h1
        exact s_for hp.po L.calm (sndIt it hN L tk h4) (sndTG hN L.calm L.nd hf t tg h3) (sndSs b hN hf L tk hp h2) (sndFold it h4)
      | cons _ _ => exact b_no h
    | _ => exact b_no h
  | .while_ c b, X, W, st, hN, hf, L, tk, hp, h => by
    cases st with
    | While e body els p =>
      cases els with
      | nil =>
        obtain ⟨h1, h2⟩ := b_and h
        exact s_while o.fuel hp.po (sndT c hN L tk h1) (sndSs b hN hf L tk hp h2)
      | cons _ _ => exact b_no h
    | _ => exact b_no h
  | .brk, X, W, st, hN, hf, L, tk, hp, h => by
    cases st with
    | Break p => exact s_brk
    | _ => exact b_no h
  | .cont, X, W, st, hN, hf, L, tk, hp, h => by
    cases st with
    | Continue p => exact s_cont
    | _ => exact b_no h
  | .pass, X, W, st, hN, hf, L, tk, hp, h => by
    cases st with
    | Pass p => exact s_pass
    | _ => exact b_no h
  | .raise j es, X, W, st, hN, hf, L, tk, hp, h => sndRaise hN L tk h
  | .try_ b hs, X, W, st, hN, hf, L, tk, hp, h => by
    cases st with
    | Try body hds els fin p =>
      cases els with
      | cons _ _ => exact b_no h
      | nil =>
        cases fin with
        | cons _ _ => exact b_no h
        | nil =>
          obtain ⟨h1, h3⟩ := b_and h
          obtain ⟨h4, h5⟩ := b_and h1
          cases hds with
          | nil => exact b_no h5
          | cons h0 hds => exact s_try hp.st hp.fr L.nd tk (fun W' pn xe tk' po => sndSs b (X := X.tr pn xe) hN hf (L.tr pn xe) tk' ⟨po, hp.st, hp.fr⟩ h4) (sndHds hN L hs (h0 :: hds) h3)
    | _ => exact b_no h
  | .dead, X, W, st, hN, hf, L, tk, hp, h => ⟨fun pins s σ H D I ⟨ρ, S, m, G, q⟩ => q.elim⟩
  termination_by s => sizeOf s
theorem sndSs {xC : Xs} {T : Tab} {N : List Str} {k : Nat} {o : Orc} : ∀ (ss : List S) {X : Cx} {W : WX} {sts : List Stmt}, X.N = N → X.fn = (fun _ => true) → Lk X xC T k o → Takes X W → HP X → chkSs T N ss X.env.scope sts = true → PSs X sts (tS X.K xC W (evSs o ss))
  | [], X, W, sts, hN, hf, L, tk, hp, h => by
    cases sts with
    | nil => exact ss_nil
    | cons _ _ => exact b_no h
  | s :: ss, X, W, sts, hN, hf, L, tk, hp, h => by
    cases sts with
    | nil => exact b_no h
    | cons t ts =>
      obtain ⟨h1, h2⟩ := b_and h
      exact ss_cons (sndS s hN hf L tk hp h1) (sndSs ss hN hf L tk hp h2)
  termination_by ss => sizeOf ss
end
end MK

set_option linter.all false
set_option autoImplicit false
set_option Elab.async false
set_option maxRecDepth 100000
set_option maxHeartbeats 8000000
/-! MkDef: defs, by how deep they call; the law. -/
namespace MK
open PySem PySem.Spec PyProof.Rows L2

section
variable {K : PySem.W.Frag} {m m' m0 : Mp} {n n0 n' : Nat} {H H' H0 : Hp} {S S0 : Store}
mutual
theorem VR.low : ∀ {x : PV} {v : V}, VR K m n H x v → x.under n = true
  | _, _, .non => rfl
  | _, _, .bl b => rfl
  | _, _, .int i => rfl
  | _, _, .str s h => rfl
  | _, _, .tup h r => by show PV.underAll n _ = true; exact VRs.low r
  | _, _, .lst h r => by show PV.underAll n _ = true; exact VRs.low r
  | _, _, .ref h => decide_eq_true h
  | _, _, .ty t => rfl
theorem VRs.low : ∀ {x : List PV} {v : List V}, VRs K m n H x v → PV.underAll n x = true
  | _, _, .nil => rfl
  | _, _, .cons r t => by show (PV.under n _ && PV.underAll n _) = true; rw [VR.low r, VRs.low t]; rfl
end
mutual
theorem VR.crop : ∀ {x : PV} {v : V}, x.under n0 = true → VR K m n H x v → VR K m n0 H x v
  | _, _, _, .non => .non
  | _, _, _, .bl b => .bl b
  | _, _, _, .int i => .int i
  | _, _, _, .str s h => .str s h
  | _, _, u, .tup h r => .tup h (VRs.crop u r)
  | _, _, u, .lst h r => .lst h (VRs.crop u r)
  | _, _, u, .ref h => .ref (of_decide_eq_true u)
  | _, _, _, .ty t => .ty t
theorem VRs.crop : ∀ {x : List PV} {v : List V}, PV.underAll n0 x = true → VRs K m n H x v → VRs K m n0 H x v
  | _, _, _, .nil => .nil
  | _, _, u, .cons r t => by
    obtain ⟨u1, u2⟩ := b_and u
    exact .cons (VR.crop u1 r) (VRs.crop u2 t)
end
/-- what was new is forgotten, and changed no more -/
def old (m m0 : Mp) : Mp := ⟨m.at_, m0.Z⟩
theorem Ext.crop (ex : Ext m0 n0 H0 m n H) : Ext m0 n0 H0 (old m m0) n0 H := ⟨ex.z0, Nat.le_refl _, ex.emb, ex.keep, fun _ h => h, fun _ h k => absurd h k, fun k h1 h2 => absurd (Nat.lt_of_lt_of_le h2 h1) (Nat.lt_irrefl _)⟩
theorem frzL_ok {f : PV → Option PV} (hf : ∀ (x y : PV) (v : V), f x = some y → VR K m n H x v → VR K m0 n0 H y v) : ∀ (xs ys : List PV) (vs : List V), frzL f xs = some ys → VRs K m n H xs vs → VRs K m0 n0 H ys vs
  | [], ys, vs, h, r => by cases r; cases h; exact .nil
  | x :: xs, ys, vs, h, r => by
    cases r with
    | cons r1 r2 =>
      have h : (match f x, frzL f xs with | some y, some ys => some (y :: ys) | _, _ => none) = some ys := h
      split at h
      · rename_i y ys' h1 h2
        cases h
        exact .cons (hf _ _ _ h1 r1) (frzL_ok hf xs _ _ h2 r2)
      · cases h
theorem frz_ok (ex : Ext m0 n0 H0 m S.length H) (st : StoreR K S m H) : ∀ (d : Nat) (x y : PV) (v : V), frz S n0 d x = some y → VR K m S.length H x v → VR K (old m m0) n0 H y v
  | 0, x, y, v, h, r => by
    cases r with
    | non => cases h; exact .non
    | bl b => cases h; exact .bl b
    | int i => cases h; exact .int i
    | str s hs => cases h; exact .str s hs
    | ty t => cases h; exact .ty t
    | tup hq rs => cases h
    | lst hq rs => cases h
    | ref hk => cases h
  | d + 1, x, y, v, h, r => by
    cases r with
    | non => cases h; exact .non
    | bl b => cases h; exact .bl b
    | int i => cases h; exact .int i
    | str s hs => cases h; exact .str s hs
    | ty t => cases h; exact .ty t
    | tup hq rs =>
      obtain ⟨zs, hz, rfl⟩ := Option.map_eq_some_iff.mp (show (frzL (frz S n0 d) _).map PV.tup = some y from h)
      exact .tup hq (frzL_ok (frz_ok ex st d) _ _ _ hz rs)
    | lst hq rs =>
      obtain ⟨zs, hz, rfl⟩ := Option.map_eq_some_iff.mp (show (frzL (frz S n0 d) _).map PV.lst = some y from h)
      exact .lst (hq.imp (fun q => ⟨q.1, fun z => q.2 (ex.sub _ z)⟩) id) (frzL_ok (frz_ok ex st d) _ _ _ hz rs)
    | @ref k hk =>
      have h : (if k < n0 then some (PV.ref k) else match S[k]? with | some (.lst xs) => (frzL (frz S n0 d) xs).map .lst | _ => none) = some y := h
      split at h
      · rename_i hlt
        cases h
        exact .ref (m := old m m0) hlt
      · rename_i hge
        split at h
        · rename_i xs hx
          obtain ⟨zs, hz, rfl⟩ := Option.map_eq_some_iff.mp h
          obtain ⟨vs, e, rs⟩ := st.cell k _ hx
          exact .lst (.inl ⟨.inl e, (ex.new k (Nat.le_of_not_lt hge) hk).1⟩) (frzL_ok (frz_ok ex st d) _ _ _ hz rs)
        · cases h
theorem StoreR.cut (st0 : StoreR K S0 m0 H0) (st : StoreR K S m H) (ex : Ext m0 S0.length H0 m S.length H) (h : S.take S0.length = S0) : StoreR K S0 (old m m0) H where
  inj := fun j k hj hk e => st.inj j k (Nat.lt_of_lt_of_le hj ex.le) (Nat.lt_of_lt_of_le hk ex.le) e
  cell := fun k c hc => by
    have hk : k < S0.length := (List.getElem?_eq_some_iff.mp hc).1
    have hc2 : S[k]? = Option.some c := by
      have : (S.take S0.length)[k]? = Option.some c := by rw [h]; exact hc
      rw [List.getElem?_take] at this
      rwa [if_pos hk] at this
    have q := st.cell k c hc2
    have q0 := st0.cell k c hc
    cases c with
    | lst xs =>
      obtain ⟨vs, e, r⟩ := q
      obtain ⟨vs0, e0, r0⟩ := q0
      exact ⟨vs, e, VRs.re (m := m) (m' := old m m0) (Nat.le_refl _) (fun _ _ => rfl) (fun (a : Addr) (z : m0.Z a) => ex.sub a z) (VRs.crop (VRs.low r0) r)⟩
    | ins c fs => exact q.elim
  inZ := fun k hk => by show m0.Z (m.at_ k); rw [ex.emb k hk]; exact ex.z0 k hk
  kind := fun a z => st.kind a (ex.sub a z)
end

section
variable {K : PySem.W.Frag} {xC : Xs}
/-- a def's end -/
theorem fin_ok {trunc : Bool} {m : Mp} {S : Store} {H : Hp} {σ : L2.St} {Q : VK} {E : XK} (st : StoreR K S m H) : ∀ {o : SOut},
    OP K xC (fun c d _ H' => E c d H') σ m S H (fun v S' m' H' => ∀ x, VR K m' S'.length H' v x → Q x H') (fin trunc S o) →
    OS K xC (fun c d _ H' => E c d H') m S H { nx := fun _ H' => Q .non H', rt := Q } o := by
  have key : ∀ (v : PV) (S' : Store), OP K xC (fun c d _ H' => E c d H') σ m S H (fun v S' m' H' => ∀ x, VR K m' S'.length H' v x → Q x H') (close trunc S v S') →
      ∀ m' H', Ext m S.length H m' S'.length H' → StoreR K S' m' H' → ∀ x, VR K m' S'.length H' v x → Q x H' := by
    intro v S' h m' H' ex s' x r
    unfold close at h
    cases trunc with
    | false => exact h m' H' ex s' x r
    | true =>
      simp only [if_true] at h
      split at h
      · rename_i v' hv
        split at h
        · rename_i h2
          exact h _ H' ex.crop (StoreR.cut st s' ex h2) x (frz_ok ex s' 60 _ _ _ hv r)
        · exact h.elim
      · exact h.elim
  intro o h
  cases o with
  | ret v S' => exact key v S' h
  | next ρ' S' => exact fun m' H' σ' ex g => key .non S' h m' H' ex g.st _ .non
  | brk ρ' S' => exact h.elim
  | cont ρ' S' => exact h.elim
  | exc c as ρ' S' =>
    intro m' H' σ' ex g
    cases trunc with
    | false => exact h m' H' ex g.st
    | true =>
      have h : OP K xC (fun c d _ H' => E c d H') σ m S H (fun v S' m' H' => ∀ x, VR K m' S'.length H' v x → Q x H') (if S'.take S.length = S then .exc c as S else .bad) := h
      split at h
      · rename_i h2
        exact h _ H' ex.crop (StoreR.cut st g.st ex h2)
      · exact h.elim
  | bad => exact h.elim
end

/-- a def of the program: its name, its text, all its names, its core -/
structure Def where
  x : Str
  st : Stmt
  N : List Str
  F : Fn
structure DefOk (T : Tab) (d : Def) : Prop where
  sc : FnScope d.N (d.N.take d.F.np) (defScope d.st)
  np : d.F.np ≤ d.N.length
  nl : d.F.nl = d.N.length
  bind : ∀ (kV doc pm : Value) (an : Option Addr) (cdv ct : Value) (us : List Value), us.length = (d.N.take d.F.np).length → bindArgs (PySem.W.fnOf d.x d.x (defArgs d.st) (defBody d.st) (defScope d.st) .none kV doc pm an cdv ct) ⟨us, []⟩ = pure ((d.N.take d.F.np).zip us)
  chk : chkSs T d.N d.F.body (defScope d.st) (defBody d.st) = true
structure DefIn (K : PySem.W.Frag) (d : Def) : Prop where
  ex : ∃ f fd, PySem.W.nsIn K mainGlobals d.x = some (some (.ref f)) ∧ L2.Fun K d.x d.x d.st f fd
theorem defIn_of {K : PySem.W.Frag} {d : Def} {f : Addr} {oc : Value} {od an : Option Addr} {osl : Array (Option Value)} {kV doc pm cdv ct : Value} (a : PySem.W.nsIn K mainGlobals d.x = some (some (.ref f)))
    (l : K.lookup f = some ⟨oc, od, .func (PySem.W.fnOf d.x d.x (defArgs d.st) (defBody d.st) (defScope d.st) .none kV doc pm an cdv ct), osl⟩)
    (c : PySem.W.codeIn K cdv d.x = true) (k : PySem.W.keepIn K (.ref f) = true) : DefIn K d := ⟨f, _, a, fun_mk l c k⟩

/-- what the whole program's top is known to hold -/
structure TopOk (P : Program) (w : World) (K : PySem.W.Frag) (mg : Str → Option Value) (base : Heap) (xC : Xs) (T : Tab) (defs : List Def) : Prop where
  fns : T.fns = defs.map fun d => (d.x, d.F.np)
  ok : ∀ d ∈ defs, DefOk T d ∧ ∃ f fd, mg d.x = some (.ref f) ∧ L2.Fun K d.x d.x d.st f fd
  gl : ∀ x v, (x, v) ∈ T.gls → ∃ xv u, mg x = some u ∧ RelV xv u ∧ ∀ m n H, VR K m n H v xv
  bl : ∀ x, x ∈ T.blt → mg x = none
  ex : ∀ (i : Nat) x fo, T.exs[i]? = some (x, fo) → XOk P w K mg base x fo (xC.a i) ∧ xC.f i = fo ∧ PySem.W.subIn K (.ref (xC.a i)) (.type "BaseException") = some true ∧ PySem.W.typeIn K (.ref (xC.a i)) = some (.type "type")
  xn : xC.n = T.exs.length
  exm : ∀ i j, i < xC.n → j < xC.n → PySem.W.exmOne K (.ref (xC.a i)) (.ref (xC.a j)) = some ((T.subs.getD j []).contains i)
/-- each def does what its core does, however deep it calls -/
theorem fns_ok {P : Program} {w : World} {K : PySem.W.Frag} {mg : Str → Option Value} {base : Heap} {xC : Xs} {T : Tab} {defs : List Def} (top : TopOk P w K mg base xC T defs) (fuel : Nat) : ∀ (n i : Nat) (d : Def), defs[i]? = some d → ∀ (f : Addr) (fd : FuncData), mg d.x = some (.ref f) → L2.Fun K d.x d.x d.st f fd →
    FnOk P w K mg base (L2.CX P w) (n + 2) f fd (d.N.take d.F.np) (spF K xC d.F.np (callF fuel (defs.map (·.F)) n i)) := by
  intro n
  induction n with
  | zero =>
    intro i d hd f fd hm F
    refine ⟨fun vs H Q E h => ?_, fun A outer s H args us vs Q E hr he hb hv h => ?_⟩
    · obtain ⟨us, S, m, st, r, hn, q⟩ := h
      exact q.elim
    · obtain ⟨us, S, m, st, r, hn, q⟩ := h
      exact q.elim
  | succ n ih =>
    intro i d hd f fd hm F
    obtain ⟨D, _⟩ := top.ok d (List.mem_of_getElem? hd)
    have hlen : (d.N.take d.F.np).length = d.F.np := by rw [List.length_take]; exact Nat.min_eq_left D.np
    refine F.okX D.sc (fun vs H Q E h => ?_) (fun cdv A outer s H vs Q E hr h => ?_)
    · obtain ⟨us, S, m, st, r, hn, q⟩ := h
      rw [← r.length, hn, hlen]
    · obtain ⟨us, S, m, st, r, hn, q⟩ := h
      have hvl := r.length
      let X := cxOf (L2.CX P w) P w K mg base d.N d.x (defScope d.st) f cdv A outer s H E
      have tk : Takes X (fun cls d _ H' => E cls d H') := takes_of rfl rfl rfl rfl
      have hp : HP X := ⟨passes_of rfl, rfl, rfl⟩
      have L : Lk X xC T (n + 2) ⟨fun g ws S' => callF fuel (defs.map (·.F)) n g ws S', fuel⟩ := {
        calm := rfl
        nd := D.sc.nd
        room := hr
        fn := fun g x np hg => by
          rw [top.fns, List.getElem?_map] at hg
          obtain ⟨d', hd', e⟩ := Option.map_eq_some_iff.mp hg
          cases e
          obtain ⟨D', f', fd', hm', F'⟩ := top.ok d' (List.mem_of_getElem? hd')
          exact ⟨f', fd', _, ih g d' hd' f' fd' hm' F', hm', F'.kp, F'.binds D'.bind⟩
        gl := top.gl
        bl := top.bl
        ex := fun j x fo hj => by
          obtain ⟨e1, e2, e4, e5⟩ := top.ex j x fo hj
          exact ⟨e1, e2, raises_own e4 e5⟩
        xn := top.xn
        exm := top.exm
        two := Nat.le_add_left 2 n }
      have hPS := sndSs (X := X) (N := d.N) d.F.body rfl rfl L tk hp D.chk
      refine ⟨_, hPS, MK.start d.F.nl us, S, m, ⟨⟨?_, ?_⟩, st⟩, ?_⟩
      · unfold MK.start L2.start
        rw [List.length_append, List.length_append, List.length_map, List.length_map, List.length_replicate, List.length_replicate, D.nl, ← hvl]
      · intro j v hj
        unfold MK.start at hj
        unfold L2.start
        by_cases hjl : j < us.length
        · rw [List.getElem?_append_left (by simpa using hjl), List.getElem?_map] at hj
          obtain ⟨v', hv', e⟩ := Option.map_eq_some_iff.mp hj
          cases e
          obtain ⟨x, hx, rx⟩ := r.get hv'
          refine ⟨x, ?_, rx⟩
          rw [List.getElem?_append_left (by rw [List.length_map, ← hvl]; exact hjl), List.getElem?_map, hx]
          rfl
        · rw [List.getElem?_append_right (by rw [List.length_map]; omega), List.getElem?_replicate] at hj
          split at hj
          · cases hj
          · cases hj
      · refine fin_ok (σ := []) (trunc := d.F.trunc) st ?_
        have q : OP K xC (fun c d _ H' => E c d H') [] m S H (fun v S' m' H' => ∀ x, VR K m' S'.length H' v x → Q x H') (match (defs.map (·.F))[i]? with
          | some F => if us.length = F.np then fin F.trunc S (evSs ⟨fun g ws S' => callF fuel (defs.map (·.F)) n g ws S', fuel⟩ F.body (MK.start F.nl us) S) else .bad
          | none => .bad) := q
        rw [List.getElem?_map, hd] at q
        simp only [Option.map_some, hn, if_true] at q
        exact q
end MK
namespace MK
open PySem PySem.Spec PyProof.Rows L2
theorem ints_vr {K : PySem.W.Frag} {m : Mp} {n : Nat} {H : Hp} : ∀ ns : List Int, VRs K m n H (ns.map fun z => .int z) (ns.map V.int)
  | [] => .nil
  | z :: r => .cons (.int z) (ints_vr r)
theorem law_sp {K : PySem.W.Frag} {xC : Xs} {fuel n i : Nat} {fns : List Fn} {H : Hp} {a : Addr} {ns : List Int}
    (h : ∃ S', callF fuel fns n i [.lst (ns.map fun z => .int z)] [] = .ok (.bl true) S') (hS : SqL K H a (ns.map V.int)) : spF K xC 1 (callF fuel fns n i) [.ref a] H (fun v _ => v = .bl true) fun _ _ _ => False := by
  obtain ⟨S', e⟩ := h
  refine ⟨[.lst (ns.map fun z => .int z)], [], ⟨fun _ => 0, fun _ => False⟩, ⟨fun j k hj => absurd hj (Nat.not_lt_zero _), fun k c hk => by simp at hk, fun k hk => absurd hk (Nat.not_lt_zero _), fun a z => z.elim⟩, .cons (.lst ?_ (ints_vr ns)) .nil, rfl, ?_⟩
  · rcases hS with h | h
    · exact .inl ⟨h, fun z => z⟩
    · exact .inr h
  · rw [e]
    intro m' H' ex st x r
    cases r
    rfl
end MK
namespace MK
open PySem PySem.Spec PyProof.Rows L2
/-! ### what a law's head gives -/
structure DIn (K : PySem.W.Frag) (x : Str) (st : Stmt) : Prop where
  ex : ∃ f fd, PySem.W.nsIn K mainGlobals x = some (some (.ref f)) ∧ L2.Fun K x x st f fd
theorem dIn_of {K : PySem.W.Frag} {x : Str} {st : Stmt} {f : Addr} {oc : Value} {od an : Option Addr} {osl : Array (Option Value)} {kV doc pm cdv ct : Value} (a : PySem.W.nsIn K mainGlobals x = some (some (.ref f)))
    (l : K.lookup f = some ⟨oc, od, .func (PySem.W.fnOf x x (defArgs st) (defBody st) (defScope st) .none kV doc pm an cdv ct), osl⟩)
    (c : PySem.W.codeIn K cdv x = true) (k : PySem.W.keepIn K (.ref f) = true) : DIn K x st := ⟨f, _, a, fun_mk l c k⟩
structure GIn (K : PySem.W.Frag) (x : Str) (v : PV) : Prop where
  ex : ∃ xv u, PySem.W.nsIn K mainGlobals x = some (some u) ∧ RelV xv u ∧ ∀ m n H, VR K m n H v xv
theorem gIn_int {K : PySem.W.Frag} {x : Str} {i : Int} {t : Tok} (h : PySem.W.nsIn K mainGlobals x = some (some (.int i t))) : GIn K x (.int i) := ⟨.int i, _, h, ⟨t, rfl⟩, fun _ _ _ => .int i⟩
theorem gIn_str {K : PySem.W.Frag} {x z : Str} {s : List Nat} {t : Tok} (h : PySem.W.nsIn K mainGlobals x = some (some (.str z t))) (hz : (strV s == z && okSb s) = true) : GIn K x (.str s) := by
  obtain ⟨h1, h2⟩ := b_and hz
  have := beq_iff_eq.mp h1
  subst this
  exact ⟨.str (strV s), _, h, ⟨t, rfl⟩, fun _ _ _ => .str s (okSb_ok h2)⟩
/-- the text of such an __init__'s message -/
structure MsgF (F : NdefX.NF) (p : Str) (msg : Expr) : Prop where
  shape : ∃ (pre : Str) (j : Nat) (q1 q2 q3 q4 q5 : Pos), msg = .BinOp (.Constant (.str pre) j q1) .Add (.Call (.Name "str" q2) [.Name p q3] [] q4) q5 ∧ pre.length ≤ 1000
  gl : F.scope.names.lookup ("str" : Str) = some .globalImplicit
  bind : ∀ (doc pm ctv : Value) (us : List Value), us.length = (PSl p).length → bindArgs (F.fd doc pm ctv) ⟨us, []⟩ = pure ((PSl p).zip us)
structure XIn (P : Program) (K : PySem.W.Frag) (x : Str) (fo : Option Str) (a : Addr) : Prop where
  ns : PySem.W.nsIn K mainGlobals x = some (some (.ref a))
  keep : PySem.W.keepIn K (.ref a) = true
  sub : PySem.W.subIn K (.ref a) (.type "BaseException") = some true
  typ : PySem.W.typeIn K (.ref a) = some (.type "type")
  plain : fo = none → PySem.W.excIn K a [.type "ValueError", .type "Exception", .type "BaseException", .type "object"] "ValueError.__new__" = true
  own : ∀ f, fo = some f → XfC K a ∧ PySem.W.nsIn K mainGlobals "str" = some none ∧ ∃ (fI : Addr) (F : NdefX.NF) (p : Str) (msg : Expr), SupC P K a fI F p f msg ∧ MsgF F p msg
/-- where the exception classes lie -/
def xcOf (K : PySem.W.Frag) (l : List (Str × Option Str)) : Xs := ⟨l.length, fun i => match PySem.W.nsIn K mainGlobals ((l[i]?).map (·.1) |>.getD "") with
  | some (some (.ref a)) => a
  | _ => 0, fun i => (l[i]?).bind (·.2)⟩
structure MIn (K : PySem.W.Frag) (x y : Str) (b : Bool) : Prop where
  ex : ∃ a c, PySem.W.nsIn K mainGlobals x = some (some (.ref a)) ∧ PySem.W.nsIn K mainGlobals y = some (some (.ref c)) ∧ PySem.W.exmOne K (.ref a) (.ref c) = some b
structure ZIn (K : PySem.W.Frag) (x : Str) : Prop where
  ex : PySem.W.nsIn K mainGlobals x = some none
def AllD (K : PySem.W.Frag) (T : Tab) : List Def → Prop
  | [] => True
  | d :: r => (DefOk T d ∧ DIn K d.x d.st) ∧ AllD K T r
def AllG (K : PySem.W.Frag) : List (Str × PV) → Prop
  | [] => True
  | g :: r => GIn K g.1 g.2 ∧ AllG K r
def AllZ (K : PySem.W.Frag) : List Str → Prop
  | [] => True
  | g :: r => ZIn K g ∧ AllZ K r
def AllX (P : Program) (K : PySem.W.Frag) : List (Str × Option Str) → Prop
  | [] => True
  | g :: r => (∃ a, XIn P K g.1 g.2 a) ∧ AllX P K r
def AllM (K : PySem.W.Frag) (T : Tab) : Prop := ∀ i j x y, T.exs[i]? = some x → T.exs[j]? = some y → MIn K x.1 y.1 ((T.subs.getD j []).contains i)
theorem AllD.mem {K : PySem.W.Frag} {T : Tab} : ∀ {l : List Def}, AllD K T l → ∀ d ∈ l, DefOk T d ∧ DIn K d.x d.st
  | [], _, d, h => absurd h (by simp)
  | e :: r, a, d, h => by
    rcases List.mem_cons.mp h with rfl | h
    · exact a.1
    · exact AllD.mem a.2 d h
theorem AllG.mem {K : PySem.W.Frag} : ∀ {l : List (Str × PV)}, AllG K l → ∀ d ∈ l, GIn K d.1 d.2
  | [], _, d, h => absurd h (by simp)
  | e :: r, a, d, h => by
    rcases List.mem_cons.mp h with rfl | h
    · exact a.1
    · exact AllG.mem a.2 d h
theorem AllZ.mem {K : PySem.W.Frag} : ∀ {l : List Str}, AllZ K l → ∀ d ∈ l, ZIn K d
  | [], _, d, h => absurd h (by simp)
  | e :: r, a, d, h => by
    rcases List.mem_cons.mp h with rfl | h
    · exact a.1
    · exact AllZ.mem a.2 d h
theorem AllX.get {P : Program} {K : PySem.W.Frag} : ∀ {l : List (Str × Option Str)}, AllX P K l → ∀ (i : Nat) x fo, l[i]? = some (x, fo) → ∃ a, XIn P K x fo a
  | [], _, i, x, fo, h => by simp at h
  | e :: r, a, 0, x, fo, h => by cases h; exact a.1
  | e :: r, a, i + 1, x, fo, h => AllX.get a.2 i x fo (by simpa using h)
theorem xc_at {K : PySem.W.Frag} {l : List (Str × Option Str)} {i : Nat} {x : Str} {fo : Option Str} {a : Addr} (h : l[i]? = some (x, fo)) (e : PySem.W.nsIn K mainGlobals x = some (some (.ref a))) : (xcOf K l).a i = a ∧ (xcOf K l).f i = fo := by
  refine ⟨?_, ?_⟩
  · show (match PySem.W.nsIn K mainGlobals ((l[i]?).map (·.1) |>.getD "") with | some (some (.ref a)) => a | _ => 0) = a
    rw [h]
    show (match PySem.W.nsIn K mainGlobals x with | some (some (.ref a)) => a | _ => 0) = a
    rw [e]
  · show (l[i]?).bind (·.2) = fo
    rw [h]
    rfl
theorem len_toString (i : Int) (h : i.natAbs < 2 ^ 64) : (Str.ofString (toString i)).length ≤ 100 := by
  rw [← figs_str, strV_length]
  cases i with
  | ofNat n => exact Nat.le_trans (figs_le 20 n (by decide) (by have : (Int.ofNat n).natAbs = n := rfl; omega)) (by decide)
  | negSucc n =>
    have : figs (Int.negSucc n) = 45 :: figs ((n + 1 : Nat) : Int) := by
      unfold figs
      have : toString (Int.negSucc n) = "-" ++ toString (n + 1) := rfl
      rw [this, String.toList_append, List.map_append]
      rfl
    rw [this, List.length_cons]
    have := figs_le 20 (n + 1) (by decide) (by have : (Int.negSucc n).natAbs = n + 1 := rfl; omega)
    omega
theorem msg_pe {P : Program} {w : World} {K : PySem.W.Frag} {mg : Str → Option Value} {base : Heap} {F : NdefX.NF} {fI : Addr} {p f : Str} {C : Addr} {msg : Expr} (SC : SupC P K C fI F p f msg) (M : MsgF F p msg) (hs : mg "str" = none)
    (A : Around) (outer : List PySem.Env) (s : Shared) (H : Hp) (E : XK) (k : Nat) (hr : Room k (A.deeper (NdefX.envF F fI s.heap.objs.size))) :
    ∃ t, PE (NdefX.ncx (L2.CX P w) P w K mg base (NS p) F fI A outer s H E) msg t ∧ ∀ (a : Addr) (v : V) (H' : Hp) (Q : VK), goodX v → (∀ z, Q (.str z) H') → t [some (.ref a), some v, none] H' Q := by
  obtain ⟨pre, j, q1, q2, q3, q4, q5, rfl, hpre⟩ := M.shape
  have hp1 : F.scope.names.lookup p = some .local := SC.sc.par _ (by simp)
  refine ⟨_, pe_op op_add_str pe_str (pe_callTy (CallR.or call_str_int SkE.call_str_str) M.gl hs PyProof.Rows.Boot.«str» (pa_cons (pe_var (i := 1) rfl (.inl hp1) SC.pd SC.pc) pa_nil)), fun a v H' Q hg hq => ?_⟩
  refine ⟨v, rfl, ?_⟩
  rcases hg with ⟨i, rfl, hi⟩ | ⟨z, rfl, hz⟩
  · refine .inl ⟨i, rfl, ?_, pre, _, rfl, rfl, ?_, hq _⟩
    · have : i.natAbs.log2 < 64 := by
        by_cases h0 : i.natAbs = 0
        · rw [h0]; decide
        · exact (Nat.log2_lt h0).mpr hi
      omega
    · have := len_toString i hi
      rw [sizeLine_eq]
      omega
  · refine .inr ⟨z, rfl, pre, z, rfl, rfl, ?_, hq _⟩
    rw [sizeLine_eq]
    omega
theorem topOk_of {P : Program} {w : World} {K : PySem.W.Frag} {mg : Str → Option Value} {h base : Heap} {T : Tab} {defs : List Def} (X : K.In h) (G : h.Ns mainGlobals mg) (fns : T.fns = defs.map fun d => (d.x, d.F.np))
    (D : AllD K T defs) (Gl : AllG K T.gls) (Z : AllZ K T.blt) (E : AllX P K T.exs) (M : AllM K T) : TopOk P w K mg base (xcOf K T.exs) T defs where
  fns := fns
  ok := fun d hd => by
    obtain ⟨h1, ⟨f, fd, h2, h3⟩⟩ := D.mem d hd
    exact ⟨h1, f, fd, PySem.W.mg_of X G h2, h3⟩
  gl := fun x v hv => by
    obtain ⟨xv, u, h1, h2, h3⟩ := (Gl.mem (x, v) hv).ex
    exact ⟨xv, u, PySem.W.mg_of X G h1, h2, h3⟩
  bl := fun x hx => PySem.W.mg_none_of X G (Z.mem x hx).ex
  ex := fun i x fo hx => by
    obtain ⟨a, ha⟩ := AllX.get E i x fo hx
    obtain ⟨e1, e2⟩ := xc_at hx ha.ns
    rw [e1]
    refine ⟨⟨PySem.W.mg_of X G ha.ns, ha.keep, ha.plain, fun f hf => ?_⟩, e2, ha.sub, ha.typ⟩
    obtain ⟨q1, q2, fI, F, p, msg, q3, q4⟩ := ha.own f hf
    obtain ⟨oc, od, doc, pm, ctv, osl, lk⟩ := q3.lk
    refine ⟨q3.T, q1, q3.nof, fI, F.fd doc pm ctv, p, q3.iC, q3.tI, fnok_sup (k := 0) q3 (msg_pe q3 q4 (PySem.W.mg_none_of X G q2)) ⟨oc, od, doc, pm, ctv, osl, rfl, lk⟩, .all (q4.bind doc pm ctv)⟩
  xn := rfl
  exm := fun i j hi hj => by
    have hi : i < T.exs.length := hi
    have hj : j < T.exs.length := hj
    obtain ⟨a, c, h1, h2, h3⟩ := (M i j _ _ (List.getElem?_eq_getElem hi) (List.getElem?_eq_getElem hj)).ex
    rw [(xc_at (List.getElem?_eq_getElem hi) h1).1, (xc_at (List.getElem?_eq_getElem hj) h2).1, h3]
/-- the law's promise, for L2.walk_of -/
theorem law_fn {P : Program} {w : World} {K : PySem.W.Frag} {mg : Str → Option Value} {h : Heap} {T : Tab} {defs : List Def} (X : K.In h) (G : h.Ns mainGlobals mg) (fns : T.fns = defs.map fun d => (d.x, d.F.np))
    (D : AllD K T defs) (Gl : AllG K T.gls) (Z : AllZ K T.blt) (E : AllX P K T.exs) (M : AllM K T) (fuel n i : Nat) (d : Def) (hd : defs[i]? = some d) {fa : Addr} {x ps : Str} (hx : d.x = x) (hfa : mg x = some (.ref fa)) (hN : d.N.take d.F.np = [ps]) (hnp : d.F.np = 1) :
    ∃ fd : FuncData, (∀ (s : Shared) (v : Value), BindsTo s fd ⟨[v], []⟩ [(ps, v)]) ∧ ∀ base : Heap, K.In base → base.Ns mainGlobals mg → FnOk P w K mg base (L2.CX P w) (n + 2) fa fd [ps] (spF K (xcOf K T.exs) 1 (callF fuel (defs.map (·.F)) n i)) := by
  have top := fun base => topOk_of (P := P) (w := w) (base := base) X G fns D Gl Z E M
  obtain ⟨D1, f, fd, h1, h2⟩ := (top h).ok d (List.mem_of_getElem? hd)
  rw [hx] at h1
  have e := hfa.symm.trans h1
  cases e
  refine ⟨fd, fun s v => ?_, fun base _ _ => ?_⟩
  · obtain ⟨oc, od, kV, doc, pm, an, cdv, ct, osl, rfl, lk, hcd⟩ := h2.ex
    have := D1.bind kV doc pm an cdv ct [v] (by rw [hN]; rfl)
    rw [hN] at this
    exact .of_eq this
  · have := fns_ok (P := P) (w := w) (base := base) (top base) fuel n i d hd fa fd (by rw [hx]; exact hfa) h2
    rw [hN, hnp] at this
    exact this
end MK
namespace MK
open PySem PySem.Spec PyProof.Rows L2
theorem cx_no {P : Program} {w : World} {outer : List PySem.Env} {H : Hp} {s s' : Shared} {e : Value} (h : L2.CX P w outer H s (fun _ _ _ => False) e s') : False := by
  obtain ⟨_, _, _, _, _, _, _, _, _, _, _, _, hE⟩ := h
  exact hE
end MK

set_option linter.all false
set_option autoImplicit false
set_option Elab.async false
set_option maxRecDepth 100000
set_option maxHeartbeats 4000000
/-! MkXB: the exception classes, read off the written part by Bools. -/
namespace MK
open PySem PySem.Spec PyProof.Rows L2 NdefX
/-- where a global lies -/
def gAt (K : PySem.W.Frag) (x : Str) : Option Addr := match PySem.W.nsIn K mainGlobals x with
  | some (some (.ref a)) => some a
  | _ => none
theorem gAt_of {K : PySem.W.Frag} {x : Str} {a : Addr} (h : gAt K x = some a) : PySem.W.nsIn K mainGlobals x = some (some (.ref a)) := by
  unfold gAt at h
  split at h
  · rename_i b e; cases h; exact e
  · cases h
def exB (K : PySem.W.Frag) (a : Addr) : Bool := PySem.W.keepIn K (.ref a) && decide (PySem.W.subIn K (.ref a) (.type "BaseException") = some true) && decide (PySem.W.typeIn K (.ref a) = some (.type "type"))
/-- a class without own __init__ -/
def plainB (K : PySem.W.Frag) (x : Str) : Bool := match gAt K x with
  | some a => exB K a && PySem.W.excIn K a [.type "ValueError", .type "Exception", .type "BaseException", .type "object"] "ValueError.__new__"
  | none => false
theorem plain_of {P : Program} {K : PySem.W.Frag} {x : Str} (h : plainB K x = true) : ∃ a, XIn P K x none a := by
  unfold plainB at h
  split at h
  · rename_i a e
    obtain ⟨h1, h2⟩ := b_and h
    obtain ⟨h3, h4⟩ := b_and h1
    obtain ⟨h5, h6⟩ := b_and h3
    exact ⟨a, gAt_of e, h5, of_decide_eq_true h6, of_decide_eq_true h4, fun _ => h2, fun f hf => (by cases hf)⟩
  · cases h
theorem ev_super (s i pre st p' : Str) (p0 p1 p2 p3 q1 q2 q3 q4 q5 : Pos) (j : Nat) (env : PySem.Env) (hl : (p2.endLine == p3.line) = true) : eval (.Call (.Attribute (.Call (.Name s p0) [] [] p1) i p2) [.BinOp (.Constant (.str pre) j q1) .Add (.Call (.Name st q2) [.Name p' q3] [] q4) q5] [] p3) env = (do
      let ov ← attributeBase (.Call (.Name s p0) [] [] p1) i env (eval (.Call (.Name s p0) [] [] p1) env)
      standAt p2.atName
      let (f, first) ← holding [ov] (getMethod ov i (do return (← importBound (.Call (.Name s p0) [] [] p1) env).getD true))
      callWith p3 f first (backTo p3 (starEach [.BinOp (.Constant (.str pre) j q1) .Add (.Call (.Name st q2) [.Name p' q3] [] q4) q5] env)) []) := by
  have e1 : eval (.Call (.Attribute (.Call (.Name s p0) [] [] p1) i p2) [.BinOp (.Constant (.str pre) j q1) .Add (.Call (.Name st q2) [.Name p' q3] [] q4) q5] [] p3) env = (do
      let ov ← attributeBase (.Call (.Name s p0) [] [] p1) i env (eval (.Call (.Name s p0) [] [] p1) env)
      standAt p2.atName
      methodCall (.Call (.Name s p0) [] [] p1) i p2 p3 env ov 1 (backTo p3 (starEach [.BinOp (.Constant (.str pre) j q1) .Add (.Call (.Name st q2) [.Name p' q3] [] q4) q5] env)) []) := rfl
  rw [e1]
  have e2 : ∀ ov, methodCall (.Call (.Name s p0) [] [] p1) i p2 p3 env ov 1 (backTo p3 (starEach [.BinOp (.Constant (.str pre) j q1) .Add (.Call (.Name st q2) [.Name p' q3] [] q4) q5] env)) [] = (do
      let (f, first) ← holding [ov] (getMethod ov i (do return (← importBound (.Call (.Name s p0) [] [] p1) env).getD true))
      callWith p3 f first (backTo p3 (starEach [.BinOp (.Constant (.str pre) j q1) .Add (.Call (.Name st q2) [.Name p' q3] [] q4) q5] env)) []) := fun ov => by
    have hf : methodCallForm 1 (backTo p3 (starEach [.BinOp (.Constant (.str pre) j q1) .Add (.Call (.Name st q2) [.Name p' q3] [] q4) q5] env)) [] = true := rfl
    unfold methodCall calleeOf methodCallPos
    rw [hf, hl]
    rfl
  simp only [e2]
/-- the body of such an __init__: its argument, its message -/
def bodyB (f : Str) : List Stmt → Option (Str × Expr)
  | [.Expr (.Call (.Attribute (.Call (.Name s _) [] [] _) i p2) [.BinOp (.Constant (.str pre) j q1) .Add (.Call (.Name st q2) [.Name p' q3] [] q4) q5] [] p3) _, .Assign [.Attribute (.Name sf _) f' _] (.Name p _) _] =>
    if s = ("super" : Str) ∧ i = ("__init__" : Str) ∧ st = ("str" : Str) ∧ p' = p ∧ sf = ("self" : Str) ∧ f' = f ∧ pre.length ≤ 1000 ∧ (p2.endLine == p3.line) = true then some (p, .BinOp (.Constant (.str pre) j q1) .Add (.Call (.Name st q2) [.Name p' q3] [] q4) q5) else none
  | _ => none
theorem bodyB_of {f p : Str} {msg : Expr} {b : List Stmt} (h : bodyB f b = some (p, msg)) : (∃ p0 p1 p2 p3 p4 p5 p6 p7 p8, b = [.Expr (.Call (.Attribute (.Call (.Name "super" p0) [] [] p1) "__init__" p2) [msg] [] p3) p4, .Assign [.Attribute (.Name "self" p5) f p6] (.Name p p7) p8] ∧
    ∀ env : PySem.Env, starEach [msg] env = (false, eval msg env) :: starEach [] env ∧ ∃ pl : Sem Bool, eval (.Call (.Attribute (.Call (.Name "super" p0) [] [] p1) "__init__" p2) [msg] [] p3) env = (do
      let ov ← attributeBase (.Call (.Name "super" p0) [] [] p1) "__init__" env (eval (.Call (.Name "super" p0) [] [] p1) env)
      standAt p2.atName
      let (f, first) ← holding [ov] (getMethod ov "__init__" pl)
      callWith p3 f first (backTo p3 (starEach [msg] env)) [])) ∧
    ∃ (pre : Str) (j : Nat) (q1 q2 q3 q4 q5 : Pos), msg = .BinOp (.Constant (.str pre) j q1) .Add (.Call (.Name "str" q2) [.Name p q3] [] q4) q5 ∧ pre.length ≤ 1000 := by
  unfold bodyB at h
  split at h
  · split at h
    · rename_i hh
      obtain ⟨rfl, rfl, rfl, rfl, rfl, rfl, hl, hln⟩ := hh
      cases h
      exact ⟨⟨_, _, _, _, _, _, _, _, _, rfl, fun env => ⟨rfl, _, ev_super _ _ _ _ _ _ _ _ _ _ _ _ _ _ _ env hln⟩⟩, _, _, _, _, _, _, _, rfl, hl⟩
    · cases h
  · cases h
def parB (p : Str) : Arguments → Bool
  | ⟨[], [a, b], none, [], [], none, []⟩ => decide (a.arg = ("self" : Str)) && decide (b.arg = p) && (decide (p = ("at" : Str)) || (decide (p = ("line" : Str)) || decide (p = ("name" : Str))))
  | _ => false
def notDun (p : Str) : Bool := !(p == ("__debug__" : Str)) && !(p == ("__classdict__" : Str))
def fileB (P : Program) (K : PySem.W.Frag) (c : Addr) : Bool := match K.lookup c with
  | some ⟨_, _, .fields vs, _⟩ => (match (vs[2]? : Option Value) with
    | some (Value.str file _) => (P.main.file : Str) == file
    | _ => false)
  | _ => false
def cellB (K : PySem.W.Frag) (cc C : Addr) : Bool := match K.lookup cc with
  | some ⟨_, _, .cell (some (.ref D)), _⟩ => decide (D = C)
  | _ => false
def clsB (K : PySem.W.Frag) (C : Addr) : Bool := match K.lookup C with
  | some ⟨.type t, _, .cls cd, sl⟩ => t == "type" && (match cd.mro, sl.toList with
    | .ref C' :: bm, [_, _, _, _, some (.builtin n), _] => decide (C' = C) && n == "ValueError.__new__" && !cd.hasDel && cd.hasDict && PySem.HandSPX.refsVE bm
    | _, _ => false)
  | _ => false
theorem clsB_of {K : PySem.W.Frag} {C : Addr} (h : clsB K C = true) : ∃ nm q N bs bm sn sub ab col dd k0 k1 k2 k3 k5, K.lookup C = some (excClassObj nm q C N bs bm true sn sub ab col dd k0 k1 k2 k3 k5 "ValueError.__new__") ∧ PySem.HandSPX.refsVE bm = true := by
  unfold clsB at h
  split at h
  · rename_i t dd cd sl ho
    obtain ⟨ht, hq⟩ := b_and h
    clear h
    have ht : t = "type" := by simpa using ht
    subst ht
    split at hq
    · rename_i C' bm k0 k1 k2 k3 n k5 hm hs
      obtain ⟨h, h5⟩ := b_and hq
      obtain ⟨h, h4⟩ := b_and h
      obtain ⟨h, h3⟩ := b_and h
      obtain ⟨h1, h2⟩ := b_and h
      have := of_decide_eq_true h1
      subst this
      have h2 : n = "ValueError.__new__" := by simpa using h2
      subst h2
      obtain ⟨nm, bs, mro, ns, qn, hd, sn, sub, ab, col, del⟩ := cd
      dsimp only at hm h3 h4
      have h3 : del = false := by simpa using h3
      subst hm h3 h4
      have hsl : sl = #[k0, k1, k2, k3, some (.builtin "ValueError.__new__"), k5] := by
        obtain ⟨l⟩ := sl
        simp only at hs
        rw [hs]
      subst hsl
      exact ⟨_, _, _, _, _, _, _, _, _, _, _, _, _, _, _, ho, h5⟩
    · cases hq
  · cases h
def fdB (P : Program) (K : PySem.W.Frag) (C : Addr) (f : Str) (fd : FuncData) : Bool := match fd.body, fd.code, fd.closure with
  | .stmts b, .ref c, [(k, cc)] => (match bodyB f b with
    | some (p, _) => decide (k = ("__class__" : Str)) && decide (fd.globals = mainGlobals) && decide (fd.builtins = builtinsNs) && decide (fd.defaults = .none) && decide (fd.kwdefaults = .none) && decide (fd.annotations = none) && parB p fd.params && notDun p && PySem.W.codeIn K (.ref c) fd.qualname && fileB P K c && cellB K cc C &&
        nscB (NS p) (PSl p) CL fd.scope && decide (fd.scope.names.lookup ("super" : Str) = some .globalImplicit) && decide (fd.scope.names.lookup ("str" : Str) = some .globalImplicit)
    | none => false)
  | _, _, _ => false
def ownB (P : Program) (K : PySem.W.Frag) (x f : Str) : Bool := match gAt K x with
  | some C => exB K C && clsB K C && xfB K C && decide (PySem.W.findIn K (.ref C) "__setattr__" = some (some (.builtin "object.__setattr__"))) && (PySem.W.clsIn K C).isSome && decide (PySem.W.mroIn K C (.ref C) = some true) &&
      decide (PySem.W.ks_superIn K C C "__init__" = some (some (.builtin "ValueError.__init__"))) && decide (PySem.W.subIn K (.ref C) (.type "ValueError") = some true) && decide (PySem.W.nsIn K cStatics "thirdparty.any" = some none) && decide (PySem.W.nsIn K mainGlobals "super" = some none) &&
      decide (PySem.W.nsIn K mainGlobals "str" = some none) && decide (PySem.W.findIn K (.ref C) f = some none) && !(P.main.scope.names.lookup ("super" : Str)).isSome && (match PySem.W.findIn K (.ref C) "__init__" with
        | some (some (.ref fI)) => decide (PySem.W.typeIn K (.ref fI) = some (.type "function")) && (match K.lookup fI with
          | some ⟨_, _, .func fd, _⟩ => fdB P K C f fd
          | _ => false)
        | _ => false)
  | none => false
theorem own_of {P : Program} {K : PySem.W.Frag} {x f : Str} (h : ownB P K x f = true) : ∃ a, XIn P K x (some f) a := by
  unfold ownB at h
  split at h
  case h_2 => cases h
  case h_1 C e =>
    obtain ⟨h, hI⟩ := b_and h
    obtain ⟨h, hs⟩ := b_and h
    obtain ⟨h, hno⟩ := b_and h
    obtain ⟨h, hstr⟩ := b_and h
    obtain ⟨h, hsup⟩ := b_and h
    obtain ⟨h, htp⟩ := b_and h
    obtain ⟨h, hisV⟩ := b_and h
    obtain ⟨h, hsI⟩ := b_and h
    obtain ⟨h, hmro⟩ := b_and h
    obtain ⟨h, hcd⟩ := b_and h
    obtain ⟨h, hsa⟩ := b_and h
    obtain ⟨h, hxf⟩ := b_and h
    obtain ⟨h, hcls⟩ := b_and h
    obtain ⟨h1, h4⟩ := b_and h
    obtain ⟨h5, h6⟩ := b_and h1
    split at hI
    case h_2 => cases hI
    case h_1 fI hfI =>
      obtain ⟨htI, hI⟩ := b_and hI
      split at hI
      case h_2 => cases hI
      case h_1 oc od fd osl lk =>
        unfold fdB at hI
        split at hI
        case h_2 => cases hI
        case h_1 b c k cc hb hc hcl =>
          split at hI
          case h_2 => cases hI
          case h_1 p msg hbody =>
            obtain ⟨hI, i14⟩ := b_and hI
            obtain ⟨hI, i13⟩ := b_and hI
            obtain ⟨hI, i12⟩ := b_and hI
            obtain ⟨hI, i11⟩ := b_and hI
            obtain ⟨hI, i10⟩ := b_and hI
            obtain ⟨hI, i9⟩ := b_and hI
            obtain ⟨hI, i8⟩ := b_and hI
            obtain ⟨hI, i7⟩ := b_and hI
            obtain ⟨hI, i6⟩ := b_and hI
            obtain ⟨hI, i5⟩ := b_and hI
            obtain ⟨hI, i4⟩ := b_and hI
            obtain ⟨hI, i3⟩ := b_and hI
            obtain ⟨i1, i2⟩ := b_and hI
            obtain ⟨name, qual, params, body, scope, globals, closure, defaults, kwdefaults, doc, pm, ann, code, ctv, builtins⟩ := fd
            dsimp only at hb hc hcl i2 i3 i4 i5 i6 i7 i9 i12 i13 i14 lk
            have := of_decide_eq_true i1
            have e2 := of_decide_eq_true i2
            have e3 := of_decide_eq_true i3
            have e4 := of_decide_eq_true i4
            have e5 := of_decide_eq_true i5
            have e6 := of_decide_eq_true i6
            subst this hb hc hcl e2 e3 e4 e5 e6
            obtain ⟨hbod, hmsg⟩ := bodyB_of hbody
            obtain ⟨d1, d2⟩ := b_and i8
            obtain ⟨cd, hcd⟩ := Option.isSome_iff_exists.mp hcd
            have hfile : ∃ ccl cdd vs ccs file tf, K.lookup c = some ⟨ccl, cdd, .fields vs, ccs⟩ ∧ vs[2]? = some (.str file tf) ∧ ((P.main.file : Str) == file) = true := by
              unfold fileB at i10
              split at i10
              · rename_i q1 q2 vs q3 hl
                split at i10
                · rename_i file tf hv
                  exact ⟨q1, q2, vs, q3, file, tf, hl, hv, i10⟩
                · cases i10
              · cases i10
            have hcell : ∃ cl cld csl, K.lookup cc = some ⟨cl, cld, .cell (some (.ref C)), csl⟩ := by
              unfold cellB at i11
              split at i11
              · rename_i q1 q2 D q3 hl
                have := of_decide_eq_true i11
                subst this
                exact ⟨_, _, _, hl⟩
              · cases i11
            have hpar : ∃ a b, params = ⟨[], [a, b], none, [], [], none, []⟩ ∧ a.arg = ("self" : Str) ∧ b.arg = p ∧ (p = ("at" : Str) ∨ p = ("line" : Str) ∨ p = ("name" : Str)) := by
              unfold parB at i7
              split at i7
              · obtain ⟨k1, k3⟩ := b_and i7
                obtain ⟨k1, k2⟩ := b_and k1
                rw [Bool.or_eq_true, Bool.or_eq_true, decide_eq_true_eq, decide_eq_true_eq, decide_eq_true_eq] at k3
                exact ⟨_, _, rfl, of_decide_eq_true k1, of_decide_eq_true k2, k3⟩
              · cases i7
            obtain ⟨pa, pb, rfl, ha, hpb, hp3⟩ := hpar
            obtain ⟨cl, cld, csl, hcell⟩ := hcell
            refine ⟨C, gAt_of e, h5, of_decide_eq_true h6, of_decide_eq_true h4, fun z => (by cases z), fun g hg => ?_⟩
            cases hg
            refine ⟨xfB_ok hxf, of_decide_eq_true hstr, fI, ⟨name, qual, ⟨[], [pa, pb], none, [], [], none, []⟩, b, scope, [("__class__", cc)], c⟩, p, msg, ?_, ?_⟩
            · exact {
                T := ⟨clsB_of hcls, of_decide_eq_true hsa, of_decide_eq_true h6, of_decide_eq_true h4, h5⟩
                iC := hfI
                tI := of_decide_eq_true htI
                lk := ⟨oc, od, doc, pm, ctv, osl, lk⟩
                cd := i9
                file := hfile
                cell := ⟨cc, cl, cld, csl, rfl, hcell⟩
                cls := ⟨cd, hcd⟩
                mro := of_decide_eq_true hmro
                sup := of_decide_eq_true hsI
                isV := of_decide_eq_true hisV
                tp := of_decide_eq_true htp
                no := of_decide_eq_true hsup
                nof := of_decide_eq_true hno
                top := by simpa using hs
                par := ⟨pa, rfl, ha⟩
                sc := nscope_by i12
                pd := by simpa using d1
                pc := by simpa using d2
                scS := of_decide_eq_true i13
                body := hbod }
            · refine ⟨hmsg, of_decide_eq_true i14, fun doc pm ctv us hl => ?_⟩
              match us, hl with
              | [u1, u2], _ =>
                obtain ⟨na, aa, posa⟩ := pa
                obtain ⟨nb, ab, posb⟩ := pb
                dsimp only at ha hpb
                subst ha
                subst hpb
                rcases hp3 with e | e | e <;> (subst e; rfl)
/-- all classes, and how they lie among each other -/
def allXB (P : Program) (K : PySem.W.Frag) : List (Str × Option Str) → Bool
  | [] => true
  | (x, none) :: r => plainB K x && allXB P K r
  | (x, some f) :: r => ownB P K x f && allXB P K r
theorem allX_of {P : Program} {K : PySem.W.Frag} : ∀ {l : List (Str × Option Str)}, allXB P K l = true → AllX P K l
  | [], _ => True.intro
  | (x, none) :: r, h => by
    obtain ⟨h1, h2⟩ := b_and h
    exact ⟨plain_of h1, allX_of h2⟩
  | (x, some f) :: r, h => by
    obtain ⟨h1, h2⟩ := b_and h
    exact ⟨own_of h1, allX_of h2⟩
def mB (K : PySem.W.Frag) (x y : Str) (b : Bool) : Bool := match gAt K x, gAt K y with
  | some a, some c => decide (PySem.W.exmOne K (.ref a) (.ref c) = some b)
  | _, _ => false
def allMB (K : PySem.W.Frag) (T : Tab) : Bool := (List.range T.exs.length).all fun i => (List.range T.exs.length).all fun j => match T.exs[i]?, T.exs[j]? with
  | some x, some y => mB K x.1 y.1 ((T.subs.getD j []).contains i)
  | _, _ => false
theorem allM_of {K : PySem.W.Frag} {T : Tab} (h : allMB K T = true) : AllM K T := fun i j x y hx hy => by
  have hi := (List.getElem?_eq_some_iff.mp hx).1
  have hj := (List.getElem?_eq_some_iff.mp hy).1
  have h1 := List.all_eq_true.mp h i (List.mem_range.mpr hi)
  have h2 := List.all_eq_true.mp h1 j (List.mem_range.mpr hj)
  rw [hx, hy] at h2
  have h2 : mB K x.1 y.1 ((T.subs.getD j []).contains i) = true := h2
  unfold mB at h2
  split at h2
  · rename_i a c ea ec
    exact ⟨a, c, gAt_of ea, gAt_of ec, of_decide_eq_true h2⟩
  · cases h2
/-- the law's promise, the classes read off the written part -/
def lawSp (K : PySem.W.Frag) (l : List (Str × Option Str)) (np : Nat) (g : List PV → Store → Out PV) : Sp := spF K (xcOf K l) np g
theorem law_sp2 {K : PySem.W.Frag} {l : List (Str × Option Str)} {fuel n i : Nat} {fns : List Fn} {H : Hp} {a : Addr} {ns : List Int}
    (h : ∃ S', callF fuel fns n i [.lst (ns.map fun z => .int z)] [] = .ok (.bl true) S') (hS : SqL K H a (ns.map V.int)) : lawSp K l 1 (callF fuel fns n i) [.ref a] H (fun v _ => v = .bl true) fun _ _ _ => False := law_sp h hS
end MK

set_option linter.all false
set_option autoImplicit false
set_option Elab.async false
set_option maxRecDepth 100000
set_option maxHeartbeats 16000000
/-! K37: the core program, against the text. Printed by mk.py. -/
namespace K37
open PySem PySem.Spec PyProof.Rows L2 MK
def topS (i : Nat) : Stmt := PySem.Challenge.pw_maketrue_k37_lines_told.main.body.getD i (.Pass ⟨0, 0, 0, 0⟩)
def vMOST_TEXT : PV := (.int 20000)
def vSIGNS : PV := (.str [97, 98, 99, 100, 101, 102, 103, 104, 105, 106, 107, 108, 109, 110, 111, 112, 113, 114, 115, 116, 117, 118, 119, 120, 121, 122, 48, 49, 50, 51, 52, 53, 54, 55, 56, 57, 34, 91, 93, 40, 41, 43, 60, 45, 94, 47, 61, 63, 58, 32, 123, 125, 62, 44, 59, 124])
def vWEIGHT : PV := (.int 7)
def vSUMS : PV := (.int 99991)
def vSUM_FIGURES : PV := (.int 5)
def vMOST_COUNT : PV := (.int 99999)
def vMOST_TEXTS : PV := (.int 400)
def vFIGURES : PV := (.str [48, 49, 50, 51, 52, 53, 54, 55, 56, 57])
def b_is_whole : List S := [
  .ret (.and [.isi (.var 0) .int, .not (.isi (.var 0) .bool), .cmp2 .le .le (.var 1) (.var 0) (.var 2)])]
def d_is_whole : Def := ⟨"is_whole", topS 8, ["value", "least", "most"], ⟨3, 3, true, b_is_whole⟩⟩
def b_are_signs : List S := [
  .ret (.and [.isi (.var 0) .str, .cmp2 .le .le (.lit (.int 1)) (.bi .len [.var 0]) (.gl vMOST_TEXT), .bi .all [.lc false [1] (.nm 1) (.seq (.var 0)) [] (.cmp .mem (.var 1) (.gl vSIGNS))]])]
def d_are_signs : Def := ⟨"are_signs", topS 18, ["value", "sign"], ⟨1, 2, true, b_are_signs⟩⟩
def b_sum_in : List S := [
  .asg (.nm 2) (.bin .mul (.gl vWEIGHT) (.var 0)),
  .for_ (.tp [(.nm 3), (.nm 4)]) (.enum (.var 1)) [.aug 2 .add (.bin .mul (.bin .add (.var 3) (.lit (.int 1))) (.bin .add (.bm .index (.gl vSIGNS) [.var 4]) (.lit (.int 1))))],
  .ret (.bin .mod (.var 2) (.gl vSUMS))]
def d_sum_in : Def := ⟨"sum_in", topS 19, ["ahead", "text", "found", "place", "sign"], ⟨2, 5, true, b_sum_in⟩⟩
def b_sum_of : List S := [
  .ifs (.not (.call 0 [.var 0, .lit (.int 0), .bin .sub (.gl vSUMS) (.lit (.int 1))])) [.raise 0 []] [],
  .ifs (.or [.not (.isi (.var 1) .str), .not (.bi .all [.lc false [2] (.nm 2) (.seq (.var 1)) [] (.cmp .mem (.var 2) (.gl vSIGNS))])]) [.raise 1 []] [],
  .ret (.call 2 [.var 0, .var 1])]
def d_sum_of : Def := ⟨"sum_of", topS 20, ["ahead", "text", "sign"], ⟨2, 3, true, b_sum_of⟩⟩
def b_line_by : List S := [
  .asg (.nm 3) (.bin .add (.bin .add (.bin .add (.bi .str [.var 1]) (.lit (.str [32]))) (.var 2)) (.lit (.str [32]))),
  .asg (.nm 4) (.call 2 [.var 0, .var 3]),
  .ret (.tup [.bin .add (.bin .add (.bin .add (.var 3) (.lit (.str [35]))) (.bm .rjust (.bi .str [.var 4]) [.gl vSUM_FIGURES, .lit (.str [48])])) (.lit (.str [10])), .var 4])]
def d_line_by : Def := ⟨"line_by", topS 21, ["ahead", "count", "text", "head", "total"], ⟨3, 5, true, b_line_by⟩⟩
def b_lines_by : List S := [
  .asg (.nm 3) (.lit (.str [])),
  .for_ (.tp [(.nm 4), (.nm 5)]) (.enum (.var 2)) [.asg (.tp [(.nm 6), (.nm 0)]) (.call 4 [.var 0, .bin .add (.var 1) (.var 4), .var 5]), .aug 3 .add (.var 6)],
  .ret (.var 3)]
def d_lines_by : Def := ⟨"lines_by", topS 22, ["ahead", "first", "texts", "found", "number", "text", "line"], ⟨3, 7, true, b_lines_by⟩⟩
def b_lines_of : List S := [
  .ifs (.or [.not (.isi (.var 1) .tuple), .not (.bi .all [.lc false [2] (.nm 2) (.seq (.var 1)) [] (.call 1 [.var 2])])]) [.raise 1 []] [],
  .ifs (.not (.call 0 [.var 0, .lit (.int 0), .gl vMOST_COUNT])) [.raise 2 []] [],
  .ifs (.or [.cmp .gt (.bi .len [.var 1]) (.gl vMOST_TEXTS), .cmp .gt (.bin .sub (.bin .add (.var 0) (.bi .len [.var 1])) (.lit (.int 1))) (.gl vMOST_COUNT)]) [.raise 3 []] [],
  .ret (.call 5 [.lit (.int 0), .var 0, .var 1])]
def d_lines_of : Def := ⟨"lines_of", topS 23, ["first", "texts", "one"], ⟨2, 3, true, b_lines_of⟩⟩
def b__row : List S := [
  .asg (.tp [(.nm 4), (.nm 5)]) (.tup [.sl false true (.var 1) (.lit .non) (.bin .sub (.neg (.lit (.int 1))) (.gl vSUM_FIGURES)), .sl true false (.var 1) (.bin .sub (.neg (.lit (.int 1))) (.gl vSUM_FIGURES)) (.lit .non)]),
  .ifs (.or [.cmp .ne (.sl false true (.var 5) (.lit .non) (.lit (.int 1))) (.lit (.str [35])), .cmp .ne (.sl true false (.var 4) (.neg (.lit (.int 1))) (.lit .non)) (.lit (.str [32])), .not (.bi .all [.lc false [6] (.nm 6) (.seq (.var 4)) [] (.cmp .mem (.var 6) (.gl vSIGNS))])]) [.ret (.lit .non)] [],
  .asg (.nm 2) (.bm .split2 (.var 4) [.lit (.str [32]), .lit (.int 1)]),
  .ifs (.or [.not (.cmp2 .le .le (.lit (.int 1)) (.bi .len [.ix (.var 2) (.lit (.int 0))]) (.gl vSUM_FIGURES)), .not (.bi .all [.lc false [6] (.nm 6) (.seq (.ix (.var 2) (.lit (.int 0)))) [] (.cmp .mem (.var 6) (.gl vFIGURES))])]) [.ret (.lit .non)] [],
  .ifs (.or [.cmp .ne (.ix (.var 2) (.lit (.int 0))) (.bi .str [.bi .int [.ix (.var 2) (.lit (.int 0))]]), .not (.call 1 [.sl false true (.ix (.var 2) (.lit (.int 1))) (.lit .non) (.neg (.lit (.int 1)))])]) [.ret (.lit .non)] [],
  .asg (.nm 3) (.call 2 [.var 0, .var 4]),
  .ifs (.cmp .ne (.sl true false (.var 5) (.lit (.int 1)) (.lit .non)) (.bm .rjust (.bi .str [.var 3]) [.gl vSUM_FIGURES, .lit (.str [48])])) [.ret (.lit .non)] [],
  .ret (.tup [.bi .int [.ix (.var 2) (.lit (.int 0))], .sl false true (.ix (.var 2) (.lit (.int 1))) (.lit .non) (.neg (.lit (.int 1))), .var 3])]
def d__row : Def := ⟨"_row", topS 24, ["ahead", "line", "words", "own", "head", "total", "sign"], ⟨2, 7, true, b__row⟩⟩
def b_rows_of : List S := [
  .asg (.nm 1) (.lst true []),
  .asg (.tp [(.nm 3), (.nm 4)]) (.tup [.lit (.int 0), .lit (.int 0)]),
  .asg (.nm 2) (.bm .find (.var 0) [.lit (.str [10])]),
  .while_ (.cmp .ge (.var 2) (.lit (.int 0))) [.asg (.nm 5) (.call 7 [.var 4, .sl true true (.var 0) (.var 3) (.var 2)]), .ifs (.or [.cmp .isN (.var 5) (.lit .non), .and [.cmp .gt (.bi .len [.var 1]) (.lit (.int 0)), .cmp .ne (.ix (.var 5) (.lit (.int 0))) (.bin .add (.ix (.ix (.var 1) (.neg (.lit (.int 1)))) (.lit (.int 0))) (.lit (.int 1)))]]) [.ret (.var 1)] [], .ex (.app (.var 1) (.bin .add (.var 5) (.tup [.bin .add (.var 2) (.lit (.int 1))]))), .asg (.tp [(.nm 3), (.nm 4)]) (.tup [.bin .add (.var 2) (.lit (.int 1)), .ix (.var 5) (.lit (.int 2))]), .asg (.nm 2) (.bm .find3 (.var 0) [.lit (.str [10]), .var 3])],
  .ret (.var 1)]
def d_rows_of : Def := ⟨"rows_of", topS 25, ["text", "found", "end", "at", "ahead", "row"], ⟨1, 6, true, b_rows_of⟩⟩
def b_check_text : List S := [
  .ifs (.not (.isi (.var 0) .str)) [.raise 4 [.neg (.lit (.int 1))]] []]
def d_check_text : Def := ⟨"check_text", topS 26, ["text"], ⟨1, 1, true, b_check_text⟩⟩
def b_texts_of : List S := [
  .ex (.call 9 [.var 0]),
  .asg (.nm 1) (.call 8 [.var 0]),
  .ifs (.cmp .eq (.bi .len [.var 1]) (.lit (.int 0))) [.ret (.tup [.lit (.int 1), .tup [], .lit (.int 0)])] [],
  .ret (.tup [.ix (.ix (.var 1) (.lit (.int 0))) (.lit (.int 0)), .bi .tuple [.lc false [2] (.nm 2) (.seq (.var 1)) [] (.ix (.var 2) (.lit (.int 1)))], .ix (.ix (.var 1) (.neg (.lit (.int 1)))) (.lit (.int 3))])]
def d_texts_of : Def := ⟨"texts_of", topS 27, ["text", "rows", "row"], ⟨1, 3, true, b_texts_of⟩⟩
def b__law_draws : List S := [
  .asg (.nm 2) (.lst true []),
  .asg (.nm 3) (.lit (.int 7)),
  .for_ (.nm 4) (.seq (.sl false true (.var 0) (.lit .non) (.lit (.int 63)))) [.asg (.nm 6) (.bi .abs [.var 4]), .asg (.nm 3) (.bin .mod (.bi .int [.bin .add (.bin .add (.bin .mul (.var 3) (.lit (.int 48271))) (.var 6)) (.lit (.int 11))]) (.lit (.int 2147483647))), .ifs (.cmp .ge (.var 6) (.bin .pow (.lit (.int 10)) (.lit (.int 18)))) [.for_ (.nm 5) (.rng [.lit (.int 60)]) [.ifs (.cmp .gt (.var 6) (.lit (.int 0))) [.ex (.app (.var 2) (.bin .mod (.bi .int [.var 6]) (.lit (.int 1009)))), .asg (.nm 6) (.bin .fdiv (.var 6) (.lit (.int 1009)))] []]] [.ex (.app (.var 2) (.bin .mod (.bin .fdiv (.bi .int [.bin .add (.bin .mul (.var 3) (.lit (.int 16807))) (.lit (.int 5))]) (.lit (.int 3))) (.lit (.int 65521))))]],
  .for_ (.nm 5) (.rng [.var 1]) [.ifs (.cmp .lt (.bi .len [.var 2]) (.var 1)) [.asg (.nm 3) (.bin .mod (.bi .int [.bin .add (.bin .add (.bin .mul (.var 3) (.lit (.int 69621))) (.var 5)) (.lit (.int 1))]) (.lit (.int 2147483647))), .ex (.app (.var 2) (.bin .mod (.bin .fdiv (.bi .int [.var 3]) (.lit (.int 7))) (.lit (.int 65521))))] []],
  .ret (.sl false true (.var 2) (.lit .non) (.var 1))]
def d__law_draws : Def := ⟨"_law_draws", topS 29, ["script", "many", "draws", "seed", "cell", "k", "number"], ⟨2, 7, true, b__law_draws⟩⟩
def b__law_sum : List S := [
  .asg (.tp [(.nm 3), (.nm 4)]) (.tup [.lit (.str [97, 98, 99, 100, 101, 102, 103, 104, 105, 106, 107, 108, 109, 110, 111, 112, 113, 114, 115, 116, 117, 118, 119, 120, 121, 122, 48, 49, 50, 51, 52, 53, 54, 55, 56, 57, 34, 91, 93, 40, 41, 43, 60, 45, 94, 47, 61, 63, 58, 32, 123, 125, 62, 44, 59, 124]), .bin .mul (.lit (.int 7)) (.var 0)]),
  .for_ (.nm 2) (.rng [.bi .len [.var 1]]) [.asg (.nm 4) (.bin .add (.var 4) (.bin .mul (.bin .add (.var 2) (.lit (.int 1))) (.bin .add (.bm .index (.var 3) [.ix (.var 1) (.var 2)]) (.lit (.int 1)))))],
  .ret (.bin .mod (.bi .int [.var 4]) (.lit (.int 99991)))]
def d__law_sum : Def := ⟨"_law_sum", topS 30, ["ahead", "text", "k", "signs", "found"], ⟨2, 5, true, b__law_sum⟩⟩
def b__law_lines : List S := [
  .asg (.tp [(.nm 3), (.nm 4)]) (.tup [.lst true [], .lit (.int 0)]),
  .for_ (.nm 2) (.rng [.bi .len [.var 1]]) [.asg (.nm 5) (.bin .add (.bin .add (.bin .add (.bi .str [.bin .add (.var 0) (.var 2)]) (.lit (.str [32]))) (.ix (.var 1) (.var 2))) (.lit (.str [32]))), .asg (.nm 4) (.call 12 [.var 4, .var 5]), .ex (.app (.var 3) (.bin .add (.bin .add (.bin .add (.var 5) (.lit (.str [35]))) (.bm .join (.lit (.str [])) [.lc false [6] (.nm 6) (.seq (.lst false [.lit (.int 10000), .lit (.int 1000), .lit (.int 100), .lit (.int 10), .lit (.int 1)])) [] (.sl true false (.bi .str [.bin .fdiv (.var 4) (.var 6)]) (.neg (.lit (.int 1))) (.lit .non))])) (.lit (.str [10]))))],
  .ret (.var 3)]
def d__law_lines : Def := ⟨"_law_lines", topS 31, ["first", "texts", "k", "found", "ahead", "head", "size"], ⟨2, 7, true, b__law_lines⟩⟩
def b__law_text : List S := [
  .asg (.nm 2) (.lit (.str [97, 98, 122, 48, 49, 57, 34, 91, 93, 40, 41, 43, 60, 45, 94, 47, 61, 63, 58, 32, 123, 125, 62, 44, 59, 124])),
  .asg (.nm 3) (.bi .int [.ix (.var 0) (.bin .mod (.var 1) (.bi .len [.var 0]))]),
  .ret (.bm .join (.lit (.str [])) [.lc false [4] (.nm 4) (.rng [.bin .add (.lit (.int 1)) (.bin .mod (.var 3) (.lit (.int 30)))]) [] (.ix (.var 2) (.bin .mod (.bin .fdiv (.bi .int [.ix (.var 0) (.bin .mod (.bin .add (.var 1) (.var 4)) (.bi .len [.var 0]))]) (.bin .add (.lit (.int 1)) (.var 4))) (.lit (.int 26))))])]
def d__law_text : Def := ⟨"_law_text", topS 32, ["draws", "at", "signs", "draw", "k"], ⟨2, 5, true, b__law_text⟩⟩
def b__law_word : List S := [
  .try_ [.ifs (.cmp .eq (.var 0) (.lit (.int 0))) [.ex (.call 3 [.var 1, .var 2])] [.ifs (.cmp .eq (.var 0) (.lit (.int 1))) [.ex (.call 6 [.var 1, .var 2])] [.ex (.call 10 [.var 1])]]] [⟨[0], none, .ret (.lit (.str [115, 117, 109]))⟩, ⟨[1], none, .ret (.lit (.str [115, 105, 103, 110, 115]))⟩, ⟨[2], none, .ret (.lit (.str [99, 111, 117, 110, 116]))⟩, ⟨[3], none, .ret (.lit (.str [109, 97, 110, 121]))⟩, ⟨[4], some 3, .ret (.ite 0 (.int (-1)) (.lit (.str [116, 101, 120, 116])) (.lit (.str [111, 116, 104, 101, 114])))⟩],
  .ret (.lit (.str [110, 111, 110, 101]))]
def d__law_word : Def := ⟨"_law_word", topS 33, ["way", "one", "two", "e"], ⟨3, 4, true, b__law_word⟩⟩
def b_law : List S := [
  .asg (.nm 1) (.call 11 [.var 0, .lit (.int 60)]),
  .asg (.nm 2) (.lit (.str [97, 98, 99, 100, 101, 102, 103, 104, 105, 106, 107, 108, 109, 110, 111, 112, 113, 114, 115, 116, 117, 118, 119, 120, 121, 122, 48, 49, 50, 51, 52, 53, 54, 55, 56, 57, 34, 91, 93, 40, 41, 43, 60, 45, 94, 47, 61, 63, 58, 32, 123, 125, 62, 44, 59, 124])),
  .for_ (.nm 3) (.rng [.lit (.int 6)]) [.asg (.tp [(.nm 11), (.nm 12)]) (.tup [.call 14 [.var 1, .bin .mul (.lit (.int 9)) (.var 3)], .bin .mod (.bi .int [.ix (.var 1) (.bin .add (.lit (.int 50)) (.var 3))]) (.lit (.int 99991))]), .ifs (.or [.cmp .ne (.call 3 [.var 12, .var 11]) (.call 12 [.var 12, .var 11]), .isi (.call 3 [.var 12, .var 11]) .bool]) [.ret (.lit (.bl false))] [], .for_ (.nm 5) (.rng [.bi .len [.var 11]]) [.asg (.nm 13) (.ix (.var 2) (.bin .mod (.bi .int [.ix (.var 1) (.bin .mod (.bin .add (.var 5) (.var 3)) (.lit (.int 60)))]) (.bi .len [.var 2]))), .asg (.nm 14) (.bin .mod (.bi .int [.ix (.var 1) (.bin .mod (.bin .add (.bin .add (.var 5) (.lit (.int 7))) (.var 3)) (.lit (.int 60)))]) (.bi .len [.var 11])), .asg (.nm 15) (.bin .add (.bin .add (.sl false true (.var 11) (.lit .non) (.var 5)) (.var 13)) (.sl true false (.var 11) (.bin .add (.var 5) (.lit (.int 1))) (.lit .non))), .asg (.tp [(.nm 17), (.nm 18)]) (.tup [.bi .min2 [.var 5, .var 14], .bi .max2 [.var 5, .var 14]]), .asg (.nm 16) (.ite (.cmp .lt (.var 17) (.var 18)) (.bin .add (.bin .add (.bin .add (.bin .add (.sl false true (.var 11) (.lit .non) (.var 17)) (.ix (.var 11) (.var 18))) (.sl true true (.var 11) (.bin .add (.var 17) (.lit (.int 1))) (.var 18))) (.ix (.var 11) (.var 17))) (.sl true false (.var 11) (.bin .add (.var 18) (.lit (.int 1))) (.lit .non))) (.var 11)), .ifs (.or [.cmp .ne (.cmp .eq (.call 3 [.var 12, .var 15]) (.call 3 [.var 12, .var 11])) (.cmp .eq (.var 15) (.var 11)), .cmp .ne (.cmp .eq (.call 3 [.var 12, .var 16]) (.call 3 [.var 12, .var 11])) (.cmp .eq (.var 16) (.var 11))]) [.ret (.lit (.bl false))] []], .asg (.nm 6) (.ix (.call 13 [.lit (.int 1), .tup [.var 11]]) (.lit (.int 0))), .asg (.nm 7) (.sl true true (.var 6) (.neg (.lit (.int 6))) (.neg (.lit (.int 1)))), .asg (.nm 8) (.lst false [.bin .add (.bin .add (.lit (.str [48, 49, 32])) (.var 11)) (.lit (.str [32])), .bin .add (.lit (.str [49, 32])) (.var 11), .bin .add (.bin .add (.lit (.str [32])) (.var 11)) (.lit (.str [32])), .lit (.str [49, 32, 32]), .bin .add (.bin .add (.lit (.str [120, 32])) (.var 11)) (.lit (.str [32])), .bin .add (.bin .add (.lit (.str [49, 50, 51, 52, 53, 54, 32])) (.var 11)) (.lit (.str [32])), .bin .add (.bin .add (.lit (.str [45, 49, 32])) (.var 11)) (.lit (.str [32]))]), .asg (.nm 9) (.lc false [19] (.nm 19) (.seq (.var 8)) [] (.bin .add (.bin .add (.bin .add (.var 19) (.lit (.str [35]))) (.bm .join (.lit (.str [])) [.lc false [20] (.nm 20) (.seq (.lst false [.lit (.int 10000), .lit (.int 1000), .lit (.int 100), .lit (.int 10), .lit (.int 1)])) [] (.sl true false (.bi .str [.bin .fdiv (.call 12 [.lit (.int 0), .var 19]) (.var 20)]) (.neg (.lit (.int 1))) (.lit .non))])) (.lit (.str [10])))), .asg (.nm 9) (.bin .add (.var 9) (.lst false [.bin .add (.bin .add (.sl false true (.var 6) (.lit .non) (.neg (.lit (.int 6)))) (.sl true false (.var 7) (.lit (.int 1)) (.lit .non))) (.lit (.str [10])), .bin .add (.sl false true (.var 6) (.lit .non) (.neg (.lit (.int 1)))) (.lit (.str [48, 10])), .bin .add (.bin .add (.sl false true (.var 6) (.lit .non) (.neg (.lit (.int 7)))) (.var 7)) (.lit (.str [10])), .bin .add (.bin .add (.bin .add (.sl false true (.var 6) (.lit .non) (.neg (.lit (.int 6)))) (.bi .str [.bi .int [.cmp .eq (.ix (.var 7) (.lit (.int 0))) (.lit (.str [48]))]])) (.sl true false (.var 7) (.lit (.int 1)) (.lit .non))) (.lit (.str [10])), .sl false true (.var 6) (.lit .non) (.neg (.lit (.int 1))), .bin .add (.lit (.str [10])) (.var 6), .bin .add (.sl false true (.var 6) (.lit .non) (.neg (.lit (.int 1)))) (.lit (.str [32, 10]))])), .for_ (.nm 10) (.seq (.var 9)) [.ifs (.and [.cmp .ne (.call 10 [.var 10]) (.tup [.lit (.int 1), .tup [], .lit (.int 0)]), .cmp .nmem (.var 10) (.lst false [.var 6])]) [.ifs (.or [.cmp .ne (.var 10) (.ix (.var 9) (.lit (.int 1))), .cmp .nmem (.lit (.str [32])) (.sl true false (.var 11) (.lit (.int 1)) (.lit .non))]) [.ret (.lit (.bl false))] []] []]],
  .for_ (.nm 4) (.seq (.lst false [.lit .non, .neg (.lit (.int 1)), .lit (.int 99991), .lit (.bl true), .lit (.str [48])])) [.ifs (.cmp .ne (.call 15 [.lit (.int 0), .var 4, .lit .non]) (.lit (.str [115, 117, 109]))) [.ret (.lit (.bl false))] []],
  .for_ (.nm 4) (.seq (.lst false [.lit .non, .lit (.str [65]), .lit (.str [97, 10]), .lit (.str [35]), .tup [.lit (.str [97])], .lit (.int 5)])) [.ifs (.cmp .ne (.call 15 [.lit (.int 0), .lit (.int 0), .var 4]) (.lit (.str [115, 105, 103, 110, 115]))) [.ret (.lit (.bl false))] []],
  .for_ (.nm 4) (.seq (.lst false [.lit .non, .lit (.str [97]), .lst false [.lit (.str [97])], .tup [.lit (.str [])], .tup [.lit (.str [65])], .tup [.lit (.str [97, 10])], .tup [.lit (.str [35])], .tup [.lit .non], .tup [.bin .mul (.lit (.str [97])) (.lit (.int 20001))]])) [.ifs (.cmp .ne (.call 15 [.lit (.int 1), .lit .non, .var 4]) (.lit (.str [115, 105, 103, 110, 115]))) [.ret (.lit (.bl false))] []],
  .for_ (.nm 4) (.seq (.lst false [.lit .non, .neg (.lit (.int 1)), .lit (.int 100000), .lit (.bl true), .lit (.str [49])])) [.ifs (.cmp .ne (.call 15 [.lit (.int 1), .var 4, .tup [.lit (.str [97])]]) (.lit (.str [99, 111, 117, 110, 116]))) [.ret (.lit (.bl false))] []],
  .ifs (.cmp .ne (.lc false [4] (.nm 4) (.seq (.lst false [.lit .non, .lit (.int 5), .tup [.lit (.str [97])], .lst false [.lit (.str [97])]])) [] (.call 15 [.lit (.int 2), .var 4, .lit .non])) (.bin .mul (.lst false [.lit (.str [116, 101, 120, 116])]) (.lit (.int 4)))) [.ret (.lit (.bl false))] [],
  .ifs (.cmp .ne (.lst false [.call 15 [.lit (.int 1), .lit (.int 1), .bin .mul (.tup [.lit (.str [97])]) (.lit (.int 401))], .call 15 [.lit (.int 1), .lit (.int 99999), .tup [.lit (.str [97]), .lit (.str [98])]], .call 15 [.lit (.int 1), .lit (.int 99999), .tup [.lit (.str [97])]], .call 15 [.lit (.int 1), .lit (.int 1), .tup []]]) (.lst false [.lit (.str [109, 97, 110, 121]), .lit (.str [109, 97, 110, 121]), .lit (.str [110, 111, 110, 101]), .lit (.str [110, 111, 110, 101])])) [.ret (.lit (.bl false))] [],
  .ret (.and [.cmp .eq (.call 6 [.lit (.int 1), .tup []]) (.lit (.str [])), .cmp .eq (.call 10 [.lit (.str [104, 101, 108, 108, 111])]) (.tup [.lit (.int 1), .tup [], .lit (.int 0)]), .cmp .eq (.call 10 [.call 6 [.lit (.int 7), .tup [.bin .mul (.lit (.str [97])) (.lit (.int 20000))]]]) (.tup [.lit (.int 7), .tup [.bin .mul (.lit (.str [97])) (.lit (.int 20000))], .lit (.int 20010)])])]
def d_law : Def := ⟨"law", topS 34, ["script", "draws", "signs", "turn", "wrong", "k", "good", "total", "heads", "bad", "one", "text", "ahead", "sign", "n", "changed", "swapped", "i", "j", "head", "size"], ⟨1, 21, true, b_law⟩⟩
def T : Tab := ⟨[("is_whole", 3), ("are_signs", 1), ("sum_in", 2), ("sum_of", 2), ("line_by", 3), ("lines_by", 3), ("lines_of", 2), ("_row", 2), ("rows_of", 1), ("check_text", 1), ("texts_of", 1), ("_law_draws", 2), ("_law_sum", 2), ("_law_lines", 2), ("_law_text", 2), ("_law_word", 3), ("law", 1)],
  [("MOST_TEXT", vMOST_TEXT), ("SIGNS", vSIGNS), ("WEIGHT", vWEIGHT), ("SUMS", vSUMS), ("SUM_FIGURES", vSUM_FIGURES), ("MOST_COUNT", vMOST_COUNT), ("MOST_TEXTS", vMOST_TEXTS), ("FIGURES", vFIGURES)],
  [("BadSum", none), ("BadSigns", none), ("BadCount", none), ("TooMany", none), ("BadText", some "at")],
  ["isinstance", "int", "bool", "str", "len", "all", "enumerate", "tuple", "abs", "range", "min", "max"],
  [[0], [1], [2], [3], [4]]⟩
def defs : List Def := [d_is_whole, d_are_signs, d_sum_in, d_sum_of, d_line_by, d_lines_by, d_lines_of, d__row, d_rows_of, d_check_text, d_texts_of, d__law_draws, d__law_sum, d__law_lines, d__law_text, d__law_word, d_law]
def fns : List Fn := defs.map (·.F)
theorem ok_is_whole : DefOk T d_is_whole := ⟨⟨rfl, rfl, rfl, by decide +kernel, rfl, by decide +kernel, by decide +kernel⟩, by decide +kernel, rfl, fun _ _ _ _ _ _ us hl => match us, hl with | [_, _, _], _ => rfl, by decide +kernel⟩
theorem ok_are_signs : DefOk T d_are_signs := ⟨⟨rfl, rfl, rfl, by decide +kernel, rfl, by decide +kernel, by decide +kernel⟩, by decide +kernel, rfl, fun _ _ _ _ _ _ us hl => match us, hl with | [_], _ => rfl, by decide +kernel⟩
theorem ok_sum_in : DefOk T d_sum_in := ⟨⟨rfl, rfl, rfl, by decide +kernel, rfl, by decide +kernel, by decide +kernel⟩, by decide +kernel, rfl, fun _ _ _ _ _ _ us hl => match us, hl with | [_, _], _ => rfl, by decide +kernel⟩
theorem ok_sum_of : DefOk T d_sum_of := ⟨⟨rfl, rfl, rfl, by decide +kernel, rfl, by decide +kernel, by decide +kernel⟩, by decide +kernel, rfl, fun _ _ _ _ _ _ us hl => match us, hl with | [_, _], _ => rfl, by decide +kernel⟩
theorem ok_line_by : DefOk T d_line_by := ⟨⟨rfl, rfl, rfl, by decide +kernel, rfl, by decide +kernel, by decide +kernel⟩, by decide +kernel, rfl, fun _ _ _ _ _ _ us hl => match us, hl with | [_, _, _], _ => rfl, by decide +kernel⟩
theorem ok_lines_by : DefOk T d_lines_by := ⟨⟨rfl, rfl, rfl, by decide +kernel, rfl, by decide +kernel, by decide +kernel⟩, by decide +kernel, rfl, fun _ _ _ _ _ _ us hl => match us, hl with | [_, _, _], _ => rfl, by decide +kernel⟩
theorem ok_lines_of : DefOk T d_lines_of := ⟨⟨rfl, rfl, rfl, by decide +kernel, rfl, by decide +kernel, by decide +kernel⟩, by decide +kernel, rfl, fun _ _ _ _ _ _ us hl => match us, hl with | [_, _], _ => rfl, by decide +kernel⟩
theorem ok__row : DefOk T d__row := ⟨⟨rfl, rfl, rfl, by decide +kernel, rfl, by decide +kernel, by decide +kernel⟩, by decide +kernel, rfl, fun _ _ _ _ _ _ us hl => match us, hl with | [_, _], _ => rfl, by decide +kernel⟩
theorem ok_rows_of : DefOk T d_rows_of := ⟨⟨rfl, rfl, rfl, by decide +kernel, rfl, by decide +kernel, by decide +kernel⟩, by decide +kernel, rfl, fun _ _ _ _ _ _ us hl => match us, hl with | [_], _ => rfl, by decide +kernel⟩
theorem ok_check_text : DefOk T d_check_text := ⟨⟨rfl, rfl, rfl, by decide +kernel, rfl, by decide +kernel, by decide +kernel⟩, by decide +kernel, rfl, fun _ _ _ _ _ _ us hl => match us, hl with | [_], _ => rfl, by decide +kernel⟩
theorem ok_texts_of : DefOk T d_texts_of := ⟨⟨rfl, rfl, rfl, by decide +kernel, rfl, by decide +kernel, by decide +kernel⟩, by decide +kernel, rfl, fun _ _ _ _ _ _ us hl => match us, hl with | [_], _ => rfl, by decide +kernel⟩
theorem ok__law_draws : DefOk T d__law_draws := ⟨⟨rfl, rfl, rfl, by decide +kernel, rfl, by decide +kernel, by decide +kernel⟩, by decide +kernel, rfl, fun _ _ _ _ _ _ us hl => match us, hl with | [_, _], _ => rfl, by decide +kernel⟩
theorem ok__law_sum : DefOk T d__law_sum := ⟨⟨rfl, rfl, rfl, by decide +kernel, rfl, by decide +kernel, by decide +kernel⟩, by decide +kernel, rfl, fun _ _ _ _ _ _ us hl => match us, hl with | [_, _], _ => rfl, by decide +kernel⟩
theorem ok__law_lines : DefOk T d__law_lines := ⟨⟨rfl, rfl, rfl, by decide +kernel, rfl, by decide +kernel, by decide +kernel⟩, by decide +kernel, rfl, fun _ _ _ _ _ _ us hl => match us, hl with | [_, _], _ => rfl, by decide +kernel⟩
theorem ok__law_text : DefOk T d__law_text := ⟨⟨rfl, rfl, rfl, by decide +kernel, rfl, by decide +kernel, by decide +kernel⟩, by decide +kernel, rfl, fun _ _ _ _ _ _ us hl => match us, hl with | [_, _], _ => rfl, by decide +kernel⟩
theorem ok__law_word : DefOk T d__law_word := ⟨⟨rfl, rfl, rfl, by decide +kernel, rfl, by decide +kernel, by decide +kernel⟩, by decide +kernel, rfl, fun _ _ _ _ _ _ us hl => match us, hl with | [_, _, _], _ => rfl, by decide +kernel⟩
theorem ok_law : DefOk T d_law := ⟨⟨rfl, rfl, rfl, by decide +kernel, rfl, by decide +kernel, by decide +kernel⟩, by decide +kernel, rfl, fun _ _ _ _ _ _ us hl => match us, hl with | [_], _ => rfl, by decide +kernel⟩
theorem tabs : T.fns = defs.map fun d => (d.x, d.F.np) := by decide +kernel
theorem top {P : Program} {w : World} {K : PySem.W.Frag} {mg : Str → Option Value} {h : Heap} {fa : Addr} (fuel n : Nat) (X : K.In h) (G : h.Ns mainGlobals mg) (hfa : mg "law" = some (.ref fa))
    (d0 : DIn K "is_whole" (topS 8)) (d1 : DIn K "are_signs" (topS 18)) (d2 : DIn K "sum_in" (topS 19)) (d3 : DIn K "sum_of" (topS 20)) (d4 : DIn K "line_by" (topS 21)) (d5 : DIn K "lines_by" (topS 22)) (d6 : DIn K "lines_of" (topS 23)) (d7 : DIn K "_row" (topS 24)) (d8 : DIn K "rows_of" (topS 25)) (d9 : DIn K "check_text" (topS 26)) (d10 : DIn K "texts_of" (topS 27)) (d11 : DIn K "_law_draws" (topS 29)) (d12 : DIn K "_law_sum" (topS 30)) (d13 : DIn K "_law_lines" (topS 31)) (d14 : DIn K "_law_text" (topS 32)) (d15 : DIn K "_law_word" (topS 33)) (d16 : DIn K "law" (topS 34))
    (g0 : GIn K "MOST_TEXT" vMOST_TEXT) (g1 : GIn K "SIGNS" vSIGNS) (g2 : GIn K "WEIGHT" vWEIGHT) (g3 : GIn K "SUMS" vSUMS) (g4 : GIn K "SUM_FIGURES" vSUM_FIGURES) (g5 : GIn K "MOST_COUNT" vMOST_COUNT) (g6 : GIn K "MOST_TEXTS" vMOST_TEXTS) (g7 : GIn K "FIGURES" vFIGURES)
    (z0 : ZIn K "isinstance") (z1 : ZIn K "int") (z2 : ZIn K "bool") (z3 : ZIn K "str") (z4 : ZIn K "len") (z5 : ZIn K "all") (z6 : ZIn K "enumerate") (z7 : ZIn K "tuple") (z8 : ZIn K "abs") (z9 : ZIn K "range") (z10 : ZIn K "min") (z11 : ZIn K "max") (xa : allXB P K T.exs = true) (xm : allMB K T = true) :
    ∃ fd : FuncData, (∀ (s : Shared) (v : Value), BindsTo s fd ⟨[v], []⟩ [("script", v)]) ∧ ∀ base : Heap, K.In base → base.Ns mainGlobals mg → FnOk P w K mg base (L2.CX P w) (n + 2) fa fd ["script"] (lawSp K T.exs 1 (callF fuel fns n 16)) :=
  law_fn (T := T) (defs := defs) X G tabs ⟨⟨ok_is_whole, d0⟩, ⟨ok_are_signs, d1⟩, ⟨ok_sum_in, d2⟩, ⟨ok_sum_of, d3⟩, ⟨ok_line_by, d4⟩, ⟨ok_lines_by, d5⟩, ⟨ok_lines_of, d6⟩, ⟨ok__row, d7⟩, ⟨ok_rows_of, d8⟩, ⟨ok_check_text, d9⟩, ⟨ok_texts_of, d10⟩, ⟨ok__law_draws, d11⟩, ⟨ok__law_sum, d12⟩, ⟨ok__law_lines, d13⟩, ⟨ok__law_text, d14⟩, ⟨ok__law_word, d15⟩, ⟨ok_law, d16⟩, trivial⟩ ⟨g0, g1, g2, g3, g4, g5, g6, g7, trivial⟩ ⟨⟨z0.ex⟩, ⟨z1.ex⟩, ⟨z2.ex⟩, ⟨z3.ex⟩, ⟨z4.ex⟩, ⟨z5.ex⟩, ⟨z6.ex⟩, ⟨z7.ex⟩, ⟨z8.ex⟩, ⟨z9.ex⟩, ⟨z10.ex⟩, ⟨z11.ex⟩, trivial⟩ (allX_of xa) (allM_of xm) fuel n 16 d_law rfl rfl hfa rfl rfl
end K37

namespace K37
open MK
def fuel : Nat := 100000
def depth : Nat := 8
end K37

set_option linter.all false
set_option autoImplicit false
set_option maxRecDepth 100000
set_option maxHeartbeats 4000000
/-! K37m1: what the defs come to. -/
namespace K37
open MK
def o (n : Nat) : Orc := ⟨fun g ws S' => callF fuel fns n g ws S', fuel⟩
@[simp] theorem o_call (n g : Nat) (ws : List PV) (S : Store) : (o n).call g ws S = callF fuel fns n g ws S := rfl
def SIG : List Nat := [97, 98, 99, 100, 101, 102, 103, 104, 105, 106, 107, 108, 109, 110, 111, 112, 113, 114, 115, 116, 117, 118, 119, 120, 121, 122, 48, 49, 50, 51, 52, 53, 54, 55, 56, 57, 34, 91, 93, 40, 41, 43, 60, 45, 94, 47, 61, 63, 58, 32, 123, 125, 62, 44, 59, 124]
theorem vSIGNS_eq : vSIGNS = .str SIG := rfl
/-- a sign's weight -/
def wt (c : Nat) : Nat := match findC c SIG 0 with
  | some k => k + 1
  | none => 0
def wsum : Nat → List Nat → Nat
  | _, [] => 0
  | p, c :: r => (p + 1) * wt c + wsum (p + 1) r
def sumIn (a : Int) (s : List Nat) : Int := (7 * a + wsum 0 s) % 99991
theorem findC_some {c : Nat} : ∀ (s : List Nat) (k : Nat), c ∈ s → ∃ j, findC c s k = some j ∧ j < k + s.length
  | [], k, h => absurd h (by simp)
  | x :: r, k, h => by
    unfold findC
    by_cases hx : x = c
    · exact ⟨k, if_pos hx, by simp⟩
    · rw [if_neg hx]
      obtain ⟨j, hj, hl⟩ := findC_some r (k + 1) (by
        rcases List.mem_cons.mp h with e | e
        · exact absurd e.symm hx
        · exact e)
      exact ⟨j, hj, by rw [List.length_cons]; omega⟩
theorem wt_of {c : Nat} (h : c ∈ SIG) : ∃ j, findC c SIG 0 = some j ∧ wt c = j + 1 ∧ j < 56 := by
  obtain ⟨j, hj, hl⟩ := findC_some SIG 0 h
  refine ⟨j, hj, ?_, by simpa [SIG] using hl⟩
  unfold wt
  rw [hj]
theorem wt_le (c : Nat) : wt c ≤ 56 := by
  unfold wt
  split
  · rename_i k hk
    by_cases h : c ∈ SIG
    · obtain ⟨j, hj, _, hl⟩ := wt_of h
      rw [hk] at hj
      cases hj
      omega
    · exfalso
      have : ∀ (s : List Nat) (k : Nat), c ∉ s → findC c s k = none := by
        intro s
        induction s with
        | nil => intro k _; rfl
        | cons x r ih =>
          intro k hn
          unfold findC
          rw [if_neg (fun e => hn (by simp [e]))]
          exact ih (k + 1) (fun e => hn (by simp [e]))
      rw [this SIG 0 h] at hk
      cases hk
  · omega
theorem wsum_app : ∀ (p : Nat) (s t : List Nat), wsum p (s ++ t) = wsum p s + wsum (p + s.length) t
  | p, [], t => by simp [wsum]
  | p, c :: r, t => by
    rw [List.cons_append, wsum, wsum, wsum_app, List.length_cons, show p + 1 + r.length = p + (r.length + 1) from by omega]
    omega
theorem wsum_take {s : List Nat} {i c : Nat} (h : s[i]? = some c) : wsum 0 (s.take (i + 1)) = wsum 0 (s.take i) + (i + 1) * wt c := by
  have hi : i < s.length := (List.getElem?_eq_some_iff.mp h).1
  rw [List.take_add_one, h, wsum_app]
  simp only [Option.toList, wsum, List.length_take]
  rw [show 0 + min i s.length = i from by omega]
  omega

theorem cl_is_whole (n : Nat) (a b c : PV) (S : Store) : callF fuel fns (n + 1) 0 [a, b, c] S = fin true S (evSs (o n) b_is_whole [some a, some b, some c] S) := rfl
theorem cl_are_signs (n : Nat) (t : PV) (S : Store) : callF fuel fns (n + 1) 1 [t] S = fin true S (evSs (o n) b_are_signs [some t, none] S) := rfl
theorem cl_sum_in (n : Nat) (a t : PV) (S : Store) : callF fuel fns (n + 1) 2 [a, t] S = fin true S (evSs (o n) b_sum_in [some a, some t, none, none, none] S) := rfl
theorem is_whole_eq (n : Nat) (v lo hi : Int) (S : Store) : callF fuel fns (n + 1) 0 [.int v, .int lo, .int hi] S = .ok (.bl (decide (lo ≤ v ∧ v ≤ hi))) S := by
  rw [cl_is_whole]
  unfold b_is_whole
  simp [isTy, cmp2K]
  by_cases h : lo ≤ v
  · simp [h, fin_bl]
  · simp [h, fin_bl]
theorem sum_in_eq (n : Nat) (a : Int) (s : List Nat) (S : Store) (ha : a.natAbs < 2 ^ 64) (hs : ∀ c ∈ s, c ∈ SIG) : callF fuel fns (n + 1) 2 [.int a, .str s] S = .ok (.int (sumIn a s)) S := by
  rw [cl_sum_in]
  unfold b_sum_in
  have h7 : evBin S .mul (.int 7) (.int a) = some (.int (7 * a)) := mul_int _ (by unfold mulOk; simp)
  simp [vWEIGHT, h7, asgK_nm, walkOf, enumW]
  have key := forL_run (step := turn (o n) (.tp [.nm 3, .nm 4]) [.aug 2 .add (.bin .mul (.bin .add (.var 3) (.lit (.int 1))) (.bin .add (.bm .index (.gl vSIGNS) [.var 4]) (.lit (.int 1))))])
    (fun i ρ S' => S' = S ∧ ∃ x y, ρ = [some (.int a), some (.str s), some (.int (7 * a + wsum 0 (s.take i))), x, y]) (enumFrom 0 (s.map fun c => .str [c])) 0 [some (.int a), some (.str s), some (.int (7 * a)), none, none] S ⟨rfl, none, none, by simp [wsum]⟩ ?_
  · obtain ⟨ρ', S', e, rfl, x, y, rfl⟩ := key
    rw [forK, forW_free rfl, e]
    have hm : ∀ z : Int, evBin S' .mod (.int z) (.int 99991) = some (.int (z % 99991)) := fun z => mod_int _ (by decide)
    simp [vSUMS, hm, fin_int, sumIn]
  · rintro i x ρ S' hx ⟨rfl, u, v, rfl⟩
    rw [enumFrom_at, List.getElem?_map] at hx
    obtain ⟨y, hy, rfl⟩ := Option.map_eq_some_iff.mp hx
    obtain ⟨c, hc, rfl⟩ := Option.map_eq_some_iff.mp hy
    have hcs := hs c (List.mem_of_getElem? hc)
    obtain ⟨j, hj, hw, hjl⟩ := wt_of hcs
    have hix : evBM S' .index (.str SIG) [.str [c]] = some (.int (j : Int)) := by
      show (findC c SIG 0).map _ = _
      rw [hj]; rfl
    have hm : evBin S' .mul (.int ((i : Int) + 1)) (.int ((j : Int) + 1)) = some (.int (((i : Int) + 1) * ((j : Int) + 1))) := mul_int _ (by unfold mulOk; simp; omega)
    have hwt := wsum_take hc
    rw [hw] at hwt
    have e : 7 * a + (wsum 0 (s.take i) : Int) + ((i : Int) + 1) * ((j : Int) + 1) = 7 * a + (wsum 0 (s.take (i + 1)) : Int) := by
      rw [hwt]; push_cast; omega
    refine ⟨_, _, .inl (by simp [turn, asg, asgs, vSIGNS_eq, hix, hm, augK]; rfl), rfl, some (.int i), some (.str [c]), by rw [Nat.zero_add, ← e]⟩
end K37

set_option linter.all false
set_option autoImplicit false
set_option maxRecDepth 100000
set_option maxHeartbeats 4000000
/-! K37m2: signs, one line, all lines. -/
namespace K37
open MK
theorem SZ_big : SZ = 16777216 := rfl
theorem signs_walk (m : Nat) (i : Nat) (ρ : Env) (s : List Nat) (S : Store) (hs : s.length ≤ SZ) (hi : i < ρ.length) :
    evE (o m) (.lc false [i] (.nm i) (.seq (.lit (.str s))) [] (.cmp .mem (.var i) (.gl vSIGNS))) ρ S = .ok (.lst (s.map fun c => .bl (decide (c ∈ SIG)))) S := by
  simp [lcK]
  rw [compL_map (fun c => .str [c]) (fun c => .bl (decide (c ∈ SIG))) S s [] fun c _ => ?_]
  · rw [Out.bind_ok, lcE, if_pos (by simpa using hs)]
    simp
  · refine cturn_ok (ρ' := (wipe ρ [i]).set i (some (.str [c]))) ?_ ?_ rfl
    · show (if i < (wipe ρ [i]).length then some ((wipe ρ [i]).set i (some (.str [c]))) else none) = _
      rw [if_pos (by simpa [wipe] using hi)]
    · have : ((wipe ρ [i]).set i (some (.str [c])))[i]? = some (some (.str [c])) := by
        rw [List.getElem?_set_self (by simpa [wipe] using hi)]
      simp [this, vSIGNS_eq, cmpK]
/-- the comprehension over signs, wherever its text comes from -/
theorem signs_lc (m : Nat) (i : Nat) (ρ : Env) (s : List Nat) (S : Store) (hs : s.length ≤ SZ) (hi : i < ρ.length) :
    lcK (o m) false [i] (.nm i) [] (.cmp .mem (.var i) (.gl vSIGNS)) ρ (s.map fun c => .str [c], none) S = .ok (.lst (s.map fun c => .bl (decide (c ∈ SIG)))) S := by
  have := signs_walk m i ρ s S hs hi
  simpa using this
theorem are_signs_eq (n : Nat) (s : List Nat) (S : Store) (hs : s.length ≤ SZ) : callF fuel fns (n + 1) 1 [.str s] S = .ok (.bl (decide (1 ≤ s.length ∧ s.length ≤ 20000) && s.all fun c => decide (c ∈ SIG))) S := by
  rw [cl_are_signs]
  unfold b_are_signs
  simp only [evSs_cons, evS_ret, evE_and, evAnd_cons, evE_isi, evE_var, List.getElem?_cons_zero, Out.bind_ok, isTy_str_str, Option.map_some, lift_some, andK_true, evE_cmp2, evE_lit, evE_bi, evEs_cons, evEs_nil, len_str, vMOST_TEXT, cmp2_gl]
  rw [and_ok (c := s.all fun c => decide (c ∈ SIG)) fun _ => by simp [signs_lc _ _ _ s S hs, evBI_all]]
  simp [fin_bl]
  have e1 : decide ((1 : Int) ≤ s.length) = decide (1 ≤ s.length) := decide_eq_decide.mpr (by omega)
  have e2 : decide ((s.length : Int) ≤ 20000) = decide (s.length ≤ 20000) := decide_eq_decide.mpr (by omega)
  rw [e1, e2]

/-- a line's head, and the line -/
def headL (c : Nat) (t : List Nat) : List Nat := figs (c : Int) ++ [32] ++ t ++ [32]
def rj (i : Nat) : List Nat := List.replicate (5 - (figs (i : Int)).length) 48 ++ figs (i : Int)
/-- the sums are natural numbers -/
def sumN (a : Nat) (s : List Nat) : Nat := (7 * a + wsum 0 s) % 99991
theorem sumN_eq (a : Nat) (s : List Nat) : sumIn (a : Int) s = (sumN a s : Int) := by
  unfold sumIn sumN
  generalize wsum 0 s = w
  omega
theorem sumN_lt (a : Nat) (s : List Nat) : sumN a s < 99991 := Nat.mod_lt _ (by decide)
def bodyL (a c : Nat) (t : List Nat) : List Nat := headL c t ++ [35] ++ rj (sumN a (headL c t))
def lineL (a c : Nat) (t : List Nat) : List Nat := bodyL a c t ++ [10]
theorem dig_sig {c : Nat} (h : 48 ≤ c ∧ c ≤ 57) : c ∈ SIG := by
  have : ∀ d : Fin 10, 48 + d.val ∈ SIG := by decide
  have := this ⟨c - 48, by omega⟩
  rw [show 48 + (c - 48) = c from by omega] at this
  exact this
theorem head_sig {c : Nat} {t : List Nat} (ht : ∀ x ∈ t, x ∈ SIG) : ∀ x ∈ headL c t, x ∈ SIG := by
  intro x hx
  unfold headL at hx
  simp only [List.mem_append, List.mem_singleton] at hx
  rcases hx with ((h | h) | h) | h
  · exact dig_sig (figs_digit c x h)
  · rw [h]; decide
  · exact ht x h
  · rw [h]; decide
theorem rj_eq (S : Store) {i : Nat} (h : i < 99991) : evBM S .rjust (.str (figs (i : Int))) [.int 5, .str [48]] = some (.str (rj i)) := by
  have := figs_le 5 i (by decide) (by omega)
  show (if 0 ≤ (5 : Int) ∧ (5 : Int) ≤ 1000 ∧ (figs (i : Int)).length ≤ 1000000 then some (PV.str (List.replicate ((5 : Int).toNat - (figs (i : Int)).length) 48 ++ figs (i : Int))) else none) = _
  rw [if_pos ⟨by decide, by decide, by omega⟩]
  rfl
theorem rj_len {i : Nat} (h : i < 99991) : (rj i).length = 5 := by
  have := figs_le 5 i (by decide) (by omega)
  unfold rj
  simp
  omega
theorem head_len (c : Nat) (t : List Nat) : (headL c t).length = (figs (c : Int)).length + t.length + 2 := by
  unfold headL
  simp
  omega
theorem cl_line_by (n : Nat) (a c t : PV) (S : Store) : callF fuel fns (n + 1) 4 [a, c, t] S = fin true S (evSs (o n) b_line_by [some a, some c, some t, none, none] S) := rfl
theorem line_by_eq (n a c : Nat) (t : List Nat) (S : Store) (ha : a < 99991) (hc : c < 1000000) (ht : ∀ x ∈ t, x ∈ SIG) (hl : t.length ≤ 20000) :
    callF fuel fns (n + 2) 4 [.int a, .int c, .str t] S = .ok (.tup [.str (lineL a c t), .int (sumN a (headL c t))]) S := by
  rw [cl_line_by]
  unfold b_line_by
  have hf := figs_le 6 c (by decide) (by omega)
  have hs := evBI_str_nat S (n := c) (by omega)
  have hs2 := evBI_str_nat S (n := sumN a (headL c t)) (Nat.lt_trans (sumN_lt _ _) (by decide))
  have a1 : evBin S .add (.str (figs (c : Int))) (.str [32]) = some (.str (figs (c : Int) ++ [32])) := add_str _ (by rw [SZ_big]; simp; omega)
  have a2 : evBin S .add (.str (figs (c : Int) ++ [32])) (.str t) = some (.str (figs (c : Int) ++ [32] ++ t)) := add_str _ (by rw [SZ_big]; simp; omega)
  have a3 : evBin S .add (.str (figs (c : Int) ++ [32] ++ t)) (.str [32]) = some (.str (headL c t)) := add_str _ (by rw [SZ_big]; simp; omega)
  have hh := head_len c t
  have a4 : evBin S .add (.str (headL c t)) (.str [35]) = some (.str (headL c t ++ [35])) := add_str _ (by rw [SZ_big]; simp; omega)
  have hr := rj_len (sumN_lt a (headL c t))
  have a5 : evBin S .add (.str (headL c t ++ [35])) (.str (rj (sumN a (headL c t)))) = some (.str (bodyL a c t)) := add_str _ (by rw [SZ_big]; simp; omega)
  have a6 : evBin S .add (.str (bodyL a c t)) (.str [10]) = some (.str (lineL a c t)) := add_str _ (by rw [SZ_big]; unfold bodyL; simp; omega)
  have hsum := sum_in_eq n (a : Int) (headL c t) S (by omega) (head_sig ht)
  rw [sumN_eq] at hsum
  simp only [evSs_cons, evSs_nil, evS_asg, evS_ret, evE_bin, evE_bi, evE_bm, evE_call, evE_tup, evE_var, evE_lit, evE_gl, evEs_cons, evEs_nil, List.getElem?_cons_zero, List.getElem?_cons_succ, Out.bind_ok, Out.toS_ok, lift_some, hs, a1, a2, a3, asgK_nm, List.length_cons, List.length_nil, List.set_cons_succ, List.set_cons_zero, SOut.next_andThen, o_call, hsum]
  simp [asgK_nm, hs2, vSUM_FIGURES, rj_eq S (sumN_lt a (headL c t)), a4, a5, a6, hsum, tupK, SZ_big, fin, close, frz, frzL]
end K37

set_option linter.all false
set_option autoImplicit false
set_option maxRecDepth 100000
set_option maxHeartbeats 4000000
/-! K37m3: all lines. -/
namespace K37
open MK
def linesF : Nat → Nat → List (List Nat) → List (List Nat)
  | _, _, [] => []
  | a, c, t :: r => lineL a c t :: linesF (sumN a (headL c t)) (c + 1) r
def aft : Nat → Nat → List (List Nat) → Nat
  | a, _, [] => a
  | a, c, t :: r => aft (sumN a (headL c t)) (c + 1) r
theorem linesF_app : ∀ (a c : Nat) (xs ys : List (List Nat)), linesF a c (xs ++ ys) = linesF a c xs ++ linesF (aft a c xs) (c + xs.length) ys
  | _, _, [], _ => rfl
  | a, c, t :: r, ys => by
    rw [List.cons_append, linesF, linesF, linesF_app, aft, List.length_cons, List.cons_append, show c + 1 + r.length = c + (r.length + 1) from by omega]
theorem aft_app : ∀ (a c : Nat) (xs ys : List (List Nat)), aft a c (xs ++ ys) = aft (aft a c xs) (c + xs.length) ys
  | _, _, [], _ => rfl
  | a, c, t :: r, ys => by
    rw [List.cons_append, aft, aft, aft_app, List.length_cons, show c + 1 + r.length = c + (r.length + 1) from by omega]
theorem linesF_len : ∀ (a c : Nat) (xs : List (List Nat)), (linesF a c xs).length = xs.length
  | _, _, [] => rfl
  | a, c, t :: r => by rw [linesF, List.length_cons, List.length_cons, linesF_len]
theorem aft_lt : ∀ (a c : Nat) (xs : List (List Nat)), a < 99991 → aft a c xs < 99991
  | _, _, [], h => h
  | a, c, t :: r, _ => aft_lt _ _ r (sumN_lt _ _)
theorem take_snoc {ts : List (List Nat)} {i : Nat} {t : List Nat} (h : ts[i]? = some t) : ts.take (i + 1) = ts.take i ++ [t] := by
  rw [List.take_add_one, h]; rfl
theorem aft_take {a c : Nat} {ts : List (List Nat)} {i : Nat} {t : List Nat} (h : ts[i]? = some t) : aft a c (ts.take (i + 1)) = sumN (aft a c (ts.take i)) (headL (c + i) t) := by
  have hi : i < ts.length := (List.getElem?_eq_some_iff.mp h).1
  rw [take_snoc h, aft_app, List.length_take, Nat.min_eq_left (by omega)]
  rfl
theorem linesF_take {a c : Nat} {ts : List (List Nat)} {i : Nat} {t : List Nat} (h : ts[i]? = some t) : linesF a c (ts.take (i + 1)) = linesF a c (ts.take i) ++ [lineL (aft a c (ts.take i)) (c + i) t] := by
  have hi : i < ts.length := (List.getElem?_eq_some_iff.mp h).1
  rw [take_snoc h, linesF_app, List.length_take, Nat.min_eq_left (by omega)]
  rfl
theorem linesF_take2 (a c : Nat) (ts : List (List Nat)) (i : Nat) : (linesF a c ts).take i = linesF a c (ts.take i) := by
  by_cases h : i ≤ ts.length
  · have : linesF a c ts = linesF a c (ts.take i) ++ linesF (aft a c (ts.take i)) (c + (ts.take i).length) (ts.drop i) := by rw [← linesF_app, List.take_append_drop]
    rw [this, List.take_append_of_le_length (by rw [linesF_len, List.length_take]; omega), List.take_of_length_le (by rw [linesF_len, List.length_take]; omega)]
  · rw [List.take_of_length_le (by rw [linesF_len]; omega), List.take_of_length_le (by omega)]
theorem linesF_get {a c : Nat} {ts : List (List Nat)} {i : Nat} {t : List Nat} (h : ts[i]? = some t) : (linesF a c ts)[i]? = some (lineL (aft a c (ts.take i)) (c + i) t) := by
  have hi : i < ts.length := (List.getElem?_eq_some_iff.mp h).1
  have h1 : ((linesF a c ts).take (i + 1))[i]? = (linesF a c ts)[i]? := by rw [List.getElem?_take, if_pos (by omega)]
  rw [← h1, linesF_take2, linesF_take h, List.getElem?_append_right (by rw [linesF_len, List.length_take]; omega), linesF_len, List.length_take, Nat.min_eq_left (by omega), Nat.sub_self]
  rfl
structure Ts (f : Nat) (ts : List (List Nat)) : Prop where
  few : ts.length ≤ 5
  ok : ∀ t ∈ ts, (∀ x ∈ t, x ∈ SIG) ∧ 1 ≤ t.length ∧ t.length ≤ 20000
  num : f ≤ 99990
theorem line_len {a c : Nat} {t : List Nat} (hc : c < 100000) : (lineL a c t).length = (figs (c : Int)).length + t.length + 9 := by
  unfold lineL bodyL
  have := rj_len (sumN_lt a (headL c t))
  have h2 := head_len c t
  simp
  omega
theorem flat_le (a c : Nat) : ∀ (ts : List (List Nat)), c + ts.length ≤ 100000 → (∀ t ∈ ts, t.length ≤ 20000) → (linesF a c ts).flatten.length ≤ 20014 * ts.length := by
  intro ts
  induction ts generalizing a c with
  | nil => intro _ _; simp [linesF]
  | cons t r ih =>
    intro h1 h2
    rw [List.length_cons] at h1
    rw [linesF, List.flatten_cons, List.length_append, line_len (by omega), List.length_cons]
    have := ih (sumN a (headL c t)) (c + 1) (by omega) fun u hu => h2 u (by simp [hu])
    have := h2 t (by simp)
    have := figs_le 5 c (by decide) (by omega)
    omega
theorem cl_lines_by (n : Nat) (a c t : PV) (S : Store) : callF fuel fns (n + 1) 5 [a, c, t] S = fin true S (evSs (o n) b_lines_by [some a, some c, some t, none, none, none, none] S) := rfl
def tup (ts : List (List Nat)) : PV := .tup (ts.map .str)
theorem lines_by_eq (n f : Nat) (ts : List (List Nat)) (S : Store) (T : Ts f ts) : callF fuel fns (n + 3) 5 [.int 0, .int f, tup ts] S = .ok (.str (linesF 0 f ts).flatten) S := by
  rw [cl_lines_by]
  unfold b_lines_by tup
  simp only [evSs_cons, evSs_nil, evS_asg, evE_lit, evE_var, Out.bind_ok, Out.toS_ok, asgK_nm, List.length_cons, List.length_nil, List.set_cons_succ, List.set_cons_zero, SOut.next_andThen, evS_for, evIt_enum, walk_tup, enum_some, lift_some, Nat.reduceLT, List.getElem?_cons_zero, List.getElem?_cons_succ, Nat.reduceAdd]
  have few := T.few
  have num := T.num
  have key := forL_run (step := turn (o (n + 2)) (.tp [(.nm 4), (.nm 5)]) [.asg (.tp [(.nm 6), (.nm 0)]) (.call 4 [.var 0, .bin .add (.var 1) (.var 4), .var 5]), .aug 3 .add (.var 6)])
    (fun i ρ S' => S' = S ∧ ∃ x y z, ρ = [some (.int (aft 0 f (ts.take i) : Nat)), some (.int f), some (.tup (ts.map .str)), some (.str (linesF 0 f (ts.take i)).flatten), x, y, z]) (enumFrom 0 (ts.map .str)) 0 [some (.int 0), some (.int f), some (.tup (ts.map .str)), some (.str []), none, none, none] S ⟨rfl, none, none, none, by simp [aft, linesF]⟩ ?_
  · obtain ⟨ρ', S', e, rfl, x, y, z, rfl⟩ := key
    rw [forK, forW_free rfl, e]
    simp [fin_str]
  · rintro i x ρ S' hx ⟨rfl, u, v, w, rfl⟩
    rw [enumFrom_at, List.getElem?_map] at hx
    obtain ⟨y, hy, rfl⟩ := Option.map_eq_some_iff.mp hx
    obtain ⟨t, ht, rfl⟩ := Option.map_eq_some_iff.mp hy
    have hi : i < ts.length := (List.getElem?_eq_some_iff.mp ht).1
    obtain ⟨q1, q2, q3⟩ := T.ok t (List.mem_of_getElem? ht)
    have hl := line_by_eq n (aft 0 f (ts.take i)) (f + i) t S' (aft_lt _ _ _ (by decide)) (by omega) q1 (by omega)
    rw [show ((f + i : Nat) : Int) = (f : Int) + (i : Int) from by push_cast; rfl] at hl
    have hfl := flat_le 0 f (ts.take (i + 1)) (by rw [List.length_take]; omega) fun t ht => (T.ok t (List.mem_of_mem_take ht)).2.2
    rw [linesF_take ht, List.flatten_append, List.length_append, List.length_take] at hfl
    have hau : evAug .add (.str (linesF 0 f (ts.take i)).flatten) (.str (lineL (aft 0 f (ts.take i)) (f + i) t)) = some (.str ((linesF 0 f (ts.take i)).flatten ++ lineL (aft 0 f (ts.take i)) (f + i) t)) := aug_add_str (by rw [SZ_big]; simp only [List.flatten_cons, List.flatten_nil, List.append_nil] at hfl; omega)
    refine ⟨_, _, .inl (by simp [turn, asg, asgs, asgK, hl, augK, hau]; rfl), rfl, some (.int i), some (.str t), some (.str (lineL (aft 0 f (ts.take i)) (f + i) t)), ?_⟩
    simp [aft_take ht, linesF_take ht]
theorem cl_lines_of (n : Nat) (c t : PV) (S : Store) : callF fuel fns (n + 1) 6 [c, t] S = fin true S (evSs (o n) b_lines_of [some c, some t, none] S) := rfl
theorem cl_law_sum (n : Nat) (a t : PV) (S : Store) : callF fuel fns (n + 1) 12 [a, t] S = fin true S (evSs (o n) b__law_sum [some a, some t, none, none, none] S) := rfl
theorem lines_of_eq (n f : Nat) (ts : List (List Nat)) (S : Store) (T : Ts f ts) : callF fuel fns (n + 4) 6 [.int f, tup ts] S = .ok (.str (linesF 0 f ts).flatten) S := by
  rw [cl_lines_of]
  unfold b_lines_of
  have few := T.few
  have num := T.num
  have hlc : lcK (o (n + 3)) false [2] (.nm 2) [] (.call 1 [.var 2]) [some (.int f), some (tup ts), none] (ts.map .str, none) S = .ok (.lst (ts.map fun _ => .bl true)) S := by
    unfold lcK
    rw [compL_map .str (fun _ => .bl true) S ts [] fun t ht => ?_]
    · rw [Out.bind_ok, lcE, if_pos (by rw [SZ_big]; simp; omega)]
      simp
    · obtain ⟨q1, q2, q3⟩ := T.ok t ht
      have h1 := are_signs_eq (n + 2) t S (by rw [SZ_big]; omega)
      have h2 : (decide (1 ≤ t.length ∧ t.length ≤ 20000) && t.all fun c => decide (c ∈ SIG)) = true := by
        rw [Bool.and_eq_true, decide_eq_true_eq, List.all_eq_true]
        exact ⟨by omega, fun c hc => decide_eq_true (q1 c hc)⟩
      rw [h2] at h1
      exact cturn_ok (ρ' := [some (.int f), some (tup ts), some (.str t)]) rfl (by simp [h1]) rfl
  have hall : evBI S .all [.lst (ts.map fun _ => .bl true)] = some (.bl true) := by
    rw [evBI_all S (fun _ => true) ts]
    simp
  have hw := is_whole_eq (n + 2) (f : Int) 0 99999 S
  have d1 : decide ((0 : Int) ≤ f ∧ (f : Int) ≤ 99999) = true := decide_eq_true (by omega)
  rw [d1] at hw
  have hb := lines_by_eq n f ts S T
  have d2 : decide ((400 : Int) < ts.length) = false := decide_eq_false (by omega)
  have d3 : decide ((99999 : Int) < (f : Int) + ts.length - 1) = false := decide_eq_false (by omega)
  have hlc2 : lcK (o (n + 3)) false [2] (.nm 2) [] (.call 1 [.var 2]) [some (.int f), some (.tup (ts.map .str)), none] (ts.map .str, none) S = .ok (.lst (ts.map fun _ => .bl true)) S := hlc
  simp only [tup] at hb ⊢
  simp [hlc2, hall, hw, vMOST_COUNT, vMOST_TEXTS, cmpK, d2, d3, hb, fin_str]
theorem law_sum_eq (n a : Nat) (s : List Nat) (S : Store) (ha : a < 100000) (hs : ∀ c ∈ s, c ∈ SIG) (hl : s.length ≤ 30000) : callF fuel fns (n + 1) 12 [.int a, .str s] S = .ok (.int (sumN a s)) S := by
  rw [cl_law_sum]
  unfold b__law_sum
  have h7 : evBin S .mul (.int 7) (.int (a : Int)) = some (.int (7 * (a : Int))) := mul_int _ (by unfold mulOk; simp)
  have key := forL_run (step := turn (o n) (.nm 2) [.asg (.nm 4) (.bin .add (.var 4) (.bin .mul (.bin .add (.var 2) (.lit (.int 1))) (.bin .add (.bm .index (.var 3) [.ix (.var 1) (.var 2)]) (.lit (.int 1)))))])
    (fun i ρ S' => S' = S ∧ ∃ x, ρ = [some (.int a), some (.str s), x, some (.str SIG), some (.int (7 * a + wsum 0 (s.take i)))]) (rngL 0 s.length) 0 [some (.int a), some (.str s), none, some (.str SIG), some (.int (7 * a))] S ⟨rfl, none, by simp [wsum]⟩ ?_
  · obtain ⟨ρ', S', e, rfl, x, rfl⟩ := key
    have hl : (rngL 0 s.length).length = s.length := by simp [rngL]
    have hm : ∀ z : Int, evBin S' .mod (.int z) (.int 99991) = some (.int (z % 99991)) := fun z => mod_int _ (by decide)
    have hsig : [97, 98, 99, 100, 101, 102, 103, 104, 105, 106, 107, 108, 109, 110, 111, 112, 113, 114, 115, 116, 117, 118, 119, 120, 121, 122, 48, 49, 50, 51, 52, 53, 54, 55, 56, 57, 34, 91, 93, 40, 41, 43, 60, 45, 94, 47, 61, 63, 58, 32, 123, 125, 62, 44, 59, 124] = SIG := rfl
    have htk : s.take (0 + (rngL 0 s.length).length) = s := by rw [hl, Nat.zero_add, List.take_length]
    rw [htk] at e
    rw [hsig]
    have s1 : evS (o n) (.asg (.tp [(.nm 3), (.nm 4)]) (.tup [.lit (.str SIG), .bin .mul (.lit (.int 7)) (.var 0)])) [some (.int a), some (.str s), none, none, none] S' = .next [some (.int a), some (.str s), none, some (.str SIG), some (.int (7 * a))] S' := by
      simp [tupK, SZ_big, asgK_tp2, h7]
    rw [evSs_cons, s1, SOut.next_andThen, evSs_cons, for_rng1 (n := s.length) (S1 := S') (by simp) (by omega), e]
    simp [hm, fin_int]
    have := sumN_eq a s
    unfold sumIn at this
    exact this
  · rintro i x ρ S' hx ⟨rfl, u, rfl⟩
    unfold rngL at hx
    rw [List.getElem?_map] at hx
    obtain ⟨j, hj, rfl⟩ := Option.map_eq_some_iff.mp hx
    have hi : i < s.length := by simpa using (List.getElem?_eq_some_iff.mp hj).1
    rw [List.getElem?_range hi] at hj
    cases hj
    have hc : s[i]? = some s[i] := List.getElem?_eq_getElem hi
    have hcs := hs s[i] (List.getElem_mem hi)
    obtain ⟨j, hj, hw, hjl⟩ := wt_of hcs
    have hix : evBM S' .index (.str SIG) [.str [s[i]]] = some (.int (j : Int)) := by
      show (findC s[i] SIG 0).map _ = _
      rw [hj]; rfl
    have hat : evIx S' (.str s) (.int (i : Int)) = some (.str [s[i]]) := by
      show (ixAt s (i : Int)).map _ = _
      unfold ixAt
      rw [if_pos (by omega), Int.toNat_natCast, hc]
      rfl
    have hm : evBin S' .mul (.int ((i : Int) + 1)) (.int ((j : Int) + 1)) = some (.int (((i : Int) + 1) * ((j : Int) + 1))) := mul_int _ (by unfold mulOk; simp; omega)
    have hwt := wsum_take hc
    rw [hw] at hwt
    have e : 7 * (a : Int) + (wsum 0 (s.take i) : Int) + ((i : Int) + 1) * ((j : Int) + 1) = 7 * (a : Int) + (wsum 0 (s.take (i + 1)) : Int) := by
      rw [hwt]; push_cast; omega
    refine ⟨_, _, .inl (by simp [turn_nm, asgK_nm, hix, hat, hm]; rfl), rfl, some (.int i), by rw [Nat.zero_add, ← e]⟩
end K37

set_option linter.all false
set_option autoImplicit false
set_option maxRecDepth 100000
set_option maxHeartbeats 4000000
/-! K37m4: the law's own defs. -/
namespace K37
open MK
theorem figs_snoc (n : Nat) : ∃ p, figs (n : Int) = p ++ [48 + n % 10] := by
  rw [figs_if]
  split
  · exact ⟨[], by simp; omega⟩
  · exact ⟨_, rfl⟩
theorem cut_last (p : List Nat) (c : Nat) : cut (p ++ [c]) (some (-1)) none = [c] := by
  unfold cut clip
  simp
  rw [show ((-1 : Int) + ((p.length : Int) + 1)).toNat = p.length from by omega]
  simp
def digs (n : Nat) : List Nat := [48 + n / 10000 % 10, 48 + n / 1000 % 10, 48 + n / 100 % 10, 48 + n / 10 % 10, 48 + n / 1 % 10]
theorem rj_digs {n : Nat} (h : n < 100000) : rj n = digs n := by
  unfold rj digs
  rw [figs_if]
  by_cases h1 : n < 10
  · rw [if_pos h1]
    simp [List.replicate]
    omega
  rw [if_neg h1, figs_if (n / 10)]
  by_cases h2 : n / 10 < 10
  · rw [if_pos h2]
    simp [List.replicate]
    omega
  rw [if_neg h2, figs_if (n / 10 / 10)]
  by_cases h3 : n / 10 / 10 < 10
  · rw [if_pos h3]
    simp [List.replicate]
    omega
  rw [if_neg h3, figs_if (n / 10 / 10 / 10)]
  by_cases h4 : n / 10 / 10 / 10 < 10
  · rw [if_pos h4]
    simp [List.replicate]
    omega
  rw [if_neg h4, figs_if (n / 10 / 10 / 10 / 10), if_pos (by omega)]
  simp [List.replicate]
  omega
theorem cl_law_lines (n : Nat) (a t : PV) (S : Store) : callF fuel fns (n + 1) 13 [a, t] S = fin true S (evSs (o n) b__law_lines [some a, some t, none, none, none, none, none] S) := rfl
def llB : List MK.S := [.asg (.nm 5) (.bin .add (.bin .add (.bin .add (.bi .str [.bin .add (.var 0) (.var 2)]) (.lit (.str [32]))) (.ix (.var 1) (.var 2))) (.lit (.str [32]))), .asg (.nm 4) (.call 12 [.var 4, .var 5]), .ex (.app (.var 3) (.bin .add (.bin .add (.bin .add (.var 5) (.lit (.str [35]))) (.bm .join (.lit (.str [])) [.lc false [6] (.nm 6) (.seq (.lst false [.lit (.int 10000), .lit (.int 1000), .lit (.int 100), .lit (.int 10), .lit (.int 1)])) [] (.sl true false (.bi .str [.bin .fdiv (.var 4) (.var 6)]) (.neg (.lit (.int 1))) (.lit .non))])) (.lit (.str [10]))))]
theorem fdivN (S : Store) (m k : Nat) (h : 0 < k) (h2 : k < 1073741824) : evBin S .fdiv (.int (m : Int)) (.int (k : Int)) = some (.int ((m / k : Nat) : Int)) := by
  rw [fdiv_int _ ⟨by omega, by omega⟩]
  rfl
/-- the figures of a sum, one by one -/
theorem five (n : Nat) (r0 r1 r2 r3 r5 r6 : Option PV) (m : Nat) (S : Store) (hm : m < 99991) :
    evE (o n) (.bm .join (.lit (.str [])) [.lc false [6] (.nm 6) (.seq (.lst false [.lit (.int 10000), .lit (.int 1000), .lit (.int 100), .lit (.int 10), .lit (.int 1)])) [] (.sl true false (.bi .str [.bin .fdiv (.var 4) (.var 6)]) (.neg (.lit (.int 1))) (.lit .non))]) [r0, r1, r2, r3, some (.int m), r5, r6] S = .ok (.str (rj m)) S := by
  have hlc : lcK (o n) false [6] (.nm 6) [] (.sl true false (.bi .str [.bin .fdiv (.var 4) (.var 6)]) (.neg (.lit (.int 1))) (.lit .non)) [r0, r1, r2, r3, some (.int m), r5, r6] (([10000, 1000, 100, 10, 1] : List Nat).map fun (k : Nat) => PV.int (k : Int), none) S = .ok (.lst (([10000, 1000, 100, 10, 1] : List Nat).map fun k => PV.str [48 + m / k % 10])) S := by
    unfold lcK
    rw [compL_map (fun (k : Nat) => PV.int (k : Int)) (fun (k : Nat) => PV.str [48 + m / k % 10]) S [10000, 1000, 100, 10, 1] [] fun k hk => ?_]
    · rw [Out.bind_ok, lcE, if_pos (by simp [SZ_big])]
      rfl
    · have hk2 : 0 < k ∧ k < 1073741824 := by
        simp at hk
        omega
      have hd := fdivN S m k hk2.1 hk2.2
      have hq : m / k ≤ m := Nat.div_le_self _ _
      have hs := evBI_str_nat S (n := m / k) (by omega)
      obtain ⟨p, hp⟩ := figs_snoc (m / k)
      have hcut : evSl S (.str (figs ((m / k : Nat) : Int))) (some (-1)) none = some (.str [48 + m / k % 10]) := by
        show some (PV.str (cut (figs ((m / k : Nat) : Int)) (some (-1)) none)) = _
        rw [hp, cut_last]
      refine cturn_ok (ρ' := [r0, r1, r2, r3, some (.int m), r5, some (.int k)]) rfl ?_ rfl
      simp only [evE_sl, evE_bi, evEs_cons, evEs_nil, evE_bin, evE_var, List.getElem?_cons_zero, List.getElem?_cons_succ, Out.bind_ok, hd, lift_some, hs, if_true, evE_neg, evE_lit, negK_int, partI_int, hcut, Bool.false_eq_true, if_false]
  have hj := evBM_join S (fun k => [48 + m / k % 10]) ([10000, 1000, 100, 10, 1] : List Nat) (by rw [SZ_big]; simp)
  have hw : evIt (o n) (.seq (.lst false [.lit (.int 10000), .lit (.int 1000), .lit (.int 100), .lit (.int 10), .lit (.int 1)])) [r0, r1, r2, r3, some (.int m), r5, r6] S = .ok (([10000, 1000, 100, 10, 1] : List Nat).map fun (k : Nat) => PV.int (k : Int), none) S := by
    simp [lstK, SZ_big]
  simp only [evE_bm, evE_lit, Out.bind_ok, bmK_str, evEs_cons, evE_lc, hw, hlc, evEs_nil, hj, lift_some]
  rw [rj_digs (by omega)]
  rfl
theorem sum_step (n A M : Nat) (hd : List Nat) (r0 r1 r2 r3 r6 : Option PV) (S1 : Store) (h : callF fuel fns n 12 [.int A, .str hd] S1 = .ok (.int M) S1) :
    evS (o n) (.asg (.nm 4) (.call 12 [.var 4, .var 5])) [r0, r1, r2, r3, some (.int A), some (.str hd), r6] S1 = .next [r0, r1, r2, r3, some (.int M), some (.str hd), r6] S1 := by
  have e : evEs (o n) [.var 4, .var 5] [r0, r1, r2, r3, some (.int A), some (.str hd), r6] S1 = .ok [.int A, .str hd] S1 := rfl
  rw [evS_asg, evE_call, e, Out.bind_ok, o_call, h, Out.toS_ok, asgK_nm _ (by simp)]
  rfl
theorem law_lines_eq (n f : Nat) (ts : List (List Nat)) (S : Store) (T : Ts f ts) : callF fuel fns (n + 3) 13 [.int f, tup ts] S = .ok (.lst ((linesF 0 f ts).map .str)) S := by
  rw [cl_law_lines]
  have few := T.few
  have num := T.num
  have e0 : b__law_lines = [.asg (.tp [(.nm 3), (.nm 4)]) (.tup [.lst true [], .lit (.int 0)]), .for_ (.nm 2) (.rng [.bi .len [.var 1]]) llB, .ret (.var 3)] := rfl
  have s1 : evS (o (n + 2)) (.asg (.tp [(.nm 3), (.nm 4)]) (.tup [.lst true [], .lit (.int 0)])) [some (.int f), some (tup ts), none, none, none, none, none] S = .next [some (.int f), some (tup ts), none, some (.ref S.length), some (.int 0), none, none] (S ++ [.lst []]) := by
    simp [lstK, tupK, SZ_big, asgK_tp2]
  have key := forL_run (step := turn (o (n + 2)) (.nm 2) llB) (fun i ρ S' => S' = S ++ [.lst ((linesF 0 f (ts.take i)).map .str)] ∧ ∃ x y z, ρ = [some (.int f), some (tup ts), x, some (.ref S.length), some (.int (aft 0 f (ts.take i) : Nat)), y, z])
    (rngL 0 ts.length) 0 [some (.int f), some (tup ts), none, some (.ref S.length), some (.int 0), none, none] (S ++ [.lst []]) ⟨rfl, none, none, none, rfl⟩ ?_
  · obtain ⟨ρ', S', e, rfl, x, y, z, rfl⟩ := key
    rw [rngL_length, Nat.zero_add, List.take_length] at e
    rw [e0, evSs_cons, s1, SOut.next_andThen, evSs_cons, for_rng1 (n := ts.length) (S1 := S ++ [.lst []]) (by simp [tup]) (by omega), e, SOut.next_andThen]
    have hg : (S ++ [Cell.lst ((linesF 0 f ts).map .str)])[S.length]? = some (.lst ((linesF 0 f ts).map .str)) := by simp
    have hf : ∀ l : List (List Nat), frzL (frz (S ++ [Cell.lst ((linesF 0 f ts).map .str)]) S.length 59) (l.map PV.str) = some (l.map .str) := by
      intro l
      induction l with
      | nil => rfl
      | cons x r ih =>
        rw [List.map_cons]
        unfold frzL
        rw [ih]
        rfl
    have hz : frz (S ++ [Cell.lst ((linesF 0 f ts).map .str)]) S.length 60 (.ref S.length) = some (.lst ((linesF 0 f ts).map .str)) := by
      show (if S.length < S.length then some (PV.ref S.length) else match (S ++ [Cell.lst ((linesF 0 f ts).map .str)])[S.length]? with
        | some (.lst xs) => (frzL (frz (S ++ [Cell.lst ((linesF 0 f ts).map .str)]) S.length 59) xs).map PV.lst
        | _ => none) = _
      rw [if_neg (Nat.lt_irrefl _), hg]
      show (frzL _ ((linesF 0 f ts).map PV.str)).map PV.lst = _
      rw [hf]
      rfl
    show fin true S (.ret (.ref S.length) (S ++ [.lst ((linesF 0 f ts).map .str)])) = _
    show close true S (.ref S.length) (S ++ [.lst ((linesF 0 f ts).map .str)]) = _
    unfold close
    rw [if_pos rfl, hz]
    simp
  · rintro i x ρ S' hx ⟨rfl, u, v, w, rfl⟩
    obtain ⟨hi, rfl⟩ := rngL_at hx
    rw [turn_nm _ _ _ (by simp)]
    have ht : ts[i]? = some ts[i] := List.getElem?_eq_getElem hi
    obtain ⟨q1, q2, q3⟩ := T.ok ts[i] (List.getElem_mem hi)
    generalize ts[i] = t at ht q1 q2 q3
    have hc : f + i < 100000 := by omega
    have hlen := line_len (a := aft 0 f (ts.take i)) (t := t) hc
    have hf := figs_le 5 (f + i) (by decide) (by omega)
    have hs := fun S => evBI_str_nat S (n := f + i) (by omega)
    rw [show ((f + i : Nat) : Int) = (f : Int) + (i : Int) from by push_cast; rfl] at hs hf
    have hix : ∀ S, evIx S (tup ts) (.int (i : Int)) = some (.str t) := fun S => ixs_tup (by rw [List.getElem?_map, ht]; rfl)
    have hh := head_len (f + i) t
    have a1 : ∀ S, evBin S .add (.str (figs ((f : Int) + (i : Int)))) (.str [32]) = some (.str (figs ((f : Int) + (i : Int)) ++ [32])) := fun S => add_str _ (by rw [SZ_big]; simp; omega)
    have a2 : ∀ S, evBin S .add (.str (figs ((f : Int) + (i : Int)) ++ [32])) (.str t) = some (.str (figs ((f : Int) + (i : Int)) ++ [32] ++ t)) := fun S => add_str _ (by rw [SZ_big]; simp; omega)
    have a3 : ∀ S, evBin S .add (.str (figs ((f : Int) + (i : Int)) ++ [32] ++ t)) (.str [32]) = some (.str (headL (f + i) t)) := fun S => add_str _ (by rw [SZ_big]; simp; omega)
    have hA : aft 0 f (ts.take i) < 99991 := aft_lt _ _ _ (by decide)
    generalize hAe : aft 0 f (ts.take i) = A at hA hlen
    have hsum := fun S => law_sum_eq (n + 1) A (headL (f + i) t) S (by omega) (head_sig q1) (by
      have : ((f + i : Nat) : Int) = (f : Int) + (i : Int) := by push_cast; rfl
      rw [this] at hh; omega)
    have hr := rj_len (sumN_lt A (headL (f + i) t))
    have a4 : ∀ S, evBin S .add (.str (headL (f + i) t)) (.str [35]) = some (.str (headL (f + i) t ++ [35])) := fun S => add_str _ (by
      have : ((f + i : Nat) : Int) = (f : Int) + (i : Int) := by push_cast; rfl
      rw [this] at hh; rw [SZ_big]; simp; omega)
    have a5 : ∀ S, evBin S .add (.str (headL (f + i) t ++ [35])) (.str (rj (sumN A (headL (f + i) t)))) = some (.str (bodyL A (f + i) t)) := fun S => add_str _ (by
      have : ((f + i : Nat) : Int) = (f : Int) + (i : Int) := by push_cast; rfl
      rw [this] at hh; rw [SZ_big]; simp; omega)
    have a6 : ∀ S, evBin S .add (.str (bodyL A (f + i) t)) (.str [10]) = some (.str (lineL A (f + i) t)) := fun S => add_str _ (by
      have : ((f + i : Nat) : Int) = (f : Int) + (i : Int) := by push_cast; rfl
      rw [this] at hh; rw [SZ_big]; unfold bodyL; simp; omega)
    let S1 : Store := S ++ [.lst ((linesF 0 f (ts.take i)).map .str)]
    let hd := headL (f + i) t
    have e1 : evS (o (n + 2)) (.asg (.nm 5) (.bin .add (.bin .add (.bin .add (.bi .str [.bin .add (.var 0) (.var 2)]) (.lit (.str [32]))) (.ix (.var 1) (.var 2))) (.lit (.str [32])))) [some (.int f), some (tup ts), some (.int i), some (.ref S.length), some (.int A), v, w] S1 = .next [some (.int f), some (tup ts), some (.int i), some (.ref S.length), some (.int A), some (.str hd), w] S1 := by
      simp only [evS_asg, evE_bin, evE_bi, evE_ix, evE_var, evE_lit, evEs_cons, evEs_nil, List.getElem?_cons_zero, List.getElem?_cons_succ, Out.bind_ok, lift_some, add_int, hs, a1, hix, a2, a3, Out.toS_ok]
      rw [asgK_nm _ (by simp)]
      rfl
    have e2 : evS (o (n + 2)) (.asg (.nm 4) (.call 12 [.var 4, .var 5])) [some (.int f), some (tup ts), some (.int i), some (.ref S.length), some (.int A), some (.str hd), w] S1 = .next [some (.int f), some (tup ts), some (.int i), some (.ref S.length), some (.int (sumN A hd)), some (.str hd), w] S1 := by
      exact sum_step (n + 2) A (sumN A hd) hd _ _ _ _ _ S1 (hsum S1)
    have e3 : appK (o (n + 2)) (.bin .add (.bin .add (.bin .add (.var 5) (.lit (.str [35]))) (.bm .join (.lit (.str [])) [.lc false [6] (.nm 6) (.seq (.lst false [.lit (.int 10000), .lit (.int 1000), .lit (.int 100), .lit (.int 10), .lit (.int 1)])) [] (.sl true false (.bi .str [.bin .fdiv (.var 4) (.var 6)]) (.neg (.lit (.int 1))) (.lit .non))])) (.lit (.str [10])))
        [some (.int f), some (tup ts), some (.int i), some (.ref S.length), some (.int (sumN A hd)), some (.str hd), w] (.ref S.length) S1 = .ok .non (S ++ [.lst ((linesF 0 f (ts.take i)).map .str ++ [.str (lineL A (f + i) t)])]) := by
      refine app_end ?_ (by rw [List.length_map, linesF_len, List.length_take, SZ_big]; omega)
      show evE (o (n + 2)) _ [some (.int f), some (tup ts), some (.int i), some (.ref S.length), some (.int (sumN A hd)), some (.str hd), w] S1 = .ok (.str (lineL A (f + i) t)) S1
      have h5 := five (n + 2) (some (.int f)) (some (tup ts)) (some (.int i)) (some (.ref S.length)) (some (.str hd)) w (sumN A hd) S1 (sumN_lt _ _)
      have a4 := a4 S1
      have a5 := a5 S1
      have a6 := a6 S1
      simp only [evE_bin, evE_var, evE_lit, List.getElem?_cons_zero, List.getElem?_cons_succ, Out.bind_ok, lift_some, h5]
      rw [show evBin S1 .add (.str hd) (.str [35]) = _ from a4, lift_some, Out.bind_ok, h5, Out.bind_ok, a5, lift_some, Out.bind_ok, a6, lift_some]
    refine ⟨[some (.int f), some (tup ts), some (.int i), some (.ref S.length), some (.int (sumN A hd)), some (.str hd), w], S ++ [.lst ((linesF 0 f (ts.take i)).map .str ++ [.str (lineL A (f + i) t)])], .inl ?_, ?_, some (.int i), some (.str hd), w, ?_⟩
    · show evSs (o (n + 2)) llB [some (.int f), some (tup ts), some (.int (0 + (i : Int))), some (.ref S.length), some (.int (aft 0 f (ts.take (0 + i)) : Nat)), v, w] (S ++ [.lst ((linesF 0 f (ts.take (0 + i))).map .str)]) = _
      rw [Nat.zero_add, Int.zero_add, hAe]
      unfold llB
      rw [evSs_cons, e1, SOut.next_andThen, evSs_cons, e2, SOut.next_andThen, evSs_cons, evS_ex, evE_app]
      rw [show evE (o (n + 2)) (.var 3) [some (.int f), some (tup ts), some (.int i), some (.ref S.length), some (.int (sumN A hd)), some (.str hd), w] S1 = .ok (.ref S.length) S1 from rfl, Out.bind_ok, e3]
      rfl
    · rw [Nat.zero_add, linesF_take ht, List.map_append, hAe]
      rfl
    · rw [Nat.zero_add, aft_take ht, hAe]
end K37

set_option linter.all false
set_option autoImplicit false
set_option maxRecDepth 100000
set_option maxHeartbeats 4000000
/-! K37m5: drawn texts; what is due. -/
namespace K37
open MK
theorem getD_at {α : Type} (l : List α) (d : α) {i : Nat} (h : i < l.length) : l.getD i d = l[i] := by
  simp [List.getD, h]
def TSg : List Nat := [97, 98, 122, 48, 49, 57, 34, 91, 93, 40, 41, 43, 60, 45, 94, 47, 61, 63, 58, 32, 123, 125, 62, 44, 59, 124]
theorem TSg_sig : ∀ x ∈ TSg, x ∈ SIG := by decide
def sgn (ds : List Int) (at_ k : Nat) : Nat := TSg.getD ((ds.getD ((at_ + k) % 60) 0 / (1 + k) % 26).toNat) 0
def ltext (ds : List Int) (at_ : Nat) : List Nat := (List.range (1 + (ds.getD (at_ % 60) 0 % 30).toNat)).map (sgn ds at_)
theorem sgn_in (ds : List Int) (at_ k : Nat) : sgn ds at_ k ∈ TSg := by
  unfold sgn
  have h1 := Int.emod_nonneg (ds.getD ((at_ + k) % 60) 0 / (1 + k)) (show (26 : Int) ≠ 0 by decide)
  have h2 := Int.emod_lt_of_pos (ds.getD ((at_ + k) % 60) 0 / (1 + k)) (show (0 : Int) < 26 by decide)
  have h3 : (ds.getD ((at_ + k) % 60) 0 / (1 + k) % 26).toNat < TSg.length := by
    show _ < 26
    omega
  rw [getD_at _ _ h3]
  exact List.getElem_mem h3
theorem ltext_ok (ds : List Int) (at_ : Nat) : (∀ x ∈ ltext ds at_, x ∈ SIG) ∧ 1 ≤ (ltext ds at_).length ∧ (ltext ds at_).length ≤ 30 := by
  refine ⟨fun x hx => ?_, ?_, ?_⟩
  · unfold ltext at hx
    obtain ⟨k, _, rfl⟩ := List.mem_map.mp hx
    exact TSg_sig _ (sgn_in ds at_ k)
  · unfold ltext
    rw [List.length_map, List.length_range]
    omega
  · unfold ltext
    rw [List.length_map, List.length_range]
    have h2 := Int.emod_lt_of_pos (ds.getD (at_ % 60) 0) (show (0 : Int) < 30 by decide)
    omega
theorem cl_law_text (n : Nat) (a t : PV) (S : Store) : callF fuel fns (n + 1) 14 [a, t] S = fin true S (evSs (o n) b__law_text [some a, some t, none, none, none] S) := rfl
/-- draws[i % len(draws)] -/
theorem draw_at (S : Store) {ds : List Int} (hl : ds.length = 60) (i : Nat) : (evBI S .len [.lst (ds.map .int)] = some (.int 60)) ∧ evBin S .mod (.int (i : Int)) (.int 60) = some (.int ((i % 60 : Nat) : Int)) ∧ evIx S (.lst (ds.map .int)) (.int ((i % 60 : Nat) : Int)) = some (.int (ds.getD (i % 60) 0)) := by
  refine ⟨by rw [len_lst, List.length_map, hl]; rfl, by rw [mod_int _ (by decide)]; rfl, ?_⟩
  refine ixs_lst ?_
  have : i % 60 < ds.length := by omega
  rw [List.getElem?_map, List.getElem?_eq_getElem this, getD_at _ _ this]
  rfl
theorem law_text_eq (n at_ : Nat) (ds : List Int) (S : Store) (hl : ds.length = 60) : callF fuel fns (n + 1) 14 [.lst (ds.map .int), .int at_] S = .ok (.str (ltext ds at_)) S := by
  rw [cl_law_text]
  have e0 : b__law_text = [.asg (.nm 2) (.lit (.str TSg)), .asg (.nm 3) (.bi .int [.ix (.var 0) (.bin .mod (.var 1) (.bi .len [.var 0]))]),
    .ret (.bm .join (.lit (.str [])) [.lc false [4] (.nm 4) (.rng [.bin .add (.lit (.int 1)) (.bin .mod (.var 3) (.lit (.int 30)))]) [] (.ix (.var 2) (.bin .mod (.bin .fdiv (.bi .int [.ix (.var 0) (.bin .mod (.bin .add (.var 1) (.var 4)) (.bi .len [.var 0]))]) (.bin .add (.lit (.int 1)) (.var 4))) (.lit (.int 26))))])] := rfl
  obtain ⟨d1, d2, d3⟩ := draw_at S hl at_
  have s1 : evS (o n) (.asg (.nm 2) (.lit (.str TSg))) [some (.lst (ds.map .int)), some (.int at_), none, none, none] S = .next [some (.lst (ds.map .int)), some (.int at_), some (.str TSg), none, none] S := by
    rw [evS_asg, evE_lit, Out.toS_ok, asgK_nm _ (by simp)]
    rfl
  generalize hd0 : ds.getD (at_ % 60) 0 = d0 at d3
  have s2 : evS (o n) (.asg (.nm 3) (.bi .int [.ix (.var 0) (.bin .mod (.var 1) (.bi .len [.var 0]))])) [some (.lst (ds.map .int)), some (.int at_), some (.str TSg), none, none] S = .next [some (.lst (ds.map .int)), some (.int at_), some (.str TSg), some (.int d0), none] S := by
    simp only [evS_asg, evE_bi, evE_ix, evE_bin, evE_var, evEs_cons, evEs_nil, List.getElem?_cons_zero, List.getElem?_cons_succ, Out.bind_ok, d1, d2, d3, lift_some, int_int, Out.toS_ok]
    rw [asgK_nm _ (by simp)]
    rfl
  let R : Env := [some (.lst (ds.map .int)), some (.int at_), some (.str TSg), some (.int d0), none]
  have hm : (d0 % 30).toNat < 30 := by
    have h2 := Int.emod_lt_of_pos d0 (show (0 : Int) < 30 by decide)
    omega
  have hr : evE (o n) (.bin .add (.lit (.int 1)) (.bin .mod (.var 3) (.lit (.int 30)))) R S = .ok (.int ((1 + (d0 % 30).toNat : Nat) : Int)) S := by
    have h1 := Int.emod_nonneg d0 (show (30 : Int) ≠ 0 by decide)
    have hmod : evBin S .mod (.int d0) (.int 30) = some (.int (d0 % 30)) := mod_int _ (by decide)
    simp only [R, evE_bin, evE_lit, evE_var, List.getElem?_cons_zero, List.getElem?_cons_succ, Out.bind_ok, hmod, lift_some, add_int]
    congr 2
    omega
  have hlc : lcK (o n) false [4] (.nm 4) [] (.ix (.var 2) (.bin .mod (.bin .fdiv (.bi .int [.ix (.var 0) (.bin .mod (.bin .add (.var 1) (.var 4)) (.bi .len [.var 0]))]) (.bin .add (.lit (.int 1)) (.var 4))) (.lit (.int 26)))) R (rngL 0 (1 + (d0 % 30).toNat), none) S = .ok (.lst ((List.range (1 + (d0 % 30).toNat)).map fun k => .str [sgn ds at_ k])) S := by
    unfold lcK rngL
    rw [compL_map (fun (k : Nat) => PV.int (0 + (k : Int))) (fun (k : Nat) => PV.str [sgn ds at_ k]) S _ [] fun k hk => ?_]
    · rw [Out.bind_ok, lcE, if_pos (by simp [SZ_big]; omega)]
      rfl
    · have hk30 : k < 30 := by
        have := List.mem_range.mp hk
        omega
      rw [Int.zero_add]
      obtain ⟨f1, f2, f3⟩ := draw_at S hl (at_ + k)
      refine cturn_ok (ρ' := [some (.lst (ds.map .int)), some (.int at_), some (.str TSg), some (.int d0), some (.int k)]) rfl ?_ rfl
      have hsg : sgn ds at_ k = TSg.getD ((ds.getD ((at_ + k) % 60) 0 / (1 + (k : Int)) % 26).toNat) 0 := rfl
      generalize ds.getD ((at_ + k) % 60) 0 = x at f3 hsg
      have g1 : evBin S .fdiv (.int x) (.int (1 + (k : Int))) = some (.int (x / (1 + (k : Int)))) := fdiv_int _ (by omega)
      have g2 : evBin S .mod (.int (x / (1 + (k : Int)))) (.int 26) = some (.int (x / (1 + (k : Int)) % 26)) := mod_int _ (by decide)
      have h1 := Int.emod_nonneg (x / (1 + (k : Int))) (show (26 : Int) ≠ 0 by decide)
      have h2 := Int.emod_lt_of_pos (x / (1 + (k : Int))) (show (0 : Int) < 26 by decide)
      generalize x / (1 + (k : Int)) % 26 = y at g2 h1 h2 hsg
      have g3 : evIx S (.str TSg) (.int y) = some (.str [sgn ds at_ k]) := by
        have h3 : y.toNat < TSg.length := by show _ < 26; omega
        have := ixs_str (S := S) (s := TSg) (i := y.toNat) (c := sgn ds at_ k) (by rw [hsg, getD_at _ _ h3]; exact List.getElem?_eq_getElem h3)
        rw [Int.toNat_of_nonneg h1] at this
        exact this
      have fa : evBin S .add (.int at_) (.int k) = some (.int ((at_ + k : Nat) : Int)) := by rw [add_int]; rfl
      have fb : evBin S .add (.int 1) (.int k) = some (.int (1 + (k : Int))) := rfl
      simp only [evE_ix, evE_bi, evE_bin, evE_var, evE_lit, evEs_cons, evEs_nil, List.getElem?_cons_zero, List.getElem?_cons_succ, Out.bind_ok, fa, fb, f1, f2, f3, lift_some, int_int, g1, g2, g3]
  have hj := evBM_join S (fun k => [sgn ds at_ k]) (List.range (1 + (d0 % 30).toNat)) (by
    rw [SZ_big, List.map_map]
    have one : ∀ l : List Nat, (l.map (List.length ∘ fun k => [sgn ds at_ k])).sum = l.length := by
      intro l
      induction l with
      | nil => rfl
      | cons x r ih => rw [List.map_cons, List.sum_cons, ih, List.length_cons, Nat.add_comm]; rfl
    rw [one, List.length_range]
    omega)
  have hfl : ((List.range (1 + (d0 % 30).toNat)).map fun k => [sgn ds at_ k]).flatten = ltext ds at_ := by
    unfold ltext
    rw [hd0]
    generalize List.range (1 + (d0 % 30).toNat) = l
    induction l with
    | nil => rfl
    | cons x r ih => rw [List.map_cons, List.flatten_cons, ih]; rfl
  rw [hfl] at hj
  have hret : evE (o n) (.bm .join (.lit (.str [])) [.lc false [4] (.nm 4) (.rng [.bin .add (.lit (.int 1)) (.bin .mod (.var 3) (.lit (.int 30)))]) [] (.ix (.var 2) (.bin .mod (.bin .fdiv (.bi .int [.ix (.var 0) (.bin .mod (.bin .add (.var 1) (.var 4)) (.bi .len [.var 0]))]) (.bin .add (.lit (.int 1)) (.var 4))) (.lit (.int 26))))]) R S = .ok (.str (ltext ds at_)) S := by
    rw [evE_bm, evE_lit, Out.bind_ok, bmK_str, evEs_cons, evE_lc, it_rng1 hr (by omega), Out.bind_ok, hlc, Out.bind_ok, evEs_nil, Out.bind_ok, Out.bind_ok, hj, lift_some]
  rw [e0, evSs_cons, s1, SOut.next_andThen, evSs_cons, s2, SOut.next_andThen, evSs_cons, evS_ret, hret, Out.toS_ok]
  exact fin_str S _
theorem cl_law_draws (n : Nat) (a t : PV) (S : Store) : callF fuel fns (n + 1) 11 [a, t] S = fin true S (evSs (o n) b__law_draws [some a, some t, none, none, none, none, none] S) := rfl
theorem law_draws_eq (n : Nat) (ns : List Int) (S : Store) : ∃ ds : List Int, ds.length = 60 ∧ okD ds ∧ callF fuel fns (n + 1) 11 [.lst (ns.map .int), .int 60] S = .ok (.lst (ds.map .int)) S := by
  rw [cl_law_draws]
  exact draws_fin (o n) S ns 60 (by decide)
end K37

set_option linter.all false
set_option autoImplicit false
set_option maxRecDepth 100000
set_option maxHeartbeats 4000000
/-! K37m7: one row. -/
namespace K37
open MK
def FIG : List Nat := [48, 49, 50, 51, 52, 53, 54, 55, 56, 57]
def hd (line : List Nat) : List Nat := line.take (line.length - 6)
def tl (line : List Nat) : List Nat := line.drop (line.length - 6)
def okA (line : List Nat) : Bool := decide ((tl line).take 1 = [35]) && decide ((hd line).drop ((hd line).length - 1) = [32]) && (hd line).all fun c => decide (c ∈ SIG)
def w0 (h : List Nat) : List Nat := h.take ((findC 32 h 0).getD 0)
def w1 (h : List Nat) : List Nat := h.drop ((findC 32 h 0).getD 0 + 1)
def okB (h : List Nat) : Bool := decide (1 ≤ (w0 h).length ∧ (w0 h).length ≤ 5) && (w0 h).all fun c => decide (c ∈ FIG)
def numW (h : List Nat) : Nat := (numOf (w0 h) 0).getD 0
def txt (h : List Nat) : List Nat := (w1 h).take ((w1 h).length - 1)
def okC (h : List Nat) : Bool := decide (w0 h = figs (numW h : Int)) && (decide (1 ≤ (txt h).length ∧ (txt h).length ≤ 20000) && (txt h).all fun c => decide (c ∈ SIG))
def rowV (a : Nat) (line : List Nat) : PV :=
  if okA line then if okB (hd line) then if okC (hd line) then if (tl line).drop 1 = rj (sumN a (hd line)) then .tup [.int (numW (hd line)), .str (txt (hd line)), .int (sumN a (hd line))] else .non else .non else .non else .non
theorem cl_row (n : Nat) (a b : PV) (S : Store) : callF fuel fns (n + 1) 7 [a, b] S = fin true S (evSs (o n) b__row [some a, some b, none, none, none, none, none] S) := rfl
theorem cut_to6 (s : List Nat) : cut s none (some (-6)) = s.take (s.length - 6) := by
  unfold cut clip
  simp
  rw [show ((-6 : Int) + (s.length : Int)).toNat = s.length - 6 from by omega]
  exact Nat.min_eq_left (by omega)
theorem cut_from6 (s : List Nat) : cut s (some (-6)) none = s.drop (s.length - 6) := by
  unfold cut clip
  simp
  rw [show ((-6 : Int) + (s.length : Int)).toNat = s.length - 6 from by omega]
  exact List.take_of_length_le (by rw [List.length_drop]; omega)
theorem cut_from1 (s : List Nat) : cut s (some (-1)) none = s.drop (s.length - 1) := by
  unfold cut clip
  simp
  rw [show ((-1 : Int) + (s.length : Int)).toNat = s.length - 1 from by omega]
  exact List.take_of_length_le (by rw [List.length_drop]; omega)
theorem cut_to1 (s : List Nat) : cut s none (some (-1)) = s.take (s.length - 1) := by
  unfold cut clip
  simp
  rw [show ((-1 : Int) + (s.length : Int)).toNat = s.length - 1 from by omega]
  exact Nat.min_eq_left (by omega)
theorem findC_lt {c : Nat} : ∀ (s : List Nat) (k j : Nat), findC c s k = some j → k ≤ j ∧ j < k + s.length
  | [], k, j, h => by cases h
  | x :: r, k, j, h => by
    unfold findC at h
    split at h
    · cases h; exact ⟨Nat.le_refl _, by simp⟩
    · have := findC_lt r (k + 1) j h
      rw [List.length_cons]
      omega
def orA : C := .or [.cmp .ne (.sl false true (.var 5) (.lit .non) (.lit (.int 1))) (.lit (.str [35])), .cmp .ne (.sl true false (.var 4) (.neg (.lit (.int 1))) (.lit .non)) (.lit (.str [32])), .not (.bi .all [.lc false [6] (.nm 6) (.seq (.var 4)) [] (.cmp .mem (.var 6) (.gl vSIGNS))])]
def orB : C := .or [.not (.cmp2 .le .le (.lit (.int 1)) (.bi .len [.ix (.var 2) (.lit (.int 0))]) (.gl vSUM_FIGURES)), .not (.bi .all [.lc false [6] (.nm 6) (.seq (.ix (.var 2) (.lit (.int 0)))) [] (.cmp .mem (.var 6) (.gl vFIGURES))])]
def orC : C := .or [.cmp .ne (.ix (.var 2) (.lit (.int 0))) (.bi .str [.bi .int [.ix (.var 2) (.lit (.int 0))]]), .not (.call 1 [.sl false true (.ix (.var 2) (.lit (.int 1))) (.lit .non) (.neg (.lit (.int 1)))])]
theorem row_src : b__row = [
  .asg (.tp [(.nm 4), (.nm 5)]) (.tup [.sl false true (.var 1) (.lit .non) (.bin .sub (.neg (.lit (.int 1))) (.gl vSUM_FIGURES)), .sl true false (.var 1) (.bin .sub (.neg (.lit (.int 1))) (.gl vSUM_FIGURES)) (.lit .non)]),
  .ifs orA [.ret (.lit .non)] [],
  .asg (.nm 2) (.bm .split2 (.var 4) [.lit (.str [32]), .lit (.int 1)]),
  .ifs orB [.ret (.lit .non)] [],
  .ifs orC [.ret (.lit .non)] [],
  .asg (.nm 3) (.call 2 [.var 0, .var 4]),
  .ifs (.cmp .ne (.sl true false (.var 5) (.lit (.int 1)) (.lit .non)) (.bm .rjust (.bi .str [.var 3]) [.gl vSUM_FIGURES, .lit (.str [48])])) [.ret (.lit .non)] [],
  .ret (.tup [.bi .int [.ix (.var 2) (.lit (.int 0))], .sl false true (.ix (.var 2) (.lit (.int 1))) (.lit .non) (.neg (.lit (.int 1))), .var 3])] := rfl
section
variable (n : Nat) (S : Store)
/-- the comprehension over figures -/
theorem figs_lc (i : Nat) (ρ : Env) (s : List Nat) (hs : s.length ≤ SZ) (hi : i < ρ.length) :
    lcK (o n) false [i] (.nm i) [] (.cmp .mem (.var i) (.gl vFIGURES)) ρ (s.map fun c => .str [c], none) S = .ok (.lst (s.map fun c => .bl (decide (c ∈ FIG)))) S := by
  unfold lcK
  rw [compL_map (fun c => .str [c]) (fun c => .bl (decide (c ∈ FIG))) S s [] fun c _ => ?_]
  · rw [Out.bind_ok, lcE, if_pos (by simpa using hs)]
    simp
  · refine cturn_ok (ρ' := (wipe ρ [i]).set i (some (.str [c]))) ?_ ?_ rfl
    · show (if i < (wipe ρ [i]).length then some ((wipe ρ [i]).set i (some (.str [c]))) else none) = _
      rw [if_pos (by simpa [wipe] using hi)]
    · have : ((wipe ρ [i]).set i (some (.str [c])))[i]? = some (some (.str [c])) := by
        rw [List.getElem?_set_self (by simpa [wipe] using hi)]
      have hv : vFIGURES = .str FIG := rfl
      simp [this, hv, cmpK]
theorem orA_eq (a line : List Nat) (r0 r1 r2 r3 r6 : Option PV) (h t : List Nat) (hl : h.length ≤ SZ) :
    evE (o n) orA [r0, r1, r2, r3, some (.str h), some (.str t), r6] S = .ok (.bl (!(decide (t.take 1 = [35]) && decide (h.drop (h.length - 1) = [32]) && h.all fun c => decide (c ∈ SIG)))) S := by
  have e1 : evSl S (.str t) none (some 1) = some (.str (t.take 1)) := sl_str_to S t 1
  have e2 : evSl S (.str h) (some (-1)) none = some (.str (h.drop (h.length - 1))) := by show some (PV.str (cut h _ _)) = _; rw [cut_from1]
  unfold orA
  simp only [evE_or, evOr_cons, evE_cmp, evE_sl, evE_var, evE_lit, List.getElem?_cons_zero, List.getElem?_cons_succ, Out.bind_ok, Bool.false_eq_true, if_false, if_true, partI_int, e1, lift_some, cmpK, cmp_ne_str, Option.map_some]
  rw [or_ok (c := !(decide (h.drop (h.length - 1) = [32]) && h.all fun c => decide (c ∈ SIG))) fun _ => ?_]
  · simp only [Bool.not_and, Bool.or_assoc]
  · simp only [evOr_cons, evE_cmp, evE_sl, evE_var, evE_lit, evE_neg, negK_int, List.getElem?_cons_zero, List.getElem?_cons_succ, Out.bind_ok, Bool.false_eq_true, if_false, if_true, partI_int, e2, lift_some, cmpK, cmp_ne_str, Option.map_some]
    rw [or_ok (c := !h.all fun c => decide (c ∈ SIG)) fun _ => ?_]
    · simp only [Bool.not_and]
    · simp only [evOr_one, evE_not, evE_bi, evEs_cons, evEs_nil, evE_lc, evIt_seq, evE_var, List.getElem?_cons_zero, List.getElem?_cons_succ, Out.bind_ok, walk_str, lift_some, signs_lc n 6 [r0, r1, r2, r3, some (.str h), some (.str t), r6] h S hl (by simp), evBI_all, notK_bl]
theorem okA_len {line : List Nat} (h : okA line = true) : ∃ k, findC 32 (hd line) 0 = some k ∧ k < (hd line).length := by
  unfold okA at h
  rw [Bool.and_eq_true, Bool.and_eq_true, decide_eq_true_eq, decide_eq_true_eq] at h
  have hm : 32 ∈ hd line := by
    have : 32 ∈ (hd line).drop ((hd line).length - 1) := by rw [h.1.2]; simp
    exact List.mem_of_mem_drop this
  obtain ⟨j, hj, hl⟩ := findC_some (hd line) 0 hm
  exact ⟨j, hj, by omega⟩
theorem split_eq (h : List Nat) (k : Nat) (hk : findC 32 h 0 = some k) (hl : h.length ≤ 1000000) : evBM S .split2 (.str h) [.str [32], .int 1] = some (.lst [.str (w0 h), .str (w1 h)]) := by
  have : evBM S .split2 (.str h) [.str [32], .int 1] = if h.length + 2 ≤ SZ then some (.lst (match findC 32 h 0 with | some k => [.str (h.take k), .str (h.drop (k + 1))] | none => [.str h])) else none := rfl
  rw [this, if_pos (by rw [SZ_big]; omega), hk]
  unfold w0 w1
  rw [hk]
  rfl
theorem numOf_fig : ∀ (s : List Nat) (a : Nat), (s.all fun c => decide (c ∈ FIG)) = true → ∃ m, numOf s a = some m
  | [], a, _ => ⟨a, rfl⟩
  | c :: r, a, h => by
    rw [List.all_cons, Bool.and_eq_true, decide_eq_true_eq] at h
    have hc : 48 ≤ c ∧ c ≤ 57 := by
      have := h.1
      simp [FIG] at this
      omega
    obtain ⟨m, hm⟩ := numOf_fig r (10 * a + (c - 48)) h.2
    exact ⟨m, by unfold numOf; rw [if_pos hc]; exact hm⟩
theorem orB_eq (r0 r1 r3 r4 r5 r6 : Option PV) (h : List Nat) (hl : h.length ≤ 1000000) :
    evE (o n) orB [r0, r1, some (.lst [.str (w0 h), .str (w1 h)]), r3, r4, r5, r6] S = .ok (.bl (!okB h)) S := by
  have hw : (w0 h).length ≤ SZ := by unfold w0; rw [List.length_take, SZ_big]; omega
  have hx : evIx S (.lst [.str (w0 h), .str (w1 h)]) (.int 0) = some (.str (w0 h)) := rfl
  unfold orB
  have hv : vSUM_FIGURES = .int 5 := rfl
  simp only [evE_or, evOr_cons, evE_not, evE_cmp2, evE_lit, evE_bi, evE_ix, evEs_cons, evEs_nil, evE_var, List.getElem?_cons_zero, List.getElem?_cons_succ, Out.bind_ok, hx, lift_some, len_str, hv, cmp2_gl, notK_bl]
  rw [or_ok (c := !(w0 h).all fun c => decide (c ∈ FIG)) fun _ => ?_]
  · have e1 : decide ((1 : Int) ≤ (w0 h).length) = decide (1 ≤ (w0 h).length) := decide_eq_decide.mpr (by omega)
    have e2 : decide (((w0 h).length : Int) ≤ 5) = decide ((w0 h).length ≤ 5) := decide_eq_decide.mpr (by omega)
    rw [e1, e2]
    unfold okB
    rw [Bool.decide_and]
    simp only [Bool.not_and]
  · simp only [evOr_one, evE_not, evE_bi, evE_ix, evE_lit, evEs_cons, evEs_nil, evE_lc, evIt_seq, evE_var, List.getElem?_cons_zero, List.getElem?_cons_succ, Out.bind_ok, hx, walk_str, lift_some, figs_lc n S 6 [r0, r1, some (.lst [.str (w0 h), .str (w1 h)]), r3, r4, r5, r6] (w0 h) hw (by simp), evBI_all, notK_bl]
theorem orC_eq (r0 r1 r3 r4 r5 r6 : Option PV) (h : List Nat) (hl : h.length ≤ 1000000) (hB : okB h = true) :
    evE (o (n + 1)) orC [r0, r1, some (.lst [.str (w0 h), .str (w1 h)]), r3, r4, r5, r6] S = .ok (.bl (!okC h)) S ∧ numOf (w0 h) 0 = some (numW h) ∧ evBI S .int [.str (w0 h)] = some (.int (numW h)) := by
  unfold okB at hB
  rw [Bool.and_eq_true, decide_eq_true_eq] at hB
  obtain ⟨m, hm⟩ := numOf_fig (w0 h) 0 hB.2
  have hnum : numOf (w0 h) 0 = some (numW h) := by unfold numW; rw [hm]; rfl
  have hi : evBI S .int [.str (w0 h)] = some (.int (numW h)) := evBI_int_str S (by omega) (by omega) hnum
  refine ⟨?_, hnum, hi⟩
  have hx : evIx S (.lst [.str (w0 h), .str (w1 h)]) (.int 0) = some (.str (w0 h)) := rfl
  have hy : evIx S (.lst [.str (w0 h), .str (w1 h)]) (.int 1) = some (.str (w1 h)) := rfl
  have hbig : numW h < 2 ^ 64 := by
    have key : ∀ (s : List Nat) (a b : Nat), numOf s a = some b → b < 10 ^ s.length * (a + 1) := by
      intro s
      induction s with
      | nil => intro a b h; cases h; simp
      | cons c r ih =>
        intro a b h
        unfold numOf at h
        split at h
        · have := ih _ _ h
          rename_i hc
          rw [List.length_cons, Nat.pow_succ]
          refine Nat.lt_of_lt_of_le this ?_
          rw [Nat.mul_assoc]
          exact Nat.mul_le_mul_left _ (by omega)
        · cases h
    have h1 := key _ _ _ hnum
    have h2 : (10 : Nat) ^ (w0 h).length ≤ 10 ^ 5 := Nat.pow_le_pow_right (by decide) hB.1.2
    have h3 : (10 : Nat) ^ 5 * (0 + 1) < 2 ^ 64 := by decide
    have h4 : (10 : Nat) ^ (w0 h).length * (0 + 1) ≤ 10 ^ 5 * (0 + 1) := Nat.mul_le_mul_right _ h2
    omega
  have hs := evBI_str_nat S hbig
  have hc : evSl S (.str (w1 h)) none (some (-1)) = some (.str (txt h)) := by show some (PV.str (cut (w1 h) _ _)) = _; rw [cut_to1]; rfl
  have ht : (txt h).length ≤ SZ := by unfold txt w1; rw [List.length_take, List.length_drop, SZ_big]; omega
  unfold orC
  simp only [evE_or, evOr_cons, evE_cmp, evE_lit, evE_bi, evE_ix, evEs_cons, evEs_nil, evE_var, List.getElem?_cons_zero, List.getElem?_cons_succ, Out.bind_ok, hx, hi, hs, lift_some, cmpK, cmp_ne_str, Option.map_some]
  rw [or_ok (c := !(decide (1 ≤ (txt h).length ∧ (txt h).length ≤ 20000) && (txt h).all fun c => decide (c ∈ SIG))) fun _ => ?_]
  · unfold okC
    simp only [Bool.not_and]
  · have hcall := are_signs_eq n (txt h) S ht
    have hes : evEs (o (n + 1)) [.sl false true (.ix (.var 2) (.lit (.int 1))) (.lit .non) (.neg (.lit (.int 1)))] [r0, r1, some (.lst [.str (w0 h), .str (w1 h)]), r3, r4, r5, r6] S = .ok [.str (txt h)] S := by
      simp only [evEs_cons, evEs_nil, evE_sl, evE_ix, evE_var, evE_lit, evE_neg, negK_int, partI_int, List.getElem?_cons_zero, List.getElem?_cons_succ, Out.bind_ok, hy, lift_some, Bool.false_eq_true, if_false, if_true, hc]
    rw [evOr_one, evE_not, evE_call, hes, Out.bind_ok, o_call, hcall, Out.bind_ok, notK_bl]
theorem fin_row (c : Nat) (t : List Nat) (s : Nat) : fin true S (.ret (.tup [.int c, .str t, .int s]) S) = .ok (.tup [.int c, .str t, .int s]) S := by
  show close true S (.tup [.int c, .str t, .int s]) S = _
  unfold close
  have : frz S S.length 60 (.tup [.int c, .str t, .int s]) = some (.tup [.int c, .str t, .int s]) := rfl
  rw [if_pos rfl, this]
  simp
theorem row_eq (a : Nat) (line : List Nat) (ha : a < 99991) (hl : line.length ≤ 1000000) : callF fuel fns (n + 2) 7 [.int a, .str line] S = .ok (rowV a line) S := by
  rw [cl_row, row_src]
  have hh : (hd line).length ≤ 1000000 := by unfold hd; rw [List.length_take]; omega
  have s1 : evS (o (n + 1)) (.asg (.tp [(.nm 4), (.nm 5)]) (.tup [.sl false true (.var 1) (.lit .non) (.bin .sub (.neg (.lit (.int 1))) (.gl vSUM_FIGURES)), .sl true false (.var 1) (.bin .sub (.neg (.lit (.int 1))) (.gl vSUM_FIGURES)) (.lit .non)])) [some (.int a), some (.str line), none, none, none, none, none] S =
      .next [some (.int a), some (.str line), none, none, some (.str (hd line)), some (.str (tl line)), none] S := by
    have hv : vSUM_FIGURES = .int 5 := rfl
    have e6 : evBin S .sub (.int (-1)) (.int 5) = some (.int (-6)) := rfl
    have c1 : evSl S (.str line) none (some (-6)) = some (.str (hd line)) := by show some (PV.str (cut line _ _)) = _; rw [cut_to6]; rfl
    have c2 : evSl S (.str line) (some (-6)) none = some (.str (tl line)) := by show some (PV.str (cut line _ _)) = _; rw [cut_from6]; rfl
    have t1 : evE (o (n + 1)) (.sl false true (.var 1) (.lit .non) (.bin .sub (.neg (.lit (.int 1))) (.gl vSUM_FIGURES))) [some (.int a), some (.str line), none, none, none, none, none] S = .ok (.str (hd line)) S := by
      simp only [evE_sl, evE_bin, evE_neg, evE_var, evE_lit, evE_gl, negK_int, hv, List.getElem?_cons_zero, List.getElem?_cons_succ, Out.bind_ok, Bool.false_eq_true, if_false, if_true, e6, lift_some, partI_int, c1]
    have t2 : evE (o (n + 1)) (.sl true false (.var 1) (.bin .sub (.neg (.lit (.int 1))) (.gl vSUM_FIGURES)) (.lit .non)) [some (.int a), some (.str line), none, none, none, none, none] S = .ok (.str (tl line)) S := by
      simp only [evE_sl, evE_bin, evE_neg, evE_var, evE_lit, evE_gl, negK_int, hv, List.getElem?_cons_zero, List.getElem?_cons_succ, Out.bind_ok, Bool.false_eq_true, if_false, if_true, e6, lift_some, partI_int, c2]
    rw [evS_asg, tup2_ok t1 t2, Out.toS_ok, asgK_tp2 _ (by simp) (by simp)]
    rfl
  have hA := orA_eq (n + 1) S line line (some (.int a)) (some (.str line)) none none none (hd line) (tl line) (by rw [SZ_big]; omega)
  rw [evSs_cons, s1, SOut.next_andThen, evSs_cons, evS_ifs, hA, Out.toS_ok]
  change fin true S ((ifK (o (n + 1)) [.ret (.lit .non)] [] _ (.bl (!okA line)) S).andThen _) = _
  unfold rowV
  by_cases qA : okA line = false
  · rw [qA, if_neg Bool.false_ne_true]
    exact fin_non S
  rw [Bool.not_eq_false] at qA
  obtain ⟨k, hk, hkl⟩ := okA_len qA
  have hsig : ∀ c ∈ hd line, c ∈ SIG := fun c hc => by
    have : (hd line).all (fun c => decide (c ∈ SIG)) = true := by
      unfold okA at qA
      rw [Bool.and_eq_true] at qA
      exact qA.2
    exact of_decide_eq_true (List.all_eq_true.mp this c hc)
  rw [qA, if_pos rfl]
  show fin true S (evSs (o (n + 1)) (_ :: _) _ S) = _
  have s3 : evS (o (n + 1)) (.asg (.nm 2) (.bm .split2 (.var 4) [.lit (.str [32]), .lit (.int 1)])) [some (.int a), some (.str line), none, none, some (.str (hd line)), some (.str (tl line)), none] S =
      .next [some (.int a), some (.str line), some (.lst [.str (w0 (hd line)), .str (w1 (hd line))]), none, some (.str (hd line)), some (.str (tl line)), none] S := by
    simp only [evS_asg, evE_bm, evE_var, evEs_cons, evEs_nil, evE_lit, List.getElem?_cons_zero, List.getElem?_cons_succ, Out.bind_ok, bmK_str, split_eq S (hd line) k hk hh, lift_some, Out.toS_ok]
    rw [asgK_nm _ (by simp)]
    rfl
  have hB := orB_eq (n + 1) S (some (.int a)) (some (.str line)) none (some (.str (hd line))) (some (.str (tl line))) none (hd line) hh
  rw [evSs_cons, s3, SOut.next_andThen, evSs_cons, evS_ifs, hB, Out.toS_ok]
  by_cases qB : okB (hd line) = false
  · rw [qB, if_neg Bool.false_ne_true]
    exact fin_non S
  rw [Bool.not_eq_false] at qB
  rw [qB, if_pos rfl]
  obtain ⟨hC, hnum, hint⟩ := orC_eq n S (some (.int a)) (some (.str line)) none (some (.str (hd line))) (some (.str (tl line))) none (hd line) hh qB
  show fin true S (evSs (o (n + 1)) (_ :: _) _ S) = _
  rw [evSs_cons, evS_ifs, hC, Out.toS_ok]
  by_cases qC : okC (hd line) = false
  · rw [qC, if_neg Bool.false_ne_true]
    exact fin_non S
  rw [Bool.not_eq_false] at qC
  rw [qC, if_pos rfl]
  show fin true S (evSs (o (n + 1)) (_ :: _) _ S) = _
  have hsum := sum_in_eq n (a : Int) (hd line) S (by omega) hsig
  rw [sumN_eq] at hsum
  have s6 : evS (o (n + 1)) (.asg (.nm 3) (.call 2 [.var 0, .var 4])) [some (.int a), some (.str line), some (.lst [.str (w0 (hd line)), .str (w1 (hd line))]), none, some (.str (hd line)), some (.str (tl line)), none] S =
      .next [some (.int a), some (.str line), some (.lst [.str (w0 (hd line)), .str (w1 (hd line))]), some (.int (sumN a (hd line))), some (.str (hd line)), some (.str (tl line)), none] S := by
    have e : evEs (o (n + 1)) [.var 0, .var 4] [some (.int a), some (.str line), some (.lst [.str (w0 (hd line)), .str (w1 (hd line))]), none, some (.str (hd line)), some (.str (tl line)), none] S = .ok [.int a, .str (hd line)] S := rfl
    rw [evS_asg, evE_call, e, Out.bind_ok, o_call, hsum, Out.toS_ok, asgK_nm _ (by simp)]
    rfl
  rw [evSs_cons, s6, SOut.next_andThen]
  generalize hM : sumN a (hd line) = M
  have hMl : M < 99991 := by rw [← hM]; exact sumN_lt _ _
  have hs2 := evBI_str_nat S (n := M) (by omega)
  have hD : evE (o (n + 1)) (.cmp .ne (.sl true false (.var 5) (.lit (.int 1)) (.lit .non)) (.bm .rjust (.bi .str [.var 3]) [.gl vSUM_FIGURES, .lit (.str [48])])) [some (.int a), some (.str line), some (.lst [.str (w0 (hd line)), .str (w1 (hd line))]), some (.int M), some (.str (hd line)), some (.str (tl line)), none] S = .ok (.bl (!decide ((tl line).drop 1 = rj M))) S := by
    have hv : vSUM_FIGURES = .int 5 := rfl
    have e1 : evSl S (.str (tl line)) (some 1) none = some (.str ((tl line).drop 1)) := sl_str_from S (tl line) 1
    simp only [evE_cmp, evE_sl, evE_bm, evE_bi, evE_var, evE_lit, evE_gl, evEs_cons, evEs_nil, List.getElem?_cons_zero, List.getElem?_cons_succ, Out.bind_ok, Bool.false_eq_true, if_false, if_true, partI_int, e1, lift_some, hs2, bmK_str, hv, rj_eq S hMl, cmpK, cmp_ne_str, Option.map_some]
  rw [evSs_cons, evS_ifs, hD, Out.toS_ok]
  by_cases qD : ¬ ((tl line).drop 1 = rj M)
  · rw [decide_eq_false qD, if_neg qD]
    exact fin_non S
  rw [Decidable.not_not] at qD
  rw [decide_eq_true qD, if_pos qD]
  show fin true S (evSs (o (n + 1)) (_ :: _) _ S) = _
  have hx : evIx S (.lst [.str (w0 (hd line)), .str (w1 (hd line))]) (.int 0) = some (.str (w0 (hd line))) := rfl
  have hy : evIx S (.lst [.str (w0 (hd line)), .str (w1 (hd line))]) (.int 1) = some (.str (w1 (hd line))) := rfl
  have hc : evSl S (.str (w1 (hd line))) none (some (-1)) = some (.str (txt (hd line))) := by show some (PV.str (cut (w1 (hd line)) _ _)) = _; rw [cut_to1]; rfl
  let R : Env := [some (.int a), some (.str line), some (.lst [.str (w0 (hd line)), .str (w1 (hd line))]), some (.int M), some (.str (hd line)), some (.str (tl line)), none]
  have t1 : evE (o (n + 1)) (.bi .int [.ix (.var 2) (.lit (.int 0))]) R S = .ok (.int (numW (hd line))) S := by
    simp only [R, evE_bi, evE_ix, evEs_cons, evEs_nil, evE_var, evE_lit, List.getElem?_cons_zero, List.getElem?_cons_succ, Out.bind_ok, hx, lift_some, hint]
  have t2 : evE (o (n + 1)) (.sl false true (.ix (.var 2) (.lit (.int 1))) (.lit .non) (.neg (.lit (.int 1)))) R S = .ok (.str (txt (hd line))) S := by
    simp only [R, evE_sl, evE_ix, evE_var, evE_lit, evE_neg, negK_int, partI_int, List.getElem?_cons_zero, List.getElem?_cons_succ, Out.bind_ok, hy, lift_some, Bool.false_eq_true, if_false, if_true, hc]
  have t3 : evE (o (n + 1)) (.var 3) R S = .ok (.int M) S := rfl
  rw [evSs_cons, evS_ret]
  change fin true S (((evE (o (n + 1)) _ R S).toS R _).andThen _) = _
  rw [tup3_ok t1 t2 t3, Out.toS_ok]
  exact fin_row S _ _ _
end
end K37

set_option linter.all false
set_option autoImplicit false
set_option maxRecDepth 100000
set_option maxHeartbeats 4000000
/-! K37m8: all rows. -/
namespace K37
open MK
def orR : C := .or [.cmp .isN (.var 5) (.lit .non), .and [.cmp .gt (.bi .len [.var 1]) (.lit (.int 0)), .cmp .ne (.ix (.var 5) (.lit (.int 0))) (.bin .add (.ix (.ix (.var 1) (.neg (.lit (.int 1)))) (.lit (.int 0))) (.lit (.int 1)))]]
def rwB : List MK.S := [.asg (.nm 5) (.call 7 [.var 4, .sl true true (.var 0) (.var 3) (.var 2)]), .ifs orR [.ret (.var 1)] [], .ex (.app (.var 1) (.bin .add (.var 5) (.tup [.bin .add (.var 2) (.lit (.int 1))]))), .asg (.tp [(.nm 3), (.nm 4)]) (.tup [.bin .add (.var 2) (.lit (.int 1)), .ix (.var 5) (.lit (.int 2))]), .asg (.nm 2) (.bm .find3 (.var 0) [.lit (.str [10]), .var 3])]
theorem rows_src : b_rows_of = [.asg (.nm 1) (.lst true []), .asg (.tp [(.nm 3), (.nm 4)]) (.tup [.lit (.int 0), .lit (.int 0)]), .asg (.nm 2) (.bm .find (.var 0) [.lit (.str [10])]), .while_ (.cmp .ge (.var 2) (.lit (.int 0))) rwB, .ret (.var 1)] := rfl
/-- where the next line ends, or -1 -/
def nxt (tx : List Nat) (k : Nat) : Int := match findC 10 (tx.drop k) k with
  | some j => (j : Int)
  | none => -1
section
variable (n : Nat) (S : Store) (tx : List Nat) (xs : List PV) (e a0 A : Nat)
theorem call_row (r1 r5 : Option PV) (S1 : Store) (hA : A < 99991) (hl : tx.length ≤ 1000000) :
    evS (o (n + 2)) (.asg (.nm 5) (.call 7 [.var 4, .sl true true (.var 0) (.var 3) (.var 2)])) [some (.str tx), r1, some (.int e), some (.int a0), some (.int A), r5] S1 = .next [some (.str tx), r1, some (.int e), some (.int a0), some (.int A), some (rowV A ((tx.take e).drop a0))] S1 := by
  have hes : evEs (o (n + 2)) [.var 4, .sl true true (.var 0) (.var 3) (.var 2)] [some (.str tx), r1, some (.int e), some (.int a0), some (.int A), r5] S1 = .ok [.int A, .str ((tx.take e).drop a0)] S1 := by
    simp only [evEs_cons, evEs_nil, evE_sl, evE_var, List.getElem?_cons_zero, List.getElem?_cons_succ, Out.bind_ok, if_true, partI_int, sl_str_mid, lift_some]
  have hr := row_eq n S1 A ((tx.take e).drop a0) hA (by rw [List.length_drop, List.length_take]; omega)
  rw [evS_asg, evE_call, hes, Out.bind_ok, o_call, hr, Out.toS_ok, asgK_nm _ (by simp)]
  rfl
/-- no row: the end -/
theorem orR_non (r0 r2 r3 r4 : Option PV) (S1 : Store) (r1 : Option PV) : evE (o n) orR [r0, r1, r2, r3, r4, some .non] S1 = .ok (.bl true) S1 := by
  unfold orR
  simp only [evE_or, evOr_cons, evE_cmp, evE_var, evE_lit, List.getElem?_cons_zero, List.getElem?_cons_succ, Out.bind_ok, cmpK, cmp_isN, Option.map_some, lift_some, orK_true]
theorem orR_tup (r0 r2 r3 r4 : Option PV) (c : Nat) (t : List Nat) (s : Nat) :
    evE (o n) orR [r0, some (.ref S.length), r2, r3, r4, some (.tup [.int c, .str t, .int s])] (S ++ [.lst []]) = .ok (.bl false) (S ++ [.lst []]) := by
  have hlen : evBI (S ++ [.lst []]) .len [.ref S.length] = some (.int 0) := by
    rw [len_ref _ (xs := []) (by simp)]
    rfl
  unfold orR
  simp only [evE_or, evOr_cons, evOr_one, evE_and, evAnd_cons, evE_cmp, evE_bi, evEs_cons, evEs_nil, evE_var, evE_lit, List.getElem?_cons_zero, List.getElem?_cons_succ, Out.bind_ok, cmpK, cmp_isN, Option.map_some, lift_some, orK_false, hlen, cmp_gt]
  rfl
theorem orR_more (r0 r2 r3 r4 : Option PV) (c c' : Nat) (t : List Nat) (s : Nat) (r : List PV) :
    evE (o n) orR [r0, some (.ref S.length), r2, r3, r4, some (.tup [.int c, .str t, .int s])] (S ++ [.lst (xs ++ [.tup (.int c' :: r)])]) = .ok (.bl (!decide ((c : Int) = c' + 1))) (S ++ [.lst (xs ++ [.tup (.int c' :: r)])]) := by
  have hg : (S ++ [Cell.lst (xs ++ [.tup (.int c' :: r)])])[S.length]? = some (.lst (xs ++ [.tup (.int c' :: r)])) := by simp
  have hlen : evBI (S ++ [.lst (xs ++ [.tup (.int c' :: r)])]) .len [.ref S.length] = some (.int ((xs.length + 1 : Nat) : Int)) := by
    rw [len_ref _ hg, List.length_append]
    rfl
  have hpos : decide ((0 : Int) < ((xs.length + 1 : Nat) : Int)) = true := decide_eq_true (by omega)
  have hix : evIx (S ++ [.lst (xs ++ [.tup (.int c' :: r)])]) (.ref S.length) (.int (-1)) = some (.tup (.int c' :: r)) := by
    show (match listOf (S ++ [Cell.lst (xs ++ [.tup (.int c' :: r)])]) (.ref S.length) with | some ys => ixAt ys (-1) | none => none) = _
    have hlo : listOf (S ++ [Cell.lst (xs ++ [.tup (.int c' :: r)])]) (.ref S.length) = some (xs ++ [.tup (.int c' :: r)]) := by
      show (match (S ++ [Cell.lst (xs ++ [.tup (.int c' :: r)])])[S.length]? with | some (.lst ys) => some ys | _ => none) = _
      rw [hg]
    rw [hlo]
    unfold ixAt
    simp
    rw [show ((-1 : Int) + ((xs.length : Int) + 1)).toNat = xs.length from by omega]
    simp
    omega
  have i0 : ∀ S1, evIx S1 (.tup [.int c, .str t, .int s]) (.int 0) = some (.int c) := fun S1 => rfl
  have i1 : ∀ S1, evIx S1 (.tup (.int c' :: r)) (.int 0) = some (.int c') := fun S1 => rfl
  unfold orR
  simp only [evE_or, evOr_cons, evOr_one, evE_and, evAnd_cons, evAnd_one, evE_cmp, evE_bi, evE_ix, evE_neg, negK_int, evE_bin, evEs_cons, evEs_nil, evE_var, evE_lit, List.getElem?_cons_zero, List.getElem?_cons_succ, Out.bind_ok, cmpK, cmp_isN, Option.map_some, lift_some, orK_false, hlen, cmp_gt, hpos, andK_true, hix, i0, i1, add_int, cmp_ne_int]
/-- a row that stops -/
theorem body_stop (r5 : Option PV) (hA : A < 99991) (hl : tx.length ≤ 1000000) (h : evE (o (n + 2)) orR [some (.str tx), some (.ref S.length), some (.int e), some (.int a0), some (.int A), some (rowV A ((tx.take e).drop a0))] (S ++ [.lst xs]) = .ok (.bl true) (S ++ [.lst xs])) :
    evSs (o (n + 2)) rwB [some (.str tx), some (.ref S.length), some (.int e), some (.int a0), some (.int A), r5] (S ++ [.lst xs]) = .ret (.ref S.length) (S ++ [.lst xs]) := by
  unfold rwB
  rw [evSs_cons, call_row n tx e a0 A (some (.ref S.length)) r5 _ hA hl, SOut.next_andThen, evSs_cons, evS_ifs, h, Out.toS_ok, ifK_true]
  rfl
/-- a row that goes on -/
theorem body_go (r5 : Option PV) (c : Nat) (t : List Nat) (s : Nat) (hA : A < 99991) (hl : tx.length ≤ 1000000) (hx : xs.length < 1000000) (hrow : rowV A ((tx.take e).drop a0) = .tup [.int c, .str t, .int s])
    (h : evE (o (n + 2)) orR [some (.str tx), some (.ref S.length), some (.int e), some (.int a0), some (.int A), some (.tup [.int c, .str t, .int s])] (S ++ [.lst xs]) = .ok (.bl false) (S ++ [.lst xs])) :
    evSs (o (n + 2)) rwB [some (.str tx), some (.ref S.length), some (.int e), some (.int a0), some (.int A), r5] (S ++ [.lst xs]) =
      .next [some (.str tx), some (.ref S.length), some (.int (nxt tx (e + 1))), some (.int ((e + 1 : Nat) : Int)), some (.int s), some (.tup [.int c, .str t, .int s])] (S ++ [.lst (xs ++ [.tup [.int c, .str t, .int s, .int ((e + 1 : Nat) : Int)]])]) := by
  have hadd : ∀ S1, evBin S1 .add (.int (e : Int)) (.int 1) = some (.int ((e + 1 : Nat) : Int)) := fun S1 => rfl
  have happ : appK (o (n + 2)) (.bin .add (.var 5) (.tup [.bin .add (.var 2) (.lit (.int 1))])) [some (.str tx), some (.ref S.length), some (.int e), some (.int a0), some (.int A), some (.tup [.int c, .str t, .int s])] (.ref S.length) (S ++ [.lst xs]) = .ok .non (S ++ [.lst (xs ++ [.tup [.int c, .str t, .int s, .int ((e + 1 : Nat) : Int)]])]) := by
    refine app_end ?_ (by rw [SZ_big]; omega)
    have t1 : evE (o (n + 2)) (.tup [.bin .add (.var 2) (.lit (.int 1))]) [some (.str tx), some (.ref S.length), some (.int e), some (.int a0), some (.int A), some (.tup [.int c, .str t, .int s])] (S ++ [.lst xs]) = .ok (.tup [.int ((e + 1 : Nat) : Int)]) (S ++ [.lst xs]) := by
      refine tup1_ok ?_
      simp only [evE_bin, evE_var, evE_lit, List.getElem?_cons_zero, List.getElem?_cons_succ, Out.bind_ok, hadd, lift_some]
    rw [evE_bin, evE_var]
    simp only [List.getElem?_cons_zero, List.getElem?_cons_succ, Out.bind_ok, t1]
    rw [add_tup _ (by rw [SZ_big]; simp)]
    rfl
  generalize hS1 : S ++ [Cell.lst (xs ++ [PV.tup [.int c, .str t, .int s, .int ((e + 1 : Nat) : Int)]])] = S1 at happ
  have s4 : evS (o (n + 2)) (.asg (.tp [(.nm 3), (.nm 4)]) (.tup [.bin .add (.var 2) (.lit (.int 1)), .ix (.var 5) (.lit (.int 2))])) [some (.str tx), some (.ref S.length), some (.int e), some (.int a0), some (.int A), some (.tup [.int c, .str t, .int s])] S1 =
      .next [some (.str tx), some (.ref S.length), some (.int e), some (.int ((e + 1 : Nat) : Int)), some (.int s), some (.tup [.int c, .str t, .int s])] S1 := by
    have q1 : evE (o (n + 2)) (.bin .add (.var 2) (.lit (.int 1))) [some (.str tx), some (.ref S.length), some (.int e), some (.int a0), some (.int A), some (.tup [.int c, .str t, .int s])] S1 = .ok (.int ((e + 1 : Nat) : Int)) S1 := rfl
    have q2 : evE (o (n + 2)) (.ix (.var 5) (.lit (.int 2))) [some (.str tx), some (.ref S.length), some (.int e), some (.int a0), some (.int A), some (.tup [.int c, .str t, .int s])] S1 = .ok (.int s) S1 := rfl
    rw [evS_asg, tup2_ok q1 q2, Out.toS_ok, asgK_tp2 _ (by simp) (by simp)]
    rfl
  have s5 : evS (o (n + 2)) (.asg (.nm 2) (.bm .find3 (.var 0) [.lit (.str [10]), .var 3])) [some (.str tx), some (.ref S.length), some (.int e), some (.int ((e + 1 : Nat) : Int)), some (.int s), some (.tup [.int c, .str t, .int s])] S1 =
      .next [some (.str tx), some (.ref S.length), some (.int (nxt tx (e + 1))), some (.int ((e + 1 : Nat) : Int)), some (.int s), some (.tup [.int c, .str t, .int s])] S1 := by
    have hf : evBM S1 .find3 (.str tx) [.str [10], .int ((e + 1 : Nat) : Int)] = some (.int (nxt tx (e + 1))) := by
      show (if 0 ≤ ((e + 1 : Nat) : Int) then some (PV.int (match findC 10 (tx.drop ((e + 1 : Nat) : Int).toNat) ((e + 1 : Nat) : Int).toNat with | some k => (k : Int) | none => -1)) else none) = _
      rw [if_pos (by omega), Int.toNat_natCast]
      rfl
    simp only [evS_asg, evE_bm, evE_var, evE_lit, evEs_cons, evEs_nil, List.getElem?_cons_zero, List.getElem?_cons_succ, Out.bind_ok, bmK_str, hf, lift_some, Out.toS_ok]
    rw [asgK_nm _ (by simp)]
    rfl
  unfold rwB
  rw [evSs_cons, call_row n tx e a0 A (some (.ref S.length)) r5 _ hA hl, hrow, SOut.next_andThen, evSs_cons, evS_ifs, h, Out.toS_ok, ifK_false, evSs_nil, SOut.next_andThen, evSs_cons, evS_ex, evE_app]
  rw [show evE (o (n + 2)) (.var 1) [some (.str tx), some (.ref S.length), some (.int e), some (.int a0), some (.int A), some (.tup [.int c, .str t, .int s])] (S ++ [.lst xs]) = .ok (.ref S.length) (S ++ [.lst xs]) from rfl, Out.bind_ok, happ, Out.toS_ok, SOut.next_andThen, evSs_cons, s4, SOut.next_andThen, evSs_cons, s5]
  rfl
end
end K37

set_option linter.all false
set_option autoImplicit false
set_option maxRecDepth 100000
set_option maxHeartbeats 4000000
/-! K37m9: good lines are read; the loop over rows. -/
namespace K37
open MK
theorem findC_app {c : Nat} : ∀ (xs ys : List Nat) (k : Nat), c ∉ xs → findC c (xs ++ c :: ys) k = some (k + xs.length)
  | [], ys, k, _ => by
    show (if c = c then some k else _) = _
    rw [if_pos rfl]
    rfl
  | x :: xs, ys, k, h => by
    rw [List.cons_append]
    show (if x = c then some k else findC c (xs ++ c :: ys) (k + 1)) = _
    rw [if_neg (fun e => h (by simp [e])), findC_app xs ys (k + 1) (fun e => h (by simp [e])), List.length_cons]
    congr 1
    omega
theorem findC_none {c : Nat} : ∀ (xs : List Nat) (k : Nat), c ∉ xs → findC c xs k = none
  | [], _, _ => rfl
  | x :: xs, k, h => by
    show (if x = c then some k else findC c xs (k + 1)) = _
    rw [if_neg (fun e => h (by simp [e])), findC_none xs (k + 1) (fun e => h (by simp [e]))]
theorem figs_no {c x : Nat} (h : x < 48 ∨ 57 < x) : x ∉ figs (c : Int) := fun hx => by
  have := figs_digit c x hx
  omega
theorem body_split {a c : Nat} {t : List Nat} : hd (bodyL a c t) = headL c t ∧ tl (bodyL a c t) = 35 :: rj (sumN a (headL c t)) := by
  have hr := rj_len (sumN_lt a (headL c t))
  unfold hd tl bodyL
  have hl : (headL c t ++ [35] ++ rj (sumN a (headL c t))).length - 6 = (headL c t).length := by
    rw [List.length_append, List.length_append, hr]
    simp
  rw [hl, List.append_assoc]
  exact ⟨List.take_left, List.drop_left⟩
theorem head_find {c : Nat} {t : List Nat} : findC 32 (headL c t) 0 = some (figs (c : Int)).length := by
  have := findC_app (c := 32) (figs (c : Int)) (t ++ [32]) 0 (figs_no (.inl (by decide)))
  unfold headL
  rw [show figs (c : Int) ++ [32] ++ t ++ [32] = figs (c : Int) ++ 32 :: (t ++ [32]) from by simp, this, Nat.zero_add]
theorem head_w {c : Nat} {t : List Nat} : w0 (headL c t) = figs (c : Int) ∧ w1 (headL c t) = t ++ [32] := by
  unfold w0 w1
  rw [head_find]
  show (headL c t).take (figs (c : Int)).length = _ ∧ (headL c t).drop ((figs (c : Int)).length + 1) = _
  unfold headL
  rw [show figs (c : Int) ++ [32] ++ t ++ [32] = figs (c : Int) ++ (32 :: (t ++ [32])) from by simp]
  refine ⟨List.take_left, ?_⟩
  rw [List.drop_append]
  simp
theorem row_good {a c : Nat} {t : List Nat} (hc : c < 100000) (ht : (∀ x ∈ t, x ∈ SIG) ∧ 1 ≤ t.length ∧ t.length ≤ 20000) :
    rowV a (bodyL a c t) = .tup [.int c, .str t, .int (sumN a (headL c t))] := by
  obtain ⟨h1, h2⟩ := body_split (a := a) (c := c) (t := t)
  obtain ⟨h3, h4⟩ := head_w (c := c) (t := t)
  have hnum : numW (headL c t) = c := by unfold numW; rw [h3, numOf_figs]; rfl
  have htxt : txt (headL c t) = t := by
    unfold txt
    rw [h4, List.length_append]
    show List.take (t.length + 1 - 1) (t ++ [32]) = t
    rw [Nat.add_sub_cancel]
    exact List.take_left
  have hA : okA (bodyL a c t) = true := by
    unfold okA
    rw [h1, h2, Bool.and_eq_true, Bool.and_eq_true, decide_eq_true_eq, decide_eq_true_eq, List.all_eq_true]
    refine ⟨⟨rfl, ?_⟩, fun x hx => decide_eq_true (head_sig ht.1 x hx)⟩
    unfold headL
    rw [List.length_append]
    show List.drop (_ + 1 - 1) _ = _
    rw [Nat.add_sub_cancel]
    exact List.drop_left
  have hB : okB (headL c t) = true := by
    unfold okB
    rw [h3, Bool.and_eq_true, decide_eq_true_eq, List.all_eq_true]
    refine ⟨⟨figs_pos c, figs_le 5 c (by decide) (by omega)⟩, fun x hx => decide_eq_true ?_⟩
    have := figs_digit c x hx
    simp [FIG]
    omega
  have hC : okC (headL c t) = true := by
    unfold okC
    rw [htxt, hnum, h3, Bool.and_eq_true, Bool.and_eq_true, decide_eq_true_eq, decide_eq_true_eq, List.all_eq_true]
    exact ⟨rfl, by omega, fun x hx => decide_eq_true (ht.1 x hx)⟩
  unfold rowV
  rw [h1, h2, hA, hB, hC, hnum, htxt]
  simp
theorem no10 {a c : Nat} {t : List Nat} (ht : ∀ x ∈ t, x ∈ SIG) : 10 ∉ bodyL a c t := by
  intro h
  unfold bodyL at h
  rw [List.mem_append, List.mem_append] at h
  rcases h with (h | h) | h
  · exact absurd (head_sig ht 10 h) (by decide)
  · simp at h
  · unfold rj at h
    rw [List.mem_append] at h
    rcases h with h | h
    · have := List.eq_of_mem_replicate h
      omega
    · exact figs_no (.inl (by decide)) h
/-- what is read -/
def rowsF : Nat → Nat → Nat → List (List Nat) → List PV
  | _, _, _, [] => []
  | a, c, p, t :: r => .tup [.int c, .str t, .int (sumN a (headL c t)), .int ((p + (lineL a c t).length : Nat) : Int)] :: rowsF (sumN a (headL c t)) (c + 1) (p + (lineL a c t).length) r
def LastOk (xs : List PV) (c : Nat) : Prop := xs = [] ∨ ∃ ys c' r, xs = ys ++ [.tup (.int (c' : Nat) :: r)] ∧ c = c' + 1
/-- the reading stops here -/
def Stop (a c : Nat) (fst : Bool) (rest : List Nat) : Prop := 10 ∉ rest ∨ ∃ l more, rest = l ++ 10 :: more ∧ 10 ∉ l ∧ (rowV a l = .non ∨ ∃ c0 t s, rowV a l = .tup [.int (c0 : Nat), .str t, .int (s : Nat)] ∧ fst = false ∧ c0 ≠ c)
theorem nxt_at {pre l more : List Nat} (h : 10 ∉ l) : nxt (pre ++ (l ++ 10 :: more)) pre.length = ((pre.length + l.length : Nat) : Int) := by
  unfold nxt
  rw [List.drop_left, findC_app l more _ h]
theorem nxt_no {pre rest : List Nat} (h : 10 ∉ rest) : nxt (pre ++ rest) pre.length = -1 := by
  unfold nxt
  rw [List.drop_left, findC_none rest _ h]
theorem mid_at {pre l more : List Nat} : ((pre ++ (l ++ 10 :: more)).take (pre.length + l.length)).drop pre.length = l := by
  rw [← List.append_assoc, show pre.length + l.length = (pre ++ l).length from by simp, List.take_left, List.drop_left]
def rtest : C := .cmp .ge (.var 2) (.lit (.int 0))
theorem rtest_eq (n : Nat) (r0 r1 r3 r4 r5 : Option PV) (i : Int) (S : Store) : evE (o n) rtest [r0, r1, some (.int i), r3, r4, r5] S = .ok (.bl (decide (0 ≤ i))) S := by
  unfold rtest
  simp only [evE_cmp, evE_var, evE_lit, List.getElem?_cons_zero, List.getElem?_cons_succ, Out.bind_ok, cmpK, cmp_ge, Option.map_some, lift_some]
theorem whileL_next {test : Env → Store → Out PV} {body : Env → Store → SOut} {k : Nat} {ρ ρ' : Env} {S S1 S' : Store} (h : test ρ S = .ok (.bl true) S1) (hb : body ρ S1 = .next ρ' S') : whileL test body (k + 1) ρ S = whileL test body k ρ' S' := by
  conv => lhs; unfold whileL
  rw [h, Out.toS_ok]
  simp only [hb]
theorem whileL_ret {test : Env → Store → Out PV} {body : Env → Store → SOut} {k : Nat} {ρ : Env} {S S1 S' : Store} {v : PV} (h : test ρ S = .ok (.bl true) S1) (hb : body ρ S1 = .ret v S') : whileL test body (k + 1) ρ S = .ret v S' := by
  conv => lhs; unfold whileL
  rw [h, Out.toS_ok]
  simp only [hb]
theorem whileL_end {test : Env → Store → Out PV} {body : Env → Store → SOut} {k : Nat} {ρ : Env} {S S1 : Store} (h : test ρ S = .ok (.bl false) S1) : whileL test body (k + 1) ρ S = .next ρ S1 := by
  conv => lhs; unfold whileL
  rw [h, Out.toS_ok]
def retF (o : Orc) : Env → Store → SOut := fun ρ' S' => evSs o [.ret (.var 1)] ρ' S'
/-- the loop: the lines rem are read, then it stops -/
theorem rows_loop (n : Nat) (S : Store) (rest : List Nat) : ∀ (rem : List (List Nat)) (a c : Nat) (pre : List Nat) (xs : List PV) (r5 : Option PV) (k : Nat), a < 99991 → c + rem.length ≤ 100000 → (∀ t ∈ rem, (∀ x ∈ t, x ∈ SIG) ∧ 1 ≤ t.length ∧ t.length ≤ 20000) →
    (pre ++ ((linesF a c rem).flatten ++ rest)).length ≤ 1000000 → xs.length + rem.length < 1000000 → LastOk xs c → Stop (aft a c rem) (c + rem.length) (xs.isEmpty && rem.isEmpty) rest → rem.length < k →
    (whileL (evE (o (n + 2)) rtest) (evSs (o (n + 2)) rwB) k [some (.str (pre ++ ((linesF a c rem).flatten ++ rest))), some (.ref S.length), some (.int (nxt (pre ++ ((linesF a c rem).flatten ++ rest)) pre.length)), some (.int pre.length), some (.int a), r5] (S ++ [.lst xs])).andThen (retF (o (n + 2))) = .ret (.ref S.length) (S ++ [.lst (xs ++ rowsF a c pre.length rem)]) := by
  intro rem
  induction rem with
  | nil =>
    intro a c pre xs r5 k ha hc ht hl hx hL hS hk
    obtain ⟨k, rfl⟩ : ∃ j, k = j + 1 := ⟨k - 1, by simp at hk; omega⟩
    simp only [linesF, rowsF, List.flatten_nil, List.nil_append, List.append_nil, aft, List.length_nil, Nat.add_zero, List.isEmpty_nil, Bool.and_true] at *
    rcases hS with h10 | ⟨l, more, rfl, h10, hr⟩
    · rw [nxt_no h10, whileL_end (S1 := S ++ [.lst xs]) (rtest_eq _ _ _ _ _ _ _ _)]
      rfl
    · rw [nxt_at h10, whileL_ret (S1 := S ++ [.lst xs]) (v := .ref S.length) (S' := S ++ [.lst xs]) (by rw [rtest_eq, decide_eq_true (by omega)]) ?_]
      · rfl
      · refine body_stop n S (pre ++ (l ++ 10 :: more)) xs (pre.length + l.length) pre.length a r5 ha hl ?_
        rw [mid_at]
        rcases hr with hr | ⟨c0, t, s, hr, he, hne⟩
        · rw [hr]
          exact orR_non _ _ _ _ _ _ _
        · rw [hr]
          rcases hL with rfl | ⟨ys, c', r, rfl, hcc⟩
          · simp at he
          · rw [orR_more]
            rw [decide_eq_false (by omega)]
            rfl
  | cons t r ih =>
    intro a c pre xs r5 k ha hc ht hl hx hL hS hk
    obtain ⟨k, rfl⟩ : ∃ j, k = j + 1 := ⟨k - 1, by simp at hk; omega⟩
    rw [List.length_cons] at hc hx hk
    have htt := ht t (by simp)
    have hn := no10 (a := a) (c := c) htt.1
    have e1 : pre ++ ((linesF a c (t :: r)).flatten ++ rest) = pre ++ (bodyL a c t ++ 10 :: ((linesF (sumN a (headL c t)) (c + 1) r).flatten ++ rest)) := by
      rw [linesF, List.flatten_cons]
      unfold lineL
      simp
    have e2 : pre ++ ((linesF a c (t :: r)).flatten ++ rest) = (pre ++ lineL a c t) ++ ((linesF (sumN a (headL c t)) (c + 1) r).flatten ++ rest) := by
      rw [linesF, List.flatten_cons]
      simp
    have elen : (pre ++ lineL a c t).length = pre.length + (bodyL a c t).length + 1 := by
      unfold lineL
      simp
      omega
    have hnx : nxt (pre ++ ((linesF a c (t :: r)).flatten ++ rest)) pre.length = ((pre.length + (bodyL a c t).length : Nat) : Int) := by rw [e1, nxt_at hn]
    have hmid : ((pre ++ ((linesF a c (t :: r)).flatten ++ rest)).take (pre.length + (bodyL a c t).length)).drop pre.length = bodyL a c t := by rw [e1, mid_at]
    have hgo := body_go n S (pre ++ ((linesF a c (t :: r)).flatten ++ rest)) xs (pre.length + (bodyL a c t).length) pre.length a r5 c t (sumN a (headL c t)) ha hl (by omega) (by rw [hmid, row_good (by omega) htt]) (by
      rcases hL with rfl | ⟨ys, c', r', rfl, hcc⟩
      · exact orR_tup _ _ _ _ _ _ _ _ _
      · rw [orR_more, decide_eq_true (by omega)]
        rfl)
    have htest := rtest_eq (n + 2) (some (.str (pre ++ ((linesF a c (t :: r)).flatten ++ rest)))) (some (.ref S.length)) (some (.int pre.length)) (some (.int a)) r5 ((pre.length + (bodyL a c t).length : Nat) : Int) (S ++ [.lst xs])
    rw [decide_eq_true (by omega)] at htest
    have hw := whileL_next (test := evE (o (n + 2)) rtest) (body := evSs (o (n + 2)) rwB) (k := k) htest hgo
    rw [hnx, hw, e2, ← elen]
    have := ih (sumN a (headL c t)) (c + 1) (pre ++ lineL a c t) (xs ++ [.tup [.int c, .str t, .int (sumN a (headL c t)), .int (((pre ++ lineL a c t).length : Nat) : Int)]]) (some (.tup [.int c, .str t, .int (sumN a (headL c t))])) k (sumN_lt _ _) (by omega) (fun u hu => ht u (by simp [hu])) (by rw [← e2]; exact hl) (by rw [List.length_append]; simp; omega)
      (.inr ⟨xs, c, _, rfl, rfl⟩) (by
        have hS' := hS
        rw [show (xs.isEmpty && (t :: r).isEmpty) = false from by simp] at hS'
        rw [show ((xs ++ [PV.tup [.int c, .str t, .int (sumN a (headL c t)), .int (((pre ++ lineL a c t).length : Nat) : Int)]]).isEmpty && r.isEmpty) = false from by simp, show c + 1 + r.length = c + (t :: r).length from by rw [List.length_cons]; omega]
        exact hS') (by omega)
    rw [this, rowsF, List.append_assoc]
    have el2 : (pre ++ lineL a c t).length = pre.length + (lineL a c t).length := by simp
    rw [el2]
    rfl
end K37

set_option linter.all false
set_option autoImplicit false
set_option maxRecDepth 100000
set_option maxHeartbeats 4000000
/-! K37n1: rows_of, texts_of. -/
namespace K37
open MK
theorem frz_strs (S : Store) (n0 d : Nat) : ∀ l : List (List Nat), frzL (frz S n0 d) (l.map PV.str) = some (l.map .str) := by
  intro l
  induction l with
  | nil => rfl
  | cons x r ih =>
    rw [List.map_cons]
    unfold frzL
    rw [ih]
    cases d <;> rfl
theorem cl_rows_of (n : Nat) (a : PV) (S : Store) : callF fuel fns (n + 1) 8 [a] S = fin true S (evSs (o n) b_rows_of [some a, none, none, none, none, none] S) := rfl
theorem cl_check (n : Nat) (a : PV) (S : Store) : callF fuel fns (n + 1) 9 [a] S = fin true S (evSs (o n) b_check_text [some a] S) := rfl
theorem cl_texts_of (n : Nat) (a : PV) (S : Store) : callF fuel fns (n + 1) 10 [a] S = fin true S (evSs (o n) b_texts_of [some a, none, none] S) := rfl
theorem check_eq (n : Nat) (s : List Nat) (S : Store) : callF fuel fns (n + 1) 9 [.str s] S = .ok .non S := by
  rw [cl_check]
  unfold b_check_text
  simp only [evSs_cons, evSs_nil, evS_ifs, evE_not, evE_isi, evE_var, List.getElem?_cons_zero, Out.bind_ok, isTy_str_str, Option.map_some, lift_some, notK_bl, Bool.not_true, Out.toS_ok, ifK_false, SOut.next_andThen]
  show close true S .non S = _
  simp [close, frz]
theorem rowsF_frz (S : Store) (n0 d : Nat) : ∀ (rem : List (List Nat)) (a c p : Nat), frzL (frz S n0 (d + 2)) (rowsF a c p rem) = some (rowsF a c p rem)
  | [], _, _, _ => rfl
  | t :: r, a, c, p => by
    unfold rowsF
    have h1 : frz S n0 (d + 2) (.tup [.int c, .str t, .int (sumN a (headL c t)), .int ((p + (lineL a c t).length : Nat) : Int)]) = some (.tup [.int c, .str t, .int (sumN a (headL c t)), .int ((p + (lineL a c t).length : Nat) : Int)]) := rfl
    unfold frzL
    rw [h1, rowsF_frz S n0 d r]
theorem rows_of_eq (n f : Nat) (rem : List (List Nat)) (rest : List Nat) (S : Store) (hc : f + rem.length ≤ 100000) (ht : ∀ t ∈ rem, (∀ x ∈ t, x ∈ SIG) ∧ 1 ≤ t.length ∧ t.length ≤ 20000) (hl : ((linesF 0 f rem).flatten ++ rest).length ≤ 1000000) (hr : rem.length < 1000)
    (hS : Stop (aft 0 f rem) (f + rem.length) rem.isEmpty rest) : callF fuel fns (n + 3) 8 [.str ((linesF 0 f rem).flatten ++ rest)] S = .ok (.lst (rowsF 0 f 0 rem)) S := by
  rw [cl_rows_of, rows_src]
  have key := rows_loop n S rest rem 0 f [] [] none 100000 (by decide) hc ht (by simpa using hl) (by simp; omega) (.inl rfl) (by simpa using hS) (by omega)
  simp only [List.nil_append, List.length_nil] at key
  generalize hT : (linesF 0 f rem).flatten ++ rest = T at key hl ⊢
  have s1 : evS (o (n + 2)) (.asg (.nm 1) (.lst true [])) [some (.str T), none, none, none, none, none] S = .next [some (.str T), some (.ref S.length), none, none, none, none] (S ++ [.lst []]) := by
    simp [lstK, asgK_nm]
  have s2 : evS (o (n + 2)) (.asg (.tp [(.nm 3), (.nm 4)]) (.tup [.lit (.int 0), .lit (.int 0)])) [some (.str T), some (.ref S.length), none, none, none, none] (S ++ [.lst []]) = .next [some (.str T), some (.ref S.length), none, some (.int 0), some (.int 0), none] (S ++ [.lst []]) := by
    rw [evS_asg, tup2_ok rfl rfl, Out.toS_ok, asgK_tp2 _ (by simp) (by simp)]
    rfl
  have hf : ∀ S, evBM S .find (.str T) [.str [10]] = some (.int (nxt T 0)) := fun S => rfl
  have s3 : evS (o (n + 2)) (.asg (.nm 2) (.bm .find (.var 0) [.lit (.str [10])])) [some (.str T), some (.ref S.length), none, some (.int 0), some (.int 0), none] (S ++ [.lst []]) = .next [some (.str T), some (.ref S.length), some (.int (nxt T 0)), some (.int 0), some (.int 0), none] (S ++ [.lst []]) := by
    simp only [evS_asg, evE_bm, evE_var, evE_lit, evEs_cons, evEs_nil, List.getElem?_cons_zero, Out.bind_ok, bmK_str, hf, lift_some, Out.toS_ok]
    rw [asgK_nm _ (by simp)]
    rfl
  rw [evSs_cons, s1, SOut.next_andThen, evSs_cons, s2, SOut.next_andThen, evSs_cons, s3, SOut.next_andThen, evSs_cons, evS_while]
  have key2 : (whileL (evE (o (n + 2)) (.cmp .ge (.var 2) (.lit (.int 0)))) (evSs (o (n + 2)) rwB) (o (n + 2)).fuel [some (.str T), some (.ref S.length), some (.int (nxt T 0)), some (.int 0), some (.int 0), none] (S ++ [.lst []])).andThen (fun ρ' S' => evSs (o (n + 2)) [.ret (.var 1)] ρ' S') = .ret (.ref S.length) (S ++ [.lst (rowsF 0 f 0 rem)]) := key
  rw [key2]
  show close true S (.ref S.length) (S ++ [.lst (rowsF 0 f 0 rem)]) = _
  have hg : (S ++ [Cell.lst (rowsF 0 f 0 rem)])[S.length]? = some (.lst (rowsF 0 f 0 rem)) := by simp
  have hz : frz (S ++ [Cell.lst (rowsF 0 f 0 rem)]) S.length 60 (.ref S.length) = some (.lst (rowsF 0 f 0 rem)) := by
    show (if S.length < S.length then some (PV.ref S.length) else match (S ++ [Cell.lst (rowsF 0 f 0 rem)])[S.length]? with
      | some (.lst xs) => (frzL (frz (S ++ [Cell.lst (rowsF 0 f 0 rem)]) S.length 59) xs).map PV.lst
      | _ => none) = _
    rw [if_neg (Nat.lt_irrefl _), hg]
    show (frzL _ (rowsF 0 f 0 rem)).map PV.lst = _
    rw [rowsF_frz _ _ 57]
    rfl
  unfold close
  rw [if_pos rfl, hz]
  simp
def readV (f : Nat) (rem : List (List Nat)) : PV := if rem.isEmpty then .tup [.int 1, .tup [], .int 0] else .tup [.int f, tup rem, .int (linesF 0 f rem).flatten.length]
theorem rowsF_len : ∀ (rem : List (List Nat)) (a c p : Nat), (rowsF a c p rem).length = rem.length
  | [], _, _, _ => rfl
  | t :: r, a, c, p => by unfold rowsF; rw [List.length_cons, List.length_cons, rowsF_len]
theorem rowsF_last : ∀ (rem : List (List Nat)) (a c p : Nat), rem ≠ [] → ∃ ys c1 t1 s1, rowsF a c p rem = ys ++ [.tup [.int (c1 : Nat), .str t1, .int (s1 : Nat), .int ((p + (linesF a c rem).flatten.length : Nat) : Int)]]
  | [], _, _, _, h => absurd rfl h
  | [t], a, c, p, _ => ⟨[], c, t, sumN a (headL c t), by simp [rowsF, linesF]⟩
  | t :: u :: r, a, c, p, _ => by
    obtain ⟨ys, c1, t1, s1, e⟩ := rowsF_last (u :: r) (sumN a (headL c t)) (c + 1) (p + (lineL a c t).length) (by simp)
    refine ⟨.tup [.int c, .str t, .int (sumN a (headL c t)), .int ((p + (lineL a c t).length : Nat) : Int)] :: ys, c1, t1, s1, ?_⟩
    have el : (linesF a c (t :: u :: r)).flatten.length = (lineL a c t).length + (linesF (sumN a (headL c t)) (c + 1) (u :: r)).flatten.length := by
      show ((lineL a c t :: linesF (sumN a (headL c t)) (c + 1) (u :: r)).flatten).length = _
      rw [List.flatten_cons, List.length_append]
    rw [rowsF, e, List.cons_append, el, ← Nat.add_assoc]
theorem rowsF_txt (n : Nat) (r0 r1 : Option PV) (S : Store) (w : Walk) (hw : w.2 = none) : ∀ (rem : List (List Nat)) (a c p : Nat) (acc : List PV), compL (cturn (o n) (.nm 2) [] (.ix (.var 2) (.lit (.int 1))) [r0, r1, none] w) acc (rowsF a c p rem) S = .ok (acc ++ rem.map .str) S
  | [], a, c, p, acc => by simp [rowsF, compL]
  | t :: r, a, c, p, acc => by
    rw [rowsF]
    unfold compL
    rw [cturn_ok (ρ' := [r0, r1, some (.tup [.int c, .str t, .int (sumN a (headL c t)), .int ((p + (lineL a c t).length : Nat) : Int)])]) (y := .str t) rfl rfl hw]
    show compL _ (acc ++ [.str t]) _ S = _
    rw [rowsF_txt n r0 r1 S w hw r]
    simp
theorem texts_of_eq (n f : Nat) (rem : List (List Nat)) (rest : List Nat) (S : Store) (hc : f + rem.length ≤ 100000) (ht : ∀ t ∈ rem, (∀ x ∈ t, x ∈ SIG) ∧ 1 ≤ t.length ∧ t.length ≤ 20000) (hl : ((linesF 0 f rem).flatten ++ rest).length ≤ 1000000) (hr : rem.length < 1000)
    (hS : Stop (aft 0 f rem) (f + rem.length) rem.isEmpty rest) : callF fuel fns (n + 4) 10 [.str ((linesF 0 f rem).flatten ++ rest)] S = .ok (readV f rem) S := by
  rw [cl_texts_of]
  have hrows := rows_of_eq n f rem rest S hc ht hl hr hS
  generalize (linesF 0 f rem).flatten ++ rest = T at hrows
  have e0 : b_texts_of = [.ex (.call 9 [.var 0]), .asg (.nm 1) (.call 8 [.var 0]), .ifs (.cmp .eq (.bi .len [.var 1]) (.lit (.int 0))) [.ret (.tup [.lit (.int 1), .tup [], .lit (.int 0)])] [],
    .ret (.tup [.ix (.ix (.var 1) (.lit (.int 0))) (.lit (.int 0)), .bi .tuple [.lc false [2] (.nm 2) (.seq (.var 1)) [] (.ix (.var 2) (.lit (.int 1)))], .ix (.ix (.var 1) (.neg (.lit (.int 1)))) (.lit (.int 3))])] := rfl
  have s1 : evS (o (n + 3)) (.ex (.call 9 [.var 0])) [some (.str T), none, none] S = .next [some (.str T), none, none] S := by
    have e : evEs (o (n + 3)) [.var 0] [some (.str T), none, none] S = .ok [.str T] S := rfl
    rw [evS_ex, evE_call, e, Out.bind_ok, o_call, check_eq (n + 2) T S, Out.toS_ok]
  have s2 : evS (o (n + 3)) (.asg (.nm 1) (.call 8 [.var 0])) [some (.str T), none, none] S = .next [some (.str T), some (.lst (rowsF 0 f 0 rem)), none] S := by
    have e : evEs (o (n + 3)) [.var 0] [some (.str T), none, none] S = .ok [.str T] S := rfl
    rw [evS_asg, evE_call, e, Out.bind_ok, o_call, hrows, Out.toS_ok, asgK_nm _ (by simp)]
    rfl
  have hcond : evE (o (n + 3)) (.cmp .eq (.bi .len [.var 1]) (.lit (.int 0))) [some (.str T), some (.lst (rowsF 0 f 0 rem)), none] S = .ok (.bl (decide ((rem.length : Int) = 0))) S := by
    simp only [evE_cmp, evE_bi, evEs_cons, evEs_nil, evE_var, evE_lit, List.getElem?_cons_zero, List.getElem?_cons_succ, Out.bind_ok, len_lst, lift_some, cmpK, cmp_eq_int, Option.map_some, rowsF_len]
  rw [e0, evSs_cons, s1, SOut.next_andThen, evSs_cons, s2, SOut.next_andThen, evSs_cons, evS_ifs, hcond, Out.toS_ok]
  unfold readV
  cases rem with
  | nil =>
    show close true S (.tup [.int 1, .tup [], .int 0]) S = _
    have hz : frz S S.length 60 (.tup [.int 1, .tup [], .int 0]) = some (.tup [.int 1, .tup [], .int 0]) := rfl
    unfold close
    rw [if_pos rfl, hz]
    simp
  | cons t r =>
    rw [decide_eq_false (by simp; omega), ifK_false, evSs_nil, SOut.next_andThen]
    obtain ⟨ys, c1, t1, s1', e⟩ := rowsF_last (t :: r) 0 f 0 (by simp)
    rw [Nat.zero_add] at e
    have q1 : evE (o (n + 3)) (.ix (.ix (.var 1) (.lit (.int 0))) (.lit (.int 0))) [some (.str T), some (.lst (rowsF 0 f 0 (t :: r))), none] S = .ok (.int f) S := rfl
    have q2 : evE (o (n + 3)) (.bi .tuple [.lc false [2] (.nm 2) (.seq (.var 1)) [] (.ix (.var 2) (.lit (.int 1)))]) [some (.str T), some (.lst (rowsF 0 f 0 (t :: r))), none] S = .ok (tup (t :: r)) S := by
      have hlc : lcK (o (n + 3)) false [2] (.nm 2) [] (.ix (.var 2) (.lit (.int 1))) [some (.str T), some (.lst (rowsF 0 f 0 (t :: r))), none] (rowsF 0 f 0 (t :: r), none) S = .ok (.lst ((t :: r).map .str)) S := by
        unfold lcK
        show (compL (cturn (o (n + 3)) (.nm 2) [] (.ix (.var 2) (.lit (.int 1))) [some (.str T), some (.lst (rowsF 0 f 0 (t :: r))), none] (rowsF 0 f 0 (t :: r), none)) [] (rowsF 0 f 0 (t :: r)) S).bind _ = _
        rw [rowsF_txt (n + 3) _ _ S _ rfl, Out.bind_ok, lcE, if_pos (by rw [rowsF_len, SZ_big]; omega)]
        rfl
      simp only [evE_bi, evEs_cons, evEs_nil, evE_lc, evIt_seq, evE_var, List.getElem?_cons_zero, List.getElem?_cons_succ, Out.bind_ok, walk_lst, lift_some, hlc, tuple_lst]
      rfl
    have q3 : evE (o (n + 3)) (.ix (.ix (.var 1) (.neg (.lit (.int 1)))) (.lit (.int 3))) [some (.str T), some (.lst (rowsF 0 f 0 (t :: r))), none] S = .ok (.int (linesF 0 f (t :: r)).flatten.length) S := by
      have hix : evIx S (.lst (rowsF 0 f 0 (t :: r))) (.int (-1)) = some (.tup [.int (c1 : Nat), .str t1, .int (s1' : Nat), .int ((linesF 0 f (t :: r)).flatten.length : Int)]) := by
        rw [e]
        show ixAt (ys ++ [_]) (-1) = _
        unfold ixAt
        simp
        rw [show ((-1 : Int) + ((ys.length : Int) + 1)).toNat = ys.length from by omega]
        simp
        omega
      simp only [evE_ix, evE_neg, negK_int, evE_var, evE_lit, List.getElem?_cons_zero, List.getElem?_cons_succ, Out.bind_ok, hix, lift_some]
      rfl
    rw [evSs_cons, evS_ret, tup3_ok q1 q2 q3, Out.toS_ok]
    show close true S (.tup [.int f, tup (t :: r), .int (linesF 0 f (t :: r)).flatten.length]) S = _
    have hq : frz S S.length 59 (tup (t :: r)) = some (tup (t :: r)) := by
      show (frzL (frz S S.length 58) ((t :: r).map PV.str)).map PV.tup = _
      rw [frz_strs]
      rfl
    have hz : frz S S.length 60 (.tup [.int f, tup (t :: r), .int (linesF 0 f (t :: r)).flatten.length]) = some (.tup [.int f, tup (t :: r), .int (linesF 0 f (t :: r)).flatten.length]) := by
      show (frzL (frz S S.length 59) [.int f, tup (t :: r), .int (linesF 0 f (t :: r)).flatten.length]).map PV.tup = _
      simp only [frzL, hq]
      rfl
    unfold close
    rw [if_pos rfl, hz]
    simp
end K37

set_option linter.all false
set_option autoImplicit false
set_option maxRecDepth 100000
set_option maxHeartbeats 4000000
/-! K37n2: what is no line. -/
namespace K37
open MK
theorem row_cases (a : Nat) (l : List Nat) : rowV a l = .non ∨ (okA l = true ∧ okB (hd l) = true ∧ okC (hd l) = true ∧ (tl l).drop 1 = rj (sumN a (hd l)) ∧ rowV a l = .tup [.int (numW (hd l)), .str (txt (hd l)), .int (sumN a (hd l))]) := by
  unfold rowV
  by_cases hA : okA l = true
  · by_cases hB : okB (hd l) = true
    · by_cases hC : okC (hd l) = true
      · by_cases hD : (tl l).drop 1 = rj (sumN a (hd l))
        · exact .inr ⟨hA, hB, hC, hD, by rw [if_pos hA, if_pos hB, if_pos hC, if_pos hD]⟩
        · exact .inl (by rw [if_pos hA, if_pos hB, if_pos hC, if_neg hD])
      · exact .inl (by rw [if_pos hA, if_pos hB, if_neg hC])
    · exact .inl (by rw [if_pos hA, if_neg hB])
  · exact .inl (by rw [if_neg hA])
theorem okA_parts {l : List Nat} (h : okA l = true) : (tl l).take 1 = [35] ∧ (∀ x ∈ hd l, x ∈ SIG) := by
  unfold okA at h
  rw [Bool.and_eq_true, Bool.and_eq_true, decide_eq_true_eq, decide_eq_true_eq, List.all_eq_true] at h
  exact ⟨h.1.1, fun x hx => of_decide_eq_true (h.2 x hx)⟩
/-- a # ahead of the last six -/
theorem non_hash {a : Nat} {l : List Nat} (h : 35 ∈ hd l) : rowV a l = .non := by
  rcases row_cases a l with q | ⟨hA, _⟩
  · exact q
  · exact absurd ((okA_parts hA).2 35 h) (by decide)
/-- where the sixth sign from the end is no # -/
theorem non_at {a : Nat} {l : List Nat} (h : (tl l).take 1 ≠ [35]) : rowV a l = .non := by
  rcases row_cases a l with q | ⟨hA, _⟩
  · exact q
  · exact absurd (okA_parts hA).1 h
/-- a line's beginning -/
theorem non_prefix {a b c : Nat} {t : List Nat} (ht : ∀ x ∈ t, x ∈ SIG) (j : Nat) (hj : j < (bodyL a c t).length) : rowV b ((bodyL a c t).take j) = .non := by
  refine non_at ?_
  have hlen : (bodyL a c t).length = (headL c t).length + 6 := by
    have hr := rj_len (sumN_lt a (headL c t))
    unfold bodyL
    rw [List.length_append, List.length_append, hr]
    rfl
  unfold tl
  intro e
  have hl : ((bodyL a c t).take j).length = j := by rw [List.length_take]; omega
  rw [hl] at e
  have h0 : ((((bodyL a c t).take j).drop (j - 6)).take 1)[0]? = some 35 := by rw [e]; rfl
  rw [List.getElem?_take, if_pos (by decide), List.getElem?_drop, List.getElem?_take] at h0
  split at h0
  · rename_i hlt
    have hhl := head_len c t
    have hh : j - 6 + 0 < (headL c t).length := by omega
    unfold bodyL at h0
    rw [List.append_assoc, List.getElem?_append_left hh] at h0
    exact absurd (head_sig ht 35 (List.mem_of_getElem? h0)) (by decide)
  · cases h0
theorem rj_inj {m n : Nat} (hm : m < 99991) (hn : n < 99991) (h : rj m = rj n) : m = n := by
  rw [rj_digs (by omega), rj_digs (by omega)] at h
  unfold digs at h
  injection h with h1 h
  injection h with h2 h
  injection h with h3 h
  injection h with h4 h
  injection h with h5 h
  omega
end K37

set_option linter.all false
set_option autoImplicit false
set_option maxRecDepth 100000
set_option maxHeartbeats 4000000
/-! K37n3: changed signs move the sum. -/
namespace K37
open MK
theorem wt_inj : ∀ x ∈ SIG, ∀ y ∈ SIG, wt x = wt y → x = y := by decide +kernel
theorem wsum_set : ∀ (s : List Nat) (p i c x : Nat), s[i]? = some x → wsum p (s.set i c) + (p + i + 1) * wt x = wsum p s + (p + i + 1) * wt c
  | [], p, i, c, x, h => by simp at h
  | y :: r, p, 0, c, x, h => by
    cases h
    show (p + 1) * wt c + wsum (p + 1) r + (p + 0 + 1) * wt y = (p + 1) * wt y + wsum (p + 1) r + (p + 0 + 1) * wt c
    rw [Nat.add_zero]
    omega
  | y :: r, p, i + 1, c, x, h => by
    have ih := wsum_set r (p + 1) i c x (by simpa using h)
    show (p + 1) * wt y + wsum (p + 1) (r.set i c) + (p + (i + 1) + 1) * wt x = (p + 1) * wt y + wsum (p + 1) r + (p + (i + 1) + 1) * wt c
    rw [show p + 1 + i + 1 = p + (i + 1) + 1 from by omega] at ih
    omega
theorem body_len {a c : Nat} {t : List Nat} : (bodyL a c t).length = (headL c t).length + 6 := by
  have hr := rj_len (sumN_lt a (headL c t))
  unfold bodyL
  rw [List.length_append, List.length_append, hr]
  rfl
/-- equal sums -/
theorem sum_eq {a : Nat} {h h' : List Nat} (e : rj (sumN a h) = rj (sumN a h')) (P Q : Nat) (hw : wsum 0 h' + P = wsum 0 h + Q) (hP : P < 90000) (hQ : Q < 90000) : P = Q := by
  have e := rj_inj (sumN_lt _ _) (sumN_lt _ _) e
  unfold sumN at e
  omega
theorem head_set {a c c' i x : Nat} {t : List Nat} (hl : (headL c t).length ≤ 40) (ht : ∀ x ∈ t, x ∈ SIG) (hx : (headL c t)[i]? = some x) (hc : c' ∈ SIG) (hne : c' ≠ x) : rj (sumN a (headL c t)) ≠ rj (sumN a ((headL c t).set i c')) := by
  intro e
  have hi : i < (headL c t).length := (List.getElem?_eq_some_iff.mp hx).1
  have hw := wsum_set (headL c t) 0 i c' x hx
  have h1 := wt_le x
  have h2 := wt_le c'
  have b1 : (0 + i + 1) * wt x ≤ 40 * 56 := Nat.mul_le_mul (by omega) h1
  have b2 : (0 + i + 1) * wt c' ≤ 40 * 56 := Nat.mul_le_mul (by omega) h2
  have := sum_eq e _ _ hw (by omega) (by omega)
  have hwt : wt x = wt c' := Nat.eq_of_mul_eq_mul_left (by omega) this
  exact hne (wt_inj c' hc x (head_sig ht x (List.mem_of_getElem? hx)) hwt.symm)
/-- one sign of a line changed -/
theorem non_set {a c c' i x : Nat} {t : List Nat} (hl : (headL c t).length ≤ 40) (ht : ∀ x ∈ t, x ∈ SIG) (hx : (bodyL a c t)[i]? = some x) (hne : c' ≠ x) : rowV a ((bodyL a c t).set i c') = .non := by
  have hi : i < (bodyL a c t).length := (List.getElem?_eq_some_iff.mp hx).1
  have hbl := body_len (a := a) (c := c) (t := t)
  rcases row_cases a ((bodyL a c t).set i c') with q | ⟨hA, _, _, hD, _⟩
  · exact q
  exfalso
  obtain ⟨h1, h2⟩ := okA_parts hA
  obtain ⟨e1, e2⟩ := body_split (a := a) (c := c) (t := t)
  unfold hd at e1 h2 hD
  unfold tl at e2 h1 hD
  rw [List.length_set] at h1 h2 hD
  rw [hbl, Nat.add_sub_cancel] at e1 e2 h1 h2 hD
  by_cases h : i < (headL c t).length
  · have k1 : ((bodyL a c t).set i c').take (headL c t).length = (headL c t).set i c' := by rw [List.take_set, e1]
    have k2 : ((bodyL a c t).set i c').drop (headL c t).length = 35 :: rj (sumN a (headL c t)) := by rw [List.drop_set_of_lt h, e2]
    rw [k1, k2] at hD
    rw [k1] at h2
    have hx2 : (headL c t)[i]? = some x := by
      rw [← e1, List.getElem?_take, if_pos h]
      exact hx
    exact head_set hl ht hx2 (h2 c' (List.mem_set h c')) hne hD
  · have k1 : ((bodyL a c t).set i c').take (headL c t).length = headL c t := by
      rw [List.take_set, e1, List.set_eq_of_length_le (by omega)]
    have k2 : ((bodyL a c t).set i c').drop (headL c t).length = (35 :: rj (sumN a (headL c t))).set (i - (headL c t).length) c' := by
      rw [List.drop_set, if_neg h, e2]
    rw [k1, k2] at hD
    rw [k2] at h1
    have hx2 : (35 :: rj (sumN a (headL c t)))[i - (headL c t).length]? = some x := by
      rw [← e2, List.getElem?_drop, show (headL c t).length + (i - (headL c t).length) = i from by omega]
      exact hx
    generalize hj : i - (headL c t).length = j at *
    cases j with
    | zero =>
      have : c' = 35 := by simpa using h1
      have hx3 : (35 : Nat) = x := by simpa using hx2
      exact hne (by rw [this, hx3])
    | succ j =>
      have hq : (rj (sumN a (headL c t))).set j c' = rj (sumN a (headL c t)) := hD
      have hx3 : (rj (sumN a (headL c t)))[j]? = some x := by simpa using hx2
      have hjl : j < (rj (sumN a (headL c t))).length := (List.getElem?_eq_some_iff.mp hx3).1
      have : ((rj (sumN a (headL c t))).set j c')[j]? = some c' := List.getElem?_set_self hjl
      rw [hq, hx3] at this
      exact hne (Option.some.inj this).symm
end K37

set_option linter.all false
set_option autoImplicit false
set_option maxRecDepth 100000
set_option maxHeartbeats 4000000
/-! K37p1: what a changed sign does to a sum; what is no line. -/
namespace K37
open MK
theorem sum_neq {a : Nat} {h h' : List Nat} (e : sumN a h' = sumN a h) (P Q : Nat) (hw : wsum 0 h' + P = wsum 0 h + Q) (hP : P < 90000) (hQ : Q < 90000) : P = Q := by
  unfold sumN at e
  omega
theorem sum_set {a c k : Nat} {s : List Nat} (hs : ∀ x ∈ s, x ∈ SIG) (hl : s.length ≤ 30) (hk : k < s.length) (hc : c ∈ SIG) : sumN a (s.set k c) = sumN a s ↔ s.set k c = s := by
  refine ⟨fun e => ?_, fun e => by rw [e]⟩
  have hx : s[k]? = some s[k] := List.getElem?_eq_getElem hk
  have hm := hs s[k] (List.getElem_mem hk)
  generalize s[k] = x at hx hm
  have hw := wsum_set s 0 k c x hx
  have b1 : (0 + k + 1) * wt x ≤ 40 * 56 := Nat.mul_le_mul (by omega) (wt_le x)
  have b2 : (0 + k + 1) * wt c ≤ 40 * 56 := Nat.mul_le_mul (by omega) (wt_le c)
  have := sum_neq e _ _ hw (by omega) (by omega)
  have hwt : wt x = wt c := Nat.eq_of_mul_eq_mul_left (by omega) this
  have hxc := wt_inj x hm c hc hwt
  subst hxc
  obtain ⟨h1, h2⟩ := List.getElem?_eq_some_iff.mp hx
  rw [← h2]
  exact List.set_getElem_self h1
theorem sum_swap {a i j x y : Nat} {s : List Nat} (hs : ∀ x ∈ s, x ∈ SIG) (hl : s.length ≤ 30) (hij : i < j) (hx : s[i]? = some x) (hy : s[j]? = some y) : sumN a ((s.set i y).set j x) = sumN a s ↔ (s.set i y).set j x = s := by
  refine ⟨fun e => ?_, fun e => by rw [e]⟩
  have hj : j < s.length := (List.getElem?_eq_some_iff.mp hy).1
  have w1 := wsum_set s 0 i y x hx
  have w2 := wsum_set (s.set i y) 0 j x y (by rw [List.getElem?_set_ne (by omega)]; exact hy)
  have h1 := wt_le x
  have h2 := wt_le y
  have b1 : (0 + i + 1) * wt x ≤ 40 * 56 := Nat.mul_le_mul (by omega) h1
  have b2 : (0 + i + 1) * wt y ≤ 40 * 56 := Nat.mul_le_mul (by omega) h2
  have b3 : (0 + j + 1) * wt x ≤ 40 * 56 := Nat.mul_le_mul (by omega) h1
  have b4 : (0 + j + 1) * wt y ≤ 40 * 56 := Nat.mul_le_mul (by omega) h2
  have key := sum_neq e ((0 + i + 1) * wt x + (0 + j + 1) * wt y) ((0 + i + 1) * wt y + (0 + j + 1) * wt x) (by omega) (by omega) (by omega)
  obtain ⟨d, rfl⟩ : ∃ d, j = i + 1 + d := ⟨j - (i + 1), by omega⟩
  have m1 : (0 + (i + 1 + d) + 1) * wt x = (0 + i + 1) * wt x + (d + 1) * wt x := by rw [← Nat.add_mul]; congr 1; omega
  have m2 : (0 + (i + 1 + d) + 1) * wt y = (0 + i + 1) * wt y + (d + 1) * wt y := by rw [← Nat.add_mul]; congr 1; omega
  rw [m1, m2] at key
  have : (d + 1) * wt x = (d + 1) * wt y := by omega
  have hwt : wt x = wt y := Nat.eq_of_mul_eq_mul_left (by omega) this
  have hxy := wt_inj x (hs x (List.mem_of_getElem? hx)) y (hs y (List.mem_of_getElem? hy)) hwt
  subst hxy
  obtain ⟨q1, q2⟩ := List.getElem?_eq_some_iff.mp hx
  obtain ⟨q3, q4⟩ := List.getElem?_eq_some_iff.mp hy
  have e1 : s.set i x = s := by rw [← q2]; exact List.set_getElem_self q1
  rw [e1]
  rw [← q4]
  exact List.set_getElem_self q3
/-! ### a line of any head -/
def lnH (h : List Nat) : List Nat := h ++ [35] ++ digs (sumN 0 h)
theorem digs_len (n : Nat) : (digs n).length = 5 := rfl
theorem lnH_split (h : List Nat) : hd (lnH h) = h ∧ tl (lnH h) = 35 :: digs (sumN 0 h) := by
  have e : lnH h = h ++ (35 :: digs (sumN 0 h)) := by unfold lnH; rw [List.append_assoc]; rfl
  have l : (lnH h).length - 6 = h.length := by rw [e, List.length_append, List.length_cons, digs_len]; omega
  unfold hd tl
  rw [l, e]
  exact ⟨List.take_left, List.drop_left⟩
theorem body_lnH (c : Nat) (t : List Nat) : bodyL 0 c t = lnH (headL c t) := by
  have := sumN_lt 0 (headL c t)
  unfold bodyL lnH
  rw [rj_digs (by omega)]
theorem non_B {a : Nat} {l : List Nat} (h : okB (hd l) = false) : rowV a l = .non := by
  rcases row_cases a l with q | ⟨_, hB, _⟩
  · exact q
  · rw [h] at hB; cases hB
theorem non_C {a : Nat} {l : List Nat} (h : okC (hd l) = false) : rowV a l = .non := by
  rcases row_cases a l with q | ⟨_, _, hC, _⟩
  · exact q
  · rw [h] at hC; cases hC
theorem non_A {a : Nat} {l : List Nat} (h : okA l = false) : rowV a l = .non := by
  rcases row_cases a l with q | ⟨hA, _⟩
  · exact q
  · rw [h] at hA; cases hA
/-- a head's first word, of signs that are no blanks -/
theorem w0_app {w r : List Nat} (h : 32 ∉ w) : w0 (w ++ 32 :: r) = w ∧ w1 (w ++ 32 :: r) = r := by
  have e := findC_app w r 0 h
  unfold w0 w1
  rw [e, Option.getD_some, Nat.zero_add]
  refine ⟨List.take_left, ?_⟩
  rw [show w ++ 32 :: r = (w ++ [32]) ++ r from by rw [List.append_assoc]; rfl]
  rw [show w.length + 1 = (w ++ [32]).length from by rw [List.length_append]; rfl]
  exact List.drop_left
theorem no_B {w r : List Nat} (h : 32 ∉ w) (hb : (decide (1 ≤ w.length ∧ w.length ≤ 5) && w.all fun c => decide (c ∈ FIG)) = false) : rowV 0 (lnH (w ++ 32 :: r)) = .non := by
  refine non_B ?_
  rw [(lnH_split _).1]
  unfold okB
  rw [(w0_app h).1]
  exact hb
theorem no_num {w r : List Nat} {m : Nat} (h : 32 ∉ w) (hn : numOf w 0 = some m) (hf : w ≠ figs (m : Int)) : rowV 0 (lnH (w ++ 32 :: r)) = .non := by
  refine non_C ?_
  rw [(lnH_split _).1]
  unfold okC numW
  rw [(w0_app h).1, hn, Option.getD_some, decide_eq_false hf]
  rfl
theorem no_empty {w : List Nat} (h : 32 ∉ w) : rowV 0 (lnH (w ++ [32, 32])) = .non := by
  refine non_C ?_
  rw [(lnH_split _).1]
  unfold okC txt
  rw [(w0_app h).2]
  simp
theorem no_blank {h : List Nat} (hb : h.drop (h.length - 1) ≠ [32]) : rowV 0 (lnH h) = .non := by
  refine non_A ?_
  unfold okA
  rw [(lnH_split _).1, decide_eq_false hb]
  simp
/-- the sixth sign from the end -/
theorem no_six {p q : List Nat} (hq : q.length = 6) (h : q.take 1 ≠ [35]) : rowV 0 (p ++ q) = .non := by
  refine non_at ?_
  unfold tl
  rw [List.length_append, hq, Nat.add_sub_cancel, List.drop_left]
  exact h
theorem no_short {l : List Nat} (hq : l.length ≤ 6) (h : l.take 1 ≠ [35]) : rowV 0 l = .non := by
  refine non_at ?_
  unfold tl
  rw [show l.length - 6 = 0 from by omega]
  exact h
/-- another figure ahead in the sum -/
theorem no_sum {h : List Nat} {d : Nat} (hd' : (digs (sumN 0 h)).take 1 ≠ [d]) : rowV 0 (h ++ [35] ++ (d :: (digs (sumN 0 h)).drop 1)) = .non := by
  rcases row_cases 0 (h ++ [35] ++ (d :: (digs (sumN 0 h)).drop 1)) with q | ⟨_, _, _, hD, _⟩
  · exact q
  exfalso
  have e : h ++ [35] ++ (d :: (digs (sumN 0 h)).drop 1) = h ++ (35 :: d :: (digs (sumN 0 h)).drop 1) := by rw [List.append_assoc]; rfl
  have l : (h ++ (35 :: d :: (digs (sumN 0 h)).drop 1)).length - 6 = h.length := by rw [List.length_append, List.length_cons, List.length_cons, List.length_drop, digs_len]; omega
  rw [e] at hD
  unfold hd tl at hD
  rw [l, List.take_left, List.drop_left] at hD
  have := sumN_lt 0 h
  rw [rj_digs (by omega)] at hD
  refine hd' ?_
  rw [← hD]
  rfl
end K37

set_option linter.all false
set_option autoImplicit false
set_option maxRecDepth 100000
set_option maxHeartbeats 4000000
/-! K37p2: the law's loop over a text's signs. -/
namespace K37
open MK MK.N
theorem cl_sum_of (n : Nat) (a t : PV) (S : Store) : callF fuel fns (n + 1) 3 [a, t] S = fin true S (evSs (o n) b_sum_of [some a, some t, none] S) := rfl
theorem sum_of_eq (n a : Nat) (s : List Nat) (S : Store) (ha : a < 99991) (hs : ∀ c ∈ s, c ∈ SIG) (hl : s.length ≤ 1000) : callF fuel fns (n + 2) 3 [.int a, .str s] S = .ok (.int (sumN a s)) S := by
  rw [cl_sum_of]
  unfold b_sum_of
  have h0 : ([some (.int a), some (.str s), none] : Env)[0]? = some (some (.int (a : Int))) := rfl
  have h1 : ([some (.int a), some (.str s), none] : Env)[1]? = some (some (.str s)) := rfl
  have e1 : evE (o (n + 1)) (.call 0 [.var 0, .lit (.int 0), .bin .sub (.gl vSUMS) (.lit (.int 1))]) [some (.int a), some (.str s), none] S = .ok (.bl true) S := by
    have := is_whole_eq n (a : Int) 0 99990 S
    rw [decide_eq_true (by omega)] at this
    exact call_ok (es_ok (var_ok h0) (es_ok (con_ok _) (es1_ok rfl))) this
  have e2 : evE (o (n + 1)) (.or [.not (.isi (.var 1) .str), .not (.bi .all [.lc false [2] (.nm 2) (.seq (.var 1)) [] (.cmp .mem (.var 2) (.gl vSIGNS))])]) [some (.int a), some (.str s), none] S = .ok (.bl false) S := by
    refine or2_ok (x := false) (y := false) rfl fun _ => ?_
    have hlc : evE (o (n + 1)) (.lc false [2] (.nm 2) (.seq (.var 1)) [] (.cmp .mem (.var 2) (.gl vSIGNS))) [some (.int a), some (.str s), none] S = .ok (.lst (s.map fun c => .bl (decide (c ∈ SIG)))) S := by
      rw [evE_lc, evIt_seq, var_ok h1, Out.bind_ok, walk_str, lift_some, Out.bind_ok]
      exact signs_lc (n + 1) 2 _ s S (by rw [SZ_big]; omega) (by simp)
    have hall : (s.all fun c => decide (c ∈ SIG)) = true := List.all_eq_true.mpr fun c hc => decide_eq_true (hs c hc)
    rw [evE_not, bi1_ok hlc (evBI_all S _ s), hall]
    rfl
  have e3 : evE (o (n + 1)) (.call 2 [.var 0, .var 1]) [some (.int a), some (.str s), none] S = .ok (.int (sumN a s)) S := by
    have := sum_in_eq n (a : Int) s S (by omega) hs
    rw [sumN_eq] at this
    exact call_ok (es2_ok (var_ok h0) (var_ok h1)) this
  rw [seq_ok (ifs_no (by rw [evE_not, e1]; rfl)) (seq_ok (ifs_no e2) (last_ok (by rw [evS_ret, e3, Out.toS_ok])))]
  exact fin_int S _

/-- the names while a turn lasts: up to the text and the number ahead -/
def EnvL (sc : PV) (ds : List Int) (tu : Nat) (s : List Nat) (a : Nat) (r4 r5 r6 r7 r8 r9 r10 r13 r14 r15 r16 r17 r18 r19 r20 : Option PV) : Env :=
  [some sc, some (.lst (ds.map .int)), some (.str SIG), some (.int (tu : Int)), r4, r5, r6, r7, r8, r9, r10, some (.str s), some (.int (a : Int)), r13, r14, r15, r16, r17, r18, r19, r20]
def kE1 : C := .ix (.var 2) (.bin .mod (.bi .int [.ix (.var 1) (.bin .mod (.bin .add (.var 5) (.var 3)) (.lit (.int 60)))]) (.bi .len [.var 2]))
def kE2 : C := .bin .mod (.bi .int [.ix (.var 1) (.bin .mod (.bin .add (.bin .add (.var 5) (.lit (.int 7))) (.var 3)) (.lit (.int 60)))]) (.bi .len [.var 11])
def kE3 : C := .bin .add (.bin .add (.sl false true (.var 11) (.lit .non) (.var 5)) (.var 13)) (.sl true false (.var 11) (.bin .add (.var 5) (.lit (.int 1))) (.lit .non))
def kE4 : C := .tup [.bi .min2 [.var 5, .var 14], .bi .max2 [.var 5, .var 14]]
def kE5 : C := .ite (.cmp .lt (.var 17) (.var 18)) (.bin .add (.bin .add (.bin .add (.bin .add (.sl false true (.var 11) (.lit .non) (.var 17)) (.ix (.var 11) (.var 18))) (.sl true true (.var 11) (.bin .add (.var 17) (.lit (.int 1))) (.var 18))) (.ix (.var 11) (.var 17))) (.sl true false (.var 11) (.bin .add (.var 18) (.lit (.int 1))) (.lit .non))) (.var 11)
def kE6 (i : Nat) : C := .cmp .ne (.cmp .eq (.call 3 [.var 12, .var i]) (.call 3 [.var 12, .var 11])) (.cmp .eq (.var i) (.var 11))
def kB : List MK.S := [.asg (.nm 13) kE1, .asg (.nm 14) kE2, .asg (.nm 15) kE3, .asg (.tp [(.nm 17), (.nm 18)]) kE4, .asg (.nm 16) kE5, .ifs (.or [kE6 15, kE6 16]) [.ret (.lit (.bl false))] []]
theorem cmp_ne_bl (S : Store) (p q : Bool) : evCmp S .ne (.bl p) (.bl q) = some (!decide (p = q)) := by cases p <;> cases q <;> rfl
section
variable {sc : PV} {ds : List Int} {tu a k : Nat} {s : List Nat} {r4 r5 r6 r7 r8 r9 r10 r13 r14 r15 r16 r17 r18 r19 r20 : Option PV} {S : Store} {ρ : Env}
theorem kE6_ok {i : Nat} {s' : List Nat} (h : ρ[i]? = some (some (.str s'))) (h11 : ρ[11]? = some (some (.str s))) (h12 : ρ[12]? = some (some (.int (a : Int)))) (ha : a < 99991) (hs : ∀ x ∈ s, x ∈ SIG) (hs' : ∀ x ∈ s', x ∈ SIG) (hl : s.length ≤ 30) (hl' : s'.length ≤ 30) (he : sumN a s' = sumN a s ↔ s' = s) :
    evE (o 7) (kE6 i) ρ S = .ok (.bl false) S := by
  have q1 := sum_of_eq 5 a s' S ha hs' (by omega)
  have q2 := sum_of_eq 5 a s S ha hs (by omega)
  refine cmp_ok (cmp_ok (call_ok (es2_ok (var_ok h12) (var_ok h)) q1) (call_ok (es2_ok (var_ok h12) (var_ok h11)) q2) (cmp_eq_int _ _ _)) (cmp_ok (var_ok h) (var_ok h11) (cmp_eq_str _ _ _)) ?_
  rw [cmp_ne_bl]
  have : decide ((sumN a s' : Int) = (sumN a s : Int)) = decide (s' = s) := decide_eq_decide.mpr ⟨fun h => he.mp (by omega), fun h => by rw [h]⟩
  rw [this, decide_eq_true rfl]
  rfl
theorem kB_ok (hd : okD ds) (hl : ds.length = 60) (ha : a < 99991) (hs : ∀ x ∈ s, x ∈ SIG) (h30 : s.length ≤ 30) (hk : k < s.length) :
    ∃ c13 c14 c15 c16 c17 c18, evSs (o 7) kB (EnvL sc ds tu s a r4 (some (.int (k : Int))) r6 r7 r8 r9 r10 r13 r14 r15 r16 r17 r18 r19 r20) S = .next (EnvL sc ds tu s a r4 (some (.int (k : Int))) r6 r7 r8 r9 r10 c13 c14 c15 c16 c17 c18 r19 r20) S := by
  obtain ⟨m1, hm1, e1⟩ := mod_ok (o := o 7) (ρ := EnvL sc ds tu s a r4 (some (.int (k : Int))) r6 r7 r8 r9 r10 r13 r14 r15 r16 r17 r18 r19 r20) (S := S) (m := 60) rfl (bin_ok (var_ok (i := 5) rfl) (var_ok (i := 3) rfl) (add_nat S k tu)) (by decide)
  obtain ⟨d1, e1⟩ := MK.N.draw_at (i := 1) rfl hd hl e1 hm1
  obtain ⟨n1, hn1, e1⟩ := modE_ok (f := .bi .len [.var 2]) (m := 56) e1 (bi1_ok (var_ok (i := 2) rfl) (len_str _ _)) (by decide)
  have hx : SIG[n1]? = some SIG[n1] := List.getElem?_eq_getElem (by exact hn1)
  have hc : SIG[n1] ∈ SIG := List.getElem_mem _
  generalize SIG[n1] = c at hx hc
  have E1 : evE (o 7) kE1 (EnvL sc ds tu s a r4 (some (.int (k : Int))) r6 r7 r8 r9 r10 r13 r14 r15 r16 r17 r18 r19 r20) S = .ok (.str [c]) S := ix_ok (var_ok (i := 2) rfl) e1 (ixs_str hx)
  obtain ⟨m2, hm2, e2⟩ := mod_ok (o := o 7) (ρ := EnvL sc ds tu s a r4 (some (.int (k : Int))) r6 r7 r8 r9 r10 (some (.str [c])) r14 r15 r16 r17 r18 r19 r20) (S := S) (m := 60) rfl (bin_ok (bin_ok (var_ok (i := 5) rfl) (l_nat (o 7) 7 7 rfl) (add_nat S k 7)) (var_ok (i := 3) rfl) (add_nat S (k + 7) tu)) (by decide)
  obtain ⟨d2, e2⟩ := MK.N.draw_at (i := 1) rfl hd hl e2 hm2
  obtain ⟨n, hn, E2⟩ := modE_ok (f := .bi .len [.var 11]) (m := s.length) e2 (bi1_ok (var_ok (i := 11) rfl) (len_str _ _)) (by omega)
  have E3 : evE (o 7) kE3 (EnvL sc ds tu s a r4 (some (.int (k : Int))) r6 r7 r8 r9 r10 (some (.str [c])) (some (.int (n : Int))) r15 r16 r17 r18 r19 r20) S = .ok (.str (s.set k c)) S := by
    rw [set_cut _ _ _ hk]
    refine bin_ok (bin_ok (sl_to_ok (var_ok (i := 11) rfl) (var_ok (i := 5) rfl) (sl_str_to S _ k)) (var_ok (i := 13) rfl) (add_str S ?_)) (sl_from_ok (var_ok (i := 11) rfl) (bin_ok (var_ok (i := 5) rfl) (con_ok _) (add_one S k)) (sl_str_from S _ (k + 1))) (add_str S ?_)
    all_goals simp only [SZ_big, List.length_append, List.length_take, List.length_drop, List.length_singleton]; omega
  have E4 : evE (o 7) kE4 (EnvL sc ds tu s a r4 (some (.int (k : Int))) r6 r7 r8 r9 r10 (some (.str [c])) (some (.int (n : Int))) (some (.str (s.set k c))) r16 r17 r18 r19 r20) S = .ok (.tup [.int ((min k n : Nat) : Int), .int ((max k n : Nat) : Int)]) S :=
    tup2_ok (bi_ok (es2_ok (var_ok (i := 5) rfl) (var_ok (i := 14) rfl)) (min_nat S k n)) (bi_ok (es2_ok (var_ok (i := 5) rfl) (var_ok (i := 14) rfl)) (max_nat S k n))
  have hi : min k n < s.length := by omega
  have hj : max k n < s.length := by omega
  generalize min k n = i at hi E4
  generalize max k n = j at hj E4
  have E5 : ∃ s', s'.length = s.length ∧ (∀ x ∈ s', x ∈ SIG) ∧ (sumN a s' = sumN a s ↔ s' = s) ∧ evE (o 7) kE5 (EnvL sc ds tu s a r4 (some (.int (k : Int))) r6 r7 r8 r9 r10 (some (.str [c])) (some (.int (n : Int))) (some (.str (s.set k c))) r16 (some (.int (i : Int))) (some (.int (j : Int))) r19 r20) S = .ok (.str s') S := by
    by_cases hij : i < j
    · have hx : s[i]? = some s[i] := List.getElem?_eq_getElem hi
      have hy : s[j]? = some s[j] := List.getElem?_eq_getElem hj
      have mx := hs _ (List.getElem_mem hi)
      have my := hs _ (List.getElem_mem hj)
      generalize s[i] = x at hx mx
      generalize s[j] = y at hy my
      refine ⟨(s.set i y).set j x, by rw [List.length_set, List.length_set], fun z hz => ?_, sum_swap hs h30 hij hx hy, ?_⟩
      · rcases List.mem_or_eq_of_mem_set hz with q | q
        · rcases List.mem_or_eq_of_mem_set q with q | q
          · exact hs z q
          · rw [q]; exact my
        · rw [q]; exact mx
      rw [set_cut2 _ _ _ _ _ hij hj]
      refine ite_ok (cmp_ok (var_ok (i := 17) rfl) (var_ok (i := 18) rfl) (cmp_lt _ _ _)) (fun _ => ?_) (fun q => absurd q (by rw [decide_eq_true (by omega)]; decide))
      refine bin_ok (bin_ok (bin_ok (bin_ok (sl_to_ok (var_ok (i := 11) rfl) (var_ok (i := 17) rfl) (sl_str_to S _ i)) (ix_ok (var_ok (i := 11) rfl) (var_ok (i := 18) rfl) (ixs_str hy)) (add_str S ?_)) (sl_mid_ok (var_ok (i := 11) rfl) (bin_ok (var_ok (i := 17) rfl) (con_ok _) (add_one S i)) (var_ok (i := 18) rfl) (sl_str_mid S _ (i + 1) j)) (add_str S ?_)) (ix_ok (var_ok (i := 11) rfl) (var_ok (i := 17) rfl) (ixs_str hx)) (add_str S ?_)) (sl_from_ok (var_ok (i := 11) rfl) (bin_ok (var_ok (i := 18) rfl) (con_ok _) (add_one S j)) (sl_str_from S _ (j + 1))) (add_str S ?_)
      all_goals simp only [SZ_big, List.length_append, List.length_take, List.length_drop, List.length_singleton]; omega
    · exact ⟨s, rfl, hs, ⟨fun _ => rfl, fun _ => rfl⟩, ite_ok (cmp_ok (var_ok (i := 17) rfl) (var_ok (i := 18) rfl) (cmp_lt _ _ _)) (fun q => absurd q (by rw [decide_eq_false (by omega)]; decide)) (fun _ => var_ok (i := 11) rfl)⟩
  obtain ⟨s', l', hs', he', E5⟩ := E5
  have E6 : evE (o 7) (.or [kE6 15, kE6 16]) (EnvL sc ds tu s a r4 (some (.int (k : Int))) r6 r7 r8 r9 r10 (some (.str [c])) (some (.int (n : Int))) (some (.str (s.set k c))) (some (.str s')) (some (.int (i : Int))) (some (.int (j : Int))) r19 r20) S = .ok (.bl false) S :=
    or2_ok (kE6_ok (i := 15) rfl rfl rfl ha hs (fun z hz => by rcases List.mem_or_eq_of_mem_set hz with q | q; exact hs z q; rw [q]; exact hc) h30 (by rw [List.length_set]; exact h30) (sum_set hs h30 hk hc)) fun _ => kE6_ok (i := 16) rfl rfl rfl ha hs hs' h30 (by omega) he'
  refine ⟨some (.str [c]), some (.int (n : Int)), some (.str (s.set k c)), some (.str s'), some (.int (i : Int)), some (.int (j : Int)), ?_⟩
  unfold kB
  refine seq_ok (asg_ok E1 (by simp [EnvL])) (seq_ok (asg_ok E2 (by simp [EnvL])) (seq_ok (asg_ok E3 (by simp [EnvL])) (seq_ok (asg2_ok E4 (by simp [EnvL]) (by simp [EnvL])) (seq_ok (asg_ok E5 (by simp [EnvL])) (last_ok (ifs_no E6))))))
end
end K37

set_option linter.all false
set_option autoImplicit false
set_option maxRecDepth 100000
set_option maxHeartbeats 4000000
/-! K37p3: what is no line: the law's texts, and what texts_of tells of them. -/
namespace K37
open MK MK.N
def V0 : PV := .tup [.int 1, .tup [], .int 0]
theorem no_line {l more : List Nat} {S : Store} (h : 10 ∉ l) (hr : rowV 0 l = .non) (hl : (l ++ 10 :: more).length ≤ 1000000) : callF fuel fns 7 10 [.str (l ++ 10 :: more)] S = .ok V0 S := by
  have := texts_of_eq 3 1 [] (l ++ 10 :: more) S (by decide) (by simp) hl (by decide) (.inr ⟨l, more, rfl, h, .inl hr⟩)
  exact this
theorem no_lf {l : List Nat} {S : Store} (h : 10 ∉ l) (hl : l.length ≤ 1000000) : callF fuel fns 7 10 [.str l] S = .ok V0 S := by
  have := texts_of_eq 3 1 [] l S (by decide) (by simp) hl (by decide) (.inl h)
  exact this
theorem one_line {t : List Nat} {S : Store} (ht : (∀ x ∈ t, x ∈ SIG) ∧ 1 ≤ t.length ∧ t.length ≤ 20000) : callF fuel fns 7 10 [.str (lineL 0 1 t)] S = .ok (.tup [.int 1, .tup [.str t], .int ((lineL 0 1 t).length : Int)]) S := by
  have e : (linesF 0 1 [t]).flatten = lineL 0 1 t := by show lineL 0 1 t ++ [] = _; rw [List.append_nil]
  have := texts_of_eq 3 1 [t] [] S (by show 1 + 1 ≤ 100000; decide) (fun x hx => by rw [List.mem_singleton.mp hx]; exact ht) (by rw [e, List.append_nil, line_len (by decide)]; rw [show (figs ((1 : Nat) : Int)).length = 1 from rfl]; omega) (by show 1 < 1000; decide) (.inl (by simp))
  rw [e, List.append_nil] at this
  rw [this]
  unfold readV
  rw [e]
  rfl
/-! ### the texts -/
def Hd (s : List Nat) : List Nat := headL 1 s
theorem Hd_eq (s : List Nat) : Hd s = [49, 32] ++ s ++ [32] := by
  unfold Hd headL
  rw [show figs ((1 : Nat) : Int) = [49] from rfl]
  rfl
def dg (s : List Nat) : List Nat := digs (sumN 0 (Hd s))
def Gd (s : List Nat) : List Nat := Hd s ++ [35] ++ dg s ++ [10]
theorem Gd_line (s : List Nat) : lineL 0 1 s = Gd s := by
  unfold lineL
  rw [body_lnH]
  rfl
def h0 (s : List Nat) : List Nat := [48, 49, 32] ++ s ++ [32]
def h1 (s : List Nat) : List Nat := [49, 32] ++ s
def h2 (s : List Nat) : List Nat := [32] ++ s ++ [32]
def h3 (s : List Nat) : List Nat := [49, 32, 32]
def h4 (s : List Nat) : List Nat := [120, 32] ++ s ++ [32]
def h5 (s : List Nat) : List Nat := [49, 50, 51, 52, 53, 54, 32] ++ s ++ [32]
def h6 (s : List Nat) : List Nat := [45, 49, 32] ++ s ++ [32]
def BH (s : List Nat) : List (List Nat) := [h0 s, h1 s, h2 s, h3 s, h4 s, h5 s, h6 s]
def lnF (h : List Nat) : List Nat := lnH h ++ [10]
def fz (s : List Nat) : Nat := if (dg s).take 1 = [48] then 49 else 48
def B2 (s : List Nat) : List (List Nat) := [Hd s ++ [35] ++ (dg s).drop 1 ++ [10], Hd s ++ [35] ++ dg s ++ [48, 10], Hd s ++ dg s ++ [10], Hd s ++ [35] ++ [fz s] ++ (dg s).drop 1 ++ [10], Hd s ++ [35] ++ dg s, [10] ++ Gd s, Hd s ++ [35] ++ dg s ++ [32, 10]]
def BL (s : List Nat) : List (List Nat) := (BH s).map lnF ++ B2 s
theorem sig10 {x : Nat} (h : x ∈ SIG) : x ≠ 10 := fun e => by subst e; revert h; decide
theorem digs10 (n : Nat) : ∀ x ∈ digs n, 48 ≤ x ∧ x ≤ 57 := by
  intro x hx
  unfold digs at hx
  simp only [List.mem_cons, List.not_mem_nil, or_false] at hx
  omega
section
variable {s : List Nat}
theorem BH_sig (hs : ∀ x ∈ s, x ∈ SIG) : ∀ h ∈ BH s, ∀ x ∈ h, x ∈ SIG := by
  have key : ∀ (p q : List Nat), (∀ x ∈ p, x ∈ SIG) → (∀ x ∈ q, x ∈ SIG) → ∀ x ∈ p ++ s ++ q, x ∈ SIG := by
    intro p q hp hq x hx
    rcases List.mem_append.mp hx with h | h
    · rcases List.mem_append.mp h with h | h
      · exact hp x h
      · exact hs x h
    · exact hq x h
  intro h hh
  simp only [BH, List.mem_cons, List.not_mem_nil, or_false] at hh
  rcases hh with rfl | rfl | rfl | rfl | rfl | rfl | rfl
  · exact key _ _ (by decide) (by decide)
  · have := key [49, 32] [] (by decide) (by decide)
    rw [List.append_nil] at this
    exact this
  · exact key _ _ (by decide) (by decide)
  · show ∀ x ∈ [49, 32, 32], x ∈ SIG
    decide
  · exact key _ _ (by decide) (by decide)
  · exact key _ _ (by decide) (by decide)
  · exact key _ _ (by decide) (by decide)
theorem BH_len (h30 : s.length ≤ 30) : ∀ h ∈ BH s, h.length ≤ 40 := by
  intro h hh
  simp only [BH, List.mem_cons, List.not_mem_nil, or_false] at hh
  rcases hh with rfl | rfl | rfl | rfl | rfl | rfl | rfl <;> simp [h0, h1, h2, h3, h4, h5, h6] <;> omega
theorem lnH_10 {h : List Nat} (hh : ∀ x ∈ h, x ∈ SIG) : 10 ∉ lnH h := by
  unfold lnH
  intro hx
  rcases List.mem_append.mp hx with q | q
  · rcases List.mem_append.mp q with q | q
    · exact sig10 (hh _ q) rfl
    · simp at q
  · have := digs10 _ _ q
    omega
theorem Hd_sig (hs : ∀ x ∈ s, x ∈ SIG) : ∀ x ∈ Hd s, x ∈ SIG := head_sig hs
theorem last_blank {l : List Nat} (h : l.drop (l.length - 1) = [32]) : ∃ t, l = t ++ [32] := ⟨l.take (l.length - 1), by
  have := List.take_append_drop (l.length - 1) l
  rw [h] at this
  exact this.symm⟩
/-- what texts_of tells -/
theorem tell (hs : ∀ x ∈ s, x ∈ SIG) (h1' : 1 ≤ s.length) (h30 : s.length ≤ 30) (S : Store) : ∀ k L, (BL s)[k]? = some L → L.length ≤ 100 ∧
    (callF fuel fns 7 10 [.str L] S = .ok V0 S ∨ (k = 1 ∧ 32 ∈ s.drop 1 ∧ ∃ t n, callF fuel fns 7 10 [.str L] S = .ok (.tup [.int 1, .tup [.str t], .int n]) S)) := by
  have b10 : ∀ h ∈ BH s, 10 ∉ lnH h := fun h hh => lnH_10 (BH_sig hs h hh)
  have bl : ∀ h : List Nat, h.length ≤ 40 → (lnH h).length ≤ 50 := fun h hh => by
    unfold lnH
    rw [List.length_append, List.length_append, digs_len]
    show h.length + 1 + 5 ≤ 50
    omega
  have one : ∀ h ∈ BH s, rowV 0 (lnH h) = .non → (lnF h).length ≤ 100 ∧ callF fuel fns 7 10 [.str (lnF h)] S = .ok V0 S := fun h hh hr => by
    have := bl h (BH_len h30 h hh)
    have l2 : (lnF h).length ≤ 100 := by
      unfold lnF
      rw [List.length_append]
      show _ + 1 ≤ 100
      omega
    exact ⟨l2, no_line (more := []) (b10 h hh) hr (by show (lnF h).length ≤ _; omega)⟩
  have Hl : (Hd s).length ≤ 33 := by rw [Hd_eq]; simp; omega
  have dl : (dg s).length = 5 := rfl
  have hd10 : 10 ∉ Hd s := fun hx => sig10 (Hd_sig hs _ hx) rfl
  have dg10 : ∀ x ∈ dg s, 48 ≤ x ∧ x ≤ 57 := digs10 _
  obtain ⟨d, ds5, hdg⟩ : ∃ d ds5, dg s = d :: ds5 := ⟨_, _, rfl⟩
  have hd48 : 48 ≤ d ∧ d ≤ 57 := dg10 d (by rw [hdg]; simp)
  have hds5 : ∀ x ∈ ds5, 48 ≤ x ∧ x ≤ 57 := fun x hx => dg10 x (by rw [hdg]; simp [hx])
  have l5 : ds5.length = 4 := by rw [hdg] at dl; simpa using dl
  have two : ∀ l more : List Nat, l.length ≤ 50 → more.length ≤ 45 → 10 ∉ l → rowV 0 l = .non → (l ++ 10 :: more).length ≤ 100 ∧ callF fuel fns 7 10 [.str (l ++ 10 :: more)] S = .ok V0 S := fun l more hl hm h10 hr => by
    have e : (l ++ 10 :: more).length = l.length + (more.length + 1) := by rw [List.length_append, List.length_cons]
    exact ⟨by omega, no_line h10 hr (by omega)⟩
  have nd : ∀ x ∈ dg s, x ≠ 10 := fun x hx => by have := dg10 x hx; omega
  intro k L hL
  match k, hL with
  | 0, hL =>
    cases hL
    have := one (h0 s) (by simp [BH]) (by
      rw [show h0 s = [48, 49] ++ 32 :: (s ++ [32]) from by simp [h0]]
      exact no_num (m := 1) (by decide) rfl (by decide))
    exact ⟨this.1, .inl this.2⟩
  | 1, hL =>
    cases hL
    by_cases hb : s.drop (s.length - 1) = [32]
    · obtain ⟨t, rfl⟩ := last_blank hb
      by_cases ht : t = []
      · subst ht
        have := one (h1 ([] ++ [32])) (by simp [BH]) (by
          rw [show h1 ([] ++ [32]) = [49] ++ [32, 32] from rfl]
          exact no_empty (by decide))
        exact ⟨this.1, .inl this.2⟩
      · have e : lnF (h1 (t ++ [32])) = lineL 0 1 t := by
          unfold lineL
          rw [body_lnH, show headL 1 t = h1 (t ++ [32]) from by show Hd t = _; rw [Hd_eq]; simp [h1]]
          rfl
        have tl : 1 ≤ t.length := by
          cases t with
          | nil => exact absurd rfl ht
          | cons a b => simp
        have tt : t.length ≤ 29 := by simp at h30; omega
        have hl2 : (lnF (h1 (t ++ [32]))).length ≤ 100 := by
          have := bl (h1 (t ++ [32])) (BH_len h30 _ (by simp [BH]))
          unfold lnF
          rw [List.length_append]
          show _ + 1 ≤ 100
          omega
        refine ⟨hl2, .inr ⟨rfl, ?_, t, _, by rw [e]; exact one_line ⟨fun x hx => hs x (by simp [hx]), tl, by omega⟩⟩⟩
        cases t with
        | nil => exact absurd rfl ht
        | cons a b => simp
    · have := one (h1 s) (by simp [BH]) (no_blank (by
        unfold h1
        rw [List.length_append]
        rw [show ([49, 32] : List Nat).length + s.length - 1 = ([49, 32] : List Nat).length + (s.length - 1) from by omega, List.drop_append, List.drop_eq_nil_of_le (show ([49, 32] : List Nat).length ≤ _ from by omega), List.nil_append, Nat.add_sub_cancel_left]
        exact hb))
      exact ⟨this.1, .inl this.2⟩
  | 2, hL =>
    cases hL
    have := one (h2 s) (by simp [BH]) (by
      rw [show h2 s = [] ++ 32 :: (s ++ [32]) from by simp [h2]]
      exact no_B (by decide) (by decide))
    exact ⟨this.1, .inl this.2⟩
  | 3, hL =>
    cases hL
    have := one (h3 s) (by simp [BH]) (by
      rw [show h3 s = [49] ++ [32, 32] from rfl]
      exact no_empty (by decide))
    exact ⟨this.1, .inl this.2⟩
  | 4, hL =>
    cases hL
    have := one (h4 s) (by simp [BH]) (by
      rw [show h4 s = [120] ++ 32 :: (s ++ [32]) from by simp [h4]]
      exact no_B (by decide) (by decide))
    exact ⟨this.1, .inl this.2⟩
  | 5, hL =>
    cases hL
    have := one (h5 s) (by simp [BH]) (by
      rw [show h5 s = [49, 50, 51, 52, 53, 54] ++ 32 :: (s ++ [32]) from by simp [h5]]
      exact no_B (by decide) (by decide))
    exact ⟨this.1, .inl this.2⟩
  | 6, hL =>
    cases hL
    have := one (h6 s) (by simp [BH]) (by
      rw [show h6 s = [45, 49] ++ 32 :: (s ++ [32]) from by simp [h6]]
      exact no_B (by decide) (by decide))
    exact ⟨this.1, .inl this.2⟩
  | 7, hL =>
    cases hL
    have := two (Hd s ++ [35] ++ (dg s).drop 1) [] (by rw [hdg]; simp; omega) (by decide) (by
      rw [hdg]; simp; exact ⟨hd10, fun h => by have := hds5 _ h; omega⟩) (by
      rw [show Hd s ++ [35] ++ (dg s).drop 1 = ([49, 32] ++ s) ++ ([32, 35] ++ ds5) from by rw [Hd_eq, hdg]; simp]
      exact no_six (by simp; omega) (by simp))
    exact ⟨this.1, .inl this.2⟩
  | 8, hL =>
    cases hL
    have := two (Hd s ++ [35] ++ dg s ++ [48]) [] (by rw [hdg]; simp; omega) (by decide) (by
      rw [hdg]; simp; exact ⟨hd10, by omega, fun h => by have := hds5 _ h; omega⟩) (by
      rw [show Hd s ++ [35] ++ dg s ++ [48] = (Hd s ++ [35]) ++ (d :: (ds5 ++ [48])) from by rw [hdg]; simp]
      exact no_six (by simp; omega) (by simp; omega))
    rw [show Hd s ++ [35] ++ dg s ++ [48, 10] = Hd s ++ [35] ++ dg s ++ [48] ++ [10] from by simp]
    exact ⟨this.1, .inl this.2⟩
  | 9, hL =>
    cases hL
    have := two (Hd s ++ dg s) [] (by rw [hdg]; simp; omega) (by decide) (by
      rw [hdg]; simp; exact ⟨hd10, by omega, fun h => by have := hds5 _ h; omega⟩) (by
      rw [show Hd s ++ dg s = ([49, 32] ++ s) ++ (32 :: d :: ds5) from by rw [Hd_eq, hdg]; simp]
      exact no_six (by simp; omega) (by simp))
    exact ⟨this.1, .inl this.2⟩
  | 10, hL =>
    cases hL
    have hz : fz s = 48 ∨ fz s = 49 := by unfold fz; split <;> simp
    have := two (Hd s ++ [35] ++ [fz s] ++ (dg s).drop 1) [] (by rw [hdg]; simp; omega) (by decide) (by
      rw [hdg]; simp; exact ⟨hd10, by omega, fun h => by have := hds5 _ h; omega⟩) (by
      rw [show Hd s ++ [35] ++ [fz s] ++ (dg s).drop 1 = Hd s ++ [35] ++ (fz s :: (dg s).drop 1) from by simp]
      refine no_sum ?_
      show (dg s).take 1 ≠ [fz s]
      unfold fz
      split
      · rename_i e; rw [e]; decide
      · rename_i e; exact e)
    exact ⟨this.1, .inl this.2⟩
  | 11, hL =>
    cases hL
    have hl : (Hd s ++ [35] ++ dg s).length ≤ 50 := by rw [hdg]; simp; omega
    refine ⟨by omega, .inl (no_lf ?_ (by omega))⟩
    rw [hdg]; simp; exact ⟨hd10, by omega, fun h => by have := hds5 _ h; omega⟩
  | 12, hL =>
    cases hL
    have := two [] (Gd s) (by decide) (by unfold Gd; rw [hdg]; simp; omega) (by decide) (no_short (by decide) (by decide))
    exact ⟨this.1, .inl this.2⟩
  | 13, hL =>
    cases hL
    have := two (Hd s ++ [35] ++ dg s ++ [32]) [] (by rw [hdg]; simp; omega) (by decide) (by
      rw [hdg]; simp; exact ⟨hd10, by omega, fun h => by have := hds5 _ h; omega⟩) (by
      rw [show Hd s ++ [35] ++ dg s ++ [32] = (Hd s ++ [35]) ++ (d :: (ds5 ++ [32])) from by rw [hdg]; simp]
      exact no_six (by simp; omega) (by simp; omega))
    rw [show Hd s ++ [35] ++ dg s ++ [32, 10] = Hd s ++ [35] ++ dg s ++ [32] ++ [10] from by simp]
    exact ⟨this.1, .inl this.2⟩
  | k + 14, hL => cases hL
end
end K37

set_option linter.all false
set_option autoImplicit false
set_option maxRecDepth 100000
set_option maxHeartbeats 4000000
/-! K37p4: a turn of the law. -/
namespace K37
open MK MK.N
theorem call_n {n f : Nat} {es : List C} {vs : List PV} {r : Out PV} {ρ : Env} {S : Store} (h : evEs (o n) es ρ S = .ok vs S) (hc : callF fuel fns n f vs S = r) : evE (o n) (.call f es) ρ S = r := by rw [evE_call, h, Out.bind_ok, o_call, hc]
theorem sum0 {h : List Nat} {S : Store} {ρ : Env} (q : ρ[19]? = some (some (.str h))) (hs : ∀ x ∈ h, x ∈ SIG) (hl : h.length ≤ 40) : evE (o 7) (.call 12 [.lit (.int 0), .var 19]) ρ S = .ok (.int (sumN 0 h : Nat)) S := by
  have q2 : callF fuel fns 7 12 [.int ((0 : Nat) : Int), .str h] S = .ok (.int (sumN 0 h)) S := law_sum_eq 6 0 h S (by omega) hs (by omega)
  exact call_n (es2_ok rfl (var_ok q)) q2
theorem cut_neg_to {p q : List Nat} {n : Nat} (h : q.length = n) (h0 : 0 < n) : cut (p ++ q) none (some (-(n : Int))) = p := by
  unfold cut clip
  simp only [List.length_append, h]
  rw [if_pos (by omega), List.drop_zero, Nat.sub_zero, show (-(n : Int) + ((p.length + n : Nat) : Int)).toNat = p.length from by omega]
  exact List.take_left
theorem cut_neg_mid {p q r : List Nat} {m n : Nat} (h : r.length = n) (h0 : 0 < n) (h2 : q.length + n = m) : cut (p ++ q ++ r) (some (-(m : Int))) (some (-(n : Int))) = q := by
  unfold cut clip
  simp only [List.length_append, h]
  rw [if_pos (by omega), if_pos (by omega), show (-(m : Int) + ((p.length + q.length + n : Nat) : Int)).toNat = p.length from by omega, show (-(n : Int) + ((p.length + q.length + n : Nat) : Int)).toNat = p.length + q.length from by omega, List.append_assoc, List.drop_left, Nat.add_sub_cancel_left]
  exact List.take_left
theorem add_ok {o : Orc} {a b : C} {ρ : Env} {S : Store} {x y : List Nat} (h1 : evE o a ρ S = .ok (.str x) S) (h2 : evE o b ρ S = .ok (.str y) S) (hl : x.length + y.length ≤ 1000) : evE o (.bin .add a b) ρ S = .ok (.str (x ++ y)) S := bin_ok h1 h2 (add_str S (by rw [SZ_big]; omega))
/-! ### the figures of a sum, in the comprehension -/
def fvE : C := .bm .join (.lit (.str [])) [.lc false [20] (.nm 20) (.seq (.lst false [.lit (.int 10000), .lit (.int 1000), .lit (.int 100), .lit (.int 10), .lit (.int 1)])) [] (.sl true false (.bi .str [.bin .fdiv (.call 12 [.lit (.int 0), .var 19]) (.var 20)]) (.neg (.lit (.int 1))) (.lit .non))]
section
variable {sc : PV} {ds : List Int} {tu a k : Nat} {s : List Nat} {r4 r5 r6 r7 r8 r9 r10 r13 r14 r15 r16 r17 r18 r19 r20 : Option PV} {S : Store} {ρ : Env}
theorem fv_ok {h : List Nat} (hs : ∀ x ∈ h, x ∈ SIG) (hl : h.length ≤ 40) : evE (o 7) fvE (EnvL sc ds tu s a r4 r5 r6 r7 r8 r9 r10 r13 r14 r15 r16 r17 r18 (some (.str h)) r20) S = .ok (.str (digs (sumN 0 h))) S := by
  have hm := sumN_lt 0 h
  have hcall := fun (ρ : Env) (q : ρ[19]? = some (some (.str h))) => sum0 (S := S) q hs hl
  generalize hM : sumN 0 h = m at *
  have hlc : lcK (o 7) false [20] (.nm 20) [] (.sl true false (.bi .str [.bin .fdiv (.call 12 [.lit (.int 0), .var 19]) (.var 20)]) (.neg (.lit (.int 1))) (.lit .non)) (EnvL sc ds tu s a r4 r5 r6 r7 r8 r9 r10 r13 r14 r15 r16 r17 r18 (some (.str h)) r20) (([10000, 1000, 100, 10, 1] : List Nat).map fun (k : Nat) => PV.int (k : Int), none) S = .ok (.lst (([10000, 1000, 100, 10, 1] : List Nat).map fun k => PV.str [48 + m / k % 10])) S := by
    unfold lcK
    rw [compL_map (fun (k : Nat) => PV.int (k : Int)) (fun (k : Nat) => PV.str [48 + m / k % 10]) S [10000, 1000, 100, 10, 1] [] fun k hk => ?_]
    · rw [Out.bind_ok, lcE, if_pos (by simp [SZ_big])]
      rfl
    · have hk2 : 0 < k ∧ k < 1073741824 := by
        simp at hk
        omega
      have hq : m / k ≤ m := Nat.div_le_self _ _
      obtain ⟨p, hp⟩ := figs_snoc (m / k)
      have hcut : evSl S (.str (figs ((m / k : Nat) : Int))) (some (-1)) none = some (.str [48 + m / k % 10]) := by
        show some (PV.str (cut (figs ((m / k : Nat) : Int)) (some (-1)) none)) = _
        rw [hp, cut_last]
      refine cturn_ok (ρ' := EnvL sc ds tu s a r4 r5 r6 r7 r8 r9 r10 r13 r14 r15 r16 r17 r18 (some (.str h)) (some (.int (k : Int)))) rfl ?_ rfl
      exact sl_from_ok (bi1_ok (bin_ok (hcall _ rfl) (var_ok (i := 20) rfl) (fdiv_nat S m k hk2)) (evBI_str_nat S (by omega))) rfl hcut
  have hj := evBM_join S (fun k => [48 + m / k % 10]) ([10000, 1000, 100, 10, 1] : List Nat) (by rw [SZ_big]; simp)
  have hw : evIt (o 7) (.seq (.lst false [.lit (.int 10000), .lit (.int 1000), .lit (.int 100), .lit (.int 10), .lit (.int 1)])) (EnvL sc ds tu s a r4 r5 r6 r7 r8 r9 r10 r13 r14 r15 r16 r17 r18 (some (.str h)) r20) S = .ok (([10000, 1000, 100, 10, 1] : List Nat).map fun (k : Nat) => PV.int (k : Int), none) S := by
    simp [lstK, SZ_big]
  have hd : (([10000, 1000, 100, 10, 1] : List Nat).map fun k => [48 + m / k % 10]).flatten = digs m := rfl
  rw [hd] at hj
  exact bm_ok (con_ok (.str [])) (es1_ok (by rw [evE_lc, hw, Out.bind_ok, hlc])) hj
def lnE : C := .lc false [19] (.nm 19) (.seq (.var 8)) [] (.bin .add (.bin .add (.bin .add (.var 19) (.lit (.str [35]))) fvE) (.lit (.str [10])))
theorem lnE_ok (hs : ∀ x ∈ s, x ∈ SIG) (h30 : s.length ≤ 30) : evE (o 7) lnE (EnvL sc ds tu s a r4 r5 r6 r7 (some (.lst ((BH s).map .str))) r9 r10 r13 r14 r15 r16 r17 r18 r19 r20) S = .ok (.lst (((BH s).map lnF).map .str)) S := by
  unfold lnE
  rw [evE_lc, evIt_seq, var_ok (i := 8) rfl, Out.bind_ok, walk_lst, lift_some, Out.bind_ok]
  unfold lcK
  rw [compL_map PV.str (fun h => PV.str (lnF h)) S (BH s) [] fun h hh => ?_]
  · rw [Out.bind_ok, lcE, if_pos (by simp [SZ_big, BH]), if_neg (by decide), List.nil_append, List.map_map]
    rfl
  · have hl := BH_len h30 h hh
    refine cturn_ok (ρ' := EnvL sc ds tu s a r4 r5 r6 r7 (some (.lst ((BH s).map .str))) r9 r10 r13 r14 r15 r16 r17 r18 (some (.str h)) r20) rfl ?_ rfl
    refine add_ok (add_ok (add_ok (var_ok (i := 19) rfl) (con_ok _) ?_) (fv_ok (BH_sig hs h hh) hl) ?_) (con_ok _) ?_
    all_goals simp [lnH, digs_len]; omega
/-! ### the turn's other expressions -/
def gE : C := .ix (.call 13 [.lit (.int 1), .tup [.var 11]]) (.lit (.int 0))
theorem gE_ok (hs : ∀ x ∈ s, x ∈ SIG) (h1 : 1 ≤ s.length) (h30 : s.length ≤ 30) : evE (o 7) gE (EnvL sc ds tu s a r4 r5 r6 r7 r8 r9 r10 r13 r14 r15 r16 r17 r18 r19 r20) S = .ok (.str (Gd s)) S := by
  have T : Ts 1 [s] := ⟨by show 1 ≤ 5; decide, fun t ht => by rw [List.mem_singleton.mp ht]; exact ⟨hs, h1, by omega⟩, by omega⟩
  have q := law_lines_eq 4 1 [s] S T
  rw [← Gd_line]
  refine ix_ok (call_n (es2_ok (l_nat (o 7) 1 1 rfl) (v := .int ((1 : Nat) : Int)) (w := tup [s]) ?_) q) (l_nat (o 7) 0 0 rfl) ?_
  · rw [evE_tup, es1_ok (var_ok (i := 11) rfl), Out.bind_ok]; rfl
  · exact ixs_lst rfl
def tE7 : C := .sl true true (.var 6) (.neg (.lit (.int 6))) (.neg (.lit (.int 1)))
theorem dg_len (s : List Nat) : (dg s).length = 5 := rfl
theorem tE7_ok : evE (o 7) tE7 (EnvL sc ds tu s a r4 r5 (some (.str (Gd s))) r7 r8 r9 r10 r13 r14 r15 r16 r17 r18 r19 r20) S = .ok (.str (dg s)) S := by
  refine sl_mid_ok (var_ok (i := 6) rfl) (j := -6) (k := -1) rfl rfl ?_
  show some (PV.str (cut (Gd s) (some (-6)) (some (-1)))) = _
  have := cut_neg_mid (p := Hd s ++ [35]) (q := dg s) (r := [10]) (m := 6) (n := 1) rfl (by decide) rfl
  exact congrArg (fun x => some (PV.str x)) this
def hE : C := .lst false [.bin .add (.bin .add (.lit (.str [48, 49, 32])) (.var 11)) (.lit (.str [32])), .bin .add (.lit (.str [49, 32])) (.var 11), .bin .add (.bin .add (.lit (.str [32])) (.var 11)) (.lit (.str [32])), .lit (.str [49, 32, 32]), .bin .add (.bin .add (.lit (.str [120, 32])) (.var 11)) (.lit (.str [32])), .bin .add (.bin .add (.lit (.str [49, 50, 51, 52, 53, 54, 32])) (.var 11)) (.lit (.str [32])), .bin .add (.bin .add (.lit (.str [45, 49, 32])) (.var 11)) (.lit (.str [32]))]
theorem pfx_ok {p q : List Nat} (hp : p.length ≤ 100) (hq : q.length ≤ 100) (h30 : s.length ≤ 30) : evE (o 7) (.bin .add (.bin .add (.lit (.str p)) (.var 11)) (.lit (.str q))) (EnvL sc ds tu s a r4 r5 r6 r7 r8 r9 r10 r13 r14 r15 r16 r17 r18 r19 r20) S = .ok (.str (p ++ s ++ q)) S :=
  add_ok (add_ok (con_ok _) (var_ok (i := 11) rfl) (by omega)) (con_ok _) (by rw [List.length_append]; omega)
theorem hE_ok (h30 : s.length ≤ 30) : evE (o 7) hE (EnvL sc ds tu s a r4 r5 r6 r7 r8 r9 r10 r13 r14 r15 r16 r17 r18 r19 r20) S = .ok (.lst ((BH s).map .str)) S := by
  unfold hE
  refine lst_ok (es_ok (pfx_ok (by decide) (by decide) h30) (es_ok (add_ok (con_ok _) (var_ok (i := 11) rfl) (by show 2 + s.length ≤ 1000; omega)) (es_ok (pfx_ok (by decide) (by decide) h30) (es_ok (con_ok _) (es_ok (pfx_ok (by decide) (by decide) h30) (es_ok (pfx_ok (by decide) (by decide) h30) (es1_ok (pfx_ok (by decide) (by decide) h30)))))))) (by show 7 ≤ SZ; rw [SZ_big]; decide)
def gto (n : Int) : C := .sl false true (.var 6) (.lit .non) (.neg (.lit (.int n)))
def t1E : C := .sl true false (.var 7) (.lit (.int 1)) (.lit .non)
def bE : C := .bin .add (.var 9) (.lst false [.bin .add (.bin .add (gto 6) t1E) (.lit (.str [10])), .bin .add (gto 1) (.lit (.str [48, 10])), .bin .add (.bin .add (gto 7) (.var 7)) (.lit (.str [10])), .bin .add (.bin .add (.bin .add (gto 6) (.bi .str [.bi .int [.cmp .eq (.ix (.var 7) (.lit (.int 0))) (.lit (.str [48]))]])) t1E) (.lit (.str [10])), gto 1, .bin .add (.lit (.str [10])) (.var 6), .bin .add (gto 1) (.lit (.str [32, 10]))])
theorem gto_ok {n : Nat} {z : Int} {p q : List Nat} (hz : z = (n : Int)) (e : Gd s = p ++ q) (hq : q.length = n) (h0 : 0 < n) : evE (o 7) (gto z) (EnvL sc ds tu s a r4 r5 (some (.str (Gd s))) r7 r8 r9 r10 r13 r14 r15 r16 r17 r18 r19 r20) S = .ok (.str p) S := by
  subst hz
  refine sl_to_ok (var_ok (i := 6) rfl) (k := -(n : Int)) rfl ?_
  show some (PV.str (cut (Gd s) none (some (-(n : Int))))) = _
  rw [e, cut_neg_to hq h0]
theorem Hd_len (h30 : s.length ≤ 30) : (Hd s).length ≤ 33 := by rw [Hd_eq]; simp; omega
theorem bE_ok (h30 : s.length ≤ 30) : evE (o 7) bE (EnvL sc ds tu s a r4 r5 (some (.str (Gd s))) (some (.str (dg s))) r8 (some (.lst (((BH s).map lnF).map .str))) r10 r13 r14 r15 r16 r17 r18 r19 r20) S = .ok (.lst ((BL s).map .str)) S := by
  have hh := Hd_len h30
  have dl := dg_len s
  have g6 := gto_ok (sc := sc) (ds := ds) (tu := tu) (a := a) (r4 := r4) (r5 := r5) (r7 := some (.str (dg s))) (r8 := r8) (r9 := some (.lst (((BH s).map lnF).map .str))) (r10 := r10) (r13 := r13) (r14 := r14) (r15 := r15) (r16 := r16) (r17 := r17) (r18 := r18) (r19 := r19) (r20 := r20) (S := S) (s := s) (n := 6) (p := Hd s ++ [35]) (q := dg s ++ [10]) rfl (by unfold Gd; rw [List.append_assoc]) rfl (by decide)
  have g1 := gto_ok (sc := sc) (ds := ds) (tu := tu) (a := a) (r4 := r4) (r5 := r5) (r7 := some (.str (dg s))) (r8 := r8) (r9 := some (.lst (((BH s).map lnF).map .str))) (r10 := r10) (r13 := r13) (r14 := r14) (r15 := r15) (r16 := r16) (r17 := r17) (r18 := r18) (r19 := r19) (r20 := r20) (S := S) (s := s) (n := 1) (p := Hd s ++ [35] ++ dg s) (q := [10]) rfl rfl rfl (by decide)
  have g7 := gto_ok (sc := sc) (ds := ds) (tu := tu) (a := a) (r4 := r4) (r5 := r5) (r7 := some (.str (dg s))) (r8 := r8) (r9 := some (.lst (((BH s).map lnF).map .str))) (r10 := r10) (r13 := r13) (r14 := r14) (r15 := r15) (r16 := r16) (r17 := r17) (r18 := r18) (r19 := r19) (r20 := r20) (S := S) (s := s) (n := 7) (p := Hd s) (q := [35] ++ dg s ++ [10]) rfl (by unfold Gd; simp) rfl (by decide)
  have t1 : evE (o 7) t1E (EnvL sc ds tu s a r4 r5 (some (.str (Gd s))) (some (.str (dg s))) r8 (some (.lst (((BH s).map lnF).map .str))) r10 r13 r14 r15 r16 r17 r18 r19 r20) S = .ok (.str ((dg s).drop 1)) S := sl_from_ok (var_ok (i := 7) rfl) (con_ok _) (sl_str_from S (dg s) 1)
  have fzE : evE (o 7) (.bi .str [.bi .int [.cmp .eq (.ix (.var 7) (.lit (.int 0))) (.lit (.str [48]))]]) (EnvL sc ds tu s a r4 r5 (some (.str (Gd s))) (some (.str (dg s))) r8 (some (.lst (((BH s).map lnF).map .str))) r10 r13 r14 r15 r16 r17 r18 r19 r20) S = .ok (.str [fz s]) S := by
    obtain ⟨d, ds5, hdg⟩ : ∃ d ds5, dg s = d :: ds5 := ⟨_, _, rfl⟩
    have e1 : evE (o 7) (.cmp .eq (.ix (.var 7) (.lit (.int 0))) (.lit (.str [48]))) (EnvL sc ds tu s a r4 r5 (some (.str (Gd s))) (some (.str (dg s))) r8 (some (.lst (((BH s).map lnF).map .str))) r10 r13 r14 r15 r16 r17 r18 r19 r20) S = .ok (.bl (decide ([d] = [48]))) S := cmp_ok (ix_ok (var_ok (i := 7) rfl) (l_nat (o 7) 0 0 rfl) (ixs_str (by rw [hdg]; rfl))) (con_ok _) (cmp_eq_str _ _ _)
    have e2 : fz s = if [d] = [48] then 49 else 48 := by unfold fz; rw [hdg]; rfl
    by_cases hd : [d] = [48]
    · rw [decide_eq_true hd] at e1
      rw [e2, if_pos hd]
      exact bi1_ok (bi1_ok e1 (z := .int 1) rfl) rfl
    · rw [decide_eq_false hd] at e1
      rw [e2, if_neg hd]
      exact bi1_ok (bi1_ok e1 (z := .int 0) rfl) rfl
  have key : evEs (o 7) [.bin .add (.bin .add (gto 6) t1E) (.lit (.str [10])), .bin .add (gto 1) (.lit (.str [48, 10])), .bin .add (.bin .add (gto 7) (.var 7)) (.lit (.str [10])), .bin .add (.bin .add (.bin .add (gto 6) (.bi .str [.bi .int [.cmp .eq (.ix (.var 7) (.lit (.int 0))) (.lit (.str [48]))]])) t1E) (.lit (.str [10])), gto 1, .bin .add (.lit (.str [10])) (.var 6), .bin .add (gto 1) (.lit (.str [32, 10]))] (EnvL sc ds tu s a r4 r5 (some (.str (Gd s))) (some (.str (dg s))) r8 (some (.lst (((BH s).map lnF).map .str))) r10 r13 r14 r15 r16 r17 r18 r19 r20) S = .ok ((B2 s).map .str) S := by
    refine es_ok (add_ok (add_ok g6 t1 ?_) (con_ok _) ?_) (es_ok (add_ok g1 (con_ok _) ?_) (es_ok (add_ok (add_ok g7 (var_ok (i := 7) rfl) ?_) (con_ok _) ?_) (es_ok (add_ok (add_ok (add_ok g6 fzE ?_) t1 ?_) (con_ok _) ?_) (es_ok g1 (es_ok (add_ok (con_ok _) (var_ok (i := 6) rfl) ?_) (es1_ok (add_ok g1 (con_ok _) ?_)))))))
    all_goals simp [Gd, dl]; omega
  refine bin_ok (var_ok (i := 9) rfl) (lst_ok key (by show 7 ≤ SZ; rw [SZ_big]; decide)) ?_
  have hlen : (((BH s).map lnF).map PV.str).length + ((B2 s).map PV.str).length ≤ SZ := by rw [List.length_map, List.length_map]; show 7 + 7 ≤ SZ; rw [SZ_big]; decide
  rw [MK.add_lst S hlen, ← List.map_append]
  rfl
end
end K37

set_option linter.all false
set_option autoImplicit false
set_option maxRecDepth 100000
set_option maxHeartbeats 4000000
/-! K37p5: the law's words, and what stands behind the turns. -/
namespace K37
open MK MK.N
def okStr (r : Out PV) (l : List Nat) : Bool := match r with
  | .ok (.str m) [] => decide (m = l)
  | _ => false
theorem of_okStr {r : Out PV} {l : List Nat} (h : okStr r l = true) : r = .ok (.str l) [] := by
  unfold okStr at h
  split at h
  · rename_i m
    have := of_decide_eq_true h
    rw [this]
  · cases h
def wSum : List Nat := [115, 117, 109]
def wSigns : List Nat := [115, 105, 103, 110, 115]
def wCount : List Nat := [99, 111, 117, 110, 116]
def wMany : List Nat := [109, 97, 110, 121]
def wText : List Nat := [116, 101, 120, 116]
def wNone : List Nat := [110, 111, 110, 101]
def x1 : List PV := [.non, .int (-1), .int 99991, .bl true, .str [48]]
def x2 : List PV := [.non, .str [65], .str [97, 10], .str [35], .tup [.str [97]], .int 5]
def x3 : List PV := [.non, .str [97], .lst [.str [97]], .tup [.str []], .tup [.str [65]], .tup [.str [97, 10]], .tup [.str [35]], .tup [.non]]
def x4 : List PV := [.non, .int (-1), .int 100000, .bl true, .str [49]]
def x5 : List PV := [.non, .int 5, .tup [.str [97]], .lst [.str [97]]]
def W (a b c : PV) : Out PV := callF fuel fns 7 15 [a, b, c] []
theorem k1 : (x1.all fun v => okStr (W (.int 0) v .non) wSum) = true := by decide +kernel
theorem k2 : (x2.all fun v => okStr (W (.int 0) (.int 0) v) wSigns) = true := by decide +kernel
theorem k3 : (x3.all fun v => okStr (W (.int 1) .non v) wSigns) = true := by decide +kernel
theorem k4 : (x4.all fun v => okStr (W (.int 1) v (.tup [.str [97]])) wCount) = true := by decide +kernel
theorem k5 : (x5.all fun v => okStr (W (.int 2) v .non) wText) = true := by decide +kernel
def A401 : List PV := (List.replicate (401 : Int).toNat [PV.str [97]]).flatten
theorem k6 : okStr (W (.int 1) (.int 1) (.tup A401)) wMany = true := by decide +kernel
theorem k7 : okStr (W (.int 1) (.int 99999) (.tup [.str [97], .str [98]])) wMany = true := by decide +kernel
theorem k8 : okStr (W (.int 1) (.int 99999) (.tup [.str [97]])) wNone = true := by decide +kernel
theorem k9 : okStr (W (.int 1) (.int 1) (.tup [])) wNone = true := by decide +kernel
theorem k10 : okStr (callF fuel fns 7 6 [.int 1, .tup []] []) [] = true := by decide +kernel
def A20001 : List Nat := (List.replicate (20001 : Int).toNat [97]).flatten
theorem k11 : okStr (W (.int 1) .non (.tup [.str A20001])) wSigns = true := by decide +kernel
/-! ### the loops over what is none -/
def wB (es : List C) (w : List Nat) : List MK.S := [.ifs (.cmp .ne (.call 15 es) (.lit (.str w))) [.ret (.lit (.bl false))] []]
theorem w_loop {e a b c : C} {w : List Nat} {xs : List PV} {ρ : Env} (f : PV → List PV) (hl : ρ.length = 21) (he : evE (o 7) e ρ [] = .ok (.lst xs) [])
    (hes : ∀ ρ x, ρ[4]? = some (some x) → evEs (o 7) [a, b, c] ρ [] = .ok (f x) []) (hw : ∀ x ∈ xs, callF fuel fns 7 15 (f x) [] = .ok (.str w) []) :
    ∃ ρ', evS (o 7) (.for_ (.nm 4) (.seq e) (wB [a, b, c] w)) ρ [] = .next ρ' [] ∧ ρ'.length = 21 := by
  refine for_seq_inv (fun _ ρ => ρ.length = 21) he hl fun k x ρ hx h => ⟨by omega, ρ.set 4 (some x), ?_, by rw [List.length_set]; exact h⟩
  have h4 : (ρ.set 4 (some x))[4]? = some (some x) := List.getElem?_set_self (by omega)
  refine last_ok (ifs_no (cmp_ok (call_n (hes _ x h4) (hw x (List.mem_of_getElem? hx))) (con_ok _) ?_))
  rw [cmp_ne_str, decide_eq_true rfl]
  rfl
theorem all_str {xs : List PV} {f : PV → Out PV} {w : List Nat} (h : (xs.all fun v => okStr (f v) w) = true) : ∀ x ∈ xs, f x = .ok (.str w) [] := fun x hx => of_okStr (List.all_eq_true.mp h x hx)
def e1 : C := .lst false [.lit .non, .neg (.lit (.int 1)), .lit (.int 99991), .lit (.bl true), .lit (.str [48])]
def e2 : C := .lst false [.lit .non, .lit (.str [65]), .lit (.str [97, 10]), .lit (.str [35]), .tup [.lit (.str [97])], .lit (.int 5)]
def e3 : C := .lst false [.lit .non, .lit (.str [97]), .lst false [.lit (.str [97])], .tup [.lit (.str [])], .tup [.lit (.str [65])], .tup [.lit (.str [97, 10])], .tup [.lit (.str [35])], .tup [.lit .non], .tup [.bin .mul (.lit (.str [97])) (.lit (.int 20001))]]
def e4 : C := .lst false [.lit .non, .neg (.lit (.int 1)), .lit (.int 100000), .lit (.bl true), .lit (.str [49])]
def e5 : C := .lst false [.lit .non, .lit (.int 5), .tup [.lit (.str [97])], .lst false [.lit (.str [97])]]
def s1 : MK.S := .for_ (.nm 4) (.seq e1) (wB [.lit (.int 0), .var 4, .lit .non] wSum)
def s2 : MK.S := .for_ (.nm 4) (.seq e2) (wB [.lit (.int 0), .lit (.int 0), .var 4] wSigns)
def s3 : MK.S := .for_ (.nm 4) (.seq e3) (wB [.lit (.int 1), .lit .non, .var 4] wSigns)
def s4 : MK.S := .for_ (.nm 4) (.seq e4) (wB [.lit (.int 1), .var 4, .tup [.lit (.str [97])]] wCount)
def c5 : C := .cmp .ne (.lc false [4] (.nm 4) (.seq e5) [] (.call 15 [.lit (.int 2), .var 4, .lit .non])) (.bin .mul (.lst false [.lit (.str wText)]) (.lit (.int 4)))
def c6 : C := .cmp .ne (.lst false [.call 15 [.lit (.int 1), .lit (.int 1), .bin .mul (.tup [.lit (.str [97])]) (.lit (.int 401))], .call 15 [.lit (.int 1), .lit (.int 99999), .tup [.lit (.str [97]), .lit (.str [98])]], .call 15 [.lit (.int 1), .lit (.int 99999), .tup [.lit (.str [97])]], .call 15 [.lit (.int 1), .lit (.int 1), .tup []]]) (.lst false [.lit (.str wMany), .lit (.str wMany), .lit (.str wNone), .lit (.str wNone)])
section
variable {ρ : Env}
theorem s1_ok (h : ρ.length = 21) : ∃ ρ', evS (o 7) s1 ρ [] = .next ρ' [] ∧ ρ'.length = 21 :=
  w_loop (xs := x1) (fun v => [.int 0, v, .non]) h (lst_ok (es_ok rfl (es_ok rfl (es_ok rfl (es_ok rfl (es1_ok rfl))))) (by decide)) (fun ρ x hx => es_ok rfl (es2_ok (var_ok hx) rfl)) (all_str k1)
theorem s2_ok (h : ρ.length = 21) : ∃ ρ', evS (o 7) s2 ρ [] = .next ρ' [] ∧ ρ'.length = 21 :=
  w_loop (xs := x2) (fun v => [.int 0, .int 0, v]) h (lst_ok (es_ok rfl (es_ok rfl (es_ok rfl (es_ok rfl (es_ok rfl (es1_ok rfl)))))) (by decide)) (fun ρ x hx => es_ok rfl (es2_ok rfl (var_ok hx))) (all_str k2)
theorem tup1_ok {o : Orc} {S : Store} {e : C} {v : PV} (h : evE o e ρ S = .ok v S) : evE o (.tup [e]) ρ S = .ok (.tup [v]) S := by
  rw [evE_tup, es1_ok h, Out.bind_ok]; rfl
theorem mul_a (n : Int) (h : 1 ≤ n ∧ n ≤ 1000000) : evBin [] .mul (.str [97]) (.int n) = some (.str (List.replicate n.toNat [97]).flatten) := if_pos ⟨h.1, h.2, by rw [SZ_big]; show 1 * n.toNat ≤ _; omega⟩
theorem s3_ok (h : ρ.length = 21) : ∃ ρ', evS (o 7) s3 ρ [] = .next ρ' [] ∧ ρ'.length = 21 := by
  have t := tup1_ok (ρ := ρ) (bin_ok (o := o 7) (con_ok _) (con_ok _) (mul_a 20001 (by decide)))
  have es : evE (o 7) e3 ρ [] = .ok (.lst (x3 ++ [.tup [.str A20001]])) [] := lst_ok (es_ok rfl (es_ok rfl (es_ok rfl (es_ok rfl (es_ok rfl (es_ok rfl (es_ok rfl (es_ok rfl (es1_ok t))))))))) (by show 9 ≤ SZ; decide)
  refine w_loop (fun v => [.int 1, .non, v]) h es (fun ρ x hx => es_ok rfl (es2_ok rfl (var_ok hx))) fun x hx => ?_
  rcases List.mem_append.mp hx with q | q
  · exact all_str k3 x q
  · rw [List.mem_singleton.mp q]
    exact of_okStr k11
theorem s4_ok (h : ρ.length = 21) : ∃ ρ', evS (o 7) s4 ρ [] = .next ρ' [] ∧ ρ'.length = 21 :=
  w_loop (xs := x4) (fun v => [.int 1, v, .tup [.str [97]]]) h (lst_ok (es_ok rfl (es_ok rfl (es_ok rfl (es_ok rfl (es1_ok rfl))))) (by decide)) (fun ρ x hx => es_ok rfl (es2_ok (var_ok hx) rfl)) (all_str k4)
theorem c5_ok (h : ρ.length = 21) : evE (o 7) c5 ρ [] = .ok (.bl false) [] := by
  have hl := lc_ok (o := o 7) (ρ := ρ) (S := []) (i := 4) (e := e5) (elt := .call 15 [.lit (.int 2), .var 4, .lit .non]) (l := x5) id (fun _ => .str wText) (lst_ok (es_ok rfl (es_ok rfl (es_ok rfl (es1_ok rfl)))) (by decide)) (by decide) (by omega) fun x hx =>
    call_n (es_ok rfl (es2_ok (var_ok (List.getElem?_set_self (by omega))) rfl)) (all_str k5 x hx)
  have hr : evE (o 7) (.bin .mul (.lst false [.lit (.str wText)]) (.lit (.int 4))) ρ [] = .ok (.lst [.str wText, .str wText, .str wText, .str wText]) [] := bin_ok (lst_ok (es1_ok (con_ok _)) (by decide)) (con_ok _) rfl
  exact cmp_ok hl hr (cmp_ne_same rfl)
theorem c6_ok : evE (o 7) c6 ρ [] = .ok (.bl false) [] := by
  have hl := lst_ok (o := o 7) (ρ := ρ) (S := []) (es_ok (call_n (es_ok (con_ok (.int 1)) (es2_ok (con_ok (.int 1)) (bin_ok (op := .mul) (a := .tup [.lit (.str [97])]) (b := .lit (.int 401)) rfl rfl (z := .tup A401) rfl))) (of_okStr k6)) (es_ok (call_n (es_ok (con_ok (.int 1)) (es2_ok (d := .tup [.lit (.str [97]), .lit (.str [98])]) (con_ok (.int 99999)) rfl)) (of_okStr k7)) (es_ok (call_n (es_ok (con_ok (.int 1)) (es2_ok (d := .tup [.lit (.str [97])]) (con_ok (.int 99999)) rfl)) (of_okStr k8)) (es1_ok (call_n (es_ok (con_ok (.int 1)) (es2_ok (d := .tup []) (con_ok (.int 1)) rfl)) (of_okStr k9)))))) (by show 4 ≤ SZ; decide)
  exact cmp_ok hl rfl (cmp_ne_same rfl)
end
end K37

set_option linter.all false
set_option autoImplicit false
set_option maxRecDepth 100000
set_option maxHeartbeats 4000000
/-! K37p6: the turns, the end, the law. -/
namespace K37
open MK MK.N
/-! ### the last line -/
def A20 : List Nat := (List.replicate (20000 : Int).toNat [97]).flatten
def aE : C := .bin .mul (.lit (.str [97])) (.lit (.int 20000))
def fE1 : C := .cmp .eq (.call 6 [.lit (.int 1), .tup []]) (.lit (.str []))
def fE2 : C := .cmp .eq (.call 10 [.lit (.str [104, 101, 108, 108, 111])]) (.tup [.lit (.int 1), .tup [], .lit (.int 0)])
def fE3 : C := .cmp .eq (.call 10 [.call 6 [.lit (.int 7), .tup [aE]]]) (.tup [.lit (.int 7), .tup [aE], .lit (.int 20010)])
def fE : C := .and [fE1, fE2, fE3]
theorem A20_ok : (∀ x ∈ A20, x ∈ SIG) ∧ A20.length = 20000 := by
  refine ⟨fun x hx => ?_, ?_⟩
  · obtain ⟨l, hl, hc⟩ := List.mem_flatten.mp hx
    rw [(List.mem_replicate.mp hl).2] at hc
    rw [List.mem_singleton.mp hc]
    decide
  · unfold A20
    rw [List.length_flatten, List.map_replicate, List.sum_replicate_nat]
    rfl
theorem fE_ok {ρ : Env} : evE (o 7) fE ρ [] = .ok (.bl true) [] := by
  have a : evE (o 7) aE ρ [] = .ok (.str A20) [] := bin_ok (con_ok _) (con_ok _) (mul_a 20000 (by decide))
  obtain ⟨q1, q2⟩ := A20_ok
  generalize A20 = A at *
  have T : Ts 7 [A] := ⟨by show 1 ≤ 5; decide, fun t ht => by rw [List.mem_singleton.mp ht]; exact ⟨q1, by omega, by omega⟩, by omega⟩
  have l6 : callF fuel fns 7 6 [.int 7, .tup [.str A]] [] = .ok (.str (lineL 0 7 A)) [] := by
    have := lines_of_eq 3 7 [A] [] T
    rw [show (linesF 0 7 [A]).flatten = lineL 0 7 A from by show lineL 0 7 A ++ [] = _; rw [List.append_nil]] at this
    exact this
  have ll : (lineL 0 7 A).length = 20010 := by
    rw [line_len (by omega), q2]
    rfl
  have l10 : callF fuel fns 7 10 [.str (lineL 0 7 A)] [] = .ok (.tup [.int 7, .tup [.str A], .int 20010]) [] := by
    have e : (linesF 0 7 [A]).flatten = lineL 0 7 A := by show lineL 0 7 A ++ [] = _; rw [List.append_nil]
    have := texts_of_eq 3 7 [A] [] [] (by show 7 + 1 ≤ 100000; decide) T.ok (by rw [e, List.append_nil, ll]; decide) (by show 1 < 1000; decide) (.inl (by simp))
    rw [e, List.append_nil] at this
    rw [this]
    unfold readV
    rw [e, ll]
    rfl
  have c1 : evE (o 7) fE1 ρ [] = .ok (.bl true) [] := cmp_ok (call_n (es2_ok (d := .tup []) (con_ok (.int 1)) rfl) (of_okStr k10)) (con_ok _) (cmp_eq_same rfl)
  have c2 : evE (o 7) fE2 ρ [] = .ok (.bl true) [] := cmp_ok (call_n (es1_ok (con_ok _)) (no_lf (by decide) (by decide))) (tup3_ok (con_ok _) rfl (con_ok _)) (cmp_eq_same rfl)
  have ta := tup1_ok a
  have c3 : evE (o 7) fE3 ρ [] = .ok (.bl true) [] := cmp_ok (call_n (es1_ok (call_n (es2_ok (con_ok (.int 7)) ta) l6)) l10) (tup3_ok (con_ok _) ta (con_ok _)) (cmp_eq_same rfl)
  unfold fE
  rw [evE_and, evAnd_cons, c1, Out.bind_ok, andK_true, evAnd_cons, c2, Out.bind_ok, andK_true, evAnd_one, c3]
/-! ### a turn -/
def tE1 : C := .tup [.call 14 [.var 1, .bin .mul (.lit (.int 9)) (.var 3)], .bin .mod (.bi .int [.ix (.var 1) (.bin .add (.lit (.int 50)) (.var 3))]) (.lit (.int 99991))]
def tE2 : C := .or [.cmp .ne (.call 3 [.var 12, .var 11]) (.call 12 [.var 12, .var 11]), .isi (.call 3 [.var 12, .var 11]) .bool]
def cA : C := .and [.cmp .ne (.call 10 [.var 10]) (.tup [.lit (.int 1), .tup [], .lit (.int 0)]), .cmp .nmem (.var 10) (.lst false [.var 6])]
def cB : C := .or [.cmp .ne (.var 10) (.ix (.var 9) (.lit (.int 1))), .cmp .nmem (.lit (.str [32])) (.sl true false (.var 11) (.lit (.int 1)) (.lit .non))]
def ckB : List MK.S := [.ifs cA [.ifs cB [.ret (.lit (.bl false))] []] []]
def tB : List MK.S := [.asg (.tp [(.nm 11), (.nm 12)]) tE1, .ifs tE2 [.ret (.lit (.bl false))] [], .for_ (.nm 5) (.rng [.bi .len [.var 11]]) kB, .asg (.nm 6) gE, .asg (.nm 7) tE7, .asg (.nm 8) hE, .asg (.nm 9) lnE, .asg (.nm 9) bE, .for_ (.nm 10) (.seq (.var 9)) ckB]
theorem law_src : b_law = [.asg (.nm 1) (.call 11 [.var 0, .lit (.int 60)]), .asg (.nm 2) (.lit (.str SIG)), .for_ (.nm 3) (.rng [.lit (.int 6)]) tB, s1, s2, s3, s4, .ifs c5 [.ret (.lit (.bl false))] [], .ifs c6 [.ret (.lit (.bl false))] [], .ret fE] := rfl
section
variable {sc : PV} {ds : List Int} {tu a k : Nat} {s : List Nat} {r4 r5 r6 r7 r8 r9 r10 r11 r12 r13 r14 r15 r16 r17 r18 r19 r20 : Option PV} {ρ : Env}
theorem nmem_lst (S : Store) (x : List Nat) (y : List Nat) : ∃ b, evCmp S .nmem (.str x) (.lst [.str y]) = some b := by
  cases x with
  | nil => exact ⟨_, rfl⟩
  | cons c r => cases r with
    | nil => exact ⟨_, rfl⟩
    | cons c2 r2 => exact ⟨_, rfl⟩
theorem ck_ok (hs : ∀ x ∈ s, x ∈ SIG) (h1 : 1 ≤ s.length) (h30 : s.length ≤ 30) {L : List Nat} (hL : (BL s)[k]? = some L) :
    evSs (o 7) ckB (EnvL sc ds tu s a r4 r5 (some (.str (Gd s))) r7 r8 (some (.lst ((BL s).map .str))) (some (.str L)) r13 r14 r15 r16 r17 r18 r19 r20) [] = .next (EnvL sc ds tu s a r4 r5 (some (.str (Gd s))) r7 r8 (some (.lst ((BL s).map .str))) (some (.str L)) r13 r14 r15 r16 r17 r18 r19 r20) [] := by
  obtain ⟨hl, h⟩ := tell hs h1 h30 [] k L hL
  rcases h with h | ⟨rfl, hb, t, n, h⟩
  · refine last_ok (ifs_no ?_)
    exact and2_ok (x := false) (y := false) (cmp_ok (call_n (es1_ok (var_ok (i := 10) rfl)) h) (tup3_ok (con_ok _) rfl (con_ok _)) (cmp_ne_same rfl)) fun q => by cases q
  · obtain ⟨b, hnm⟩ := nmem_lst [] L (Gd s)
    have e1 := cmp_ok (o := o 7) (op := .ne) (ρ := EnvL sc ds tu s a r4 r5 (some (.str (Gd s))) r7 r8 (some (.lst ((BL s).map .str))) (some (.str L)) r13 r14 r15 r16 r17 r18 r19 r20) (call_n (n := 7) (es1_ok (var_ok (i := 10) rfl)) h) (tup3_ok (a := .lit (.int 1)) (b := .tup []) (c := .lit (.int 0)) (con_ok _) rfl (con_ok _)) (z := true) rfl
    have e2 := cmp_ok (o := o 7) (op := .nmem) (ρ := EnvL sc ds tu s a r4 r5 (some (.str (Gd s))) r7 r8 (some (.lst ((BL s).map .str))) (some (.str L)) r13 r14 r15 r16 r17 r18 r19 r20) (var_ok (i := 10) rfl) (lst1_ok (var_ok (i := 6) rfl)) hnm
    have e3 : evE (o 7) cA (EnvL sc ds tu s a r4 r5 (some (.str (Gd s))) r7 r8 (some (.lst ((BL s).map .str))) (some (.str L)) r13 r14 r15 r16 r17 r18 r19 r20) [] = .ok (.bl (true && b)) [] := and2_ok e1 fun _ => e2
    have e4 : evE (o 7) cB (EnvL sc ds tu s a r4 r5 (some (.str (Gd s))) r7 r8 (some (.lst ((BL s).map .str))) (some (.str L)) r13 r14 r15 r16 r17 r18 r19 r20) [] = .ok (.bl false) [] := by
      refine or2_ok (x := false) (y := false) ?_ fun _ => ?_
      · refine cmp_ok (var_ok (i := 10) rfl) (ix_ok (var_ok (i := 9) rfl) (con_ok (.int 1)) (z := .str L) (ixs_lst (i := 1) ?_)) ?_
        · rw [List.getElem?_map, hL]; rfl
        · rw [cmp_ne_str, decide_eq_true rfl]; rfl
      · refine cmp_ok (con_ok _) (sl_from_ok (var_ok (i := 11) rfl) (con_ok (.int 1)) (sl_str_from [] s 1)) ?_
        rw [nmem_sign, decide_eq_true hb]; rfl
    cases b with
    | false => exact last_ok (ifs_no e3)
    | true => exact last_ok (ifs_yes e3 (last_ok (ifs_no e4)))
/-- the names from turn to turn -/
def EnvT (sc : PV) (ds : List Int) (r3 r4 r5 r6 r7 r8 r9 r10 r11 r12 r13 r14 r15 r16 r17 r18 r19 r20 : Option PV) : Env :=
  [some sc, some (.lst (ds.map .int)), some (.str SIG), r3, r4, r5, r6, r7, r8, r9, r10, r11, r12, r13, r14, r15, r16, r17, r18, r19, r20]
def IsT (sc : PV) (ds : List Int) (ρ : Env) : Prop := ∃ r3 r4 r5 r6 r7 r8 r9 r10 r11 r12 r13 r14 r15 r16 r17 r18 r19 r20, ρ = EnvT sc ds r3 r4 r5 r6 r7 r8 r9 r10 r11 r12 r13 r14 r15 r16 r17 r18 r19 r20
theorem tB_ok (hd : okD ds) (hl : ds.length = 60) (ht : tu < 6) : ∃ ρ', evSs (o 7) tB (EnvT sc ds (some (.int (tu : Int))) r4 r5 r6 r7 r8 r9 r10 r11 r12 r13 r14 r15 r16 r17 r18 r19 r20) [] = .next ρ' [] ∧ IsT sc ds ρ' := by
  have hx := law_text_eq 6 (9 * tu) ds [] hl
  obtain ⟨hs, h1, h30⟩ := ltext_ok ds (9 * tu)
  generalize ltext ds (9 * tu) = s at hx hs h1 h30
  obtain ⟨d, e1⟩ := MK.N.draw_at (o := o 7) (ρ := EnvT sc ds (some (.int (tu : Int))) r4 r5 r6 r7 r8 r9 r10 r11 r12 r13 r14 r15 r16 r17 r18 r19 r20) (S := []) (i := 1) (m := 60) rfl hd hl (bin_ok (l_nat (o 7) 50 50 rfl) (var_ok (i := 3) rfl) (add_nat [] 50 tu)) (by omega)
  obtain ⟨a, ha, e1⟩ := mod_ok (m := 99991) rfl e1 (by omega)
  have E1 : evE (o 7) tE1 (EnvT sc ds (some (.int (tu : Int))) r4 r5 r6 r7 r8 r9 r10 r11 r12 r13 r14 r15 r16 r17 r18 r19 r20) [] = .ok (.tup [.str s, .int (a : Int)]) [] :=
    tup2_ok (call_n (es2_ok (var_ok (i := 1) rfl) (bin_ok (l_nat (o 7) 9 9 rfl) (var_ok (i := 3) rfl) (mul_nat [] 9 tu (by decide)))) hx) e1
  have q1 := sum_of_eq 5 a s [] ha hs (by omega)
  have q2 := law_sum_eq 6 a s [] (by omega) hs (by omega)
  have E2 : evE (o 7) tE2 (EnvL sc ds tu s a r4 r5 r6 r7 r8 r9 r10 r13 r14 r15 r16 r17 r18 r19 r20) [] = .ok (.bl false) [] := by
    have c := call_n (n := 7) (ρ := EnvL sc ds tu s a r4 r5 r6 r7 r8 r9 r10 r13 r14 r15 r16 r17 r18 r19 r20) (es2_ok (var_ok (i := 12) rfl) (var_ok (i := 11) rfl)) q1
    refine or2_ok (x := false) (y := false) (cmp_ok c (call_n (es2_ok (var_ok (i := 12) rfl) (var_ok (i := 11) rfl)) q2) ?_) fun _ => ?_
    · rw [cmp_ne_int, decide_eq_true rfl]; rfl
    · rw [evE_isi, c, Out.bind_ok]; rfl
  obtain ⟨ρ3, E3, r5', r13', r14', r15', r16', r17', r18', rfl⟩ := for_inv (o := o 7) (e := .bi .len [.var 11]) (n := s.length) (i := 5) (S := []) (b := kB) (ρ := EnvL sc ds tu s a r4 r5 r6 r7 r8 r9 r10 r13 r14 r15 r16 r17 r18 r19 r20)
    (fun _ ρ => ∃ r5 r13 r14 r15 r16 r17 r18, ρ = EnvL sc ds tu s a r4 r5 r6 r7 r8 r9 r10 r13 r14 r15 r16 r17 r18 r19 r20) (bi1_ok (var_ok (i := 11) rfl) (len_str _ _)) (by omega) ⟨_, _, _, _, _, _, _, rfl⟩ (by
      rintro k ρ hk ⟨r5, r13, r14, r15, r16, r17, r18, rfl⟩
      obtain ⟨c13, c14, c15, c16, c17, c18, h⟩ := kB_ok (sc := sc) (tu := tu) (a := a) (r4 := r4) (r6 := r6) (r7 := r7) (r8 := r8) (r9 := r9) (r10 := r10) (r13 := r13) (r14 := r14) (r15 := r15) (r16 := r16) (r17 := r17) (r18 := r18) (r19 := r19) (r20 := r20) (S := []) hd hl ha hs h30 hk
      exact ⟨by show 5 < 21; decide, _, h, _, _, _, _, _, _, _, rfl⟩)
  have E4 := gE_ok (sc := sc) (ds := ds) (tu := tu) (a := a) (r4 := r4) (r5 := r5') (r6 := r6) (r7 := r7) (r8 := r8) (r9 := r9) (r10 := r10) (r13 := r13') (r14 := r14') (r15 := r15') (r16 := r16') (r17 := r17') (r18 := r18') (r19 := r19) (r20 := r20) (S := []) hs h1 h30
  have E5 := tE7_ok (sc := sc) (ds := ds) (tu := tu) (a := a) (s := s) (r4 := r4) (r5 := r5') (r7 := r7) (r8 := r8) (r9 := r9) (r10 := r10) (r13 := r13') (r14 := r14') (r15 := r15') (r16 := r16') (r17 := r17') (r18 := r18') (r19 := r19) (r20 := r20) (S := [])
  have E6 := hE_ok (sc := sc) (ds := ds) (tu := tu) (a := a) (s := s) (r4 := r4) (r5 := r5') (r6 := some (.str (Gd s))) (r7 := some (.str (dg s))) (r8 := r8) (r9 := r9) (r10 := r10) (r13 := r13') (r14 := r14') (r15 := r15') (r16 := r16') (r17 := r17') (r18 := r18') (r19 := r19) (r20 := r20) (S := []) h30
  have E7 := lnE_ok (sc := sc) (ds := ds) (tu := tu) (a := a) (s := s) (r4 := r4) (r5 := r5') (r6 := some (.str (Gd s))) (r7 := some (.str (dg s))) (r9 := r9) (r10 := r10) (r13 := r13') (r14 := r14') (r15 := r15') (r16 := r16') (r17 := r17') (r18 := r18') (r19 := r19) (r20 := r20) (S := []) hs h30
  have E8 := bE_ok (sc := sc) (ds := ds) (tu := tu) (a := a) (s := s) (r4 := r4) (r5 := r5') (r8 := some (.lst ((BH s).map .str))) (r10 := r10) (r13 := r13') (r14 := r14') (r15 := r15') (r16 := r16') (r17 := r17') (r18 := r18') (r19 := r19) (r20 := r20) (S := []) h30
  obtain ⟨ρ9, E9, r10', rfl⟩ := for_seq_inv (o := o 7) (e := .var 9) (xs := (BL s).map .str) (i := 10) (S := []) (b := ckB) (ρ := EnvL sc ds tu s a r4 r5' (some (.str (Gd s))) (some (.str (dg s))) (some (.lst ((BH s).map .str))) (some (.lst ((BL s).map .str))) r10 r13' r14' r15' r16' r17' r18' r19 r20)
    (fun _ ρ => ∃ r10, ρ = EnvL sc ds tu s a r4 r5' (some (.str (Gd s))) (some (.str (dg s))) (some (.lst ((BH s).map .str))) (some (.lst ((BL s).map .str))) r10 r13' r14' r15' r16' r17' r18' r19 r20) (var_ok (i := 9) rfl) ⟨_, rfl⟩ (by
      rintro k x ρ hx ⟨r10, rfl⟩
      rw [List.getElem?_map] at hx
      obtain ⟨L, hL, rfl⟩ := Option.map_eq_some_iff.mp hx
      exact ⟨by show 10 < 21; decide, _, ck_ok hs h1 h30 hL, _, rfl⟩)
  refine ⟨_, ?_, some (.int (tu : Int)), r4, r5', some (.str (Gd s)), some (.str (dg s)), some (.lst ((BH s).map .str)), some (.lst ((BL s).map .str)), r10', some (.str s), some (.int (a : Int)), r13', r14', r15', r16', r17', r18', r19, r20, rfl⟩
  unfold tB
  exact seq_ok (asg2_ok E1 (by show 11 < 21; decide) (by show 12 < 21; decide)) (seq_ok (ifs_no E2) (seq_ok E3 (seq_ok (asg_ok E4 (by show 6 < 21; decide)) (seq_ok (asg_ok E5 (by show 7 < 21; decide)) (seq_ok (asg_ok E6 (by show 8 < 21; decide)) (seq_ok (asg_ok E7 (by show 9 < 21; decide)) (seq_ok (asg_ok E8 (by show 9 < 21; decide)) (last_ok E9))))))))
theorem cl_law (n : Nat) (a : PV) (S : Store) : callF fuel fns (n + 1) 16 [a] S = fin true S (evSs (o n) b_law (some a :: List.replicate 20 none) S) := rfl
theorem main (ns : List Int) (h : ns.length ≤ 63) : ∃ S', callF fuel fns depth 16 [.lst (ns.map fun z => .int z)] [] = .ok (.bl true) S' := by
  refine ⟨[], ?_⟩
  show callF fuel fns (7 + 1) 16 [.lst (ns.map .int)] [] = _
  rw [cl_law, law_src]
  obtain ⟨ds, hl, hd, e0⟩ := law_draws_eq 6 ns []
  have a1 : evS (o 7) (.asg (.nm 1) (.call 11 [.var 0, .lit (.int 60)])) (some (.lst (ns.map .int)) :: List.replicate 20 none) [] = .next (some (.lst (ns.map .int)) :: some (.lst (ds.map .int)) :: List.replicate 19 none) [] :=
    asg_ok (call_n (es2_ok (var_ok rfl) (con_ok _)) e0) (by simp)
  have a2 : evS (o 7) (.asg (.nm 2) (.lit (.str SIG))) (some (.lst (ns.map .int)) :: some (.lst (ds.map .int)) :: List.replicate 19 none) [] = .next (EnvT (.lst (ns.map .int)) ds none none none none none none none none none none none none none none none none none none) [] :=
    asg_ok (con_ok _) (by simp)
  obtain ⟨ρ1, a3, hT⟩ := for_inv (o := o 7) (e := .lit (.int 6)) (n := 6) (i := 3) (S := []) (b := tB) (ρ := EnvT (.lst (ns.map .int)) ds none none none none none none none none none none none none none none none none none none) (fun _ ρ => IsT (.lst (ns.map .int)) ds ρ) (con_ok _) (by decide) ⟨_, _, _, _, _, _, _, _, _, _, _, _, _, _, _, _, _, _, rfl⟩ (by
    rintro k ρ hk ⟨r3, r4, r5, r6, r7, r8, r9, r10, r11, r12, r13, r14, r15, r16, r17, r18, r19, r20, rfl⟩
    exact ⟨by show 3 < 21; decide, tB_ok hd hl hk⟩)
  have l1 : ρ1.length = 21 := by obtain ⟨_, _, _, _, _, _, _, _, _, _, _, _, _, _, _, _, _, _, rfl⟩ := hT; rfl
  obtain ⟨ρ2, a4, l2⟩ := s1_ok l1
  obtain ⟨ρ3, a5, l3⟩ := s2_ok l2
  obtain ⟨ρ4, a6, l4⟩ := s3_ok l3
  obtain ⟨ρ5, a7, l5⟩ := s4_ok l4
  rw [seq_ok a1 (seq_ok a2 (seq_ok a3 (seq_ok a4 (seq_ok a5 (seq_ok a6 (seq_ok a7 (seq_ok (ifs_no (c5_ok l5)) (seq_ok (ifs_no c6_ok) (last_ok (by rw [evS_ret, fE_ok, Out.toS_ok]))))))))))]
  exact fin_bl [] true
end
end K37

open PySem PySem.W PyProof.Rows
set_option maxHeartbeats 0 in
theorem PySem.Challenge.cw_maketrue_k37_lines_told_holds : PySem.Challenge.rw_maketrue_k37_lines_told.Holds := by
  w_on; o_law; k_head; (case hw => w_witness2)
  k_fill
  refine L2.walk_of (l := PySem.Challenge.rw_maketrue_k37_lines_told) (n := 63) (k := K37.depth + 2) (x := "script") (CX := fun w => L2.CX PySem.Challenge.pw_maketrue_k37_lines_told w) (sp := fun w => MK.lawSp _ K37.T.exs 1 (MK.callF K37.fuel K37.fns K37.depth 16)) rfl (by decide) rfl ⟨rfl, by decide, by decide⟩ (fun w h Y => PySem.W.kIn_of Y) ?F (fun w H a ns hl _ hS => MK.law_sp2 (K37.main ns hl) hS) (fun w H s e s' h => MK.cx_no h)
  case F =>
    intro w mg fa h KX G hmg
    refine' K37.top K37.fuel K37.depth KX G hmg (MK.dIn_of ?mka0 ?mkl0 ?mkc0 ?mkk0) (MK.dIn_of ?mka1 ?mkl1 ?mkc1 ?mkk1) (MK.dIn_of ?mka2 ?mkl2 ?mkc2 ?mkk2) (MK.dIn_of ?mka3 ?mkl3 ?mkc3 ?mkk3) (MK.dIn_of ?mka4 ?mkl4 ?mkc4 ?mkk4) (MK.dIn_of ?mka5 ?mkl5 ?mkc5 ?mkk5) (MK.dIn_of ?mka6 ?mkl6 ?mkc6 ?mkk6) (MK.dIn_of ?mka7 ?mkl7 ?mkc7 ?mkk7) (MK.dIn_of ?mka8 ?mkl8 ?mkc8 ?mkk8) (MK.dIn_of ?mka9 ?mkl9 ?mkc9 ?mkk9) (MK.dIn_of ?mka10 ?mkl10 ?mkc10 ?mkk10) (MK.dIn_of ?mka11 ?mkl11 ?mkc11 ?mkk11) (MK.dIn_of ?mka12 ?mkl12 ?mkc12 ?mkk12) (MK.dIn_of ?mka13 ?mkl13 ?mkc13 ?mkk13) (MK.dIn_of ?mka14 ?mkl14 ?mkc14 ?mkk14) (MK.dIn_of ?mka15 ?mkl15 ?mkc15 ?mkk15) (MK.dIn_of ?mka16 ?mkl16 ?mkc16 ?mkk16) (MK.gIn_int ?mkg0) (MK.gIn_str ?mkg1 ?mkh1) (MK.gIn_int ?mkg2) (MK.gIn_int ?mkg3) (MK.gIn_int ?mkg4) (MK.gIn_int ?mkg5) (MK.gIn_int ?mkg6) (MK.gIn_str ?mkg7 ?mkh7) ⟨?mkz0⟩ ⟨?mkz1⟩ ⟨?mkz2⟩ ⟨?mkz3⟩ ⟨?mkz4⟩ ⟨?mkz5⟩ ⟨?mkz6⟩ ⟨?mkz7⟩ ⟨?mkz8⟩ ⟨?mkz9⟩ ⟨?mkz10⟩ ⟨?mkz11⟩ ?mkxa ?mkxm
    (case mka0 => k_is); (case mkl0 => k_is); (case mkc0 => k_is); (case mkk0 => k_is)
    (case mka1 => k_is); (case mkl1 => k_is); (case mkc1 => k_is); (case mkk1 => k_is)
    (case mka2 => k_is); (case mkl2 => k_is); (case mkc2 => k_is); (case mkk2 => k_is)
    (case mka3 => k_is); (case mkl3 => k_is); (case mkc3 => k_is); (case mkk3 => k_is)
    (case mka4 => k_is); (case mkl4 => k_is); (case mkc4 => k_is); (case mkk4 => k_is)
    (case mka5 => k_is); (case mkl5 => k_is); (case mkc5 => k_is); (case mkk5 => k_is)
    (case mka6 => k_is); (case mkl6 => k_is); (case mkc6 => k_is); (case mkk6 => k_is)
    (case mka7 => k_is); (case mkl7 => k_is); (case mkc7 => k_is); (case mkk7 => k_is)
    (case mka8 => k_is); (case mkl8 => k_is); (case mkc8 => k_is); (case mkk8 => k_is)
    (case mka9 => k_is); (case mkl9 => k_is); (case mkc9 => k_is); (case mkk9 => k_is)
    (case mka10 => k_is); (case mkl10 => k_is); (case mkc10 => k_is); (case mkk10 => k_is)
    (case mka11 => k_is); (case mkl11 => k_is); (case mkc11 => k_is); (case mkk11 => k_is)
    (case mka12 => k_is); (case mkl12 => k_is); (case mkc12 => k_is); (case mkk12 => k_is)
    (case mka13 => k_is); (case mkl13 => k_is); (case mkc13 => k_is); (case mkk13 => k_is)
    (case mka14 => k_is); (case mkl14 => k_is); (case mkc14 => k_is); (case mkk14 => k_is)
    (case mka15 => k_is); (case mkl15 => k_is); (case mkc15 => k_is); (case mkk15 => k_is)
    (case mka16 => k_is); (case mkl16 => k_is); (case mkc16 => k_is); (case mkk16 => k_is)
    (case mkg0 => k_is)
    (case mkg1 => k_is); (case mkh1 => decide +kernel)
    (case mkg2 => k_is)
    (case mkg3 => k_is)
    (case mkg4 => k_is)
    (case mkg5 => k_is)
    (case mkg6 => k_is)
    (case mkg7 => k_is); (case mkh7 => decide +kernel)
    (case mkz0 => k_is)
    (case mkz1 => k_is)
    (case mkz2 => k_is)
    (case mkz3 => k_is)
    (case mkz4 => k_is)
    (case mkz5 => k_is)
    (case mkz6 => k_is)
    (case mkz7 => k_is)
    (case mkz8 => k_is)
    (case mkz9 => k_is)
    (case mkz10 => k_is)
    (case mkz11 => k_is)
    (case mkxa => kernel_rfl); (case mkxm => kernel_rfl)
